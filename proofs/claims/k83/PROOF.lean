import PyProof.Rows.All
import Wide.All
import OpenK.AllK
import Wide.FinOn
import KE.KStateDown
import HandS.ForMost
import HandS.Exc
import HandS.TryOnly
import HandS.ExcOwn
import HandS.WordsExc
import HandS.Defaults
import HandS.Wide
import HandS.IsInst
import HandS.ExcIs
import HandS.EndBits
import HandS.TupLe
import HandS.Rev
import HandS.Codes
import HandS.MakeKw
import HandS.StrMore
import HandS.Head0
import HandS.Head1
import HandS.Head2
import HandS.HeadEnd
import HandS.HeadHook1
import HandS.HeadHook2
import HandS.More
import HandS.ExcInit
import HandS.ExcField
import HandS.SortKw
import KE.KMinKey
import KE.KExcPX
import HandS.ExcValue
import HandS.Walk
import HandS.DictTup
import HandS.TupLen
import HandS.Conv
import KE.KDictWalk
import KE.KDictCopyH
import KE.KDictDisplayH
import KE.KDictOf
import KE.KDictKeyed
import HandS.Set
import HandS.SetTxt0
import HandS.Strs
import HandS.SetFor
import PySem.Challenge.RW_lampcues_k83_refused_lamps
set_option pp.maxSteps 900
set_option Elab.async false
set_option linter.all false
set_option maxRecDepth 100000
set_option maxHeartbeats 4000000
namespace L2
open PySem PySem.Spec PyProof.Rows
/-! ### own rules, own words -/
/-- a law's end by facts, with the script's bits and the only tracked thing told -/
theorem walk_ofEB {l : PySem.W.OpenLaw} {n k : Nat} {q : Program} {loose : List Str} {XP : (Str → Option Value) → Heap → Prop} {YP : World → Heap → Prop} {d : DefRec} {CX : CXT} {x : Str}
    (hn : l.most = some n) (hn2 : n ≤ sizeLine) (hdf : d.params.defaults = []) (hr : Room k callerA)
    (F : ∀ (w : World) (mg : Str → Option Value) (fa : Addr) (h : Heap), YP w h → h.Ns mainGlobals mg → mg d.name = some (.ref fa) →
      ∃ (K : PySem.W.Frag) (fd : FuncData) (sp : Sp), K.In h ∧ (∀ (s : Shared) (u : Value), BindsTo s fd ⟨[u], []⟩ [(x, u)]) ∧
        (∀ (H : Hp) (a : Addr) (ns : List Int), ns.length ≤ n → (∀ z ∈ ns, Builtin.Int.intBits z ≤ 1048576) → Only H → SqL K H a (ns.map V.int) → sp [.ref a] H (fun v _ => v = .bl true) fun _ _ _ => False) ∧
        ∀ base : Heap, K.In base → base.Ns mainGlobals mg → FnOk l.prog w K mg base CX k fa fd [x] sp)
    (hCX : ∀ (H : Hp) (s : Shared) (e : Value) (s' : Shared), CX [] H s (fun _ _ _ => False) e s' → False) :
    PySem.W.WalkO q loose XP YP l.row.toRowW d [] (fun f vs => PySem.call f vs) := by
  refine Att.attach_callB hn hdf fun w s₀ s₁ mg mb fa o pm cd doc a vs ns G Y ho hd hcd hmg hobj hints hlen hbits hg => ?_
  obtain ⟨K, fd, sp, KX, hb, hsp, hF⟩ := F w mg fa _ Y G.T.g hmg
  exact law_call KX G.T.g G.T.b G.T.builtins G.T.nolimit hg hobj hints (Nat.le_trans hlen hn2) hr hF hb (fun H hO hS => hsp H a ns hlen hbits hO hS) fun H e s' => hCX H s₁ e s'
section
variable {X : Cx}
/-- a written power -/
theorem pe_powC {i j v : Int} {a b : Nat} {p1 p2 pos : Pos} (e : i ^ j.toNat = v) (h : 0 ≤ j ∧ j ≤ 1000000 ∧ i.natAbs < 2 ^ 64) : PE X (.BinOp (.Constant (.int i) a p1) .Pow (.Constant (.int j) b p2) pos) (tC (.int v)) := by
  subst e
  refine ⟨fun pins s σ H Q I q => ?_⟩
  exact (pe_op (X := X) op_pow pe_int pe_int).run pins s σ H Q I ⟨i, j, rfl, rfl, h, q⟩
/-- a written negative number -/
theorem pe_negC {i : Int} {a : Nat} {p1 pos : Pos} : PE X (.UnaryOp .USub (.Constant (.int i) a p1) pos) (tC (.int (-i))) := by
  refine ⟨fun pins s σ H Q I q => ?_⟩
  exact (pe_un (X := X) un_neg pe_int).run pins s σ H Q I ⟨i, rfl, q⟩
end
theorem iteD {c A B : Prop} [Decidable c] (h1 : c → A) (h2 : ¬ c → B) : if decide c = true then A else B := by
  by_cases h : c
  · rw [if_pos (decide_eq_true h)]
    exact h1 h
  · rw [if_neg (by rw [decide_eq_false h]; exact Bool.false_ne_true)]
    exact h2 h
theorem iteND {c A B : Prop} [Decidable c] (h1 : ¬ c → A) (h2 : c → B) : if (!decide c) = true then A else B := by
  by_cases h : c
  · rw [decide_eq_true h]
    exact iteF (h2 h)
  · rw [decide_eq_false h]
    exact iteT (h1 h)
theorem iteV {a b : Int} {A B : Prop} (h1 : a = b → A) (h2 : a ≠ b → B) : if decide (V.int a = V.int b) = true then A else B :=
  iteD (fun e => h1 (V.int.inj e)) fun e => h2 fun q => e (congrArg V.int q)
theorem iteNV {a b : Int} {A B : Prop} (h1 : a ≠ b → A) (h2 : a = b → B) : if (!decide (V.int a = V.int b)) = true then A else B :=
  iteND (fun e => h1 fun q => e (congrArg V.int q)) fun e => h2 (V.int.inj e)
theorem iteB {b : Bool} {A B : Prop} (h1 : b = true → A) (h2 : b = false → B) : if b = true then A else B := by
  cases b with
  | true => exact iteT (h1 rfl)
  | false => exact iteF (h2 rfl)
theorem iteDT {c A B : Prop} [Decidable c] (h : c) (h1 : A) : if decide c = true then A else B := iteD (fun _ => h1) fun q => absurd h q
theorem iteDF {c A B : Prop} [Decidable c] (h : ¬ c) (h1 : B) : if decide c = true then A else B := iteD (fun q => absurd q h) fun _ => h1
theorem iteVT {a b : Int} {A B : Prop} (h : a = b) (h1 : A) : if decide (V.int a = V.int b) = true then A else B := iteV (fun _ => h1) fun q => absurd h q
theorem iteVF {a b : Int} {A B : Prop} (h : a ≠ b) (h1 : B) : if decide (V.int a = V.int b) = true then A else B := iteV (fun q => absurd q h) fun _ => h1
theorem iteNVF {a b : Int} {A B : Prop} (h : a = b) (h1 : B) : if (!decide (V.int a = V.int b)) = true then A else B := iteNV (fun q => absurd h q) fun _ => h1
theorem yes_lc {σ : St} {H : Hp} {A B : Hp → Prop} (h : A H) : tYes σ H (fun b H3 => if b = true then A H3 else B H3) := by
  show if true = true then A H else B H
  rw [if_pos rfl]
  exact h
theorem qT {Q : VK} {H : Hp} {c : Prop} [Decidable c] (h : c) (k : Q (.bl true) H) : Q (.bl (decide c)) H := by
  rw [decide_eq_true h]
  exact k
theorem qF {Q : VK} {H : Hp} {c : Prop} [Decidable c] (h : ¬ c) (k : Q (.bl false) H) : Q (.bl (decide c)) H := by
  rw [decide_eq_false h]
  exact k
theorem iteS {a b : List Nat} {z : Str} {A B : Prop} (e : z = SX.S b) (h1 : a = b → A) (h2 : a ≠ b → B) : if decide (V.str (SX.S a) = V.str z) = true then A else B := by
  subst e
  exact iteD (fun q => h1 (SX.S_inj (V.str.inj q))) fun q => h2 fun r => q (congrArg (fun l => V.str (SX.S l)) r)
theorem iteNSt {a b : List Nat} {z : Str} {A B : Prop} (e : z = SX.S b) (h1 : a ≠ b → A) (h2 : a = b → B) : if (!decide (V.str (SX.S a) = V.str z)) = true then A else B := by
  subst e
  exact iteND (fun q => h1 fun r => q (congrArg (fun l => V.str (SX.S l)) r)) fun q => h2 (SX.S_inj (V.str.inj q))
theorem cut_ints (ns : List Int) (lo hi : Option Int) : ∃ ms : List Int, cutV (ns.map V.int) lo hi = ms.map V.int ∧ ms.length ≤ ns.length ∧ ∀ z ∈ ms, z ∈ ns := by
  refine ⟨(ns.drop (HT.sIx (ns.map V.int).length 0 lo)).take (HT.sIx (ns.map V.int).length (ns.map V.int).length hi - HT.sIx (ns.map V.int).length 0 lo), ?_, ?_, ?_⟩
  · unfold cutV
    rw [List.map_take, List.map_drop]
  · rw [List.length_take, List.length_drop]
    omega
  · intro z hz
    exact List.mem_of_mem_drop (List.mem_of_mem_take hz)
theorem int_at {ns : List Int} {i : Nat} {y : V} (h : (ns.map V.int)[i]? = some y) : ∃ z, y = V.int z ∧ ns[i]? = some z ∧ i < ns.length := by
  rw [List.getElem?_map] at h
  cases e : ns[i]? with
  | none =>
    rw [e] at h
    cases h
  | some z =>
    rw [e] at h
    exact ⟨z, (Option.some.inj h).symm, rfl, (List.getElem?_eq_some_iff.mp e).1⟩
theorem atI_lt {xs : List V} {k : Int} (h0 : 0 ≤ k) (h1 : k < xs.length) : ∃ v, atI xs k = some v ∧ xs[k.toNat]? = some v := by
  have hl : k.toNat < xs.length := by omega
  refine ⟨xs[k.toNat], ?_, List.getElem?_eq_getElem hl⟩
  obtain ⟨n, rfl⟩ : ∃ n : Nat, k = n := ⟨k.toNat, by omega⟩
  exact atI_nat (List.getElem?_eq_getElem hl)
theorem at2 {a b k : Int} (h0 : 0 ≤ k) (h1 : k < 2) : ∃ v, atI [V.int a, V.int b] k = some (V.int v) ∧ ((k = 0 ∧ v = a) ∨ (k = 1 ∧ v = b)) := by
  rcases (by omega : k = 0 ∨ k = 1) with rfl | rfl
  · exact ⟨a, rfl, .inl ⟨rfl, rfl⟩⟩
  · exact ⟨b, rfl, .inr ⟨rfl, rfl⟩⟩
theorem at3 {a b c k : Int} (h0 : 0 ≤ k) (h1 : k < 3) : ∃ v, atI [V.int a, V.int b, V.int c] k = some (V.int v) ∧ ((k = 0 ∧ v = a) ∨ (k = 1 ∧ v = b) ∨ (k = 2 ∧ v = c)) := by
  rcases (by omega : k = 0 ∨ k = 1 ∨ k = 2) with rfl | rfl | rfl
  · exact ⟨a, rfl, .inl ⟨rfl, rfl⟩⟩
  · exact ⟨b, rfl, .inr (.inl ⟨rfl, rfl⟩)⟩
  · exact ⟨c, rfl, .inr (.inr ⟨rfl, rfl⟩)⟩
/-- a call that writes all parameters, the last ones by name -/
theorem kb_all {K : PySem.W.Frag} {x qual : Str} {params : Arguments} {body : List Stmt} {scope : Scope} {dvs : List V} {kws : List (Str × V)} {f : Addr} {fd : FuncData} {ps : List Str} (F : FunD K x qual params body scope dvs kws f fd) (n : Nat) (ks : List Str) (hd : dvs ≠ [])
    (h : ∀ (T : Addr) (kV doc pm : Value) (an : Option Addr) (cdv ct : Value) (us its ws : List Value), us.length = n → its.length = dvs.length → ws.length = ks.length →
      ∃ k, bindArgs (PySem.W.fnOf x qual params body scope (.ref T) kV doc pm an cdv ct) ⟨us, ks.zip ws⟩ = seqItems? (.ref T) >>= k ∧ k (some its.toArray) = pure (ps.zip (us ++ ws))) : KBn K fd ps n ks (fun us ws => us ++ ws) (fun vs zs => vs ++ zs) := by
  obtain ⟨oc, od, dV, kV, doc, pm, an, cdv, ct, osl, rfl, lk, hcd, hD, _⟩ := F.ex
  rcases hD with ⟨e, _⟩ | ⟨_, T, o, its, m, rfl, lT, oT, rT⟩
  · exact absurd e hd
  · refine ⟨fun s us ws X h1 h2 => ?_, fun r1 r2 => r1.append r2⟩
    obtain ⟨k, e1, e2⟩ := h T kV doc pm an cdv ct us its ws h1 rT.length.symm h2
    refine BindsTo.of_looks fun M => ?_
    rw [e1]
    exact looks_items X lT oT (.of_pure e2)
theorem FunD.fd_eq {K : PySem.W.Frag} {x qual : Str} {params : Arguments} {body : List Stmt} {scope : Scope} {dvs : List V} {kws : List (Str × V)} {f : Addr} {fd fd' : FuncData} (F : FunD K x qual params body scope dvs kws f fd) (F' : FunD K x qual params body scope dvs kws f fd') : fd = fd' := by
  obtain ⟨_, _, _, _, _, _, _, _, _, _, _, l, _⟩ := F.ex
  obtain ⟨_, _, _, _, _, _, _, _, _, _, _, l', _⟩ := F'.ex
  rw [l] at l'
  simp only [Option.some.injEq, Obj.mk.injEq, Data.func.injEq] at l'
  exact l'.2.2.1
theorem at4 {a b c d k : Int} (h0 : 0 ≤ k) (h1 : k < 4) : ∃ v, atI ([a, b, c, d].map V.int) k = some (V.int v) := by
  rcases (by omega : k = 0 ∨ k = 1 ∨ k = 2 ∨ k = 3) with rfl | rfl | rfl | rfl
  · exact ⟨a, rfl⟩
  · exact ⟨b, rfl⟩
  · exact ⟨c, rfl⟩
  · exact ⟨d, rfl⟩
theorem ints_last {es : List Int} {v : Int} (h : es.getLast? = some v) : atI (es.map V.int) (-1) = some (V.int v) := by
  obtain ⟨r, e⟩ := List.getLast?_eq_some_iff.mp h
  rw [e, List.map_append]
  exact atI_last _ _
/-- a loop over the signs of a text -/
theorem for_text {l : List Nat} {g : TG} {tb : TS} {D : Ends} {σ : St} {H : Hp} (Pv : Nat → St → Hp → Prop) (h0 : Pv 0 σ H)
    (hs : ∀ (i : Nat) (c : Nat) (σ : St) (H : Hp), l[i]? = some c → Pv i σ H → g (.str ⟨#[c]⟩) σ H (fun σ2 H2 => tb { D with nx := Pv (i + 1), ct := Pv (i + 1), bk := D.nx } σ2 H2))
    (hd : ∀ σ H, Pv l.length σ H → D.nx σ H) :
    ∃ W : Nat → Nat → St → Hp → Prop, (∃ m, W 0 m σ H) ∧ ∀ i m σ H, W i m σ H → ((Its (SX.S l)).stop i H ∧ D.nx σ H) ∨
      ((Its (SX.S l)).go i H ∧ ∃ N : St → Hp → Prop, (∀ σ' H', N σ' H' → ∃ m', m' < m ∧ W (i + 1) m' σ' H') ∧ ∀ v H', (Its (SX.S l)).yld i H v H' → g v σ H' fun σ2 H2 => tb { D with nx := N, ct := N, bk := D.nx } σ2 H2) := by
  refine ⟨fun i m σ H => m = l.length - i ∧ i ≤ l.length ∧ Pv i σ H, ⟨_, rfl, Nat.zero_le _, h0⟩, ?_⟩
  intro i m σ1 H1 hw
  obtain ⟨em, hi, p⟩ := hw
  have es : (SX.S l).cps.size = l.length := by simp
  rcases Nat.lt_or_ge i l.length with hlt | hge
  · right
    refine ⟨(by show i < (SX.S l).cps.size; omega), Pv (i + 1), fun σ' H' p' => ⟨l.length - (i + 1), by omega, rfl, by omega, p'⟩, ?_⟩
    intro v H' hy
    obtain ⟨e, c, hc, ev⟩ := hy
    rw [e, ev]
    refine hs i c σ1 H1 ?_ p
    have h2 : (SX.S l).cps[i]? = l[i]? := by simp
    rw [← h2]
    exact hc
  · left
    refine ⟨(by show (SX.S l).cps.size ≤ i; omega), hd σ1 H1 ?_⟩
    have e : i = l.length := by omega
    rw [← e]
    exact p
theorem atI_head {α : Type} (c : α) (r : List α) : atI (c :: r) 0 = some c := by
  show atI (c :: r) ((0 : Nat) : Int) = some c
  exact atI_nat rfl
theorem small_size {n : Nat} (h : n ≤ 100000) : n ≤ sizeLine := Nat.le_trans h (by decide)
theorem Same.new {H H' : Hp} {p : Addr} {o : HO} (e : Same H H') (h : H' p = none) : Same H (upd H' p o) := fun a u q => by
  rw [upd_ne (ne_of_none (e a u q) h)]
  exact e a u q
theorem Same.mut {H H' : Hp} {p : Addr} {o : HO} (e : Same H H') (h : H p = none) : Same H (upd H' p o) := fun a u q => by
  rw [upd_ne (ne_of_none q h)]
  exact e a u q
/-- o.m(e, .., k = v, ..) -/
def tMethN (C : Addr) (m : Str) (n j : Nat) (sp : Sp) (gV : List V → List V → List V) (E : XK) (ta : TE) (t tk : TA) : TE := fun σ H Q => ta σ H fun x H1 => ∃ a dx fs, x = .ref a ∧ H1 a = some (.ins C dx fs) ∧ fs.lookup m = none ∧
  t σ H1 fun vs H2 => tk σ H2 fun zs H3 => vs.length = n ∧ zs.length = j ∧ sp (gV (x :: vs) zs) H3 Q E
theorem pe_methN {X : Cx} {CX : CXT} {k n : Nat} {f C : Addr} {fd : FuncData} {ps ks : List Str} {sp : Sp} {E : XK} {m : Str} {o e : Expr} {es : List Expr} {kws : List Keyword} {apos pos : Pos} {ta : TE} {t tk : TA} {g : List Value → List Value → List Value} {gV : List V → List V → List V} {pl : Sem Bool}
    (he : PE X o ta) (c : Cls X.K C) (hm : Meth X.K C m f) (F : FnOk X.prog X.w X.K X.mg X.base CX k f fd ps sp) (hr : Room k X.A) (hb : KBn X.K fd ps (n + 1) ks g gV) (hx : Passes CX X E) (ha : PA X (e :: es) t) (hkw : PK X kws tk)
    (hall : (backToKw pos (keywordEach kws X.env)).all (·.1.isSome) = true := by rfl)
    (hks : (backToKw pos (keywordEach kws X.env)).filterMap (·.1) = ks := by rfl)
    (hst : starEach (e :: es) X.env = (false, eval e X.env) :: starEach es X.env := by rfl)
    (hpl : ((backTo pos (starEach (e :: es) X.env)).any (·.1) || (backToKw pos (keywordEach kws X.env)).any (·.1.isNone)) = false := by rfl)
    (ht : eval (.Call (.Attribute o m apos) (e :: es) kws pos) X.env = (do
      let ov ← eval o X.env
      standAt apos.atName
      let (f, first) ← holding [ov] (getMethod ov m pl)
      callWith pos f first (backTo pos (starEach (e :: es) X.env)) (backToKw pos (keywordEach kws X.env))) := by rfl) :
    PE X (.Call (.Attribute o m apos) (e :: es) kws pos) (tMethN C m n ks.length sp gV E ta t tk) := by
  constructor
  intro pins s σ H Q I hh
  apply PySem.W.methodCall_KW (pl := pl) (he := ht)
  apply thn (he.run pins s σ H _ I hh)
  rintro u s1 ⟨x, H1, I1, rx, a, dx, fs, rfl, ea, l, q⟩
  obtain rfl : u = Value.ref a := rx
  apply getmeth_ok I1 ea c hm l
  apply PySem.W.callWith_KW (first := [.ref a]) (h₀ := X.base) I.ok.mod.kin hm.kp hall (hplain := hpl) (he := hst)
  apply thn (ha.run pos pins s1 σ H1 _ I1 q)
  rintro us s2 ⟨vs, H2, I2, r, q2⟩
  apply thn (hkw.run pos pins s2 σ H2 _ I2 q2)
  rintro ws s3 ⟨zs, H3, I3, rz, l1, l2, q3⟩
  refine ⟨I3.kIn, ?_⟩
  rw [hks]
  exact run_fnN (us := .ref a :: us) (vs := .ref a :: vs) F hr hb hx I3 (.cons rfl r) rz (congrArg Nat.succ l1) l2 q3
theorem updN {H : Hp} {a b : Addr} {o u : HO} (h : b ≠ a) (e : H b = some u) : upd H a o b = some u := (upd_ne h).trans e
theorem neN {H : Hp} {a b : Addr} {u : HO} (h' : H b = none) (h : H a = some u) : a ≠ b := ne_of_none h h'
theorem neN2 {H : Hp} {a b : Addr} {u : HO} (h' : H a = none) (h : H b = some u) : a ≠ b := (ne_of_none h h').symm
theorem Same.at {H H' : Hp} {a : Addr} {u : HO} (s : Same H H') (e : H a = some u) : H' a = some u := s a u e
theorem Same.fresh {H H' : Hp} {a : Addr} (s : Same H H') (e : H' a = none) : H a = none := by
  cases h : H a with
  | none => rfl
  | some u =>
    rw [s a u h] at e
    cases e
theorem freshS {H H' : Hp} {a : Addr} (e : H' a = none) (s : Same H H') : H a = none := s.fresh e
/-! ### a head that asks one more thing of the written part -/
def obsY (n : Nat) (fa : List He.Fa) (fn : List He.DefD) (ex : PySem.W.Frag → Bool) (g : Addr → Option Obj) : He.AlD × Bool := (He.obsDG n fa fn g, ex (He.frG g (He.asD g n)))
def hookY (n : Nat) (fa : List He.Fa) (fn : List He.DefD) (ex : PySem.W.Frag → Bool) : PySem.W.Hook where
  α := He.AlD × Bool
  obs := fun s => obsY n fa fn ex s.heap.get?
  val := fun _ => (He.valD fn, true)
  says := fun _ h => ∃ K : PySem.W.Frag, K.In h ∧ He.SaysD fa fn K ∧ ex K = true
  of := fun _ _ e => ⟨_, He.frG_in, congrArg Prod.fst e, congrArg Prod.snd e⟩
  keeps := fun _ _ _ ⟨K, hK, c⟩ k => ⟨K, PySem.W.Frag.In.keeps hK k, c⟩
theorem obsY_eq {n : Nat} {fa : List He.Fa} {fn : List He.DefD} {ex : PySem.W.Frag → Bool} {g : Addr → Option Obj} {s : Shared} (h : ∀ a, g a = s.heap.get? a) : obsY n fa fn ex g = (hookY n fa fn ex).obs s := by
  have e : g = s.heap.get? := funext h
  rw [e]
  rfl
/-! ### what a class of errors must say, as one Bool -/
def excB (K : PySem.W.Frag) (x : Str) : Bool :=
  decide (PySem.W.findIn K (.ref (He.ga K x)) "__getattribute__" = some (some (.builtin "BaseException.__getattribute__"))) && (decide (PySem.W.findIn K (.ref (He.ga K x)) "__getattr__" = some none) &&
  (decide (PySem.W.subIn K (.ref (He.ga K x)) (.type "BaseException") = some true) && (PySem.W.hasDictIn K (He.ga K x) && (decide (PySem.W.findIn K (.ref (He.ga K x)) "__class__" = some (some (.builtin "object.__class__"))) &&
  (decide (PySem.W.specialIn K (.builtin "object.__class__") "__get__" = some (some (.builtin "getset_descriptor.__get__"))) && (decide (PySem.W.takesIn K (.builtin "object.__class__") = some true) && decide (PySem.W.mroIn K (He.ga K x) (.type "object") = some true)))))))
theorem excB_ok {K : PySem.W.Frag} {x : Str} (h : excB K x = true) : ExcC K (He.ga K x) := by
  obtain ⟨h1, h⟩ := He.ba h
  obtain ⟨h2, h⟩ := He.ba h
  obtain ⟨h3, h⟩ := He.ba h
  obtain ⟨h4, h⟩ := He.ba h
  obtain ⟨h5, h⟩ := He.ba h
  obtain ⟨h6, h⟩ := He.ba h
  obtain ⟨h7, h8⟩ := He.ba h
  exact ⟨of_decide_eq_true h1, of_decide_eq_true h2, of_decide_eq_true h3, h4, of_decide_eq_true h5, of_decide_eq_true h6, of_decide_eq_true h7, of_decide_eq_true h8⟩
/-- isinstance of what a suite holds, its class told by the reading -/
def rIsX (K : PySem.W.Frag) (cls : Value) (dc : Option Addr) (a : Addr) : List V → Hp → VK → Prop := fun xs H Q => ∃ D, cls = .ref D ∧ dc = none ∧ ExcC K D ∧ rIsE K D a xs H Q
theorem call_isX {X : Cx} {a : Addr} {cls : Value} {dc : Option Addr} {oe : Obj} {pn : List (Addr × Obj)} (hz : Zc cls dc oe) (hf : ∃ vs, oe.data = .fields vs) : CallR (X.suite a ((a, oe) :: pn)) (.builtin "isinstance") (rIsX X.K cls dc a) := by
  intro pins s σ H xs us Q I r h
  obtain ⟨D, e1, e2, C, q⟩ := h
  subst e1 e2
  exact call_isE C hz hf pins s σ H xs us Q I r q
end L2
/-! ### rules whose readings name the heap behind them -/
namespace L2
open PySem PySem.Spec PyProof.Rows
def Fr (H : Hp) (p : Addr) : Prop := H p = none
/-- all but a stays -/
def But (a : Addr) (H H' : Hp) : Prop := ∀ b u, b ≠ a → H b = some u → H' b = some u
theorem But.up {H : Hp} {a : Addr} {o : HO} : But a H (upd H a o) := fun b u n e => updN n e
theorem But.at {H H' : Hp} {a b : Addr} {u : HO} (m : But a H H') (n : b ≠ a) (e : H b = some u) : H' b = some u := m b u n e
theorem But.kind {H H' : Hp} {a b : Addr} {o u : HO} (m : But a H H') (h : H a = some o) (e : H b = some u) (d : u ≠ o) : H' b = some u := m b u (ne_of e h d) e
theorem But.trans {H H1 H' : Hp} {a : Addr} (m : But a H H1) (n : But a H1 H') : But a H H' := fun b u h e => n b u h (m b u h e)
theorem But.same {H H1 H' : Hp} {a : Addr} (m : But a H H1) (s : Same H1 H') : But a H H' := fun b u h e => s _ _ (m b u h e)
theorem But.before {H H1 H' : Hp} {a : Addr} (m : But a H1 H') (s : Same H H1) : But a H H' := fun b u h e => m b u h (s _ _ e)
theorem Same.thenBut {H H1 H' : Hp} {a : Addr} (s : Same H H1) (m : But a H1 H') : But a H H' := fun b u h e => m b u h (s _ _ e)
theorem Same.but {H H1 H' : Hp} {a : Addr} (s : Same H H1) (m : But a H1 H') (f : Fr H a) : Same H H' := fun b u e => m b u (ne_of_none e f) (s b u e)
/-- all but a and c stays -/
def But2 (a c : Addr) (H H' : Hp) : Prop := ∀ b u, b ≠ a → b ≠ c → H b = some u → H' b = some u
theorem But2.at {H H' : Hp} {a c b : Addr} {u : HO} (m : But2 a c H H') (n1 : b ≠ a) (n2 : b ≠ c) (e : H b = some u) : H' b = some u := m b u n1 n2 e
theorem But2.kind {H H' : Hp} {a c b : Addr} {o o' u : HO} (m : But2 a c H H') (h : H a = some o) (h' : H c = some o') (e : H b = some u) (d : u ≠ o) (d' : u ≠ o') : H' b = some u := m b u (ne_of e h d) (ne_of e h' d') e
theorem But2.refl {H : Hp} {a c : Addr} : But2 a c H H := fun _ _ _ _ e => e
theorem But.two {H H' : Hp} {a c : Addr} (m : But a H H') : But2 a c H H' := fun b u n _ e => m b u n e
theorem But.two' {H H' : Hp} {a c : Addr} (m : But a H H') : But2 c a H H' := fun b u _ n e => m b u n e
theorem Same.two {H H' : Hp} {a c : Addr} (s : Same H H') : But2 a c H H' := fun b u _ _ e => s b u e
theorem But2.trans {H H1 H' : Hp} {a c : Addr} (m : But2 a c H H1) (n : But2 a c H1 H') : But2 a c H H' := fun b u h1 h2 e => n b u h1 h2 (m b u h1 h2 e)
theorem But2.same {H0 H H' : Hp} {a c : Addr} (m : But2 a c H H') (s : Same H0 H) (f : Fr H0 a) (g : Fr H0 c) : Same H0 H' := fun b u e => m b u (ne_of_none e f) (ne_of_none e g) (s _ _ e)
theorem neF {H : Hp} {a b : Addr} {u : HO} (f : Fr H b) (e : H a = some u) : a ≠ b := ne_of_none e f
theorem neF2 {H : Hp} {a b : Addr} {u : HO} (f : Fr H a) (e : H b = some u) : a ≠ b := (ne_of_none e f).symm
theorem Fr.back {H H' : Hp} {p : Addr} (f : Fr H' p) (s : Same H H') : Fr H p := s.fresh f
/-- a new object -/
def New (o : HO) (H : Hp) (Q : VK) : Prop := ∀ (p : Addr) (H' : Hp), Fr H p → Same H H' → H' p = some o → Q (.ref p) H'
theorem New.out {o : HO} {H : Hp} {Q : VK} (h : New o H Q) (p : Addr) (hp : H p = none) : Q (.ref p) (upd H p o) := h p _ hp ((Same.refl H).new hp) upd_same
/-- the object at a is changed -/
def Put (a : Addr) (o : HO) (H : Hp) (Q : Hp → Prop) : Prop := ∀ H', But a H H' → H' a = some o → Q H'
theorem Put.out {a : Addr} {o : HO} {H : Hp} {Q : Hp → Prop} (h : Put a o H Q) : Q (upd H a o) := h _ But.up upd_same
section
variable {X : Cx} {pos : Pos}
def upE (t : TE) : TE := fun σ H Q => ∃ R : VK, t σ H R ∧ ∀ v H', R v H' → Q v H'
theorem PE.up {e : Expr} {t : TE} (h : PE X e t) : PE X e (upE t) := ⟨fun pins s σ H Q I ⟨R, r, k⟩ => thn (h.run pins s σ H R I r) fun u s1 ⟨v, H1, I1, rv, q⟩ => ⟨v, H1, I1, rv, k v H1 q⟩⟩
theorem PE.imp {e : Expr} {t t' : TE} (h : PE X e t) (k : ∀ σ H Q, t' σ H Q → t σ H Q) : PE X e t' := ⟨fun pins s σ H Q I q => h.run pins s σ H Q I (k σ H Q q)⟩
def upA (t : TA) : TA := fun σ H Q => ∃ R : List V → Hp → Prop, t σ H R ∧ ∀ v H', R v H' → Q v H'
theorem PA.up {es : List Expr} {t : TA} (h : PA X es t) : PA X es (upA t) := ⟨fun pos pins s σ H Q I ⟨R, r, k⟩ => thn (h.run pos pins s σ H R I r) fun u s1 ⟨v, H1, I1, rv, q⟩ => ⟨v, H1, I1, rv, k v H1 q⟩⟩
def upG (t : TG) : TG := fun v σ H Q => ∃ R : St → Hp → Prop, t v σ H R ∧ ∀ σ' H', R σ' H' → Q σ' H'
theorem PG.up {e : Expr} {t : TG} (h : PG X e t) : PG X e (upG t) := ⟨fun pins s σ H v u Q I rv ⟨R, r, k⟩ => thn (h.run pins s σ H v u R I rv r) fun _ s1 ⟨σ1, H1, I1, q⟩ => ⟨σ1, H1, I1, k σ1 H1 q⟩⟩
def upT (t : TT) : TT := fun σ H Q => ∃ R : Bool → Hp → Prop, t σ H R ∧ ∀ b H', R b H' → Q b H'
theorem PTs.up {es : List Expr} {t : TT} (h : PTs X es t) : PTs X es (upT t) := ⟨fun pins s σ H Q I ⟨R, r, k⟩ => thn (h.run pins s σ H R I r) fun b s1 ⟨H1, I1, q⟩ => ⟨H1, I1, k b H1 q⟩⟩
theorem PS.imp {st : Stmt} {t t' : TS} (h : PS X st t) (k : ∀ D σ H, t' D σ H → t D σ H) : PS X st t' := ⟨fun pins s σ H D I q => h.run pins s σ H D I (k D σ H q)⟩
theorem OpR.imp {f : Value → Value → Sem Value} {r r' : R2} (h : OpR X f r) (k : ∀ x y H Q, r' x y H Q → r x y H Q) : OpR X f r' := fun pins s σ H x y v u Q I rx ry q => h pins s σ H x y v u Q I rx ry (k x y H Q q)
theorem CallR.imp {f : Value} {r r' : List V → Hp → VK → Prop} (h : CallR X f r) (k : ∀ xs H Q, r' xs H Q → r xs H Q) : CallR X f r' := fun pins s σ H xs us Q I rx q => h pins s σ H xs us Q I rx (k xs H Q q)
theorem MtR.imp {id : String} {r r' : V → List V → Hp → VK → Prop} (h : MtR X id r) (k : ∀ x xs H Q, r' x xs H Q → r x xs H Q) : MtR X id r' := fun pins s σ H x xs v us Q I rx rs q => h pins s σ H x xs v us Q I rx rs (k x xs H Q q)
theorem SlR.imp {r r' : V → Option Int → Option Int → Hp → VK → Prop} (h : SlR X r) (k : ∀ x lo hi H Q, r' x lo hi H Q → r x lo hi H Q) : SlR X r' := fun pins s σ H x v vl vu lo hi sl Q I rx hs pl pu q => h pins s σ H x v vl vu lo hi sl Q I rx hs pl pu (k x lo hi H Q q)
def tLstK (t : TA) : TE := fun σ H Q => t σ H fun xs H1 => xs.length ≤ sizeLine ∧ New (.lst xs) H1 Q
theorem pe_lstK {es : List Expr} {t : TA} (h : PA X es t) : PE X (.List es pos) (tLstK t) := (pe_lst h.up).imp fun σ H Q q => ⟨_, q, fun xs H1 r => ⟨r.1, r.2.out⟩⟩
def tTupK (t : TA) : TE := fun σ H Q => t σ H fun xs H1 => xs.length ≤ sizeLine ∧ New (.tup xs) H1 Q
theorem pe_tupK {x1} {es : List Expr} {t : TA} (h : PA X es t) : PE X (.Tuple es x1 pos) (tTupK t) := (pe_tup h.up).imp fun σ H Q q => ⟨_, q, fun xs H1 r => ⟨r.1, r.2.out⟩⟩
def tDNewTK : TE := fun _ H Q => New (.dT []) H Q
theorem pe_dnewTK : PE X (.Dict [] [] pos) tDNewTK := pe_dnewT.imp fun σ H Q q => q.out
def tDNewKK : TE := fun _ H Q => New (.dK []) H Q
theorem pe_dnewKK : PE X (.Dict [] [] pos) tDNewKK := pe_dnewK.imp fun σ H Q q => q.out
def rCatK : R2 := fun x y H Q => ∃ l b xs zs, x = .ref l ∧ y = .ref b ∧ H l = some (.lst xs) ∧ H b = some (.lst zs) ∧ xs.length + zs.length ≤ sizeLine ∧ New (.lst (xs ++ zs)) H Q
theorem op_catK : OpR X (binaryOp .Add) rCatK := op_cat.imp fun x y H Q ⟨l, b, xs, zs, e1, e2, h1, h2, z, q⟩ => ⟨l, b, xs, zs, e1, e2, h1, h2, z, q.out⟩
def rRepK : R2 := fun x y H Q => ∃ l k xs, x = .ref l ∧ y = .int k ∧ H l = some (.lst xs) ∧ (-(2 ^ 63) ≤ k ∧ k < 2 ^ 63 ∧ xs.length * k.toNat ≤ sizeLine) ∧ New (.lst (List.replicate k.toNat xs).flatten) H Q
theorem op_repK : OpR X (binaryOp .Mult) rRepK := op_rep.imp fun x y H Q ⟨l, k, xs, e1, e2, h1, ⟨z1, z2, z3⟩, q⟩ => ⟨l, k, xs, e1, e2, h1, z1, z2, z3, q.out⟩
def rSlLK (K : PySem.W.Frag) : V → Option Int → Option Int → Hp → VK → Prop := fun x lo hi H Q => ∃ a xs, x = .ref a ∧ SqL K H a xs ∧ New (.lst (cutV xs lo hi)) H Q
theorem sl_listK : SlR X (rSlLK X.K) := sl_list.imp fun x lo hi H Q ⟨a, xs, e, h, q⟩ => ⟨a, xs, e, h, q.out⟩
def rAppK : V → List V → Hp → VK → Prop := fun x vs H Q => ∃ l xs y, x = .ref l ∧ vs = [y] ∧ H l = some (.lst xs) ∧ xs.length < sizeLine ∧ Put l (.lst (xs ++ [y])) H (Q .non)
theorem mt_appendK : MtR X "list.append" rAppK := MtR.imp mt_append fun x xs H Q ⟨l, ys, y, e1, e2, h, z, q⟩ => ⟨l, ys, y, e1, e2, h, z, q.out⟩
def rExtK : V → List V → Hp → VK → Prop := fun x vs H Q => ∃ l b xs zs, x = .ref l ∧ vs = [.ref b] ∧ H l = some (.lst xs) ∧ H b = some (.lst zs) ∧ xs.length + zs.length ≤ sizeLine ∧ Put l (.lst (xs ++ zs)) H (Q .non)
theorem mt_extendK : MtR X "list.extend" rExtK := MtR.imp mt_extend fun x xs H Q ⟨l, b, ys, zs, e1, e2, h, h2, z, q⟩ => ⟨l, b, ys, zs, e1, e2, h, h2, z, q.out⟩
def rPopLK : V → List V → Hp → VK → Prop := fun x vs H Q => ∃ l xs y, x = .ref l ∧ vs = [] ∧ H l = some (.lst xs) ∧ xs[xs.length - 1]? = some y ∧ Put l (.lst xs.dropLast) H (Q y)
theorem mt_popK : MtR X "list.pop" rPopLK := MtR.imp mt_pop fun x xs H Q ⟨l, ys, y, e1, e2, h, z, q⟩ => ⟨l, ys, y, e1, e2, h, z, q.out⟩
def rPopIK : V → List V → Hp → VK → Prop := fun x vs H Q => ∃ l xs i k y, x = .ref l ∧ vs = [.int i] ∧ H l = some (.lst xs) ∧ (-(2 ^ 63) ≤ i ∧ i < 2 ^ 63) ∧ seqIndex? i xs.length = some k ∧ xs[k]? = some y ∧ Put l (.lst (xs.eraseIdx k)) H (Q y)
theorem mt_popAtK : MtR X "list.pop" rPopIK := MtR.imp mt_popAt fun x xs H Q ⟨l, ys, i, k, y, e1, e2, h, z, h3, h4, q⟩ => ⟨l, ys, i, k, y, e1, e2, h, z.1, z.2, h3, h4, q.out⟩
def rClearK : V → List V → Hp → VK → Prop := fun x vs H Q => ∃ l xs, x = .ref l ∧ vs = [] ∧ H l = some (.lst xs) ∧ Put l (.lst []) H (Q .non)
theorem mt_clearK : MtR X "list.clear" rClearK := MtR.imp mt_clear fun x xs H Q ⟨l, ys, e1, e2, h, q⟩ => ⟨l, ys, e1, e2, h, q.out⟩
def rInsK : V → List V → Hp → VK → Prop := fun x vs H Q => ∃ l xs i y, x = .ref l ∧ vs = [.int i, y] ∧ H l = some (.lst xs) ∧ xs.length < sizeLine ∧ (0 ≤ i ∧ i < 2 ^ 63) ∧ Put l (.lst (xs.take i.toNat ++ [y] ++ xs.drop i.toNat)) H (Q .non)
theorem mt_insertK : MtR X "list.insert" rInsK := MtR.imp mt_insert fun x xs H Q ⟨l, ys, i, y, e1, e2, h, z, hi, q⟩ => ⟨l, ys, i, y, e1, e2, h, z, hi.1, hi.2, q.out⟩
def rSetK : V → V → V → Hp → (Hp → Prop) → Prop := fun o i v H Q => ∃ p xs k j, o = .ref p ∧ i = .int k ∧ H p = some (.lst xs) ∧ ixN xs.length k = some j ∧ Put p (.lst (xs.set j v)) H Q
theorem set_listK : PSet X rSetK := fun pins s σ H o i v ov iv u Q I ro ri rv ⟨p, xs, k, j, e1, e2, h, z, q⟩ => set_list pins s σ H o i v ov iv u Q I ro ri rv ⟨p, xs, k, j, e1, e2, h, z, q.out⟩
def rListK (K : PySem.W.Frag) : List V → Hp → VK → Prop := fun xs H Q => ∃ p ys, xs = [.ref p] ∧ (SqL K H p ys ∨ SqT K H p ys) ∧ New (.lst ys) H Q
theorem call_listK : CallR X (.type "list") (rListK X.K) := CallR.imp call_list_of fun xs H Q ⟨p, ys, e, h, q⟩ => ⟨p, ys, e, h, q.out⟩
def rDictDK : List V → Hp → VK → Prop := fun xs H Q => ∃ (a : Addr) (kvs : List (Key × V)), xs = [.ref a] ∧ H a = some (.dK kvs) ∧ New (.dK kvs) H Q
theorem call_dictDK : CallR X (.type "dict") rDictDK := CallR.imp call_dictD fun xs H Q ⟨a, kvs, e, h, q⟩ => ⟨a, kvs, e, .inl h, q.out⟩
def rListDK : List V → Hp → VK → Prop := fun xs H Q => ∃ (a : Addr) (kvs : List (Key × V)), xs = [.ref a] ∧ H a = some (.dK kvs) ∧ New (.lst (kvs.map fun kv => kV kv.1)) H Q
theorem call_listDK (hc : X.calm = true) : CallR X (.type "list") rListDK := CallR.imp (call_listD hc) fun xs H Q ⟨a, kvs, e, h, q⟩ => ⟨a, kvs, e, .inl h, q.out⟩
def rSlTK (K : PySem.W.Frag) : V → Option Int → Option Int → Hp → VK → Prop := fun x lo hi H Q => ∃ a xs, x = .ref a ∧ SqT K H a xs ∧ (cutV xs lo hi).length ≠ xs.length ∧ New (.tup (cutV xs lo hi)) H Q
def rDivK : List V → Hp → VK → Prop := fun xs H Q => ∃ i j, xs = [.int i, .int j] ∧ CDiv i j ∧ New (.tup [.int (i / j), .int (i % j)]) H Q
theorem call_divmodK : CallR X (.builtin "divmod") rDivK := CallR.imp call_divmod fun xs H Q ⟨i, j, e, h, q⟩ => ⟨i, j, e, h, q.out⟩
def rSplitK : V → List V → Hp → VK → Prop := fun x xs H Q => ∃ a b, x = .str a ∧ xs = [.str b] ∧ (b.length == 0) = false ∧ a.length + 2 ≤ sizeLine ∧ New (.lst ((Txt.split a b).map V.str)) H Q
theorem mt_splitK : MtR X "str.split" rSplitK := MtR.imp mt_split fun x xs H Q ⟨a, b, e1, e2, h1, h2, q⟩ => ⟨a, b, e1, e2, h1, h2, q.out⟩
/-- d[k] = v, the keys tuples -/
def sDPutTK (td ty tv : TE) : TS := fun D σ H => tv σ H fun v H1 => td σ H1 fun x H2 => ty σ H2 fun y H3 => ∃ a b kvs k, x = .ref a ∧ y = .ref b ∧ H3 a = some (.dT kvs) ∧ H3 b = some (.tup (k.map kV)) ∧ kvs.length < sizeLine ∧ Put a (.dT (putK kvs k v)) H3 (D.nx σ)
theorem ps_dputTK {o i value : Expr} {td ty tv : TE} {pos' : Pos} (hu : X.A.units + 1 < cLine) (ho : PE X o td) (hi : PE X i ty) (hv : PE X value tv) (hs : swapsWith value (some (.Subscript o i pos')) pos.line X.env = pure false) :
    PS X (.Assign [.Subscript o i pos'] value pos) (sDPutTK td ty tv) := by
  refine (ps_dput hu ho.up hi.up hv.up hs).imp fun D σ H q => ?_
  refine ⟨_, q, fun v H1 q1 => ⟨_, q1, fun x H2 q2 => ⟨_, q2, fun y H3 q3 => ?_⟩⟩⟩
  obtain ⟨a, b, kvs, k, e1, e2, h1, h2, z, r⟩ := q3
  exact ⟨a, _, e1, by rw [e2]; exact DPut.t h1 h2 z, r.out⟩
def sDPutKK (td ty tv : TE) : TS := fun D σ H => tv σ H fun v H1 => td σ H1 fun x H2 => ty σ H2 fun y H3 => ∃ a kvs k, x = .ref a ∧ y = kV k ∧ H3 a = some (.dK kvs) ∧ kvs.length < sizeLine ∧ Put a (.dK (putK kvs k v)) H3 (D.nx σ)
theorem ps_dputKK {o i value : Expr} {td ty tv : TE} {pos' : Pos} (hu : X.A.units + 1 < cLine) (ho : PE X o td) (hi : PE X i ty) (hv : PE X value tv) (hs : swapsWith value (some (.Subscript o i pos')) pos.line X.env = pure false) :
    PS X (.Assign [.Subscript o i pos'] value pos) (sDPutKK td ty tv) := by
  refine (ps_dput hu ho.up hi.up hv.up hs).imp fun D σ H q => ?_
  refine ⟨_, q, fun v H1 q1 => ⟨_, q1, fun x H2 q2 => ⟨_, q2, fun y H3 q3 => ?_⟩⟩⟩
  obtain ⟨a, kvs, k, e1, e2, h1, z, r⟩ := q3
  exact ⟨a, _, e1, by rw [e2]; exact DPut.k h1 z, r.out⟩
def sFldK (K : PySem.W.Frag) (ta tv : TE) (f : Str) : TS := fun D σ H => tv σ H fun y H1 => ta σ H1 fun x H2 => ∃ a C dx fs, x = .ref a ∧ H2 a = some (.ins C dx fs) ∧ Cls K C ∧ NoAttr K C f ∧ fs.length < 1000 ∧ ∃ fs', putF f y fs = fs' ∧ Put a (.ins C dx fs') H2 (D.nx σ)
theorem ps_fldK {o value : Expr} {ta tv : TE} {f : Str} {pos' : Pos} (ha : PE X o ta) (hv : PE X value tv) (hs : swapsWith value (some (.Attribute o f pos')) pos.line X.env = pure false) : PS X (.Assign [.Attribute o f pos'] value pos) (sFldK X.K ta tv f) := by
  refine (ps_fld ha.up hv.up hs).imp fun D σ H q => ?_
  refine ⟨_, q, fun y H1 q1 => ⟨_, q1, fun x H2 q2 => ?_⟩⟩
  obtain ⟨a, C, dx, fs, e1, h1, c, n, z, fs', e2, r⟩ := q2
  exact ⟨a, C, dx, fs, e1, h1, c, n, z, by rw [e2]; exact r.out⟩
def tMakeK (C : Addr) (sp : Sp) (dvs : List V) (E : XK) (t : TA) : TE := fun σ H Q => t σ H fun vs H1 => ∀ (x dx : Addr) (H2 : Hp), Fr H1 x → Same H1 H2 → H2 x = some (.ins C dx []) →
  sp (.ref x :: (vs ++ dvs)) H2 (fun v H3 => v = .non ∧ Q (.ref x) H3) E
theorem tMakeK.out {C : Addr} {sp : Sp} {dvs : List V} {E : XK} {t : TA} {σ : St} {H : Hp} {Q : VK} (q : tMakeK C sp dvs E t σ H Q) : tMake C sp dvs E (upA t) σ H Q := by
  refine ⟨_, q, fun vs H1 r x dx hx hdx ne => r x dx _ hx ?_ upd_same⟩
  exact ((Same.refl H1).new hdx).new (by rw [upd_ne ne.symm]; exact hx)
theorem pe_makeK {CX : CXT} {k : Nat} {C f : Addr} {fd : FuncData} {ps : List Str} {sp : Sp} {x : Str} {p : Pos} {ds : List Value} {dvs : List V} {E : XK} {e : Expr} {es : List Expr} {t : TA} (M : Mk X.K C f) (F : FnOk X.prog X.w X.K X.mg X.base CX k f fd ps sp) (hr : Room (k + 1) X.A) (hg : Gl X x) (hm : X.mg x = some (.ref C)) (hb : Binds X.K fd ps ds) (hd : Vals dvs ds) (hx : Passes CX X E)
    (ha : PA X (e :: es) t) (hdb : (x == ("__debug__" : Str)) = false := by decide) (he : starEach (e :: es) X.env = (false, eval e X.env) :: starEach es X.env := by rfl) (hpl : (backTo pos (starEach es X.env)).any (·.1) = false := by rfl) :
    PE X (.Call (.Name x p) (e :: es) [] pos) (tMakeK C sp dvs E t) := (pe_make M F hr hg hm hb hd hx ha.up hdb he hpl).imp fun σ H Q q => q.out
theorem pe_make0K {CX : CXT} {k : Nat} {C f : Addr} {fd : FuncData} {ps : List Str} {sp : Sp} {x : Str} {p : Pos} {ds : List Value} {dvs : List V} {E : XK} (M : Mk X.K C f) (F : FnOk X.prog X.w X.K X.mg X.base CX k f fd ps sp) (hr : Room (k + 1) X.A) (hg : Gl X x) (hm : X.mg x = some (.ref C)) (hb : Binds X.K fd ps ds) (hd : Vals dvs ds) (hx : Passes CX X E)
    (hdb : (x == ("__debug__" : Str)) = false := by decide) : PE X (.Call (.Name x p) [] [] pos) (tMakeK C sp dvs E tNil) := (pe_make0 M F hr hg hm hb hd hx hdb).imp fun σ H Q q x dx hx hdx ne => q x dx _ hx (((Same.refl H).new hdx).new (by rw [upd_ne ne.symm]; exact hx)) upd_same
end
/-! ### loops and comprehensions over them -/
section
variable {K : PySem.W.Frag} {a : Addr} {xs : List V} {g : TG} {tt : TT} {te : TE} {vs : List Nat} {σ : St} {H1 : Hp} {D : Addr} {Qd : Hp → Prop}
/-- one turn of a comprehension -/
def LcTurn (σ : St) (vs : List Nat) (g : TG) (tt : TT) (te : TE) (D : Addr) (x : V) (H : Hp) (P : Hp → Prop) : Prop :=
  g x (wipe σ vs) H fun σ2 H2 => wipe σ2 vs = wipe σ vs ∧ tt σ2 H2 fun b H3 => if b = true then te σ2 H3 fun y H4 => ∃ acc, H4 D = some (.lst acc) ∧ acc.length < sizeLine ∧ Put D (.lst (acc ++ [y])) H4 P else P H3
theorem LcTurn.out {x : V} {H : Hp} {P : Hp → Prop} (h : LcTurn σ vs g tt te D x H P) : upG g x (wipe σ vs) H fun σ2 H2 => wipe σ2 vs = wipe σ vs ∧ upT tt σ2 H2 fun b H3 =>
    if b = true then upE te σ2 H3 fun y H4 => ∃ acc, H4 D = some (.lst acc) ∧ acc.length < sizeLine ∧ P (upd H4 D (.lst (acc ++ [y]))) else P H3 := by
  refine ⟨_, h, fun σ2 H2 ⟨w, q⟩ => ⟨w, _, q, fun b H3 r => ?_⟩⟩
  cases b with
  | true =>
    rw [if_pos rfl] at r ⊢
    exact ⟨_, r, fun y H4 ⟨acc, h1, h2, h3⟩ => ⟨acc, h1, h2, h3.out⟩⟩
  | false =>
    rw [if_neg Bool.false_ne_true] at r ⊢
    exact r
theorem lcK_list (hD : H1 D = none) (Pv : Nat → Hp → Prop) (h0 : ∀ H', Fr H1 D → Same H1 H' → H' D = some (.lst []) → Pv 0 H') (hl : ∀ i H, i ≤ xs.length → Pv i H → SqL K H a xs) (hs : ∀ i x H, xs[i]? = some x → Pv i H → LcTurn σ vs g tt te D x H (Pv (i + 1))) (hd : ∀ H, Pv xs.length H → Qd H) :
    ∃ W : Nat → Nat → Hp → Prop, (∃ m, W 0 m (upd H1 D (.lst []))) ∧ ∀ i m H, W i m H →
      ((Itl K a).stop i H ∧ Qd H) ∨ ((Itl K a).go i H ∧ ∃ Nx : Hp → Prop, (∀ H', Nx H' → ∃ m', m' < m ∧ W (i + 1) m' H') ∧ ∀ x H', (Itl K a).yld i H x H' → upG g x (wipe σ vs) H' fun σ2 H2 => wipe σ2 vs = wipe σ vs ∧ upT tt σ2 H2 fun b H3 =>
        if b = true then upE te σ2 H3 fun y H4 => ∃ acc, H4 D = some (.lst acc) ∧ acc.length < sizeLine ∧ Nx (upd H4 D (.lst (acc ++ [y]))) else Nx H3) :=
  lc_list Pv (h0 _ hD ((Same.refl H1).new hD) upd_same) hl (fun i x H hx p => (hs i x H hx p).out) hd
theorem lcK_tup (hD : H1 D = none) (Pv : Nat → Hp → Prop) (h0 : ∀ H', Fr H1 D → Same H1 H' → H' D = some (.lst []) → Pv 0 H') (hl : ∀ i H, i ≤ xs.length → Pv i H → SqT K H a xs) (hs : ∀ i x H, xs[i]? = some x → Pv i H → LcTurn σ vs g tt te D x H (Pv (i + 1))) (hd : ∀ H, Pv xs.length H → Qd H) :
    ∃ W : Nat → Nat → Hp → Prop, (∃ m, W 0 m (upd H1 D (.lst []))) ∧ ∀ i m H, W i m H →
      ((Itt K a).stop i H ∧ Qd H) ∨ ((Itt K a).go i H ∧ ∃ Nx : Hp → Prop, (∀ H', Nx H' → ∃ m', m' < m ∧ W (i + 1) m' H') ∧ ∀ x H', (Itt K a).yld i H x H' → upG g x (wipe σ vs) H' fun σ2 H2 => wipe σ2 vs = wipe σ vs ∧ upT tt σ2 H2 fun b H3 =>
        if b = true then upE te σ2 H3 fun y H4 => ∃ acc, H4 D = some (.lst acc) ∧ acc.length < sizeLine ∧ Nx (upd H4 D (.lst (acc ++ [y]))) else Nx H3) :=
  lc_tup Pv (h0 _ hD ((Same.refl H1).new hD) upd_same) hl (fun i x H hx p => (hs i x H hx p).out) hd
theorem lcK_range {lo : Int} {n : Nat} (hD : H1 D = none) (Pv : Nat → Hp → Prop) (h0 : ∀ H', Fr H1 D → Same H1 H' → H' D = some (.lst []) → Pv 0 H') (hs : ∀ i H, i < n → Pv i H → LcTurn σ vs g tt te D (.int (lo + i)) H (Pv (i + 1))) (hd : ∀ H, Pv n H → Qd H) :
    ∃ W : Nat → Nat → Hp → Prop, (∃ m, W 0 m (upd H1 D (.lst []))) ∧ ∀ i m H, W i m H →
      ((Itr lo n).stop i H ∧ Qd H) ∨ ((Itr lo n).go i H ∧ ∃ Nx : Hp → Prop, (∀ H', Nx H' → ∃ m', m' < m ∧ W (i + 1) m' H') ∧ ∀ x H', (Itr lo n).yld i H x H' → upG g x (wipe σ vs) H' fun σ2 H2 => wipe σ2 vs = wipe σ vs ∧ upT tt σ2 H2 fun b H3 =>
        if b = true then upE te σ2 H3 fun y H4 => ∃ acc, H4 D = some (.lst acc) ∧ acc.length < sizeLine ∧ Nx (upd H4 D (.lst (acc ++ [y]))) else Nx H3) :=
  lc_range Pv (h0 _ hD ((Same.refl H1).new hD) upd_same) (fun i H hx p => (hs i H hx p).out) hd
/-- a new pair is unpacked into two names -/
theorem gTup2 {x y : V} {T : Addr} {t : TGs} {H : Hp} {Q : St → Hp → Prop} (hT : H T = none) (h : ∀ H', Same H H' → t [x, y] σ H' Q) : gTup K 2 t (.ref T) σ (upd H T (.tup [x, y])) Q :=
  ⟨T, _, rfl, .of upd_same, rfl, h _ ((Same.refl H).new hT)⟩
end
theorem ins_ne {C C' d d' : Addr} {fs gs : List (Str × V)} (h : fs.length ≠ gs.length) : HO.ins C d fs ≠ HO.ins C' d' gs := fun e => h (by
  injection e with _ _ e
  rw [e])
theorem lkE {a b : Str} {v : V} {r : List (Str × V)} (h : (b == a) = true) : ((a, v) :: r).lookup b = some v := by
  rw [List.lookup_cons, h]
theorem lkN {a b : Str} {v : V} {r : List (Str × V)} {o : Option V} (h : (b == a) = false) (q : r.lookup b = o) : ((a, v) :: r).lookup b = o := by
  rw [List.lookup_cons, h]
  exact q
theorem pfNil {f : Str} {v : V} : putF f v [] = [(f, v)] := rfl
theorem pfE {f g : Str} {v x : V} {r : List (Str × V)} (h : g = f) : putF f v ((g, x) :: r) = (g, v) :: r := if_pos h
theorem pfN {f g : Str} {v x : V} {r r' : List (Str × V)} (h : g ≠ f) (q : putF f v r = r') : putF f v ((g, x) :: r) = (g, x) :: r' := by
  rw [← q]
  exact if_neg h
theorem upd_self {H : Hp} {a : Addr} {o : HO} (h : H a = some o) : upd H a o = H := by
  funext b
  by_cases e : b = a
  · rw [e, upd_same, h]
  · rw [upd_ne e]
/-- a loop whose walk has nothing to give -/
theorem for_none {J : It} {g : TG} {tb : TS} {D : Ends} {σ : St} {H : Hp} (h : J.stop 0 H) (q : D.nx σ H) : ∃ W : Nat → Nat → St → Hp → Prop, (∃ m, W 0 m σ H) ∧ ∀ i m σ H, W i m σ H →
    (J.stop i H ∧ D.nx σ H) ∨ (J.go i H ∧ ∃ N : St → Hp → Prop, (∀ σ' H', N σ' H' → ∃ m', m' < m ∧ W (i + 1) m' σ' H') ∧ ∀ x H', J.yld i H x H' → g x σ H' fun σ2 H2 => tb { D with nx := N, ct := N, bk := D.nx } σ2 H2) := by
  refine ⟨fun i _ σ' H' => i = 0 ∧ σ' = σ ∧ H' = H, ⟨0, rfl, rfl, rfl⟩, ?_⟩
  rintro i m σ' H' ⟨rfl, rfl, rfl⟩
  exact .inl ⟨h, q⟩
theorem lc_none {J : It} {g : TG} {tt : TT} {te : TE} {vs : List Nat} {σ : St} {H1 : Hp} {D : Addr} {Qd : Hp → Prop} (h : J.stop 0 (upd H1 D (.lst []))) (q : Qd (upd H1 D (.lst []))) :
    ∃ W : Nat → Nat → Hp → Prop, (∃ m, W 0 m (upd H1 D (.lst []))) ∧ ∀ i m H, W i m H →
      (J.stop i H ∧ Qd H) ∨ (J.go i H ∧ ∃ Nx : Hp → Prop, (∀ H', Nx H' → ∃ m', m' < m ∧ W (i + 1) m' H') ∧ ∀ x H', J.yld i H x H' → g x (wipe σ vs) H' fun σ2 H2 => wipe σ2 vs = wipe σ vs ∧ tt σ2 H2 fun b H3 =>
        if b = true then te σ2 H3 fun y H4 => ∃ acc, H4 D = some (.lst acc) ∧ acc.length < sizeLine ∧ Nx (upd H4 D (.lst (acc ++ [y]))) else Nx H3) := by
  refine ⟨fun i _ H' => i = 0 ∧ H' = upd H1 D (.lst []), ⟨0, rfl, rfl⟩, ?_⟩
  rintro i m H' ⟨rfl, rfl⟩
  exact .inl ⟨h, q⟩
/-- an empty dict walked by its keys, under its lock -/
theorem lock_keys0 {td : TE} {g : TG} {tb : TS} {D : Ends} {σ : St} {H : Hp} {d : Addr} (hd : H d = some (.dK [])) (hv : ∀ od Q, Q (.ref d) (upd H d (.frz od (.dK []))) → td σ (upd H d (.frz od (.dK []))) Q) (q : D.nx σ H) : tLock (tFor (iKeys td) g tb) D σ H := by
  refine ⟨d, _, hd, trivial, fun od => hv od _ ⟨d, od, rfl, .inl ⟨[], upd_same, ?_⟩⟩⟩
  refine for_none ⟨upd_same, Nat.le_refl _⟩ ⟨upd_same, ?_⟩
  rw [upd_upd, upd_self hd]
  exact q
theorem lock_vals0 {td : TE} {g : TG} {tb : TS} {D : Ends} {σ : St} {H : Hp} {d : Addr} (hd : H d = some (.dK [])) (hv : ∀ od Q, Q (.ref d) (upd H d (.frz od (.dK []))) → td σ (upd H d (.frz od (.dK []))) Q) (q : D.nx σ H) : tLock (tFor (iVals td) g tb) D σ H := by
  refine ⟨d, _, hd, trivial, fun od => hv od _ ⟨d, od, [], rfl, upd_same, ?_⟩⟩
  refine for_none ⟨upd_same, Nat.le_refl _⟩ ⟨upd_same, ?_⟩
  rw [upd_upd, upd_self hd]
  exact q
theorem lock_lc0 {td te : TE} {g : TG} {tt : TT} {vs : List Nat} {σ : St} {H : Hp} {d : Addr} {Q : VK} (hd : H d = some (.dK [])) (hv : ∀ od Q, Q (.ref d) (upd H d (.frz od (.dK []))) → td σ (upd H d (.frz od (.dK []))) Q) (q : New (.lst []) H Q) : tLockE (tLc (iKeys td) g tt te vs) σ H Q := by
  refine ⟨d, _, hd, trivial, fun od => hv od _ ⟨d, od, rfl, .inl ⟨[], upd_same, fun D hD => ?_⟩⟩⟩
  have nd : D ≠ d := (ne_of_none upd_same hD).symm
  have hD0 : H D = none := by
    rw [upd_ne nd] at hD
    exact hD
  refine lc_none ⟨by rw [upd_ne nd.symm]; exact upd_same, Nat.le_refl _⟩ ⟨by rw [upd_ne nd.symm]; exact upd_same, ?_⟩
  have e : upd (upd (upd H d (.frz od (.dK []))) D (.lst [])) d (.dK []) = upd H D (.lst []) := by
    funext b
    by_cases e1 : b = d
    · rw [e1, upd_same, upd_ne nd.symm, hd]
    · rw [upd_ne e1]
      by_cases e2 : b = D
      · rw [e2, upd_same, upd_same]
      · rw [upd_ne e2, upd_ne e2, upd_ne e1]
  rw [e]
  exact q.out D hD0
theorem PT.up {X : Cx} {e : Expr} {t : TT} (h : PT X e t) : PT X e (upT t) := ⟨fun pins s σ H Q I ⟨R, r, k⟩ => thn (h.run pins s σ H R I r) fun b s1 ⟨H1, I1, q⟩ => ⟨H1, I1, k b H1 q⟩⟩
/-- a while, its turns counted down by W's number -/
theorem whileN {c : TT} {tb : TS} {D : Ends} {σ : St} {H : Hp} (W : Nat → St → Hp → Prop) (m0 : Nat) (h0 : W m0 σ H)
    (hs : ∀ m σ H, W m σ H → c σ H fun b H1 => if b = true then tb { D with nx := fun σ' H' => ∃ m', m' < m ∧ W m' σ' H', ct := fun σ' H' => ∃ m', m' < m ∧ W m' σ' H', bk := D.nx } σ H1 else D.nx σ H1) : tWhile (upT c) tb D σ H := by
  refine ⟨W, ⟨m0, h0⟩, fun m σ H w => ⟨_, hs m σ H w, fun b H1 q => ?_⟩⟩
  cases b with
  | true =>
    rw [if_pos rfl] at q ⊢
    exact ⟨_, fun σ' H' h => h, q⟩
  | false =>
    rw [if_neg Bool.false_ne_true] at q ⊢
    exact q
theorem PE.or {X : Cx} {e : Expr} {t u : TE} (h1 : PE X e t) (h2 : PE X e u) : PE X e (fun σ H Q => t σ H Q ∨ u σ H Q) := ⟨fun pins s σ H Q I q => q.elim (h1.run pins s σ H Q I) (h2.run pins s σ H Q I)⟩
theorem szlt {n : Nat} (h : n ≤ 100000) : n < sizeLine := Nat.lt_of_le_of_lt h (by decide)
section
variable {X : Cx} {CX : CXT} {k : Nat} {f : Addr} {fd : FuncData} {ps : List Str} {sp : Sp} {E : St → XK} {x : Str} {p pos : Pos} {e : Expr} {es : List Expr} {t : TA} {ds : List Value} {dvs : List V}
/-- a call in a try, the last parameters left out -/
theorem run_fnSd {pins : List (Addr × Obj)} {σ : St} {H : Hp} {s : Shared} {Q : VK} {us : List Value} {vs : List V} (F : FnOk X.prog X.w X.K X.mg X.base CX k f fd ps sp) (hr : Room k X.A) (hb : Binds X.K fd ps ds) (hd : Vals dvs ds) (hx : PassesAt CX X σ (E σ))
    (I : Inv X pins σ H s) (r : Vals vs us) (h : sp (vs ++ dvs) H Q (E σ)) : wpAny (model X.prog X.w) X.A (call (.ref f) us) (EP X pins σ Q) X.xe s := by
  have hl : us.length + ds.length = ps.length := by
    rw [← r.length, ← hd.length, ← List.length_append]
    exact F.len _ _ _ _ h
  refine wpAny_call (codeAny_mono (F.run X.A X.stack s H ⟨us, []⟩ (us ++ ds) (vs ++ dvs) Q (E σ) hr I.env0 (hb s us I.kIn (by first | exact hl | (rw [List.length_append]; exact hl))) (r.append hd) h) fun r s' hq => ?_)
  cases r with
  | error e => exact hx pins H s e s' I hq
  | ok fl =>
    cases fl with
    | ret u => exact I.after hq
    | next => exact False.elim hq
    | brk => exact False.elim hq
    | cont => exact False.elim hq
def tCallSd (sp : Sp) (dvs : List V) (E : St → XK) (t : TA) : TE := fun σ H Q => t σ H fun vs H1 => sp (vs ++ dvs) H1 Q (E σ)
theorem pe_callSd (F : FnOk X.prog X.w X.K X.mg X.base CX k f fd ps sp) (hr : Room k X.A) (hg : Gl X x) (hm : X.mg x = some (.ref f)) (hk : PySem.W.keepIn X.K (.ref f) = true) (hb : Binds X.K fd ps ds) (hd : Vals dvs ds) (hx : ∀ σ, PassesAt CX X σ (E σ))
    (ha : PA X (e :: es) t) (hdb : (x == ("__debug__" : Str)) = false := by decide) (he : starEach (e :: es) X.env = (false, eval e X.env) :: starEach es X.env := by rfl) (hpl : (backTo pos (starEach es X.env)).any (·.1) = false := by rfl) :
    PE X (.Call (.Name x p) (e :: es) [] pos) (tCallSd sp dvs E t) := by
  refine ⟨fun pins s σ H Q I h => ?_⟩
  refine wpAny_Call_Name_kw (ld_glob I hg hm ?_ hdb)
  refine PySem.W.callWith_K (h₀ := X.base) I.ok.mod.kin hk (thn (ha.run pos pins s σ H _ I h) fun us s1 ⟨vs, H1, I1, r, q⟩ => ⟨I1.kIn, ?_⟩) he hpl
  exact run_fnSd F hr hb hd (hx σ) I1 r q
def rCatTK (K : PySem.W.Frag) : R2 := fun x y H Q => ∃ a b xs ys, x = .ref a ∧ y = .ref b ∧ SqT K H a xs ∧ SqT K H b ys ∧ xs ≠ [] ∧ ys ≠ [] ∧ xs.length + ys.length ≤ sizeLine ∧ New (.tup (xs ++ ys)) H Q
theorem op_catTK : OpR X (binaryOp .Add) (rCatTK X.K) := OpR.imp op_catT fun x y H Q ⟨a, b, xs, ys, e1, e2, h1, h2, n1, n2, z, q⟩ => ⟨a, b, xs, ys, e1, e2, h1, h2, n1, z, fun e => absurd e n2, fun _ => q.out⟩
def rTupK (K : PySem.W.Frag) : List V → Hp → VK → Prop := fun xs H Q => ∃ p ys, xs = [.ref p] ∧ SqL K H p ys ∧ New (.tup ys) H Q
theorem call_tupleK : CallR X (.type "tuple") (rTupK X.K) := CallR.imp call_tuple_of fun xs H Q ⟨p, ys, e, h, q⟩ => ⟨p, ys, e, .inl ⟨h, q.out⟩⟩
end
end L2
/-! x in a tuple, by data -/
namespace L2
open PySem PySem.Spec PyProof.Rows
theorem units65 {k : Nat} {A : Around} (r : Room k A) : A.units + 65 < cLine := by
  have := r.un
  omega
section
variable {X : Cx}
/-- x in a tuple, both data -/
def rInTD (K : PySem.W.Frag) : R2 := fun x y H Q => ∃ p xs d ds, y = .ref p ∧ SqT K H p xs ∧ Dp K H x d ∧ DpAll K H xs ds ∧ SeqAt.shaped d = true ∧ SeqAt.shaped (.list ds) = true ∧ Q (.bl (ds.any fun z => PyData.eqv z d)) H
theorem op_inTD (hu : X.A.units + 65 < cLine) : OpR X (compareOp .In) (rInTD X.K) := by
  intro pins s σ H x y v u Q I rx ry h
  obtain ⟨p, xs, d, ds, rfl, hq, hx, hxs, sd, sl, q⟩ := h
  cases ry
  obtain ⟨bs, r1⟩ := Dp.reads I d x v hx rx
  obtain ⟨its, r, pl, hz⟩ := I.tuple hq
  obtain ⟨as, h4⟩ := Dp.readsAll I ds xs its hxs r
  have hc : PyData.canLayAll0 ds = true := SeqAt.canLay_of_shaped sl
  refine SeqAt.in_tupleAt (fun u => PyData.eqv (SeqAt.readOf s.heap u) d) pl (SeqAt.items_eqAt (vs := its.toArray) (show ReadsAll s.heap its.toArray.toList ds as from h4) r1 hc (SeqAt.canLay_of_shaped sd) (room_in_shaped sd hu)) ⟨.bl _, H, I, rfl, ?_⟩
  have e : its.toArray.any (fun u => PyData.eqv (SeqAt.readOf s.heap u) d) = ds.any fun z => PyData.eqv z d := by
    rw [← SeqAt.readsAll_map ds its as hc h4]
    simp [List.any_map, Function.comp_def]
  rw [e]
  exact q
end
end L2

/-! errors whose class has an __init__ of its own: made, asked by isinstance -/
namespace PySem.W
open PySem PySem.Spec PySem.Calls PyProof.Rows
theorem g94_found {K : Frag} {C : Addr} {od : Option Obj} {nm : Str} {at_ gt : Value} (c : (clsIn K C).isSome = true) (f : findIn K (.ref C) nm = some (some at_)) (g : specialIn K at_ "__get__" = some (some gt)) (t : takesIn K at_ = some true) : findObj K C od nm = some (.bind gt at_) := by
  cases hc : clsIn K C with
  | none =>
    rw [hc] at c
    cases c
  | some cd => simp [findObj, hc, f, g, t]
section
variable {prog : Program} {w : World} {A : Around} {E : Value → Shared → Prop} {K : Frag} {x D : Addr} {ox : Obj} {od : Option Obj}
theorem g94_isCls (C : L2.ExcC K D) : (clsIn K D).isSome = true := by
  obtain ⟨cd, hc, _⟩ := any_some C.hd
  rw [hc]
  rfl
/-- e.__class__ of such an error, whether it has its dict or not -/
theorem g94_class {Q : Option Value → Shared → Prop} {s : Shared} (C : L2.ExcC K D) (X : K.In s.heap) (J : InstAt s.heap x ox D od) (q : Q (some (.ref D)) { s with toks := s.toks + 1 }) :
    wpAny (model prog w) A (getAttr? (.ref x) "__class__") Q E s := by
  obtain ⟨hp, g, d, t, os⟩ := s
  have T0 := J.type (M := model prog w)
  have T1 := looks_findIn (M := model prog w) X C.hg
  have T2 := looks_findIn (M := model prog w) X C.hk
  have T3 := looks_find (M := model prog w) X J (g94_found (od := od) (g94_isCls C) C.ha C.hn C.ht)
  have bex : Looks (model prog w) hp (isInstance (.ref x) (.type "BaseException")) true := T0.andThen (looks_subIn X C.hs)
  have n1 : (Value.builtin "BaseException.__getattribute__" == Value.builtin "object.__getattribute__") = false := by decide +kernel
  have n2 : onTheHeap (Value.ref D) = true := by rfl
  unfold getAttr? getAttrBy? getAttrBy
  refine wpAny_bind (wpAny_mkText (wpAny_bind (wpAny_attempt (wpAny_holding (wpAny_bind (T0.at (wpAny_bind (T1.at ?_))))))))
  show wpAny _ _ (if (onTheHeap (Value.ref D) && Value.builtin "BaseException.__getattribute__" == Value.builtin "object.__getattribute__") = true then _ else _) _ _ _
  rw [n1, Bool.and_false, if_neg Bool.false_ne_true]
  unfold getAttrByItsOwn hookBefore
  refine wpAny_bind ?_
  rw [if_pos n2]
  refine T2.at ?_
  refine wpAny_bind (wpAny_attempt (wpAny_holding ?_))
  unfold callGetattribute
  rw [if_neg (show ¬ (false && onTheHeap (Value.builtin "BaseException.__getattribute__")) = true from Bool.false_ne_true)]
  unfold boundAndCalled
  rw [PySem.F.excAttr_ValueError.ga.bind (.ref x)]
  refine wpAny_bind (wpAny_pure (?_ : wpAny _ _ (call (.builtin "BaseException.__getattribute__") [.ref x, .str "__class__" t]) _ _ _))
  refine wpAny_call (codeAny_call_builtin PySem.F.excAttr_ValueError.ga.plain PySem.F.entry_bexc_ga (check_slot (i := "BaseException.__getattribute__") (owner := "BaseException") (n := "__getattribute__") (rest := [.str "__class__" t]) (by decide +kernel) (by decide +kernel) bex (PySem.F.args_bexc_ga (.ref x) (.str "__class__" t)) ?_))
  unfold Builtin.«object.__getattribute__»
  refine wpAny_bind (wpAny_of_eq (a := ((Value.ref x : Value), [Value.str "__class__" t])) (by first | rfl | (simp only [slotArgs]; rfl)) (wpAny_bind (wpAny_pure (wpAny_bind (T0.at (wpAny_bind (T3.at ?_)))))))
  show wpAny _ _ (holding [Value.builtin "object.__class__"] (call (.builtin "getset_descriptor.__get__") [.builtin "object.__class__", .ref x, .ref D]) >>= ret) _ _ _
  refine wpAny_bind (wpAny_holding (wpAny_call (class_get (s := ⟨hp, g, d, t + 1, os⟩) (ox := ox) (od := od) X J C.hm (wpAny_pure ?_))))
  show wpAny _ _ (handedOut (.ref D)) _ _ _
  rw [handedOut_of (v := .ref D) rfl]
  first
    | exact wpAny_pure (wpAny_pure q)
    | exact wpAny_pure q
    | exact wpAny_pure (wpAny_bind (wpAny_pure (wpAny_pure q)))
theorem g94_kit (C : L2.ExcC K D) : KitX K (.ref x) (.ref D) (fun h => ∃ od, InstAt h x ox D od) where
  ty := fun _ _ _ ⟨_, J⟩ => J.type
  it := fun _ _ X _ A' Q' E' s' k q => by
    obtain ⟨cd, hc, _⟩ := any_some C.hd
    unfold clsIn at hc
    split at hc
    · rename_i ho
      unfold isType loadHead
      exact wpAny_bind (wpAny_loadPart (k _ _ (X _ _ ho)) (wpAny_pure q))
    · cases hc
  ne := fun h tp dd its n sl X htp => Bool.eq_false_iff.mpr fun e => by
    obtain ⟨cd, hc, _⟩ := any_some C.hd
    obtain rfl : D = tp := Value.ref.inj (beq_iff_eq.mp e)
    unfold clsIn at hc
    split at hc
    · rename_i ho
      cases (X _ _ ho).symm.trans htp
    · cases hc
  ca := fun X ⟨_, J⟩ q => g94_class C X J q
end
end PySem.W
namespace L2
open PySem PySem.Spec PyProof.Rows
/-- isinstance(e, c), e the exception in the suite, with a dict -/
def rIsD (K : PySem.W.Frag) (cls : Value) (dc : Option Addr) (a : Addr) : List V → Hp → VK → Prop := fun xs H Q => ∃ (D dd : Addr) (fs : List (Str × V)), cls = .ref D ∧ dc = some dd ∧ ExcC K D ∧ H dd = some (.xd fs) ∧ rIsE K D a xs H Q
theorem call_isD {X : Cx} {a : Addr} {cls : Value} {dc : Option Addr} {oe : Obj} {pn : List (Addr × Obj)} (hz : Zc cls dc oe) (hf : ∃ vs, oe.data = .fields vs) : CallR (X.suite a ((a, oe) :: pn)) (.builtin "isinstance") (rIsD X.K cls dc a) := by
  intro pins s σ H xs us Q I r h
  obtain ⟨D, dd, fs, rfl, rfl, C, hd, c, cv, b, rfl, hcv, e, q⟩ := h
  obtain ⟨u, v, rfl, rx, rt⟩ := vals2 r
  obtain rfl : u = Value.ref a := rx
  obtain rfl := hcv _ rt
  obtain ⟨hget, _⟩ := I.pin (a, oe) (List.mem_append.mpr (.inl List.mem_cons_self))
  obtain ⟨vs, hv⟩ := hf
  obtain ⟨mA, hns, _⟩ : ObjOk X.prog X.w H s.heap dd (.xd fs) := I.hok dd _ hd
  obtain ⟨od, ho, _⟩ := lookIn_ns hns
  have J : ∃ od, PySem.W.InstAt s.heap a oe D od := ⟨some od, hget, hz.1, by unfold PySem.W.notCls; rw [hv] <;> rfl, by rw [hz.2]; exact ho⟩
  exact PySem.W.kia_one (PySem.W.g94_kit C) I.kIn J e (fun z => nomatch z) fun tk => ⟨.bl b, H, I.kept (t' := tk) fun _ _ z => z, rfl, q⟩
/-- what an own base's __init__ is -/
structure OwnI (K : PySem.W.Frag) (D : Addr) : Prop where
  rd : PySem.W.readsIn K D (.type "type") = true
  ga : PySem.W.specialIn K (.ref D) "__getattribute__" = some (some (.builtin "type.__getattribute__"))
  at_ : PySem.W.findCls K (.ref D) (.type "type") "__init__" = some (.val (.builtin "ValueError.__init__"))
def ownIB (K : PySem.W.Frag) (x : Str) : Bool := PySem.W.readsIn K (He.ga K x) (.type "type") && (decide (PySem.W.specialIn K (.ref (He.ga K x)) "__getattribute__" = some (some (.builtin "type.__getattribute__"))) && (match PySem.W.findCls K (.ref (He.ga K x)) (.type "type") "__init__" with
  | some (.val (.builtin n)) => n == "ValueError.__init__"
  | _ => false))
theorem ownIB_ok {K : PySem.W.Frag} {x : Str} (h : ownIB K x = true) : OwnI K (He.ga K x) := by
  obtain ⟨h1, h⟩ := He.ba h
  obtain ⟨h2, h3⟩ := He.ba h
  refine ⟨h1, of_decide_eq_true h2, ?_⟩
  split at h3
  · rename_i n e
    rw [e, beq_iff_eq.mp h3]
  · cases h3
section
variable {X : Cx} {e : Expr} {es : List Expr} {ta : TA} {x : Str} {D : Addr} {p1 p2 pos : Pos}
/-- B.__init__(self, ..), B an own class that takes ValueError's -/
theorem pe_ownInit {pl : Sem Bool} (T : OwnI X.K D) (hg : Gl X x) (hm : X.mg x = some (.ref D)) (ha : PA X (e :: es) ta) (hdb : (x == ("__debug__" : Str)) = false := by decide)
    (hc : eval (.Call (.Attribute (.Name x p1) "__init__" p2) (e :: es) [] pos) X.env = (do
      let ov ← eval (.Name x p1) X.env
      standAt p2.atName
      let (f, first) ← holding [ov] (getMethod ov "__init__" pl)
      callWith pos f first (backTo pos (starEach (e :: es) X.env)) (backToKw pos (keywordEach [] X.env))) := by rfl)
    (he : starEach (e :: es) X.env = (false, eval e X.env) :: starEach es X.env := by rfl) (hpl : (backTo pos (starEach es X.env)).any (·.1) = false := by rfl) :
    PE X (.Call (.Attribute (.Name x p1) "__init__" p2) (e :: es) [] pos) (tVeI X.K ta) := by
  constructor
  intro pins s σ H Q I h
  refine PySem.W.methodCall_KW (ld_glob I hg hm (PySem.W.method_cls I.kIn T.ga (PySem.W.cls_value I.kIn T.rd T.at_ (by decide +kernel) ?_)) hdb) hc
  show wpAny _ _ (callWith pos (Value.builtin "ValueError.__init__") [] (backTo pos (starEach (e :: es) X.env)) []) _ _ _
  refine PyProof.Rows.callWith_method1 (thn (ha.run pos pins _ σ H _ (I.tok _) h) fun us s1 ⟨vs, H1, I1, r1, a, C, ws, ev, hl, T1, ea, q⟩ => ?_) he hpl
  subst ev
  match us, r1 with
  | u0 :: ur, .cons ra rw' =>
    obtain rfl : u0 = Value.ref a := ra
    exact oinit_ok T1 I1 ea (by rw [← Paired.length rw', sizeLine_eq]; omega) fun s' J => ⟨.non, H1, J, rfl, q⟩
end
/-- what the written part must say of an error class with its own __init__ -/
def oexB (K : PySem.W.Frag) (x : Str) : Bool := (match K.lookup (He.ga K x) with
  | some ⟨.type "type", _, .cls cd, sl⟩ => (match cd.mro, sl.toList with
    | .ref c :: bm, [_, _, _, _, some (.builtin n), _] => c == He.ga K x && (n == "ValueError.__new__" && (cd.hasDict && (!cd.hasDel && PySem.HandSPX.refsVE bm)))
    | _, _ => false)
  | _ => false) && (decide (PySem.W.findIn K (.ref (He.ga K x)) "__setattr__" = some (some (.builtin "object.__setattr__"))) && (decide (PySem.W.subIn K (.ref (He.ga K x)) (.type "BaseException") = some true) &&
  (decide (PySem.W.typeIn K (.ref (He.ga K x)) = some (.type "type")) && PySem.W.keepIn K (.ref (He.ga K x)))))
theorem oexB_ok {K : PySem.W.Frag} {x : Str} (h : oexB K x = true) : OexC K (He.ga K x) := by
  obtain ⟨h1, h⟩ := He.ba h
  obtain ⟨h2, h⟩ := He.ba h
  obtain ⟨h3, h⟩ := He.ba h
  obtain ⟨h4, h5⟩ := He.ba h
  refine ⟨?_, of_decide_eq_true h2, of_decide_eq_true h3, of_decide_eq_true h4, h5⟩
  split at h1
  · rename_i dd cd sl ho
    split at h1
    · rename_i c bm k0 k1 k2 k3 n k5 hm hs
      obtain ⟨e1, h1⟩ := He.ba h1
      obtain ⟨e2, h1⟩ := He.ba h1
      obtain ⟨e3, h1⟩ := He.ba h1
      obtain ⟨e4, e5⟩ := He.ba h1
      obtain rfl := beq_iff_eq.mp e1
      obtain rfl := beq_iff_eq.mp e2
      obtain ⟨nm, bs, mro, ns, q, hd, sn, sub, ab, col, del⟩ := cd
      dsimp only at hm e3 e4
      subst hm e3
      obtain rfl : del = false := by
        cases del with
        | true => cases e4
        | false => rfl
      obtain ⟨l⟩ := sl
      dsimp only at hs
      subst hs
      exact ⟨nm, q, ns, bs, bm, sn, sub, ab, col, dd, k0, k1, k2, k3, k5, ho, e5⟩
    · cases h1
  · cases h1
end L2

/-! ### an exception that is kept behind its clause -/
namespace L2
open PySem PySem.Spec PyProof.Rows
/-- the exception at a, told of by its class and its dict -/
def excO (cls : Value) (d : Option Addr) (a : Addr) : HO := .ext fun h => ∃ oe : Obj, h.get? a = some oe ∧ Zc cls d oe ∧ ∃ vs, oe.data = .fields vs
/-- the ends of a suite that keeps what it caught -/
def keepEnds (D : Ends) (i : Nat) (a : Addr) (cls : Value) (d : Option Addr) : Ends :=
  { nx := fun σ' H' => H' a = none → D.nx (σ'.set i none) (upd H' a (excO cls d a)), rt := D.rt, bk := fun _ _ => False, ct := fun _ _ => False }
def wAsK (K : PySem.W.Frag) (c : Value) (i : Nat) (ts : Addr → Value → Option Addr → TS) (D : Ends) : WX := fun cls d σ H =>
  PySem.W.exmOne K cls c = some true ∧ ∀ a, H a = none → ts a cls d (keepEnds D i a cls d) (σ.set i (some (.ref a))) H
section
variable {X : Cx} {x n : Str} {c : Value} {i : Nat} {body suite : List Stmt} {b₀ : Stmt} {np pos pos' : Pos} {tb : WX → TS} {ts : Addr → Value → Option Addr → TS}
theorem ps_try_asK (hs : X.stack = X.env :: X.outer) (hf : X.env.frame = some X.env.locals) (hN : X.N.Nodup) (hi : X.N[i]? = some n) (hln : X.env.kindOf n = some .local) (hc : Names X x c)
    (hb : ∀ (W : WX) (pn : List (Addr × Obj)) (xe : Value → Shared → Prop), Takes (X.tr pn xe) W → PassesOwn (model X.prog X.w) X.A X.env xe → PSs (X.tr pn xe) body (tb W))
    (hsu : ∀ (a : Addr) (oe : Obj) (cls : Value) (d : Option Addr) (pn : List (Addr × Obj)), Zc cls d oe → (∃ vs, oe.data = .fields vs) → PSs (X.suite a ((a, oe) :: pn)) (b₀ :: suite) (ts a cls d)) :
    PS X (.Try body [.ExceptHandler (some (.Name x np)) (some n) (b₀ :: suite) pos'] [] [] pos) (fun D σ H => tb (wAsK X.K c i ts D) D σ H) := by
  constructor
  intro pins s σ H D I h
  have hfr : X.A.frames = some (X.env :: X.outer) := I.ok.frames.trans (congrArg some hs)
  apply wpAny_Try_except
  refine wpAny_mono (PSs.run (hb (wAsK X.K c i ts D) (X.pn ++ pins) (fun e s₁ => wpAny (model X.prog X.w) X.A (noteFrame e X.env) (fun _ s₂ => wpAny (model X.prog X.w) X.A (setFlight e none)
    (fun _ s₃ => wpAny (model X.prog X.w) X.A (handleBy e X.env [.ExceptHandler (some (.Name x np)) (some n) (b₀ :: suite) pos']) (SP X pins D) X.xe s₃) X.xe s₂) X.xe s₁) ?tk PassesOwn.looking) [] s σ H D (I.toTry _) h) ?fine fun _ _ z => z
  case fine =>
    intro f s1 q
    cases f
    case next =>
      obtain ⟨σ1, H1, J, r⟩ := q
      exact wpAny_execs_nil ⟨σ1, H1, J.ofTry I.ok, r⟩
    case brk =>
      obtain ⟨σ1, H1, J, r⟩ := q
      exact ⟨σ1, H1, J.ofTry I.ok, r⟩
    case cont =>
      obtain ⟨σ1, H1, J, r⟩ := q
      exact ⟨σ1, H1, J.ofTry I.ok, r⟩
    case ret u =>
      obtain ⟨v, σ1, H1, J, e, r⟩ := q
      exact ⟨v, σ1, H1, J.ofTry I.ok, e, r⟩
  case tk =>
    rintro u s1 ⟨a, B, sI, pins', σ1, H1, cls, d, rfl, J0, nb, up, sky, na, hos, hag, hx, q⟩
    have J1 : Inv X pins σ1 H1 sI := J0.ofTry I.ok
    have sk : Sky B (X.env :: X.outer) a (Zc cls d) X.env.locals s1.heap := hs ▸ (show Sky B X.stack a (Zc cls d) X.env.locals s1.heap from sky)
    refine Sky.land Zc.steady hfr hf sk fun h2 fly up2 => ?_
    have J2 : Inv X pins σ1 H1 { s1 with heap := h2 } := J1.landed nb fly.1 (up.trans up2) hos hag
    -- a is no record of the frames
    have nf : ∀ (h' : Heap) (o : Obj) (vs : Array Value), h'.FunFrames B (X.env :: X.outer) → h'.get? a = some o → o.data = .fields vs → a ∉ frs (X.env :: X.outer) := by
      intro h' o vs ff e1 e2 hm
      obtain ⟨_, o', e3, no⟩ := ff.mem hm
      cases e1.symm.trans e3
      exact no _ e2
    obtain ⟨o2, vs2, g2, z2, dt2⟩ := fly.there
    have nfr := nf h2 o2 vs2 fly.2.2.1 g2 dt2
    have nL : a ≠ X.env.locals := by
      rintro rfl
      exact nfr (List.mem_filterMap.mpr ⟨X.env, List.mem_cons_self, by rw [hf]⟩)
    have nF : a ∉ X.fs := by
      intro hm
      obtain ⟨e, he, q'⟩ := List.mem_filterMap.mp hm
      exact nfr (List.mem_filterMap.mpr ⟨e, List.mem_cons_of_mem _ he, q'⟩)
    have young : ∀ o, sI.heap.get? a ≠ some o := by
      intro o e
      have z := nb a o e (by rw [hs]; exact nfr)
      rw [fly.2.1] at z
      cases z
    refine PySem.PX.clause_asZ (Z := Zc cls d) (cls := cls) J2.kIn (fun o z => z.1) fly hx ?_ ?_
    · intro Q' E' q'
      obtain ⟨hg, hdbg, hm⟩ := hc
      have S2 := J2.suite g2 dt2 na nL nF
      rcases hm with hm | ⟨hm, hv, hnn⟩
      · exact ld_glob (X := X.suite a ((a, o2) :: (X.pn ++ pins))) S2 hg hm q' hdbg
      · exact ld_blt (X := X.suite a ((a, o2) :: (X.pn ++ pins))) S2 hg hm hv q' hnn hdbg
    intro h3 fly3 up3
    have J3 : Inv X pins σ1 H1 { s1 with heap := h3 } := J1.landed nb fly3.1 ((up.trans up2).trans up3) hos hag
    obtain ⟨o3, vs3, g3, z3, dt3⟩ := PySem.PX.FlyingZ.there fly3
    have S3 := J3.suite g3 dt3 na nL nF
    refine store_ok (X := X.suite a ((a, o3) :: (X.pn ++ pins))) (v := .ref a) S3 hN hi (.inl hln) rfl (fun s5 S5 => ?_) (.inr hln)
    refine wpAny_mono (PSs.run (hsu a o3 cls d (X.pn ++ pins) z3 ⟨_, dt3⟩) [] s5 _ H1 _ S5 (q a na)) ?_ fun _ _ z => z.elim
    intro f s6 r
    have last : ∀ {σ6 : St} {H6 : Hp} {Q : Shared → Prop}, Inv (X.suite a ((a, o3) :: (X.pn ++ pins))) [] σ6 H6 s6 → (H6 a = none → ∀ s7, Inv X pins (σ6.set i none) (upd H6 a (excO cls d a)) s7 → Inv X pins (σ6.set i none) H6 s7 → Q s7) →
        wpAny (model X.prog X.w) X.A (do bindName X.env n .none; unbindBehindTheSuite X.env n pos') (fun _ s7 => Q s7) X.xe s6 := by
      intro σ6 H6 Q S6 fin
      obtain ⟨p1, p2, p3, p4, p5⟩ := S6.pin (a, o3) (List.mem_append.mpr (.inl List.mem_cons_self))
      have J6 : Inv X ((a, o3) :: pins) σ6 H6 s6 := (S6.unsuite I.ok).pins_of (by
        intro p hp
        rcases List.mem_cons.mp hp with rfl | hp
        · exact ⟨p1, p2, p3, p4, p5⟩
        · exact S6.pin p (List.mem_append.mpr (.inl (List.mem_cons_of_mem _ (List.mem_append.mpr (.inr hp))))))
      refine gone_ok J6 hN hi hln fun s7 J7 => ?_
      obtain ⟨r1, r2, r3, r4, r5⟩ := J7.pin (a, o3) (List.mem_append.mpr (.inr List.mem_cons_self))
      have J8 : Inv X pins (σ6.set i none) H6 s7 := J7.pins_of fun p hp => J7.pin p (List.mem_append.mpr (.inr (List.mem_cons_of_mem _ hp)))
      have cne : ∀ y c', X.env.cells.lookup y = some c' → c' ≠ a := by
        rintro y c' e rfl
        obtain ⟨v, oc, g, dc⟩ := J7.cell y _ e
        rw [r1] at g
        cases g
        exact r5 _ dc
      have pne : ∀ p ∈ X.pn ++ pins, p.1 ≠ a := by
        rintro p hp rfl
        exact young _ (J1.pin p hp).1
      have old : ∀ b u, H6 b = some u → upd H6 a (excO cls d a) b = some u := fun b u e => updN (ne_of_none e r2) e
      refine fin r2 s7 ⟨J8.ok, J8.os, J8.bare, ⟨J8.base.keep, J8.base.slot, fun b o e e0 hex => ?_, J8.base.there, fun b xs e => old _ _ (J8.base.tups b xs e), fun b o u e => old _ _ (J8.base.frzs b o u e), fun b ps e => ?_⟩, J8.loc, J8.cell, ?_, fun y c' e => ?_, fun p hp => ?_, ?_, J8.len⟩ J8
      · have nb2 : b ≠ a := by
          rintro rfl
          obtain ⟨o1, e1⟩ := J1.base.there _ o e hex
          exact young o1 e1
        rw [upd_ne nb2]
        exact J8.base.free b o e e0 hex
      · obtain ⟨more, e2⟩ := J8.base.tbls b ps e
        exact ⟨more, old _ _ e2⟩
      · rw [upd_ne nL.symm]
        exact J8.free
      · rw [upd_ne (cne y c' e)]
        exact J8.freeC y c' e
      · obtain ⟨t1, t2, t3, t4, t5⟩ := J8.pin p hp
        exact ⟨t1, by rw [upd_ne (pne p hp)]; exact t2, t3, t4, t5⟩
      · refine HOk.laidN J8.hok (fun _ _ e => e) r2 ⟨⟨o3, r1, z3, _, dt3⟩, ⟨o3, r1⟩, ?_⟩
        rintro ha hb2 ⟨o, e, z, w⟩ st
        exact ⟨o, st o e, z, w⟩
    cases f
    case next =>
      obtain ⟨σ6, H6, S6, q6⟩ := r
      exact last S6 fun n6 s7 J7 _ => ⟨_, _, J7, q6 n6⟩
    case brk =>
      obtain ⟨σ6, H6, S6, q6⟩ := r
      exact q6.elim
    case cont =>
      obtain ⟨σ6, H6, S6, q6⟩ := r
      exact q6.elim
    case ret u =>
      obtain ⟨v6, σ6, H6, S6, r6, q6⟩ := r
      exact last S6 fun n6 s7 _ J7 => ⟨_, _, _, J7, r6, q6⟩
/-- isinstance of an exception that was kept -/
def rIsK (K : PySem.W.Frag) : List V → Hp → VK → Prop := fun xs H Q => ∃ (a D : Addr) (c : V) (cv : Value) (b : Bool), xs = [.ref a, c] ∧ H a = some (excO (.ref D) none a) ∧ ExcC K D ∧ (∀ u, RelV c u → u = cv) ∧ PySem.W.kitOne K (.ref D) cv = some b ∧ Q (.bl b) H
theorem call_isK : CallR X (.builtin "isinstance") (rIsK X.K) := by
  intro pins s σ H xs us Q I r h
  obtain ⟨a, D, c, cv, b, rfl, ha, C, hcv, e, q⟩ := h
  obtain ⟨u1, u2, rfl, r1, r2⟩ := vals2 r
  cases r1
  obtain rfl := hcv _ r2
  obtain ⟨⟨oe, g, z, vs, dt⟩, _⟩ := (show ObjOk X.prog X.w H s.heap a (excO (.ref D) none a) from I.hok a _ ha)
  have J : PySem.W.InstAt s.heap a oe D none := by
    obtain ⟨oc, od, oda, osl⟩ := oe
    obtain ⟨z1, z2⟩ := z
    cases z1
    cases z2
    cases dt
    exact ⟨g, rfl, rfl, trivial⟩
  exact PySem.W.kia_one (PySem.W.handS_kitx_exc C.hg C.hk C.hs C.hd C.ha C.hn C.ht C.hm) I.kIn J e (fun y => nomatch y) fun tk => ⟨.bl b, H, I.kept (t' := tk) fun _ _ y => y, rfl, q⟩
end
end L2

/-! exceptions with fields as values: kept behind their clause or just made (imports: KE.KExcPX, HandS.ExcValue, HandS.ExcInit, HandS.ExcField; behind t_exf, t_keep) -/
namespace L2
open PySem PySem.Spec PyProof.Rows
section
variable {X : Cx}
theorem excO_ok {P : Program} {w : World} {H : Hp} {h : Heap} {a : Addr} {cls : Value} {d : Option Addr} {oe : Obj} {vs : Array Value} (e : h.get? a = some oe) (z : Zc cls d oe) (dt : oe.data = .fields vs) : ObjOk P w H h a (excO cls d a) := by
  refine ⟨⟨oe, e, z, vs, dt⟩, ⟨oe, e⟩, ?_⟩
  rintro h1 h2 ⟨o, e1, z1, w1⟩ st
  exact ⟨o, st o e1, z1, w1⟩
/-- an exception made, as a value -/
def tExV (t : St → Hp → XK → Prop) : TE := fun σ H Q => t σ H fun cls d H1 => ∀ (a : Addr) (H2 : Hp), Fr H1 a → Same H1 H2 → H2 a = some (excO cls d a) → Q (.ref a) H2
theorem pe_exV {e : Expr} {t : St → Hp → XK → Prop} (he : PMk X e t) : PE X e (tExV t) := by
  refine ⟨fun pins s σ H Q I h => wpAny_mono (he pins s σ H _ I h) (fun u s2 m => ?_) fun _ _ x => x⟩
  obtain ⟨a, oe, vs, sI, H1, cls, d, rfl, J, k, hne, ha, hz, hd, _, na, hos, ag, _, q⟩ := m
  have K2 : Inv X pins σ (upd H1 a (excO cls d a)) { sI with heap := s2.heap, gens := s2.gens, drawn := s2.drawn, toks := s2.toks } :=
    J.call (ch := []) (Un.laidN k hne na) (J.hok.laidN k na (excO_ok ha hz hd)) ag (fun _ z => nomatch z)
  obtain ⟨b1, b2, b3, b4, b5⟩ := s2
  obtain rfl : b5 = sI.os := hos
  exact ⟨.ref a, _, K2, rfl, q a _ na ((Same.refl H1).new na) upd_same⟩
/-- a field of an exception that is held -/
def tXfK (K : PySem.W.Frag) (n : Str) (te : TE) : TE := fun σ H Q => te σ H fun x H1 => ∃ (a C dd : Addr) (fs : List (Str × V)) (v : V), x = .ref a ∧ H1 a = some (excO (.ref C) (some dd) a) ∧ XfC K C ∧ PySem.W.findIn K (.ref C) n = some none ∧ H1 dd = some (.xd fs) ∧ fs.lookup n = some v ∧ Q v H1
theorem pe_xfK {e : Expr} {te : TE} {pos : Pos} {n : Str} (he : PE X e te) (hb : attributeBase e n X.env (eval e X.env) = eval e X.env := by rfl) : PE X (.Attribute e n pos) (tXfK X.K n te) := by
  refine ⟨fun pins s σ H Q I h => attr_of hb (thn (he.run pins s σ H _ I h) fun u s1 hh => ?_)⟩
  obtain ⟨x, H1, I1, rx, a, C, dd, fs, v, ex, ea, T, hno, ed, l, q⟩ := hh
  subst ex
  obtain rfl : u = Value.ref a := rx
  obtain ⟨⟨oe, ha, hz, vs, hd⟩, _⟩ := (show ObjOk X.prog X.w H1 s1.heap a (excO (.ref C) (some dd) a) from I1.hok a _ ea)
  obtain ⟨mA, hns, hr⟩ := (show ObjOk X.prog X.w H1 s1.heap dd (.xd fs) from I1.hok dd _ ed)
  obtain ⟨od, ho, hl⟩ := lookIn_ns hns
  obtain ⟨u, hu, ru⟩ := RelO.some_of (v := v) (o := mA n) (by rw [← l]; exact hr n)
  have J : PySem.W.InstAt s1.heap a oe C (some od) := ⟨ha, hz.1, by unfold PySem.W.notCls; rw [hd] <;> rfl, by rw [hz.2]; exact ho⟩
  exact HandSPX.exc_get I1.kIn J T.ga T.gg T.exC (PySem.W.findObj_own T.hdC hno rfl (by rw [hl, hu])) (handed_of ru) ⟨v, H1, I1.tok _, ru, q⟩
/-- isinstance of an exception that is held, with a dict or without -/
def rIsKD (K : PySem.W.Frag) : List V → Hp → VK → Prop := fun xs H Q => ∃ (a D : Addr) (dc : Option Addr) (c : V) (cv : Value) (b : Bool), xs = [.ref a, c] ∧ H a = some (excO (.ref D) dc a) ∧ (∀ dd, dc = some dd → ∃ fs, H dd = some (.xd fs)) ∧ ExcC K D ∧ (∀ u, RelV c u → u = cv) ∧ PySem.W.kitOne K (.ref D) cv = some b ∧ Q (.bl b) H
theorem call_isKD : CallR X (.builtin "isinstance") (rIsKD X.K) := by
  intro pins s σ H xs us Q I r ⟨a, D, dc, c, cv, b, ex, ha, hdc, C, hcv, e, q⟩
  subst ex
  obtain ⟨u1, u2, rfl, r1, r2⟩ := vals2 r
  obtain rfl : u1 = Value.ref a := r1
  obtain rfl := hcv _ r2
  obtain ⟨⟨oe, g, z, vs, dt⟩, _⟩ := (show ObjOk X.prog X.w H s.heap a (excO (.ref D) dc a) from I.hok a _ ha)
  have J : ∃ od, PySem.W.InstAt s.heap a oe D od := by
    cases dc with
    | none => exact ⟨none, g, z.1, by unfold PySem.W.notCls; rw [dt] <;> rfl, by rw [z.2]; trivial⟩
    | some dd =>
      obtain ⟨fs, hd⟩ := hdc dd rfl
      obtain ⟨mA, hns, _⟩ := (show ObjOk X.prog X.w H s.heap dd (.xd fs) from I.hok dd _ hd)
      obtain ⟨od, ho, _⟩ := lookIn_ns hns
      exact ⟨some od, g, z.1, by unfold PySem.W.notCls; rw [dt] <;> rfl, by rw [z.2]; exact ho⟩
  exact PySem.W.kia_one (PySem.W.g94_kit C) I.kIn J e (fun y => nomatch y) fun tk => ⟨.bl b, H, I.kept (t' := tk) fun _ _ y => y, rfl, q⟩
end
end L2

/-! dicts with tuple keys: values() and items() walked, dict(d) and update of at most one key, a display of one key, pop, == of them (imports: HandS.Walk, HandS.DictTup, HandS.TupLen, HandS.Conv, KE.KDictWalk, KE.KDictCopyH, KE.KDictDisplayH) -/
namespace L2
open PySem PySem.Spec PyProof.Rows
section
variable {X : Cx} {pins : List (Addr × Obj)} {σ : St} {H : Hp} {s : Shared} {d : Addr} {o : Obj}
/-- the entries of a locked dict with tuple keys -/
theorem Inv.rawT {kvs : List (List Key × V)} (I : Inv X pins σ H s) (h : H d = some (.frz o (.dT kvs))) :
    (d == sysModules) = false ∧ ∃ (es : Array DictEntry) (ep : Nat), o.data = .dict es ep ∧ s.heap.DictRaw d es ep ∧ es.size = kvs.length ∧
      ∀ (i : Nat) (k : List Key) (v : V), kvs[i]? = some (k, v) → ∃ hi : i < es.size, ∃ q : Addr, es[i].key = .ref q ∧ H q = some (.tup (k.map kV)) ∧ RelV v es[i].val := by
  have x := I.hok d _ h
  obtain ⟨hd, z, hs, xs, pr, o', es, ep, ho, hx, hdt, he, hrest⟩ := x
  obtain rfl : o' = o := Option.some.inj (ho.symm.trans hd)
  have l1 : es.size = xs.length := size_of_entries he
  have l2 : kvs.length = xs.length := Paired.length pr
  refine ⟨hs, es, ep, hdt, ⟨o', hd, hx, hdt⟩, by omega, fun i k v e => ?_⟩
  obtain ⟨b, hb, e1, e2, e3⟩ := paired_get pr e
  have hi : i < es.size := by
    have := (List.getElem?_eq_some_iff.mp e).1
    omega
  have q := entry_at he i
  rw [hb, Array.getElem?_eq_getElem hi] at q
  have q2 : es[i] = _ := Option.some.inj q
  exact ⟨hi, b.2.1, by rw [q2]; rfl, e2, by rw [q2]; exact e3⟩
end
/-- the values, keys tuples -/
def ItdT (d : Addr) (o : Obj) (kvs : List (List Key × V)) : It :=
  ⟨fun i H => i < kvs.length ∧ H d = some (.frz o (.dT kvs)), fun i H x H' => (∃ k, kvs[i]? = some (k, x)) ∧ H' = H, fun i H => kvs.length ≤ i ∧ H d = some (.frz o (.dT kvs))⟩
/-- the pairs, keys tuples, each a new tuple -/
def ItiT (d : Addr) (o : Obj) (kvs : List (List Key × V)) : It :=
  ⟨fun i H => i < kvs.length ∧ H d = some (.frz o (.dT kvs)), fun i H x H' => ∃ (T : Addr) (k : List Key) (v : V) (q : Addr), kvs[i]? = some (k, v) ∧ x = .ref T ∧ H q = some (.tup (k.map kV)) ∧ H T = none ∧ H' = upd H T (.tup [.ref q, v]), fun i H => kvs.length ≤ i ∧ H d = some (.frz o (.dT kvs))⟩
section
variable {P : Program} {w : World} {K : PySem.W.Frag} {tg : Expr} {d : Addr} {o : Obj} {es : Array DictEntry} {ep : Nat}
theorem turn_valsT {kvs : List (List Key × V)} (it : Addr) (hod : o.data = .dict es ep) : Turn P w K tg (ItdT d o kvs) [it] it (fun i h => h.IsValIter it d i kvs.length ep) := by
  refine ⟨List.mem_singleton.mpr rfl, ?_, ?_, ?_, ?_, fun A i s Q E st q => wpAny_pyIter_valiter st q⟩
  · intro i h st b hb
    rw [List.mem_singleton.mp hb]
    obtain ⟨u, hu, _, du⟩ := st
    exact ⟨u, hu, fun v z => by rw [du] at z; cases z⟩
  · intro i h h' st k
    exact st.at fun u hu => k it (List.mem_singleton.mpr rfl) u hu
  · intro X eP ew eK hc i pins s σ H E I hf st hg
    subst eP ew eK
    obtain ⟨f0, f1, f2, f3, f4, f5⟩ := hf it (List.mem_singleton.mpr rfl)
    obtain ⟨hsm, es2, ep2, hdt, raw, hsz, ent⟩ := I.rawT hg.2
    obtain ⟨rfl, rfl⟩ := dict_ep hod hdt
    obtain ⟨kv, hkv⟩ : ∃ p, kvs[i]? = some p := ⟨_, List.getElem?_eq_getElem hg.1⟩
    obtain ⟨hi, q, _, _, ru⟩ := ent i kv.1 kv.2 hkv
    rw [← hsz] at st
    refine wpAny_pyNext_values_item_raw st raw hi fun h' st2 sb => ?_
    have J : Inv X pins σ H { s with heap := h' } := I.turned (t' := s.toks) (fun b u nb e => (sb.2 b nb).trans e) f0 f1 f3 f4 f5
    rw [hsz] at st2
    obtain ⟨u, hu, cu, du⟩ := id st2
    exact ⟨_, rfl, go_of (s := { s with heap := h' }) hu cu du (by decide) ⟨kv.2, H, J, ru, ⟨⟨kv.1, hkv⟩, rfl⟩, st2, fun b hb => (hf b hb).1⟩⟩
  · intro X eP ew eK hc i pins s σ H E I hf st hg
    subst eP ew eK
    obtain ⟨f0, f1, f2, f3, f4, f5⟩ := hf it (List.mem_singleton.mpr rfl)
    obtain ⟨hsm, es2, ep2, hdt, raw, hsz, ent⟩ := I.rawT hg.2
    obtain ⟨rfl, rfl⟩ := dict_ep hod hdt
    rw [← hsz] at st
    exact wpAny_pyNext_values_end_raw (I.ok.hd hc) st raw (by rw [hsz]; exact hg.1) fun h' eb => ⟨rfl, I.turned (t' := s.toks) (fun b u nb e => eb b u nb e) f0 f1 f3 f4 f5⟩
theorem turn_itemsT {kvs : List (List Key × V)} {elts : List Expr} {kk : Nat} {tpos : Pos} (it : Addr) (hod : o.data = .dict es ep) :
    Turn P w K (.Tuple elts kk tpos) (ItiT d o kvs) [it] it (fun i h => ∃ ok ov, IsItemIter h it d i kvs.length ep ok ov) := by
  refine ⟨List.mem_singleton.mpr rfl, ?_, ?_, ?_, ?_, fun A i s Q E ⟨_, _, st⟩ q => PySem.W.kcp_self st q⟩
  · rintro i h ⟨ok, ov, st⟩ b hb
    rw [List.mem_singleton.mp hb]
    exact ⟨_, st, fun v z => nomatch z⟩
  · rintro i h h' ⟨ok, ov, st⟩ k
    exact ⟨ok, ov, k it (List.mem_singleton.mpr rfl) _ st⟩
  · intro X eP ew eK hc i pins s σ H E I hf st hg
    subst eP ew eK
    obtain ⟨hsm, es2, ep2, hdt, raw, hsz, ent⟩ := I.rawT hg.2
    obtain ⟨rfl, rfl⟩ := dict_ep hod hdt
    obtain ⟨kv, hkv⟩ : ∃ p, kvs[i]? = some p := ⟨_, List.getElem?_eq_getElem hg.1⟩
    obtain ⟨hi, q, hk, hq, ru⟩ := ent i kv.1 kv.2 hkv
    obtain ⟨ok, ov, st⟩ := st
    rw [← hsz] at st
    have hlt : it < s.heap.objs.size := Heap.lt_size st
    refine wpAny_pyNext_items_item_raw st raw hi fun h' out hT hz keep => ?_
    refine ⟨_, rfl, wpAny_letOwnedTupleGo_items (s := { s with heap := h' }) out fun h2 st2 sb => ?_⟩
    have hT2 : h2.get? s.heap.objs.size = some { cls := .type "tuple", data := .seq #[es2[i].key, es2[i].val] } := (sb.2 _ (Nat.ne_of_gt hlt)).trans hT
    have ob : ObjOk X.prog X.w (upd H s.heap.objs.size (.tup [.ref q, kv.2])) h2 s.heap.objs.size (.tup [.ref q, kv.2]) := by
      refine ⟨by show 2 ≤ sizeLine; decide, [es2[i].key, es2[i].val], .cons ?_ (.cons ru .nil), ⟨_, hT2, rfl, _, rfl⟩⟩
      rw [hk] <;> rfl
    have J : Inv X pins σ (upd H s.heap.objs.size (.tup [.ref q, kv.2])) { s with heap := h2 } :=
      I.turnedNew (t' := s.toks) (ch := [it]) (fun b u nb e => (sb.2 b (fun z => nb (List.mem_singleton.mpr z))).trans (keep b u (fun z => nb (List.mem_singleton.mpr z)) e)) hf (Nat.le_refl _) ob
    refine ⟨.ref s.heap.objs.size, _, J, rfl, ⟨_, kv.1, kv.2, q, hkv, rfl, hq, I.hok.fresh (Nat.le_refl _), rfl⟩, ⟨es2[i].key, es2[i].val, by rw [← hsz]; exact st2⟩, fun b hb => ?_⟩
    rw [List.mem_singleton.mp hb, upd_ne (Nat.ne_of_lt hlt)]
    exact (hf it (List.mem_singleton.mpr rfl)).1
  · intro X eP ew eK hc i pins s σ H E I hf st hg
    subst eP ew eK
    obtain ⟨f0, f1, f2, f3, f4, f5⟩ := hf it (List.mem_singleton.mpr rfl)
    obtain ⟨hsm, es2, ep2, hdt, raw, hsz, ent⟩ := I.rawT hg.2
    obtain ⟨rfl, rfl⟩ := dict_ep hod hdt
    obtain ⟨ok, ov, st⟩ := st
    rw [← hsz] at st
    exact wpAny_pyNext_items_end_raw (I.ok.hd hc) st raw (by rw [hsz]; exact hg.1) fun h' eb => ⟨rfl, I.turned (t' := s.toks) (fun b u nb e => eb b u nb e) f0 f1 f3 f4 f5⟩
end
def iValsT (td : TE) : TI := fun σ H R => td σ H fun x H1 => ∃ d o kvs, x = .ref d ∧ H1 d = some (.frz o (.dT kvs)) ∧ R (ItdT d o kvs) H1
def iItemsT (td : TE) : TI := fun σ H R => td σ H fun x H1 => ∃ d o kvs, x = .ref d ∧ H1 d = some (.frz o (.dT kvs)) ∧ R (ItiT d o kvs) H1
section
variable {X : Cx} {tg e : Expr} {td : TE} {apos cpos : Pos}
theorem pi_valuesT (he : PE X e td) (hbase : attributeBase e "values" X.env (eval e X.env) = eval e X.env := by rfl) (hline : (apos.endLine == cpos.line) = true := by rfl) :
    PI X tg (.Call (.Attribute e "values" apos) [] [] cpos) (iValsT td) := by
  refine ⟨fun pins s σ H R I h => wpAny_Call_method (T := "dict") (id := "dict.values") hbase rfl hline F.plainAttrs_dict F.slot_dict_values F.type_dict_values (thn (he.run pins s σ H _ I h) fun u s1 ⟨x, H1, I1, rx, d, o, kvs, ex, hd, q⟩ => ?_)⟩
  subst ex
  obtain rfl : u = Value.ref d := rx
  obtain ⟨hsm, es, ep, hdt, raw, hsz, ent⟩ := I1.rawT hd
  obtain ⟨o1, e1, c1, d1⟩ := id raw
  refine ⟨raw.typeIs, fun b eb => ?_, ?_⟩
  · cases eb
    exact ⟨o1, e1, c1.2.1⟩
  have J : Inv X pins σ H1 { s1 with heap := s1.heap.push { cls := .type "dict_values", data := .fields #[.ref d] } } := I1.kept (t' := s1.toks) fun b ob e => Heap.get?_push_of_some _ e
  have raw2 : (s1.heap.push { cls := .type "dict_values", data := .fields #[.ref d] }).DictRaw d es ep := raw.at fun ob e => Heap.get?_push_of_some _ e
  have fin : wpAny (model X.prog X.w) X.A (pyIter (.ref s1.heap.objs.size)) (PIE X pins σ tg R) X.xe { s1 with heap := s1.heap.push { cls := .type "dict_values", data := .fields #[.ref d] } } := by
    refine wpAny_pyIter_values_raw (d := d) ⟨_, Heap.get?_push_size _ rfl, rfl, rfl⟩ raw2 (pi_one (tk := s1.toks) J _ (turn_valsT _ hdt) ⟨_, Heap.get?_push_size _ rfl, rfl, ?_⟩ q)
    rw [hsz] <;> rfl
  exact method_meetsIn F.slot_dict_values F.entry_dict_values rfl (PySem.evalArgs_none ⟨rfl, raw.typeIs, F.args_dict_values_1 _, _, meets_dict_values_raw d hsm, ⟨es, ep, raw⟩, fin⟩)
theorem pi_itemsT {elts : List Expr} {kk : Nat} {tpos : Pos} (he : PE X e td) (hbase : attributeBase e "items" X.env (eval e X.env) = eval e X.env := by rfl) (hline : (apos.endLine == cpos.line) = true := by rfl) :
    PI X (.Tuple elts kk tpos) (.Call (.Attribute e "items" apos) [] [] cpos) (iItemsT td) := by
  refine ⟨fun pins s σ H R I h => wpAny_Call_method (T := "dict") (id := "dict.items") hbase rfl hline F.plainAttrs_dict F.slot_dict_items F.type_dict_items (thn (he.run pins s σ H _ I h) fun u s1 ⟨x, H1, I1, rx, d, o, kvs, ex, hd, q⟩ => ?_)⟩
  subst ex
  obtain rfl : u = Value.ref d := rx
  obtain ⟨hsm, es, ep, hdt, raw, hsz, ent⟩ := I1.rawT hd
  obtain ⟨o1, e1, c1, d1⟩ := id raw
  refine ⟨raw.typeIs, fun b eb => ?_, ?_⟩
  · cases eb
    exact ⟨o1, e1, c1.2.1⟩
  have J : Inv X pins σ H1 { s1 with heap := s1.heap.push { cls := .type "dict_items", data := .fields #[.ref d] } } := I1.kept (t' := s1.toks) fun b ob e => Heap.get?_push_of_some _ e
  have raw2 : (s1.heap.push { cls := .type "dict_items", data := .fields #[.ref d] }).DictRaw d es ep := raw.at fun ob e => Heap.get?_push_of_some _ e
  have fin : wpAny (model X.prog X.w) X.A (pyIter (.ref s1.heap.objs.size)) (PIE X pins σ (.Tuple elts kk tpos) R) X.xe { s1 with heap := s1.heap.push { cls := .type "dict_items", data := .fields #[.ref d] } } := by
    refine wpAny_pyIter_items_raw (d := d) ⟨_, Heap.get?_push_size _ rfl, rfl, rfl⟩ raw2 (pi_one (tk := s1.toks) J _ (turn_itemsT _ hdt) ⟨.none, .none, ?_⟩ q)
    rw [← hsz]
    exact Heap.get?_push_size _ rfl
  exact method_meetsIn F.slot_dict_items F.entry_dict_items rfl (PySem.evalArgs_none ⟨rfl, raw.typeIs, F.args_dict_items_1 _, _, meets_dict_items_raw d hsm, ⟨es, ep, raw⟩, fin⟩)
end
section
variable {d : Addr} {o : Obj} {kvs : List (List Key × V)}
theorem walk_valuesT : Walk (ItdT d o kvs) kvs.length (fun H => H d = some (.frz o (.dT kvs))) (fun i H x H' => H' = H ∧ ∃ k, kvs[i]? = some (k, x)) :=
  ⟨fun _ _ hi q => ⟨hi, q⟩, fun _ q => ⟨Nat.le_refl _, q⟩, fun _ _ _ _ _ _ y => ⟨y.2, y.1⟩⟩
theorem walk_itemsT : Walk (ItiT d o kvs) kvs.length (fun H => H d = some (.frz o (.dT kvs)))
    (fun i H x H' => ∃ (T : Addr) (k : List Key) (v : V) (q : Addr), kvs[i]? = some (k, v) ∧ x = .ref T ∧ H q = some (.tup (k.map kV)) ∧ H T = none ∧ H' = upd H T (.tup [.ref q, v])) :=
  ⟨fun _ _ hi q => ⟨hi, q⟩, fun _ q => ⟨Nat.le_refl _, q⟩, fun _ _ _ _ _ _ y => y⟩
end
end L2
namespace PySem
open PySem PySem.Spec PyProof.Rows PySem.W
/-- dict(d), keys tuples, at most one of them -/
theorem call_dictH1 {prog : Program} {w : World} {A : Around} {E : Value → Shared → Prop} {s : Shared} {K : Type} [DecidableEq K] {knd : HeapKind prog w K} {o : Addr} {more : List (K × Addr × Value)} {Q : Value → Shared → Prop} (st : knd.Stays) (hu : knd.room A.in1.in1) (hoS : (o == sysModules) = false)
    (ho : s.heap.DictOfH knd o more) (h1 : more.length ≤ 1) (h : ∀ h', h'.DictOfH knd s.heap.objs.size more → Heap.SameBut s.heap.objs.size (s.heap.push { cls := .type "dict", data := .dict #[] }) h' → Q (.ref s.heap.objs.size) { s with heap := h' }) :
    wpAny (model prog w) A (call (.type "dict") [.ref o]) Q E s := by
  refine callType_codes (Q₁ := fun ob s1 => ob = .ref s.heap.objs.size ∧ s1 = { s with heap := s.heap.push { cls := .type "dict", data := .dict #[] } }) F.kt_called_dict (F.kt_typeCall_dict_1 _) F.entry_dict_init (kt_code_dict_new _ ⟨rfl, rfl⟩) ?_
  rintro ob s1 ⟨rfl, rfl⟩
  have hnew : (s.heap.push { cls := .type "dict", data := .dict #[] }).DictOfH knd s.heap.objs.size [] := Heap.DictOfH.new s.heap
  have kp : ∀ b u, s.heap.get? b = some u → (s.heap.push { cls := .type "dict", data := .dict #[] }).get? b = some u := fun b u e => Heap.get?_push_of_some _ e
  have ho2 : (s.heap.push { cls := .type "dict", data := .dict #[] }).DictOfH knd o more := by
    obtain ⟨ob, es, ep, q1, q2, q3, q4, q5, q6⟩ := ho
    exact ⟨ob, es, ep, kp _ _ q1, q2, q3, q4, fun x hx => st.stays (fun b u _ _ e _ => kp b u e) (q5 x hx), q6⟩
  have ne : s.heap.objs.size ≠ o := fun z => by
    obtain ⟨ob, _, _, q, _⟩ := ho
    exact absurd (Heap.lt_size q) (by rw [z]; exact Nat.lt_irrefl _)
  have hap : ([] : List (K × Addr × Value)) ≠ [] ∨ ((∀ x ∈ more, Shared.TypeIs { s with heap := s.heap.push { cls := .type "dict", data := .dict #[] } } (.ref x.2.1) "tuple") ∧ (more.map fun x => knd.hash x.1).Nodup) := by
    refine .inr ⟨keyed_apart st ho2, ?_⟩
    match more, h1 with
    | [], _ => exact List.nodup_nil
    | [x], _ => exact List.nodup_cons.mpr ⟨fun z => (nomatch z), List.nodup_nil⟩
    | _ :: _ :: _, z => exact absurd z (by simp)
  have eS : storedAllH [] more = more := by
    match more, h1 with
    | [], _ => rfl
    | [x], _ => rfl
    | _ :: _ :: _, z => exact absurd z (by simp)
  refine ⟨hnew.typeIs, F.args_dict_init_2 _ _, ?_⟩
  unfold Builtin.«dict.__init__»
  refine wpAny_bind ?_
  unfold Builtin.Dict.selfAndRest
  refine wpAny_bind (wpAny_notOrdered_dict hnew.typeIs ?_)
  refine wpAny_pure ?_
  refine updateFrom_dictH .none hu ne hoS hnew ho2 hap (by rw [List.length_nil, sizeLine_eq]; omega) fun h' d2 _ sb => ?_
  rw [eS] at d2
  exact ⟨rfl, h h' d2 sb⟩
end PySem
namespace L2
open PySem PySem.Spec PyProof.Rows
/-- a dict with tuple keys, as it stands in the raw heap -/
theorem dT_new {P : Program} {w : World} {H : Hp} {h : Heap} {a : Addr} {kvs : List (List Key × V)} {xs : List (List Key × Addr × Value)} (z : kvs.length ≤ sizeLine) (hm : (a == sysModules) = false) (r : KT H kvs xs) (dd : h.DictOfH (tupleKind (mixKind P w)) a xs) : ObjOk P w H h a (.dT kvs) := by
  obtain ⟨o, es, ep, q1, q2, q3, q4, q5, q6⟩ := dd
  exact ⟨z, hm, xs, r, o, es, ep, q1, q2, q3, q4, q6⟩
section
variable {X : Cx}
def rDictT : List V → Hp → VK → Prop := fun xs H Q => ∃ (a : Addr) (kvs : List (List Key × V)), xs = [.ref a] ∧ H a = some (.dT kvs) ∧ kvs.length ≤ 1 ∧ New (.dT kvs) H Q
theorem call_dictT (hu : X.A.units + 2 < cLine) : CallR X (.type "dict") rDictT := by
  intro pins s σ H xs us Q I r ⟨a, kvs, ex, hd, h1, q⟩
  subst ex
  obtain rfl := Vals.ref1 r
  obtain ⟨z, lo, ys, rel, dd⟩ := dt_of I.hok hd
  have hl : kvs.length = ys.length := Paired.length rel
  refine call_dictH1 tupleKind_stays (tupleKind_room_in1 (by show X.A.units + 1 + 1 < cLine; omega)) lo dd (by omega) fun h' d2 sb => ?_
  have hm : (s.heap.objs.size == sysModules) = false := beq_eq_false_iff_ne.mpr (Nat.ne_of_gt I.big)
  have hf : H s.heap.objs.size = none := I.hok.fresh (Nat.le_refl _)
  refine ⟨.ref s.heap.objs.size, upd H s.heap.objs.size (.dT kvs), I.laid (t' := s.toks) (fun b u e => (sb.2 b (Nat.ne_of_lt (Heap.lt_size e))).trans (Heap.get?_push_of_some _ e)) (Nat.le_refl _) (dT_new z hm (rel.keeps fun b ys e => ?_) d2), rfl, q.out _ hf⟩
  rw [upd_ne (ne_of_none e hf)]
  exact e
/-- {k: v}, the key a tuple -/
def tDispT (tk tv : TE) : TE := fun σ H Q => ∀ (p : Addr) (H1 : Hp), Fr H p → Same H H1 → H1 p = some (.dT []) → tk σ H1 fun x H2 => tv σ H2 fun y H3 => ∃ (b : Addr) (k : List Key), x = .ref b ∧ H3 p = some (.dT []) ∧ H3 b = some (.tup (k.map kV)) ∧ Put p (.dT [(k, y)]) H3 (Q (.ref p))
theorem pe_dispT {e f : Expr} {tk tv : TE} {pos : Pos} (hu : X.A.units + 1 < cLine) (he : PE X e tk) (hf : PE X f tv) : PE X (.Dict [some e] [f] pos) (tDispT tk tv) := by
  refine ⟨fun pins s σ H Q I q => ?_⟩
  have hn := I.hok.fresh (Nat.le_refl s.heap.objs.size)
  have I1 := I.laid (a := s.heap.objs.size) (o := .dT []) (h' := s.heap.push { cls := .type "dict", data := .dict #[] }) (t' := s.toks) (fun _ _ z => Heap.get?_push_of_some _ z) (Nat.le_refl _) (dt_empty s.heap I.big)
  have hlen : (pairTrees [some e] [f] X.env pos).length = 1 := (pairTrees_length [some e] [f] X.env pos rfl rfl)
  rw [arm_eval_Dict, zip_pairTrees [some e] [f] X.env pos rfl rfl, dictDisplay_pairs (pairTrees [some e] [f] X.env pos) (fun z => by rw [z] at hlen; cases hlen) (by omega)]
  have read : tPairs [(upE tk, upE tv)] σ (upd H s.heap.objs.size (.dT [])) (fun ps H2 => ∃ (y : V) (b : Addr) (k : List Key), ps = [(.ref b, y)] ∧ H2 s.heap.objs.size = some (.dT []) ∧ H2 b = some (.tup (k.map kV)) ∧ Put s.heap.objs.size (.dT [(k, y)]) H2 (Q (.ref s.heap.objs.size))) := by
    refine ⟨_, q _ _ hn ((Same.refl H).new hn) upd_same, fun x H1 r1 => ⟨_, r1, fun y H2 r2 => ?_⟩⟩
    obtain ⟨b, k, ex, hp, hb, pq⟩ := r2
    exact ⟨y, b, k, by rw [ex], hp, hb, pq⟩
  refine wpAny_bind (wpAny_standAt (wpAny_bind (wpAny_subDictH (knd := tupleKind (mixKind X.prog X.w)) (by show X.A.units < cLine; omega) (by omega) ?_)))
  refine thn ((pps_cons he.up hf.up pps_nil).run pins _ σ _ _ I1 read) fun ws s2 ⟨ps, H2, I2, rel, y, b, k, ep, hp, hb, pq⟩ => ?_
  subst ep
  cases rel with
  | @cons a1 w1 a2 w2 rp rn =>
    cases rn
    obtain ⟨u, v⟩ := w1
    obtain ⟨ru, rv⟩ := rp
    obtain rfl : u = Value.ref b := ru
    obtain ⟨_, lo, xs0, rel0, d0⟩ := dt_of I2.hok hp
    cases rel0
    refine ⟨[(k, b, v)], ⟨rfl, rfl, key_of I2.hok hb, True.intro⟩, d0, fun h' tk d1 sb => wpAny_pure ?_⟩
    have ne : b ≠ s.heap.objs.size := fun z => by
      rw [z, hp] at hb
      cases hb
    refine ⟨.ref s.heap.objs.size, upd H2 s.heap.objs.size (.dT [(k, y)]), ?_, rfl, pq.out⟩
    refine d_write I2 (by rw [hp]; exact True.intro) sb (let ⟨ob, _, _, q1, _⟩ := d1; ⟨ob, q1⟩) (dT_new (by show 1 ≤ sizeLine; decide) lo (.cons ⟨rfl, ?_, rv⟩ .nil) d1)
    rw [upd_ne ne]
    exact hb
end
end L2
namespace PySem
open PySem PySem.Spec PyProof.Rows PySem.W
section
variable {prog : Program} {w : World} {A : Around} {E : Value → Shared → Prop} {s : Shared} {a b : Addr} {es fs : Array DictEntry} {n m : Nat} {Q : Value → Shared → Prop}
/-- two dicts of unlike sizes -/
theorem ne_sizes (ha : (a == sysModules) = false) (hb : (b == sysModules) = false) (ra : s.heap.DictRaw a es n) (rb : s.heap.DictRaw b fs m) (ne : es.size ≠ fs.size) (hu : A.units < cLine) (h : Q (.bool true) s) : wpAny (model prog w) A (compareOp .NotEq (.ref a) (.ref b)) Q E s := by
  obtain ⟨oa, a1, _, a3⟩ := id ra
  obtain ⟨ob, b1, _, b3⟩ := id rb
  refine wpAny_richCompare_same_room (op := .NotEq) ra.typeIs rb.typeIs F.slot_dict_ne (wpAny_call_entry F.slot_dict_ne ra.typeIs F.entry_dict_ne ?_ (F.args_dict_ne_2 _ _)) hu
  show wpAny _ _ (Builtin.Dict.dictSlotArgs "__ne__" ⟨[.ref a, .ref b], []⟩ >>= _) _ _ s
  refine wpAny_bind ?_
  unfold Builtin.Dict.dictSlotArgs
  refine wpAny_bind (wpAny_notOrdered_dict ra.typeIs (wpAny_pure (wpAny_bind (wpAny_isInstance (T := "dict") rb.typeIs F.sub_dict_dict ?_))))
  simp only [Bool.not_true, Bool.false_eq_true, if_false]
  refine wpAny_bind (wpAny_pure (wpAny_bind (wpAny_pure (wpAny_bind ?_))))
  unfold Builtin.Dict.samePairs Builtin.Dict.showsAll
  rw [if_neg (by rw [ha]; exact Bool.false_ne_true), if_neg (by rw [hb]; exact Bool.false_ne_true)]
  refine wpAny_bind (wpAny_pure (wpAny_bind (wpAny_pure (wpAny_bind (wpAny_dictEntries a1 a3 (wpAny_bind (wpAny_dictEntries b1 b3 ?_)))))))
  rw [if_pos (by simpa using ne)]
  exact wpAny_bind (wpAny_rule (wpAny_pure (wpAny_pure ⟨_, rfl, ⟨(by intro x; cases x), h⟩⟩)))
end
end PySem
namespace L2
open PySem PySem.Spec PyProof.Rows
def rNeT : R2 := fun x y H Q => ∃ (a b : Addr) (ks ls : List (List Key × V)), x = .ref a ∧ y = .ref b ∧ H a = some (.dT ks) ∧ H b = some (.dT ls) ∧ ((ks = [] ∧ ls = [] ∧ Q (.bl false) H) ∨ (ks.length ≠ ls.length ∧ Q (.bl true) H))
theorem dT_raw {P : Program} {w : World} {H : Hp} {h : Heap} {a : Addr} {ks : List (List Key × V)} (ok : HOk P w H h) (e : H a = some (.dT ks)) : (a == sysModules) = false ∧ ∃ es ep, h.DictRaw a es ep ∧ es.size = ks.length := by
  obtain ⟨z, y, xs, r, o, es, ep, h1, h2, h3, h4, h5⟩ := (show ObjOk P w H h a (.dT ks) from ok a _ e)
  have l1 : es.size = xs.length := size_of_entries h4
  have l2 : ks.length = xs.length := Paired.length r
  exact ⟨y, es, ep, ⟨o, h1, h2, h3⟩, by omega⟩
theorem op_neT {X : Cx} (hu : X.A.units < cLine) : OpR X (compareOp .NotEq) rNeT := by
  intro pins s σ H x y v u Q I rx ry ⟨a, b, ks, ls, ex, ey, ea, eb, q⟩
  subst ex ey
  cases rx
  cases ry
  rcases q with ⟨rfl, rfl, q⟩ | ⟨ne, q⟩
  · have nil : ∀ {c : Addr}, H c = some (.dT []) → (c == sysModules) = false ∧ s.heap.DictOf (mixKind X.prog X.w) c [] := fun {c} e => by
      obtain ⟨z, y, xs, r, o, es, ep, h1, h2, h3, h4, h5⟩ := (show ObjOk X.prog X.w H s.heap c (.dT []) from I.hok c _ e)
      cases r
      obtain rfl : es = #[] := by
        obtain ⟨l⟩ := es
        cases l with
        | nil => rfl
        | cons u r => cases h4
      exact ⟨y, o, #[], ep, h1, h2, h3, (fun _ he => by simp at he), Pairs.nil, List.nodup_nil⟩
    obtain ⟨ya, da⟩ := nil ea
    obtain ⟨yb, db⟩ := nil eb
    exact PySem.W.keq_ne (knd := mixKind X.prog X.w) (r := true) ya yb da db hu (fun _ => .nil) ⟨.bl false, H, I, rfl, q⟩
  · obtain ⟨ya, es, ep, ra, la⟩ := dT_raw I.hok ea
    obtain ⟨yb, fs, fp, rb, lb⟩ := dT_raw I.hok eb
    exact ne_sizes ya yb ra rb (by rw [la, lb]; exact ne) hu ⟨.bl true, H, I, rfl, q⟩
end L2
namespace L2
open PySem PySem.Spec PyProof.Rows
theorem room2 {k : Nat} {A : Around} (r : Room k A) : A.units + 2 < cLine := by
  have h := r.un
  omega
theorem room0 {k : Nat} {A : Around} (r : Room k A) : A.units < cLine := by
  have h := r.un
  omega
end L2
namespace L2
open PySem PySem.Spec PyProof.Rows
/-- the ends of what runs under a lock -/
abbrev lkD (D : Ends) (d : Addr) (od : Obj) (u : HO) : Ends := ⟨fun σ' H' => H' d = some (.frz od u) ∧ D.nx σ' (upd H' d u), fun v H' => H' d = some (.frz od u) ∧ D.rt v (upd H' d u), fun σ' H' => H' d = some (.frz od u) ∧ D.bk σ' (upd H' d u), fun σ' H' => H' d = some (.frz od u) ∧ D.ct σ' (upd H' d u)⟩
section
variable {td : TE} {g : TG} {tb : TS} {D : Ends} {σ : St} {H : Hp} {d : Addr} {kvs : List (List Key × V)}
/-- for k in d, keys tuples -/
theorem lock_keysT (hd : H d = some (.dT kvs)) (hv : ∀ od Q, Q (.ref d) (upd H d (.frz od (.dT kvs))) → td σ (upd H d (.frz od (.dT kvs))) Q) (Pv : Obj → Nat → St → Hp → Prop)
    (h0 : ∀ od, Pv od 0 σ (upd H d (.frz od (.dT kvs)))) (hG : ∀ od i σ' H', Pv od i σ' H' → H' d = some (.frz od (.dT kvs)))
    (hs : ∀ od i k v q σ' H', kvs[i]? = some (k, v) → Pv od i σ' H' → H' q = some (.tup (k.map kV)) → g (.ref q) σ' H' fun σ2 H2 => tb { lkD D d od (.dT kvs) with nx := Pv od (i + 1), ct := Pv od (i + 1), bk := (lkD D d od (.dT kvs)).nx } σ2 H2)
    (he : ∀ od σ' H', Pv od kvs.length σ' H' → D.nx σ' (upd H' d (.dT kvs))) : tLock (tFor (iKeys td) g tb) D σ H := by
  refine ⟨d, _, hd, trivial, fun od => hv od _ ⟨d, od, rfl, .inr ⟨kvs, upd_same, ?_⟩⟩⟩
  refine for_it walk_keysT (Pv od) (h0 od) (fun i σ' H' _ p => hG od i σ' H' p) (fun i x σ' H' H2 hi p y => ?_) fun σ' H' p => ⟨hG od _ σ' H' p, he od σ' H' p⟩
  obtain ⟨rfl, k, v, q, e1, rfl, e2⟩ := y
  exact hs od i k v q σ' H2 e1 p e2
/-- for v in d.values(), keys tuples -/
theorem lock_valsT (hd : H d = some (.dT kvs)) (hv : ∀ od Q, Q (.ref d) (upd H d (.frz od (.dT kvs))) → td σ (upd H d (.frz od (.dT kvs))) Q) (Pv : Obj → Nat → St → Hp → Prop)
    (h0 : ∀ od, Pv od 0 σ (upd H d (.frz od (.dT kvs)))) (hG : ∀ od i σ' H', Pv od i σ' H' → H' d = some (.frz od (.dT kvs)))
    (hs : ∀ od i k v σ' H', kvs[i]? = some (k, v) → Pv od i σ' H' → g v σ' H' fun σ2 H2 => tb { lkD D d od (.dT kvs) with nx := Pv od (i + 1), ct := Pv od (i + 1), bk := (lkD D d od (.dT kvs)).nx } σ2 H2)
    (he : ∀ od σ' H', Pv od kvs.length σ' H' → D.nx σ' (upd H' d (.dT kvs))) : tLock (tFor (iValsT td) g tb) D σ H := by
  refine ⟨d, _, hd, trivial, fun od => hv od _ ⟨d, od, kvs, rfl, upd_same, ?_⟩⟩
  refine for_it walk_valuesT (Pv od) (h0 od) (fun i σ' H' _ p => hG od i σ' H' p) (fun i x σ' H' H2 hi p y => ?_) fun σ' H' p => ⟨hG od _ σ' H' p, he od σ' H' p⟩
  obtain ⟨rfl, k, e1⟩ := y
  exact hs od i k x σ' H2 e1 p
/-- for k, v in d.items(), keys tuples -/
theorem lock_itemsT (hd : H d = some (.dT kvs)) (hv : ∀ od Q, Q (.ref d) (upd H d (.frz od (.dT kvs))) → td σ (upd H d (.frz od (.dT kvs))) Q) (Pv : Obj → Nat → St → Hp → Prop)
    (h0 : ∀ od, Pv od 0 σ (upd H d (.frz od (.dT kvs)))) (hG : ∀ od i σ' H', Pv od i σ' H' → H' d = some (.frz od (.dT kvs)))
    (hs : ∀ od i k v q T σ' H' H2, kvs[i]? = some (k, v) → Pv od i σ' H' → H' q = some (.tup (k.map kV)) → Fr H' T → Same H' H2 → H2 T = some (.tup [.ref q, v]) →
      g (.ref T) σ' H2 fun σ2 H3 => tb { lkD D d od (.dT kvs) with nx := Pv od (i + 1), ct := Pv od (i + 1), bk := (lkD D d od (.dT kvs)).nx } σ2 H3)
    (he : ∀ od σ' H', Pv od kvs.length σ' H' → D.nx σ' (upd H' d (.dT kvs))) : tLock (tFor (iItemsT td) g tb) D σ H := by
  refine ⟨d, _, hd, trivial, fun od => hv od _ ⟨d, od, kvs, rfl, upd_same, ?_⟩⟩
  refine for_it walk_itemsT (Pv od) (h0 od) (fun i σ' H' _ p => hG od i σ' H' p) (fun i x σ' H' H2 hi p y => ?_) fun σ' H' p => ⟨hG od _ σ' H' p, he od σ' H' p⟩
  obtain ⟨T, k, v, q, e1, rfl, e2, hT, rfl⟩ := y
  exact hs od i k v q T σ' H' _ e1 p e2 hT ((Same.refl H').new hT) upd_same
end
theorem upd_back {H : Hp} {d : Addr} {o : Obj} {u : HO} (h : H d = some u) : upd (upd H d (.frz o u)) d u = H := by
  rw [upd_upd, upd_self h]
end L2
namespace L2
open PySem PySem.Spec PyProof.Rows
/-- list(d), keys tuples -/
def rListDT : List V → Hp → VK → Prop := fun xs H Q => ∃ (d : Addr) (kvs : List (List Key × V)), xs = [V.ref d] ∧ H d = some (.dT kvs) ∧ ∀ bs, IsKeys H kvs bs → New (.lst (bs.map V.ref)) H Q
theorem call_listDT {X : Cx} (hc : X.calm = true) : CallR X (.type "list") rListDT := CallR.imp (call_list_dT hc) fun xs H Q ⟨d, kvs, e, h, q⟩ => ⟨d, kvs, e, .inl h, fun p bs hp ik => (q bs ik).out p hp⟩
/-- a comprehension over an empty dict -/
theorem lock_lcT0 {td te : TE} {g : TG} {tt : TT} {vs : List Nat} {σ : St} {H : Hp} {d : Addr} {Q : VK} (hd : H d = some (.dT [])) (hv : ∀ od R, R (.ref d) (upd H d (.frz od (.dT []))) → td σ (upd H d (.frz od (.dT []))) R) (q : New (.lst []) H Q) : tLockE (tLc (iKeys td) g tt te vs) σ H Q := by
  refine ⟨d, _, hd, trivial, fun od => hv od _ ⟨d, od, rfl, .inr ⟨[], upd_same, fun D hD => ?_⟩⟩⟩
  have nd : d ≠ D := ne_of_none upd_same hD
  have hD0 : H D = none := by
    rw [upd_ne nd.symm] at hD
    exact hD
  have at_d : upd (upd H d (.frz od (.dT []))) D (.lst []) d = some (.frz od (.dT [])) := by
    rw [upd_ne nd]
    exact upd_same
  refine lc_none ⟨at_d, Nat.le_refl _⟩ ⟨at_d, ?_⟩
  have e : upd (upd (upd H d (.frz od (.dT []))) D (.lst [])) d (.dT []) = upd H D (.lst []) := by
    funext b
    by_cases e1 : b = d
    · rw [e1, upd_same, upd_ne nd, hd]
    by_cases e2 : b = D
    · rw [upd_ne e1, e2, upd_same, upd_same]
    · rw [upd_ne e1, upd_ne e2, upd_ne e2, upd_ne e1]
  rw [e]
  exact q.out D hD0
end L2
namespace L2
open PySem PySem.Spec PyProof.Rows
theorem callR_or {X : Cx} {f : Value} {r r' : List V → Hp → VK → Prop} (h : CallR X f r) (k : CallR X f r') : CallR X f fun xs H Q => r xs H Q ∨ r' xs H Q := fun pins s σ H xs us Q I rx q => q.elim (h pins s σ H xs us Q I rx) (k pins s σ H xs us Q I rx)
end L2

/-! sorted(set(list of texts)) (imports: HandS.Set, HandS.SetTxt0, HandS.Strs) -/
namespace PySem.Froz
open PySem PySem.Spec PyProof.Rows
section
variable {P : Program} {w : World} {A : Around} {E : Value → Shared → Prop} {s : Shared}
theorem tail_ris {ep : Nat} {es : Array (Int × Value)} {t : SetTable} {b : Bool} (r : L2.Ris t.place.toList) : L2.Ris (tailTx ep es t b).2.2.place.toList := by
  unfold tailTx
  by_cases c : (!b && t.tooFull) = true
  · rw [if_pos c]
    exact L2.relayAll_ris _ _ _
  · rw [if_neg c]
    exact r
theorem tail_led {ep : Nat} {es : Array (Int × Value)} {t : SetTable} {b : Bool} : (tailTx ep es t b).2.2.led = t.led := by
  unfold tailTx
  by_cases c : (!b && t.tooFull) = true
  · rw [if_pos c]
    exact L2.relayAll_led _ _ _
  · rw [if_neg c]
theorem addTx_ris {h : Int} {v : Value} {D : SD} (r : L2.Ris D.2.2.place.toList) : L2.Ris (addTx h v D).2.2.place.toList := by
  refine tail_ris ?_
  split
  · exact L2.layNew_ris D.2.2 D.1 h v r
  · exact L2.layNew_ris D.2.2 D.1 h v r
theorem addTx_led {h : Int} {v : Value} {D : SD} : (addTx h v D).2.2.led = D.2.2.led := by
  refine tail_led.trans ?_
  split
  · exact L2.layNew_led D.2.2 D.1 h v
  · exact L2.layNew_led D.2.2 D.1 h v
/-- the set of texts at a: l its members -/
def TxR (P : Program) (w : World) (h : Heap) (a : Addr) (l : List Str) : Prop :=
  ∃ D : SD, h.get? a = some (sObj "set" D) ∧ TxOk P w D l ∧ L2.Ris D.2.2.place.toList ∧ (w.params.followText "set-order" = true ∨ D.2.2.led = true)
theorem TxR.at {h h' : Heap} {a : Addr} {l : List Str} (R : TxR P w h a l) (k : ∀ o, h.get? a = some o → h'.get? a = some o) : TxR P w h' a l := by
  obtain ⟨D, h1, h2⟩ := R
  exact ⟨D, k _ h1, h2⟩
theorem old_x {a : Addr} {T : String} {D : SD} {l : List Str} {k : Str} {u : Tok} {Q : Bool → Shared → Prop} (ho : s.heap.get? a = some (sObj T D)) (F : TxOk P w D l) (hk : k ∈ l) (hb : l.length < scanBound)
    (h : Q false s) : wpAny (model P w) A (setAddHashed a (.str k u) (hashStr w k)) Q E s := by
  obtain ⟨es, ep, t⟩ := D
  have hel : ElemsOf (strKind P w) es.toList := F.el
  have hb0 : es.size < scanBound := by
    rw [show es.size = l.length from F.sz]
    exact hb
  obtain ⟨j, hj⟩ : ∃ j, List.findIdx? (fun e => (strKind P w).is k e.2) es.toList = some j := by
    cases hr : List.findIdx? (fun e => (strKind P w).is k e.2) es.toList with
    | some j => exact ⟨j, rfl⟩
    | none =>
      obtain ⟨e, he, q⟩ := (F.mem k).mp hk
      have c := List.findIdx?_eq_none_iff.mp hr e he
      rw [q] at c
      cases c
  unfold setAddHashed setAddHashedIn
  refine wpAny_holding (wpAny_bind (wpAny_setState_of ho (show (sObj T (es, ep, t)).data = .set es ep t from rfl) F.fit ?_))
  dsimp only
  rw [byScan_of rfl hb0 hel]
  simp only [↓reduceIte]
  unfold setAddByScan
  refine wpAny_bind (wpAny_bind (wpAny_rule (wpAny_bind (wpAny_setScan_of (knd := strKind P w) (k := k) (is_str k u) ho (show (sObj T (es, ep, t)).data = .set es ep t from rfl) F.fit hel ?_))))
  rw [hj]
  exact wpAny_pure (wpAny_pure h)
theorem TxR.add {a : Addr} {l : List Str} {k : Str} {u : Tok} {Q : Bool → Shared → Prop} (R : TxR P w s.heap a l) (hb : l.length + 1 < scanBound)
    (h : ∀ (b : Bool) (h' : Heap) (l' : List Str), Heap.SameBut a s.heap h' → TxR P w h' a l' → (∀ x, x ∈ l' ↔ x ∈ l ∨ x = k) → l'.length ≤ l.length + 1 → Q b { s with heap := h' }) :
    wpAny (model P w) A (setAddHashed a (.str k u) (hashStr w k)) Q E s := by
  obtain ⟨D, ho, F, r, hl⟩ := id R
  by_cases hk : k ∈ l
  · exact old_x ho F hk (by omega) (h false s.heap l (Heap.SameBut.refl _ _) R (fun x => ⟨.inl, fun z => z.elim id fun e => e ▸ hk⟩) (Nat.le_succ _))
  · refine add_x ho F hk hb (h true _ (k :: l) (Heap.SameBut.update _ _ _) ⟨_, get_upd _ ho rfl, add_ok u F, addTx_ris r, by rw [addTx_led]; exact hl⟩ (fun x => ?_) (Nat.le_refl _))
    rw [List.mem_cons]
    exact ⟨fun z => z.symm, fun z => z.symm⟩
end
section
variable {prog : Program} {w : World} {A : Around} {R : Result → Shared → Prop} {it : Addr} {fp wr : List Addr} {G : Array GenState → Array GenState → Prop} {n : Nat} {Pv : Nat → Value → Prop} {St : Nat → Shared → Prop}
theorem loopTx (W : WalksS prog w A.in1 it fp wr G n Pv St) (S : Addr) (nf : S ∉ fp) (xs : List Str) (hn : n < 60) (hval : ∀ i v, i < n → Pv i v → ∃ x t, v = .str x t ∧ xs[i]? = some x) :
    ∀ (k i : Nat) (s : Shared) (l : List Str), n - i = k → i ≤ n → St i s → TxR prog w s.heap S l → (∀ x, x ∈ l ↔ x ∈ xs.take i) → l.length ≤ i →
      (∀ s' l', Moved (S :: wr) G s s' → TxR prog w s'.heap S l' → (∀ x, x ∈ l' ↔ x ∈ xs.take n) → l'.length ≤ n → R (.ok (.ret .none)) s') →
      codeAny (model prog w) A (.builtin "set.update.loop" ⟨[.ref S, .ref it], []⟩) R s := by
  have nw : S ∉ wr := fun z => nf (W.sub _ z)
  have more : ∀ b ∈ wr, b ∈ S :: wr := fun b z => List.mem_cons_of_mem _ z
  intro k
  induction k with
  | zero =>
    intro i s l hk hi hst hS hm hl hR
    obtain rfl : i = n := by omega
    refine codeAny_builtin PyProof.Rows.F.entry_set_update_loop ?_
    rw [Around.under_plainId PyProof.Rows.F.plain_set_update_loop _]
    show wpAny _ A.in1 (pyNext (.ref it) >>= _) _ _ s
    refine wpAny_bind (W.done s _ _ hst fun s' mv => ?_)
    show wpAny _ A.in1 (ret Value.none) _ _ s'
    exact wpAny_pure (hR s' l (mv.mono more) (hS.at fun o e => mv.heap S _ nw e) hm hl)
  | succ k ih =>
    intro i s l hk hi hst hS hm hl hR
    have lt : i < n := by omega
    refine codeAny_builtin PyProof.Rows.F.entry_set_update_loop ?_
    rw [Around.under_plainId PyProof.Rows.F.plain_set_update_loop _]
    show wpAny _ A.in1 (pyNext (.ref it) >>= _) _ _ s
    refine wpAny_bind (W.item i s _ _ lt hst fun v s' hP hst' mv => ?_)
    obtain ⟨x, t, rfl, hx⟩ := hval i v lt hP
    have hS1 : TxR prog w s'.heap S l := hS.at fun o e => mv.heap S _ nw e
    show wpAny _ A.in1 (holding [Value.str x t] (setAdd S (.str x t)) >>= _) _ _ s'
    refine wpAny_bind (wpAny_holding ?_)
    unfold setAdd
    refine wpAny_holding (wpAny_bind ((PySem.strKind prog w).pyHash (k := x) (is_str _ _) ?_))
    refine TxR.add (s := { s' with toks := s'.toks + 1 }) hS1 (by unfold scanBound; omega) fun b h' l' sb R2 m2 len2 => ?_
    refine wpAny_pure ⟨plainId_quiet PyProof.Rows.F.plain_set_update_loop _, ih (i + 1) _ l' (by omega) lt (W.frame _ s' _ _ hst' (Nat.le_succ _) fun b hb o e => ?_) R2 (fun y => ?_) (by omega) fun s2 l2 mv2 R3 m3 len3 => ?_⟩
    · rw [sb.2 b (fun z : b = S => nf (by rw [← z]; exact hb))]
      exact e
    · rw [m2, hm, List.take_add_one, hx, List.mem_append]
      show _ ↔ _ ∨ y ∈ [x]
      rw [List.mem_singleton]
    · refine hR s2 l2 (Moved.trans W.gtrans ((mv.mono more).then_heap (Nat.le_succ _) fun b o nb e => ?_) mv2) R3 m3 len3
      rw [sb.2 b (fun z : b = S => nb (by rw [z]; exact List.mem_cons_self))]
      exact e
end
end PySem.Froz
namespace PySem.Froz
open PySem PySem.Spec PyProof.Rows
theorem strs_each : ∀ {us : List Value} {xs : List Str}, StrsAre us xs → ∀ (i : Nat) (v : Value), us[i]? = some v → ∃ x t, v = .str x t ∧ xs[i]? = some x
  | _, _, .nil, i, v, h => by simp at h
  | _, _, .cons n t hr, 0, v, h => ⟨n, t, (Option.some.inj h).symm, rfl⟩
  | _, _, .cons n t hr, i + 1, v, h => strs_each hr i v h
section
variable {prog : Program} {w : World} {A : Around} {E : Value → Shared → Prop} {s : Shared}
abbrev ledO (w : World) : Obj := { cls := .type "set", dict := none, data := .set #[] 0 (.fresh 0 0 (!w.params.followText "set-order")) }
theorem TxR.fresh {h : Heap} {a : Addr} (e : h.get? a = some (ledO w)) : TxR prog w h a [] := by
  refine ⟨(#[], 0, .fresh 0 0 (!w.params.followText "set-order")), e, TxOk.nil rfl, List.Pairwise.nil, ?_⟩
  show _ ∨ (!w.params.followText "set-order") = true
  cases w.params.followText "set-order"
  · exact .inr rfl
  · exact .inl rfl
set_option maxHeartbeats 3200000 in
theorem call_set_tx {l : Addr} {items : Array Value} {xs : List Str} {Q : Value → Shared → Prop} (hh : A.handled = none) (hl : s.heap.IsList l items) (hx : StrsAre items.toList xs) (h60 : items.size < 60)
    (h : ∀ (h' : Heap) (tk : Nat) (ys : List Str), TxR prog w h' s.heap.objs.size ys → (∀ x, x ∈ ys ↔ x ∈ xs) → ys.length ≤ xs.length → (∀ b o, b < s.heap.objs.size → s.heap.get? b = some o → h'.get? b = some o) →
      Q (.ref s.heap.objs.size) { s with heap := h', toks := tk }) : wpAny (model prog w) A (call (.type "set") [.ref l]) Q E s := by
  obtain ⟨c0, tl0, hmro⟩ := PySem.F.called_set.mro
  have hmade := PySem.F.called_set.made
  have hsub := PySem.F.called_set.sub
  refine wpAny_call (codeAny_of_tree ?_)
  show wpAny _ _ (callAny (.type "set") _) _ _ _
  refine wpAny_pure ⟨Code.quiet_builtin _ (by decide +kernel), codeAny_builtin PySem.F.entry_type_call ?_⟩
  rw [Around.under_plain (weight_type_call_type "set" [.ref l] []) rfl]
  have ht1 := PySem.F.called_set.notType
  have ht2 := PySem.F.called_set.canCreate
  have ht3 := PySem.F.typeCall_set_1 (.ref l)
  repeat (any_goals (first | assumption | wp_step))
  refine codeAny_mono (L2.code_set_led1 (.ref l) (E := E) (Q₁ := fun ob s1 => ob = .ref s.heap.objs.size ∧ s1 = { s with heap := s.heap.push (ledO w) }) ⟨rfl, rfl⟩) fun r s1 hr => ?_
  cases r with
  | error e => exact hr
  | ok fl =>
    cases fl with
    | ret ob =>
      obtain ⟨rfl, rfl⟩ := hr
      have new1 : (s.heap.push (ledO w)).get? s.heap.objs.size = some (ledO w) := Heap.get?_push_size _ rfl
      have isS : Shared.TypeIs { s with heap := s.heap.push (ledO w) } (.ref s.heap.objs.size) "set" := ⟨_, new1, rfl⟩
      have look1 := PySem.F.called_set.init.lookup
      have bind1 := PySem.F.called_set.init.bind (.ref s.heap.objs.size)
      repeat (any_goals (first | assumption | wp_step))
      refine codeAny_mono (codeAny_call_builtin (R := wants (fun r s2 => r = .none ∧ ∃ h' tk ys, s2 = { s with heap := h', toks := tk } ∧ TxR prog w h' s.heap.objs.size ys ∧ (∀ x, x ∈ ys ↔ x ∈ xs) ∧ ys.length ≤ xs.length ∧
        (∀ b o, b < s.heap.objs.size → s.heap.get? b = some o → h'.get? b = some o)) E) PySem.F.called_set.init.plain PySem.F.entry_set_init (check_set_init_1 isS ?_)) fun r2 s2 hr2 => ?_
      · obtain ⟨⟨kcls, kdict, kdata, kslots⟩, hol, hcl, nl, hdl⟩ := hl
        simp only at hcl hdl
        subst hcl; subst hdl
        have hol2 : (s.heap.push (ledO w)).get? l = some { cls := .type "list", dict := kdict, data := .seq items nl, slots := kslots } := Heap.get?_push_of_some _ hol
        have no1 := PySem.F.sub_list_set
        have no2 := PySem.F.sub_list_frozenset
        have no3 : (Value.type "list" == Value.type "dict") = false := by decide
        have list1 : (s.heap.push (ledO w)).IsList l items := ⟨_, hol2, rfl, nl, rfl⟩
        unfold Builtin.«set.__init__» noKeywords Builtin.Frozenset.updateFrom
        generalize hPI : pyIter = PI
        wp_walk
        subst hPI
        refine wpAny_pyIter_list list1 (wpAny_bind (wpAny_runValue ?_))
        have hlS : l < s.heap.objs.size := Heap.lt_size hol
        have cold : A.in1.in1.in1.handled = none := by simp [hh]
        have zp : (s.heap.push (ledO w)).objs.size = s.heap.objs.size + 1 := Heap.size_push ..
        have nI : l ≠ (s.heap.push (ledO w)).objs.size := fun z => by
          rw [zp] at z
          exact Nat.ne_of_lt (Nat.lt_succ_of_lt hlS) z
        have nS : s.heap.objs.size ∉ [(s.heap.push (ledO w)).objs.size, l] := fun z => by
          rw [zp] at z
          rcases List.mem_cons.mp z with z | z
          · exact Nat.ne_of_lt (Nat.lt_succ_self _) z
          · exact Nat.ne_of_gt hlS (List.mem_singleton.mp z)
        have len : items.size = xs.length := by
          rw [← StrsAre.len_eq hx, Array.length_toList]
        refine loopTx ((Walks.list cold _ l nI items).toS) s.heap.objs.size nS xs h60 (fun i v _ hv => strs_each hx i v (by rw [Array.getElem?_toList]; exact hv)) (items.size - 0) 0 _ [] (by omega) (Nat.zero_le _)
          ⟨⟨_, Heap.get?_push_size _ rfl, rfl, rfl⟩, (list1.push _)⟩ (TxR.fresh (Heap.get?_push_of_some _ new1)) (fun x => by simp) (Nat.le_refl _) fun s' ys mv R1 m1 l1 => ?_
        obtain ⟨h', g', d', tk', os'⟩ := s'
        have eg : g' = s.gens := mv.gens
        have ed : d' = s.drawn := mv.drawn
        have eo : os' = s.os := mv.os
        subst eg ed eo
        rw [len, List.take_length] at m1
        show wpAny _ _ _ _ _ _
        refine wpAny_pure ?_
        show wpAny _ _ (ret Value.none) _ _ _
        refine wpAny_pure ⟨rfl, h', tk', ys, rfl, R1, m1, by omega, fun b o hb e => ?_⟩
        refine mv.heap b o (fun z => ?_) (Heap.get?_push_of_some _ (Heap.get?_push_of_some _ e))
        rcases List.mem_cons.mp z with z | z
        · exact Nat.ne_of_lt hb z
        · have z2 := List.mem_singleton.mp z
          rw [zp] at z2
          exact Nat.ne_of_lt (Nat.lt_succ_of_lt hb) z2
      · cases r2 with
        | error e => exact hr2
        | ok f2 =>
          cases f2 with
          | ret r =>
            obtain ⟨rfl, h', tk, ys, rfl, R1, m1, l1, kp⟩ := hr2
            repeat (any_goals (first | assumption | wp_step))
            exact h _ _ _ R1 m1 l1 kp
          | _ => exact hr2.elim
    | _ => exact hr.elim
end
end PySem.Froz
namespace L2
open PySem PySem.Spec PyProof.Rows
section
variable {P : Program} {w : World} {A : Around} {E : Value → Shared → Prop} {s : Shared} {a : Addr} {l : List Str}
theorem sorted_tx {Q : Value → Shared → Prop} (R : Froz.TxR P w s.heap a l) (hh : A.handled = none) (h64 : l.length < 64)
    (hQ : ∀ (s' : Shared) (p : Addr) (out : Array Value) (c : Nat) (ys : List Str), (∀ b o, s.heap.get? b = some o → s'.heap.get? b = some o) → s'.gens = s.gens → s'.os = s.os → s.heap.objs.size ≤ p → s'.heap.get? p = some (seqObj "list" out c) →
      StrsAre out.toList ys → (∀ x, x ∈ ys ↔ x ∈ l) → ys.length = l.length → Q (.ref p) s') : wpAny (model P w) A (call (.builtin "sorted") [.ref a]) Q E s := by
  obtain ⟨⟨es, ep, t⟩, ho, F, r, hl⟩ := R
  have sz : es.size = l.length := F.sz
  have el : ∀ e ∈ es.toList, ∃ k u, e.2 = Value.str k u := fun e he => by
    obtain ⟨⟨k, hk, _⟩, _⟩ := F.el e he
    cases hv : e.2 with
    | str k2 u => exact ⟨k2, u, rfl⟩
    | _ =>
      rw [hv] at hk
      cases hk
  refine Calls.call_function_entry kind_sorted plain_sorted entry_sorted (args_sorted1 _) ?_
  unfold Builtin.«sorted»
  refine wpAny_bind (m := checkCount "sorted" 1 1 _) (wpAny_pure (wpAny_bind (collect_set (A := A.in1) hh ⟨_, ho, rfl, rfl⟩ F.fit (by rw [sz]; unfold scanBound; omega) r hl fun s1 vs k1 hz g1 o1 pm => ?_)))
  have nvs : vs.length = l.length := by rw [pm.length_eq, List.length_map, Array.length_toList, sz]
  have txs : StrsAre vs (vs.map strOf) := strsAre_map vs fun v hv => by
    obtain ⟨e, he, q⟩ := List.mem_map.mp (pm.mem_iff.mp hv)
    obtain ⟨k, u, h1⟩ := el e he
    exact ⟨k, u, by rw [← q]; exact h1⟩
  refine wpAny_bind (wpAny_newList ?_ (by rw [nvs, sizeLine_eq]; omega))
  have laid : (s1.heap.push (seqObj "list" vs.toArray 0)).get? s1.heap.objs.size = some (seqObj "list" vs.toArray 0) := Heap.get?_push_size _ rfl
  refine wpAny_bind (wpAny_holding (wpAny_call_entry slot_list_sort ⟨_, laid, rfl⟩ entry_list_sort (list_sort_treeK strKind_oneLt laid txs.keysOf (fun v1 v2 rest e => keyKind_strs (by rw [← e]; exact txs)) (by rw [nvs]; exact h64) fun st pa so => ⟨_, rfl, ?_⟩) (args_list_sort _)))
  obtain ⟨ys, y1, y2, _⟩ := sorted_out_str txs pa so
  obtain ⟨c, hc⟩ := sortedHeap_at (vs := vs) (out := (arrOf st).map (·.2)) laid
  refine wpAny_pure ⟨_, rfl, hQ _ s1.heap.objs.size _ c ys (fun b u e => ?_) g1 o1 hz hc y1 (fun x => ?_) (by rw [y2.length_eq, List.length_map, nvs])⟩
  · have q := k1 b u e
    have lt := Heap.lt_size q
    show (sortedHeap (s1.heap.push (seqObj "list" vs.toArray 0)) s1.heap.objs.size vs _).get? b = some u
    rw [sortedHeap_old (Nat.ne_of_lt lt) (by rw [size_push']; exact Nat.lt_succ_of_lt lt)]
    exact Heap.get?_push_of_some _ q
  · rw [y2.mem_iff, F.mem x]
    constructor
    · intro hx
      obtain ⟨v, hv, rfl⟩ := List.mem_map.mp hx
      obtain ⟨e, he, q⟩ := List.mem_map.mp (pm.mem_iff.mp hv)
      obtain ⟨k, u, h1⟩ := el e he
      refine ⟨e, he, ?_⟩
      rw [← q, h1]
      exact Froz.is_str k u
    · rintro ⟨e, he, q⟩
      obtain ⟨k, u, h1⟩ := el e he
      rw [h1] at q
      obtain rfl := (PySem.strKind P w).inj (.str k u) x k q (Froz.is_str k u)
      exact List.mem_map.mpr ⟨e.2, pm.mem_iff.mpr (List.mem_map.mpr ⟨e, he, rfl⟩), by rw [h1] <;> rfl⟩
end
end L2
namespace L2
open PySem PySem.Spec PyProof.Rows
def SetTxO (P : Program) (w : World) (a : Addr) (l : List Str) : HO := .ext fun h => Froz.TxR P w h a l
section
variable {X : Cx}
theorem setTxO_ok {P : Program} {w : World} {H : Hp} {h : Heap} {a : Addr} {l : List Str} (R : Froz.TxR P w h a l) : ObjOk P w H h a (SetTxO P w a l) := by
  obtain ⟨D, ho, _⟩ := id R
  exact ⟨R, ⟨_, ho⟩, fun h1 h2 p k => Froz.TxR.at p k⟩
/-- set(a list of texts) -/
def rSetTx (K : PySem.W.Frag) (P : Program) (w : World) : List V → Hp → VK → Prop := fun xs H Q => ∃ (b : Addr) (zs : List Str), xs = [.ref b] ∧ SqL K H b (zs.map V.str) ∧ zs.length < 60 ∧
  ∀ (p : Addr) (H' : Hp) (ys : List Str), Fr H p → Same H H' → H' p = some (SetTxO P w p ys) → (∀ x, x ∈ ys ↔ x ∈ zs) → ys.length ≤ zs.length → Q (.ref p) H'
theorem call_setTx (hc : X.calm = true) : CallR X (.type "set") (rSetTx X.K X.prog X.w) := by
  intro pins s σ H xs us Q I r ⟨b, zs, ex, hs, hl, q⟩
  subst ex
  obtain rfl := Vals.ref1 r
  obtain ⟨its, rv, li, hz⟩ := I.list hs
  have sa : StrsAre its zs := strsAre_of rv
  have hlen := rv.length
  rw [List.length_map] at hlen
  refine Froz.call_set_tx (I.ok.hd hc) li.isList (by simpa using sa) (by rw [List.size_toArray]; omega) fun h' tk ys R m ln kp => ?_
  have hf : H s.heap.objs.size = none := I.hok.fresh (Nat.le_refl _)
  exact ⟨.ref s.heap.objs.size, _, I.laid (t' := tk) (fun c u e => kp c u (Heap.lt_size e) e) (Nat.le_refl _) (setTxO_ok R), rfl, q _ _ ys hf ((Same.refl H).new hf) upd_same m ln⟩
/-- sorted(a set of texts) -/
def rSortTx (P : Program) (w : World) : List V → Hp → VK → Prop := fun xs H Q => ∃ (a : Addr) (l : List Str), xs = [.ref a] ∧ H a = some (SetTxO P w a l) ∧ l.length < 60 ∧
  ∀ (p : Addr) (H' : Hp) (ys : List Str), Fr H p → Same H H' → H' p = some (.lst (ys.map V.str)) → (∀ x, x ∈ ys ↔ x ∈ l) → ys.length = l.length → Q (.ref p) H'
theorem cr_sortTx (hc : X.calm = true) : CallR X (.builtin "sorted") (rSortTx X.prog X.w) := by
  intro pins s σ H xs us Q I r ⟨a, l, ex, ha, hl, q⟩
  subst ex
  obtain rfl := Vals.ref1 r
  have R : Froz.TxR X.prog X.w s.heap a l := (I.hok a _ ha).1
  refine sorted_tx R (I.ok.hd hc) (by omega) fun s' p out c ys kp g o hp hg sa m ln => ?_
  have hf : H p = none := I.hok.fresh hp
  have z : (ys.map V.str).length ≤ sizeLine := by rw [List.length_map, ln, sizeLine_eq]; omega
  have J : Inv X pins σ (upd H p (.lst (ys.map V.str))) { s with heap := s'.heap, gens := s'.gens, drawn := s'.drawn, toks := s'.toks } :=
    I.call (ch := []) (Un.laid kp hp hf) (I.hok.laid kp hp ⟨z, out.toList, c, vals_of_strs sa, hg⟩) (by rw [g]; exact I.bare) (fun _ y => nomatch y)
  obtain ⟨s1, s2, s3, s4, s5⟩ := s'
  obtain rfl : s5 = s.os := o
  exact ⟨.ref p, _, J, rfl, q p _ ys hf ((Same.refl H).new hf) upd_same m ln⟩
end
end L2

/-! a head whose written part holds the interpreter's own statics, too -/
namespace L2
open PySem PySem.Spec PyProof.Rows
def partZ (n : Nat) (g : Addr → Option Obj) : PySem.W.Frag := He.frG g (He.asD g n ++ [cStatics])
def obsZ (n : Nat) (fa : List He.Fa) (fn : List He.DefD) (ex : PySem.W.Frag → Bool) (g : Addr → Option Obj) : He.AlD × Bool := (He.obsD fa fn (partZ n g), ex (partZ n g))
def hookZ (n : Nat) (fa : List He.Fa) (fn : List He.DefD) (ex : PySem.W.Frag → Bool) : PySem.W.Hook where
  α := He.AlD × Bool
  obs := fun s => obsZ n fa fn ex s.heap.get?
  val := fun _ => (He.valD fn, true)
  says := fun _ h => ∃ K : PySem.W.Frag, K.In h ∧ He.SaysD fa fn K ∧ ex K = true
  of := fun _ _ e => ⟨_, He.frG_in, congrArg Prod.fst e, congrArg Prod.snd e⟩
  keeps := fun _ _ _ ⟨K, hK, c⟩ k => ⟨K, PySem.W.Frag.In.keeps hK k, c⟩
theorem obsZ_eq {n : Nat} {fa : List He.Fa} {fn : List He.DefD} {ex : PySem.W.Frag → Bool} {g : Addr → Option Obj} {s : Shared} (h : ∀ a, g a = s.heap.get? a) : obsZ n fa fn ex g = (hookZ n fa fn ex).obs s := by
  have e : g = s.heap.get? := funext h
  rw [e]
  rfl
end L2

/-! ### C() of a class that has no __init__ of its own -/
namespace L2
open PySem PySem.Spec PyProof.Rows
/-- what the class at C must say -/
structure MkO (K : PySem.W.Frag) (C : Addr) : Prop where
  makes : PySem.W.makesIn K C = true
  init : PySem.W.findIn K (.ref C) "__init__" = some (some (.builtin "object.__init__"))
  kp : PySem.W.keepIn K (.ref C) = true
  ob : PySem.W.subIn K (.ref C) (.type "object") = some true
def mkOB (K : PySem.W.Frag) (x : Str) : Bool := PySem.W.makesIn K (He.ga K x) && (decide (PySem.W.findIn K (.ref (He.ga K x)) "__init__" = some (some (.builtin "object.__init__"))) && (PySem.W.keepIn K (.ref (He.ga K x)) && decide (PySem.W.subIn K (.ref (He.ga K x)) (.type "object") = some true)))
theorem mkOB_ok {K : PySem.W.Frag} {x : Str} (h : mkOB K x = true) : MkO K (He.ga K x) := by
  obtain ⟨h1, h⟩ := He.ba h
  obtain ⟨h2, h⟩ := He.ba h
  obtain ⟨h3, h4⟩ := He.ba h
  exact ⟨h1, of_decide_eq_true h2, h3, of_decide_eq_true h4⟩
def insB (K : PySem.W.Frag) (x : Str) : Bool := decide (PySem.W.findIn K (.ref (He.ga K x)) "__class__" = some (some (.builtin "object.__class__"))) && (decide (PySem.W.specialIn K (.builtin "object.__class__") "__get__" = some (some (.builtin "getset_descriptor.__get__"))) &&
  (decide (PySem.W.takesIn K (.builtin "object.__class__") = some true) && (decide (PySem.W.mroIn K (He.ga K x) (.type "object") = some true) && decide (PySem.W.kitOne K (.ref (He.ga K x)) (.ref (He.ga K x)) = some true))))
theorem insB_ok {K : PySem.W.Frag} {x : Str} (c : Cls K (He.ga K x)) (h : insB K x = true) : C8.InsC K (He.ga K x) := by
  obtain ⟨h1, h⟩ := He.ba h
  obtain ⟨h2, h⟩ := He.ba h
  obtain ⟨h3, h⟩ := He.ba h
  obtain ⟨h4, h5⟩ := He.ba h
  exact ⟨c, of_decide_eq_true h1, of_decide_eq_true h2, of_decide_eq_true h3, of_decide_eq_true h4, of_decide_eq_true h5⟩
def tMakeO (C : Addr) : TE := fun _ H Q => ∀ (x dx : Addr) (H2 : Hp), Fr H x → Same H H2 → H2 x = some (.ins C dx []) → Q (.ref x) H2
section
variable {X : Cx} {x : Str} {C : Addr} {p pos : Pos}
theorem pe_makeO (M : MkO X.K C) (hg : Gl X x) (hm : X.mg x = some (.ref C)) (hdb : (x == ("__debug__" : Str)) = false := by decide) : PE X (.Call (.Name x p) [] [] pos) (tMakeO C) := by
  constructor
  intro pins s σ H Q I h
  apply wpAny_Call_Name_kw
  apply ld_glob I hg hm _ hdb
  apply PySem.W.callWith_K0 I.kIn M.kp
  have I2 := Inv.made (C := C) I
  have nx : H (s.heap.objs.size + 1) = none := I.hok.fresh (Nat.le_succ _)
  have nd : H s.heap.objs.size = none := I.hok.fresh (Nat.le_refl _)
  have q := h (s.heap.objs.size + 1) s.heap.objs.size _ nx (((Same.refl H).new (o := HO.own (s.heap.objs.size + 1)) nd).new (by rw [upd_ne (Nat.ne_of_gt (Nat.lt_succ_self _))]; exact nx)) upd_same
  refine wpAny_call (make_map0 I.kIn M.makes M.init (fun self => PySem.W.Looks.of_pure (PySem.W.oi_bind self)) ?_)
  have L : PySem.W.Looks (model X.prog X.w) ((s.heap.push PySem.W.emptyDict).push (PySem.W.instObj C s.heap.objs.size)) (isInstance (.ref (s.heap.objs.size + 1)) (.type "object")) true := by
    obtain ⟨_, _, _, e, _⟩ := (show ObjOk X.prog X.w _ _ _ (.ins C s.heap.objs.size []) from I2.hok _ _ upd_same)
    have T : PySem.W.Looks (model X.prog X.w) ((s.heap.push PySem.W.emptyDict).push (PySem.W.instObj C s.heap.objs.size)) (typeOf (.ref (s.heap.objs.size + 1))) (.ref C) := fun A Q E s k q => wpAny_typeOf_ref (k _ _ e) q
    exact T.andThen (PySem.W.looks_subIn I2.kIn M.ob)
  refine codeAny_call_builtin (by decide +kernel) PySem.F.entry_object_init ?_
  refine PySem.W.check_slot (i := "object.__init__") (owner := "object") (n := "__init__") (rest := []) (by decide +kernel) (by decide +kernel) L (by unfold argsOk; kernel_rfl) ?_
  exact wpAny_pure ⟨rfl, ⟨.ref (s.heap.objs.size + 1), _, I2, rfl, q⟩⟩
end
end L2

/-! ### max and min of ints, with a default -/
namespace PySem.G94D
open PySem PySem.Spec PyProof.Rows
set_option maxRecDepth 100000

theorem mxloop {prog : Program} {w : World} {A : Around} {R : Result → Shared → Prop} {I : Addr} {fp wr : List Addr} {n : Nat} {P : Nat → Value → Prop} {St : Nat → Heap → Prop} (W : Walks prog w A.in1 I fp wr n P St) (val : Nat → Int) (hval : ∀ i v, P i v → ∃ t, v = .int (val i) t)
    (kw : List (Str × Value)) (S : Addr) (hS : S ∉ fp) : ∀ (k j : Nat) (s : Shared) (M : Int) (t : Tok) (c : Nat), n - j = k → j ≤ n → St j s.heap → (∀ i, i < j → val i ≤ M) → (∃ i, i < j ∧ val i = M) →
      s.heap.get? S = some { cls := .type "list", dict := none, data := .seq #[.int M t, .int M t] c, slots := #[] } →
      (∀ h' tk M t, (∀ i, i < n → val i ≤ M) → (∃ i, i < n ∧ val i = M) → (∀ b o, b ∉ wr → b ≠ S → s.heap.get? b = some o → h'.get? b = some o) → R (.ok (.ret (.int M t))) { s with heap := h', toks := tk }) →
      codeAny (model prog w) A (.builtin "max.loop" ⟨[.ref I, .none, .ref S], kw⟩) R s := by
  have nw : S ∉ wr := fun h => hS (W.sub _ h)
  have nm : (toString "max" ++ toString ".loop" : String) = "max.loop" := by decide
  intro k
  induction k with
  | zero =>
    intro j s M t c hk hj st all some_ at_ fin
    obtain rfl : j = n := by omega
    apply codeAny_builtin PySem.F.entry_max_loop
    rw [Around.under_plainId PySem.F.plain_max_loop _]
    show wpAny _ A.in1 (seqItems? (.ref S) >>= _) _ _ s
    apply wpAny_bind
    apply wpAny_seqItems at_ rfl
    show wpAny _ A.in1 (tryCatch (pyNext (.ref I)) _ >>= _) _ _ s
    refine wpAny_bind (wpAny_tryCatch (W.done s _ _ st fun h1 tk keep => ?_))
    show wpAny _ A.in1 (updateSeq S (fun _ => #[]) >>= _) _ _ _
    apply wpAny_bind
    refine wpAny_updateSeq (keep S _ nw at_) rfl (wpAny_bind (wpAny_letGo (wpAny_pure ?_)))
    exact fin _ tk M t all some_ fun b o h2 h3 e => (Heap.get?_update_other _ _ (Ne.symm h3)).trans (keep b o h2 e)
  | succ k ih =>
    intro j s M t c hk hj st all some_ at_ fin
    have lt : j < n := by omega
    apply codeAny_builtin PySem.F.entry_max_loop
    rw [Around.under_plainId PySem.F.plain_max_loop _]
    show wpAny _ A.in1 (seqItems? (.ref S) >>= _) _ _ s
    apply wpAny_bind
    apply wpAny_seqItems at_ rfl
    show wpAny _ A.in1 (tryCatch (pyNext (.ref I)) _ >>= _) _ _ s
    refine wpAny_bind (wpAny_tryCatch (W.item j s _ _ lt st fun v h1 tk pv st1 keep => ?_))
    obtain ⟨u, rfl⟩ := hval j v pv
    have at1 := keep S _ nw at_
    show wpAny _ A.in1 (tryCatch (holding [.int (val j) u, .int (val j) u] (richCompare .Gt (.int (val j) u) (.int M t) >>= _)) _ >>= _) _ _ _
    refine wpAny_bind (wpAny_tryCatch (wpAny_holding (wpAny_bind (richCompare_gives (op := .Gt) (typeIs_int _ _ u) (typeIs_int _ _ t) PySem.F.slot_int_gt PySem.F.entry_int_gt (PySem.F.args_int_gt_2 _ _) (gives_int_gt _ _ u t) (fun x => nomatch x) ?_))))
    refine wpAny_bind (wpAny_holding (wpAny_truthy_bool ?_))
    refine wpAny_bind (wpAny_letGo (wpAny_pure ?_))
    by_cases hb : M ≤ val j ∧ M ≠ val j
    · rw [show decide (val j > M) = true from decide_eq_true (by omega), if_pos rfl]
      apply wpAny_bind
      refine wpAny_updateSeq at1 rfl (wpAny_bind (wpAny_letGo ?_))
      rw [nm]
      refine wpAny_pure ⟨plainId_quiet PySem.F.plain_max_loop _, ih (j + 1) _ (val j) u _ (by omega) lt (W.frame _ _ _ st1 fun b hbf o e => ?_) (fun i hi => ?_) ⟨j, by omega, rfl⟩ (Heap.get?_update_self _ at1 rfl) fun h2 tk2 M2 t2 a2 s2 k2 => ?_⟩
      · exact (Heap.get?_update_other _ _ (fun h : S = b => hS (by rw [h]; exact hbf))).trans e
      · rcases Nat.lt_or_ge i j with h | h
        · have := all i h
          omega
        · obtain rfl : i = j := by omega
          exact Int.le_refl _
      · exact fin _ tk2 M2 t2 a2 s2 fun b o n1 n2 e => k2 b o n1 n2 ((Heap.get?_update_other _ _ (Ne.symm n2)).trans (keep b o n1 e))
    · rw [show decide (val j > M) = false from decide_eq_false (by omega), if_neg Bool.false_ne_true]
      refine wpAny_bind (wpAny_letGo ?_)
      rw [nm]
      obtain ⟨i0, h0, e0⟩ := some_
      refine wpAny_pure ⟨plainId_quiet PySem.F.plain_max_loop _, ih (j + 1) _ M t c (by omega) lt st1 (fun i hi => ?_) ⟨i0, by omega, e0⟩ at1 fun h2 tk2 M2 t2 a2 s2 k2 => fin _ tk2 M2 t2 a2 s2 fun b o n1 n2 e => k2 b o n1 n2 (keep b o n1 e)⟩
      rcases Nat.lt_or_ge i j with h | h
      · exact all i h
      · obtain rfl : i = j := by omega
        omega
theorem mxargs (a d : Value) : argsOk "max" ⟨[a], [(Str.ofString "default", d)]⟩ := by
  unfold argsOk
  kernel_rfl
theorem mxcall {prog : Program} {w : World} {A : Around} {E : Value → Shared → Prop} {s : Shared} {l : Addr} {xs : Array (Int × Tok)} {d : Value} {Q : Value → Shared → Prop} (hh : A.handled = none) (hl : s.heap.IsList l (intItems xs))
    (h0 : ∀ h' tk, xs.size = 0 → (∀ b o, s.heap.get? b = some o → h'.get? b = some o) → Q d { s with heap := h', toks := tk })
    (h1 : ∀ h' tk M t, (∀ i, i < xs.size → numAt xs i ≤ M) → (∃ i, i < xs.size ∧ numAt xs i = M) → (∀ b o, s.heap.get? b = some o → h'.get? b = some o) → Q (.int M t) { s with heap := h', toks := tk }) :
    wpAny (model prog w) A (call (.builtin "max") [.ref l] [("default", d)]) Q E s := by
  have nm : (toString "max" ++ toString ".loop" : String) = "max.loop" := by decide
  refine kmk_tree PySem.F.kind_max PySem.F.plain_max PySem.F.entry_max (mxargs _ _) ?_
  show wpAny _ A.in1 (Builtin.Builtins.bindParams "max" ["key", "default"] 0 ⟨[], [(Str.ofString "default", d)]⟩ >>= _) _ _ s
  refine wpAny_bind (wpAny_of_eq (show Builtin.Builtins.bindParams "max" ["key", "default"] 0 ⟨[], [(Str.ofString "default", d)]⟩ = pure [none, some d] by kernel_rfl) ?_)
  refine wpAny_bind (wpAny_pure ?_)
  refine wpAny_bind (iter_intList hl fun s2 e st hfp hlI => ?_)
  subst e
  refine wpAny_bind (wpAny_newObj_type ?_)
  have W := Walks.list (prog := prog) (w := w) (A := A.in1) hh s.heap.objs.size l hlI (intItems xs)
  have hsz : (intItems xs).size = xs.size := by simp [intItems]
  have kp : ∀ {h' : Heap} {o1 o2 : Obj}, (∀ b o, b ∉ [s.heap.objs.size] → b ≠ s.heap.objs.size + 1 → ((s.heap.push o1).push o2).get? b = some o → h'.get? b = some o) → ∀ b o, s.heap.get? b = some o → h'.get? b = some o := fun q b o e => by
    have lt := Heap.lt_size e
    refine q b o (fun hm => ?_) (Nat.ne_of_lt (Nat.lt_succ_of_lt lt)) (Heap.get?_push_of_some _ (Heap.get?_push_of_some _ e))
    rcases List.mem_cons.mp hm with e1 | hm
    · exact Nat.lt_irrefl _ (e1 ▸ lt)
    · cases hm
  generalize hS : (s.heap.push { cls := .type "list_iterator", data := .fields #[.ref l, .int 0 0] }).objs.size = S
  have eS : S = s.heap.objs.size + 1 := by rw [← hS, Heap.size_push]
  have hSf : S ∉ [s.heap.objs.size, l] := by
    intro hm
    have := hfp S hm
    have e2 : (s.heap.push { cls := .type "list_iterator", data := .fields #[.ref l, .int 0 0] }).objs.size = S := hS
    exact absurd (show S < _ from this) (by rw [e2]; exact Nat.lt_irrefl _)
  have st0 := W.frame 0 _ ((s.heap.push { cls := .type "list_iterator", data := .fields #[.ref l, .int 0 0] }).push { cls := .type "list", data := .seq #[] 0 }) st fun b _ o e => Heap.get?_push_of_some _ e
  have atS : ((s.heap.push { cls := .type "list_iterator", data := .fields #[.ref l, .int 0 0] }).push { cls := .type "list", data := .seq #[] 0 }).get? S = some { cls := .type "list", dict := none, data := .seq #[] 0, slots := #[] } := by
    rw [← hS]
    exact Heap.get?_push_size _ rfl
  have nw : S ∉ [s.heap.objs.size] := fun h => hSf (W.sub _ h)
  rw [nm]
  refine wpAny_pure ⟨plainId_quiet PySem.F.plain_max_loop _, ?_⟩
  apply codeAny_builtin PySem.F.entry_max_loop
  rw [Around.under_plainId PySem.F.plain_max_loop _]
  show wpAny _ A.in1 (seqItems? (.ref S) >>= _) _ _ _
  apply wpAny_bind
  apply wpAny_seqItems atS rfl
  show wpAny _ A.in1 (tryCatch (pyNext (.ref s.heap.objs.size)) _ >>= _) _ _ _
  rcases Nat.eq_zero_or_pos xs.size with hz | hz
  · refine wpAny_bind (wpAny_tryCatch (W.done _ _ _ (by rw [hsz, hz]; exact st0) fun h2 tk keep => ?_))
    refine wpAny_bind (wpAny_rule ?_)
    exact wpAny_pure (h0 _ tk hz (kp fun b o n1 _ e => keep b o n1 e))
  · refine wpAny_bind (wpAny_tryCatch (W.item 0 _ _ _ (by rw [hsz]; exact hz) st0 fun v h2 tk pv st1 keep => ?_))
    obtain ⟨u, rfl⟩ := intItems_at pv
    have at1 := keep S _ nw atS
    show wpAny _ A.in1 (updateSeq S (fun _ => #[.int (numAt xs 0) u, .int (numAt xs 0) u]) >>= _) _ _ _
    apply wpAny_bind
    refine wpAny_updateSeq at1 rfl ?_
    rw [nm]
    refine wpAny_pure ⟨plainId_quiet PySem.F.plain_max_loop _, mxloop W (numAt xs) (fun _ _ => intItems_at) _ S hSf _ 1 _ (numAt xs 0) u _ rfl (by rw [hsz]; exact hz) (W.frame _ _ _ st1 fun b hbf o e => ?_) (fun i hi => ?_) ⟨0, by omega, rfl⟩ (Heap.get?_update_self _ at1 rfl) fun h3 tk3 M t a3 s3 k3 => ?_⟩
    · exact (Heap.get?_update_other _ _ (fun h : S = b => hSf (by rw [h]; exact hbf))).trans e
    · obtain rfl : i = 0 := by omega
      exact Int.le_refl _
    · rw [hsz] at a3 s3
      exact h1 _ tk3 M t a3 s3 (kp fun b o n1 n2 e => k3 b o n1 (by rw [eS]; exact n2) ((Heap.get?_update_other _ _ (by rw [eS]; exact Ne.symm n2)).trans (keep b o n1 e)))

theorem mnloop {prog : Program} {w : World} {A : Around} {R : Result → Shared → Prop} {I : Addr} {fp wr : List Addr} {n : Nat} {P : Nat → Value → Prop} {St : Nat → Heap → Prop} (W : Walks prog w A.in1 I fp wr n P St) (val : Nat → Int) (hval : ∀ i v, P i v → ∃ t, v = .int (val i) t)
    (kw : List (Str × Value)) (S : Addr) (hS : S ∉ fp) : ∀ (k j : Nat) (s : Shared) (M : Int) (t : Tok) (c : Nat), n - j = k → j ≤ n → St j s.heap → (∀ i, i < j → M ≤ val i) → (∃ i, i < j ∧ val i = M) →
      s.heap.get? S = some { cls := .type "list", dict := none, data := .seq #[.int M t, .int M t] c, slots := #[] } →
      (∀ h' tk M t, (∀ i, i < n → M ≤ val i) → (∃ i, i < n ∧ val i = M) → (∀ b o, b ∉ wr → b ≠ S → s.heap.get? b = some o → h'.get? b = some o) → R (.ok (.ret (.int M t))) { s with heap := h', toks := tk }) →
      codeAny (model prog w) A (.builtin "min.loop" ⟨[.ref I, .none, .ref S], kw⟩) R s := by
  have nw : S ∉ wr := fun h => hS (W.sub _ h)
  have nm : (toString "min" ++ toString ".loop" : String) = "min.loop" := by decide
  intro k
  induction k with
  | zero =>
    intro j s M t c hk hj st all some_ at_ fin
    obtain rfl : j = n := by omega
    apply codeAny_builtin PySem.F.entry_min_loop
    rw [Around.under_plainId PySem.F.plain_min_loop _]
    show wpAny _ A.in1 (seqItems? (.ref S) >>= _) _ _ s
    apply wpAny_bind
    apply wpAny_seqItems at_ rfl
    show wpAny _ A.in1 (tryCatch (pyNext (.ref I)) _ >>= _) _ _ s
    refine wpAny_bind (wpAny_tryCatch (W.done s _ _ st fun h1 tk keep => ?_))
    show wpAny _ A.in1 (updateSeq S (fun _ => #[]) >>= _) _ _ _
    apply wpAny_bind
    refine wpAny_updateSeq (keep S _ nw at_) rfl (wpAny_bind (wpAny_letGo (wpAny_pure ?_)))
    exact fin _ tk M t all some_ fun b o h2 h3 e => (Heap.get?_update_other _ _ (Ne.symm h3)).trans (keep b o h2 e)
  | succ k ih =>
    intro j s M t c hk hj st all some_ at_ fin
    have lt : j < n := by omega
    apply codeAny_builtin PySem.F.entry_min_loop
    rw [Around.under_plainId PySem.F.plain_min_loop _]
    show wpAny _ A.in1 (seqItems? (.ref S) >>= _) _ _ s
    apply wpAny_bind
    apply wpAny_seqItems at_ rfl
    show wpAny _ A.in1 (tryCatch (pyNext (.ref I)) _ >>= _) _ _ s
    refine wpAny_bind (wpAny_tryCatch (W.item j s _ _ lt st fun v h1 tk pv st1 keep => ?_))
    obtain ⟨u, rfl⟩ := hval j v pv
    have at1 := keep S _ nw at_
    show wpAny _ A.in1 (tryCatch (holding [.int (val j) u, .int (val j) u] (richCompare .Lt (.int (val j) u) (.int M t) >>= _)) _ >>= _) _ _ _
    refine wpAny_bind (wpAny_tryCatch (wpAny_holding (wpAny_bind (richCompare_gives (op := .Lt) (typeIs_int _ _ u) (typeIs_int _ _ t) PySem.F.slot_int_lt PySem.F.entry_int_lt (PySem.F.args_int_lt_2 _ _) (gives_int_lt _ _ u t) (fun x => nomatch x) ?_))))
    refine wpAny_bind (wpAny_holding (wpAny_truthy_bool ?_))
    refine wpAny_bind (wpAny_letGo (wpAny_pure ?_))
    by_cases hb : val j ≤ M ∧ M ≠ val j
    · rw [show decide (val j < M) = true from decide_eq_true (by omega), if_pos rfl]
      apply wpAny_bind
      refine wpAny_updateSeq at1 rfl (wpAny_bind (wpAny_letGo ?_))
      rw [nm]
      refine wpAny_pure ⟨plainId_quiet PySem.F.plain_min_loop _, ih (j + 1) _ (val j) u _ (by omega) lt (W.frame _ _ _ st1 fun b hbf o e => ?_) (fun i hi => ?_) ⟨j, by omega, rfl⟩ (Heap.get?_update_self _ at1 rfl) fun h2 tk2 M2 t2 a2 s2 k2 => ?_⟩
      · exact (Heap.get?_update_other _ _ (fun h : S = b => hS (by rw [h]; exact hbf))).trans e
      · rcases Nat.lt_or_ge i j with h | h
        · have := all i h
          omega
        · obtain rfl : i = j := by omega
          exact Int.le_refl _
      · exact fin _ tk2 M2 t2 a2 s2 fun b o n1 n2 e => k2 b o n1 n2 ((Heap.get?_update_other _ _ (Ne.symm n2)).trans (keep b o n1 e))
    · rw [show decide (val j < M) = false from decide_eq_false (by omega), if_neg Bool.false_ne_true]
      refine wpAny_bind (wpAny_letGo ?_)
      rw [nm]
      obtain ⟨i0, h0, e0⟩ := some_
      refine wpAny_pure ⟨plainId_quiet PySem.F.plain_min_loop _, ih (j + 1) _ M t c (by omega) lt st1 (fun i hi => ?_) ⟨i0, by omega, e0⟩ at1 fun h2 tk2 M2 t2 a2 s2 k2 => fin _ tk2 M2 t2 a2 s2 fun b o n1 n2 e => k2 b o n1 n2 (keep b o n1 e)⟩
      rcases Nat.lt_or_ge i j with h | h
      · exact all i h
      · obtain rfl : i = j := by omega
        omega
theorem mnargs (a d : Value) : argsOk "min" ⟨[a], [(Str.ofString "default", d)]⟩ := by
  unfold argsOk
  kernel_rfl
theorem mncall {prog : Program} {w : World} {A : Around} {E : Value → Shared → Prop} {s : Shared} {l : Addr} {xs : Array (Int × Tok)} {d : Value} {Q : Value → Shared → Prop} (hh : A.handled = none) (hl : s.heap.IsList l (intItems xs))
    (h0 : ∀ h' tk, xs.size = 0 → (∀ b o, s.heap.get? b = some o → h'.get? b = some o) → Q d { s with heap := h', toks := tk })
    (h1 : ∀ h' tk M t, (∀ i, i < xs.size → M ≤ numAt xs i) → (∃ i, i < xs.size ∧ numAt xs i = M) → (∀ b o, s.heap.get? b = some o → h'.get? b = some o) → Q (.int M t) { s with heap := h', toks := tk }) :
    wpAny (model prog w) A (call (.builtin "min") [.ref l] [("default", d)]) Q E s := by
  have nm : (toString "min" ++ toString ".loop" : String) = "min.loop" := by decide
  refine kmk_tree PySem.F.kind_min PySem.F.plain_min PySem.F.entry_min (mnargs _ _) ?_
  show wpAny _ A.in1 (Builtin.Builtins.bindParams "min" ["key", "default"] 0 ⟨[], [(Str.ofString "default", d)]⟩ >>= _) _ _ s
  refine wpAny_bind (wpAny_of_eq (show Builtin.Builtins.bindParams "min" ["key", "default"] 0 ⟨[], [(Str.ofString "default", d)]⟩ = pure [none, some d] by kernel_rfl) ?_)
  refine wpAny_bind (wpAny_pure ?_)
  refine wpAny_bind (iter_intList hl fun s2 e st hfp hlI => ?_)
  subst e
  refine wpAny_bind (wpAny_newObj_type ?_)
  have W := Walks.list (prog := prog) (w := w) (A := A.in1) hh s.heap.objs.size l hlI (intItems xs)
  have hsz : (intItems xs).size = xs.size := by simp [intItems]
  have kp : ∀ {h' : Heap} {o1 o2 : Obj}, (∀ b o, b ∉ [s.heap.objs.size] → b ≠ s.heap.objs.size + 1 → ((s.heap.push o1).push o2).get? b = some o → h'.get? b = some o) → ∀ b o, s.heap.get? b = some o → h'.get? b = some o := fun q b o e => by
    have lt := Heap.lt_size e
    refine q b o (fun hm => ?_) (Nat.ne_of_lt (Nat.lt_succ_of_lt lt)) (Heap.get?_push_of_some _ (Heap.get?_push_of_some _ e))
    rcases List.mem_cons.mp hm with e1 | hm
    · exact Nat.lt_irrefl _ (e1 ▸ lt)
    · cases hm
  generalize hS : (s.heap.push { cls := .type "list_iterator", data := .fields #[.ref l, .int 0 0] }).objs.size = S
  have eS : S = s.heap.objs.size + 1 := by rw [← hS, Heap.size_push]
  have hSf : S ∉ [s.heap.objs.size, l] := by
    intro hm
    have := hfp S hm
    have e2 : (s.heap.push { cls := .type "list_iterator", data := .fields #[.ref l, .int 0 0] }).objs.size = S := hS
    exact absurd (show S < _ from this) (by rw [e2]; exact Nat.lt_irrefl _)
  have st0 := W.frame 0 _ ((s.heap.push { cls := .type "list_iterator", data := .fields #[.ref l, .int 0 0] }).push { cls := .type "list", data := .seq #[] 0 }) st fun b _ o e => Heap.get?_push_of_some _ e
  have atS : ((s.heap.push { cls := .type "list_iterator", data := .fields #[.ref l, .int 0 0] }).push { cls := .type "list", data := .seq #[] 0 }).get? S = some { cls := .type "list", dict := none, data := .seq #[] 0, slots := #[] } := by
    rw [← hS]
    exact Heap.get?_push_size _ rfl
  have nw : S ∉ [s.heap.objs.size] := fun h => hSf (W.sub _ h)
  rw [nm]
  refine wpAny_pure ⟨plainId_quiet PySem.F.plain_min_loop _, ?_⟩
  apply codeAny_builtin PySem.F.entry_min_loop
  rw [Around.under_plainId PySem.F.plain_min_loop _]
  show wpAny _ A.in1 (seqItems? (.ref S) >>= _) _ _ _
  apply wpAny_bind
  apply wpAny_seqItems atS rfl
  show wpAny _ A.in1 (tryCatch (pyNext (.ref s.heap.objs.size)) _ >>= _) _ _ _
  rcases Nat.eq_zero_or_pos xs.size with hz | hz
  · refine wpAny_bind (wpAny_tryCatch (W.done _ _ _ (by rw [hsz, hz]; exact st0) fun h2 tk keep => ?_))
    refine wpAny_bind (wpAny_rule ?_)
    exact wpAny_pure (h0 _ tk hz (kp fun b o n1 _ e => keep b o n1 e))
  · refine wpAny_bind (wpAny_tryCatch (W.item 0 _ _ _ (by rw [hsz]; exact hz) st0 fun v h2 tk pv st1 keep => ?_))
    obtain ⟨u, rfl⟩ := intItems_at pv
    have at1 := keep S _ nw atS
    show wpAny _ A.in1 (updateSeq S (fun _ => #[.int (numAt xs 0) u, .int (numAt xs 0) u]) >>= _) _ _ _
    apply wpAny_bind
    refine wpAny_updateSeq at1 rfl ?_
    rw [nm]
    refine wpAny_pure ⟨plainId_quiet PySem.F.plain_min_loop _, mnloop W (numAt xs) (fun _ _ => intItems_at) _ S hSf _ 1 _ (numAt xs 0) u _ rfl (by rw [hsz]; exact hz) (W.frame _ _ _ st1 fun b hbf o e => ?_) (fun i hi => ?_) ⟨0, by omega, rfl⟩ (Heap.get?_update_self _ at1 rfl) fun h3 tk3 M t a3 s3 k3 => ?_⟩
    · exact (Heap.get?_update_other _ _ (fun h : S = b => hSf (by rw [h]; exact hbf))).trans e
    · obtain rfl : i = 0 := by omega
      exact Int.le_refl _
    · rw [hsz] at a3 s3
      exact h1 _ tk3 M t a3 s3 (kp fun b o n1 n2 e => k3 b o n1 (by rw [eS]; exact n2) ((Heap.get?_update_other _ _ (by rw [eS]; exact Ne.symm n2)).trans (keep b o n1 e)))
end PySem.G94D
namespace L2
open PySem PySem.Spec PyProof.Rows
section
variable {X : Cx}
/-- max(xs, default=d), xs a list of ints -/
def rMaxD (K : PySem.W.Frag) : List V → List V → Hp → VK → Prop := fun vs zs H Q => ∃ (a : Addr) (ns : List Int) (d : V), vs = [V.ref a] ∧ zs = [d] ∧ SqL K H a (ns.map V.int) ∧ (ns = [] → Q d H) ∧ ∀ m, m ∈ ns → (∀ y, y ∈ ns → y ≤ m) → Q (.int m) H
theorem cr_maxD (hc : X.calm = true) : CallRK X (.builtin "max") [Str.ofString "default"] (rMaxD X.K) := by
  intro pins s σ H vs zs us ws Q I r rz h
  obtain ⟨a, ns, d, rfl, rfl, hs, q0, q1⟩ := h
  obtain ⟨its, rv, hl, _⟩ := I.list hs
  rw [Vals.ref1 r]
  obtain ⟨dv, rfl, rd⟩ := vals1 rz
  obtain ⟨xs, e⟩ := rv.ints.allInts.items
  have hn : numsOf (intItems xs).toList = ns := by rw [← e]; exact rv.ints.numsOf
  rw [nums_intItems] at hn
  have hl2 := hl.isList
  rw [e] at hl2
  have sz : xs.size = ns.length := by rw [← hn, List.length_map, Array.length_toList]
  show wpAny _ _ (call (.builtin "max") [.ref a] [(Str.ofString "default", dv)]) _ _ _
  refine PySem.G94D.mxcall (I.ok.hd hc) hl2 (fun h' tk hz hk => ?_) fun h' tk M t ha hsm hk => ?_
  · exact ⟨d, H, I.kept hk, rd, q0 (List.eq_nil_of_length_eq_zero (by omega))⟩
  · refine ⟨.int M, H, I.kept hk, ⟨_, rfl⟩, q1 M ?_ fun y hy => ?_⟩
    · obtain ⟨i, hi, e2⟩ := hsm
      rw [← e2, numAt_eq, ← hn]
      exact PySem.getD_mem (by rw [List.length_map, Array.length_toList]; exact hi)
    · rw [← hn] at hy
      obtain ⟨j, hj, rfl⟩ := mem_getD hy
      rw [List.length_map, Array.length_toList] at hj
      rw [← numAt_eq]
      exact ha j hj
/-- min(xs, default=d), xs a list of ints -/
def rMinD (K : PySem.W.Frag) : List V → List V → Hp → VK → Prop := fun vs zs H Q => ∃ (a : Addr) (ns : List Int) (d : V), vs = [V.ref a] ∧ zs = [d] ∧ SqL K H a (ns.map V.int) ∧ (ns = [] → Q d H) ∧ ∀ m, m ∈ ns → (∀ y, y ∈ ns → m ≤ y) → Q (.int m) H
theorem cr_minD (hc : X.calm = true) : CallRK X (.builtin "min") [Str.ofString "default"] (rMinD X.K) := by
  intro pins s σ H vs zs us ws Q I r rz h
  obtain ⟨a, ns, d, rfl, rfl, hs, q0, q1⟩ := h
  obtain ⟨its, rv, hl, _⟩ := I.list hs
  rw [Vals.ref1 r]
  obtain ⟨dv, rfl, rd⟩ := vals1 rz
  obtain ⟨xs, e⟩ := rv.ints.allInts.items
  have hn : numsOf (intItems xs).toList = ns := by rw [← e]; exact rv.ints.numsOf
  rw [nums_intItems] at hn
  have hl2 := hl.isList
  rw [e] at hl2
  have sz : xs.size = ns.length := by rw [← hn, List.length_map, Array.length_toList]
  show wpAny _ _ (call (.builtin "min") [.ref a] [(Str.ofString "default", dv)]) _ _ _
  refine PySem.G94D.mncall (I.ok.hd hc) hl2 (fun h' tk hz hk => ?_) fun h' tk M t ha hsm hk => ?_
  · exact ⟨d, H, I.kept hk, rd, q0 (List.eq_nil_of_length_eq_zero (by omega))⟩
  · refine ⟨.int M, H, I.kept hk, ⟨_, rfl⟩, q1 M ?_ fun y hy => ?_⟩
    · obtain ⟨i, hi, e2⟩ := hsm
      rw [← e2, numAt_eq, ← hn]
      exact PySem.getD_mem (by rw [List.length_map, Array.length_toList]; exact hi)
    · rw [← hn] at hy
      obtain ⟨j, hj, rfl⟩ := mem_getD hy
      rw [List.length_map, Array.length_toList] at hj
      rw [← numAt_eq]
      exact ha j hj
end
end L2

local macro_rules | `(tactic| walk_at "hp") => `(tactic| first
  | assumption
  | (apply L2.Same.at; assumption; walk_at "hp")
  | (apply L2.But.at; assumption; (walk_at "ne"); walk_at "hp")
  | (apply L2.But.kind; assumption; (walk_at "hp"); (walk_at "hp"); (intro z; cases z))
  | (apply L2.But2.at; assumption; (walk_at "ne"); (walk_at "ne"); walk_at "hp"))
local macro_rules | `(tactic| walk_at "ne") => `(tactic| first
  | assumption
  | exact Ne.symm (by assumption)
  | exact L2.neF (by assumption) (by walk_at "hp")
  | exact L2.neF2 (by assumption) (by walk_at "hp"))
local macro_rules | `(tactic| walk_at "sm") => `(tactic| first
  | exact L2.Same.refl _
  | assumption
  | (refine L2.Same.trans ?_ (by assumption); walk_at "sm")
  | (refine L2.Same.but ?_ (by assumption) (by walk_at "fr"); walk_at "sm"))
local macro_rules | `(tactic| walk_at "fr") => `(tactic| first
  | assumption
  | exact L2.Fr.back (by assumption) (by walk_at "sm"))
local macro_rules | `(tactic| walk_at "bt") => `(tactic| first
  | assumption
  | (refine L2.But.same ?_ (by assumption); walk_at "bt")
  | exact L2.But.before (by assumption) (by walk_at "sm")
  | (refine L2.But.trans ?_ (by assumption); walk_at "bt"))
local macro_rules | `(tactic| walk_at "b2") => `(tactic| first
  | assumption
  | exact L2.But2.refl
  | (refine L2.But2.trans ?_ (L2.Same.two (by assumption)); walk_at "b2")
  | (refine L2.But2.trans ?_ (L2.But.two (by assumption)); walk_at "b2")
  | (refine L2.But2.trans ?_ (L2.But.two' (by assumption)); walk_at "b2")
  | (refine L2.But2.trans ?_ (by assumption); walk_at "b2"))
local macro_rules | `(tactic| walk_at "sz") => `(tactic| first
  | exact Nat.le_of_ble_eq_true rfl
  | ((try simp only [List.length_append, List.length_map, List.length_cons, List.length_nil, List.length_take, List.length_drop, List.length_dropLast, List.length_reverse]); omega))
local macro_rules | `(tactic| walk_at "at") => `(tactic| first
  | rfl
  | assumption
  | exact L2.atI_nat (by first | rfl | assumption))
/-! ### the words of a reading: sd a side condition, rd one step, rds as many as go by themselves, ri a test -/
local macro_rules | `(tactic| walk_at "sd") => `(tactic| first
  | omega
  | (show (0 : Int) < _; omega)
  | (show (0 : Int) ≤ _; omega)
  | exact .inl ⟨by omega, by omega⟩
  | exact .inr ⟨by omega, by omega⟩
  | exact ⟨by decide, by decide⟩
  | exact ⟨by omega, by omega⟩
  | exact L2.small_size (Nat.le_of_ble_eq_true rfl)
  | exact L2.wide_div (b := 64) (by omega) (by omega) (by decide) (by decide)
  | assumption
  | exact ⟨_, by assumption⟩
  | exact .of (by walk_at "hp")
  | exact .inl (.of (by walk_at "hp"))
  | exact .inr (.of (by walk_at "hp"))
  | walk_at "hp"
  | exact L2.szlt (by walk_at "sz"))
local macro_rules | `(tactic| walk_at "rd") => `(tactic| first
  | refine ⟨_, rfl, ?_⟩
  | refine ⟨_, _, rfl, rfl, ?_⟩
  | refine ⟨_, _, rfl, ?_⟩
  | refine ⟨_, _, _, rfl, ?_⟩
  | refine ⟨_, _, _, _, rfl, ?_⟩
  | refine ⟨_, _, _, _, _, rfl, ?_⟩
  | refine ⟨_, _, _, _, _, _, rfl, ?_⟩
  | refine ⟨rfl, ?_⟩
  | refine L2.iteF ?_
  | refine L2.iteT ?_
  | refine And.intro (by walk_at "sd") ?_
  | refine ⟨_, _, _, _, true, rfl, .ty _, .base (.int _), L2.kit_ty (by decide +kernel), ?_⟩
  | refine ⟨_, _, _, _, false, rfl, .ty _, .base (.int _), L2.kit_ty (by decide +kernel), ?_⟩
  | refine ⟨_, _, _, _, true, rfl, .ty _, .base (.bl _), L2.kit_ty (by decide +kernel), ?_⟩
  | refine ⟨_, _, _, _, false, rfl, .ty _, .base (.bl _), L2.kit_ty (by decide +kernel), ?_⟩
  | refine ⟨_, _, _, _, true, rfl, .ty _, .base (.str _), L2.kit_ty (by decide +kernel), ?_⟩
  | refine ⟨_, _, _, _, false, rfl, .ty _, .base (.str _), L2.kit_ty (by decide +kernel), ?_⟩
  | refine ⟨_, _, _, _, true, rfl, .ty _, .base .non, L2.kit_ty (by decide +kernel), ?_⟩
  | refine ⟨_, _, _, _, false, rfl, .ty _, .base .non, L2.kit_ty (by decide +kernel), ?_⟩)
local macro_rules | `(tactic| walk_at "rds") => `(tactic| repeat walk_at "rd")
local macro_rules | `(tactic| walk_at "rz") => `(tactic| repeat first
  | walk_at "rd"
  | refine fun (_ : Int) => ?_
  | refine fun (_ : (_ : Int) ≤ _) => ?_
  | refine fun (_ : (_ : Int) < _) => ?_)
local macro_rules | `(tactic| walk_at "ri") => `(tactic| first
  | refine L2.iteV ?_ ?_
  | refine L2.iteNV ?_ ?_
  | refine L2.iteD ?_ ?_
  | refine L2.iteND ?_ ?_
  | refine L2.iteB ?_ ?_)
local macro_rules | `(tactic| walk_at "nf") => `(tactic| try dsimp only [L2.start, List.set_cons_zero, List.set_cons_succ])
local macro_rules | `(tactic| walk_at "g94len") => `(tactic| (intro vs H Q E h; first
  | exact False.elim h
  | (obtain ⟨e, _⟩ := h; exact congrArg List.length e)
  | (obtain ⟨_, e, _⟩ := h; exact congrArg List.length e)
  | (obtain ⟨_, _, e, _⟩ := h; exact congrArg List.length e)
  | (obtain ⟨_, _, _, e, _⟩ := h; exact congrArg List.length e)
  | (obtain ⟨_, _, _, _, e, _⟩ := h; exact congrArg List.length e)
  | (obtain ⟨_, _, _, _, _, e, _⟩ := h; exact congrArg List.length e)
  | (obtain ⟨_, _, _, _, _, _, e, _⟩ := h; exact congrArg List.length e)
  | (obtain ⟨_, _, _, _, _, _, _, e, _⟩ := h; exact congrArg List.length e)
  | (obtain ⟨_, _, _, _, _, _, _, _, e, _⟩ := h; exact congrArg List.length e)
  | (obtain ⟨_, _, _, _, _, _, _, _, _, e, _⟩ := h; exact congrArg List.length e)
  | (obtain ⟨_, _, _, _, _, _, _, _, _, _, e, _⟩ := h; exact congrArg List.length e)
  | (obtain ⟨_, _, _, _, _, _, _, _, _, _, _, e, _⟩ := h; exact congrArg List.length e)
  | (obtain ⟨_, _, _, _, _, _, _, _, _, _, _, _, e, _⟩ := h; exact congrArg List.length e)
  | (obtain ⟨_, _, _, _, _, _, _, _, _, _, _, _, _, e, _⟩ := h; exact congrArg List.length e)
  | (obtain ⟨_, _, _, _, _, _, _, _, _, _, _, _, _, _, e, _⟩ := h; exact congrArg List.length e)))
local macro_rules | `(tactic| walk_at "g94tr") => `(tactic| (set_option pp.deepTerms false in set_option pp.deepTerms.threshold 8 in trace_state))
local macro_rules | `(tactic| walk_at "wk") => `(tactic| first
  | walk_at "rd"
  | refine ⟨_, _, _, _, rfl, rfl, .of (by walk_at "hp"), (by walk_at "at"), ?_⟩
  | refine ⟨_, _, _, _, _, rfl, (by walk_at "hp"), (by assumption), (by assumption), (by walk_at "lk"), ?_⟩
  | refine ⟨_, _, _, rfl, rfl, (by walk_at "hp"), L2.szlt (by walk_at "sz"), ?_⟩
  | refine ⟨_, _, _, rfl, (by walk_at "hp"), (by walk_at "lk"), ?_⟩
  | refine ⟨_, _, _, _, rfl, (by walk_at "hp"), (by assumption), (by assumption), Nat.le_of_ble_eq_true rfl, _, (by walk_at "pf"), ?_⟩
  | refine ⟨_, _, _, _, true, rfl, .ty _, .base (.lst (by walk_at "hp")), L2.kit_ty (by decide +kernel), ?_⟩
  | refine ⟨_, _, _, _, true, rfl, .ty _, .base (.tup (by walk_at "hp")), L2.kit_ty (by decide +kernel), ?_⟩
  | refine ⟨_, _, _, _, true, rfl, .ty _, .base (.dK (by walk_at "hp")), L2.kit_ty (by decide +kernel), ?_⟩
  | refine ⟨_, _, _, _, true, rfl, .ty _, .base (.dT (by walk_at "hp")), L2.kit_ty (by decide +kernel), ?_⟩
  | refine ⟨_, _, _, rfl, (by walk_at "hp"), ?_⟩
  | refine ⟨_, _, rfl, (by walk_at "hp"), ?_⟩
  | refine ⟨.inl ⟨rfl, _, .of (by walk_at "hp")⟩, ?_⟩
  | refine ⟨_, _, rfl, .inl (.of (by walk_at "hp")), ?_⟩
  | refine ⟨_, _, rfl, .of (by walk_at "hp"), ?_⟩
  | refine ⟨_, _, _, _, rfl, rfl, (by walk_at "hp"), (by walk_at "hp"), L2.small_size (by walk_at "sz"), ?_⟩
  | refine ⟨_, _, _, rfl, rfl, (by walk_at "hp"), ⟨by decide, by decide, L2.small_size (by walk_at "sz")⟩, ?_⟩
  | refine fun p H' (f : L2.Fr _ _) (s : L2.Same _ _) (h : _ = some _) => ?_
  | refine fun H' (m : L2.But _ _ _) (h : _ = some _) => ?_)
local macro_rules | `(tactic| walk_at "wks") => `(tactic| repeat walk_at "wk")
local macro_rules | `(tactic| walk_at "lk") => `(tactic| first
  | exact L2.lkE (by decide +kernel)
  | exact L2.lkN (by decide +kernel) (by walk_at "lk")
  | rfl
  | assumption)
local macro_rules | `(tactic| walk_at "pf") => `(tactic| first
  | exact L2.pfNil
  | exact L2.pfE (by decide +kernel)
  | exact L2.pfN (by decide +kernel) (by walk_at "pf"))
namespace G94
open PySem PySem.Spec PyProof.Rows L2
def top (i : Nat) : Stmt := PySem.Challenge.pw_lampcues_k83_refused_lamps.main.body.getD i (.Pass ⟨0, 0, 0, 0⟩)
abbrev s_MovesBright_init : Stmt := inClass (top 10) 0
theorem sc_MovesBright_init : FnScope ["self", "words", "lamp", "number"] ["self", "words", "lamp", "number"] (defScope s_MovesBright_init) := ⟨rfl, rfl, rfl, by decide +kernel, rfl, by decide +kernel, by decide +kernel⟩
abbrev s_is_time : Stmt := top 13
theorem sc_is_time : FnScope ["thing"] ["thing"] (defScope s_is_time) := ⟨rfl, rfl, rfl, by decide +kernel, rfl, by decide +kernel, by decide +kernel⟩
abbrev s_is_amid : Stmt := top 18
theorem sc_is_amid : FnScope ["thing", "least", "most"] ["thing", "least", "most"] (defScope s_is_amid) := ⟨rfl, rfl, rfl, by decide +kernel, rfl, by decide +kernel, by decide +kernel⟩
abbrev s_is_lamp : Stmt := top 19
theorem sc_is_lamp : FnScope ["thing", "sign"] ["thing"] (defScope s_is_lamp) := ⟨rfl, rfl, rfl, by decide +kernel, rfl, by decide +kernel, by decide +kernel⟩
abbrev s_is_slot : Stmt := top 20
theorem sc_is_slot : FnScope ["thing"] ["thing"] (defScope s_is_slot) := ⟨rfl, rfl, rfl, by decide +kernel, rfl, by decide +kernel, by decide +kernel⟩
abbrev s_is_worth : Stmt := top 21
theorem sc_is_worth : FnScope ["thing"] ["thing"] (defScope s_is_worth) := ⟨rfl, rfl, rfl, by decide +kernel, rfl, by decide +kernel, by decide +kernel⟩
abbrev s_look_at_slots : Stmt := top 22
theorem sc_look_at_slots : FnScope ["told", "slot"] ["told"] (defScope s_look_at_slots) := ⟨rfl, rfl, rfl, by decide +kernel, rfl, by decide +kernel, by decide +kernel⟩
abbrev s_look_at_worths : Stmt := top 23
theorem sc_look_at_worths : FnScope ["told", "worth"] ["told"] (defScope s_look_at_worths) := ⟨rfl, rfl, rfl, by decide +kernel, rfl, by decide +kernel, by decide +kernel⟩
abbrev s_Part_init : Stmt := inClass (top 24) 0
theorem sc_Part_init : FnScope ["self", "tells", "alone", "rise", "fall", "wait"] ["self", "tells", "alone", "rise", "fall", "wait"] (defScope s_Part_init) := ⟨rfl, rfl, rfl, by decide +kernel, rfl, by decide +kernel, by decide +kernel⟩
abbrev s_Part_slots : Stmt := inClass (top 24) 2
theorem sc_Part_slots : FnScope ["self", "slot"] ["self"] (defScope s_Part_slots) := ⟨rfl, rfl, rfl, by decide +kernel, rfl, by decide +kernel, by decide +kernel⟩
abbrev s_are_parts : Stmt := top 25
theorem sc_are_parts : FnScope ["parts", "told", "part", "slot"] ["parts"] (defScope s_are_parts) := ⟨rfl, rfl, rfl, by decide +kernel, rfl, by decide +kernel, by decide +kernel⟩
abbrev s_Cue_init : Stmt := inClass (top 26) 0
theorem sc_Cue_init : FnScope ["self", "number", "parts", "stops", "follow"] ["self", "number", "parts", "stops", "follow"] (defScope s_Cue_init) := ⟨rfl, rfl, rfl, by decide +kernel, rfl, by decide +kernel, by decide +kernel⟩
abbrev s_cue_list : Stmt := top 27
theorem sc_cue_list : FnScope ["cues", "last", "cue"] ["cues"] (defScope s_cue_list) := ⟨rfl, rfl, rfl, by decide +kernel, rfl, by decide +kernel, by decide +kernel⟩
abbrev s_good_number : Stmt := top 29
theorem sc_good_number : FnScope ["number"] ["number"] (defScope s_good_number) := ⟨rfl, rfl, rfl, by decide +kernel, rfl, by decide +kernel, by decide +kernel⟩
abbrev s_put_in_look : Stmt := top 30
theorem sc_put_in_look : FnScope ["look", "told", "slot", "worth"] ["look", "told"] (defScope s_put_in_look) := ⟨rfl, rfl, rfl, by decide +kernel, rfl, by decide +kernel, by decide +kernel⟩
abbrev s_cue_at : Stmt := top 31
theorem sc_cue_at : FnScope ["cues", "number", "there", "asked", "cue"] ["cues", "number"] (defScope s_cue_at) := ⟨rfl, rfl, rfl, by decide +kernel, rfl, by decide +kernel, by decide +kernel⟩
abbrev s_carried : Stmt := top 32
theorem sc_carried : FnScope ["cues", "number", "there", "asked", "look", "cue", "part"] ["cues", "number"] (defScope s_carried) := ⟨rfl, rfl, rfl, by decide +kernel, rfl, by decide +kernel, by decide +kernel⟩
abbrev s_shown : Stmt := top 33
theorem sc_shown : FnScope ["cues", "number", "look", "cue", "part"] ["cues", "number"] (defScope s_shown) := ⟨rfl, rfl, rfl, by decide +kernel, rfl, by decide +kernel, by decide +kernel⟩
abbrev s_lamps_of : Stmt := top 43
theorem sc_lamps_of : FnScope ["lamps", "lamp"] ["lamps"] (defScope s_lamps_of) := ⟨rfl, rfl, rfl, by decide +kernel, rfl, by decide +kernel, by decide +kernel⟩
abbrev s_is_dark : Stmt := top 44
theorem sc_is_dark : FnScope ["look", "lamp"] ["look", "lamp"] (defScope s_is_dark) := ⟨rfl, rfl, rfl, by decide +kernel, rfl, by decide +kernel, by decide +kernel⟩
abbrev s_stance : Stmt := top 45
theorem sc_stance : FnScope ["look", "lamp", "found", "slot", "worth"] ["look", "lamp"] (defScope s_stance) := ⟨rfl, rfl, rfl, by decide +kernel, rfl, by decide +kernel, by decide +kernel⟩
abbrev s_lamp_wishes : Stmt := top 46
theorem sc_lamp_wishes : FnScope ["cues", "looks", "lamp", "found", "first", "stood", "k", "here"] ["cues", "looks", "lamp"] (defScope s_lamp_wishes) := ⟨rfl, rfl, rfl, by decide +kernel, rfl, by decide +kernel, by decide +kernel⟩
abbrev s_wishes : Stmt := top 47
theorem sc_wishes : FnScope ["cues", "lamps", "kept", "names", "looks", "found", "lamp", "cue"] ["cues", "lamps"] (defScope s_wishes) := ⟨rfl, rfl, rfl, by decide +kernel, rfl, by decide +kernel, by decide +kernel⟩
abbrev s_moved_dark : Stmt := top 52
theorem sc_moved_dark : FnScope ["cues", "lamps", "told", "kept", "numbers", "shows", "looks", "lamp", "mine", "moves", "cue", "wish", "look", "here"] ["cues", "lamps"] (defScope s_moved_dark) := ⟨rfl, rfl, rfl, by decide +kernel, rfl, by decide +kernel, by decide +kernel⟩
abbrev s_l_cell_at : Stmt := top 54
theorem sc_l_cell_at : FnScope ["_law_script", "_law_k"] ["_law_script", "_law_k"] (defScope s_l_cell_at) := ⟨rfl, rfl, rfl, by decide +kernel, rfl, by decide +kernel, by decide +kernel⟩
abbrev s_l_drawn : Stmt := top 55
theorem sc_l_drawn : FnScope ["_law_script", "_law_k"] ["_law_script", "_law_k"] (defScope s_l_drawn) := ⟨rfl, rfl, rfl, by decide +kernel, rfl, by decide +kernel, by decide +kernel⟩
abbrev s_l_name : Stmt := top 56
theorem sc_l_name : FnScope ["_law_number", "_law_form", "_law_at"] ["_law_number", "_law_form"] (defScope s_l_name) := ⟨rfl, rfl, rfl, by decide +kernel, rfl, by decide +kernel, by decide +kernel⟩
abbrev s_l_no_lamp : Stmt := top 57
theorem sc_l_no_lamp : FnScope ["_law_number"] ["_law_number"] (defScope s_l_no_lamp) := ⟨rfl, rfl, rfl, by decide +kernel, rfl, by decide +kernel, by decide +kernel⟩
abbrev s_l_truths : Stmt := top 58
theorem sc_l_truths : FnScope ["_law_way", "_law_cues", "_law_lamps", "_law_caught", "e", "_law_found"] ["_law_way", "_law_cues", "_law_lamps"] (defScope s_l_truths) := ⟨rfl, rfl, rfl, by decide +kernel, rfl, by decide +kernel, by decide +kernel⟩
abbrev s_l_both : Stmt := top 59
theorem sc_l_both : FnScope ["_law_cues", "_law_lamps", "_law_due"] ["_law_cues", "_law_lamps", "_law_due"] (defScope s_l_both) := ⟨rfl, rfl, rfl, by decide +kernel, rfl, by decide +kernel, by decide +kernel⟩
abbrev s_law : Stmt := top 60
theorem sc_law : FnScope ["_law_script", "_law_form", "_law_lamp", "_law_other", "_law_first", "_law_second", "_law_lit", "_law_cues", "_law_bright", "_law_k", "_law_number", "_law_lamps", "_law_none", "_law_thing", "_law_error"] ["_law_script"] (defScope s_law) := ⟨rfl, rfl, rfl, by decide +kernel, rfl, by decide +kernel, by decide +kernel⟩
def d_MovesBright_init : He.DefD := ⟨("MovesBright", some "__init__"), "__init__", "MovesBright.__init__", defArgs s_MovesBright_init, defBody s_MovesBright_init, defScope s_MovesBright_init, [], []⟩
def d_is_time : He.DefD := ⟨("is_time", none), "is_time", "is_time", defArgs s_is_time, defBody s_is_time, defScope s_is_time, [], []⟩
def d_is_amid : He.DefD := ⟨("is_amid", none), "is_amid", "is_amid", defArgs s_is_amid, defBody s_is_amid, defScope s_is_amid, [], []⟩
def d_is_lamp : He.DefD := ⟨("is_lamp", none), "is_lamp", "is_lamp", defArgs s_is_lamp, defBody s_is_lamp, defScope s_is_lamp, [], []⟩
def d_is_slot : He.DefD := ⟨("is_slot", none), "is_slot", "is_slot", defArgs s_is_slot, defBody s_is_slot, defScope s_is_slot, [], []⟩
def d_is_worth : He.DefD := ⟨("is_worth", none), "is_worth", "is_worth", defArgs s_is_worth, defBody s_is_worth, defScope s_is_worth, [], []⟩
def d_look_at_slots : He.DefD := ⟨("look_at_slots", none), "look_at_slots", "look_at_slots", defArgs s_look_at_slots, defBody s_look_at_slots, defScope s_look_at_slots, [], []⟩
def d_look_at_worths : He.DefD := ⟨("look_at_worths", none), "look_at_worths", "look_at_worths", defArgs s_look_at_worths, defBody s_look_at_worths, defScope s_look_at_worths, [], []⟩
def d_Part_init : He.DefD := ⟨("Part", some "__init__"), "__init__", "Part.__init__", defArgs s_Part_init, defBody s_Part_init, defScope s_Part_init, [.int 0, .int 0, .int 0], []⟩
def d_Part_slots : He.DefD := ⟨("Part", some "slots"), "slots", "Part.slots", defArgs s_Part_slots, defBody s_Part_slots, defScope s_Part_slots, [], []⟩
def d_are_parts : He.DefD := ⟨("are_parts", none), "are_parts", "are_parts", defArgs s_are_parts, defBody s_are_parts, defScope s_are_parts, [], []⟩
def d_Cue_init : He.DefD := ⟨("Cue", some "__init__"), "__init__", "Cue.__init__", defArgs s_Cue_init, defBody s_Cue_init, defScope s_Cue_init, [.bl false, .non], []⟩
def d_cue_list : He.DefD := ⟨("cue_list", none), "cue_list", "cue_list", defArgs s_cue_list, defBody s_cue_list, defScope s_cue_list, [], []⟩
def d_good_number : He.DefD := ⟨("good_number", none), "good_number", "good_number", defArgs s_good_number, defBody s_good_number, defScope s_good_number, [], []⟩
def d_put_in_look : He.DefD := ⟨("put_in_look", none), "put_in_look", "put_in_look", defArgs s_put_in_look, defBody s_put_in_look, defScope s_put_in_look, [], []⟩
def d_cue_at : He.DefD := ⟨("cue_at", none), "cue_at", "cue_at", defArgs s_cue_at, defBody s_cue_at, defScope s_cue_at, [], []⟩
def d_carried : He.DefD := ⟨("carried", none), "carried", "carried", defArgs s_carried, defBody s_carried, defScope s_carried, [], []⟩
def d_shown : He.DefD := ⟨("shown", none), "shown", "shown", defArgs s_shown, defBody s_shown, defScope s_shown, [], []⟩
def d_lamps_of : He.DefD := ⟨("lamps_of", none), "lamps_of", "lamps_of", defArgs s_lamps_of, defBody s_lamps_of, defScope s_lamps_of, [], []⟩
def d_is_dark : He.DefD := ⟨("is_dark", none), "is_dark", "is_dark", defArgs s_is_dark, defBody s_is_dark, defScope s_is_dark, [], []⟩
def d_stance : He.DefD := ⟨("stance", none), "stance", "stance", defArgs s_stance, defBody s_stance, defScope s_stance, [], []⟩
def d_lamp_wishes : He.DefD := ⟨("lamp_wishes", none), "lamp_wishes", "lamp_wishes", defArgs s_lamp_wishes, defBody s_lamp_wishes, defScope s_lamp_wishes, [], []⟩
def d_wishes : He.DefD := ⟨("wishes", none), "wishes", "wishes", defArgs s_wishes, defBody s_wishes, defScope s_wishes, [], []⟩
def d_moved_dark : He.DefD := ⟨("moved_dark", none), "moved_dark", "moved_dark", defArgs s_moved_dark, defBody s_moved_dark, defScope s_moved_dark, [], []⟩
def d_l_cell_at : He.DefD := ⟨("_law_cell_at", none), "_law_cell_at", "_law_cell_at", defArgs s_l_cell_at, defBody s_l_cell_at, defScope s_l_cell_at, [], []⟩
def d_l_drawn : He.DefD := ⟨("_law_drawn", none), "_law_drawn", "_law_drawn", defArgs s_l_drawn, defBody s_l_drawn, defScope s_l_drawn, [], []⟩
def d_l_name : He.DefD := ⟨("_law_name", none), "_law_name", "_law_name", defArgs s_l_name, defBody s_l_name, defScope s_l_name, [], []⟩
def d_l_no_lamp : He.DefD := ⟨("_law_no_lamp", none), "_law_no_lamp", "_law_no_lamp", defArgs s_l_no_lamp, defBody s_l_no_lamp, defScope s_l_no_lamp, [], []⟩
def d_l_truths : He.DefD := ⟨("_law_truths", none), "_law_truths", "_law_truths", defArgs s_l_truths, defBody s_l_truths, defScope s_l_truths, [], []⟩
def d_l_both : He.DefD := ⟨("_law_both", none), "_law_both", "_law_both", defArgs s_l_both, defBody s_l_both, defScope s_l_both, [], []⟩
def d_law : He.DefD := ⟨("law", none), "law", "law", defArgs s_law, defBody s_law, defScope s_law, [], []⟩
def fn : List He.DefD := [d_MovesBright_init, d_is_time, d_is_amid, d_is_lamp, d_is_slot, d_is_worth, d_look_at_slots, d_look_at_worths, d_Part_init, d_Part_slots, d_are_parts, d_Cue_init, d_cue_list, d_good_number, d_put_in_look, d_cue_at, d_carried, d_shown, d_lamps_of, d_is_dark, d_stance, d_lamp_wishes, d_wishes, d_moved_dark, d_l_cell_at, d_l_drawn, d_l_name, d_l_no_lamp, d_l_truths, d_l_both, d_law]
def fa : List He.Fa := [.glo "is_time", .glo "is_amid", .glo "is_lamp", .glo "is_slot", .glo "is_worth", .glo "look_at_slots", .glo "look_at_worths", .glo "are_parts", .glo "cue_list", .glo "good_number", .glo "put_in_look", .glo "cue_at", .glo "carried", .glo "shown", .glo "lamps_of", .glo "is_dark", .glo "stance", .glo "lamp_wishes", .glo "wishes", .glo "moved_dark", .glo "_law_cell_at", .glo "_law_drawn", .glo "_law_name", .glo "_law_no_lamp", .glo "_law_truths", .glo "_law_both", .glo "law", .glo "Part", .glo "Cue", .glo "NoList", .glo "LampError", .glo "NoName", .glo "MovesBright", .glo "SIDES", .free "len", .free "min", .free "isinstance", .free "int", .free "bool", .free "range", .free "list", .free "dict", .free "str", .free "tuple", .free "sorted", .free "set", .free "ValueError", .int "MOST_times" 1000000000, .str "LETTERS" "abcdefghijklmnopqrstuvwxyz", .int "MOST_cues" 1000000000, .exc "NoList", .exc "NoName", .exm "NoList" "LampError" true, .exm "NoName" "LampError" true, .exm "MovesBright" "LampError" true, .cls "Part", .mkr "Part", .noat "Part" "tells", .noat "Part" "alone", .noat "Part" "rise", .noat "Part" "fall", .noat "Part" "wait", .meth "Part" "slots", .cls "Cue", .mkr "Cue", .noat "Cue" "number", .noat "Cue" "parts", .noat "Cue" "stops", .noat "Cue" "follow"]
def exL (K : PySem.W.Frag) : List Bool := [He.tupB K "SIDES" [.str "blue", .str "bright", .str "green", .str "pan", .str "red", .str "tilt"],
  L2.insB K "Cue",
  L2.insB K "Part",
  decide (PySem.W.kitOne K (.type "NoneType") (.ref (He.ga K "Cue")) = some false),
  L2.oexB K "MovesBright",
  decide (PySem.W.findIn K (.ref (He.ga K "MovesBright")) "__init__" = some (some (.ref (He.fAd K ("MovesBright", some "__init__"))))),
  decide (PySem.W.typeIn K (.ref (He.fAd K ("MovesBright", some "__init__"))) = some (.type "function")),
  L2.xfB K (He.ga K "MovesBright"),
  decide (PySem.W.findIn K (.ref (He.ga K "MovesBright")) "lamp" = some none),
  decide (PySem.W.findIn K (.ref (He.ga K "MovesBright")) "number" = some none),
  L2.ownIB K "LampError",
  L2.excB K "NoList",
  decide (PySem.W.kitOne K (.ref (He.ga K "NoList")) (.type "ValueError") = some true),
  decide (PySem.W.kitOne K (.ref (He.ga K "NoList")) (.ref (He.ga K "NoList")) = some true),
  decide (PySem.W.kitOne K (.ref (He.ga K "NoList")) (.ref (He.ga K "NoName")) = some false),
  decide (PySem.W.kitOne K (.ref (He.ga K "NoList")) (.ref (He.ga K "MovesBright")) = some false),
  L2.excB K "NoName",
  decide (PySem.W.kitOne K (.ref (He.ga K "NoName")) (.type "ValueError") = some true),
  decide (PySem.W.kitOne K (.ref (He.ga K "NoName")) (.ref (He.ga K "NoList")) = some false),
  decide (PySem.W.kitOne K (.ref (He.ga K "NoName")) (.ref (He.ga K "NoName")) = some true),
  decide (PySem.W.kitOne K (.ref (He.ga K "NoName")) (.ref (He.ga K "MovesBright")) = some false),
  L2.excB K "MovesBright",
  decide (PySem.W.kitOne K (.ref (He.ga K "MovesBright")) (.type "ValueError") = some true),
  decide (PySem.W.kitOne K (.ref (He.ga K "MovesBright")) (.ref (He.ga K "NoList")) = some false),
  decide (PySem.W.kitOne K (.ref (He.ga K "MovesBright")) (.ref (He.ga K "NoName")) = some false),
  decide (PySem.W.kitOne K (.ref (He.ga K "MovesBright")) (.ref (He.ga K "MovesBright")) = some true)]
def exB (K : PySem.W.Frag) : Bool := (exL K).all id
/-- what the top leaves -/
structure Txt (K : PySem.W.Frag) (mg : Str → Option Value) : Prop where
  c : He.SaysD fa fn K
  hp : ∃ h : Heap, K.In h ∧ h.Ns mainGlobals mg
  x : exB K = true
section
variable {K : PySem.W.Frag} {mg : Str → Option Value}
theorem tup_SIDES (T : Txt K mg) (H : L2.Hp) : L2.SqT K H (He.ga K "SIDES") [L2.V.str "blue", L2.V.str "bright", L2.V.str "green", L2.V.str "pan", L2.V.str "red", L2.V.str "tilt"] := He.tupB_ok (List.all_eq_true.mp T.x _ (List.mem_of_getElem? (i := 0) rfl)) H
theorem insf_Cue (T : Txt K mg) : L2.insB K "Cue" = true := (List.all_eq_true.mp T.x _ (List.mem_of_getElem? (i := 1) rfl))
theorem insf_Part (T : Txt K mg) : L2.insB K "Part" = true := (List.all_eq_true.mp T.x _ (List.mem_of_getElem? (i := 2) rfl))
theorem isN_Cue (T : Txt K mg) : PySem.W.kitOne K (.type "NoneType") (.ref (He.ga K "Cue")) = some false := of_decide_eq_true (List.all_eq_true.mp T.x _ (List.mem_of_getElem? (i := 3) rfl))
theorem oex_MovesBright (T : Txt K mg) : L2.OexC K (He.ga K "MovesBright") := L2.oexB_ok (List.all_eq_true.mp T.x _ (List.mem_of_getElem? (i := 4) rfl))
theorem ini_MovesBright (T : Txt K mg) : PySem.W.findIn K (.ref (He.ga K "MovesBright")) "__init__" = some (some (.ref (He.fAd K ("MovesBright", some "__init__")))) := of_decide_eq_true (List.all_eq_true.mp T.x _ (List.mem_of_getElem? (i := 5) rfl))
theorem inf_MovesBright (T : Txt K mg) : PySem.W.typeIn K (.ref (He.fAd K ("MovesBright", some "__init__"))) = some (.type "function") := of_decide_eq_true (List.all_eq_true.mp T.x _ (List.mem_of_getElem? (i := 6) rfl))
theorem xf_MovesBright (T : Txt K mg) : L2.XfC K (He.ga K "MovesBright") := L2.xfB_ok (List.all_eq_true.mp T.x _ (List.mem_of_getElem? (i := 7) rfl))
theorem xn_MovesBright_lamp (T : Txt K mg) : PySem.W.findIn K (.ref (He.ga K "MovesBright")) "lamp" = some none := of_decide_eq_true (List.all_eq_true.mp T.x _ (List.mem_of_getElem? (i := 8) rfl))
theorem xn_MovesBright_number (T : Txt K mg) : PySem.W.findIn K (.ref (He.ga K "MovesBright")) "number" = some none := of_decide_eq_true (List.all_eq_true.mp T.x _ (List.mem_of_getElem? (i := 9) rfl))
theorem own_LampError (T : Txt K mg) : L2.OwnI K (He.ga K "LampError") := L2.ownIB_ok (List.all_eq_true.mp T.x _ (List.mem_of_getElem? (i := 10) rfl))
theorem excC_NoList (T : Txt K mg) : L2.ExcC K (He.ga K "NoList") := L2.excB_ok (List.all_eq_true.mp T.x _ (List.mem_of_getElem? (i := 11) rfl))
theorem is_NoList_ValueError (T : Txt K mg) : PySem.W.kitOne K (.ref (He.ga K "NoList")) (.type "ValueError") = some true := of_decide_eq_true (List.all_eq_true.mp T.x _ (List.mem_of_getElem? (i := 12) rfl))
theorem is_NoList_NoList (T : Txt K mg) : PySem.W.kitOne K (.ref (He.ga K "NoList")) (.ref (He.ga K "NoList")) = some true := of_decide_eq_true (List.all_eq_true.mp T.x _ (List.mem_of_getElem? (i := 13) rfl))
theorem is_NoList_NoName (T : Txt K mg) : PySem.W.kitOne K (.ref (He.ga K "NoList")) (.ref (He.ga K "NoName")) = some false := of_decide_eq_true (List.all_eq_true.mp T.x _ (List.mem_of_getElem? (i := 14) rfl))
theorem is_NoList_MovesBright (T : Txt K mg) : PySem.W.kitOne K (.ref (He.ga K "NoList")) (.ref (He.ga K "MovesBright")) = some false := of_decide_eq_true (List.all_eq_true.mp T.x _ (List.mem_of_getElem? (i := 15) rfl))
theorem excC_NoName (T : Txt K mg) : L2.ExcC K (He.ga K "NoName") := L2.excB_ok (List.all_eq_true.mp T.x _ (List.mem_of_getElem? (i := 16) rfl))
theorem is_NoName_ValueError (T : Txt K mg) : PySem.W.kitOne K (.ref (He.ga K "NoName")) (.type "ValueError") = some true := of_decide_eq_true (List.all_eq_true.mp T.x _ (List.mem_of_getElem? (i := 17) rfl))
theorem is_NoName_NoList (T : Txt K mg) : PySem.W.kitOne K (.ref (He.ga K "NoName")) (.ref (He.ga K "NoList")) = some false := of_decide_eq_true (List.all_eq_true.mp T.x _ (List.mem_of_getElem? (i := 18) rfl))
theorem is_NoName_NoName (T : Txt K mg) : PySem.W.kitOne K (.ref (He.ga K "NoName")) (.ref (He.ga K "NoName")) = some true := of_decide_eq_true (List.all_eq_true.mp T.x _ (List.mem_of_getElem? (i := 19) rfl))
theorem is_NoName_MovesBright (T : Txt K mg) : PySem.W.kitOne K (.ref (He.ga K "NoName")) (.ref (He.ga K "MovesBright")) = some false := of_decide_eq_true (List.all_eq_true.mp T.x _ (List.mem_of_getElem? (i := 20) rfl))
theorem excC_MovesBright (T : Txt K mg) : L2.ExcC K (He.ga K "MovesBright") := L2.excB_ok (List.all_eq_true.mp T.x _ (List.mem_of_getElem? (i := 21) rfl))
theorem is_MovesBright_ValueError (T : Txt K mg) : PySem.W.kitOne K (.ref (He.ga K "MovesBright")) (.type "ValueError") = some true := of_decide_eq_true (List.all_eq_true.mp T.x _ (List.mem_of_getElem? (i := 22) rfl))
theorem is_MovesBright_NoList (T : Txt K mg) : PySem.W.kitOne K (.ref (He.ga K "MovesBright")) (.ref (He.ga K "NoList")) = some false := of_decide_eq_true (List.all_eq_true.mp T.x _ (List.mem_of_getElem? (i := 23) rfl))
theorem is_MovesBright_NoName (T : Txt K mg) : PySem.W.kitOne K (.ref (He.ga K "MovesBright")) (.ref (He.ga K "NoName")) = some false := of_decide_eq_true (List.all_eq_true.mp T.x _ (List.mem_of_getElem? (i := 24) rfl))
theorem is_MovesBright_MovesBright (T : Txt K mg) : PySem.W.kitOne K (.ref (He.ga K "MovesBright")) (.ref (He.ga K "MovesBright")) = some true := of_decide_eq_true (List.all_eq_true.mp T.x _ (List.mem_of_getElem? (i := 25) rfl))
theorem glo_is_time (T : Txt K mg) : mg "is_time" = some (.ref (He.ga K "is_time")) := by
  obtain ⟨h, X, G⟩ := T.hp
  exact He.glo_ok X G (T.c.fact 0 rfl)
theorem glo_is_amid (T : Txt K mg) : mg "is_amid" = some (.ref (He.ga K "is_amid")) := by
  obtain ⟨h, X, G⟩ := T.hp
  exact He.glo_ok X G (T.c.fact 1 rfl)
theorem glo_is_lamp (T : Txt K mg) : mg "is_lamp" = some (.ref (He.ga K "is_lamp")) := by
  obtain ⟨h, X, G⟩ := T.hp
  exact He.glo_ok X G (T.c.fact 2 rfl)
theorem glo_is_slot (T : Txt K mg) : mg "is_slot" = some (.ref (He.ga K "is_slot")) := by
  obtain ⟨h, X, G⟩ := T.hp
  exact He.glo_ok X G (T.c.fact 3 rfl)
theorem glo_is_worth (T : Txt K mg) : mg "is_worth" = some (.ref (He.ga K "is_worth")) := by
  obtain ⟨h, X, G⟩ := T.hp
  exact He.glo_ok X G (T.c.fact 4 rfl)
theorem glo_look_at_slots (T : Txt K mg) : mg "look_at_slots" = some (.ref (He.ga K "look_at_slots")) := by
  obtain ⟨h, X, G⟩ := T.hp
  exact He.glo_ok X G (T.c.fact 5 rfl)
theorem glo_look_at_worths (T : Txt K mg) : mg "look_at_worths" = some (.ref (He.ga K "look_at_worths")) := by
  obtain ⟨h, X, G⟩ := T.hp
  exact He.glo_ok X G (T.c.fact 6 rfl)
theorem glo_are_parts (T : Txt K mg) : mg "are_parts" = some (.ref (He.ga K "are_parts")) := by
  obtain ⟨h, X, G⟩ := T.hp
  exact He.glo_ok X G (T.c.fact 7 rfl)
theorem glo_cue_list (T : Txt K mg) : mg "cue_list" = some (.ref (He.ga K "cue_list")) := by
  obtain ⟨h, X, G⟩ := T.hp
  exact He.glo_ok X G (T.c.fact 8 rfl)
theorem glo_good_number (T : Txt K mg) : mg "good_number" = some (.ref (He.ga K "good_number")) := by
  obtain ⟨h, X, G⟩ := T.hp
  exact He.glo_ok X G (T.c.fact 9 rfl)
theorem glo_put_in_look (T : Txt K mg) : mg "put_in_look" = some (.ref (He.ga K "put_in_look")) := by
  obtain ⟨h, X, G⟩ := T.hp
  exact He.glo_ok X G (T.c.fact 10 rfl)
theorem glo_cue_at (T : Txt K mg) : mg "cue_at" = some (.ref (He.ga K "cue_at")) := by
  obtain ⟨h, X, G⟩ := T.hp
  exact He.glo_ok X G (T.c.fact 11 rfl)
theorem glo_carried (T : Txt K mg) : mg "carried" = some (.ref (He.ga K "carried")) := by
  obtain ⟨h, X, G⟩ := T.hp
  exact He.glo_ok X G (T.c.fact 12 rfl)
theorem glo_shown (T : Txt K mg) : mg "shown" = some (.ref (He.ga K "shown")) := by
  obtain ⟨h, X, G⟩ := T.hp
  exact He.glo_ok X G (T.c.fact 13 rfl)
theorem glo_lamps_of (T : Txt K mg) : mg "lamps_of" = some (.ref (He.ga K "lamps_of")) := by
  obtain ⟨h, X, G⟩ := T.hp
  exact He.glo_ok X G (T.c.fact 14 rfl)
theorem glo_is_dark (T : Txt K mg) : mg "is_dark" = some (.ref (He.ga K "is_dark")) := by
  obtain ⟨h, X, G⟩ := T.hp
  exact He.glo_ok X G (T.c.fact 15 rfl)
theorem glo_stance (T : Txt K mg) : mg "stance" = some (.ref (He.ga K "stance")) := by
  obtain ⟨h, X, G⟩ := T.hp
  exact He.glo_ok X G (T.c.fact 16 rfl)
theorem glo_lamp_wishes (T : Txt K mg) : mg "lamp_wishes" = some (.ref (He.ga K "lamp_wishes")) := by
  obtain ⟨h, X, G⟩ := T.hp
  exact He.glo_ok X G (T.c.fact 17 rfl)
theorem glo_wishes (T : Txt K mg) : mg "wishes" = some (.ref (He.ga K "wishes")) := by
  obtain ⟨h, X, G⟩ := T.hp
  exact He.glo_ok X G (T.c.fact 18 rfl)
theorem glo_moved_dark (T : Txt K mg) : mg "moved_dark" = some (.ref (He.ga K "moved_dark")) := by
  obtain ⟨h, X, G⟩ := T.hp
  exact He.glo_ok X G (T.c.fact 19 rfl)
theorem glo__law_cell_at (T : Txt K mg) : mg "_law_cell_at" = some (.ref (He.ga K "_law_cell_at")) := by
  obtain ⟨h, X, G⟩ := T.hp
  exact He.glo_ok X G (T.c.fact 20 rfl)
theorem glo__law_drawn (T : Txt K mg) : mg "_law_drawn" = some (.ref (He.ga K "_law_drawn")) := by
  obtain ⟨h, X, G⟩ := T.hp
  exact He.glo_ok X G (T.c.fact 21 rfl)
theorem glo__law_name (T : Txt K mg) : mg "_law_name" = some (.ref (He.ga K "_law_name")) := by
  obtain ⟨h, X, G⟩ := T.hp
  exact He.glo_ok X G (T.c.fact 22 rfl)
theorem glo__law_no_lamp (T : Txt K mg) : mg "_law_no_lamp" = some (.ref (He.ga K "_law_no_lamp")) := by
  obtain ⟨h, X, G⟩ := T.hp
  exact He.glo_ok X G (T.c.fact 23 rfl)
theorem glo__law_truths (T : Txt K mg) : mg "_law_truths" = some (.ref (He.ga K "_law_truths")) := by
  obtain ⟨h, X, G⟩ := T.hp
  exact He.glo_ok X G (T.c.fact 24 rfl)
theorem glo__law_both (T : Txt K mg) : mg "_law_both" = some (.ref (He.ga K "_law_both")) := by
  obtain ⟨h, X, G⟩ := T.hp
  exact He.glo_ok X G (T.c.fact 25 rfl)
theorem glo_law (T : Txt K mg) : mg "law" = some (.ref (He.ga K "law")) := by
  obtain ⟨h, X, G⟩ := T.hp
  exact He.glo_ok X G (T.c.fact 26 rfl)
theorem glo_Part (T : Txt K mg) : mg "Part" = some (.ref (He.ga K "Part")) := by
  obtain ⟨h, X, G⟩ := T.hp
  exact He.glo_ok X G (T.c.fact 27 rfl)
theorem glo_Cue (T : Txt K mg) : mg "Cue" = some (.ref (He.ga K "Cue")) := by
  obtain ⟨h, X, G⟩ := T.hp
  exact He.glo_ok X G (T.c.fact 28 rfl)
theorem glo_NoList (T : Txt K mg) : mg "NoList" = some (.ref (He.ga K "NoList")) := by
  obtain ⟨h, X, G⟩ := T.hp
  exact He.glo_ok X G (T.c.fact 29 rfl)
theorem glo_LampError (T : Txt K mg) : mg "LampError" = some (.ref (He.ga K "LampError")) := by
  obtain ⟨h, X, G⟩ := T.hp
  exact He.glo_ok X G (T.c.fact 30 rfl)
theorem glo_NoName (T : Txt K mg) : mg "NoName" = some (.ref (He.ga K "NoName")) := by
  obtain ⟨h, X, G⟩ := T.hp
  exact He.glo_ok X G (T.c.fact 31 rfl)
theorem glo_MovesBright (T : Txt K mg) : mg "MovesBright" = some (.ref (He.ga K "MovesBright")) := by
  obtain ⟨h, X, G⟩ := T.hp
  exact He.glo_ok X G (T.c.fact 32 rfl)
theorem glo_SIDES (T : Txt K mg) : mg "SIDES" = some (.ref (He.ga K "SIDES")) := by
  obtain ⟨h, X, G⟩ := T.hp
  exact He.glo_ok X G (T.c.fact 33 rfl)
theorem free_len (T : Txt K mg) : mg "len" = none := by
  obtain ⟨h, X, G⟩ := T.hp
  exact He.free_ok X G (T.c.fact 34 rfl)
theorem free_min (T : Txt K mg) : mg "min" = none := by
  obtain ⟨h, X, G⟩ := T.hp
  exact He.free_ok X G (T.c.fact 35 rfl)
theorem free_isinstance (T : Txt K mg) : mg "isinstance" = none := by
  obtain ⟨h, X, G⟩ := T.hp
  exact He.free_ok X G (T.c.fact 36 rfl)
theorem free_int (T : Txt K mg) : mg "int" = none := by
  obtain ⟨h, X, G⟩ := T.hp
  exact He.free_ok X G (T.c.fact 37 rfl)
theorem free_bool (T : Txt K mg) : mg "bool" = none := by
  obtain ⟨h, X, G⟩ := T.hp
  exact He.free_ok X G (T.c.fact 38 rfl)
theorem free_range (T : Txt K mg) : mg "range" = none := by
  obtain ⟨h, X, G⟩ := T.hp
  exact He.free_ok X G (T.c.fact 39 rfl)
theorem free_list (T : Txt K mg) : mg "list" = none := by
  obtain ⟨h, X, G⟩ := T.hp
  exact He.free_ok X G (T.c.fact 40 rfl)
theorem free_dict (T : Txt K mg) : mg "dict" = none := by
  obtain ⟨h, X, G⟩ := T.hp
  exact He.free_ok X G (T.c.fact 41 rfl)
theorem free_str (T : Txt K mg) : mg "str" = none := by
  obtain ⟨h, X, G⟩ := T.hp
  exact He.free_ok X G (T.c.fact 42 rfl)
theorem free_tuple (T : Txt K mg) : mg "tuple" = none := by
  obtain ⟨h, X, G⟩ := T.hp
  exact He.free_ok X G (T.c.fact 43 rfl)
theorem free_sorted (T : Txt K mg) : mg "sorted" = none := by
  obtain ⟨h, X, G⟩ := T.hp
  exact He.free_ok X G (T.c.fact 44 rfl)
theorem free_set (T : Txt K mg) : mg "set" = none := by
  obtain ⟨h, X, G⟩ := T.hp
  exact He.free_ok X G (T.c.fact 45 rfl)
theorem free_ValueError (T : Txt K mg) : mg "ValueError" = none := by
  obtain ⟨h, X, G⟩ := T.hp
  exact He.free_ok X G (T.c.fact 46 rfl)
theorem int_MOST_times (T : Txt K mg) : ∃ t, mg "MOST_times" = some (.int 1000000000 t) := by
  obtain ⟨h, X, G⟩ := T.hp
  exact He.int_ok X G (T.c.fact 47 rfl)
theorem str_LETTERS (T : Txt K mg) : ∃ t, mg "LETTERS" = some (.str "abcdefghijklmnopqrstuvwxyz" t) := by
  obtain ⟨h, X, G⟩ := T.hp
  exact He.str_ok X G (T.c.fact 48 rfl)
theorem int_MOST_cues (T : Txt K mg) : ∃ t, mg "MOST_cues" = some (.int 1000000000 t) := by
  obtain ⟨h, X, G⟩ := T.hp
  exact He.int_ok X G (T.c.fact 49 rfl)
theorem fact_exc_NoList (T : Txt K mg) : (He.Fa.ok K (.exc "NoList")) = true := T.c.fact 50 rfl
theorem fact_exc_NoName (T : Txt K mg) : (He.Fa.ok K (.exc "NoName")) = true := T.c.fact 51 rfl
theorem fact_exm_NoList_LampError (T : Txt K mg) : (He.Fa.ok K (.exm "NoList" "LampError" true)) = true := T.c.fact 52 rfl
theorem fact_exm_NoName_LampError (T : Txt K mg) : (He.Fa.ok K (.exm "NoName" "LampError" true)) = true := T.c.fact 53 rfl
theorem fact_exm_MovesBright_LampError (T : Txt K mg) : (He.Fa.ok K (.exm "MovesBright" "LampError" true)) = true := T.c.fact 54 rfl
theorem fact_cls_Part (T : Txt K mg) : (He.Fa.ok K (.cls "Part")) = true := T.c.fact 55 rfl
theorem fact_mk_Part (T : Txt K mg) : (He.Fa.ok K (.mkr "Part")) = true := T.c.fact 56 rfl
theorem fact_na_Part_tells (T : Txt K mg) : (He.Fa.ok K (.noat "Part" "tells")) = true := T.c.fact 57 rfl
theorem fact_na_Part_alone (T : Txt K mg) : (He.Fa.ok K (.noat "Part" "alone")) = true := T.c.fact 58 rfl
theorem fact_na_Part_rise (T : Txt K mg) : (He.Fa.ok K (.noat "Part" "rise")) = true := T.c.fact 59 rfl
theorem fact_na_Part_fall (T : Txt K mg) : (He.Fa.ok K (.noat "Part" "fall")) = true := T.c.fact 60 rfl
theorem fact_na_Part_wait (T : Txt K mg) : (He.Fa.ok K (.noat "Part" "wait")) = true := T.c.fact 61 rfl
theorem fact_m_Part_slots (T : Txt K mg) : (He.Fa.ok K (.meth "Part" "slots")) = true := T.c.fact 62 rfl
theorem fact_cls_Cue (T : Txt K mg) : (He.Fa.ok K (.cls "Cue")) = true := T.c.fact 63 rfl
theorem fact_mk_Cue (T : Txt K mg) : (He.Fa.ok K (.mkr "Cue")) = true := T.c.fact 64 rfl
theorem fact_na_Cue_number (T : Txt K mg) : (He.Fa.ok K (.noat "Cue" "number")) = true := T.c.fact 65 rfl
theorem fact_na_Cue_parts (T : Txt K mg) : (He.Fa.ok K (.noat "Cue" "parts")) = true := T.c.fact 66 rfl
theorem fact_na_Cue_stops (T : Txt K mg) : (He.Fa.ok K (.noat "Cue" "stops")) = true := T.c.fact 67 rfl
theorem fact_na_Cue_follow (T : Txt K mg) : (He.Fa.ok K (.noat "Cue" "follow")) = true := T.c.fact 68 rfl
end
section
variable {K : PySem.W.Frag} {mg : Str → Option Value}
theorem exc_NoList (T : Txt K mg) : PySem.W.excIn K (He.ga K "NoList") He.veBase "ValueError.__new__" = true ∧ PySem.W.keepIn K (.ref (He.ga K "NoList")) = true ∧ PySem.W.subIn K (.ref (He.ga K "NoList")) (.type "BaseException") = some true ∧ PySem.W.typeIn K (.ref (He.ga K "NoList")) = some (.type "type") := He.exc_ok (fact_exc_NoList T)
theorem exc_NoName (T : Txt K mg) : PySem.W.excIn K (He.ga K "NoName") He.veBase "ValueError.__new__" = true ∧ PySem.W.keepIn K (.ref (He.ga K "NoName")) = true ∧ PySem.W.subIn K (.ref (He.ga K "NoName")) (.type "BaseException") = some true ∧ PySem.W.typeIn K (.ref (He.ga K "NoName")) = some (.type "type") := He.exc_ok (fact_exc_NoName T)
theorem exm_NoList_LampError (T : Txt K mg) : PySem.W.exmOne K (.ref (He.ga K "NoList")) (.ref (He.ga K "LampError")) = some true := He.exm_ok (fact_exm_NoList_LampError T)
theorem exm_NoName_LampError (T : Txt K mg) : PySem.W.exmOne K (.ref (He.ga K "NoName")) (.ref (He.ga K "LampError")) = some true := He.exm_ok (fact_exm_NoName_LampError T)
theorem exm_MovesBright_LampError (T : Txt K mg) : PySem.W.exmOne K (.ref (He.ga K "MovesBright")) (.ref (He.ga K "LampError")) = some true := He.exm_ok (fact_exm_MovesBright_LampError T)
theorem cls_Part (T : Txt K mg) : Cls K (He.ga K "Part") := He.cls_ok (fact_cls_Part T)
theorem mk_Part (T : Txt K mg) : Mk K (He.ga K "Part") (He.ma K (He.ga K "Part") "__init__") := He.mkr_ok (fact_mk_Part T)
theorem na_Part_tells (T : Txt K mg) : NoAttr K (He.ga K "Part") "tells" := He.noat_ok (fact_na_Part_tells T)
theorem na_Part_alone (T : Txt K mg) : NoAttr K (He.ga K "Part") "alone" := He.noat_ok (fact_na_Part_alone T)
theorem na_Part_rise (T : Txt K mg) : NoAttr K (He.ga K "Part") "rise" := He.noat_ok (fact_na_Part_rise T)
theorem na_Part_fall (T : Txt K mg) : NoAttr K (He.ga K "Part") "fall" := He.noat_ok (fact_na_Part_fall T)
theorem na_Part_wait (T : Txt K mg) : NoAttr K (He.ga K "Part") "wait" := He.noat_ok (fact_na_Part_wait T)
theorem m_Part_slots (T : Txt K mg) : Meth K (He.ga K "Part") "slots" (He.ma K (He.ga K "Part") "slots") := He.meth_ok (fact_m_Part_slots T)
theorem cls_Cue (T : Txt K mg) : Cls K (He.ga K "Cue") := He.cls_ok (fact_cls_Cue T)
theorem mk_Cue (T : Txt K mg) : Mk K (He.ga K "Cue") (He.ma K (He.ga K "Cue") "__init__") := He.mkr_ok (fact_mk_Cue T)
theorem na_Cue_number (T : Txt K mg) : NoAttr K (He.ga K "Cue") "number" := He.noat_ok (fact_na_Cue_number T)
theorem na_Cue_parts (T : Txt K mg) : NoAttr K (He.ga K "Cue") "parts" := He.noat_ok (fact_na_Cue_parts T)
theorem na_Cue_stops (T : Txt K mg) : NoAttr K (He.ga K "Cue") "stops" := He.noat_ok (fact_na_Cue_stops T)
theorem na_Cue_follow (T : Txt K mg) : NoAttr K (He.ga K "Cue") "follow" := He.noat_ok (fact_na_Cue_follow T)
theorem ins_Cue (T : Txt K mg) : C8.InsC K (He.ga K "Cue") := L2.insB_ok (cls_Cue T) (insf_Cue T)
theorem ins_Part (T : Txt K mg) : C8.InsC K (He.ga K "Part") := L2.insB_ok (cls_Part T) (insf_Part T)
end
section
variable {P : Program} {w : World} {K : PySem.W.Frag} {mg : Str → Option Value} {base : Heap}
/-! ### the law's small helpers -/
def spCell (K : PySem.W.Frag) : Sp := fun vs H Q _ => ∃ (a : Addr) (k : Int), vs = [.ref a, .int k] ∧ (∃ ns : List Int, SqL K H a (ns.map V.int)) ∧ 0 ≤ k ∧ ∀ r : Int, Q (.int r) H
theorem ok_l_cell_at (T : Txt K mg) : ∃ fd, FnOk P w K mg base CX0 1 (He.fAd K ("_law_cell_at", none)) fd ["_law_script", "_law_k"] (spCell K) ∧ FunD K "_law_cell_at" "_law_cell_at" (defArgs s_l_cell_at) (defBody s_l_cell_at) (defScope s_l_cell_at) [] [] (He.fAd K ("_law_cell_at", none)) fd := by
  obtain ⟨fd, F⟩ := T.c.def_ 24 (d := d_l_cell_at) rfl
  refine ⟨fd, F.ok sc_l_cell_at (by walk_at "g94len") (fun cdv A outer st H vs Q E hr h => ?_), F⟩
  · obtain ⟨a, i, rfl, ⟨ns, hS⟩, i0, k⟩ := h
    refine ⟨_, PSs.nox (pss_cons (ps_if (pt_cmpR op_lt (pv 1) (pe_callB call_len_seq (by rfl) (free_len T) (by decide +kernel) (pa_cons (pv 0) pa_nil)) (nomark _)) (pss_one (ps_ret (pe_ix ix_list (pv 0) (pv 1) (fun _ _ => rfl)))) pss_nil)
        (pss_one (ps_ret pe_int))), ?_⟩
    walk_at "rds"
    refine ⟨_, _, rfl, .inl hS, ?_⟩
    walk_at "rds"
    walk_at "ri" <;> intro c1
    · obtain ⟨v, hv, hv2⟩ := atI_lt i0 c1
      obtain ⟨z, rfl, _, _⟩ := int_at hv2
      walk_at "rds"
      exact ⟨_, _, _, _, rfl, rfl, hS, hv, k _⟩
    · walk_at "rds"
      exact k _

theorem len_S (l : List Nat) : (SX.S l).length = l.length := SX.S_len l
/-- a value of another type -/
def IsA (K : PySem.W.Frag) (H : Hp) (v : V) (t : String) (b : Bool) : Prop := ∃ u, TyX K H v u ∧ PySem.W.kitOne K u (.type t) = some b
def letters : Str := "abcdefghijklmnopqrstuvwxyz"
def lampB (l : List Nat) : Bool := decide (1 ≤ l.length) && decide (l.length ≤ 8) && l.all fun c => decide (c ∈ letters.cps.toList)
def spAmid (K : PySem.W.Frag) : Sp := fun vs H Q _ => ∃ (v : V) (a b : Int), vs = [v, .int a, .int b] ∧ ((∃ n : Int, v = .int n ∧ Q (.bl (decide (a ≤ n ∧ n ≤ b))) H) ∨ (∃ t, v = .bl t ∧ Q (.bl false) H) ∨ (IsA K H v "int" false ∧ Q (.bl false) H))
theorem ok_is_amid (T : Txt K mg) : ∃ fd, FnOk P w K mg base CX0 1 (He.fAd K ("is_amid", none)) fd ["thing", "least", "most"] (spAmid K) ∧ FunD K "is_amid" "is_amid" (defArgs s_is_amid) (defBody s_is_amid) (defScope s_is_amid) [] [] (He.fAd K ("is_amid", none)) fd := by
  obtain ⟨fd, F⟩ := T.c.def_ 2 (d := d_is_amid) rfl
  refine ⟨fd, F.ok sc_is_amid (by walk_at "g94len") (fun cdv A outer st H vs Q E hr h => ?_), F⟩
  · obtain ⟨v, a, b, rfl, k⟩ := h
    refine ⟨_, PSs.nox (pss_cons (ps_if (PW.pt (pw_or (pt_not (pt_val (pe_callB call_isi (by rfl) (free_isinstance T) (by decide +kernel) (pa_cons (pv 0) (pa_cons (pe_bltn (v := .ty "int") (by rfl) (free_int T) (by decide +kernel) rfl) pa_nil))))) (pw_or1 (pt_val (pe_callB call_isi (by rfl) (free_isinstance T) (by decide +kernel) (pa_cons (pv 0) (pa_cons (pe_bltn (v := .ty "bool") (by rfl) (free_bool T) (by decide +kernel) rfl) pa_nil))))))) (pss_one (ps_ret pe_bl)) pss_nil)
        (pss_one (ps_ret (pe_chain op_le op_le (pv 1) (pv 0) (pv 2))))), ?_⟩
    rcases k with ⟨n, rfl, k⟩ | ⟨t, rfl, k⟩ | ⟨⟨u, h1, h2⟩, k⟩
    · walk_at "rds"
      walk_at "ri" <;> intro c1
      · walk_at "rds"
        rw [show decide (a ≤ n ∧ n ≤ b) = decide (n ≤ b) from decide_eq_decide.mpr ⟨fun q => q.2, fun q => ⟨c1, q⟩⟩] at k
        exact k
      · rw [decide_eq_false (fun q : a ≤ n ∧ n ≤ b => c1 q.1)] at k
        exact k
    · walk_at "rds"
      exact k
    · refine ⟨_, rfl, _, _, _, _, false, rfl, .ty _, h1, h2, ?_⟩
      walk_at "rds"
      exact k
def WorthSays (K : PySem.W.Frag) (H : Hp) (v : V) (b : Bool) : Prop := (∃ n : Int, v = .int n ∧ b = decide (0 ≤ n ∧ n ≤ 1000000000)) ∨ (∃ t, v = .bl t ∧ b = false) ∨ (IsA K H v "int" false ∧ b = false)
def spWorth (K : PySem.W.Frag) : Sp := fun vs H Q _ => ∃ (v : V) (b : Bool), vs = [v] ∧ WorthSays K H v b ∧ Q (.bl b) H
theorem ok_is_worth (T : Txt K mg) : ∃ fd, FnOk P w K mg base CX0 2 (He.fAd K ("is_worth", none)) fd ["thing"] (spWorth K) ∧ FunD K "is_worth" "is_worth" (defArgs s_is_worth) (defBody s_is_worth) (defScope s_is_worth) [] [] (He.fAd K ("is_worth", none)) fd := by
  obtain ⟨fd, F⟩ := T.c.def_ 5 (d := d_is_worth) rfl
  obtain ⟨fd_is_amid, G_is_amid, F_is_amid⟩ := ok_is_amid (P := P) (w := w) (base := base) T
  have kp_is_amid := F_is_amid.kp
  have b_is_amid : Binds K fd_is_amid ["thing", "least", "most"] [] := FunD.bindsN F_is_amid (fun _ _ _ _ _ _ us hl => match us, hl with | [_, _, _], _ => rfl)
  obtain ⟨t_MOST_cues, g_MOST_cues⟩ := int_MOST_cues T
  refine ⟨fd, F.ok sc_is_worth (by walk_at "g94len") (fun cdv A outer st H vs Q E hr h => ?_), F⟩
  · obtain ⟨v, b, rfl, hs, k⟩ := h
    refine ⟨_, PSs.nox (pss_one (ps_ret (pe_call G_is_amid (hr.mono (by decide)) rfl (glo_is_amid T) kp_is_amid b_is_amid .nil pass0 (pa_cons (pv 0) (pa_cons pe_int (pa_cons (pe_glob (v := .int 1000000000) rfl g_MOST_cues ⟨_, rfl⟩) pa_nil)))))), ?_⟩
    rcases hs with ⟨n, rfl, rfl⟩ | ⟨t, rfl, rfl⟩ | ⟨h, rfl⟩
    · exact ⟨_, rfl, _, _, _, rfl, .inl ⟨n, rfl, k⟩⟩
    · exact ⟨_, rfl, _, _, _, rfl, .inr (.inl ⟨t, rfl, k⟩)⟩
    · exact ⟨_, rfl, _, _, _, rfl, .inr (.inr ⟨h, k⟩)⟩
def LampSays (K : PySem.W.Frag) (H : Hp) (v : V) (b : Bool) : Prop := (∃ l : List Nat, v = .str (SX.S l) ∧ l.length ≤ 1000 ∧ b = lampB l) ∨ (IsA K H v "str" false ∧ b = false)
def spLamp (K : PySem.W.Frag) : Sp := fun vs H Q _ => ∃ (v : V) (b : Bool), vs = [v] ∧ LampSays K H v b ∧ Q (.bl b) H
theorem take_all {P : Nat → Bool} {l : List Nat} {i : Nat} {c : Nat} (h : (l.take i).all P = true) (hc : l[i]? = some c) (hp : P c = true) : (l.take (i + 1)).all P = true := by
  rw [List.take_add_one, hc, List.all_append, h]
  simpa using hp
theorem ok_is_lamp (T : Txt K mg) : ∃ fd, FnOk P w K mg base CX0 1 (He.fAd K ("is_lamp", none)) fd ["thing"] (spLamp K) ∧ FunD K "is_lamp" "is_lamp" (defArgs s_is_lamp) (defBody s_is_lamp) (defScope s_is_lamp) [] [] (He.fAd K ("is_lamp", none)) fd := by
  obtain ⟨fd, F⟩ := T.c.def_ 3 (d := d_is_lamp) rfl
  obtain ⟨t_LETTERS, g_LETTERS⟩ := str_LETTERS T
  refine ⟨fd, F.ok sc_is_lamp (by walk_at "g94len") (fun cdv A outer st H vs Q E hr h => ?_), F⟩
  · obtain ⟨v, b, rfl, hs, k⟩ := h
    refine ⟨_, PSs.nox (C8.pss_cut (ps_if (PW.pt (pw_or (pt_not (pt_val (pe_callB call_isi (by rfl) (free_isinstance T) (by decide +kernel) (pa_cons (pv 0) (pa_cons (pe_bltn (v := .ty "str") (by rfl) (free_str T) (by decide +kernel) rfl) pa_nil))))) (pw_or1 (pt_not (pt_chain op_le op_le pe_int (pe_callB call_len_str (by rfl) (free_len T) (by decide +kernel) (pa_cons (pv 0) pa_nil)) pe_int))))) (pss_one (ps_ret pe_bl)) pss_nil)
        (pss_cons (ps_for PassesOwn.never rfl (pi_str (pv 0)) (pg_name (i := 1) sc_is_lamp.nd rfl (Or.inl rfl)) (pss_one (ps_if (pt_cmpR op_notIn_sign (pv 1) (pe_glob (v := .str "abcdefghijklmnopqrstuvwxyz") rfl g_LETTERS ⟨_, rfl⟩) rfl) (pss_one (ps_ret pe_bl)) pss_nil)))
        (pss_one (ps_ret pe_bl)))), ?_⟩
    rcases hs with ⟨l, rfl, hl, rfl⟩ | ⟨⟨u, h1, h2⟩, rfl⟩
    · have hsz : (SX.S l).length ≤ sizeLine := by
        rw [len_S]
        exact small_size (by omega)
      refine ⟨fun σ' H' => σ' = [some (.str (SX.S l)), none] ∧ H' = H ∧ 1 ≤ l.length ∧ l.length ≤ 8, ?_, ?_⟩
      · walk_at "rds"
        walk_at "ri" <;> intro c1
        · walk_at "rds"
          walk_at "ri" <;> intro c2
          · rw [len_S] at c1 c2
            unfold lampB at k
            rw [decide_eq_false (show ¬ l.length ≤ 8 by omega), Bool.and_false, Bool.false_and] at k
            walk_at "rds"
            exact k
          · rw [len_S] at c1 c2
            exact ⟨rfl, rfl, by omega, by omega⟩
        · rw [len_S] at c1
          unfold lampB at k
          rw [decide_eq_false (show ¬ 1 ≤ l.length by omega), Bool.false_and, Bool.false_and] at k
          walk_at "rds"
          exact k
      rintro σ' H' ⟨rfl, rfl, l1, l2⟩
      unfold lampB at k
      rw [decide_eq_true l1, decide_eq_true l2, Bool.true_and, Bool.true_and] at k
      refine ⟨_, rfl, _, rfl, for_text (l := l) (fun i σ' H2 => ∃ v, σ' = [some (.str (SX.S l)), v] ∧ H2 = H' ∧ (l.take i).all (fun c => decide (c ∈ letters.cps.toList)) = true) ⟨_, rfl, rfl, rfl⟩ ?_ ?_⟩
      · rintro i c σ' H2 hc ⟨v, rfl, rfl, ha⟩
        refine ⟨_, rfl, c, _, rfl, rfl, _, rfl, ?_⟩
        refine iteND (fun hn => ?_) (fun hm => ?_)
        · rw [show (l.all fun c => decide (c ∈ letters.cps.toList)) = false from by
            rw [List.all_eq_false]
            exact ⟨c, List.mem_of_getElem? hc, by rw [decide_eq_true_eq]; exact hn⟩] at k
          exact k
        · exact ⟨_, rfl, rfl, take_all ha hc (decide_eq_true hm)⟩
      rintro σ' H2 ⟨v, rfl, rfl, ha⟩
      rw [List.take_length] at ha
      rw [ha] at k
      exact k
    · refine ⟨fun _ _ => False, ?_, fun _ _ q => q.elim⟩
      refine ⟨_, rfl, _, _, _, _, false, rfl, .ty _, h1, h2, ?_⟩
      walk_at "rds"
      exact k
--CUT--
def sides : List Str := ["blue", "bright", "green", "pan", "red", "tilt"]
def sideB (d : PyData) : Bool := (sides.map PyData.str).any fun z => PyData.eqv z d
theorem ty_tup {K : PySem.W.Frag} {H : Hp} {a : Addr} {xs : List V} (h : SqT K H a xs) : TyX K H (.ref a) (.type "tuple") := by
  rcases h with (q | ⟨o, q⟩) | ⟨o, its, n, q1, q2, _⟩
  · exact .base (.tup q)
  · exact .fTuple q
  · exact .kTuple q1 q2
def dstr (xs : List Str) : List PyData := xs.map PyData.str
theorem dp_strs {K : PySem.W.Frag} {H : Hp} : ∀ xs : List Str, DpAll K H (xs.map V.str) (dstr xs)
  | [] => .nil
  | x :: r => .cons (.str x) (dp_strs r)
/-- what is_slot is asked of -/
def SlotSays (K : PySem.W.Frag) (H : Hp) (v : V) (b : Bool) : Prop :=
  (IsA K H v "tuple" false ∧ b = false) ∨ (∃ p xs, v = .ref p ∧ SqT K H p xs ∧ xs.length ≠ 2 ∧ xs.length ≤ 1000 ∧ b = false) ∨
  (∃ p u w, v = .ref p ∧ SqT K H p [u, w] ∧ IsA K H u "str" false ∧ b = false) ∨
  (∃ p l w d, v = .ref p ∧ SqT K H p [.str (SX.S l), w] ∧ l.length ≤ 1000 ∧ Dp K H w d ∧ SeqAt.shaped d = true ∧ b = (lampB l && sideB d))
def spSlot (K : PySem.W.Frag) : Sp := fun vs H Q _ => ∃ (v : V) (b : Bool), vs = [v] ∧ SlotSays K H v b ∧ Q (.bl b) H
theorem ok_is_slot (T : Txt K mg) : ∃ fd, FnOk P w K mg base CX0 2 (He.fAd K ("is_slot", none)) fd ["thing"] (spSlot K) ∧ FunD K "is_slot" "is_slot" (defArgs s_is_slot) (defBody s_is_slot) (defScope s_is_slot) [] [] (He.fAd K ("is_slot", none)) fd := by
  obtain ⟨fd, F⟩ := T.c.def_ 4 (d := d_is_slot) rfl
  obtain ⟨fd_is_lamp, G_is_lamp, F_is_lamp⟩ := ok_is_lamp (P := P) (w := w) (base := base) T
  have kp_is_lamp := F_is_lamp.kp
  have b_is_lamp : Binds K fd_is_lamp ["thing"] [] := FunD.bindsN F_is_lamp (fun _ _ _ _ _ _ us hl => match us, hl with | [_], _ => rfl)
  refine ⟨fd, F.ok sc_is_slot (by walk_at "g94len") (fun cdv A outer st H vs Q E hr h => ?_), F⟩
  · obtain ⟨v, b, rfl, hs, k⟩ := h
    refine ⟨_, PSs.nox (pss_cons (ps_if (PW.pt (pw_or (pt_not (pt_val (pe_callB call_isi (by rfl) (free_isinstance T) (by decide +kernel) (pa_cons (pv 0) (pa_cons (pe_bltn (v := .ty "tuple") (by rfl) (free_tuple T) (by decide +kernel) rfl) pa_nil))))) (pw_or1 (pt_cmpR op_ne (pe_callB call_len_seq (by rfl) (free_len T) (by decide +kernel) (pa_cons (pv 0) pa_nil)) pe_int (nomark _))))) (pss_one (ps_ret pe_bl)) pss_nil)
        (pss_one (ps_ret (pe_and (pe_call G_is_lamp (hr.mono (by decide)) rfl (glo_is_lamp T) kp_is_lamp b_is_lamp .nil pass0 (pa_cons (pe_ix ix_tup (pv 0) pe_int (fun _ _ => rfl)) pa_nil)) (pe_one (pe_cmpR (op_inTD (units65 hr)) (pe_ix ix_tup (pv 0) pe_int (fun _ _ => rfl)) (pe_glob (v := .ref (He.ga K "SIDES")) rfl (glo_SIDES T) rfl) (by with_unfolding_all rfl))))))), ?_⟩
    rcases hs with ⟨⟨u, h1, h2⟩, rfl⟩ | ⟨p, xs, rfl, hT, hn, hm, rfl⟩ | ⟨p, u, w, rfl, hT, ⟨t, h1, h2⟩, rfl⟩ | ⟨p, l, w, d, rfl, hT, hl, hd, hsh, rfl⟩
    · refine ⟨_, rfl, _, _, _, _, false, rfl, .ty _, h1, h2, ?_⟩
      walk_at "rds"
      exact k
    · refine ⟨_, rfl, _, _, _, _, true, rfl, .ty _, ty_tup hT, kit_ty (by decide +kernel), ?_⟩
      walk_at "rds"
      refine ⟨p, xs, rfl, .inr hT, ?_⟩
      walk_at "rds"
      refine iteNV (fun _ => ?_) (fun e => absurd e (by omega))
      exact k
    · refine ⟨_, rfl, _, _, _, _, true, rfl, .ty _, ty_tup hT, kit_ty (by decide +kernel), ?_⟩
      walk_at "rds"
      refine ⟨p, _, rfl, .inr hT, ?_⟩
      walk_at "rds"
      refine ⟨p, _, _, _, rfl, rfl, hT, rfl, u, _, rfl, .inr ⟨⟨t, h1, h2⟩, rfl⟩, ?_⟩
      exact ⟨_, rfl, k⟩
    · refine ⟨_, rfl, _, _, _, _, true, rfl, .ty _, ty_tup hT, kit_ty (by decide +kernel), ?_⟩
      walk_at "rds"
      refine ⟨p, _, rfl, .inr hT, ?_⟩
      walk_at "rds"
      refine ⟨p, _, _, _, rfl, rfl, hT, rfl, _, _, rfl, .inl ⟨l, rfl, hl, rfl⟩, ?_⟩
      refine ⟨_, rfl, iteB (fun e => ?_) (fun e => ?_)⟩
      · rw [e, Bool.true_and] at k
        exact ⟨_, rfl, p, _, _, _, rfl, rfl, hT, rfl, _, _, d, dstr sides, rfl, tup_SIDES T _, hd, dp_strs sides, hsh, by decide +kernel, k⟩
      · rw [e, Bool.false_and] at k
        exact k

/-! ### data of lists and tuples, their forms -/
structure Sd (n : Nat) (d : PyData) : Prop where
  can : d.canLay0 = true
  dep : d.depth ≤ n
structure SdAll (n : Nat) (ds : List PyData) : Prop where
  can : PyData.canLayAll0 ds = true
  dep : PyData.depthAll ds ≤ n
theorem Sd.sh {n : Nat} {d : PyData} (h : Sd n d) (hn : n ≤ 64) : SeqAt.shaped d = true := by
  unfold SeqAt.shaped
  rw [h.can, decide_eq_true (Nat.le_trans h.dep hn)]
  rfl
theorem Sd.int {n : Nat} {i : Int} : Sd n (.int i) := ⟨by unfold PyData.canLay0; rfl, by unfold PyData.depth; exact Nat.zero_le _⟩
theorem Sd.bl {n : Nat} {b : Bool} : Sd n (.bool b) := ⟨by unfold PyData.canLay0; rfl, by unfold PyData.depth; exact Nat.zero_le _⟩
theorem Sd.non {n : Nat} : Sd n .none := ⟨by unfold PyData.canLay0; rfl, by unfold PyData.depth; exact Nat.zero_le _⟩
theorem Sd.str {n : Nat} {x : Str} (h : PyData.strOk x = true) : Sd n (.str x) := ⟨by unfold PyData.canLay0; exact h, by unfold PyData.depth; exact Nat.zero_le _⟩
theorem SdAll.nil {n : Nat} : SdAll n [] := ⟨by unfold PyData.canLayAll0; rfl, by unfold PyData.depthAll; exact Nat.zero_le _⟩
theorem SdAll.cons {n : Nat} {d : PyData} {ds : List PyData} (h : Sd n d) (k : SdAll n ds) : SdAll n (d :: ds) :=
  ⟨by unfold PyData.canLayAll0; rw [h.can, k.can]; rfl, by unfold PyData.depthAll; exact Nat.max_le.mpr ⟨h.dep, k.dep⟩⟩
theorem SdAll.app {n : Nat} : ∀ {ds es : List PyData}, SdAll n ds → SdAll n es → SdAll n (ds ++ es)
  | [], _, _, k => k
  | d :: ds, es, h, k => by
    have hc := h.can
    have hd := h.dep
    unfold PyData.canLayAll0 at hc
    unfold PyData.depthAll at hd
    have hc := Bool.and_eq_true_iff.mp hc
    have hd := Nat.max_le.mp hd
    exact SdAll.cons ⟨hc.1, hd.1⟩ (SdAll.app ⟨hc.2, hd.2⟩ k)
theorem Sd.list {n : Nat} {ds : List PyData} (h : SdAll n ds) : Sd (n + 1) (.list ds) := ⟨by unfold PyData.canLay0; exact h.can, by unfold PyData.depth; exact Nat.succ_le_succ h.dep⟩
theorem Sd.tup {n : Nat} {ds : List PyData} (h : SdAll n ds) : Sd (n + 1) (.tuple ds) := ⟨by unfold PyData.canLay0; exact h.can, by unfold PyData.depth; exact Nat.succ_le_succ h.dep⟩
theorem SdAll.ints {n : Nat} : ∀ ns : List Int, SdAll n (ns.map PyData.int)
  | [] => SdAll.nil
  | _ :: r => SdAll.cons Sd.int (SdAll.ints r)
theorem DpAll.ints {K : PySem.W.Frag} {H : Hp} : ∀ ns : List Int, DpAll K H (ns.map V.int) (ns.map PyData.int)
  | [] => .nil
  | i :: r => .cons (.int i) (DpAll.ints r)
theorem Dp.ints {K : PySem.W.Frag} {H : Hp} {a : Addr} {ns : List Int} (h : H a = some (.lst (ns.map V.int))) : Dp K H (.ref a) (.list (ns.map PyData.int)) := .lst (.of h) (DpAll.ints ns)
theorem DpAll.len {K : PySem.W.Frag} {H : Hp} : ∀ {vs : List V} {ds : List PyData}, DpAll K H vs ds → ds.length = vs.length
  | _, _, .nil => rfl
  | _, _, .cons _ h => congrArg Nat.succ (DpAll.len h)
theorem eqvAll_ints : ∀ ns ms : List Int, PyData.eqvAll (ns.map PyData.int) (ms.map PyData.int) = decide (ns = ms)
  | [], [] => by
    show PyData.eqvAll [] [] = _
    unfold PyData.eqvAll
    rfl
  | [], m :: ms => by
    show PyData.eqvAll [] (_ :: _) = _
    unfold PyData.eqvAll
    rfl
  | n :: ns, [] => by
    show PyData.eqvAll (_ :: _) [] = _
    unfold PyData.eqvAll
    rfl
  | n :: ns, m :: ms => by
    show PyData.eqvAll (PyData.int n :: ns.map PyData.int) (PyData.int m :: ms.map PyData.int) = _
    unfold PyData.eqvAll
    rw [eqvAll_ints ns ms]
    have e : PyData.eqv (.int n) (.int m) = decide (n = m) := by
      unfold PyData.eqv
      exact Bool.eq_iff_iff.mpr (by simp)
    rw [e]
    exact Bool.eq_iff_iff.mpr (by simp)
theorem eqv_ints {ns ms : List Int} : PyData.eqv (.list (ns.map PyData.int)) (.list (ms.map PyData.int)) = decide (ns = ms) := by
  unfold PyData.eqv
  exact eqvAll_ints ns ms
theorem eqv_nil {ds : List PyData} : PyData.eqv (.list ds) (.list []) = ds.isEmpty := by
  unfold PyData.eqv
  cases ds with
  | nil =>
    unfold PyData.eqvAll
    rfl
  | cons d r =>
    unfold PyData.eqvAll
    rfl

/-! ### cues that tell one slot each -/
abbrev cP (K : PySem.W.Frag) : Addr := He.ga K "Part"
abbrev cC (K : PySem.W.Frag) : Addr := He.ga K "Cue"
abbrev cE (K : PySem.W.Frag) (x : Str) : Value := .ref (He.ga K x)
abbrev pfl (t a : Addr) : List (Str × V) := [("tells", .ref t), ("alone", .ref a), ("rise", .int 0), ("fall", .int 0), ("wait", .int 0)]
abbrev cfl (n : Int) (l : Addr) : List (Str × V) := [("number", .int n), ("parts", .ref l), ("stops", .bl false), ("follow", .non)]
/-- a slot: its lamp's letters, its side -/
structure SlotOk (l : List Nat) (s : Str) : Prop where
  lamp : lampB l = true
  side : s ∈ sides
  few : l.length ≤ 1000
abbrev slotK (l : List Nat) (s : Str) : List Key := [Sum.inr (SX.S l), Sum.inr s]
/-- what a part tells: a slot and a worth -/
structure Tl where
  l : List Nat
  s : Str
  w : Int
abbrev Tl.k (c : Tl) : List Key := slotK c.l c.s
abbrev Tl.kv (c : Tl) : List Key × V := (c.k, .int c.w)
structure TlOk (c : Tl) : Prop where
  slot : SlotOk c.l c.s
  w0 : 0 < c.w
  w1 : c.w ≤ 1000000000
structure PartAt (K : PySem.W.Frag) (H : Hp) (x : Addr) (c : Tl) : Prop where
  ob : ∃ dx t a, H x = some (.ins (cP K) dx (pfl t a)) ∧ H t = some (.dT [c.kv]) ∧ H a = some (.dT [])
abbrev Cu := Int × Tl
structure CueAt (K : PySem.W.Frag) (H : Hp) (x : Addr) (c : Cu) : Prop where
  ob : ∃ dx l p, H x = some (.ins (cC K) dx (cfl c.1 l)) ∧ H l = some (.lst [.ref p]) ∧ PartAt K H p c.2
theorem PartAt.same {K : PySem.W.Frag} {H H' : Hp} {x : Addr} {c : Tl} (h : PartAt K H x c) (s : Same H H') : PartAt K H' x c := by
  obtain ⟨dx, t, a, h1, h2, h3⟩ := h.ob
  exact ⟨⟨dx, t, a, s _ _ h1, s _ _ h2, s _ _ h3⟩⟩
theorem CueAt.same {K : PySem.W.Frag} {H H' : Hp} {x : Addr} {c : Cu} (h : CueAt K H x c) (s : Same H H') : CueAt K H' x c := by
  obtain ⟨dx, l, p, h1, h2, h3⟩ := h.ob
  exact ⟨⟨dx, l, p, s _ _ h1, s _ _ h2, h3.same s⟩⟩
def TimeIn (t : Int) : Prop := 0 ≤ t ∧ t ≤ 1000000000
def spTime : Sp := fun vs H Q _ => ∃ t : Int, vs = [.int t] ∧ TimeIn t ∧ Q (.bl true) H
theorem ok_is_time (T : Txt K mg) : ∃ fd, FnOk P w K mg base CX0 1 (He.fAd K ("is_time", none)) fd ["thing"] spTime ∧ FunD K "is_time" "is_time" (defArgs s_is_time) (defBody s_is_time) (defScope s_is_time) [] [] (He.fAd K ("is_time", none)) fd := by
  obtain ⟨fd, F⟩ := T.c.def_ 1 (d := d_is_time) rfl
  obtain ⟨t_MOST_times, g_MOST_times⟩ := int_MOST_times T
  refine ⟨fd, F.ok sc_is_time (by walk_at "g94len") (fun cdv A outer st H vs Q E hr h => ?_), F⟩
  · obtain ⟨t, rfl, ⟨h0, h1⟩, k⟩ := h
    refine ⟨_, PSs.nox (pss_one (ps_ret (pe_and (pe_callB call_isi (by rfl) (free_isinstance T) (by decide +kernel) (pa_cons (pv 0) (pa_cons (pe_bltn (v := .ty "int") (by rfl) (free_int T) (by decide +kernel) rfl) pa_nil))) (pe_and (pe_not (pe_callB call_isi (by rfl) (free_isinstance T) (by decide +kernel) (pa_cons (pv 0) (pa_cons (pe_bltn (v := .ty "bool") (by rfl) (free_bool T) (by decide +kernel) rfl) pa_nil)))) (pe_one (pe_chain op_le op_le pe_int (pv 0) (pe_glob (v := .int 1000000000) rfl g_MOST_times ⟨_, rfl⟩))))))), ?_⟩
    walk_at "wks"
    refine iteDT h0 ?_
    walk_at "wks"
    exact qT (Q := Q) h1 k
/-- dicts of slots to worths -/
def Slots (kvs : List (List Key × V)) : Prop := ∀ kv ∈ kvs, ∃ c : Tl, TlOk c ∧ kv = c.kv
theorem side_true {s : Str} (h : s ∈ sides) : sideB (.str s) = true := by
  unfold sideB
  rw [List.any_eq_true]
  refine ⟨.str s, List.mem_map.mpr ⟨s, h, rfl⟩, ?_⟩
  unfold PyData.eqv
  simp
theorem side_sh {s : Str} (h : s ∈ sides) : SeqAt.shaped (.str s) = true := by
  simp only [sides, List.mem_cons, List.not_mem_nil, or_false] at h
  rcases h with rfl | rfl | rfl | rfl | rfl | rfl <;> decide +kernel
def spLook (K : PySem.W.Frag) : Sp := fun vs H Q _ => ∃ (d : Addr) (kvs : List (List Key × V)), vs = [.ref d] ∧ H d = some (.dT kvs) ∧ Slots kvs ∧ Q .non H
theorem ok_look_at_slots (T : Txt K mg) : ∃ fd, FnOk P w K mg base CX0 3 (He.fAd K ("look_at_slots", none)) fd ["told"] (spLook K) ∧ FunD K "look_at_slots" "look_at_slots" (defArgs s_look_at_slots) (defBody s_look_at_slots) (defScope s_look_at_slots) [] [] (He.fAd K ("look_at_slots", none)) fd := by
  obtain ⟨fd, F⟩ := T.c.def_ 6 (d := d_look_at_slots) rfl
  obtain ⟨fd_is_slot, G_is_slot, F_is_slot⟩ := ok_is_slot (P := P) (w := w) (base := base) T
  have kp_is_slot := F_is_slot.kp
  have b_is_slot : Binds K fd_is_slot ["thing"] [] := FunD.bindsN F_is_slot (fun _ _ _ _ _ _ us hl => match us, hl with | [_], _ => rfl)
  refine ⟨fd, F.ok sc_look_at_slots (by walk_at "g94len") (fun cdv A outer st H vs Q E hr h => ?_), F⟩
  · obtain ⟨d, kvs, rfl, hd, hs, k⟩ := h
    refine ⟨_, PSs.nox (pss_cons (ps_if (pt_not (pt_val (pe_callB call_isi (by rfl) (free_isinstance T) (by decide +kernel) (pa_cons (pv 0) (pa_cons (pe_bltn (v := .ty "dict") (by rfl) (free_dict T) (by decide +kernel) rfl) pa_nil))))) (pss_one ps_never) pss_nil)
        (pss_one (ps_lock (ps_for PassesOwn.never rfl (pi_keys (pv 0)) (pg_name (i := 1) sc_look_at_slots.nd rfl (Or.inl rfl)) (pss_one (ps_if (pt_not (pt_val (pe_call G_is_slot (hr.mono (by decide)) rfl (glo_is_slot T) kp_is_slot b_is_slot .nil pass0 (pa_cons (pv 1) pa_nil)))) (pss_one ps_never) pss_nil)))))), ?_⟩
    walk_at "wks"
    refine lock_keysT hd (fun od Q q => ⟨_, rfl, q⟩) (fun od i σ' H' => ∃ v : Option V, σ' = [some (.ref d), v] ∧ H' = upd H d (.frz od (.dT kvs))) (fun od => ⟨_, rfl, rfl⟩) (fun od i σ' H' ⟨_, _, e⟩ => by rw [e]; exact upd_same) ?_ ?_
    · rintro od i k v q σ' H' hi ⟨u, rfl, rfl⟩ hq
      obtain ⟨c, ok, e⟩ := hs _ (List.mem_of_getElem? hi)
      obtain ⟨rfl, rfl⟩ : k = c.k ∧ v = .int c.w := ⟨congrArg Prod.fst e, congrArg Prod.snd e⟩
      refine ⟨_, rfl, _, _, rfl, .inr (.inr (.inr ⟨q, c.l, .str c.s, .str c.s, rfl, .of hq, ok.slot.few, .str _, side_sh ok.slot.side, rfl⟩)), ?_⟩
      rw [ok.slot.lamp, side_true ok.slot.side]
      walk_at "wks"
      exact rfl
    · rintro od σ' H' ⟨u, rfl, rfl⟩
      rw [upd_back hd]
      exact k
theorem ok_look_at_worths (T : Txt K mg) : ∃ fd, FnOk P w K mg base CX0 3 (He.fAd K ("look_at_worths", none)) fd ["told"] (spLook K) ∧ FunD K "look_at_worths" "look_at_worths" (defArgs s_look_at_worths) (defBody s_look_at_worths) (defScope s_look_at_worths) [] [] (He.fAd K ("look_at_worths", none)) fd := by
  obtain ⟨fd, F⟩ := T.c.def_ 7 (d := d_look_at_worths) rfl
  obtain ⟨fd_is_worth, G_is_worth, F_is_worth⟩ := ok_is_worth (P := P) (w := w) (base := base) T
  have kp_is_worth := F_is_worth.kp
  have b_is_worth : Binds K fd_is_worth ["thing"] [] := FunD.bindsN F_is_worth (fun _ _ _ _ _ _ us hl => match us, hl with | [_], _ => rfl)
  refine ⟨fd, F.ok sc_look_at_worths (by walk_at "g94len") (fun cdv A outer st H vs Q E hr h => ?_), F⟩
  · obtain ⟨d, kvs, rfl, hd, hs, k⟩ := h
    refine ⟨_, PSs.nox (pss_one (ps_lock (ps_for PassesOwn.never rfl (pi_valuesT (pv 0)) (pg_name (i := 1) sc_look_at_worths.nd rfl (Or.inl rfl)) (pss_one (ps_if (pt_not (pt_val (pe_call G_is_worth (hr.mono (by decide)) rfl (glo_is_worth T) kp_is_worth b_is_worth .nil pass0 (pa_cons (pv 1) pa_nil)))) (pss_one ps_never) pss_nil))))), ?_⟩
    refine lock_valsT hd (fun od Q q => ⟨_, rfl, q⟩) (fun od i σ' H' => ∃ v : Option V, σ' = [some (.ref d), v] ∧ H' = upd H d (.frz od (.dT kvs))) (fun od => ⟨_, rfl, rfl⟩) (fun od i σ' H' ⟨_, _, e⟩ => by rw [e]; exact upd_same) ?_ ?_
    · rintro od i k v σ' H' hi ⟨u, rfl, rfl⟩
      obtain ⟨c, ok, e⟩ := hs _ (List.mem_of_getElem? hi)
      obtain ⟨rfl, rfl⟩ : k = c.k ∧ v = .int c.w := ⟨congrArg Prod.fst e, congrArg Prod.snd e⟩
      refine ⟨_, rfl, _, _, rfl, .inl ⟨c.w, rfl, rfl⟩, ?_⟩
      rw [decide_eq_true (show 0 ≤ c.w ∧ c.w ≤ 1000000000 from ⟨Int.le_of_lt ok.w0, ok.w1⟩)]
      walk_at "wks"
      exact rfl
    · rintro od σ' H' ⟨u, rfl, rfl⟩
      rw [upd_back hd]
      exact k
def spPart (K : PySem.W.Frag) : Sp := fun vs H Q _ => ∃ (x dx t a : Addr) (c : Tl), vs = [.ref x, .ref t, .ref a, .int 0, .int 0, .int 0] ∧ H x = some (.ins (cP K) dx []) ∧ H t = some (.dT [c.kv]) ∧ H a = some (.dT []) ∧ TlOk c ∧
  ∀ H', But x H H' → PartAt K H' x c → Q .non H'
theorem ok_Part_init (T : Txt K mg) : ∃ fd, FnOk P w K mg base CX0 4 (He.fAd K ("Part", some "__init__")) fd ["self", "tells", "alone", "rise", "fall", "wait"] (spPart K) ∧ FunD K "__init__" "Part.__init__" (defArgs s_Part_init) (defBody s_Part_init) (defScope s_Part_init) [V.int 0, V.int 0, V.int 0] [] (He.fAd K ("Part", some "__init__")) fd := by
  obtain ⟨fd, F⟩ := T.c.def_ 8 (d := d_Part_init) rfl
  obtain ⟨fd_look_at_slots, G_look_at_slots, F_look_at_slots⟩ := ok_look_at_slots (P := P) (w := w) (base := base) T
  have kp_look_at_slots := F_look_at_slots.kp
  have b_look_at_slots : Binds K fd_look_at_slots ["told"] [] := FunD.bindsN F_look_at_slots (fun _ _ _ _ _ _ us hl => match us, hl with | [_], _ => rfl)
  obtain ⟨fd_look_at_worths, G_look_at_worths, F_look_at_worths⟩ := ok_look_at_worths (P := P) (w := w) (base := base) T
  have kp_look_at_worths := F_look_at_worths.kp
  have b_look_at_worths : Binds K fd_look_at_worths ["told"] [] := FunD.bindsN F_look_at_worths (fun _ _ _ _ _ _ us hl => match us, hl with | [_], _ => rfl)
  obtain ⟨fd_is_time, G_is_time, F_is_time⟩ := ok_is_time (P := P) (w := w) (base := base) T
  have kp_is_time := F_is_time.kp
  have b_is_time : Binds K fd_is_time ["thing"] [] := FunD.bindsN F_is_time (fun _ _ _ _ _ _ us hl => match us, hl with | [_], _ => rfl)
  have cl_Part := cls_Part T
  have na_Part_tells := na_Part_tells T
  have na_Part_alone := na_Part_alone T
  have na_Part_rise := na_Part_rise T
  have na_Part_fall := na_Part_fall T
  have na_Part_wait := na_Part_wait T
  refine ⟨fd, F.ok sc_Part_init (by walk_at "g94len") (fun cdv A outer st H vs Q E hr h => ?_), F⟩
  · obtain ⟨x, dx, t, a, c, rfl, hx, ht, ha, hc, k⟩ := h
    refine ⟨_, PSs.nox (pss_cons (ps_expr (pe_call G_look_at_slots (hr.mono (by decide)) rfl (glo_look_at_slots T) kp_look_at_slots b_look_at_slots .nil pass0 (pa_cons (pv 1) pa_nil)))
        (pss_cons (ps_expr (pe_call G_look_at_slots (hr.mono (by decide)) rfl (glo_look_at_slots T) kp_look_at_slots b_look_at_slots .nil pass0 (pa_cons (pv 2) pa_nil)))
        (pss_cons (ps_expr (pe_call G_look_at_worths (hr.mono (by decide)) rfl (glo_look_at_worths T) kp_look_at_worths b_look_at_worths .nil pass0 (pa_cons (pv 1) pa_nil)))
        (pss_cons (ps_expr (pe_call G_look_at_worths (hr.mono (by decide)) rfl (glo_look_at_worths T) kp_look_at_worths b_look_at_worths .nil pass0 (pa_cons (pv 2) pa_nil)))
        (pss_cons (ps_if (PW.pt (pw_or (pt_not (pt_val (pe_call G_is_time (hr.mono (by decide)) rfl (glo_is_time T) kp_is_time b_is_time .nil pass0 (pa_cons (pv 3) pa_nil)))) (pw_or (pt_not (pt_val (pe_call G_is_time (hr.mono (by decide)) rfl (glo_is_time T) kp_is_time b_is_time .nil pass0 (pa_cons (pv 4) pa_nil)))) (pw_or1 (pt_not (pt_val (pe_call G_is_time (hr.mono (by decide)) rfl (glo_is_time T) kp_is_time b_is_time .nil pass0 (pa_cons (pv 5) pa_nil)))))))) (pss_one ps_never) pss_nil)
        (pss_cons (ps_fldK (pv 0) (pe_callTy (call_dictT (room2 hr)) (by rfl) (free_dict T) (by decide +kernel) (pa_cons (pv 1) pa_nil)) rfl)
        (pss_cons (ps_fldK (pv 0) (pe_callTy (call_dictT (room2 hr)) (by rfl) (free_dict T) (by decide +kernel) (pa_cons (pv 2) pa_nil)) rfl)
        (pss_cons (ps_fldK (pv 0) (pv 3) rfl)
        (pss_cons (ps_fldK (pv 0) (pv 4) rfl)
        (pss_one (ps_fldK (pv 0) (pv 5) rfl))))))))))), ?_⟩
    have s1 : Slots [c.kv] := fun kv h => ⟨c, hc, List.mem_singleton.mp h⟩
    have s0 : Slots [] := fun kv h => nomatch h
    have t0 : TimeIn 0 := ⟨by decide, by decide⟩
    walk_at "wks"
    refine ⟨Nat.le_refl _, ?_⟩
    walk_at "wks"
    refine ⟨Nat.zero_le _, ?_⟩
    walk_at "wks"
    exact k _ (by walk_at "bt") ⟨⟨dx, _, _, by walk_at "hp", by walk_at "hp", by walk_at "hp"⟩⟩
def spSlots (K : PySem.W.Frag) : Sp := fun vs H Q _ => ∃ (x : Addr) (c : Tl), vs = [.ref x] ∧ PartAt K H x c ∧ ∀ (p q : Addr) H', Fr H p → Same H H' → H' p = some (.lst [.ref q]) → H' q = some (.tup (c.k.map kV)) → Q (.ref p) H'
theorem ok_Part_slots (T : Txt K mg) : ∃ fd, FnOk P w K mg base CX0 1 (He.fAd K ("Part", some "slots")) fd ["self"] (spSlots K) ∧ FunD K "slots" "Part.slots" (defArgs s_Part_slots) (defBody s_Part_slots) (defScope s_Part_slots) [] [] (He.fAd K ("Part", some "slots")) fd := by
  obtain ⟨fd, F⟩ := T.c.def_ 9 (d := d_Part_slots) rfl
  have cl_Part := cls_Part T
  have na_Part_tells := na_Part_tells T
  have na_Part_alone := na_Part_alone T
  refine ⟨fd, F.ok sc_Part_slots (by walk_at "g94len") (fun cdv A outer st H vs Q E hr h => ?_), F⟩
  · obtain ⟨x, c, rfl, ⟨dx, t, a, hx, ht, ha⟩, k⟩ := h
    refine ⟨_, PSs.nox (pss_one (ps_ret (pe_op op_catK (pe_callTy (call_listDT rfl) (by rfl) (free_list T) (by decide +kernel) (pa_cons (pe_fld (pv 0) rfl) pa_nil)) (pe_lock (pe_lc (own := [("slot", 1)]) (g := upG (gName 1)) rfl sc_Part_slots.nd (pi_keys (pe_fld (pv 0) rfl)) (blkOk_by (own := [("slot", 1)]) (N := ["self", "slot"]) (sc := defScope s_Part_slots) (by decide +kernel)) (fun _ _ _ _ _ => (PG.up (pg_name (i := 1) sc_Part_slots.nd rfl (Or.inl rfl)))) (fun _ _ _ _ _ => (PTs.up (pts_one (pt_cmp (pc_dnotin (hu_of hr) (pv 1) (show PE _ _ (tFld K _ _) from pe_fld (pv 0) rfl)))))) (fun _ _ _ _ _ => (PE.up (pv 1)))))))), ?_⟩
    walk_at "wks"
    intro bs ik
    obtain ⟨q, rfl, hq⟩ : ∃ q, bs = [q] ∧ H q = some (.tup (c.k.map kV)) := by
      cases ik with
      | cons h t =>
        cases t
        exact ⟨_, rfl, h⟩
    walk_at "wk"
    rename_i p1 H1 f1 s1 h1
    have hx1 := s1 _ _ hx
    have ha1 := s1 _ _ ha
    refine lock_lcT0 ha1 (fun od Q q => ⟨_, rfl, _, _, _, _, _, rfl, updN (ne_of hx1 ha1 (by intro z; cases z)) hx1, cl_Part, na_Part_alone, (by walk_at "lk"), q⟩) ?_
    walk_at "wks"
    exact k _ q _ (by walk_at "fr") (by walk_at "sm") (by walk_at "hp") (by walk_at "hp")
def spParts (K : PySem.W.Frag) : Sp := fun vs H Q _ => ∃ (l x : Addr) (c : Tl), vs = [.ref l] ∧ H l = some (.lst [.ref x]) ∧ PartAt K H x c ∧ ∀ H', Same H H' → Q (.bl true) H'
theorem ok_are_parts (T : Txt K mg) : ∃ fd, FnOk P w K mg base CX0 2 (He.fAd K ("are_parts", none)) fd ["parts"] (spParts K) ∧ FunD K "are_parts" "are_parts" (defArgs s_are_parts) (defBody s_are_parts) (defScope s_are_parts) [] [] (He.fAd K ("are_parts", none)) fd := by
  obtain ⟨fd, F⟩ := T.c.def_ 10 (d := d_are_parts) rfl
  obtain ⟨fd_Part_slots, G_Part_slots, F_Part_slots⟩ := ok_Part_slots (P := P) (w := w) (base := base) T
  have kp_Part_slots := F_Part_slots.kp
  have b_Part_slots : Binds K fd_Part_slots ["self"] [] := FunD.bindsN F_Part_slots (fun _ _ _ _ _ _ us hl => match us, hl with | [_], _ => rfl)
  refine ⟨fd, F.ok sc_are_parts (by walk_at "g94len") (fun cdv A outer st H vs Q E hr h => ?_), F⟩
  · obtain ⟨l, x, c, rfl, hl, hp, k⟩ := h
    refine ⟨_, PSs.nox (pss_cons (ps_if (PW.pt (pw_or (pt_not (pt_val (pe_callB call_isi (by rfl) (free_isinstance T) (by decide +kernel) (pa_cons (pv 0) (pa_cons (pe_bltn (v := .ty "list") (by rfl) (free_list T) (by decide +kernel) rfl) pa_nil))))) (pw_or1 (pt_not (pt_chain op_le op_le pe_int (pe_callB call_len_seq (by rfl) (free_len T) (by decide +kernel) (pa_cons (pv 0) pa_nil)) pe_int))))) (pss_one (ps_ret pe_bl)) pss_nil)
        (pss_cons (ps_set (i := 1) sc_are_parts.nd rfl (Or.inl rfl) pe_dnewTK)
        (pss_cons (ps_for PassesOwn.never rfl (pi_list (pv 0)) (pg_name (i := 2) sc_are_parts.nd rfl (Or.inl rfl)) (pss_cons (ps_if (pt_not (pt_val (pe_callB (C8.call_isC (ins_Part T)) (by rfl) (free_isinstance T) (by decide +kernel) (pa_cons (pv 2) (pa_cons (pe_glob (v := .ref (He.ga K "Part")) rfl (glo_Part T) rfl) pa_nil))))) (pss_one (ps_ret pe_bl)) pss_nil)
        (pss_one (ps_for PassesOwn.never rfl (pi_list (pe_meth0 (pv 2) (cls_Part T) (m_Part_slots T) G_Part_slots (hr.mono (by decide)) b_Part_slots .nil pass0)) (pg_name (i := 3) sc_are_parts.nd rfl (Or.inl rfl)) (pss_cons (ps_if (pt_cmp (pc_din (hu_of hr) (pv 3) (pv 1))) (pss_one (ps_ret pe_bl)) pss_nil)
        (pss_one (ps_dputTK (hu_of hr) (pv 1) (pv 3) pe_bl rfl)))))))
        (pss_one (ps_ret pe_bl))))), ?_⟩
    walk_at "wks"
    rename_i d1 H1 f1 s1 h1
    have hl1 := s1 _ _ hl
    refine ⟨⟨_, .of hl1⟩, for_list (K := K) (a := l) (xs := [.ref x]) (fun i σ' H' => ∃ v w : Option V, σ' = [some (.ref l), some (.ref d1), v, w] ∧ Same H H' ∧ (i = 0 → H' = H1)) ⟨_, _, rfl, s1, fun _ => rfl⟩ (fun i σ' H' _ ⟨_, _, _, s, _⟩ => .of (s _ _ hl)) ?_ ?_⟩
    · rintro i y σ' H2 hi ⟨v, w0, rfl, s2, e2⟩
      obtain ⟨rfl, rfl⟩ : i = 0 ∧ y = V.ref x := by
        match i, hi with
        | 0, hi => exact ⟨rfl, (Option.some.inj hi).symm⟩
      obtain rfl := e2 rfl
      obtain ⟨dx, t, a, hx, ht, ha⟩ := (hp.same s1).ob
      refine ⟨_, rfl, x, dx, _, rfl, hx, _, rfl, iteF ?_⟩
      walk_at "wks"
      refine ⟨x, c, rfl, ⟨dx, t, a, hx, ht, ha⟩, fun p q H3 f3 s3 h3 hq => ?_⟩
      have d3 := s3 _ _ h1
      refine ⟨p, rfl, ⟨_, .of h3⟩, for_list (K := K) (a := p) (xs := [.ref q]) (fun i σ' H' => ∃ w : Option V, σ' = [some (.ref l), some (.ref d1), some (.ref x), w] ∧ Same H H' ∧ H' p = some (.lst [.ref q]) ∧ (i = 0 → H' = H3)) ⟨_, rfl, s1.trans s3, h3, fun _ => rfl⟩ (fun i σ' H' _ ⟨_, _, _, e, _⟩ => .of e) ?_ ?_⟩
      · rintro i y σ' H4 hi ⟨w, rfl, s4, h4, e4⟩
        obtain ⟨rfl, rfl⟩ : i = 0 ∧ y = V.ref q := by
          match i, hi with
          | 0, hi => exact ⟨rfl, (Option.some.inj hi).symm⟩
        obtain rfl := e4 rfl
        walk_at "wks"
        refine ⟨d1, _, rfl, .t d3 hq, ?_⟩
        walk_at "wks"
        rename_i H5 m5 h5
        exact ⟨(s1.trans s3).but m5 f1, m5 _ _ (ne_of h3 d3 (by intro z; cases z)) h3, fun z => by cases z⟩
      · rintro σ' H' ⟨w, rfl, s4, _, _⟩
        exact ⟨_, _, rfl, s4, fun z => by cases z⟩
    · rintro σ' H2 ⟨v, w, rfl, s2, _⟩
      exact k _ s2
def spCue (K : PySem.W.Frag) : Sp := fun vs H Q _ => ∃ (y dx l x : Addr) (n : Int) (c : Tl), vs = [.ref y, .int n, .ref l, .bl false, .non] ∧ H y = some (.ins (cC K) dx []) ∧ H l = some (.lst [.ref x]) ∧ PartAt K H x c ∧ 1 ≤ n ∧ n ≤ 1000000000 ∧
  ∀ (l' : Addr) H', But y H H' → Fr H l' → H' y = some (.ins (cC K) dx (cfl n l')) → H' l' = some (.lst [.ref x]) → PartAt K H' x c → Q .non H'
theorem Fr.but {H G : Hp} {p y : Addr} {o : HO} (f : Fr G p) (m : But y H G) (h : G y = some o) : Fr H p := by
  cases e : H p with
  | none => exact e
  | some u =>
    have ne : p ≠ y := neF2 f h
    have := m _ _ ne e
    rw [f] at this
    cases this
theorem ok_Cue_init (T : Txt K mg) : ∃ fd, FnOk P w K mg base CX0 3 (He.fAd K ("Cue", some "__init__")) fd ["self", "number", "parts", "stops", "follow"] (spCue K) ∧ FunD K "__init__" "Cue.__init__" (defArgs s_Cue_init) (defBody s_Cue_init) (defScope s_Cue_init) [V.bl false, V.non] [] (He.fAd K ("Cue", some "__init__")) fd := by
  obtain ⟨fd, F⟩ := T.c.def_ 11 (d := d_Cue_init) rfl
  obtain ⟨fd_is_amid, G_is_amid, F_is_amid⟩ := ok_is_amid (P := P) (w := w) (base := base) T
  have kp_is_amid := F_is_amid.kp
  have b_is_amid : Binds K fd_is_amid ["thing", "least", "most"] [] := FunD.bindsN F_is_amid (fun _ _ _ _ _ _ us hl => match us, hl with | [_, _, _], _ => rfl)
  obtain ⟨fd_are_parts, G_are_parts, F_are_parts⟩ := ok_are_parts (P := P) (w := w) (base := base) T
  have kp_are_parts := F_are_parts.kp
  have b_are_parts : Binds K fd_are_parts ["parts"] [] := FunD.bindsN F_are_parts (fun _ _ _ _ _ _ us hl => match us, hl with | [_], _ => rfl)
  obtain ⟨fd_is_time, G_is_time, F_is_time⟩ := ok_is_time (P := P) (w := w) (base := base) T
  have kp_is_time := F_is_time.kp
  have b_is_time : Binds K fd_is_time ["thing"] [] := FunD.bindsN F_is_time (fun _ _ _ _ _ _ us hl => match us, hl with | [_], _ => rfl)
  obtain ⟨t_MOST_cues, g_MOST_cues⟩ := int_MOST_cues T
  have cl_Cue := cls_Cue T
  have na_Cue_number := na_Cue_number T
  have na_Cue_parts := na_Cue_parts T
  have na_Cue_stops := na_Cue_stops T
  have na_Cue_follow := na_Cue_follow T
  refine ⟨fd, F.ok sc_Cue_init (by walk_at "g94len") (fun cdv A outer st H vs Q E hr h => ?_), F⟩
  · obtain ⟨y, dx, l, x, n, c, rfl, hy, hl, hp, n0, n1, k⟩ := h
    refine ⟨_, PSs.nox (pss_cons (ps_if (pt_not (pt_val (pe_call G_is_amid (hr.mono (by decide)) rfl (glo_is_amid T) kp_is_amid b_is_amid .nil pass0 (pa_cons (pv 1) (pa_cons pe_int (pa_cons (pe_glob (v := .int 1000000000) rfl g_MOST_cues ⟨_, rfl⟩) pa_nil)))))) (pss_one ps_never) pss_nil)
        (pss_cons (ps_if (pt_not (pt_val (pe_call G_are_parts (hr.mono (by decide)) rfl (glo_are_parts T) kp_are_parts b_are_parts .nil pass0 (pa_cons (pv 2) pa_nil)))) (pss_one ps_never) pss_nil)
        (pss_cons (ps_if (PW.pt (pw_and (pt_cmpR op_notN (pv 4) pe_non (nomark _)) (pw_and1 (pt_not (pt_val (pe_call G_is_time (hr.mono (by decide)) rfl (glo_is_time T) kp_is_time b_is_time .nil pass0 (pa_cons (pv 4) pa_nil))))))) (pss_one ps_never) pss_nil)
        (pss_cons (ps_fldK (pv 0) (pv 1) rfl)
        (pss_cons (ps_fldK (pv 0) (pe_callTy call_listK (by rfl) (free_list T) (by decide +kernel) (pa_cons (pv 2) pa_nil)) rfl)
        (pss_cons (ps_fldK (pv 0) (pv 3) rfl)
        (pss_one (ps_fldK (pv 0) (pv 4) rfl)))))))), ?_⟩
    have nxy : x ≠ y := by
      obtain ⟨ex, et, ea, k1, k2, k3⟩ := hp.ob
      exact ne_of k1 hy (ins_ne (by show (5 : Nat) ≠ 0; decide))
    walk_at "wk"
    refine ⟨_, _, _, rfl, .inl ⟨n, rfl, ?_⟩⟩
    rw [decide_eq_true (show 1 ≤ n ∧ n ≤ 1000000000 from ⟨n0, n1⟩)]
    walk_at "wks"
    intro H1 s1
    have hl1 := s1 _ _ hl
    have hp1 := hp.same s1
    walk_at "wks"
    rename_i G1 m1 h1 p2 G2 f2 s2 h2 G3 m3 h3 G4 m4 h4 G5 m5 h5
    obtain ⟨ex, et, ea, k1, k2, k3⟩ := hp1.ob
    have e1 : G5 y = some (.ins (cC K) dx (cfl n p2)) := h5
    exact k p2 _ (by walk_at "bt") (s1.fresh (Fr.but f2 m1 h1)) e1 (by walk_at "hp") ⟨⟨ex, et, ea, by walk_at "hp", by walk_at "hp", by walk_at "hp"⟩⟩
/-! ### lists of cues -/
def Cues (K : PySem.W.Frag) (H : Hp) (xs : List Addr) (cs : List Cu) : Prop := Paired (CueAt K H) xs cs
theorem Cues.same {K : PySem.W.Frag} {H H' : Hp} {xs : List Addr} {cs : List Cu} (h : Cues K H xs cs) (s : Same H H') : Cues K H' xs cs := Paired.mapP h fun _ _ c => c.same s
theorem Cues.at {K : PySem.W.Frag} {H : Hp} : ∀ {xs : List Addr} {cs : List Cu} {i : Nat} {y : V}, Cues K H xs cs → (xs.map V.ref)[i]? = some y → ∃ x c, y = .ref x ∧ xs[i]? = some x ∧ cs[i]? = some c ∧ CueAt K H x c
  | _, _, 0, y, .cons (a := x) (b := c) h t, e => ⟨x, c, (Option.some.inj e).symm, rfl, rfl, h⟩
  | x :: xs, c :: cs, i + 1, y, .cons h t, e => Cues.at (xs := xs) (cs := cs) (i := i) t e
def Rising : Int → List Cu → Prop
  | _, [] => True
  | n, c :: r => n < c.1 ∧ Rising c.1 r
structure CuesIn (K : PySem.W.Frag) (H : Hp) (xs : List Addr) (cs : List Cu) : Prop where
  at_ : Cues K H xs cs
  up : Rising 0 cs
  few : cs.length ≤ 2
  ok : ∀ c ∈ cs, TlOk c.2
theorem CuesIn.same {K : PySem.W.Frag} {H H' : Hp} {xs : List Addr} {cs : List Cu} (h : CuesIn K H xs cs) (s : Same H H') : CuesIn K H' xs cs := ⟨h.at_.same s, h.up, h.few, h.ok⟩
theorem Cues.len {K : PySem.W.Frag} {H : Hp} {xs : List Addr} {cs : List Cu} (h : Cues K H xs cs) : xs.length = cs.length := Paired.length h
def numAtI (n : Int) (cs : List Cu) (i : Nat) : Int := ((cs.take i).getLast?.map (·.1)).getD n
theorem rising_at : ∀ {n : Int} {cs : List Cu} {i : Nat} {c : Cu}, Rising n cs → cs[i]? = some c → numAtI n cs i < c.1 ∧ numAtI n cs (i + 1) = c.1
  | n, d :: r, 0, c, h, e => by
    have e2 : d = c := Option.some.inj e
    subst e2
    exact ⟨h.1, rfl⟩
  | n, d :: r, i + 1, c, h, e => by
    have ih := rising_at (n := d.1) (i := i) h.2 (show r[i]? = some c from e)
    have k : ∀ j, numAtI n (d :: r) (j + 1) = numAtI d.1 r j := fun j => by
      unfold numAtI
      rw [List.take_succ_cons]
      cases h0 : (r.take j).getLast? with
      | none =>
        rw [List.getLast?_eq_none_iff] at h0
        rw [h0]
        rfl
      | some z =>
        rw [List.getLast?_cons, h0]
        rfl
    rw [k, k]
    exact ih
/-- an error leaves: its class, no dict, the heap behind -/
abbrev Lets (K : PySem.W.Frag) (x : Str) (E : XK) (H : Hp) : Prop := ∀ H', Same H H' → E (cE K x) none H'
/-- what is no list of cues -/
def BadCues (K : PySem.W.Frag) (H : Hp) (v : V) : Prop := IsA K H v "list" false ∨ ∃ (a : Addr) (xs : List Addr) (cs : List Cu) (y : V), v = .ref a ∧ H a = some (.lst (xs.map V.ref ++ [y])) ∧ CuesIn K H xs cs ∧ (y = .non ∨ ∃ x c, y = .ref x ∧ CueAt K H x c ∧ c.1 ≤ numAtI 0 cs cs.length)
def spList (K : PySem.W.Frag) : Sp := fun vs H Q E => ∃ v : V, vs = [v] ∧ ((∃ (a : Addr) (xs : List Addr) (cs : List Cu), v = .ref a ∧ H a = some (.lst (xs.map V.ref)) ∧ CuesIn K H xs cs ∧ ∀ (p : Addr) H', Fr H p → Same H H' → H' p = some (.lst (xs.map V.ref)) → Q (.ref p) H') ∨ (BadCues K H v ∧ Lets K "NoList" E H))
theorem ok_cue_list (T : Txt K mg) : ∃ fd, FnOk P w K mg base (L2.CX P w) 1 (He.fAd K ("cue_list", none)) fd ["cues"] (spList K) ∧ FunD K "cue_list" "cue_list" (defArgs s_cue_list) (defBody s_cue_list) (defScope s_cue_list) [] [] (He.fAd K ("cue_list", none)) fd := by
  obtain ⟨fd, F⟩ := T.c.def_ 12 (d := d_cue_list) rfl
  have cl_Cue := cls_Cue T
  have na_Cue_number := na_Cue_number T
  refine ⟨fd, F.ok sc_cue_list (by walk_at "g94len") (fun cdv A outer st H vs Q E hr h => ?_), F⟩
  · obtain ⟨v, rfl, ⟨a, xs, cs, rfl, ha, hc, k⟩ | ⟨⟨u, h1, h2⟩ | ⟨a, xs, cs, y, rfl, ha, hc, hy⟩, k⟩⟩ := h
    · refine ⟨_, (pss_cons (ps_if (pt_not (pt_val (pe_callB call_isi (by rfl) (free_isinstance T) (by decide +kernel) (pa_cons (pv 0) (pa_cons (pe_bltn (v := .ty "list") (by rfl) (free_list T) (by decide +kernel) rfl) pa_nil))))) (pss_one (ps_raise rfl (takes_of rfl rfl rfl rfl) (pmk_own PySem.F.excBase_ValueError (exc_NoList T).1 (glo_NoList T) (exc_NoList T).2.1 (raises_own (exc_NoList T).2.2.1 (exc_NoList T).2.2.2) rfl))) pss_nil)
        (pss_cons (ps_set (i := 1) sc_cue_list.nd rfl (Or.inl rfl) pe_int)
        (pss_cons (ps_for (passes_of rfl) rfl (pi_list (pv 0)) (pg_name (i := 2) sc_cue_list.nd rfl (Or.inl rfl)) (pss_cons (ps_if (PW.pt (pw_or (pt_not (pt_val (pe_callB (callR_or (C8.call_isC (ins_Cue T)) call_isi) (by rfl) (free_isinstance T) (by decide +kernel) (pa_cons (pv 2) (pa_cons (pe_glob (v := .ref (He.ga K "Cue")) rfl (glo_Cue T) rfl) pa_nil))))) (pw_or1 (pt_cmpR op_le (pe_fld (pv 2) rfl) (pv 1) (nomark _))))) (pss_one (ps_raise rfl (takes_of rfl rfl rfl rfl) (pmk_own PySem.F.excBase_ValueError (exc_NoList T).1 (glo_NoList T) (exc_NoList T).2.1 (raises_own (exc_NoList T).2.2.1 (exc_NoList T).2.2.2) rfl))) pss_nil)
        (pss_one (ps_set (i := 1) sc_cue_list.nd rfl (Or.inl rfl) (pe_fld (pv 2) rfl)))))
        (pss_one (ps_ret (pe_callTy call_listK (by rfl) (free_list T) (by decide +kernel) (pa_cons (pv 0) pa_nil))))))), ?_⟩
      walk_at "wks"
      refine ⟨⟨_, .of ha⟩, for_list (K := K) (a := a) (xs := xs.map V.ref) (fun i σ' H' => ∃ w : Option V, σ' = [some (.ref a), some (.int (numAtI 0 cs i)), w] ∧ H' = H) ⟨_, rfl, rfl⟩ (fun i σ' H' _ ⟨_, _, e⟩ => by rw [e]; exact .of ha) ?_ ?_⟩
      · rintro i y σ' H' hi ⟨w, rfl, rfl⟩
        obtain ⟨x, c, rfl, _, hci, ⟨dx, l, p, hx, _, _⟩⟩ := hc.at_.at hi
        obtain ⟨h1, h2⟩ := rising_at hc.up hci
        refine ⟨_, rfl, .inl ⟨x, dx, _, rfl, hx, _, rfl, iteF ?_⟩⟩
        walk_at "wks"
        refine iteDF (by omega) ?_
        walk_at "wks"
        refine ⟨some (V.ref x), ?_, rfl⟩
        rw [h2]
        rfl
      · rintro σ' H' ⟨w, rfl, rfl⟩
        walk_at "wks"
        exact k _ _ (by assumption) (by walk_at "sm") (by assumption)
    · refine ⟨_, (pss_cons (ps_if (pt_not (pt_val (pe_callB call_isi (by rfl) (free_isinstance T) (by decide +kernel) (pa_cons (pv 0) (pa_cons (pe_bltn (v := .ty "list") (by rfl) (free_list T) (by decide +kernel) rfl) pa_nil))))) (pss_one (ps_raise rfl (takes_of rfl rfl rfl rfl) (pmk_own PySem.F.excBase_ValueError (exc_NoList T).1 (glo_NoList T) (exc_NoList T).2.1 (raises_own (exc_NoList T).2.2.1 (exc_NoList T).2.2.2) rfl))) pss_nil)
        (pss_cons (ps_set (i := 1) sc_cue_list.nd rfl (Or.inl rfl) pe_int)
        (pss_cons (ps_for (passes_of rfl) rfl (pi_list (pv 0)) (pg_name (i := 2) sc_cue_list.nd rfl (Or.inl rfl)) (pss_cons (ps_if (PW.pt (pw_or (pt_not (pt_val (pe_callB (callR_or (C8.call_isC (ins_Cue T)) call_isi) (by rfl) (free_isinstance T) (by decide +kernel) (pa_cons (pv 2) (pa_cons (pe_glob (v := .ref (He.ga K "Cue")) rfl (glo_Cue T) rfl) pa_nil))))) (pw_or1 (pt_cmpR op_le (pe_fld (pv 2) rfl) (pv 1) (nomark _))))) (pss_one (ps_raise rfl (takes_of rfl rfl rfl rfl) (pmk_own PySem.F.excBase_ValueError (exc_NoList T).1 (glo_NoList T) (exc_NoList T).2.1 (raises_own (exc_NoList T).2.2.1 (exc_NoList T).2.2.2) rfl))) pss_nil)
        (pss_one (ps_set (i := 1) sc_cue_list.nd rfl (Or.inl rfl) (pe_fld (pv 2) rfl)))))
        (pss_one (ps_ret (pe_callTy call_listK (by rfl) (free_list T) (by decide +kernel) (pa_cons (pv 0) pa_nil))))))), ?_⟩
      refine ⟨_, rfl, _, _, _, _, false, rfl, .ty _, h1, h2, ?_⟩
      exact ⟨_, rfl, iteT (k _ (.refl _))⟩
    · refine ⟨_, (pss_cons (ps_if (pt_not (pt_val (pe_callB call_isi (by rfl) (free_isinstance T) (by decide +kernel) (pa_cons (pv 0) (pa_cons (pe_bltn (v := .ty "list") (by rfl) (free_list T) (by decide +kernel) rfl) pa_nil))))) (pss_one (ps_raise rfl (takes_of rfl rfl rfl rfl) (pmk_own PySem.F.excBase_ValueError (exc_NoList T).1 (glo_NoList T) (exc_NoList T).2.1 (raises_own (exc_NoList T).2.2.1 (exc_NoList T).2.2.2) rfl))) pss_nil)
        (pss_cons (ps_set (i := 1) sc_cue_list.nd rfl (Or.inl rfl) pe_int)
        (pss_cons (ps_for (passes_of rfl) rfl (pi_list (pv 0)) (pg_name (i := 2) sc_cue_list.nd rfl (Or.inl rfl)) (pss_cons (ps_if (PW.pt (pw_or (pt_not (pt_val (pe_callB (callR_or (C8.call_isC (ins_Cue T)) call_isi) (by rfl) (free_isinstance T) (by decide +kernel) (pa_cons (pv 2) (pa_cons (pe_glob (v := .ref (He.ga K "Cue")) rfl (glo_Cue T) rfl) pa_nil))))) (pw_or1 (pt_cmpR op_le (pe_fld (pv 2) rfl) (pv 1) (nomark _))))) (pss_one (ps_raise rfl (takes_of rfl rfl rfl rfl) (pmk_own PySem.F.excBase_ValueError (exc_NoList T).1 (glo_NoList T) (exc_NoList T).2.1 (raises_own (exc_NoList T).2.2.1 (exc_NoList T).2.2.2) rfl))) pss_nil)
        (pss_one (ps_set (i := 1) sc_cue_list.nd rfl (Or.inl rfl) (pe_fld (pv 2) rfl)))))
        (pss_one (ps_ret (pe_callTy call_listK (by rfl) (free_list T) (by decide +kernel) (pa_cons (pv 0) pa_nil))))))), ?_⟩
      walk_at "wks"
      have hlen := hc.at_.len
      refine ⟨⟨_, .of ha⟩, for_list (K := K) (a := a) (xs := xs.map V.ref ++ [y]) (fun i σ' H' => i ≤ cs.length ∧ ∃ w : Option V, σ' = [some (.ref a), some (.int (numAtI 0 cs i)), w] ∧ H' = H) ⟨Nat.zero_le _, _, rfl, rfl⟩ (fun i σ' H' _ ⟨_, _, _, e⟩ => by rw [e]; exact .of ha) ?_ ?_⟩
      · rintro i z σ' H' hi ⟨il, w, rfl, rfl⟩
        by_cases hlt : i < cs.length
        · rw [List.getElem?_append_left (by rw [List.length_map, hlen]; exact hlt)] at hi
          obtain ⟨x, c, rfl, _, hci, ⟨dx, l, p, hx, _, _⟩⟩ := hc.at_.at hi
          obtain ⟨h1, h2⟩ := rising_at hc.up hci
          refine ⟨_, rfl, .inl ⟨x, dx, _, rfl, hx, _, rfl, iteF ?_⟩⟩
          walk_at "wks"
          refine iteDF (by omega) ?_
          walk_at "wks"
          refine ⟨some (V.ref x), ?_, rfl⟩
          rw [h2]
          rfl
        · obtain rfl : i = cs.length := by omega
          rw [List.getElem?_append_right (by rw [List.length_map, hlen]; exact Nat.le_refl _), List.length_map, hlen, Nat.sub_self] at hi
          obtain rfl : y = z := Option.some.inj hi
          rcases hy with rfl | ⟨x, c, rfl, ⟨dx, l, p, hx, _, _⟩, le⟩
          · refine ⟨_, rfl, .inr ⟨_, _, _, _, false, rfl, .own _, .base .non, isN_Cue T, ?_⟩⟩
            exact ⟨_, rfl, iteT (k _ (.refl _))⟩
          · refine ⟨_, rfl, .inl ⟨x, dx, _, rfl, hx, _, rfl, iteF ?_⟩⟩
            walk_at "wks"
            refine iteD (fun _ => k _ (.refl _)) (fun z => absurd le z)
      · rintro σ' H' ⟨il, _⟩
        rw [List.length_append, List.length_map, List.length_singleton] at il
        omega
def spGoodN : Sp := fun vs H Q _ => ∃ n : Int, vs = [.int n] ∧ 0 ≤ n ∧ Q (.int n) H
theorem ok_good_number (T : Txt K mg) : ∃ fd, FnOk P w K mg base CX0 1 (He.fAd K ("good_number", none)) fd ["number"] spGoodN ∧ FunD K "good_number" "good_number" (defArgs s_good_number) (defBody s_good_number) (defScope s_good_number) [] [] (He.fAd K ("good_number", none)) fd := by
  obtain ⟨fd, F⟩ := T.c.def_ 13 (d := d_good_number) rfl
  refine ⟨fd, F.ok sc_good_number (by walk_at "g94len") (fun cdv A outer st H vs Q E hr h => ?_), F⟩
  · obtain ⟨n, rfl, h0, k⟩ := h
    refine ⟨_, PSs.nox (pss_cons (ps_if (PW.pt (pw_or (pt_not (pt_val (pe_callB call_isi (by rfl) (free_isinstance T) (by decide +kernel) (pa_cons (pv 0) (pa_cons (pe_bltn (v := .ty "int") (by rfl) (free_int T) (by decide +kernel) rfl) pa_nil))))) (pw_or (pt_val (pe_callB call_isi (by rfl) (free_isinstance T) (by decide +kernel) (pa_cons (pv 0) (pa_cons (pe_bltn (v := .ty "bool") (by rfl) (free_bool T) (by decide +kernel) rfl) pa_nil)))) (pw_or1 (pt_cmpR op_lt (pv 0) pe_int (nomark _)))))) (pss_one ps_never) pss_nil)
        (pss_one (ps_ret (pv 0)))), ?_⟩
    walk_at "wks"
    refine iteDF (by omega) ?_
    walk_at "wks"
    exact k
/-! ### looks -/
abbrev Look := List (List Key × V)
/-- all keys are slots, all worths above 0 -/
def spPut (K : PySem.W.Frag) : Sp := fun vs H Q _ => ∃ (d t : Addr) (kvs more : Look), vs = [.ref d, .ref t] ∧ d ≠ t ∧ H d = some (.dT kvs) ∧ H t = some (.dT more) ∧ Slots more ∧ kvs.length + more.length ≤ 100 ∧
  ∀ H', But d H H' → H' d = some (.dT (more.foldl (fun acc kv => putK acc kv.1 kv.2) kvs)) → Q .non H'
theorem putK_le (kvs : Look) (k : List Key) (v : V) : (putK kvs k v).length ≤ kvs.length + 1 := length_putK kvs k v
theorem fold_le : ∀ (more kvs : Look), (more.foldl (fun acc kv => putK acc kv.1 kv.2) kvs).length ≤ kvs.length + more.length
  | [], kvs => Nat.le_refl _
  | kv :: r, kvs => by
    have h1 := fold_le r (putK kvs kv.1 kv.2)
    have h2 := putK_le kvs kv.1 kv.2
    rw [List.foldl_cons, List.length_cons]
    omega
theorem ok_put_in_look (T : Txt K mg) : ∃ fd, FnOk P w K mg base CX0 1 (He.fAd K ("put_in_look", none)) fd ["look", "told"] (spPut K) ∧ FunD K "put_in_look" "put_in_look" (defArgs s_put_in_look) (defBody s_put_in_look) (defScope s_put_in_look) [] [] (He.fAd K ("put_in_look", none)) fd := by
  obtain ⟨fd, F⟩ := T.c.def_ 14 (d := d_put_in_look) rfl
  refine ⟨fd, F.ok sc_put_in_look (by walk_at "g94len") (fun cdv A outer st H vs Q E hr h => ?_), F⟩
  · obtain ⟨d, t, kvs, more, rfl, ne, hd, ht, hs, hl, k⟩ := h
    refine ⟨_, PSs.nox (pss_one (ps_lock (ps_for PassesOwn.never rfl (pi_itemsT (pv 1)) (pg_tup rfl (pgs_cons (pg_name (i := 2) sc_put_in_look.nd rfl (Or.inl rfl)) (pgs_cons (pg_name (i := 3) sc_put_in_look.nd rfl (Or.inl rfl)) pgs_nil))) (pss_one (ps_if (pt_cmpR op_eq (pv 3) pe_int (nomark _)) (pss_one (ps_expr (pe_bm PySem.F.plainAttrs_dict PySem.F.slot_dict_pop PySem.F.type_dict_pop (DX.mt_popT (hu_of hr)) (pv 0) (pa_cons (pv 2) (pa_cons pe_int pa_nil))))) (pss_one (ps_dputTK (hu_of hr) (pv 0) (pv 2) (pv 3) rfl))))))), ?_⟩
    refine lock_itemsT ht (fun od Q q => ⟨_, rfl, q⟩) (fun od i σ' H' => ∃ v w : Option V, σ' = [some (.ref d), some (.ref t), v, w] ∧ H' t = some (.frz od (.dT more)) ∧ H' d = some (.dT ((more.take i).foldl (fun acc kv => putK acc kv.1 kv.2) kvs)) ∧ ∀ b u, b ≠ d → b ≠ t → H b = some u → H' b = some u)
      (fun od => ⟨_, _, rfl, upd_same, by rw [upd_ne ne]; exact hd, fun b u _ n e => by rw [upd_ne n]; exact e⟩) (fun od i σ' H' ⟨_, _, _, e, _⟩ => e) ?_ ?_
    · rintro od i k v q T1 σ' H' H2 hi ⟨v1, w1, rfl, e1, e2, e3⟩ hq fT sT hT
      obtain ⟨c, ok, e⟩ := hs _ (List.mem_of_getElem? hi)
      obtain ⟨rfl, rfl⟩ : k = c.k ∧ v = .int c.w := ⟨congrArg Prod.fst e, congrArg Prod.snd e⟩
      walk_at "wks"
      refine iteV (fun z => absurd z (by have := ok.w0; omega)) (fun _ => ?_)
      have d2 := sT _ _ e2
      have t2 := sT _ _ e1
      have q2 := sT _ _ hq
      have lt := fold_le (more.take i) kvs
      rw [List.length_take] at lt
      refine ⟨_, rfl, _, rfl, _, rfl, d, q, _, c.k, rfl, rfl, d2, q2, szlt (by omega), fun H3 m3 h3 => ?_⟩
      refine ⟨_, _, rfl, m3 _ _ ne.symm t2, ?_, fun b u n1 n2 e => m3 _ _ n1 (sT _ _ (e3 b u n1 n2 e))⟩
      rw [List.take_add_one, hi, List.foldl_append]
      exact h3
    · rintro od σ' H' ⟨v1, w1, rfl, e1, e2, e3⟩
      rw [List.take_length] at e2
      refine k _ (fun b u nb e => ?_) (by rw [upd_ne ne]; exact e2)
      by_cases h1 : b = t
      · rw [h1] at e ⊢
        rw [ht] at e
        rw [upd_same, ← e]
      · rw [upd_ne h1]
        exact e3 b u nb h1 e
/-- the look that stands behind the cues up to a number -/
def lkF (acc : Look) : List Cu → Int → Look
  | [], _ => acc
  | c :: r, n => if n < c.1 then acc else lkF (putK acc c.2.k (.int c.2.w)) r n
theorem lkF_cons {acc : Look} {c : Cu} {r : List Cu} {n : Int} : lkF acc (c :: r) n = if n < c.1 then acc else lkF (putK acc c.2.k (.int c.2.w)) r n := rfl
theorem lkF_le : ∀ (cs : List Cu) (acc : Look) (n : Int), (lkF acc cs n).length ≤ acc.length + cs.length
  | [], acc, n => Nat.le_refl _
  | c :: r, acc, n => by
    unfold lkF
    split
    · omega
    · have h1 := lkF_le r (putK acc c.2.k (.int c.2.w)) n
      have h2 := putK_le acc c.2.k (.int c.2.w)
      rw [List.length_cons]
      omega
theorem cues_num {cs : List Cu} {i : Nat} {c : Cu} (h : cs[i]? = some c) : cs.drop i = c :: cs.drop (i + 1) := by
  obtain ⟨hi, e⟩ := List.getElem?_eq_some_iff.mp h
  rw [← e]
  exact List.drop_eq_getElem_cons hi
def spCarried (K : PySem.W.Frag) : Sp := fun vs H Q _ => ∃ (a : Addr) (xs : List Addr) (cs : List Cu) (n : Int), vs = [.ref a, .int n] ∧ H a = some (.lst (xs.map V.ref)) ∧ CuesIn K H xs cs ∧ 0 ≤ n ∧ ∀ (d : Addr) H', Fr H d → Same H H' → H' d = some (.dT (lkF [] cs n)) → Q (.ref d) H'
theorem ok_carried (T : Txt K mg) : ∃ fd, FnOk P w K mg base CX0 2 (He.fAd K ("carried", none)) fd ["cues", "number"] (spCarried K) ∧ FunD K "carried" "carried" (defArgs s_carried) (defBody s_carried) (defScope s_carried) [] [] (He.fAd K ("carried", none)) fd := by
  obtain ⟨fd, F⟩ := T.c.def_ 16 (d := d_carried) rfl
  obtain ⟨fd_cue_list, G_cue_list, F_cue_list⟩ := ok_cue_list (P := P) (w := w) (base := base) T
  have kp_cue_list := F_cue_list.kp
  have b_cue_list : Binds K fd_cue_list ["cues"] [] := FunD.bindsN F_cue_list (fun _ _ _ _ _ _ us hl => match us, hl with | [_], _ => rfl)
  obtain ⟨fd_good_number, G_good_number, F_good_number⟩ := ok_good_number (P := P) (w := w) (base := base) T
  have kp_good_number := F_good_number.kp
  have b_good_number : Binds K fd_good_number ["number"] [] := FunD.bindsN F_good_number (fun _ _ _ _ _ _ us hl => match us, hl with | [_], _ => rfl)
  obtain ⟨fd_put_in_look, G_put_in_look, F_put_in_look⟩ := ok_put_in_look (P := P) (w := w) (base := base) T
  have kp_put_in_look := F_put_in_look.kp
  have b_put_in_look : Binds K fd_put_in_look ["look", "told"] [] := FunD.bindsN F_put_in_look (fun _ _ _ _ _ _ us hl => match us, hl with | [_, _], _ => rfl)
  have cl_Part := cls_Part T
  have na_Part_tells := na_Part_tells T
  have cl_Cue := cls_Cue T
  have na_Cue_number := na_Cue_number T
  have na_Cue_parts := na_Cue_parts T
  have na_Cue_stops := na_Cue_stops T
  refine ⟨fd, F.ok sc_carried (by walk_at "g94len") (fun cdv A outer st H vs Q E hr h => ?_), F⟩
  · obtain ⟨a, xs, cs, n, rfl, ha, hc, h0, k⟩ := h
    refine ⟨_, PSs.nox (pss_cons (ps_set (i := 2) sc_carried.nd rfl (Or.inl rfl) (pe_call G_cue_list (hr.mono (by decide)) rfl (glo_cue_list T) kp_cue_list b_cue_list .nil (passes_call takes0 (fun _ _ _ _ h => h)) (pa_cons (pv 0) pa_nil)))
        (pss_cons (ps_set (i := 3) sc_carried.nd rfl (Or.inl rfl) (pe_call G_good_number (hr.mono (by decide)) rfl (glo_good_number T) kp_good_number b_good_number .nil pass0 (pa_cons (pv 1) pa_nil)))
        (pss_cons (ps_set (i := 4) sc_carried.nd rfl (Or.inl rfl) pe_dnewTK)
        (pss_cons (ps_for PassesOwn.never rfl (pi_list (pv 2)) (pg_name (i := 5) sc_carried.nd rfl (Or.inl rfl)) (pss_cons (ps_if (pt_cmpR op_gt (pe_fld (pv 5) rfl) (pv 3) (nomark _)) (pss_one ps_break) pss_nil)
        (C8.pss_cut (ps_if (pt_val (pe_fld (pv 5) rfl)) (pss_one (ps_set (i := 4) sc_carried.nd rfl (Or.inl rfl) pe_dnewTK)) pss_nil)
        (pss_one (ps_for PassesOwn.never rfl (pi_list (pe_fld (pv 5) rfl)) (pg_name (i := 6) sc_carried.nd rfl (Or.inl rfl)) (pss_one (ps_expr (pe_call G_put_in_look (hr.mono (by decide)) rfl (glo_put_in_look T) kp_put_in_look b_put_in_look .nil pass0 (pa_cons (pv 4) (pa_cons (pe_fld (pv 6) rfl) pa_nil))))))))))
        (pss_one (ps_ret (pv 4))))))), ?_⟩
    walk_at "wk"
    refine ⟨_, rfl, .inl ⟨a, xs, cs, rfl, ha, hc, fun p H1 f1 s1 h1 => ?_⟩⟩
    walk_at "wks"
    rename_i d H2 f2 s2 h2
    have hp2 := s2 _ _ h1
    have hc2 := hc.same (s1.trans s2)
    refine ⟨⟨_, .of hp2⟩, for_list (K := K) (a := p) (xs := xs.map V.ref) (fun i σ' H' => ∃ (v w : Option V) (acc : Look), σ' = [some (.ref a), some (.int n), some (.ref p), some (.int n), some (.ref d), v, w] ∧ But d H2 H' ∧ H' d = some (.dT acc) ∧ acc.length ≤ i ∧ lkF acc (cs.drop i) n = lkF [] cs n) ⟨_, _, [], rfl, fun _ _ _ e => e, h2, Nat.le_refl _, rfl⟩ (fun i σ' H' _ ⟨_, _, _, _, b, _, _⟩ => .of (b _ _ (neF f2 h1) hp2)) ?_ ?_⟩
    · rintro i y σ' H3 hi ⟨v, w1, acc, rfl, b3, h3, la, e3⟩
      obtain ⟨x, c, rfl, _, hci, ⟨dx, l, pp, hx, hl, ⟨ex, t, al, hpp, ht, hal⟩⟩⟩ := (hc.same s1).at_.at hi
      have to3 : ∀ b u, H1 b = some u → H3 b = some u := fun b u e => b3 _ _ (neF f2 e) (s2 _ _ e)
      have nt : d ≠ t := (neF f2 ht).symm
      have hx := to3 _ _ hx
      have hl := to3 _ _ hl
      have hpp := to3 _ _ hpp
      have ht := to3 _ _ ht
      have tlok := hc.ok _ (List.mem_of_getElem? hci)
      rw [cues_num hci] at e3
      rw [lkF_cons] at e3
      have il := (List.getElem?_eq_some_iff.mp hci).1
      have cf := hc.few
      walk_at "wks"
      refine iteD (fun z => ?_) (fun z => ?_)
      · rw [if_pos z] at e3
        show tRet (tVar 4) { nx := fun x H' => Q V.non H', rt := Q } _ _
        walk_at "wks"
        rw [e3] at h3
        exact k d H3 (s1.fresh f2) ((s1.trans s2).but b3 (s1.fresh f2)) h3
      · rw [if_neg z] at e3
        refine ⟨fun σ' H' => σ' = [some (.ref a), some (.int n), some (.ref p), some (.int n), some (.ref d), some (.ref x), w1] ∧ H' = H3, ?_, ?_⟩
        · walk_at "wks"
          exact rfl
        rintro σ' H4 ⟨rfl, rfl⟩
        walk_at "wks"
        refine ⟨⟨_, .of hl⟩, for_list (K := K) (a := l) (xs := [.ref pp]) (fun j σ' H' => ∃ w : Option V, σ' = [some (.ref a), some (.int n), some (.ref p), some (.int n), some (.ref d), some (.ref x), w] ∧ But d H4 H' ∧ (j = 0 → H' = H4) ∧ (j = 1 → H' d = some (.dT (putK acc c.2.k (.int c.2.w))))) ⟨_, rfl, fun _ _ _ e => e, fun _ => rfl, fun z => by cases z⟩ (fun j σ' H' _ ⟨_, _, b, _⟩ => .of (b.kind h3 hl (by intro z; cases z))) ?_ ?_⟩
        · rintro j y σ' H5 hj ⟨w2, rfl, b5, e5, _⟩
          obtain ⟨rfl, rfl⟩ : j = 0 ∧ y = V.ref pp := by
            match j, hj with
            | 0, hj => exact ⟨rfl, (Option.some.inj hj).symm⟩
          obtain rfl := e5 rfl
          walk_at "wks"
          refine ⟨d, t, acc, [c.2.kv], rfl, nt, h3, ht, fun kv h => ⟨c.2, tlok, List.mem_singleton.mp h⟩, by rw [List.length_singleton]; omega, fun H6 m6 h6 => ?_⟩
          exact ⟨_, rfl, m6, (fun z => by cases z), fun _ => h6⟩
        · rintro σ' H5 ⟨w2, rfl, b5, _, e5⟩
          have h5 := e5 rfl
          exact ⟨_, _, _, rfl, b3.trans b5, h5, Nat.le_trans (putK_le _ _ _) (Nat.succ_le_succ la), e3⟩
    · rintro σ' H3 ⟨v, w1, acc, rfl, b3, h3, la, e3⟩
      have e4 : cs.drop (xs.map V.ref).length = [] := by
        rw [List.length_map, hc.at_.len, List.drop_length]
      rw [e4] at e3
      have e5 : acc = lkF [] cs n := e3
      walk_at "wks"
      rw [e5] at h3
      exact k d H3 (s1.fresh f2) ((s1.trans s2).but b3 (s1.fresh f2)) h3
def spCueAt (K : PySem.W.Frag) : Sp := fun vs H Q _ => ∃ (a : Addr) (xs : List Addr) (cs : List Cu) (i : Nat) (c : Cu), vs = [.ref a, .int c.1] ∧ H a = some (.lst (xs.map V.ref)) ∧ CuesIn K H xs cs ∧ cs[i]? = some c ∧ ∀ (x : Addr) (j : Nat) H', Same H H' → (xs.map V.ref)[j]? = some (.ref x) → Q (.ref x) H'
theorem rising_pos : ∀ {m : Int} {cs : List Cu} {i : Nat} {c : Cu}, Rising m cs → cs[i]? = some c → m < c.1
  | m, d :: r, 0, c, h, e => by
    obtain rfl : d = c := Option.some.inj e
    exact h.1
  | m, d :: r, i + 1, c, h, e => by
    have := rising_pos (m := d.1) (i := i) h.2 (show r[i]? = some c from e)
    have h1 := h.1
    omega
theorem ok_cue_at (T : Txt K mg) : ∃ fd, FnOk P w K mg base CX0 2 (He.fAd K ("cue_at", none)) fd ["cues", "number"] (spCueAt K) ∧ FunD K "cue_at" "cue_at" (defArgs s_cue_at) (defBody s_cue_at) (defScope s_cue_at) [] [] (He.fAd K ("cue_at", none)) fd := by
  obtain ⟨fd, F⟩ := T.c.def_ 15 (d := d_cue_at) rfl
  obtain ⟨fd_cue_list, G_cue_list, F_cue_list⟩ := ok_cue_list (P := P) (w := w) (base := base) T
  have kp_cue_list := F_cue_list.kp
  have b_cue_list : Binds K fd_cue_list ["cues"] [] := FunD.bindsN F_cue_list (fun _ _ _ _ _ _ us hl => match us, hl with | [_], _ => rfl)
  obtain ⟨fd_good_number, G_good_number, F_good_number⟩ := ok_good_number (P := P) (w := w) (base := base) T
  have kp_good_number := F_good_number.kp
  have b_good_number : Binds K fd_good_number ["number"] [] := FunD.bindsN F_good_number (fun _ _ _ _ _ _ us hl => match us, hl with | [_], _ => rfl)
  have cl_Cue := cls_Cue T
  have na_Cue_number := na_Cue_number T
  refine ⟨fd, F.ok sc_cue_at (by walk_at "g94len") (fun cdv A outer st H vs Q E hr h => ?_), F⟩
  · obtain ⟨a, xs, cs, i0, c0, rfl, ha, hc, h0, k⟩ := h
    refine ⟨_, PSs.nox (pss_cons (ps_set (i := 2) sc_cue_at.nd rfl (Or.inl rfl) (pe_call G_cue_list (hr.mono (by decide)) rfl (glo_cue_list T) kp_cue_list b_cue_list .nil (passes_call takes0 (fun _ _ _ _ h => h)) (pa_cons (pv 0) pa_nil)))
        (pss_cons (ps_set (i := 3) sc_cue_at.nd rfl (Or.inl rfl) (pe_call G_good_number (hr.mono (by decide)) rfl (glo_good_number T) kp_good_number b_good_number .nil pass0 (pa_cons (pv 1) pa_nil)))
        (pss_cons (ps_for PassesOwn.never rfl (pi_list (pv 2)) (pg_name (i := 4) sc_cue_at.nd rfl (Or.inl rfl)) (pss_one (ps_if (pt_cmpR op_eq (pe_fld (pv 4) rfl) (pv 3) (nomark _)) (pss_one (ps_ret (pv 4))) pss_nil)))
        (pss_one (ps_ret pe_non))))), ?_⟩
    have pos := rising_pos hc.up h0
    walk_at "wk"
    refine ⟨_, rfl, .inl ⟨a, xs, cs, rfl, ha, hc, fun p H1 f1 s1 h1 => ?_⟩⟩
    walk_at "wks"
    have hc1 := hc.same s1
    refine ⟨⟨_, .of h1⟩, for_list (K := K) (a := p) (xs := xs.map V.ref) (fun i σ' H' => i ≤ i0 ∧ ∃ v : Option V, σ' = [some (.ref a), some (.int c0.1), some (.ref p), some (.int c0.1), v] ∧ H' = H1) ⟨Nat.zero_le _, _, rfl, rfl⟩ (fun i σ' H' _ ⟨_, _, _, e⟩ => by rw [e]; exact .of h1) ?_ ?_⟩
    · rintro i y σ' H3 hi ⟨il, v, rfl, rfl⟩
      obtain ⟨x, c, rfl, _, hci, hcue⟩ := hc1.at_.at hi
      obtain ⟨dx, l, pp, hx, hl, hpp⟩ := hcue.ob
      walk_at "wks"
      refine iteV (fun z => ?_) (fun z => ?_)
      · walk_at "wks"
        exact k x i _ s1 hi
      · have ne : i ≠ i0 := fun e => z (by rw [e, h0] at hci; rw [← Option.some.inj hci])
        exact ⟨by omega, _, rfl, rfl⟩
    · rintro σ' H3 ⟨il, _⟩
      have := (List.getElem?_eq_some_iff.mp h0).1
      rw [List.length_map, hc.at_.len] at il
      omega
def spShown (K : PySem.W.Frag) : Sp := fun vs H Q _ => ∃ (a : Addr) (xs : List Addr) (cs : List Cu) (i : Nat) (c : Cu), vs = [.ref a, .int c.1] ∧ H a = some (.lst (xs.map V.ref)) ∧ CuesIn K H xs cs ∧ cs[i]? = some c ∧ ∀ (d : Addr) H', Fr H d → Same H H' → H' d = some (.dT (lkF [] cs c.1)) → Q (.ref d) H'
theorem ok_shown (T : Txt K mg) : ∃ fd, FnOk P w K mg base CX0 3 (He.fAd K ("shown", none)) fd ["cues", "number"] (spShown K) ∧ FunD K "shown" "shown" (defArgs s_shown) (defBody s_shown) (defScope s_shown) [] [] (He.fAd K ("shown", none)) fd := by
  obtain ⟨fd, F⟩ := T.c.def_ 17 (d := d_shown) rfl
  obtain ⟨fd_carried, G_carried, F_carried⟩ := ok_carried (P := P) (w := w) (base := base) T
  have kp_carried := F_carried.kp
  have b_carried : Binds K fd_carried ["cues", "number"] [] := FunD.bindsN F_carried (fun _ _ _ _ _ _ us hl => match us, hl with | [_, _], _ => rfl)
  obtain ⟨fd_cue_at, G_cue_at, F_cue_at⟩ := ok_cue_at (P := P) (w := w) (base := base) T
  have kp_cue_at := F_cue_at.kp
  have b_cue_at : Binds K fd_cue_at ["cues", "number"] [] := FunD.bindsN F_cue_at (fun _ _ _ _ _ _ us hl => match us, hl with | [_, _], _ => rfl)
  obtain ⟨fd_put_in_look, G_put_in_look, F_put_in_look⟩ := ok_put_in_look (P := P) (w := w) (base := base) T
  have kp_put_in_look := F_put_in_look.kp
  have b_put_in_look : Binds K fd_put_in_look ["look", "told"] [] := FunD.bindsN F_put_in_look (fun _ _ _ _ _ _ us hl => match us, hl with | [_, _], _ => rfl)
  have cl_Part := cls_Part T
  have na_Part_alone := na_Part_alone T
  have cl_Cue := cls_Cue T
  have na_Cue_parts := na_Cue_parts T
  refine ⟨fd, F.ok sc_shown (by walk_at "g94len") (fun cdv A outer st H vs Q E hr h => ?_), F⟩
  · obtain ⟨a, xs, cs, i0, c0, rfl, ha, hc, h0, k⟩ := h
    refine ⟨_, PSs.nox (pss_cons (ps_set (i := 2) sc_shown.nd rfl (Or.inl rfl) (pe_call G_carried (hr.mono (by decide)) rfl (glo_carried T) kp_carried b_carried .nil pass0 (pa_cons (pv 0) (pa_cons (pv 1) pa_nil))))
        (pss_cons (ps_set (i := 3) sc_shown.nd rfl (Or.inl rfl) (pe_call G_cue_at (hr.mono (by decide)) rfl (glo_cue_at T) kp_cue_at b_cue_at .nil pass0 (pa_cons (pv 0) (pa_cons (pv 1) pa_nil))))
        (C8.pss_cut (ps_if (pt_cmpR op_notN (pv 3) pe_non (nomark _)) (pss_one (ps_for PassesOwn.never rfl (pi_list (pe_fld (pv 3) rfl)) (pg_name (i := 4) sc_shown.nd rfl (Or.inl rfl)) (pss_one (ps_expr (pe_call G_put_in_look (hr.mono (by decide)) rfl (glo_put_in_look T) kp_put_in_look b_put_in_look .nil pass0 (pa_cons (pv 2) (pa_cons (pe_fld (pv 4) rfl) pa_nil))))))) pss_nil)
        (pss_one (ps_ret (pv 2)))))), ?_⟩
    have pos := rising_pos hc.up h0
    walk_at "wk"
    walk_at "wk"
    refine ⟨a, xs, cs, c0.1, rfl, ha, hc, Int.le_of_lt pos, fun d H1 f1 s1 h1 => ?_⟩
    walk_at "wk"
    refine ⟨_, rfl, ?_⟩
    refine ⟨a, xs, cs, i0, c0, rfl, s1 _ _ ha, hc.same s1, h0, fun x j0 H2 s2 hj0 => ?_⟩
    obtain ⟨x', c', ex0, _, _, ⟨dx, l, pp, hx, hl, ⟨ex, t, al, hpp, ht, hal⟩⟩⟩ := hc.at_.at hj0
    obtain rfl : x = x' := by injection ex0
    have nal : d ≠ al := neF2 f1 hal
    have hx := s2 _ _ (s1 _ _ hx)
    have hl := s2 _ _ (s1 _ _ hl)
    have hpp := s2 _ _ (s1 _ _ hpp)
    have hal := s2 _ _ (s1 _ _ hal)
    have h2 := s2 _ _ h1
    have le := lkF_le cs [] c0.1
    have cf := hc.few
    refine ⟨fun σ' H' => ∃ v : Option V, σ' = [some (.ref a), some (.int c0.1), some (.ref d), some (.ref x), v] ∧ But d H2 H' ∧ H' d = some (.dT (lkF [] cs c0.1)), ?_, ?_⟩
    · walk_at "wks"
      refine ⟨⟨_, .of hl⟩, for_list (K := K) (a := l) (xs := [.ref pp]) (fun j σ' H' => ∃ w : Option V, σ' = [some (.ref a), some (.int c0.1), some (.ref d), some (.ref x), w] ∧ But d H2 H' ∧ (j = 0 → H' = H2) ∧ H' d = some (.dT (lkF [] cs c0.1))) ⟨_, rfl, fun _ _ _ e => e, fun _ => rfl, h2⟩ (fun j σ' H' _ ⟨_, _, b, _⟩ => .of (b.kind h2 hl (by intro z; cases z))) ?_ ?_⟩
      · rintro j y σ' H5 hj ⟨w2, rfl, b5, e5, _⟩
        obtain ⟨rfl, rfl⟩ : j = 0 ∧ y = V.ref pp := by
          match j, hj with
          | 0, hj => exact ⟨rfl, (Option.some.inj hj).symm⟩
        obtain rfl := e5 rfl
        walk_at "wks"
        have le2 : (lkF [] cs c0.1).length + ([] : Look).length ≤ 100 := by
          rw [List.length_nil] at le ⊢
          omega
        refine ⟨d, al, _, [], rfl, nal, h2, hal, (fun kv h => nomatch h), le2, fun H6 m6 h6 => ?_⟩
        exact ⟨_, rfl, m6, (fun z => by cases z), h6⟩
      · rintro σ' H5 ⟨w2, rfl, b5, _, e5⟩
        exact ⟨_, rfl, b5, e5⟩
    rintro σ' H3 ⟨v, rfl, b3, h3⟩
    walk_at "wks"
    exact k d H3 f1 ((s1.trans s2).but b3 f1) h3
/-- what is no list of lamps -/
def BadLamps (K : PySem.W.Frag) (H : Hp) (v : V) : Prop := IsA K H v "list" false ∨ ∃ (a : Addr) (xs : List V) (j : Nat) (x : V), v = .ref a ∧ H a = some (.lst xs) ∧ (∀ x ∈ xs, ∃ b, LampSays K H x b) ∧ xs[j]? = some x ∧ LampSays K H x false
/-- texts that are lamps -/
def LampS (z : Str) : Prop := ∃ l : List Nat, z = SX.S l ∧ lampB l = true ∧ l.length ≤ 1000
def spLampsOf (K : PySem.W.Frag) : Sp := fun vs H Q E => ∃ v : V, vs = [v] ∧ ((∃ (a : Addr) (zs : List Str), v = .ref a ∧ H a = some (.lst (zs.map V.str)) ∧ zs.length ≤ 10 ∧ (∀ z ∈ zs, LampS z) ∧
  ∀ (p : Addr) (ys : List Str) H', Fr H p → Same H H' → H' p = some (.lst (ys.map V.str)) → (∀ x, x ∈ ys ↔ x ∈ zs) → ys.length ≤ 10 → Q (.ref p) H') ∨ (BadLamps K H v ∧ Lets K "NoName" E H))
theorem ok_lamps_of (T : Txt K mg) : ∃ fd, FnOk P w K mg base (L2.CX P w) 2 (He.fAd K ("lamps_of", none)) fd ["lamps"] (spLampsOf K) ∧ FunD K "lamps_of" "lamps_of" (defArgs s_lamps_of) (defBody s_lamps_of) (defScope s_lamps_of) [] [] (He.fAd K ("lamps_of", none)) fd := by
  obtain ⟨fd, F⟩ := T.c.def_ 18 (d := d_lamps_of) rfl
  obtain ⟨fd_is_lamp, G_is_lamp, F_is_lamp⟩ := ok_is_lamp (P := P) (w := w) (base := base) T
  have kp_is_lamp := F_is_lamp.kp
  have b_is_lamp : Binds K fd_is_lamp ["thing"] [] := FunD.bindsN F_is_lamp (fun _ _ _ _ _ _ us hl => match us, hl with | [_], _ => rfl)
  refine ⟨fd, F.ok sc_lamps_of (by walk_at "g94len") (fun cdv A outer st H vs Q E hr h => ?_), F⟩
  · obtain ⟨v, rfl, ⟨a, zs, rfl, ha, hl, hz, k⟩ | ⟨⟨u, h1, h2⟩ | ⟨a, xs, j0, x0, rfl, ha, hx, hj, hb⟩, k⟩⟩ := h
    · refine ⟨_, (pss_cons (ps_if (pt_not (pt_val (pe_callB call_isi (by rfl) (free_isinstance T) (by decide +kernel) (pa_cons (pv 0) (pa_cons (pe_bltn (v := .ty "list") (by rfl) (free_list T) (by decide +kernel) rfl) pa_nil))))) (pss_one (ps_raise rfl (takes_of rfl rfl rfl rfl) (pmk_own PySem.F.excBase_ValueError (exc_NoName T).1 (glo_NoName T) (exc_NoName T).2.1 (raises_own (exc_NoName T).2.2.1 (exc_NoName T).2.2.2) rfl))) pss_nil)
        (pss_cons (ps_for (passes_of rfl) rfl (pi_list (pv 0)) (pg_name (i := 1) sc_lamps_of.nd rfl (Or.inl rfl)) (pss_one (ps_if (pt_not (pt_val (pe_call G_is_lamp (hr.mono (by decide)) rfl (glo_is_lamp T) kp_is_lamp b_is_lamp .nil pass0 (pa_cons (pv 1) pa_nil)))) (pss_one (ps_raise rfl (takes_of rfl rfl rfl rfl) (pmk_own PySem.F.excBase_ValueError (exc_NoName T).1 (glo_NoName T) (exc_NoName T).2.1 (raises_own (exc_NoName T).2.2.1 (exc_NoName T).2.2.2) rfl))) pss_nil)))
        (pss_one (ps_ret (pe_callB (cr_sortTx rfl) (by rfl) (free_sorted T) (by decide +kernel) (pa_cons (pe_callTy (call_setTx rfl) (by rfl) (free_set T) (by decide +kernel) (pa_cons (pv 0) pa_nil)) pa_nil)))))), ?_⟩
      walk_at "wks"
      refine ⟨⟨_, .of ha⟩, for_list (K := K) (a := a) (xs := zs.map V.str) (fun i σ' H' => ∃ w : Option V, σ' = [some (.ref a), w] ∧ H' = H) ⟨_, rfl, rfl⟩ (fun i σ' H' _ ⟨_, _, e⟩ => by rw [e]; exact .of ha) ?_ ?_⟩
      · rintro i y σ' H' hi ⟨w, rfl, rfl⟩
        obtain ⟨z, hzm, rfl⟩ := List.mem_map.mp (List.mem_of_getElem? hi)
        obtain ⟨l, rfl, lb, lf⟩ := hz z hzm
        walk_at "wk"
        refine ⟨_, _, rfl, .inl ⟨l, rfl, lf, rfl⟩, ?_⟩
        rw [lb]
        walk_at "wks"
        exact rfl
      · rintro σ' H' ⟨w, rfl, rfl⟩
        walk_at "wks"
        intro p1 H1 ys f1 s1 h1 m1 l1
        refine ⟨p1, ys, rfl, h1, by omega, fun p2 H2 zs2 f2 s2 h2 m2 l2 => ?_⟩
        exact k p2 zs2 H2 (s1.fresh f2) (s1.trans s2) h2 (fun x => (m2 x).trans (m1 x)) (by omega)
    · refine ⟨_, (pss_cons (ps_if (pt_not (pt_val (pe_callB call_isi (by rfl) (free_isinstance T) (by decide +kernel) (pa_cons (pv 0) (pa_cons (pe_bltn (v := .ty "list") (by rfl) (free_list T) (by decide +kernel) rfl) pa_nil))))) (pss_one (ps_raise rfl (takes_of rfl rfl rfl rfl) (pmk_own PySem.F.excBase_ValueError (exc_NoName T).1 (glo_NoName T) (exc_NoName T).2.1 (raises_own (exc_NoName T).2.2.1 (exc_NoName T).2.2.2) rfl))) pss_nil)
        (pss_cons (ps_for (passes_of rfl) rfl (pi_list (pv 0)) (pg_name (i := 1) sc_lamps_of.nd rfl (Or.inl rfl)) (pss_one (ps_if (pt_not (pt_val (pe_call G_is_lamp (hr.mono (by decide)) rfl (glo_is_lamp T) kp_is_lamp b_is_lamp .nil pass0 (pa_cons (pv 1) pa_nil)))) (pss_one (ps_raise rfl (takes_of rfl rfl rfl rfl) (pmk_own PySem.F.excBase_ValueError (exc_NoName T).1 (glo_NoName T) (exc_NoName T).2.1 (raises_own (exc_NoName T).2.2.1 (exc_NoName T).2.2.2) rfl))) pss_nil)))
        (pss_one (ps_ret (pe_callB (cr_sortTx rfl) (by rfl) (free_sorted T) (by decide +kernel) (pa_cons (pe_callTy (call_setTx rfl) (by rfl) (free_set T) (by decide +kernel) (pa_cons (pv 0) pa_nil)) pa_nil)))))), ?_⟩
      refine ⟨_, rfl, _, _, _, _, false, rfl, .ty _, h1, h2, ?_⟩
      exact ⟨_, rfl, iteT (k _ (.refl _))⟩
    · refine ⟨_, (pss_cons (ps_if (pt_not (pt_val (pe_callB call_isi (by rfl) (free_isinstance T) (by decide +kernel) (pa_cons (pv 0) (pa_cons (pe_bltn (v := .ty "list") (by rfl) (free_list T) (by decide +kernel) rfl) pa_nil))))) (pss_one (ps_raise rfl (takes_of rfl rfl rfl rfl) (pmk_own PySem.F.excBase_ValueError (exc_NoName T).1 (glo_NoName T) (exc_NoName T).2.1 (raises_own (exc_NoName T).2.2.1 (exc_NoName T).2.2.2) rfl))) pss_nil)
        (pss_cons (ps_for (passes_of rfl) rfl (pi_list (pv 0)) (pg_name (i := 1) sc_lamps_of.nd rfl (Or.inl rfl)) (pss_one (ps_if (pt_not (pt_val (pe_call G_is_lamp (hr.mono (by decide)) rfl (glo_is_lamp T) kp_is_lamp b_is_lamp .nil pass0 (pa_cons (pv 1) pa_nil)))) (pss_one (ps_raise rfl (takes_of rfl rfl rfl rfl) (pmk_own PySem.F.excBase_ValueError (exc_NoName T).1 (glo_NoName T) (exc_NoName T).2.1 (raises_own (exc_NoName T).2.2.1 (exc_NoName T).2.2.2) rfl))) pss_nil)))
        (pss_one (ps_ret (pe_callB (cr_sortTx rfl) (by rfl) (free_sorted T) (by decide +kernel) (pa_cons (pe_callTy (call_setTx rfl) (by rfl) (free_set T) (by decide +kernel) (pa_cons (pv 0) pa_nil)) pa_nil)))))), ?_⟩
      walk_at "wks"
      refine ⟨⟨_, .of ha⟩, for_list (K := K) (a := a) (xs := xs) (fun i σ' H' => i ≤ j0 ∧ ∃ w : Option V, σ' = [some (.ref a), w] ∧ H' = H) ⟨Nat.zero_le _, _, rfl, rfl⟩ (fun i σ' H' _ ⟨_, _, _, e⟩ => by rw [e]; exact .of ha) ?_ ?_⟩
      · rintro i y σ' H' hi ⟨il, w, rfl, rfl⟩
        by_cases e : i = j0
        · obtain rfl := e
          obtain rfl : x0 = y := Option.some.inj (hj.symm.trans hi)
          walk_at "wk"
          refine ⟨_, _, rfl, hb, ?_⟩
          walk_at "wks"
          exact k _ (.refl _)
        · obtain ⟨b, hy⟩ := hx y (List.mem_of_getElem? hi)
          walk_at "wk"
          refine ⟨_, _, rfl, hy, ?_⟩
          cases b with
          | false =>
            walk_at "wks"
            exact k _ (.refl _)
          | true =>
            walk_at "wks"
            first | exact rfl | exact ⟨by omega, _, rfl, rfl⟩
      · rintro σ' H' ⟨il, _⟩
        have := (List.getElem?_eq_some_iff.mp hj).1
        omega
def spDark (K : PySem.W.Frag) : Sp := fun vs H Q _ => ∃ (d : Addr) (x : Str) (kvs : Look), vs = [.ref d, .str x] ∧ H d = some (.dT kvs) ∧ ∀ H', Same H H' → Q (.bl (!(valV kvs [Sum.inr x, Sum.inr "bright"]).isSome)) H'
theorem ok_is_dark (T : Txt K mg) : ∃ fd, FnOk P w K mg base CX0 1 (He.fAd K ("is_dark", none)) fd ["look", "lamp"] (spDark K) ∧ FunD K "is_dark" "is_dark" (defArgs s_is_dark) (defBody s_is_dark) (defScope s_is_dark) [] [] (He.fAd K ("is_dark", none)) fd := by
  obtain ⟨fd, F⟩ := T.c.def_ 19 (d := d_is_dark) rfl
  refine ⟨fd, F.ok sc_is_dark (by walk_at "g94len") (fun cdv A outer st H vs Q E hr h => ?_), F⟩
  · obtain ⟨d, x, kvs, rfl, hd, k⟩ := h
    refine ⟨_, PSs.nox (pss_one (ps_ret (pe_cmp (pc_dnotin (hu_of hr) (pe_tupK (pa_cons (pv 1) (pa_cons pe_str pa_nil))) (pv 0))))), ?_⟩
    walk_at "wks"
    rename_i p1 H1 f1 s1 h1
    exact ⟨d, _, rfl, .t (k := [Sum.inr x, Sum.inr "bright"]) (s1 _ _ hd) h1, k _ s1⟩
/-- how a lamp stands in a look, but for how bright -/
def stF (x : Str) : Look → Look → Look
  | acc, [] => acc
  | acc, kv :: r => match kv.1 with
    | [Sum.inr a, Sum.inr b] => if a = x then (if b ≠ "bright" then stF x (putK acc kv.1 kv.2) r else stF x acc r) else stF x acc r
    | _ => stF x acc r
def Pairs2 (kvs : Look) : Prop := ∀ kv ∈ kvs, ∃ a b : Str, kv.1 = [Sum.inr a, Sum.inr b]
theorem stF_cons {x a b : Str} {acc r : Look} {v : V} : stF x acc (([Sum.inr a, Sum.inr b], v) :: r) = if a = x then (if b ≠ "bright" then stF x (putK acc [Sum.inr a, Sum.inr b] v) r else stF x acc r) else stF x acc r := rfl
theorem drop_kv {kvs : Look} {i : Nat} {kv : List Key × V} (h : kvs[i]? = some kv) : kvs.drop i = kv :: kvs.drop (i + 1) := by
  obtain ⟨hi, e⟩ := List.getElem?_eq_some_iff.mp h
  rw [← e]
  exact List.drop_eq_getElem_cons hi
def spStance (K : PySem.W.Frag) : Sp := fun vs H Q _ => ∃ (d : Addr) (x : Str) (kvs : Look), vs = [.ref d, .str x] ∧ H d = some (.dT kvs) ∧ Pairs2 kvs ∧ kvs.length ≤ 100 ∧ ∀ (p : Addr) H', Fr H p → Same H H' → H' p = some (.dT (stF x [] kvs)) → Q (.ref p) H'
theorem ok_stance (T : Txt K mg) : ∃ fd, FnOk P w K mg base CX0 1 (He.fAd K ("stance", none)) fd ["look", "lamp"] (spStance K) ∧ FunD K "stance" "stance" (defArgs s_stance) (defBody s_stance) (defScope s_stance) [] [] (He.fAd K ("stance", none)) fd := by
  obtain ⟨fd, F⟩ := T.c.def_ 20 (d := d_stance) rfl
  refine ⟨fd, F.ok sc_stance (by walk_at "g94len") (fun cdv A outer st H vs Q E hr h => ?_), F⟩
  · obtain ⟨d, x, kvs, rfl, hd, hp, hl, k⟩ := h
    refine ⟨_, PSs.nox (pss_cons (ps_set (i := 2) sc_stance.nd rfl (Or.inl rfl) pe_dnewTK)
        (pss_cons (ps_lock (ps_for PassesOwn.never rfl (pi_itemsT (pv 0)) (pg_tup rfl (pgs_cons (pg_name (i := 3) sc_stance.nd rfl (Or.inl rfl)) (pgs_cons (pg_name (i := 4) sc_stance.nd rfl (Or.inl rfl)) pgs_nil))) (pss_one (ps_if (PW.pt (pw_and (pt_cmpR op_eq (pe_ix ix_tup (pv 3) pe_int (fun _ _ => rfl)) (pv 1) (nomark _)) (pw_and1 (pt_cmpR op_ne (pe_ix ix_tup (pv 3) pe_int (fun _ _ => rfl)) pe_str (nomark _))))) (pss_one (ps_dputTK (hu_of hr) (pv 2) (pv 3) (pv 4) rfl)) pss_nil))))
        (pss_one (ps_ret (pv 2))))), ?_⟩
    walk_at "wks"
    rename_i p1 H1 f1 s1 h1
    have hd1 := s1 _ _ hd
    have ne : p1 ≠ d := neF2 f1 hd
    refine lock_itemsT hd1 (fun od Q q => ⟨_, rfl, q⟩) (fun od i σ' H' => ∃ (v w : Option V) (acc : Look), σ' = [some (.ref d), some (.str x), some (.ref p1), v, w] ∧ H' d = some (.frz od (.dT kvs)) ∧ H' p1 = some (.dT acc) ∧ acc.length ≤ i ∧ stF x acc (kvs.drop i) = stF x [] kvs ∧ ∀ b u, b ≠ p1 → b ≠ d → H1 b = some u → H' b = some u)
      (fun od => ⟨_, _, [], rfl, upd_same, by rw [upd_ne ne]; exact h1, Nat.le_refl _, rfl, fun b u _ n e => by rw [upd_ne n]; exact e⟩) (fun od i σ' H' ⟨_, _, _, _, e, _⟩ => e) ?_ ?_
    · rintro od i k0 v q T1 σ' H' H2 hi ⟨v1, w1, acc, rfl, e1, e2, la, e3, e4⟩ hq fT sT hT
      obtain ⟨a, b, e⟩ := hp _ (List.mem_of_getElem? hi)
      obtain rfl : k0 = [Sum.inr a, Sum.inr b] := e
      have il := (List.getElem?_eq_some_iff.mp hi).1
      rw [drop_kv hi, stF_cons] at e3
      have q2 := sT _ _ hq
      have d2 := sT _ _ e1
      have p2 := sT _ _ e2
      have rest : ∀ σ2, σ2 = [some (.ref d), some (.str x), some (.ref p1), some (.ref q), some (v)] → stF x acc (kvs.drop (i + 1)) = stF x [] kvs → ∃ (v w : Option V) (acc : Look), σ2 = [some (.ref d), some (.str x), some (.ref p1), v, w] ∧ H2 d = some (.frz od (.dT kvs)) ∧ H2 p1 = some (.dT acc) ∧ acc.length ≤ i + 1 ∧ stF x acc (kvs.drop (i + 1)) = stF x [] kvs ∧ ∀ b u, b ≠ p1 → b ≠ d → H1 b = some u → H2 b = some u :=
        fun σ2 h e => ⟨_, _, acc, h, d2, p2, by omega, e, fun b u n1 n2 e => sT _ _ (e4 b u n1 n2 e)⟩
      walk_at "wks"
      refine iteB (fun z => ?_) (fun z => ?_)
      · have z1 : a = x := by
          have z2 := of_decide_eq_true z
          injection z2
        rw [if_pos z1] at e3
        walk_at "wks"
        refine iteB (fun z => ?_) (fun z => ?_)
        · have z3 : b ≠ "bright" := fun e => by
            rw [e] at z
            simp at z
            exact z rfl
          rw [if_pos z3] at e3
          refine ⟨_, rfl, _, rfl, _, rfl, p1, q, _, [Sum.inr a, Sum.inr b], rfl, rfl, p2, q2, szlt (by omega), fun H3 m3 h3 => ?_⟩
          exact ⟨_, _, _, rfl, m3 _ _ ne.symm d2, h3, Nat.le_trans (putK_le _ _ _) (by omega), e3, fun b u n1 n2 e => m3 _ _ n1 (sT _ _ (e4 b u n1 n2 e))⟩
        · have z3 : ¬ b ≠ "bright" := fun e => by
            have : V.str b ≠ V.str "bright" := fun q => e (by injection q)
            simp at z
            exact this z
          rw [if_neg z3] at e3
          exact rest _ rfl e3
      · have z1 : ¬ a = x := fun e => by
          rw [e] at z
          simp at z
          exact z rfl
        rw [if_neg z1] at e3
        exact rest _ rfl e3
    · rintro od σ' H' ⟨v1, w1, acc, rfl, e1, e2, la, e3, e4⟩
      rw [List.drop_length] at e3
      have e5 : acc = stF x [] kvs := e3
      walk_at "wks"
      rw [e5] at e2
      refine k p1 _ f1 (fun b u e => ?_) (by rw [upd_ne ne]; exact e2)
      by_cases h1 : b = d
      · rw [h1] at e ⊢
        rw [hd] at e
        rw [upd_same, ← e]
      · rw [upd_ne h1]
        exact e4 b u (neF f1 e) h1 (s1 _ _ e)
/-! ### the error with a lamp and a number -/
abbrev cMB (K : PySem.W.Frag) : Addr := He.ga K "MovesBright"
def spMB (K : PySem.W.Frag) : Sp := fun vs H Q _ => ∃ (a : Addr) (w : V) (x : Str) (n : Int), vs = [.ref a, w, .str x, .int n] ∧ H a = some (exo a (cMB K) none) ∧
  ∀ d : Addr, H d = none → d ≠ a → Q .non (upd (upd (upd H d (exd d [("lamp", .str x)])) a (exo a (cMB K) (some d))) d (exd d [("number", .int n), ("lamp", .str x)]))
theorem ok_MovesBright_init (T : Txt K mg) : ∃ fd, FnOk P w K mg base CX0 1 (He.fAd K ("MovesBright", some "__init__")) fd ["self", "words", "lamp", "number"] (spMB K) ∧ FunD K "__init__" "MovesBright.__init__" (defArgs s_MovesBright_init) (defBody s_MovesBright_init) (defScope s_MovesBright_init) [] [] (He.fAd K ("MovesBright", some "__init__")) fd := by
  obtain ⟨fd, F⟩ := T.c.def_ 0 (d := d_MovesBright_init) rfl
  have cl_Cue := cls_Cue T
  have na_Cue_number := na_Cue_number T
  refine ⟨fd, F.ok sc_MovesBright_init (by walk_at "g94len") (fun cdv A outer st H vs Q E hr h => ?_), F⟩
  · obtain ⟨a, w, x, n, rfl, ha, k⟩ := h
    refine ⟨_, PSs.nox (pss_cons (ps_expr (pe_ownInit (own_LampError T) rfl (glo_LampError T) (pa_cons (pv 0) (pa_cons (pv 1) pa_nil))))
        (pss_cons (ps_ost (pv 0) (pv 2))
        (pss_one (ps_ost (pv 0) (pv 3))))), ?_⟩
    walk_at "wks"
    refine ⟨a, cMB K, [w], rfl, Nat.le_of_ble_eq_true rfl, oex_MovesBright T, ha, ?_⟩
    refine ⟨_, rfl, _, rfl, a, cMB K, rfl, oex_MovesBright T, xn_MovesBright_lamp T, .inl ⟨ha, fun d hd ne => ?_⟩⟩
    exact ⟨_, rfl, _, rfl, a, cMB K, rfl, oex_MovesBright T, xn_MovesBright_number T, .inr ⟨d, [("lamp", .str x)], upd_same, by rw [upd_ne ne]; exact upd_same, Nat.le_of_ble_eq_true rfl, k d hd ne⟩⟩
/-- the error leaves with its lamp and number -/
def MBE (K : PySem.W.Frag) (H : Hp) (E : XK) (x : Str) (n : Int) : Prop := ∀ (d : Addr) H', Same H H' → H' d = some (.xd [("number", .int n), ("lamp", .str x)]) → E (.ref (cMB K)) (some d) H'
theorem mb_raised {K : PySem.W.Frag} {H : Hp} {E : XK} {w : V} {x : Str} {n : Int} (k : MBE K H E x n) : ∀ a, H a = none → spMB K (.ref a :: ([w, .str x, .int n] ++ [])) (upd H a (exo a (cMB K) none))
    (fun v H2 => v = .non ∧ ∃ (d : Addr) (fs : List (Str × V)), H2 a = some (exo a (cMB K) (some d)) ∧ H2 d = some (exd d fs) ∧ H d = none ∧ E (.ref (cMB K)) (some d) (upd (del H2 a) d (.xd fs))) (fun _ _ _ => False) := by
  intro a ha
  refine ⟨a, w, x, n, rfl, upd_same, fun d hd ne => ⟨rfl, d, _, by rw [upd_ne ne.symm]; exact upd_same, upd_same, ?_, ?_⟩⟩
  · rw [upd_ne ne] at hd
    exact hd
  · rw [upd_ne ne] at hd
    refine k d _ (fun b u e => ?_) upd_same
    have n1 : b ≠ a := ne_of_none e ha
    have n2 : b ≠ d := ne_of_none e hd
    rw [upd_ne n2, del_ne n1, upd_ne n2, upd_ne n1, upd_ne n2, upd_ne n1]
    exact e
/-! ### wishes of a lamp -/
theorem br_red : ("bright" : Str) ≠ "red" := by decide +kernel
abbrev kB (l : List Nat) : List Key := slotK l "bright"
abbrev kR (l : List Nat) : List Key := slotK l "red"
theorem k_ne (l : List Nat) : kB l ≠ kR l := fun e => by
  injection e with _ e
  injection e with e _
  injection e with e
  exact br_red e
def two (n1 n2 : Int) (l : List Nat) (w : Int) : List Cu := [(n1, ⟨l, "bright", w⟩), (n2, ⟨l, "red", 5⟩)]
theorem put_one (k : List Key) (v : V) : putK ([] : Look) k v = [(k, v)] := rfl
theorem put_two {k1 k2 : List Key} {v1 v2 : V} (h : k1 ≠ k2) : putK ([(k1, v1)] : Look) k2 v2 = [(k1, v1), (k2, v2)] := by
  unfold putK
  rw [if_neg (by simp [h])]
  rfl
theorem look_1 {n1 n2 : Int} {l : List Nat} {w : Int} (h : n1 < n2) : lkF [] (two n1 n2 l w) n1 = [(kB l, .int w)] := by
  unfold two
  rw [lkF_cons, if_neg (Int.lt_irrefl _), lkF_cons, if_pos h]
  rfl
theorem look_2 {n1 n2 : Int} {l : List Nat} {w : Int} (h : n1 < n2) : lkF [] (two n1 n2 l w) n2 = [(kB l, .int w), (kR l, .int 5)] := by
  unfold two
  rw [lkF_cons, if_neg (show ¬ n2 < n1 by omega), lkF_cons, if_neg (Int.lt_irrefl _), put_one, put_two (k_ne l)]
  rfl
theorem val_hit {k : List Key} {v : V} {r : Look} : valV ((k, v) :: r) k = some v := by
  simp [valV]
theorem st_1 (l : List Nat) (w : Int) : stF (SX.S l) [] [(kB l, .int w)] = [] := by
  show stF (SX.S l) [] (([Sum.inr (SX.S l), Sum.inr "bright"], V.int w) :: []) = []
  rw [stF_cons, if_pos rfl, if_neg (fun z => z rfl)]
  rfl
theorem st_2 (l : List Nat) (w : Int) : stF (SX.S l) [] [(kB l, .int w), (kR l, .int 5)] = [(kR l, .int 5)] := by
  show stF (SX.S l) [] (([Sum.inr (SX.S l), Sum.inr "bright"], V.int w) :: ([Sum.inr (SX.S l), Sum.inr "red"], V.int 5) :: []) = _
  rw [stF_cons, if_pos rfl, if_neg (fun z => z rfl), stF_cons, if_pos rfl, if_pos (fun e => br_red e.symm)]
  rfl
structure LooksAt (H : Hp) (b : Addr) (ds : List Addr) (cs : List Cu) : Prop where
  li : H b = some (.lst (ds.map V.ref))
  len : ds.length = cs.length
  at_ : ∀ (i : Nat) (d : Addr) (c : Cu), ds[i]? = some d → cs[i]? = some c → H d = some (.dT (lkF [] cs c.1))
theorem LooksAt.same {H H' : Hp} {b : Addr} {ds : List Addr} {cs : List Cu} (h : LooksAt H b ds cs) (s : Same H H') : LooksAt H' b ds cs := ⟨s _ _ h.li, h.len, fun i d c e1 e2 => s _ _ (h.at_ i d c e1 e2)⟩
def spLW (K : PySem.W.Frag) : Sp := fun vs H Q E => ∃ (a b : Addr) (xs ds : List Addr) (cs : List Cu) (x : Str), vs = [.ref a, .ref b, .str x] ∧ H a = some (.lst (xs.map V.ref)) ∧ CuesIn K H xs cs ∧ LooksAt H b ds cs ∧
  (((∀ c ∈ cs, valV (lkF [] cs c.1) [Sum.inr x, Sum.inr "bright"] = none) ∧ ∀ (p : Addr) H', Fr H p → Same H H' → H' p = some (.lst []) → Q (.ref p) H') ∨
    ∃ (n1 n2 : Int) (l : List Nat) (w : Int), n1 < n2 ∧ cs = two n1 n2 l w ∧ x = SX.S l ∧ MBE K H E x n2)
theorem ok_lamp_wishes (T : Txt K mg) : ∃ fd, FnOk P w K mg base (L2.CX P w) 3 (He.fAd K ("lamp_wishes", none)) fd ["cues", "looks", "lamp"] (spLW K) ∧ FunD K "lamp_wishes" "lamp_wishes" (defArgs s_lamp_wishes) (defBody s_lamp_wishes) (defScope s_lamp_wishes) [] [] (He.fAd K ("lamp_wishes", none)) fd := by
  obtain ⟨fd, F⟩ := T.c.def_ 21 (d := d_lamp_wishes) rfl
  obtain ⟨fd_is_dark, G_is_dark, F_is_dark⟩ := ok_is_dark (P := P) (w := w) (base := base) T
  have kp_is_dark := F_is_dark.kp
  have b_is_dark : Binds K fd_is_dark ["look", "lamp"] [] := FunD.bindsN F_is_dark (fun _ _ _ _ _ _ us hl => match us, hl with | [_, _], _ => rfl)
  obtain ⟨fd_stance, G_stance, F_stance⟩ := ok_stance (P := P) (w := w) (base := base) T
  have kp_stance := F_stance.kp
  have b_stance : Binds K fd_stance ["look", "lamp"] [] := FunD.bindsN F_stance (fun _ _ _ _ _ _ us hl => match us, hl with | [_, _], _ => rfl)
  obtain ⟨fd_MovesBright_init, G_MovesBright_init, F_MovesBright_init⟩ := ok_MovesBright_init (P := P) (w := w) (base := base) T
  have kp_MovesBright_init := F_MovesBright_init.kp
  have b_MovesBright_init : Binds K fd_MovesBright_init ["self", "words", "lamp", "number"] [] := FunD.bindsN F_MovesBright_init (fun _ _ _ _ _ _ us hl => match us, hl with | [_, _, _, _], _ => rfl)
  have cl_Cue := cls_Cue T
  have na_Cue_number := na_Cue_number T
  refine ⟨fd, F.ok sc_lamp_wishes (by walk_at "g94len") (fun cdv A outer st H vs Q E hr h => ?_), F⟩
  · obtain ⟨a, b, xs, ds, cs, x, rfl, ha, hc, hL, h⟩ := h
    have hlen : ((xs.map V.ref).length : Int).toNat = cs.length := by
      rw [List.length_map, hc.at_.len]
      exact Int.toNat_natCast _
    have cf := hc.few
    have hl2 : ((xs.map V.ref).length : Int) ≤ 2 := by
      rw [List.length_map, hc.at_.len]
      omega
    rcases h with ⟨dark, k⟩ | ⟨n1, n2, l, w, lt, rfl, rfl, k⟩
    · refine ⟨_, (pss_cons (ps_set (i := 3) sc_lamp_wishes.nd rfl (Or.inl rfl) (pe_lstK pa_nil))
        (pss_cons (ps_set (i := 4) sc_lamp_wishes.nd rfl (Or.inl rfl) pe_int)
        (pss_cons (ps_set (i := 5) sc_lamp_wishes.nd rfl (Or.inl rfl) pe_dnewTK)
        (pss_cons (ps_for (passes_of rfl) rfl (pi_range1 rfl (free_range T) (pa_cons (pe_callB call_len_seq (by rfl) (free_len T) (by decide +kernel) (pa_cons (pv 0) pa_nil)) pa_nil)) (pg_name (i := 6) sc_lamp_wishes.nd rfl (Or.inl rfl)) (pss_cons (ps_if (pt_val (pe_call G_is_dark (hr.mono (by decide)) rfl (glo_is_dark T) kp_is_dark b_is_dark .nil pass0 (pa_cons (pe_ix ix_list (pv 1) (pv 6) (fun _ _ => rfl)) (pa_cons (pv 2) pa_nil)))) (pss_one ps_continue) pss_nil)
        (pss_cons (ps_set (i := 7) sc_lamp_wishes.nd rfl (Or.inl rfl) (pe_call G_stance (hr.mono (by decide)) rfl (glo_stance T) kp_stance b_stance .nil pass0 (pa_cons (pe_ix ix_list (pv 1) (pv 6) (fun _ _ => rfl)) (pa_cons (pv 2) pa_nil))))
        (C8.pss_cut (ps_if (pt_cmpR (op_neT (room0 hr)) (pv 7) (pv 5) (nomark _)) (pss_cons (ps_if (pt_cmpR op_gt (pv 4) (pe_op op_sub (pv 6) pe_int) (nomark _)) (pss_one (ps_raise rfl (takes_of rfl rfl rfl rfl) (pmk_oex (oex_MovesBright T) (ini_MovesBright T) (inf_MovesBright T) G_MovesBright_init (hr.mono (by decide)) b_MovesBright_init .nil pass0 rfl (glo_MovesBright T) (pa_cons pe_str (pa_cons (pv 2) (pa_cons (pe_fld (pe_ix ix_list (pv 0) (pv 6) (fun _ _ => rfl)) rfl) pa_nil)))))) pss_nil)
        (pss_one (ps_expr (pe_bm PySem.F.plainAttrs_list PySem.F.slot_list_append PySem.F.type_list_append mt_appendK (pv 3) (pa_cons (pe_tupK (pa_cons (pe_fld (pe_ix ix_list (pv 0) (pv 4) (fun _ _ => rfl)) rfl) (pa_cons (pe_fld (pe_ix ix_list (pv 0) (pe_op op_sub (pv 6) pe_int) (fun _ _ => rfl)) rfl) (pa_cons (pv 2) (pa_cons (pe_fld (pe_ix ix_list (pv 0) (pv 6) (fun _ _ => rfl)) rfl) pa_nil))))) pa_nil))))) pss_nil)
        (pss_cons (ps_set (i := 4) sc_lamp_wishes.nd rfl (Or.inl rfl) (pe_op op_add (pv 6) pe_int))
        (pss_one (ps_set (i := 5) sc_lamp_wishes.nd rfl (Or.inl rfl) (pv 7))))))))
        (pss_one (ps_ret (pv 3))))))), ?_⟩
      walk_at "wks"
      rename_i p1 H1 f1 s1 h1 p2 H2 f2 s2 h2
      have ha2 := s2 _ _ (s1 _ _ ha)
      have hL2 := (hL.same s1).same s2
      refine for_range (lo := 0) (n := ((xs.map V.ref).length : Int).toNat) (fun i σ' H' => ∃ v1 v2 : Option V, σ' = [some (.ref a), some (.ref b), some (.str x), some (.ref p1), some (.int 0), some (.ref p2), v1, v2] ∧ Same H2 H') ⟨_, _, rfl, .refl _⟩ ?_ ?_
      · rintro i σ' H3 hi ⟨v1, v2, rfl, s3⟩
        rw [hlen] at hi
        obtain ⟨d, hd⟩ : ∃ d, ds[i]? = some d := ⟨_, List.getElem?_eq_getElem (by rw [hL.len]; exact hi)⟩
        obtain ⟨c, hci⟩ : ∃ c, cs[i]? = some c := ⟨_, List.getElem?_eq_getElem hi⟩
        have hx : atI (ds.map V.ref) (0 + (i : Int)) = some (.ref d) := by
          rw [Int.zero_add]
          exact atI_nat (by rw [List.getElem?_map, hd]; rfl)
        have hL3 := hL2.same s3
        walk_at "wks"
        refine ⟨b, _, 0 + (i : Int), _, rfl, rfl, .of hL3.li, hx, ?_⟩
        walk_at "wk"
        refine ⟨d, x, _, rfl, hL3.at_ i d c hd hci, fun H4 s4 => ?_⟩
        rw [dark c (List.mem_of_getElem? hci)]
        walk_at "wks"
        exact s3.trans s4
      · rintro σ' H3 ⟨v1, v2, rfl, s3⟩
        walk_at "wks"
        exact k p1 H3 f1 ((s1.trans s2).trans s3) (s3 _ _ (s2 _ _ h1))
    · refine ⟨_, (pss_cons (ps_set (i := 3) sc_lamp_wishes.nd rfl (Or.inl rfl) (pe_lstK pa_nil))
        (pss_cons (ps_set (i := 4) sc_lamp_wishes.nd rfl (Or.inl rfl) pe_int)
        (pss_cons (ps_set (i := 5) sc_lamp_wishes.nd rfl (Or.inl rfl) pe_dnewTK)
        (pss_cons (ps_for (passes_of rfl) rfl (pi_range1 rfl (free_range T) (pa_cons (pe_callB call_len_seq (by rfl) (free_len T) (by decide +kernel) (pa_cons (pv 0) pa_nil)) pa_nil)) (pg_name (i := 6) sc_lamp_wishes.nd rfl (Or.inl rfl)) (pss_cons (ps_if (pt_val (pe_call G_is_dark (hr.mono (by decide)) rfl (glo_is_dark T) kp_is_dark b_is_dark .nil pass0 (pa_cons (pe_ix ix_list (pv 1) (pv 6) (fun _ _ => rfl)) (pa_cons (pv 2) pa_nil)))) (pss_one ps_continue) pss_nil)
        (pss_cons (ps_set (i := 7) sc_lamp_wishes.nd rfl (Or.inl rfl) (pe_call G_stance (hr.mono (by decide)) rfl (glo_stance T) kp_stance b_stance .nil pass0 (pa_cons (pe_ix ix_list (pv 1) (pv 6) (fun _ _ => rfl)) (pa_cons (pv 2) pa_nil))))
        (C8.pss_cut (ps_if (pt_cmpR (op_neT (room0 hr)) (pv 7) (pv 5) (nomark _)) (pss_cons (ps_if (pt_cmpR op_gt (pv 4) (pe_op op_sub (pv 6) pe_int) (nomark _)) (pss_one (ps_raise rfl (takes_of rfl rfl rfl rfl) (pmk_oex (oex_MovesBright T) (ini_MovesBright T) (inf_MovesBright T) G_MovesBright_init (hr.mono (by decide)) b_MovesBright_init .nil pass0 rfl (glo_MovesBright T) (pa_cons pe_str (pa_cons (pv 2) (pa_cons (pe_fld (pe_ix ix_list (pv 0) (pv 6) (fun _ _ => rfl)) rfl) pa_nil)))))) pss_nil)
        (pss_one (ps_expr (pe_bm PySem.F.plainAttrs_list PySem.F.slot_list_append PySem.F.type_list_append mt_appendK (pv 3) (pa_cons (pe_tupK (pa_cons (pe_fld (pe_ix ix_list (pv 0) (pv 4) (fun _ _ => rfl)) rfl) (pa_cons (pe_fld (pe_ix ix_list (pv 0) (pe_op op_sub (pv 6) pe_int) (fun _ _ => rfl)) rfl) (pa_cons (pv 2) (pa_cons (pe_fld (pe_ix ix_list (pv 0) (pv 6) (fun _ _ => rfl)) rfl) pa_nil))))) pa_nil))))) pss_nil)
        (pss_cons (ps_set (i := 4) sc_lamp_wishes.nd rfl (Or.inl rfl) (pe_op op_add (pv 6) pe_int))
        (pss_one (ps_set (i := 5) sc_lamp_wishes.nd rfl (Or.inl rfl) (pv 7))))))))
        (pss_one (ps_ret (pv 3))))))), ?_⟩
      walk_at "wks"
      rename_i p1 H1 f1 s1 h1 p2 H2 f2 s2 h2
      have ha2 := s2 _ _ (s1 _ _ ha)
      have hL2 := (hL.same s1).same s2
      have hcs := hc.same (s1.trans s2)
      obtain ⟨d1, d2, rfl⟩ : ∃ d1 d2, ds = [d1, d2] := by
        have e : ds.length = 2 := hL.len
        match ds, e with
        | [d1, d2], _ => exact ⟨d1, d2, rfl⟩
      obtain ⟨x1, x2, rfl⟩ : ∃ x1 x2, xs = [x1, x2] := by
        have e : xs.length = 2 := hc.at_.len
        match xs, e with
        | [x1, x2], _ => exact ⟨x1, x2, rfl⟩
      have lk1 : H2 d1 = some (.dT [(kB l, .int w)]) := by
        have := hL2.at_ 0 d1 _ rfl rfl
        rw [look_1 lt] at this
        exact this
      have lk2 : H2 d2 = some (.dT [(kB l, .int w), (kR l, .int 5)]) := by
        have := hL2.at_ 1 d2 _ rfl rfl
        rw [look_2 lt] at this
        exact this
      have li := hL2.li
      refine for_range (lo := 0) (n := (([x1, x2].map V.ref).length : Int).toNat) (fun i σ' H' => ∃ (v1 v2 : Option V) (fi : Int) (st : Addr), σ' = [some (.ref a), some (.ref b), some (.str (SX.S l)), some (.ref p1), some (.int fi), some (.ref st), v1, v2] ∧ Same H2 H' ∧ H' st = some (.dT []) ∧ ((i = 0 ∧ fi = 0) ∨ (i = 1 ∧ fi = 2))) ⟨_, _, 0, p2, rfl, .refl _, h2, .inl ⟨rfl, rfl⟩⟩ ?_ ?_
      · rintro i σ' H3 hi ⟨v1, v2, fi, st, rfl, s3, hst, ⟨rfl, rfl⟩ | ⟨rfl, rfl⟩⟩
        · have k1 := s3 _ _ lk1
          have li3 := s3 _ _ li
          walk_at "wks"
          intro H4 s4
          have k4 := s4 _ _ k1
          have li4 := s4 _ _ li3
          rw [val_hit]
          walk_at "wks"
          refine ⟨?_, Nat.le_of_ble_eq_true rfl, fun p H5 f5 s5 h5 => ?_⟩
          · intro kv hkv
            rw [List.mem_singleton.mp hkv]
            exact ⟨_, _, rfl⟩
          rw [st_1] at h5
          have st5 := s5 _ _ (s4 _ _ hst)
          walk_at "wks"
          refine ⟨fun σ' H' => σ' = [some (.ref a), some (.ref b), some (.str (SX.S l)), some (.ref p1), some (.int 0), some (.ref st), some (.int (0 + ((0 : Nat) : Int))), some (.ref p)] ∧ H' = H5, ?_, ?_⟩
          · walk_at "wks"
            refine ⟨p, st, [], [], rfl, rfl, h5, st5, .inl ⟨rfl, rfl, ?_⟩⟩
            walk_at "wks"
            exact rfl
          rintro σ' H6 ⟨rfl, rfl⟩
          walk_at "wks"
          exact ⟨(s3.trans s4).trans s5, h5, .inr ⟨rfl, rfl⟩⟩
        · have k2 := s3 _ _ lk2
          have li3 := s3 _ _ li
          walk_at "wks"
          intro H4 s4
          have k4 := s4 _ _ k2
          have li4 := s4 _ _ li3
          rw [val_hit]
          walk_at "wks"
          refine ⟨?_, Nat.le_of_ble_eq_true rfl, fun p H5 f5 s5 h5 => ?_⟩
          · intro kv hkv
            rcases List.mem_cons.mp hkv with e | e
            · rw [e]
              exact ⟨_, _, rfl⟩
            · rw [List.mem_singleton.mp e]
              exact ⟨_, _, rfl⟩
          rw [st_2] at h5
          have st5 := s5 _ _ (s4 _ _ hst)
          walk_at "wks"
          refine ⟨fun σ' H' => False, ?_, fun _ _ z => z.elim⟩
          walk_at "wks"
          refine ⟨p, st, [(kR l, .int 5)], [], rfl, rfl, h5, st5, .inr ⟨fun z => absurd z (Nat.succ_ne_zero _), ?_⟩⟩
          obtain ⟨x2', c2, ex2, _, hc2, ⟨dx, l0, pp, hx2, _, _⟩⟩ := hcs.at_.at (i := 1) (y := .ref x2) rfl
          obtain rfl : x2 = x2' := by injection ex2
          obtain rfl : _ = c2 := Option.some.inj hc2
          have hx5 := s5 _ _ (s4 _ _ (s3 _ _ hx2))
          have ha5 := s5 _ _ (s4 _ _ (s3 _ _ ha2))
          walk_at "wks"
          exact ⟨Nat.le_of_ble_eq_true rfl, mb_raised fun d H' s e => k d H' (((((s1.trans s2).trans s3).trans s4).trans s5).trans s) e⟩
      · rintro σ' H3 ⟨v1, v2, fi, st, rfl, s3, hst, ⟨e, _⟩ | ⟨e, _⟩⟩
        · cases e
        · cases e
/-! ### wishes -/
theorem dark_two {n1 n2 : Int} {l : List Nat} {w : Int} (h : n1 < n2) {y : Str} (hy : y ≠ SX.S l) : ∀ c ∈ two n1 n2 l w, valV (lkF [] (two n1 n2 l w) c.1) [Sum.inr y, Sum.inr "bright"] = none := by
  have e1 : kB l ≠ [Sum.inr y, Sum.inr "bright"] := fun e => by
    injection e with e _
    injection e with e
    exact hy e.symm
  have e2 : kR l ≠ [Sum.inr y, Sum.inr "bright"] := fun e => by
    injection e with e _
    injection e with e
    exact hy e.symm
  intro c hc
  rcases List.mem_cons.mp hc with rfl | hc
  · show valV (lkF [] (two n1 n2 l w) n1) _ = none
    rw [look_1 h]
    simp [valV, e1]
  · rw [List.mem_singleton.mp hc]
    show valV (lkF [] (two n1 n2 l w) n2) _ = none
    rw [look_2 h]
    simp [valV, e1, e2]
structure GoodCues (K : PySem.W.Frag) (H : Hp) (v : V) (cs : List Cu) : Prop where
  ob : ∃ (a : Addr) (xs : List Addr), v = .ref a ∧ H a = some (.lst (xs.map V.ref)) ∧ CuesIn K H xs cs
structure GoodLamps (H : Hp) (u : V) (zs : List Str) : Prop where
  ob : ∃ a : Addr, u = .ref a ∧ H a = some (.lst (zs.map V.str))
  few : zs.length ≤ 10
  ok : ∀ z ∈ zs, LampS z
theorem GoodCues.same {K : PySem.W.Frag} {H H' : Hp} {v : V} {cs : List Cu} (h : GoodCues K H v cs) (s : Same H H') : GoodCues K H' v cs := by
  obtain ⟨a, xs, e, h1, h2⟩ := h.ob
  exact ⟨⟨a, xs, e, s _ _ h1, h2.same s⟩⟩
theorem GoodLamps.same {H H' : Hp} {u : V} {zs : List Str} (h : GoodLamps H u zs) (s : Same H H') : GoodLamps H' u zs := by
  obtain ⟨a, e, h1⟩ := h.ob
  exact ⟨⟨a, e, s _ _ h1⟩, h.few, h.ok⟩
/-- what wishes and moved_dark refuse, and how -/
def Refuses (K : PySem.W.Frag) (H : Hp) (v u : V) (E : XK) : Prop := (BadCues K H v ∧ Lets K "NoList" E H) ∨ (∃ cs, GoodCues K H v cs ∧ (∀ H', Same H H' → BadLamps K H' u) ∧ Lets K "NoName" E H) ∨
  ∃ (n1 n2 : Int) (l : List Nat) (w : Int) (zs : List Str), n1 < n2 ∧ GoodCues K H v (two n1 n2 l w) ∧ GoodLamps H u zs ∧ SX.S l ∈ zs ∧ MBE K H E (SX.S l) n2
def spWishes (K : PySem.W.Frag) : Sp := fun vs H Q E => ∃ v u : V, vs = [v, u] ∧ (Refuses K H v u E ∨ ∃ (cs : List Cu) (zs : List Str), GoodCues K H v cs ∧ GoodLamps H u zs ∧ (∀ z ∈ zs, ∀ c ∈ cs, valV (lkF [] cs c.1) [Sum.inr z, Sum.inr "bright"] = none) ∧ ∀ (p : Addr) H', Same H H' → H' p = some (.lst []) → Q (.ref p) H')
def DarkIn (cs : List Cu) (y : Str) : Prop := ∀ c ∈ cs, valV (lkF [] cs c.1) [Sum.inr y, Sum.inr "bright"] = none
def MovesIn (K : PySem.W.Frag) (H : Hp) (E : XK) (cs : List Cu) (y : Str) : Prop := ∃ (n1 n2 : Int) (l : List Nat) (w : Int), n1 < n2 ∧ cs = two n1 n2 l w ∧ y = SX.S l ∧ MBE K H E y n2
theorem not_dark {n1 n2 : Int} {l : List Nat} {w : Int} (h : n1 < n2) : ¬ DarkIn (two n1 n2 l w) (SX.S l) := fun z => by
  have := z (n1, ⟨l, "bright", w⟩) (List.mem_cons_self)
  rw [look_1 h, val_hit] at this
  cases this
theorem MovesIn.not {K : PySem.W.Frag} {H : Hp} {E : XK} {cs : List Cu} {y : Str} (h : MovesIn K H E cs y) : ¬ DarkIn cs y := by
  obtain ⟨n1, n2, l, w, lt, rfl, rfl, _⟩ := h
  exact not_dark lt
theorem ok_wishes (T : Txt K mg) : ∃ fd, FnOk P w K mg base (L2.CX P w) 4 (He.fAd K ("wishes", none)) fd ["cues", "lamps"] (spWishes K) ∧ FunD K "wishes" "wishes" (defArgs s_wishes) (defBody s_wishes) (defScope s_wishes) [] [] (He.fAd K ("wishes", none)) fd := by
  obtain ⟨fd, F⟩ := T.c.def_ 22 (d := d_wishes) rfl
  obtain ⟨fd_cue_list, G_cue_list, F_cue_list⟩ := ok_cue_list (P := P) (w := w) (base := base) T
  have kp_cue_list := F_cue_list.kp
  have b_cue_list : Binds K fd_cue_list ["cues"] [] := FunD.bindsN F_cue_list (fun _ _ _ _ _ _ us hl => match us, hl with | [_], _ => rfl)
  obtain ⟨fd_lamps_of, G_lamps_of, F_lamps_of⟩ := ok_lamps_of (P := P) (w := w) (base := base) T
  have kp_lamps_of := F_lamps_of.kp
  have b_lamps_of : Binds K fd_lamps_of ["lamps"] [] := FunD.bindsN F_lamps_of (fun _ _ _ _ _ _ us hl => match us, hl with | [_], _ => rfl)
  obtain ⟨fd_shown, G_shown, F_shown⟩ := ok_shown (P := P) (w := w) (base := base) T
  have kp_shown := F_shown.kp
  have b_shown : Binds K fd_shown ["cues", "number"] [] := FunD.bindsN F_shown (fun _ _ _ _ _ _ us hl => match us, hl with | [_, _], _ => rfl)
  obtain ⟨fd_lamp_wishes, G_lamp_wishes, F_lamp_wishes⟩ := ok_lamp_wishes (P := P) (w := w) (base := base) T
  have kp_lamp_wishes := F_lamp_wishes.kp
  have b_lamp_wishes : Binds K fd_lamp_wishes ["cues", "looks", "lamp"] [] := FunD.bindsN F_lamp_wishes (fun _ _ _ _ _ _ us hl => match us, hl with | [_, _, _], _ => rfl)
  have cl_Cue := cls_Cue T
  have na_Cue_number := na_Cue_number T
  refine ⟨fd, F.ok sc_wishes (by walk_at "g94len") (fun cdv A outer st H vs Q E hr h => ?_), F⟩
  · obtain ⟨v, u, rfl, h⟩ := h
    have h2 : (BadCues K H v ∧ Lets K "NoList" E H) ∨ (∃ cs, GoodCues K H v cs ∧ (∀ H', Same H H' → BadLamps K H' u) ∧ Lets K "NoName" E H) ∨ ∃ cs zs, GoodCues K H v cs ∧ GoodLamps H u zs ∧ (∀ y ∈ zs, DarkIn cs y ∨ MovesIn K H E cs y) ∧ ((∃ y ∈ zs, ¬ DarkIn cs y) ∨ ∀ (p : Addr) H', Same H H' → H' p = some (.lst []) → Q (.ref p) H') := by
      rcases h with (h | h | ⟨n1, n2, l, w, zs, lt, hc, hl, hm, k⟩) | ⟨cs, zs, hc, hl, dark, k⟩
      · exact .inl h
      · exact .inr (.inl h)
      · refine .inr (.inr ⟨_, zs, hc, hl, fun y hy => ?_, .inl ⟨_, hm, not_dark lt⟩⟩)
        by_cases e : y = SX.S l
        · exact .inr ⟨n1, n2, l, w, lt, rfl, e, by rw [e]; exact k⟩
        · exact .inl (dark_two lt e)
      · exact .inr (.inr ⟨cs, zs, hc, hl, fun y hy => .inl (dark y hy), .inr k⟩)
    clear h
    rcases h2 with ⟨hb, k⟩ | ⟨cs, ⟨a, xs, rfl, ha, hc⟩, hb, k⟩ | ⟨cs, zs, ⟨a, xs, rfl, ha, hc⟩, ⟨⟨b, rfl, hu⟩, hz, hl⟩, each, k⟩
    · refine ⟨_, (pss_cons (ps_set (i := 2) sc_wishes.nd rfl (Or.inr rfl) (pe_call G_cue_list (hr.mono (by decide)) rfl (glo_cue_list T) kp_cue_list b_cue_list .nil (passes_call (takes_of rfl rfl rfl rfl) (fun _ _ _ _ h => h)) (pa_cons (pv 0) pa_nil)))
        (pss_cons (ps_set (i := 3) sc_wishes.nd rfl (Or.inl rfl) (pe_call G_lamps_of (hr.mono (by decide)) rfl (glo_lamps_of T) kp_lamps_of b_lamps_of .nil (passes_call (takes_of rfl rfl rfl rfl) (fun _ _ _ _ h => h)) (pa_cons (pv 1) pa_nil)))
        (pss_cons (ps_setLc (i := 4) (own := [("cue", 7)]) (g := upG (gName 7)) rfl sc_wishes.nd rfl rfl (sw_true rfl rfl rfl (by decide +kernel)) (pi_list (pv 2)) (blkOk_by (own := [("cue", 7)]) (N := ["cues", "lamps", "kept", "names", "looks", "found", "lamp", "cue"]) (sc := defScope s_wishes) (by decide +kernel)) (fun _ _ _ _ _ => (PG.up (pg_name (i := 7) sc_wishes.nd rfl (Or.inl rfl)))) (fun _ _ _ _ _ => (PTs.up pts_nil)) (fun _ _ _ _ _ => (PE.up (pe_call G_shown (hr.mono (by decide)) rfl (glo_shown T) kp_shown b_shown .nil pass0 (pa_cons (pv 2) (pa_cons (show PE _ _ (tFld K _ _) from pe_fld (pv 7) rfl) pa_nil))))))
        (pss_cons (ps_set (i := 5) sc_wishes.nd rfl (Or.inl rfl) (pe_lstK pa_nil))
        (pss_cons (ps_for (passes_of rfl) rfl (pi_list (pv 3)) (pg_name (i := 6) sc_wishes.nd rfl (Or.inl rfl)) (pss_one (ps_set (i := 5) sc_wishes.nd rfl (Or.inl rfl) (pe_op op_catK (pv 5) (pe_call G_lamp_wishes (hr.mono (by decide)) rfl (glo_lamp_wishes T) kp_lamp_wishes b_lamp_wishes .nil (passes_call (takes_of rfl rfl rfl rfl) (fun _ _ _ _ h => h)) (pa_cons (pv 2) (pa_cons (pv 4) (pa_cons (pv 6) pa_nil))))))))
        (pss_one (ps_ret (pv 5)))))))), ?_⟩
      exact ⟨_, rfl, _, rfl, .inr ⟨hb, fun H' s => k H' s⟩⟩
    · refine ⟨_, (pss_cons (ps_set (i := 2) sc_wishes.nd rfl (Or.inr rfl) (pe_call G_cue_list (hr.mono (by decide)) rfl (glo_cue_list T) kp_cue_list b_cue_list .nil (passes_call (takes_of rfl rfl rfl rfl) (fun _ _ _ _ h => h)) (pa_cons (pv 0) pa_nil)))
        (pss_cons (ps_set (i := 3) sc_wishes.nd rfl (Or.inl rfl) (pe_call G_lamps_of (hr.mono (by decide)) rfl (glo_lamps_of T) kp_lamps_of b_lamps_of .nil (passes_call (takes_of rfl rfl rfl rfl) (fun _ _ _ _ h => h)) (pa_cons (pv 1) pa_nil)))
        (pss_cons (ps_setLc (i := 4) (own := [("cue", 7)]) (g := upG (gName 7)) rfl sc_wishes.nd rfl rfl (sw_true rfl rfl rfl (by decide +kernel)) (pi_list (pv 2)) (blkOk_by (own := [("cue", 7)]) (N := ["cues", "lamps", "kept", "names", "looks", "found", "lamp", "cue"]) (sc := defScope s_wishes) (by decide +kernel)) (fun _ _ _ _ _ => (PG.up (pg_name (i := 7) sc_wishes.nd rfl (Or.inl rfl)))) (fun _ _ _ _ _ => (PTs.up pts_nil)) (fun _ _ _ _ _ => (PE.up (pe_call G_shown (hr.mono (by decide)) rfl (glo_shown T) kp_shown b_shown .nil pass0 (pa_cons (pv 2) (pa_cons (show PE _ _ (tFld K _ _) from pe_fld (pv 7) rfl) pa_nil))))))
        (pss_cons (ps_set (i := 5) sc_wishes.nd rfl (Or.inl rfl) (pe_lstK pa_nil))
        (pss_cons (ps_for (passes_of rfl) rfl (pi_list (pv 3)) (pg_name (i := 6) sc_wishes.nd rfl (Or.inl rfl)) (pss_one (ps_set (i := 5) sc_wishes.nd rfl (Or.inl rfl) (pe_op op_catK (pv 5) (pe_call G_lamp_wishes (hr.mono (by decide)) rfl (glo_lamp_wishes T) kp_lamp_wishes b_lamp_wishes .nil (passes_call (takes_of rfl rfl rfl rfl) (fun _ _ _ _ h => h)) (pa_cons (pv 2) (pa_cons (pv 4) (pa_cons (pv 6) pa_nil))))))))
        (pss_one (ps_ret (pv 5)))))))), ?_⟩
      refine ⟨_, rfl, _, rfl, .inl ⟨a, xs, cs, rfl, ha, hc, fun p H1 f1 s1 h1 => ?_⟩⟩
      walk_at "wk"
      exact ⟨_, rfl, .inr ⟨hb _ s1, fun H' s => k H' (s1.trans s)⟩⟩
    · refine ⟨_, (pss_cons (ps_set (i := 2) sc_wishes.nd rfl (Or.inr rfl) (pe_call G_cue_list (hr.mono (by decide)) rfl (glo_cue_list T) kp_cue_list b_cue_list .nil (passes_call (takes_of rfl rfl rfl rfl) (fun _ _ _ _ h => h)) (pa_cons (pv 0) pa_nil)))
        (pss_cons (ps_set (i := 3) sc_wishes.nd rfl (Or.inl rfl) (pe_call G_lamps_of (hr.mono (by decide)) rfl (glo_lamps_of T) kp_lamps_of b_lamps_of .nil (passes_call (takes_of rfl rfl rfl rfl) (fun _ _ _ _ h => h)) (pa_cons (pv 1) pa_nil)))
        (pss_cons (ps_setLc (i := 4) (own := [("cue", 7)]) (g := upG (gName 7)) rfl sc_wishes.nd rfl rfl (sw_true rfl rfl rfl (by decide +kernel)) (pi_list (pv 2)) (blkOk_by (own := [("cue", 7)]) (N := ["cues", "lamps", "kept", "names", "looks", "found", "lamp", "cue"]) (sc := defScope s_wishes) (by decide +kernel)) (fun _ _ _ _ _ => (PG.up (pg_name (i := 7) sc_wishes.nd rfl (Or.inl rfl)))) (fun _ _ _ _ _ => (PTs.up pts_nil)) (fun _ _ _ _ _ => (PE.up (pe_call G_shown (hr.mono (by decide)) rfl (glo_shown T) kp_shown b_shown .nil pass0 (pa_cons (pv 2) (pa_cons (show PE _ _ (tFld K _ _) from pe_fld (pv 7) rfl) pa_nil))))))
        (pss_cons (ps_set (i := 5) sc_wishes.nd rfl (Or.inl rfl) (pe_lstK pa_nil))
        (pss_cons (ps_for (passes_of rfl) rfl (pi_list (pv 3)) (pg_name (i := 6) sc_wishes.nd rfl (Or.inl rfl)) (pss_one (ps_set (i := 5) sc_wishes.nd rfl (Or.inl rfl) (pe_op op_catK (pv 5) (pe_call G_lamp_wishes (hr.mono (by decide)) rfl (glo_lamp_wishes T) kp_lamp_wishes b_lamp_wishes .nil (passes_call (takes_of rfl rfl rfl rfl) (fun _ _ _ _ h => h)) (pa_cons (pv 2) (pa_cons (pv 4) (pa_cons (pv 6) pa_nil))))))))
        (pss_one (ps_ret (pv 5)))))))), ?_⟩
      refine ⟨_, rfl, _, rfl, .inl ⟨a, xs, cs, rfl, ha, hc, fun p H1 f1 s1 h1 => ?_⟩⟩
      walk_at "wk"
      refine ⟨_, rfl, .inl ⟨b, zs, rfl, s1 _ _ hu, hz, hl, fun q ys H2 f2 s2 h2 m2 l2 => ?_⟩⟩
      have hp2 := s2 _ _ h1
      have hc2 := hc.same (s1.trans s2)
      walk_at "wks"
      refine ⟨⟨_, .of hp2⟩, fun D hD => lcK_list (K := K) (a := p) (xs := xs.map V.ref) hD (fun i H' => ∃ ds : List Addr, H' D = some (.lst (ds.map V.ref)) ∧ ds.length = i ∧ Same H2 H' ∧ ∀ (j : Nat) (d : Addr) (c : Cu), ds[j]? = some d → cs[j]? = some c → H' d = some (.dT (lkF [] cs c.1))) (fun H' f s h => ⟨[], h, rfl, s, fun j d c e => by simp at e⟩) (fun i H' _ ⟨_, _, _, s, _⟩ => .of (s _ _ hp2)) ?_ ?_⟩
      · rintro i x H3 hx ⟨ds, h3, l3, s3, e3⟩
        obtain ⟨x, c, rfl, _, hci, ⟨dx, l, pp, hx1, hl1, hpp⟩⟩ := hc2.at_.at hx
        have hx3 := s3 _ _ hx1
        refine ⟨rfl, ?_⟩
        walk_at "wks"
        refine ⟨p, xs, cs, i, c, rfl, s3 _ _ hp2, hc2.same s3, hci, fun d H4 f4 s4 h4 => ?_⟩
        have il := (List.getElem?_eq_some_iff.mp hci).1
        have cf := hc.few
        have D4 := s4 _ _ h3
        refine ⟨_, D4, szlt (by rw [List.length_map]; omega), fun H5 m5 h5 => ⟨ds ++ [d], by rw [List.map_append]; exact h5, by rw [List.length_append, l3]; rfl, (s3.trans s4).but m5 hD, fun j d' c' e1 e2 => ?_⟩⟩
        by_cases jl : j < ds.length
        · rw [List.getElem?_append_left jl] at e1
          have o4 := s4 _ _ (e3 j d' c' e1 e2)
          exact m5 _ _ (ne_of o4 D4 (by intro z; cases z)) o4
        · rw [List.getElem?_append_right (by omega)] at e1
          obtain ⟨hj, ej⟩ := List.getElem?_eq_some_iff.mp e1
          rw [List.length_singleton] at hj
          obtain rfl : j = i := by omega
          obtain rfl : c = c' := Option.some.inj (hci.symm.trans e2)
          have ed : d' = d := by
            rw [← ej]
            simp
          rw [ed]
          exact m5 _ _ (ne_of h4 D4 (by intro z; cases z)) h4
      · rintro H3 ⟨ds, h3, l3, s3, e3⟩
        walk_at "wks"
        rename_i p5 H5 f5 s5 h5
        rw [List.length_map, hc.at_.len] at l3
        have hL : LooksAt H3 D ds cs := ⟨h3, l3, e3⟩
        have hL5 := hL.same s5
        have hp5 := s5 _ _ (s3 _ _ hp2)
        have hq5 := s5 _ _ (s3 _ _ h2)
        have hc5 := hc2.same (s3.trans s5)
        refine ⟨⟨_, .of hq5⟩, for_list (K := K) (a := q) (xs := ys.map V.str) (fun i σ' H' => ∃ (w : Option V) (f : Addr), σ' = [some (.ref a), some (.ref b), some (.ref p), some (.ref q), some (.ref D), some (.ref f), w, none] ∧ Same H5 H' ∧ H' f = some (.lst []) ∧ ∀ y ∈ ys.take i, DarkIn cs y) ⟨_, p5, rfl, .refl _, h5, by simp⟩ (fun i σ' H' _ ⟨_, _, _, s, _⟩ => .of (s _ _ hq5)) ?_ ?_⟩
        · rintro i z σ' H6 hi ⟨w, f, rfl, s6, hf, hd⟩
          rw [List.getElem?_map] at hi
          obtain ⟨y, hy, rfl⟩ : ∃ y, ys[i]? = some y ∧ z = .str y := by
            cases e : ys[i]? with
            | none =>
              rw [e] at hi
              cases hi
            | some y =>
              rw [e] at hi
              exact ⟨y, rfl, (Option.some.inj hi).symm⟩
          have S6 : Same H H6 := (((s1.trans s2).trans s3).trans s5).trans s6
          walk_at "wk"
          walk_at "wk"
          walk_at "wk"
          refine ⟨_, rfl, p, D, xs, ds, cs, y, rfl, s6 _ _ hp5, hc5.same s6, hL5.same s6, ?_⟩
          rcases each y ((m2 y).mp (List.mem_of_getElem? hy)) with dk | ⟨n1, n2, l, w0, lt, e1, e2, kE⟩
          · refine .inl ⟨dk, fun g H7 f7 s7 h7 => ?_⟩
            have hf7 := s7 _ _ hf
            walk_at "wks"
            rename_i g2 H8 f8 s8 h8
            refine ⟨(s6.trans s7).trans s8, h8, fun z hz => ?_⟩
            rw [List.take_add_one, hy] at hz
            rcases List.mem_append.mp hz with hz | hz
            · exact hd z hz
            · rw [show z = y from List.mem_singleton.mp hz]
              exact dk
          · exact .inr ⟨n1, n2, l, w0, lt, e1, e2, fun d H' s e => kE d H' (S6.trans s) e⟩
        · rintro σ' H6 ⟨w, f, rfl, s6, hf, hd⟩
          rw [List.length_map, List.take_length] at hd
          walk_at "wks"
          rcases k with ⟨y, hy, nd⟩ | k
          · exact absurd (hd y ((m2 y).mpr hy)) nd
          · exact k f H6 ((((s1.trans s2).trans s3).trans s5).trans s6) hf
def spMoved (K : PySem.W.Frag) : Sp := fun vs H Q E => ∃ v u : V, vs = [v, u] ∧ Refuses K H v u E
theorem ok_moved_dark (T : Txt K mg) : ∃ fd, FnOk P w K mg base (L2.CX P w) 5 (He.fAd K ("moved_dark", none)) fd ["cues", "lamps"] (spMoved K) ∧ FunD K "moved_dark" "moved_dark" (defArgs s_moved_dark) (defBody s_moved_dark) (defScope s_moved_dark) [] [] (He.fAd K ("moved_dark", none)) fd := by
  obtain ⟨fd, F⟩ := T.c.def_ 23 (d := d_moved_dark) rfl
  obtain ⟨fd_wishes, G_wishes, F_wishes⟩ := ok_wishes (P := P) (w := w) (base := base) T
  have kp_wishes := F_wishes.kp
  have b_wishes : Binds K fd_wishes ["cues", "lamps"] [] := FunD.bindsN F_wishes (fun _ _ _ _ _ _ us hl => match us, hl with | [_, _], _ => rfl)
  obtain ⟨fd_cue_list, G_cue_list, F_cue_list⟩ := ok_cue_list (P := P) (w := w) (base := base) T
  have kp_cue_list := F_cue_list.kp
  have b_cue_list : Binds K fd_cue_list ["cues"] [] := FunD.bindsN F_cue_list (fun _ _ _ _ _ _ us hl => match us, hl with | [_], _ => rfl)
  obtain ⟨fd_lamps_of, G_lamps_of, F_lamps_of⟩ := ok_lamps_of (P := P) (w := w) (base := base) T
  have kp_lamps_of := F_lamps_of.kp
  have b_lamps_of : Binds K fd_lamps_of ["lamps"] [] := FunD.bindsN F_lamps_of (fun _ _ _ _ _ _ us hl => match us, hl with | [_], _ => rfl)
  obtain ⟨fd_shown, G_shown, F_shown⟩ := ok_shown (P := P) (w := w) (base := base) T
  have kp_shown := F_shown.kp
  have b_shown : Binds K fd_shown ["cues", "number"] [] := FunD.bindsN F_shown (fun _ _ _ _ _ _ us hl => match us, hl with | [_, _], _ => rfl)
  have cl_Cue := cls_Cue T
  have na_Cue_number := na_Cue_number T
  refine ⟨fd, F.ok sc_moved_dark (by walk_at "g94len") (fun cdv A outer st H vs Q E hr h => ?_), F⟩
  · obtain ⟨v, u, rfl, h⟩ := h
    refine ⟨_, (pss_cons (ps_set (i := 2) sc_moved_dark.nd rfl (Or.inl rfl) (pe_call G_wishes (hr.mono (by decide)) rfl (glo_wishes T) kp_wishes b_wishes .nil (passes_call (takes_of rfl rfl rfl rfl) (fun _ _ _ _ h => h)) (pa_cons (pv 0) (pa_cons (pv 1) pa_nil))))
        pss_never), ?_⟩
    exact ⟨_, rfl, _, rfl, v, u, rfl, .inl h⟩
/-! ### the law's names -/
def rep (c : Nat) (n : Nat) : List Nat := List.replicate n c
def nm (z : Bool) (n at_ tl : Nat) : List Nat := if z then rep 122 (1 + n) else rep 107 at_ ++ [97 + n] ++ rep 107 tl
theorem nm_str : ∀ z : Bool, ∀ n < 2, ∀ a < 8, ∀ t < 8 - a, PyData.strOk (SX.S (nm z n a t)) = true := by decide +kernel
theorem nm_ok : ∀ z : Bool, ∀ n < 2, ∀ a < 8, ∀ t < 8 - a, lampB (nm z n a t) = true ∧ (nm z n a t).length ≤ 8 := by decide +kernel
theorem nm_ne : ∀ z : Bool, ∀ a < 8, ∀ t < 8 - a, nm z 0 a t ≠ nm z 1 a t := by decide +kernel
def atOf (f : Int) : Nat := (f / 3 % 8).toNat
def tlOf (f : Int) : Nat := (f / 24 % (8 - f / 3 % 8)).toNat
theorem at_lt (f : Int) : atOf f < 8 := by
  unfold atOf
  omega
theorem tl_lt (f : Int) : tlOf f < 8 - atOf f := by
  have h : 0 ≤ f / 3 % 8 ∧ f / 3 % 8 < 8 := by omega
  have h1 := Int.emod_nonneg (f / 24) (show 8 - f / 3 % 8 ≠ 0 by omega)
  have h2 := Int.emod_lt_of_pos (f / 24) (show 0 < 8 - f / 3 % 8 by omega)
  unfold tlOf atOf
  omega
def nameL (n : Nat) (f : Int) : List Nat := nm (decide (f % 3 = 1)) n (atOf f) (tlOf f)
theorem nameL_ok {n : Nat} (h : n < 2) (f : Int) : lampB (nameL n f) = true ∧ (nameL n f).length ≤ 8 := nm_ok _ n h _ (at_lt f) _ (tl_lt f)
theorem nameL_str {n : Nat} (h : n < 2) (f : Int) : PyData.strOk (SX.S (nameL n f)) = true := nm_str _ n h _ (at_lt f) _ (tl_lt f)
theorem nameL_ne (f : Int) : SX.S (nameL 0 f) ≠ SX.S (nameL 1 f) := fun e => nm_ne _ _ (at_lt f) _ (tl_lt f) (SX.S_inj e)
theorem sl_k {x : Int} (h0 : 0 ≤ x) (h1 : x ≤ 8) : Txt.slice "kkkkkkkk" none (some x) = SX.S (rep 107 x.toNat) := by
  have h8 : ("kkkkkkkk" : Str) = SX.S (rep 107 8) := by decide +kernel
  rw [h8, SX.slice_to h0]
  congr 1
  unfold rep
  rw [List.take_replicate]
  congr 1
  omega
theorem sl_z : ∀ n : Nat, n < 2 → Txt.slice "zzzzzzzz" none (some (1 + (n : Int) % 7)) = SX.S (rep 122 (1 + n))
  | 0, _ => by decide +kernel
  | 1, _ => by decide +kernel
theorem ix_a : ∀ n : Nat, n < 2 → atI ("abcdefg" : Str).cps.toList ((n : Int) % 7) = some (97 + n)
  | 0, _ => by decide +kernel
  | 1, _ => by decide +kernel
def spName : Sp := fun vs H Q _ => ∃ (n : Nat) (f : Int), vs = [.int (n : Int), .int f] ∧ n < 2 ∧ Q (.str (SX.S (nameL n f))) H
theorem ok_l_name (T : Txt K mg) : ∃ fd, FnOk P w K mg base CX0 1 (He.fAd K ("_law_name", none)) fd ["_law_number", "_law_form"] spName ∧ FunD K "_law_name" "_law_name" (defArgs s_l_name) (defBody s_l_name) (defScope s_l_name) [] [] (He.fAd K ("_law_name", none)) fd := by
  obtain ⟨fd, F⟩ := T.c.def_ 26 (d := d_l_name) rfl
  refine ⟨fd, F.ok sc_l_name (by walk_at "g94len") (fun cdv A outer st H vs Q E hr h => ?_), F⟩
  · obtain ⟨n, f, rfl, hn, k⟩ := h
    refine ⟨_, PSs.nox (pss_cons (ps_if (pt_cmpR op_eq (pe_op op_mod (pv 1) pe_int) pe_int (nomark _)) (pss_one (ps_ret (pe_slice C8.sl_txt pe_str po_none (po_some (pe_op op_add pe_int (pe_op op_mod (pv 0) pe_int)))))) pss_nil)
        (pss_cons (ps_set (i := 2) sc_l_name.nd rfl (Or.inl rfl) (pe_op op_mod (pe_op op_fdiv (pv 1) pe_int) pe_int))
        (pss_one (ps_ret (pe_op op_add_str (pe_op op_add_str (pe_slice C8.sl_txt pe_str po_none (po_some (pv 2))) (pe_ix ix_str pe_str (pe_op op_mod (pv 0) pe_int) (fun _ _ => rfl))) (pe_slice C8.sl_txt pe_str po_none (po_some (pe_op op_mod (pe_op op_fdiv (pv 1) pe_int) (pe_op op_sub pe_int (pv 2)))))))))), ?_⟩
    walk_at "wks"
    refine iteV (fun z => ?_) (fun z => ?_)
    · walk_at "wks"
      rw [sl_z n hn]
      have e : nameL n f = rep 122 (1 + n) := by
        unfold nameL nm
        rw [decide_eq_true z]
        rfl
      rw [e] at k
      exact k
    · walk_at "wks"
      have hat := at_lt f
      have htl := tl_lt f
      have e : nameL n f = rep 107 (atOf f) ++ [97 + n] ++ rep 107 (tlOf f) := by
        unfold nameL nm
        rw [decide_eq_false z]
        rfl
      have a0 : 0 ≤ f / 3 % 8 ∧ f / 3 % 8 < 8 := by omega
      refine ⟨_, _, _, rfl, rfl, by decide +kernel, ix_a n hn, ?_⟩
      rw [sl_k a0.1 (by omega)]
      refine ⟨_, _, rfl, rfl, by rw [len_S, len_S, rep, List.length_replicate]; exact small_size (by show _ + 1 ≤ 100000; omega), ?_⟩
      rw [SX.S_cat]
      walk_at "wks"
      have t0 := Int.emod_nonneg (f / 24) (show 8 - f / 3 % 8 ≠ 0 by omega)
      have t1 := Int.emod_lt_of_pos (f / 24) (show 0 < 8 - f / 3 % 8 by omega)
      rw [sl_k t0 (by omega)]
      refine ⟨by rw [len_S, len_S, List.length_append, rep, rep, List.length_replicate, List.length_replicate]; exact small_size (by show _ + 1 + _ ≤ 100000; omega), ?_⟩
      rw [SX.S_cat]
      rw [e] at k
      exact k
def spDrawn (K : PySem.W.Frag) : Sp := fun vs H Q _ => ∃ (a : Addr) (ns : List Int) (k : Int), vs = [.ref a, .int k] ∧ SqL K H a (ns.map V.int) ∧ 0 ≤ k ∧ k < ns.length ∧ ns.length ≤ 63 ∧ ∀ r : Int, 0 ≤ r → Q (.int r) H
theorem ok_l_drawn (T : Txt K mg) : ∃ fd, FnOk P w K mg base CX0 1 (He.fAd K ("_law_drawn", none)) fd ["_law_script", "_law_k"] (spDrawn K) ∧ FunD K "_law_drawn" "_law_drawn" (defArgs s_l_drawn) (defBody s_l_drawn) (defScope s_l_drawn) [] [] (He.fAd K ("_law_drawn", none)) fd := by
  obtain ⟨fd, F⟩ := T.c.def_ 25 (d := d_l_drawn) rfl
  refine ⟨fd, F.ok sc_l_drawn (by walk_at "g94len") (fun cdv A outer st H vs Q E hr h => ?_), F⟩
  · obtain ⟨a, ns, i, rfl, hS, i0, i1, hl, k⟩ := h
    refine ⟨_, PSs.nox (pss_one (ps_ret (pe_op op_mod (pe_op op_mul (pe_op op_add (pe_ix ix_list (pv 0) (pv 1) (fun _ _ => rfl)) pe_int) (pe_op op_add pe_int (pe_op op_mul (pe_op op_mul pe_int (pv 1)) (pv 1)))) pe_int))), ?_⟩
    obtain ⟨v, hv, hv2⟩ := atI_lt (xs := ns.map V.int) i0 (by rw [List.length_map]; exact i1)
    obtain ⟨z, rfl, _, _⟩ := int_at hv2
    have hm : 0 ≤ i * i ∧ i * i ≤ 63 * 63 := ⟨Int.mul_nonneg i0 i0, Int.mul_le_mul (by omega) (by omega) i0 (by decide)⟩
    have hm2 : 7919 * i * i = 7919 * (i * i) := Int.mul_assoc _ _ _
    walk_at "wks"
    refine ⟨a, _, i, _, rfl, rfl, hS, hv, ?_⟩
    walk_at "wks"
    exact k _ (Int.emod_nonneg _ (by decide))
/-! ### what is no lamp, what is no list of cues -/
theorem no_str {K : PySem.W.Frag} {H : Hp} {x : Str} (l : List Nat) (e : x = SX.S l) (hl : l.length ≤ 1000) (hb : lampB l = false) : LampSays K H (.str x) false := .inl ⟨l, by rw [e], hl, hb.symm⟩
theorem no_ty {K : PySem.W.Frag} {H : Hp} {v : V} {t : String} (h : TyOf K H v (.type t)) (hk : kitB t "str" = some false) : LampSays K H v false := .inr ⟨⟨_, .base h, kit_ty hk⟩, rfl⟩
theorem nolamp_at {K : PySem.W.Frag} {p1 p2 p3 : Addr} {k : Int} (h0 : 0 ≤ k) (h1 : k < 11) :
    ∃ v, atI [V.str "", V.str "abcdefghi", V.str "Ab", V.str "a b", V.str "a1", V.non, V.int 1, V.bl true, V.ref p1, V.ref p2, V.ref p3] k = some v ∧ ∀ H : Hp, H p1 = some (.tup [.str "a"]) → H p2 = some (.lst [.str "a"]) → H p3 = some (.dT []) → LampSays K H v false := by
  rcases (by omega : k = 0 ∨ k = 1 ∨ k = 2 ∨ k = 3 ∨ k = 4 ∨ k = 5 ∨ k = 6 ∨ k = 7 ∨ k = 8 ∨ k = 9 ∨ k = 10) with rfl | rfl | rfl | rfl | rfl | rfl | rfl | rfl | rfl | rfl | rfl
  · exact ⟨_, rfl, fun H _ _ _ => no_str [] (by decide +kernel) (by decide) (by decide +kernel)⟩
  · exact ⟨_, rfl, fun H _ _ _ => no_str [97, 98, 99, 100, 101, 102, 103, 104, 105] (by decide +kernel) (by decide) (by decide +kernel)⟩
  · exact ⟨_, rfl, fun H _ _ _ => no_str [65, 98] (by decide +kernel) (by decide) (by decide +kernel)⟩
  · exact ⟨_, rfl, fun H _ _ _ => no_str [97, 32, 98] (by decide +kernel) (by decide) (by decide +kernel)⟩
  · exact ⟨_, rfl, fun H _ _ _ => no_str [97, 49] (by decide +kernel) (by decide) (by decide +kernel)⟩
  · exact ⟨_, rfl, fun H _ _ _ => no_ty .non (by decide +kernel)⟩
  · exact ⟨_, rfl, fun H _ _ _ => no_ty (.int _) (by decide +kernel)⟩
  · exact ⟨_, rfl, fun H _ _ _ => no_ty (.bl _) (by decide +kernel)⟩
  · exact ⟨_, rfl, fun H h _ _ => no_ty (.tup h) (by decide +kernel)⟩
  · exact ⟨_, rfl, fun H _ h _ => no_ty (.lst h) (by decide +kernel)⟩
  · exact ⟨_, rfl, fun H _ _ h => no_ty (.dT h) (by decide +kernel)⟩
def spNoLamp (K : PySem.W.Frag) : Sp := fun vs H Q _ => ∃ n : Int, vs = [.int n] ∧ ∀ (v : V) (H' : Hp), Same H H' → (∀ H2 : Hp, (∀ b o, H b = none → H' b = some o → H2 b = some o) → LampSays K H2 v false) → Q v H'
theorem ok_l_no_lamp (T : Txt K mg) : ∃ fd, FnOk P w K mg base CX0 1 (He.fAd K ("_law_no_lamp", none)) fd ["_law_number"] (spNoLamp K) ∧ FunD K "_law_no_lamp" "_law_no_lamp" (defArgs s_l_no_lamp) (defBody s_l_no_lamp) (defScope s_l_no_lamp) [] [] (He.fAd K ("_law_no_lamp", none)) fd := by
  obtain ⟨fd, F⟩ := T.c.def_ 27 (d := d_l_no_lamp) rfl
  refine ⟨fd, F.ok sc_l_no_lamp (by walk_at "g94len") (fun cdv A outer st H vs Q E hr h => ?_), F⟩
  · obtain ⟨n, rfl, k⟩ := h
    refine ⟨_, PSs.nox (pss_one (ps_ret (pe_ix ix_list (pe_lstK (pa_cons pe_str (pa_cons pe_str (pa_cons pe_str (pa_cons pe_str (pa_cons pe_str (pa_cons pe_non (pa_cons pe_int (pa_cons pe_bl (pa_cons (pe_tupK (pa_cons pe_str pa_nil)) (pa_cons (pe_lstK (pa_cons pe_str pa_nil)) (pa_cons pe_dnewTK pa_nil)))))))))))) (pe_op op_mod (pv 0) pe_int) (fun _ _ => rfl)))), ?_⟩
    walk_at "wks"
    rename_i p1 H1 f1 s1 h1 p2 H2 f2 s2 h2 p3 H3 f3 s3 h3 p4 H4 f4 s4 h4
    obtain ⟨v, hv, says⟩ := nolamp_at (K := K) (p1 := p1) (p2 := p2) (p3 := p3) (k := n % 11) (by omega) (by omega)
    refine ⟨p4, _, _, v, rfl, rfl, .of h4, hv, ?_⟩
    exact k v H4 (((s1.trans s2).trans s3).trans s4) fun H5 s5 => says H5 (s5 _ _ f1 (s4 _ _ (s3 _ _ (s2 _ _ h1)))) (s5 _ _ (s1.fresh f2) (s4 _ _ (s3 _ _ h2))) (s5 _ _ ((s1.trans s2).fresh f3) (s4 _ _ h3))
/-! ### what is caught -/
inductive Out where
  | noList
  | noName
  | moves (x : Str) (n : Int)
def Out.dues : Out → List V
  | .noList => [.bl true, .bl false, .bl false]
  | .noName => [.bl false, .bl true, .bl false]
  | .moves x n => [.bl false, .bl false, .bl true, .str x, .int n]
/-- why it is refused so -/
def Why (K : PySem.W.Frag) (H : Hp) (v u : V) : Out → Prop
  | .noList => BadCues K H v
  | .noName => ∃ cs, GoodCues K H v cs ∧ ∀ H', Same H H' → BadLamps K H' u
  | .moves x n => ∃ (n1 n2 : Int) (l : List Nat) (w : Int) (zs : List Str), n1 < n2 ∧ GoodCues K H v (two n1 n2 l w) ∧ GoodLamps H u zs ∧ SX.S l ∈ zs ∧ x = SX.S l ∧ n = n2
def Flies (K : PySem.W.Frag) (H : Hp) (E : XK) : Out → Prop
  | .noList => Lets K "NoList" E H
  | .noName => Lets K "NoName" E H
  | .moves x n => MBE K H E x n
theorem why_ref {K : PySem.W.Frag} {H : Hp} {v u : V} {E : XK} {o : Out} (h : Why K H v u o) (k : Flies K H E o) : Refuses K H v u E := by
  cases o with
  | noList => exact .inl ⟨h, k⟩
  | noName =>
    obtain ⟨cs, h1, h2⟩ := h
    exact .inr (.inl ⟨cs, h1, h2, k⟩)
  | moves x n =>
    obtain ⟨n1, n2, l, w, zs, lt, h1, h2, h3, rfl, rfl⟩ := h
    exact .inr (.inr ⟨n1, _, l, w, zs, lt, h1, h2, h3, k⟩)
def spTruths (K : PySem.W.Frag) : Sp := fun vs H Q _ => ∃ (n : Int) (v u : V) (o : Out), vs = [.int n, v, u] ∧ Why K H v u o ∧ ∀ (p : Addr) H', Same H H' → H' p = some (.lst o.dues) → Q (.ref p) H'
def Caught (K : PySem.W.Frag) (H' : Hp) (cls : Value) (d : Option Addr) : Out → Prop
  | .noList => cls = cE K "NoList" ∧ d = none
  | .noName => cls = cE K "NoName" ∧ d = none
  | .moves x n => cls = cE K "MovesBright" ∧ ∃ dd, d = some dd ∧ H' dd = some (.xd [("number", .int n), ("lamp", .str x)])
theorem flies_of {K : PySem.W.Frag} {H : Hp} {E : XK} {o : Out} (h : ∀ cls d H', Same H H' → Caught K H' cls d o → E cls d H') : Flies K H E o := by
  cases o with
  | noList => exact fun H' s => h _ _ H' s ⟨rfl, rfl⟩
  | noName => exact fun H' s => h _ _ H' s ⟨rfl, rfl⟩
  | moves x n => exact fun d H' s e => h _ _ H' s ⟨rfl, d, rfl, e⟩
theorem ok_l_truths (T : Txt K mg) : ∃ fd, FnOk P w K mg base CX0 6 (He.fAd K ("_law_truths", none)) fd ["_law_way", "_law_cues", "_law_lamps"] (spTruths K) ∧ FunD K "_law_truths" "_law_truths" (defArgs s_l_truths) (defBody s_l_truths) (defScope s_l_truths) [] [] (He.fAd K ("_law_truths", none)) fd := by
  obtain ⟨fd, F⟩ := T.c.def_ 28 (d := d_l_truths) rfl
  obtain ⟨fd_wishes, G_wishes, F_wishes⟩ := ok_wishes (P := P) (w := w) (base := base) T
  have kp_wishes := F_wishes.kp
  have b_wishes : Binds K fd_wishes ["cues", "lamps"] [] := FunD.bindsN F_wishes (fun _ _ _ _ _ _ us hl => match us, hl with | [_, _], _ => rfl)
  obtain ⟨fd_moved_dark, G_moved_dark, F_moved_dark⟩ := ok_moved_dark (P := P) (w := w) (base := base) T
  have kp_moved_dark := F_moved_dark.kp
  have b_moved_dark : Binds K fd_moved_dark ["cues", "lamps"] [] := FunD.bindsN F_moved_dark (fun _ _ _ _ _ _ us hl => match us, hl with | [_, _], _ => rfl)
  have cl_Cue := cls_Cue T
  have na_Cue_number := na_Cue_number T
  refine ⟨fd, F.ok sc_l_truths (by walk_at "g94len") (fun cdv A outer st H vs Q E hr h => ?_), F⟩
  · obtain ⟨n, v, u, o, rfl, hw, k⟩ := h
    refine ⟨_, PSs.nox (pss_cons (ps_set (i := 3) sc_l_truths.nd rfl (Or.inl rfl) pe_non)
        (pss_cons (ps_try_asK (i := 4) rfl rfl sc_l_truths.nd rfl rfl ⟨rfl, by decide, .inl (glo_LampError T)⟩ (fun W pn xe tk _ => (pss_one (ps_if (pt_cmpR op_eq (pv 0) pe_int (nomark _)) (pss_one (ps_expr (pe_callS G_wishes (hr.mono (by decide)) rfl (glo_wishes T) kp_wishes b_wishes (fun σ => passAt tk σ) (pa_cons (pv 1) (pa_cons (pv 2) pa_nil))))) (pss_one (ps_expr (pe_callS G_moved_dark (hr.mono (by decide)) rfl (glo_moved_dark T) kp_moved_dark b_moved_dark (fun σ => passAt tk σ) (pa_cons (pv 1) (pa_cons (pv 2) pa_nil)))))))) (fun a oe cls d pn hz hf => (pss_one (ps_set (i := 3) sc_l_truths.nd rfl (Or.inl rfl) (pv 4)))))
        (pss_cons (ps_if (pt_not (pt_val (pe_callB call_isKD (by rfl) (free_isinstance T) (by decide +kernel) (pa_cons (pv 3) (pa_cons (pe_bltn (v := .ty "ValueError") (by rfl) (free_ValueError T) (by decide +kernel) rfl) pa_nil))))) (pss_one (ps_ret (pe_lstK pa_nil))) pss_nil)
        (pss_cons (ps_set (i := 5) sc_l_truths.nd rfl (Or.inl rfl) (pe_lstK (pa_cons (pe_callB call_isKD (by rfl) (free_isinstance T) (by decide +kernel) (pa_cons (pv 3) (pa_cons (pe_glob (v := .ref (He.ga K "NoList")) rfl (glo_NoList T) rfl) pa_nil))) (pa_cons (pe_callB call_isKD (by rfl) (free_isinstance T) (by decide +kernel) (pa_cons (pv 3) (pa_cons (pe_glob (v := .ref (He.ga K "NoName")) rfl (glo_NoName T) rfl) pa_nil))) (pa_cons (pe_callB call_isKD (by rfl) (free_isinstance T) (by decide +kernel) (pa_cons (pv 3) (pa_cons (pe_glob (v := .ref (He.ga K "MovesBright")) rfl (glo_MovesBright T) rfl) pa_nil))) pa_nil)))))
        (C8.pss_cut (ps_if (pt_val (pe_callB call_isKD (by rfl) (free_isinstance T) (by decide +kernel) (pa_cons (pv 3) (pa_cons (pe_glob (v := .ref (He.ga K "MovesBright")) rfl (glo_MovesBright T) rfl) pa_nil)))) (pss_one (ps_set (i := 5) sc_l_truths.nd rfl (Or.inl rfl) (pe_op op_catK (pv 5) (pe_lstK (pa_cons (pe_xfK (pv 3)) (pa_cons (pe_xfK (pv 3)) pa_nil)))))) pss_nil)
        (pss_one (ps_ret (pv 5)))))))), ?_⟩
    walk_at "wks"
    refine iteV (fun _ => ?_) (fun _ => ?_)
    · walk_at "wk"
      walk_at "wk"
      refine ⟨v, u, rfl, .inl (why_ref hw (flies_of fun cls d H1 s1 hcl => ?_))⟩
      cases o with
      | noList =>
        obtain ⟨rfl, rfl⟩ := hcl
        refine ⟨exm_NoList_LampError T, fun a ha => ?_⟩
        walk_at "wks"
        intro _
        have he : upd H1 a (excO (cE K "NoList") none a) a = some (excO (cE K "NoList") none a) := upd_same
        have s2 := (Same.refl H1).new (o := excO (cE K "NoList") none a) ha
        generalize upd H1 a (excO (cE K "NoList") none a) = H2 at he s2 ⊢
        repeat (first | (refine ⟨_, _, _, _, _, _, rfl, (by walk_at "hp"), (fun dd2 e => by cases e), excC_NoList T, (fun _ h => h), is_NoList_ValueError T, ?_⟩) | (refine ⟨_, _, _, _, _, _, rfl, (by walk_at "hp"), (fun dd2 e => by cases e), excC_NoList T, (fun _ h => h), is_NoList_NoList T, ?_⟩) | (refine ⟨_, _, _, _, _, _, rfl, (by walk_at "hp"), (fun dd2 e => by cases e), excC_NoList T, (fun _ h => h), is_NoList_NoName T, ?_⟩) | (refine ⟨_, _, _, _, _, _, rfl, (by walk_at "hp"), (fun dd2 e => by cases e), excC_NoList T, (fun _ h => h), is_NoList_MovesBright T, ?_⟩) | walk_at "wk")
        rename_i p3 H3 f3 s3 h3
        refine ⟨fun σ' H' => ∃ p : Addr, σ' = [some (.int n), some (v), some (u), some (.ref a), none, some (.ref p)] ∧ Same H3 H' ∧ H' p = some (.lst Out.noList.dues), ?_, ?_⟩
        · repeat (first | (refine ⟨_, _, _, _, _, _, rfl, (by walk_at "hp"), (fun dd2 e => by cases e), excC_NoList T, (fun _ h => h), is_NoList_MovesBright T, ?_⟩) | walk_at "wk")
          exact ⟨.refl _, h3⟩
        rintro σ' H4 ⟨p4, rfl, s4, h4⟩
        walk_at "wks"
        exact k p4 H4 (((s1.trans s2).trans s3).trans s4) h4
      | noName =>
        obtain ⟨rfl, rfl⟩ := hcl
        refine ⟨exm_NoName_LampError T, fun a ha => ?_⟩
        walk_at "wks"
        intro _
        have he : upd H1 a (excO (cE K "NoName") none a) a = some (excO (cE K "NoName") none a) := upd_same
        have s2 := (Same.refl H1).new (o := excO (cE K "NoName") none a) ha
        generalize upd H1 a (excO (cE K "NoName") none a) = H2 at he s2 ⊢
        repeat (first | (refine ⟨_, _, _, _, _, _, rfl, (by walk_at "hp"), (fun dd2 e => by cases e), excC_NoName T, (fun _ h => h), is_NoName_ValueError T, ?_⟩) | (refine ⟨_, _, _, _, _, _, rfl, (by walk_at "hp"), (fun dd2 e => by cases e), excC_NoName T, (fun _ h => h), is_NoName_NoList T, ?_⟩) | (refine ⟨_, _, _, _, _, _, rfl, (by walk_at "hp"), (fun dd2 e => by cases e), excC_NoName T, (fun _ h => h), is_NoName_NoName T, ?_⟩) | (refine ⟨_, _, _, _, _, _, rfl, (by walk_at "hp"), (fun dd2 e => by cases e), excC_NoName T, (fun _ h => h), is_NoName_MovesBright T, ?_⟩) | walk_at "wk")
        rename_i p3 H3 f3 s3 h3
        refine ⟨fun σ' H' => ∃ p : Addr, σ' = [some (.int n), some (v), some (u), some (.ref a), none, some (.ref p)] ∧ Same H3 H' ∧ H' p = some (.lst Out.noName.dues), ?_, ?_⟩
        · repeat (first | (refine ⟨_, _, _, _, _, _, rfl, (by walk_at "hp"), (fun dd2 e => by cases e), excC_NoName T, (fun _ h => h), is_NoName_MovesBright T, ?_⟩) | walk_at "wk")
          exact ⟨.refl _, h3⟩
        rintro σ' H4 ⟨p4, rfl, s4, h4⟩
        walk_at "wks"
        exact k p4 H4 (((s1.trans s2).trans s3).trans s4) h4
      | moves x m =>
        obtain ⟨rfl, dd, rfl, hxd⟩ := hcl
        refine ⟨exm_MovesBright_LampError T, fun a ha => ?_⟩
        walk_at "wks"
        intro _
        have he : upd H1 a (excO (cE K "MovesBright") (some dd) a) a = some (excO (cE K "MovesBright") (some dd) a) := upd_same
        have s2 := (Same.refl H1).new (o := excO (cE K "MovesBright") (some dd) a) ha
        generalize upd H1 a (excO (cE K "MovesBright") (some dd) a) = H2 at he s2 ⊢
        have hxd2 := s2 _ _ hxd
        repeat (first | (refine ⟨_, _, _, _, _, _, rfl, (by walk_at "hp"), (fun dd2 e => ⟨_, by cases e; walk_at "hp"⟩), excC_MovesBright T, (fun _ h => h), is_MovesBright_ValueError T, ?_⟩) | (refine ⟨_, _, _, _, _, _, rfl, (by walk_at "hp"), (fun dd2 e => ⟨_, by cases e; walk_at "hp"⟩), excC_MovesBright T, (fun _ h => h), is_MovesBright_NoList T, ?_⟩) | (refine ⟨_, _, _, _, _, _, rfl, (by walk_at "hp"), (fun dd2 e => ⟨_, by cases e; walk_at "hp"⟩), excC_MovesBright T, (fun _ h => h), is_MovesBright_NoName T, ?_⟩) | (refine ⟨_, _, _, _, _, _, rfl, (by walk_at "hp"), (fun dd2 e => ⟨_, by cases e; walk_at "hp"⟩), excC_MovesBright T, (fun _ h => h), is_MovesBright_MovesBright T, ?_⟩) | walk_at "wk")
        rename_i p3 H3 f3 s3 h3
        refine ⟨fun σ' H' => ∃ p : Addr, σ' = [some (.int n), some (v), some (u), some (.ref a), none, some (.ref p)] ∧ Same H3 H' ∧ H' p = some (.lst (Out.moves x m).dues), ?_, ?_⟩
        · repeat (first | (refine ⟨_, _, _, _, _, _, rfl, (by walk_at "hp"), (fun dd2 e => ⟨_, by cases e; walk_at "hp"⟩), excC_MovesBright T, (fun _ h => h), is_MovesBright_MovesBright T, ?_⟩) | (refine ⟨_, _, _, _, _, rfl, (by walk_at "hp"), xf_MovesBright T, xn_MovesBright_lamp T, (by walk_at "hp"), (by walk_at "lk"), ?_⟩) | (refine ⟨_, _, _, _, _, rfl, (by walk_at "hp"), xf_MovesBright T, xn_MovesBright_number T, (by walk_at "hp"), (by walk_at "lk"), ?_⟩) | walk_at "wk")
          rename_i p7 H7 f7 s7 h7 p8 H8 f8 s8 h8
          exact ⟨s7.trans s8, h8⟩
        rintro σ' H4 ⟨p4, rfl, s4, h4⟩
        walk_at "wks"
        exact k p4 H4 (((s1.trans s2).trans s3).trans s4) h4
    · walk_at "wk"
      walk_at "wk"
      refine ⟨v, u, rfl, why_ref hw (flies_of fun cls d H1 s1 hcl => ?_)⟩
      cases o with
      | noList =>
        obtain ⟨rfl, rfl⟩ := hcl
        refine ⟨exm_NoList_LampError T, fun a ha => ?_⟩
        walk_at "wks"
        intro _
        have he : upd H1 a (excO (cE K "NoList") none a) a = some (excO (cE K "NoList") none a) := upd_same
        have s2 := (Same.refl H1).new (o := excO (cE K "NoList") none a) ha
        generalize upd H1 a (excO (cE K "NoList") none a) = H2 at he s2 ⊢
        repeat (first | (refine ⟨_, _, _, _, _, _, rfl, (by walk_at "hp"), (fun dd2 e => by cases e), excC_NoList T, (fun _ h => h), is_NoList_ValueError T, ?_⟩) | (refine ⟨_, _, _, _, _, _, rfl, (by walk_at "hp"), (fun dd2 e => by cases e), excC_NoList T, (fun _ h => h), is_NoList_NoList T, ?_⟩) | (refine ⟨_, _, _, _, _, _, rfl, (by walk_at "hp"), (fun dd2 e => by cases e), excC_NoList T, (fun _ h => h), is_NoList_NoName T, ?_⟩) | (refine ⟨_, _, _, _, _, _, rfl, (by walk_at "hp"), (fun dd2 e => by cases e), excC_NoList T, (fun _ h => h), is_NoList_MovesBright T, ?_⟩) | walk_at "wk")
        rename_i p3 H3 f3 s3 h3
        refine ⟨fun σ' H' => ∃ p : Addr, σ' = [some (.int n), some (v), some (u), some (.ref a), none, some (.ref p)] ∧ Same H3 H' ∧ H' p = some (.lst Out.noList.dues), ?_, ?_⟩
        · repeat (first | (refine ⟨_, _, _, _, _, _, rfl, (by walk_at "hp"), (fun dd2 e => by cases e), excC_NoList T, (fun _ h => h), is_NoList_MovesBright T, ?_⟩) | walk_at "wk")
          exact ⟨.refl _, h3⟩
        rintro σ' H4 ⟨p4, rfl, s4, h4⟩
        walk_at "wks"
        exact k p4 H4 (((s1.trans s2).trans s3).trans s4) h4
      | noName =>
        obtain ⟨rfl, rfl⟩ := hcl
        refine ⟨exm_NoName_LampError T, fun a ha => ?_⟩
        walk_at "wks"
        intro _
        have he : upd H1 a (excO (cE K "NoName") none a) a = some (excO (cE K "NoName") none a) := upd_same
        have s2 := (Same.refl H1).new (o := excO (cE K "NoName") none a) ha
        generalize upd H1 a (excO (cE K "NoName") none a) = H2 at he s2 ⊢
        repeat (first | (refine ⟨_, _, _, _, _, _, rfl, (by walk_at "hp"), (fun dd2 e => by cases e), excC_NoName T, (fun _ h => h), is_NoName_ValueError T, ?_⟩) | (refine ⟨_, _, _, _, _, _, rfl, (by walk_at "hp"), (fun dd2 e => by cases e), excC_NoName T, (fun _ h => h), is_NoName_NoList T, ?_⟩) | (refine ⟨_, _, _, _, _, _, rfl, (by walk_at "hp"), (fun dd2 e => by cases e), excC_NoName T, (fun _ h => h), is_NoName_NoName T, ?_⟩) | (refine ⟨_, _, _, _, _, _, rfl, (by walk_at "hp"), (fun dd2 e => by cases e), excC_NoName T, (fun _ h => h), is_NoName_MovesBright T, ?_⟩) | walk_at "wk")
        rename_i p3 H3 f3 s3 h3
        refine ⟨fun σ' H' => ∃ p : Addr, σ' = [some (.int n), some (v), some (u), some (.ref a), none, some (.ref p)] ∧ Same H3 H' ∧ H' p = some (.lst Out.noName.dues), ?_, ?_⟩
        · repeat (first | (refine ⟨_, _, _, _, _, _, rfl, (by walk_at "hp"), (fun dd2 e => by cases e), excC_NoName T, (fun _ h => h), is_NoName_MovesBright T, ?_⟩) | walk_at "wk")
          exact ⟨.refl _, h3⟩
        rintro σ' H4 ⟨p4, rfl, s4, h4⟩
        walk_at "wks"
        exact k p4 H4 (((s1.trans s2).trans s3).trans s4) h4
      | moves x m =>
        obtain ⟨rfl, dd, rfl, hxd⟩ := hcl
        refine ⟨exm_MovesBright_LampError T, fun a ha => ?_⟩
        walk_at "wks"
        intro _
        have he : upd H1 a (excO (cE K "MovesBright") (some dd) a) a = some (excO (cE K "MovesBright") (some dd) a) := upd_same
        have s2 := (Same.refl H1).new (o := excO (cE K "MovesBright") (some dd) a) ha
        generalize upd H1 a (excO (cE K "MovesBright") (some dd) a) = H2 at he s2 ⊢
        have hxd2 := s2 _ _ hxd
        repeat (first | (refine ⟨_, _, _, _, _, _, rfl, (by walk_at "hp"), (fun dd2 e => ⟨_, by cases e; walk_at "hp"⟩), excC_MovesBright T, (fun _ h => h), is_MovesBright_ValueError T, ?_⟩) | (refine ⟨_, _, _, _, _, _, rfl, (by walk_at "hp"), (fun dd2 e => ⟨_, by cases e; walk_at "hp"⟩), excC_MovesBright T, (fun _ h => h), is_MovesBright_NoList T, ?_⟩) | (refine ⟨_, _, _, _, _, _, rfl, (by walk_at "hp"), (fun dd2 e => ⟨_, by cases e; walk_at "hp"⟩), excC_MovesBright T, (fun _ h => h), is_MovesBright_NoName T, ?_⟩) | (refine ⟨_, _, _, _, _, _, rfl, (by walk_at "hp"), (fun dd2 e => ⟨_, by cases e; walk_at "hp"⟩), excC_MovesBright T, (fun _ h => h), is_MovesBright_MovesBright T, ?_⟩) | walk_at "wk")
        rename_i p3 H3 f3 s3 h3
        refine ⟨fun σ' H' => ∃ p : Addr, σ' = [some (.int n), some (v), some (u), some (.ref a), none, some (.ref p)] ∧ Same H3 H' ∧ H' p = some (.lst (Out.moves x m).dues), ?_, ?_⟩
        · repeat (first | (refine ⟨_, _, _, _, _, _, rfl, (by walk_at "hp"), (fun dd2 e => ⟨_, by cases e; walk_at "hp"⟩), excC_MovesBright T, (fun _ h => h), is_MovesBright_MovesBright T, ?_⟩) | (refine ⟨_, _, _, _, _, rfl, (by walk_at "hp"), xf_MovesBright T, xn_MovesBright_lamp T, (by walk_at "hp"), (by walk_at "lk"), ?_⟩) | (refine ⟨_, _, _, _, _, rfl, (by walk_at "hp"), xf_MovesBright T, xn_MovesBright_number T, (by walk_at "hp"), (by walk_at "lk"), ?_⟩) | walk_at "wk")
          rename_i p7 H7 f7 s7 h7 p8 H8 f8 s8 h8
          exact ⟨s7.trans s8, h8⟩
        rintro σ' H4 ⟨p4, rfl, s4, h4⟩
        walk_at "wks"
        exact k p4 H4 (((s1.trans s2).trans s3).trans s4) h4

def Out.dat : Out → List PyData
  | .noList => [.bool true, .bool false, .bool false]
  | .noName => [.bool false, .bool true, .bool false]
  | .moves x n => [.bool false, .bool false, .bool true, .str x, .int n]
def Out.Ok : Out → Prop
  | .moves x _ => PyData.strOk x = true
  | _ => True
theorem out_dp {K : PySem.W.Frag} {H : Hp} : ∀ o : Out, DpAll K H o.dues o.dat
  | .noList => .cons (.bl _) (.cons (.bl _) (.cons (.bl _) .nil))
  | .noName => .cons (.bl _) (.cons (.bl _) (.cons (.bl _) .nil))
  | .moves x n => .cons (.bl _) (.cons (.bl _) (.cons (.bl _) (.cons (.str _) (.cons (.int _) .nil))))
theorem out_sd : ∀ {o : Out}, o.Ok → SdAll 0 o.dat
  | .noList, _ => SdAll.cons Sd.bl (SdAll.cons Sd.bl (SdAll.cons Sd.bl SdAll.nil))
  | .noName, _ => SdAll.cons Sd.bl (SdAll.cons Sd.bl (SdAll.cons Sd.bl SdAll.nil))
  | .moves x n, h => SdAll.cons Sd.bl (SdAll.cons Sd.bl (SdAll.cons Sd.bl (SdAll.cons (Sd.str h) (SdAll.cons Sd.int SdAll.nil))))
def spBoth (K : PySem.W.Frag) : Sp := fun vs H Q _ => ∃ (v u : V) (d : Addr) (o : Out), vs = [v, u, .ref d] ∧ H d = some (.lst o.dues) ∧ o.Ok ∧ (∀ H', Same H H' → Why K H' v u o) ∧ ∀ H', Same H H' → Q (.bl true) H'
theorem ok_l_both (T : Txt K mg) : ∃ fd, FnOk P w K mg base CX0 7 (He.fAd K ("_law_both", none)) fd ["_law_cues", "_law_lamps", "_law_due"] (spBoth K) ∧ FunD K "_law_both" "_law_both" (defArgs s_l_both) (defBody s_l_both) (defScope s_l_both) [] [] (He.fAd K ("_law_both", none)) fd := by
  obtain ⟨fd, F⟩ := T.c.def_ 29 (d := d_l_both) rfl
  obtain ⟨fd_l_truths, G_l_truths, F_l_truths⟩ := ok_l_truths (P := P) (w := w) (base := base) T
  have kp_l_truths := F_l_truths.kp
  have b_l_truths : Binds K fd_l_truths ["_law_way", "_law_cues", "_law_lamps"] [] := FunD.bindsN F_l_truths (fun _ _ _ _ _ _ us hl => match us, hl with | [_, _, _], _ => rfl)
  refine ⟨fd, F.ok sc_l_both (by walk_at "g94len") (fun cdv A outer st H vs Q E hr h => ?_), F⟩
  · obtain ⟨v, u, d, o, rfl, hd, ok, hw, k⟩ := h
    refine ⟨_, PSs.nox (pss_one (ps_ret (pe_and (pe_cmpR (op_eqD hr.units) (pe_call G_l_truths (hr.mono (by decide)) rfl (glo__law_truths T) kp_l_truths b_l_truths .nil pass0 (pa_cons pe_int (pa_cons (pv 0) (pa_cons (pv 1) pa_nil)))) (pv 2) (nomark _)) (pe_one (pe_cmpR (op_eqD hr.units) (pe_call G_l_truths (hr.mono (by decide)) rfl (glo__law_truths T) kp_l_truths b_l_truths .nil pass0 (pa_cons pe_int (pa_cons (pv 0) (pa_cons (pv 1) pa_nil)))) (pv 2) (nomark _)))))), ?_⟩
    have sh : SeqAt.shaped (.list o.dat) = true := (Sd.list (out_sd ok)).sh (by decide)
    have er : PyData.eqv (.list o.dat) (.list o.dat) = true := SeqAt.eqv_refl _ (Sd.list (out_sd ok)).can
    walk_at "wks"
    refine ⟨0, v, u, o, rfl, hw _ (.refl _), fun p H1 s1 h1 => ?_⟩
    walk_at "wks"
    refine ⟨.list o.dat, .list o.dat, .lst (.of h1) (out_dp o), .lst (.of (s1 _ _ hd)) (out_dp o), sh, sh, ?_⟩
    rw [er]
    walk_at "wks"
    refine ⟨1, v, u, o, rfl, hw _ s1, fun p2 H2 s2 h2 => ?_⟩
    walk_at "wks"
    refine ⟨.list o.dat, .list o.dat, .lst (.of h2) (out_dp o), .lst (.of (s2 _ _ (s1 _ _ hd))) (out_dp o), sh, sh, ?_⟩
    rw [er]
    exact k _ (s1.trans s2)
def spLaw (K : PySem.W.Frag) : Sp := fun vs H Q _ => ∃ (a : Addr) (ns : List Int), vs = [.ref a] ∧ SqL K H a (ns.map V.int) ∧ ns.length ≤ 63 ∧ (∀ z ∈ ns, Builtin.Int.intBits z ≤ 1048576) ∧ Only H ∧ ∀ H', Q (.bl true) H'

theorem bad_ins {K : PySem.W.Frag} {H : Hp} {pl : Addr} {L M : List Nat} {v : V} {i : Int} (hL : L.length ≤ 1000) (hM : M.length ≤ 1000) (h0 : 0 ≤ i) (h1 : i < 4)
    (h : H pl = some (.lst ([V.str (SX.S L), V.str (SX.S M), V.str (SX.S L)].take i.toNat ++ [v] ++ [V.str (SX.S L), V.str (SX.S M), V.str (SX.S L)].drop i.toNat))) (hv : LampSays K H v false) : BadLamps K H (.ref pl) := by
  have hs : ∀ x ∈ [V.str (SX.S L), V.str (SX.S M), V.str (SX.S L)], ∃ b, LampSays K H x b := fun x hx => by
    simp only [List.mem_cons, List.not_mem_nil, or_false] at hx
    rcases hx with rfl | rfl | rfl
    · exact ⟨_, .inl ⟨L, rfl, hL, rfl⟩⟩
    · exact ⟨_, .inl ⟨M, rfl, hM, rfl⟩⟩
    · exact ⟨_, .inl ⟨L, rfl, hL, rfl⟩⟩
  refine .inr ⟨pl, _, i.toNat, v, rfl, h, fun x hx => ?_, ?_, hv⟩
  · rcases List.mem_append.mp hx with hx | hx
    · rcases List.mem_append.mp hx with hx | hx
      · exact hs x (List.mem_of_mem_take hx)
      · rw [List.mem_singleton.mp hx]
        exact ⟨_, hv⟩
    · exact hs x (List.mem_of_mem_drop hx)
  · rcases (by omega : i = 0 ∨ i = 1 ∨ i = 2 ∨ i = 3) with rfl | rfl | rfl | rfl <;> rfl
theorem bad_ty {K : PySem.W.Frag} {H : Hp} {v : V} {t : String} (h : TyOf K H v (.type t)) (hk : kitB t "list" = some false) : BadCues K H v := .inl ⟨_, .base h, kit_ty hk⟩
theorem mb_value {K : PySem.W.Frag} {H : Hp} {w : V} {x : Str} {n : Int} {Q : Addr → Hp → Prop} (k : ∀ (d : Addr) H' (a3 : Addr) H3, Same H H' → H' d = some (.xd [("number", .int n), ("lamp", .str x)]) → Fr H' a3 → Same H' H3 → H3 a3 = some (excO (.ref (cMB K)) (some d) a3) → Q a3 H3) :
    ∀ a, H a = none → spMB K (.ref a :: ([w, .str x, .int n] ++ [])) (upd H a (exo a (cMB K) none))
    (fun v H2 => v = .non ∧ ∃ (d : Addr) (fs : List (Str × V)), H2 a = some (exo a (cMB K) (some d)) ∧ H2 d = some (exd d fs) ∧ H d = none ∧ ∀ (a3 : Addr) (H3 : Hp), Fr (upd (del H2 a) d (.xd fs)) a3 → Same (upd (del H2 a) d (.xd fs)) H3 → H3 a3 = some (excO (.ref (cMB K)) (some d) a3) → Q a3 H3) (fun _ _ _ => False) :=
  mb_raised (E := fun cls dd H1 => ∀ (a3 : Addr) (H3 : Hp), Fr H1 a3 → Same H1 H3 → H3 a3 = some (excO cls dd a3) → Q a3 H3) fun d H' s e a3 H3 f s3 e3 => k d H' a3 H3 s e f s3 e3
theorem badcues_at {K : PySem.W.Frag} {D : Hp} {x1 x2 q1 q3 q5 q6 : Addr} {n1 n2 : Int} {l : List Nat} {w : Int} {k : Int} (h0 : 0 ≤ k) (h1 : k < 7) (ci : CuesIn K D [x1, x2] (two n1 n2 l w)) (c1 : CueAt K D x1 (n1, ⟨l, "bright", w⟩)) (lt : n1 ≤ n2)
    (z1 : D q1 = some (.tup [.ref x1, .ref x2])) (z3 : D q3 = some (.lst ([V.ref x1, V.ref x2] ++ [V.ref x1]))) (z5 : D q5 = some (.lst ([V.ref x1, V.ref x2] ++ [V.non]))) (z6 : D q6 = some (.dT [])) :
    ∃ v, atI [V.non, V.ref q1, V.ref q3, V.ref q5, V.str "", V.int 5, V.ref q6] k = some v ∧ ∀ H' : Hp, Same D H' → BadCues K H' v := by
  rcases (by omega : k = 0 ∨ k = 1 ∨ k = 2 ∨ k = 3 ∨ k = 4 ∨ k = 5 ∨ k = 6) with rfl | rfl | rfl | rfl | rfl | rfl | rfl
  · exact ⟨_, rfl, fun H _ => bad_ty .non (by decide +kernel)⟩
  · exact ⟨_, rfl, fun H s => bad_ty (.tup (s _ _ z1)) (by decide +kernel)⟩
  · exact ⟨_, rfl, fun H s => .inr ⟨q3, [x1, x2], two n1 n2 l w, .ref x1, rfl, s _ _ z3, ci.same s, .inr ⟨x1, _, rfl, c1.same s, lt⟩⟩⟩
  · exact ⟨_, rfl, fun H s => .inr ⟨q5, [x1, x2], two n1 n2 l w, .non, rfl, s _ _ z5, ci.same s, .inl rfl⟩⟩
  · exact ⟨_, rfl, fun H _ => bad_ty (.str _) (by decide +kernel)⟩
  · exact ⟨_, rfl, fun H _ => bad_ty (.int _) (by decide +kernel)⟩
  · exact ⟨_, rfl, fun H s => bad_ty (.dT (s _ _ z6)) (by decide +kernel)⟩
theorem ok_law (T : Txt K mg) : ∃ fd, FnOk P w K mg base CX0 8 (He.fAd K ("law", none)) fd ["_law_script"] (spLaw K) ∧ FunD K "law" "law" (defArgs s_law) (defBody s_law) (defScope s_law) [] [] (He.fAd K ("law", none)) fd := by
  obtain ⟨fd, F⟩ := T.c.def_ 30 (d := d_law) rfl
  obtain ⟨fd_l_cell_at, G_l_cell_at, F_l_cell_at⟩ := ok_l_cell_at (P := P) (w := w) (base := base) T
  have kp_l_cell_at := F_l_cell_at.kp
  have b_l_cell_at : Binds K fd_l_cell_at ["_law_script", "_law_k"] [] := FunD.bindsN F_l_cell_at (fun _ _ _ _ _ _ us hl => match us, hl with | [_, _], _ => rfl)
  obtain ⟨fd_l_name, G_l_name, F_l_name⟩ := ok_l_name (P := P) (w := w) (base := base) T
  have kp_l_name := F_l_name.kp
  have b_l_name : Binds K fd_l_name ["_law_number", "_law_form"] [] := FunD.bindsN F_l_name (fun _ _ _ _ _ _ us hl => match us, hl with | [_, _], _ => rfl)
  obtain ⟨fd_Part_init, G_Part_init, F_Part_init⟩ := ok_Part_init (P := P) (w := w) (base := base) T
  have kp_Part_init := F_Part_init.kp
  obtain ⟨d3_Part_init, v3_Part_init, b3_Part_init⟩ : ∃ ds, Vals ([V.int 0, V.int 0, V.int 0].drop 0) ds ∧ Binds K fd_Part_init ["self", "tells", "alone", "rise", "fall", "wait"] ds := F_Part_init.binds1 3 0 (by decide) rfl (fun _ _ _ _ _ _ _ us its h1 h2 => match us, its, h1, h2 with | [_, _, _], [_, _, _], _, _ => ⟨_, rfl, rfl⟩)
  obtain ⟨fd_MovesBright_init, G_MovesBright_init, F_MovesBright_init⟩ := ok_MovesBright_init (P := P) (w := w) (base := base) T
  have kp_MovesBright_init := F_MovesBright_init.kp
  have b_MovesBright_init : Binds K fd_MovesBright_init ["self", "words", "lamp", "number"] [] := FunD.bindsN F_MovesBright_init (fun _ _ _ _ _ _ us hl => match us, hl with | [_, _, _, _], _ => rfl)
  obtain ⟨fd_Cue_init, G_Cue_init, F_Cue_init⟩ := ok_Cue_init (P := P) (w := w) (base := base) T
  have kp_Cue_init := F_Cue_init.kp
  obtain ⟨d2_Cue_init, v2_Cue_init, b2_Cue_init⟩ : ∃ ds, Vals ([V.bl false, V.non].drop 0) ds ∧ Binds K fd_Cue_init ["self", "number", "parts", "stops", "follow"] ds := F_Cue_init.binds1 3 0 (by decide) rfl (fun _ _ _ _ _ _ _ us its h1 h2 => match us, its, h1, h2 with | [_, _, _], [_, _], _, _ => ⟨_, rfl, rfl⟩)
  obtain ⟨fd_l_drawn, G_l_drawn, F_l_drawn⟩ := ok_l_drawn (P := P) (w := w) (base := base) T
  have kp_l_drawn := F_l_drawn.kp
  have b_l_drawn : Binds K fd_l_drawn ["_law_script", "_law_k"] [] := FunD.bindsN F_l_drawn (fun _ _ _ _ _ _ us hl => match us, hl with | [_, _], _ => rfl)
  obtain ⟨fd_l_no_lamp, G_l_no_lamp, F_l_no_lamp⟩ := ok_l_no_lamp (P := P) (w := w) (base := base) T
  have kp_l_no_lamp := F_l_no_lamp.kp
  have b_l_no_lamp : Binds K fd_l_no_lamp ["_law_number"] [] := FunD.bindsN F_l_no_lamp (fun _ _ _ _ _ _ us hl => match us, hl with | [_], _ => rfl)
  obtain ⟨fd_l_both, G_l_both, F_l_both⟩ := ok_l_both (P := P) (w := w) (base := base) T
  have kp_l_both := F_l_both.kp
  have b_l_both : Binds K fd_l_both ["_law_cues", "_law_lamps", "_law_due"] [] := FunD.bindsN F_l_both (fun _ _ _ _ _ _ us hl => match us, hl with | [_, _, _], _ => rfl)
  obtain ⟨fd_wishes, G_wishes, F_wishes⟩ := ok_wishes (P := P) (w := w) (base := base) T
  have kp_wishes := F_wishes.kp
  have b_wishes : Binds K fd_wishes ["cues", "lamps"] [] := FunD.bindsN F_wishes (fun _ _ _ _ _ _ us hl => match us, hl with | [_, _], _ => rfl)
  have cl_Cue := cls_Cue T
  have na_Cue_number := na_Cue_number T
  refine ⟨fd, F.ok sc_law (by walk_at "g94len") (fun cdv A outer st H vs Q E hr h => ?_), F⟩
  · obtain ⟨a, ns, rfl, hS, hlen, hbits, hO, k⟩ := h
    refine ⟨_, PSs.nox (pss_cons (ps_set (i := 1) sc_law.nd rfl (Or.inl rfl) (pe_call G_l_cell_at (hr.mono (by decide)) rfl (glo__law_cell_at T) kp_l_cell_at b_l_cell_at .nil pass0 (pa_cons (pv 0) (pa_cons pe_int pa_nil))))
        (pss_cons (ps_set (i := 2) sc_law.nd rfl (Or.inl rfl) (pe_call G_l_name (hr.mono (by decide)) rfl (glo__law_name T) kp_l_name b_l_name .nil pass0 (pa_cons pe_int (pa_cons (pv 1) pa_nil))))
        (pss_cons (ps_set (i := 3) sc_law.nd rfl (Or.inl rfl) (pe_call G_l_name (hr.mono (by decide)) rfl (glo__law_name T) kp_l_name b_l_name .nil pass0 (pa_cons pe_int (pa_cons (pv 1) pa_nil))))
        (pss_cons (ps_set (i := 4) sc_law.nd rfl (Or.inl rfl) (pe_op op_add pe_int (pe_op op_mod (pe_call G_l_cell_at (hr.mono (by decide)) rfl (glo__law_cell_at T) kp_l_cell_at b_l_cell_at .nil pass0 (pa_cons (pv 0) (pa_cons pe_int pa_nil))) (pe_powC (v := 100000000) (by rfl) (by decide +kernel)))))
        (pss_cons (ps_set (i := 5) sc_law.nd rfl (Or.inl rfl) (pe_op op_add (pe_op op_add (pv 4) pe_int) (pe_op op_mod (pe_call G_l_cell_at (hr.mono (by decide)) rfl (glo__law_cell_at T) kp_l_cell_at b_l_cell_at .nil pass0 (pa_cons (pv 0) (pa_cons pe_int pa_nil))) (pe_powC (v := 100000000) (by rfl) (by decide +kernel)))))
        (pss_cons (ps_set (i := 6) sc_law.nd rfl (Or.inl rfl) (pe_makeK (mk_Part T) G_Part_init (hr.mono (by decide)) rfl (glo_Part T) b3_Part_init v3_Part_init pass0 (pa_cons (pe_dispT (hu_of hr) (pe_tupK (pa_cons (pv 2) (pa_cons pe_str pa_nil))) (pe_op op_add pe_int (pe_op op_mod (pe_call G_l_cell_at (hr.mono (by decide)) rfl (glo__law_cell_at T) kp_l_cell_at b_l_cell_at .nil pass0 (pa_cons (pv 0) (pa_cons pe_int pa_nil))) (pe_powC (v := 1000000000) (by rfl) (by decide +kernel))))) (pa_cons pe_dnewTK pa_nil))))
        (pss_cons (ps_set (i := 7) sc_law.nd rfl (Or.inl rfl) (pe_lstK (pa_cons (pe_makeK (mk_Cue T) G_Cue_init (hr.mono (by decide)) rfl (glo_Cue T) b2_Cue_init v2_Cue_init pass0 (pa_cons (pv 4) (pa_cons (pe_lstK (pa_cons (pv 6) pa_nil)) pa_nil))) (pa_cons (pe_makeK (mk_Cue T) G_Cue_init (hr.mono (by decide)) rfl (glo_Cue T) b2_Cue_init v2_Cue_init pass0 (pa_cons (pv 5) (pa_cons (pe_lstK (pa_cons (pe_makeK (mk_Part T) G_Part_init (hr.mono (by decide)) rfl (glo_Part T) b3_Part_init v3_Part_init pass0 (pa_cons (pe_dispT (hu_of hr) (pe_tupK (pa_cons (pv 2) (pa_cons pe_str pa_nil))) pe_int) (pa_cons pe_dnewTK pa_nil))) pa_nil)) pa_nil))) pa_nil))))
        (pss_cons (ps_set (i := 8) sc_law.nd rfl (Or.inl rfl) (pe_lstK (pa_cons pe_bl (pa_cons pe_bl (pa_cons pe_bl (pa_cons (pv 2) (pa_cons (pv 5) pa_nil)))))))
        (pss_cons (ps_for PassesOwn.never rfl (pi_range1 rfl (free_range T) (pa_cons (pe_callB (call_min2 rfl) (by rfl) (free_min T) (by decide +kernel) (pa_cons (pe_callB call_len_seq (by rfl) (free_len T) (by decide +kernel) (pa_cons (pv 0) pa_nil)) (pa_cons pe_int pa_nil))) pa_nil)) (pg_name (i := 9) sc_law.nd rfl (Or.inl rfl)) (pss_cons (ps_set (i := 10) sc_law.nd rfl (Or.inl rfl) (pe_call G_l_drawn (hr.mono (by decide)) rfl (glo__law_drawn T) kp_l_drawn b_l_drawn .nil pass0 (pa_cons (pv 0) (pa_cons (pv 9) pa_nil))))
        (pss_cons (ps_set (i := 11) sc_law.nd rfl (Or.inl rfl) (pe_lstK (pa_cons (pv 2) (pa_cons (pv 3) (pa_cons (pv 2) pa_nil)))))
        (pss_cons (ps_expr (pe_bm PySem.F.plainAttrs_list PySem.F.slot_list_insert PySem.F.type_list_insert mt_insertK (pv 11) (pa_cons (pe_op op_mod (pv 10) pe_int) (pa_cons (pe_call G_l_no_lamp (hr.mono (by decide)) rfl (glo__law_no_lamp T) kp_l_no_lamp b_l_no_lamp .nil pass0 (pa_cons (pe_op op_fdiv (pv 10) pe_int) pa_nil)) pa_nil))))
        (pss_cons (ps_if (pt_not (pt_val (pe_call G_l_both (hr.mono (by decide)) rfl (glo__law_both T) kp_l_both b_l_both .nil pass0 (pa_cons (pv 7) (pa_cons (pv 11) (pa_cons (pe_lstK (pa_cons pe_bl (pa_cons pe_bl (pa_cons pe_bl pa_nil)))) pa_nil)))))) (pss_one (ps_ret pe_bl)) pss_nil)
        (pss_cons (ps_set (i := 12) sc_law.nd rfl (Or.inl rfl) (pe_ix ix_list (pe_lstK (pa_cons pe_non (pa_cons (pe_callTy call_tupleK (by rfl) (free_tuple T) (by decide +kernel) (pa_cons (pv 7) pa_nil)) (pa_cons (pe_op op_catK (pv 7) (pe_lstK (pa_cons (pe_ix ix_list (pv 7) pe_int (fun _ _ => rfl)) pa_nil))) (pa_cons (pe_op op_catK (pv 7) (pe_lstK (pa_cons pe_non pa_nil))) (pa_cons pe_str (pa_cons pe_int (pa_cons pe_dnewTK pa_nil)))))))) (pe_op op_mod (pe_op op_fdiv (pv 10) pe_int) pe_int) (fun _ _ => rfl)))
        (pss_one (ps_if (pt_not (pt_val (pe_call G_l_both (hr.mono (by decide)) rfl (glo__law_both T) kp_l_both b_l_both .nil pass0 (pa_cons (pv 12) (pa_cons (pe_ix ix_list (pe_lstK (pa_cons (pv 11) (pa_cons (pe_lstK (pa_cons (pv 2) pa_nil)) pa_nil))) (pe_op op_mod (pv 10) pe_int) (fun _ _ => rfl)) (pa_cons (pe_lstK (pa_cons pe_bl (pa_cons pe_bl (pa_cons pe_bl pa_nil)))) pa_nil)))))) (pss_one (ps_ret pe_bl)) pss_nil))))))))
        (pss_cons (ps_for PassesOwn.never rfl (pi_list (pe_lstK (pa_cons pe_non (pa_cons (pv 2) (pa_cons (pe_tupK (pa_cons (pv 2) pa_nil)) (pa_cons pe_dnewTK (pa_cons pe_int (pa_cons pe_bl (pa_cons pe_str pa_nil))))))))) (pg_name (i := 13) sc_law.nd rfl (Or.inl rfl)) (pss_one (ps_if (pt_not (pt_val (pe_call G_l_both (hr.mono (by decide)) rfl (glo__law_both T) kp_l_both b_l_both .nil pass0 (pa_cons (pv 7) (pa_cons (pv 13) (pa_cons (pe_lstK (pa_cons pe_bl (pa_cons pe_bl (pa_cons pe_bl pa_nil)))) pa_nil)))))) (pss_one (ps_ret pe_bl)) pss_nil)))
        (pss_cons (ps_if (PW.pt (pw_or (pt_not (pt_val (pe_call G_l_both (hr.mono (by decide)) rfl (glo__law_both T) kp_l_both b_l_both .nil pass0 (pa_cons (pv 7) (pa_cons (pe_lstK (pa_cons (pv 3) (pa_cons (pv 2) (pa_cons (pv 2) pa_nil)))) (pa_cons (pv 8) pa_nil)))))) (pw_or1 (pt_not (pt_val (pe_call G_l_both (hr.mono (by decide)) rfl (glo__law_both T) kp_l_both b_l_both .nil pass0 (pa_cons (pv 7) (pa_cons (pe_lstK (pa_cons (pv 2) pa_nil)) (pa_cons (pv 8) pa_nil))))))))) (pss_one (ps_ret pe_bl)) pss_nil)
        (pss_cons (ps_set (i := 14) sc_law.nd rfl (Or.inl rfl) (pe_exV (pmk_oex (oex_MovesBright T) (ini_MovesBright T) (inf_MovesBright T) G_MovesBright_init (hr.mono (by decide)) b_MovesBright_init .nil pass0 rfl (glo_MovesBright T) (pa_cons pe_str (pa_cons pe_str (pa_cons pe_int pa_nil))))))
        (pss_cons (ps_if (PW.pt (pw_or (pt_cmpR op_ne (pe_xfK (pv 14)) pe_str (nomark _)) (pw_or1 (pt_cmpR op_ne (pe_xfK (pv 14)) pe_int (nomark _))))) (pss_one (ps_ret pe_bl)) pss_nil)
        (pss_one (ps_ret (pe_and (pe_cmpR (op_eqD hr.units) (pe_call G_wishes (hr.mono (by decide)) rfl (glo_wishes T) kp_wishes b_wishes .nil (passes_call takes0 (fun _ _ _ _ h => h)) (pa_cons (pv 7) (pa_cons (pe_lstK pa_nil) pa_nil))) (pe_lstK pa_nil) (nomark _)) (pe_and (pe_cmpR (op_eqD hr.units) (pe_call G_wishes (hr.mono (by decide)) rfl (glo_wishes T) kp_wishes b_wishes .nil (passes_call takes0 (fun _ _ _ _ h => h)) (pa_cons (pv 7) (pa_cons (pe_lstK (pa_cons (pv 3) pa_nil)) pa_nil))) (pe_lstK pa_nil) (nomark _)) (pe_one (pe_cmpR (op_eqD hr.units) (pe_call G_wishes (hr.mono (by decide)) rfl (glo_wishes T) kp_wishes b_wishes .nil (passes_call takes0 (fun _ _ _ _ h => h)) (pa_cons (pe_lstK pa_nil) (pa_cons (pe_lstK (pa_cons (pv 2) pa_nil)) pa_nil))) (pe_lstK pa_nil) (nomark _)))))))))))))))))))), ?_⟩
    clear hbits hO
    walk_at "wks"
    intro form
    repeat (first | (refine ⟨0, form, rfl, by decide, ?_⟩) | (refine ⟨1, form, rfl, by decide, ?_⟩) | walk_at "wk")
    intro c1
    walk_at "wks"
    intro c2
    walk_at "wks"
    rename_i d1 H1 f1 s1 h1 t1 H2 f2 s2 h2
    refine ⟨⟨ns, s2.seq (s1.seq hS)⟩, by decide, fun c3 => ?_⟩
    have hL := nameL_ok (n := 0) (by decide) form
    have hL1 := nameL_ok (n := 1) (by decide) form
    have hLs := nameL_str (n := 0) (by decide) form
    have hne := nameL_ne form
    walk_at "nf"
    generalize nameL 0 form = L at hL hLs hne h2 ⊢
    generalize nameL 1 form = M at hL1 hne ⊢
    obtain ⟨n1, e1, n10, n11⟩ : ∃ n1 : Int, n1 = 1 + c1 % 100000000 ∧ 1 ≤ n1 ∧ n1 ≤ 100000000 := ⟨_, rfl, by omega, by omega⟩
    obtain ⟨n2, e2, n20, n21⟩ : ∃ n2 : Int, n2 = 1 + c1 % 100000000 + 1 + c2 % 100000000 ∧ n1 < n2 ∧ n2 ≤ 200000001 := ⟨_, rfl, by omega, by omega⟩
    obtain ⟨w, e3, w0, w1⟩ : ∃ w : Int, w = 1 + c3 % 1000000000 ∧ 0 < w ∧ w ≤ 1000000000 := ⟨_, rfl, by omega, by omega⟩
    rw [← e2, ← e1]
    walk_at "wk"
    walk_at "wk"
    walk_at "wk"
    refine ⟨t1, kB L, rfl, s2 _ _ h1, h2, fun H3 m3 h3x => ?_⟩
    have h3 : H3 d1 = some (.dT [(kB L, .int w)]) := by
      rw [e3]
      exact h3x
    clear h3x
    have s3 : Same H H3 := (s1.trans s2).but m3 f1
    have hS3 := s3.seq hS
    clear h2 m3 s2 f2 h1 s1 f1
    walk_at "wks"
    rename_i al H4 f4 s4 h4
    intro xP dxP H5 f5 s5 h5
    have slB : SlotOk L "bright" := ⟨hL.1, by decide +kernel, by omega⟩
    have slR : SlotOk L "red" := ⟨hL.1, by decide +kernel, by omega⟩
    refine ⟨xP, dxP, d1, al, ⟨L, "bright", w⟩, rfl, h5, s5 _ _ (s4 _ _ h3), s5 _ _ h4, ⟨slB, w0, w1⟩, fun H6 m6 part => ⟨rfl, ?_⟩⟩
    have s6 : Same H H6 := ((s3.trans s4).trans s5).but m6 ((s3.trans s4).fresh f5)
    have hS6 := s6.seq hS
    clear hS3 h3 s4 f4 h4 s5 f5 h5 m6 s3
    walk_at "wks"
    rename_i l1 H7 f7 s7 h7
    intro x1 dx1 H8 f8 s8 h8
    refine ⟨x1, dx1, l1, xP, n1, _, rfl, h8, s8 _ _ h7, (part.same s7).same s8, n10, by omega, fun l1' H9 m9 fl e9 el9 p9 => ⟨rfl, ?_⟩⟩
    have cue1 : CueAt K H9 x1 (n1, ⟨L, "bright", w⟩) := ⟨⟨dx1, l1', xP, e9, el9, p9⟩⟩
    have s9 : Same H H9 := ((s6.trans s7).trans s8).but m9 ((s6.trans s7).fresh f8)
    clear h8 f8 m9 fl e9 el9 p9 part s7 h7 f7 s8 hS6 s6
    walk_at "wks"
    rename_i d2 G1 g1 t1 j1 t2 G2 g2 r2 j2
    refine ⟨t2, kR L, rfl, r2 _ _ j1, j2, fun G3 m3 j3 => ?_⟩
    have r3 : Same H9 G3 := (t1.trans r2).but m3 g1
    clear j2 m3 r2 g2 j1 t1 g1
    walk_at "wks"
    rename_i al2 G4 g4 r4 j4
    intro xQ dxQ G5 g5 r5 j5
    refine ⟨xQ, dxQ, d2, al2, ⟨L, "red", 5⟩, rfl, j5, r5 _ _ (r4 _ _ j3), r5 _ _ j4, ⟨slR, (by show (0 : Int) < 5; decide), (by show (5 : Int) ≤ 1000000000; decide)⟩, fun G6 m6 part2 => ⟨rfl, ?_⟩⟩
    have r6 : Same H9 G6 := ((r3.trans r4).trans r5).but m6 ((r3.trans r4).fresh g5)
    clear j3 r4 g4 j4 r5 g5 j5 m6 r3
    walk_at "wks"
    rename_i l2 G7 g7 r7 j7
    intro x2 dx2 G8 g8 r8 j8
    refine ⟨x2, dx2, l2, xQ, n2, _, rfl, j8, r8 _ _ j7, (part2.same r7).same r8, by omega, by omega, fun l2' G9 m9 fl e9 el9 p9 => ⟨rfl, ?_⟩⟩
    have r9 : Same H9 G9 := ((r6.trans r7).trans r8).but m9 ((r6.trans r7).fresh g8)
    have cue2 : CueAt K G9 x2 (n2, ⟨L, "red", 5⟩) := ⟨⟨dx2, l2', xQ, e9, el9, p9⟩⟩
    have cue1 := cue1.same r9
    have S9 := s9.trans r9
    clear j8 g8 m9 fl e9 el9 p9 part2 r7 j7 g7 r8 r6 s9 r9
    walk_at "wks"
    rename_i pc B1 b1 u1 hc1 pb B b2 u2 hb
    have hc := u2 _ _ hc1
    have SB := (S9.trans u1).trans u2
    have cue1 := cue1.same (u1.trans u2)
    have cue2 := cue2.same (u1.trans u2)
    have ci : CuesIn K B [x1, x2] (two n1 n2 L w) := ⟨.cons cue1 (.cons cue2 .nil), ⟨n10, n20, trivial⟩, Nat.le_of_ble_eq_true rfl, fun c h => by
      rcases List.mem_cons.mp h with rfl | h
      · exact ⟨slB, w0, w1⟩
      · rw [List.mem_singleton.mp h]
        exact ⟨slR, (by show (0 : Int) < 5; decide), (by show (5 : Int) ≤ 1000000000; decide)⟩⟩
    have gc : GoodCues K B (.ref pc) (two n1 n2 L w) := ⟨⟨pc, [x1, x2], rfl, hc, ci⟩⟩
    clear hc1 u1 u2 b1 b2 S9
    have hSB := SB.seq hS
    refine ⟨a, _, rfl, .inl hSB, ?_⟩
    rw [List.length_map]
    walk_at "wks"
    have hN : (if (24 : Int) < (ns.length : Int) then (24 : Int) else (ns.length : Int)).toNat ≤ 24 ∧ (if (24 : Int) < (ns.length : Int) then (24 : Int) else (ns.length : Int)).toNat ≤ ns.length := by
      split <;> omega
    refine for_range (lo := 0) (n := (if (24 : Int) < (ns.length : Int) then (24 : Int) else (ns.length : Int)).toNat) (fun i σ' H' => ∃ v1 v2 v3 v4 : Option V, σ' = [some (.ref a), some (.int form), some (.str (SX.S L)), some (.str (SX.S M)), some (.int n1), some (.int n2), some (.ref xP), some (.ref pc), some (.ref pb), v1, v2, v3, v4, none, none] ∧ Same B H') ⟨_, _, _, _, rfl, .refl _⟩ ?_ ?_
    · rintro i σ' C hi ⟨v1, v2, v3, v4, rfl, sC⟩
      have hi2 : i < 24 ∧ i < ns.length := ⟨Nat.lt_of_lt_of_le hi hN.1, Nat.lt_of_lt_of_le hi hN.2⟩
      have hSC := sC.seq hSB
      walk_at "wks"
      intro r r0
      walk_at "wks"
      rename_i pl C1 g1 t1 e1
      intro v C2 t2 says
      refine ⟨pl, _, r % 4, v, rfl, rfl, t2 _ _ e1, szlt (Nat.le_of_ble_eq_true rfl), ⟨by omega, by omega⟩, fun C3 m3 e3 => ?_⟩
      have T3 : Same C C3 := (t1.trans t2).but m3 g1
      have bad : ∀ H', Same C3 H' → BadLamps K H' (.ref pl) := fun H' s => bad_ins (L := L) (M := M) (v := v) (i := r % 4) (by omega) (by omega) (by omega) (by omega) (s _ _ e3) (says H' fun b o nb e => s _ _ (m3 _ _ (fun z => by rw [z, e1] at nb; cases nb) e))
      have e3' : ∃ xs, C3 pl = some (.lst xs) := ⟨_, e3⟩
      clear says m3 e1 t1 t2 g1 e3
      walk_at "wks"
      rename_i pd C4 g4 t4 e4
      refine ⟨.ref pc, .ref pl, pd, .noName, rfl, e4, trivial, fun H' s => ⟨_, gc.same (((sC.trans T3).trans t4).trans s), fun H'' s' => bad _ ((t4.trans s).trans s')⟩, fun C5 t5 => ?_⟩
      have S5 : Same B C5 := ((sC.trans T3).trans t4).trans t5
      have hc5 := S5 _ _ hc
      obtain ⟨xl, e3'⟩ := e3'
      have e5 := t5 _ _ (t4 _ _ e3')
      clear e3' bad e4 t4 g4 t5
      walk_at "wks"
      rename_i q1 D1 g1 t1 y1 q2 D2 g2 t2 y2 q3 D3 g3 t3 y3 q4 D4 g4 t4 y4 q5 D5 g5 t5 y5 q6 D6 g6 t6 y6 q7 D7 g7 t7 y7
      have S7 : Same B D7 := ((((((S5.trans t1).trans t2).trans t3).trans t4).trans t5).trans t6).trans t7
      have e7 := t7 _ _ (t6 _ _ (t5 _ _ (t4 _ _ (t3 _ _ (t2 _ _ (t1 _ _ e5))))))
      have z1 := t7 _ _ (t6 _ _ (t5 _ _ (t4 _ _ (t3 _ _ (t2 _ _ y1)))))
      have z3 := t7 _ _ (t6 _ _ (t5 _ _ (t4 _ _ y3)))
      have z5 := t7 _ _ (t6 _ _ y5)
      have z6 := t7 _ _ y6
      obtain ⟨vv, hvv, badc⟩ := badcues_at (k := r / 44 % 7) (by omega) (by omega) (ci.same S7) (cue1.same S7) (Int.le_of_lt n20) z1 z3 z5 z6
      clear z1 z3 z5 z6 t1 t2 t3 t4 t5 t6 t7 y1 y2 y3 y4 y5 y6 g1 g2 g3 g4 g5 g6 g7
      refine ⟨q7, _, _, vv, rfl, rfl, .of y7, hvv, ?_⟩
      walk_at "wks"
      rename_i p8 D8 g8 t8 y8 p9 D9 g9 t9 y9
      obtain ⟨uu, huu⟩ : ∃ uu, atI [V.ref pl, V.ref p8] (r % 2) = some uu := by
        rcases (by omega : r % 2 = 0 ∨ r % 2 = 1) with e | e <;> rw [e] <;> exact ⟨_, rfl⟩
      refine ⟨p9, _, _, uu, rfl, rfl, .of y9, huu, ?_⟩
      walk_at "wks"
      rename_i pd2 D10 g10 t10 y10
      refine ⟨vv, uu, pd2, .noList, rfl, y10, trivial, fun H' s => badc _ (((t8.trans t9).trans t10).trans s), fun C6 t11 => ?_⟩
      walk_at "wks"
      exact (((S7.trans t8).trans t9).trans t10).trans t11
    · rintro σ' C ⟨v1, v2, v3, v4, rfl, sC⟩
      walk_at "wks"
      rename_i q1 D1 g1 t1 y1 q2 D2 g2 t2 y2 q3 D3 g3 t3 y3
      have S3 : Same B D3 := ((sC.trans t1).trans t2).trans t3
      have z1 := t3 _ _ (t2 _ _ y1)
      have z2 := t3 _ _ y2
      clear t1 t2 t3 y1 y2 g1 g2 g3 sC
      refine ⟨⟨_, .of y3⟩, for_list (K := K) (a := q3) (xs := [V.non, V.str (SX.S L), V.ref q1, V.ref q2, V.int 5, V.bl true, V.str ""]) (fun i σ' H' => ∃ v5 : Option V, σ' = [some (.ref a), some (.int form), some (.str (SX.S L)), some (.str (SX.S M)), some (.int n1), some (.int n2), some (.ref xP), some (.ref pc), some (.ref pb), v1, v2, v3, v4, v5, none] ∧ Same D3 H') ⟨_, rfl, .refl _⟩ (fun i σ' H' _ ⟨_, _, s⟩ => .of (s _ _ y3)) ?_ ?_⟩
      · rintro i y σ' E1 hi ⟨v5, rfl, sE⟩
        have bad : ∀ H', Same E1 H' → BadLamps K H' y := fun H' s => by
          have hy := List.mem_of_getElem? hi
          simp only [List.mem_cons, List.not_mem_nil, or_false] at hy
          have a1 := s _ _ (sE _ _ z1)
          have a2 := s _ _ (sE _ _ z2)
          rcases hy with rfl | rfl | rfl | rfl | rfl | rfl | rfl
          · exact .inl ⟨_, .base .non, kit_ty (by decide +kernel)⟩
          · exact .inl ⟨_, .base (.str _), kit_ty (by decide +kernel)⟩
          · exact .inl ⟨_, .base (.tup a1), kit_ty (by decide +kernel)⟩
          · exact .inl ⟨_, .base (.dT a2), kit_ty (by decide +kernel)⟩
          · exact .inl ⟨_, .base (.int _), kit_ty (by decide +kernel)⟩
          · exact .inl ⟨_, .base (.bl _), kit_ty (by decide +kernel)⟩
          · exact .inl ⟨_, .base (.str _), kit_ty (by decide +kernel)⟩
        walk_at "wks"
        rename_i pd C4 g4 t4 e4
        refine ⟨.ref pc, y, pd, .noName, rfl, e4, trivial, fun H' s => ⟨_, gc.same (((S3.trans sE).trans t4).trans s), fun H'' s' => bad _ ((t4.trans s).trans s')⟩, fun C5 t5 => ?_⟩
        walk_at "wks"
        exact (sE.trans t4).trans t5
      · rintro σ' E1 ⟨v5, rfl, sE⟩
        have SE : Same B E1 := S3.trans sE
        walk_at "wks"
        rename_i p H2 f2 s2 h2
        have gl : ∀ z ∈ [SX.S M, SX.S L, SX.S L], LampS z := fun z hz => by
          simp only [List.mem_cons, List.not_mem_nil, or_false] at hz
          rcases hz with rfl | rfl | rfl
          · exact ⟨M, rfl, hL1.1, by omega⟩
          · exact ⟨L, rfl, hL.1, by omega⟩
          · exact ⟨L, rfl, hL.1, by omega⟩
        refine ⟨.ref pc, .ref p, pb, .moves (SX.S L) n2, rfl, s2 _ _ (SE _ _ hb), hLs, fun H' s => ⟨n1, n2, L, w, [SX.S M, SX.S L, SX.S L], n20, gc.same ((SE.trans s2).trans s), ⟨⟨p, rfl, s _ _ h2⟩, Nat.le_of_ble_eq_true rfl, gl⟩, .tail _ (.head _), rfl, rfl⟩, fun H3 s3 => ?_⟩
        have S3' : Same B H3 := (SE.trans s2).trans s3
        clear s2 h2 f2 s3
        walk_at "wks"
        rename_i p H2 f2 s2 h2
        refine ⟨.ref pc, .ref p, pb, .moves (SX.S L) n2, rfl, s2 _ _ (S3' _ _ hb), hLs, fun H' s => ⟨n1, n2, L, w, [SX.S L], n20, gc.same ((S3'.trans s2).trans s), ⟨⟨p, rfl, s _ _ h2⟩, Nat.le_of_ble_eq_true rfl, fun z hz => gl z (.tail _ (by rw [List.mem_singleton.mp hz]; exact .head _))⟩, .head _, rfl, rfl⟩, fun H4 s4 => ?_⟩
        have S4 : Same B H4 := (S3'.trans s2).trans s4
        clear s2 h2 f2 s4
        walk_at "wks"
        refine ⟨Nat.le_of_ble_eq_true rfl, mb_value fun d H5 ax H6 s5 e5 f6 s6 e6 => ?_⟩
        have e56 := s6 _ _ e5
        have S6 : Same B H6 := (S4.trans s5).trans s6
        clear s5 e5 f6 s6
        repeat (first | (refine ⟨_, _, _, _, _, rfl, (by walk_at "hp"), xf_MovesBright T, xn_MovesBright_lamp T, (by walk_at "hp"), (by walk_at "lk"), ?_⟩) | (refine ⟨_, _, _, _, _, rfl, (by walk_at "hp"), xf_MovesBright T, xn_MovesBright_number T, (by walk_at "hp"), (by walk_at "lk"), ?_⟩) | walk_at "wk")
        rename_i r2 R2 fr2 sr2 hr2
        have Sr : Same B R2 := S6.trans sr2
        clear e6 e56 S6 sr2 fr2 S4
        refine .inr ⟨two n1 n2 L w, [], gc.same Sr, ⟨⟨r2, rfl, hr2⟩, Nat.zero_le _, fun _ z => nomatch z⟩, (fun _ z => nomatch z), fun p1 R3 s3 h3 => ?_⟩
        have Sr3 : Same B R3 := Sr.trans s3
        clear s3 Sr hr2
        walk_at "wks"
        rename_i p2 R4 f4 s4 h4
        refine ⟨.list [], .list [], .lst (.of (s4 _ _ h3)) .nil, .lst (.of h4) .nil, rfl, rfl, ?_⟩
        rw [show PyData.eqv (.list []) (.list []) = true from rfl]
        have Sr4 : Same B R4 := Sr3.trans s4
        clear s4 h4 f4 h3 Sr3
        walk_at "wks"
        rename_i r5 R5 f5 s5 h5
        have Sr5 : Same B R5 := Sr4.trans s5
        refine .inr ⟨two n1 n2 L w, [SX.S M], gc.same Sr5, ⟨⟨r5, rfl, h5⟩, Nat.le_of_ble_eq_true rfl, fun z hz => gl z (by rw [List.mem_singleton.mp hz]; exact .head _)⟩, (fun z hz => by rw [List.mem_singleton.mp hz]; exact dark_two n20 hne.symm), fun p6 R6 s6 h6 => ?_⟩
        have Sr6 : Same B R6 := Sr5.trans s6
        clear Sr4 s5 f5 h5 Sr5 s6
        walk_at "wks"
        rename_i p7 R7 f7 s7 h7
        refine ⟨.list [], .list [], .lst (.of (s7 _ _ h6)) .nil, .lst (.of h7) .nil, rfl, rfl, ?_⟩
        rw [show PyData.eqv (.list []) (.list []) = true from rfl]
        clear h6 h7 f7 s7
        walk_at "wks"
        rename_i p8 R8 f8 s8 h8 p9 R9 f9 s9 h9
        refine .inr ⟨[], [SX.S L], ⟨⟨p8, [], rfl, s9 _ _ h8, ⟨.nil, trivial, Nat.zero_le _, fun _ z => nomatch z⟩⟩⟩, ⟨⟨p9, rfl, h9⟩, Nat.le_of_ble_eq_true rfl, fun z hz => gl z (.tail _ (by rw [List.mem_singleton.mp hz]; exact .head _))⟩, (fun _ _ _ z => nomatch z), fun p10 R10 s10 h10 => ?_⟩
        clear h8 h9 f9 f8 s8 s9
        walk_at "wks"
        rename_i p11 R11 f11 s11 h11
        refine ⟨.list [], .list [], .lst (.of (s11 _ _ h10)) .nil, .lst (.of h11) .nil, rfl, rfl, ?_⟩
        rw [show PyData.eqv (.list []) (.list []) = true from rfl]
        exact k _
theorem law_facts {fa : Addr} (T : Txt K mg) (hfa : mg "law" = some (.ref fa)) :
    ∃ fd : FuncData, (∀ (s : Shared) (v : Value), BindsTo s fd ⟨[v], []⟩ [("_law_script", v)]) ∧ ∀ base : Heap, K.In base → base.Ns mainGlobals mg → FnOk P w K mg base CX0 8 fa fd ["_law_script"] (spLaw K) := by
  have e := hfa.symm.trans (glo_law T)
  cases e
  obtain ⟨fd, _, F⟩ := ok_law (P := P) (w := w) (base := default) T
  refine ⟨fd, fun s v => FunD.bindsA (ps := ["_law_script"]) F (fun _ _ _ _ _ _ us hl => match us, hl with | [_], _ => rfl) s [v] rfl, fun base _ _ => ?_⟩
  obtain ⟨fd', G, F'⟩ := ok_law (P := P) (w := w) (base := base) T
  have q : fd' = fd := F'.fd_eq F
  rw [← q]
  exact G


end

abbrev R : PySem.W.OpenRow := PySem.W.OpenLaw.row PySem.Challenge.rw_lampcues_k83_refused_lamps
abbrev hk : PySem.W.Hook := L2.hookZ 6 fa fn exB
def ob (s : PySem.W.SharedT) : He.AlD × Bool := L2.obsZ 6 fa fn exB (HandSHeadRun.getT s)
theorem ob_eq (s : PySem.W.SharedT) : ob s = hk.obs s.abs := L2.obsZ_eq (HandSHeadRun.getT_eq s)
def loose0 : List PySem.Str := ["_wall", "LampError", "NoTime", "NoSlot", "NoWorth", "NoPart", "NoCue", "NoList", "NoName", "MovesBright", "MOST_times", "is_time", "LETTERS", "SIDES", "MOST_cues", "is_amid", "is_lamp", "is_slot", "is_worth", "look_at_slots", "look_at_worths", "Part", "are_parts", "Cue", "cue_list", "good_number", "put_in_look", "cue_at", "carried", "shown"]
def loose1 : List PySem.Str := ["comes_sooner", "ways", "tolls", "stretches", "place_of", "made", "showing", "lamps_of", "is_dark", "stance", "lamp_wishes", "wishes", "marks", "served", "stances", "restood", "moved_dark", "_law_cell_at", "_law_drawn", "_law_name", "_law_no_lamp", "_law_truths", "_law_both"]
def loose : List PySem.Str := loose0 ++ loose1
theorem run (w : World) : HandSHeadRun.RunEq R (PySem.W.view R.prog [60]) hk ob 12000 loose w := by
  intro os
  kernel_rfl
end G94
open PySem PySem.W PySem.Calls PyProof.Rows
theorem PySem.Challenge.cw_lampcues_k83_refused_lamps_holds : PySem.Challenge.rw_lampcues_k83_refused_lamps.Holds := by
  w_on; o_law
  refine HandSHeadRun.head_any (r := OpenLaw.row PySem.Challenge.rw_lampcues_k83_refused_lamps) (q := view (OpenLaw.row PySem.Challenge.rw_lampcues_k83_refused_lamps).prog [60]) (H := G94.hk) (ob := G94.ob) (M := 12000) (loose := G94.loose) (d := HandSHeadRun.topDef (OpenLaw.row PySem.Challenge.rw_lampcues_k83_refused_lamps).prog 60) (kwd := []) G94.ob_eq
    (by kernel_rfl) (fun s => by kernel_rfl) G94.run (by kernel_rfl) (by kernel_rfl) (by kernel_rfl) (by rfl) (by first | assumption | decide +kernel) (by decide +kernel) ⟨rfl, rfl, rfl, rfl, rfl, by decide +kernel⟩ ?hw ?hc
  case hw => w_witness2
  case hc =>
    refine L2.walk_ofEB (l := PySem.Challenge.rw_lampcues_k83_refused_lamps) (n := 63) (k := 8) (x := "_law_script") (CX := L2.CX0) rfl (by decide) (by kernel_rfl) ⟨rfl, by decide, by decide⟩ ?F (fun _ _ _ _ z => z)
    intro w mg fa h Y G hmg0
    obtain ⟨K, KX, c, cx⟩ := Y
    have hmg : mg ("law" : PySem.Str) = some (.ref fa) := by
      have e : (HandSHeadRun.topDef (OpenLaw.row PySem.Challenge.rw_lampcues_k83_refused_lamps).prog 60).name = ("law" : PySem.Str) := by kernel_rfl
      rw [← e]
      exact hmg0
    obtain ⟨fd, hb, hF⟩ := G94.law_facts (P := (PySem.Challenge.rw_lampcues_k83_refused_lamps).prog) (w := w) ⟨c, ⟨h, KX, G⟩, cx⟩ hmg
    exact ⟨K, fd, G94.spLaw K, KX, hb, fun H a ns hl hb hH hS => ⟨a, ns, rfl, hS, hl, hb, hH, fun _ => rfl⟩, hF⟩
