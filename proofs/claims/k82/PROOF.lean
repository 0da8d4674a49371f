import PyProof.Rows.All
import Wide.All
import OpenK.AllK
import Wide.FinOn
import KE.KStateDown
import HandS.ForMost
import HandS.Exc
import HandS.TryOnly
import HandS.ExcOwn
import HandS.WordsExc
import HandS.Defaults
import HandS.Wide
import HandS.IsInst
import HandS.ExcIs
import HandS.EndBits
import HandS.TupLe
import HandS.Rev
import HandS.Codes
import HandS.MakeKw
import HandS.StrMore
import HandS.Head0
import HandS.Head1
import HandS.Head2
import HandS.HeadEnd
import HandS.HeadHook1
import HandS.HeadHook2
import HandS.More
import HandS.Lambda
import HandS.HeadHook3
import HandS.HeadHook4
import HandS.HeadWalk
import HandS.CallRecv
import HandS.EndTab
import KE.SortKeyHeap
import KE.SortData
import HandS.SortKw
import HandS.Style
import PySem.Challenge.RW_lampcues_k82_marks
set_option pp.maxSteps 900
set_option Elab.async false
set_option linter.all false
set_option maxRecDepth 100000
set_option maxHeartbeats 4000000
namespace L2
open PySem PySem.Spec PyProof.Rows
/-! ### own rules, own words -/
/-- a law's end by facts, with the script's bits and the only tracked thing told -/
theorem walk_ofEB {l : PySem.W.OpenLaw} {n k : Nat} {q : Program} {loose : List Str} {XP : (Str → Option Value) → Heap → Prop} {YP : World → Heap → Prop} {d : DefRec} {CX : CXT} {x : Str}
    (hn : l.most = some n) (hn2 : n ≤ sizeLine) (hdf : d.params.defaults = []) (hr : Room k callerA)
    (F : ∀ (w : World) (mg : Str → Option Value) (fa : Addr) (h : Heap), YP w h → h.Ns mainGlobals mg → mg d.name = some (.ref fa) →
      ∃ (K : PySem.W.Frag) (fd : FuncData) (sp : Sp), K.In h ∧ (∀ (s : Shared) (u : Value), BindsTo s fd ⟨[u], []⟩ [(x, u)]) ∧
        (∀ (H : Hp) (a : Addr) (ns : List Int), ns.length ≤ n → (∀ z ∈ ns, Builtin.Int.intBits z ≤ 1048576) → Only H → SqL K H a (ns.map V.int) → sp [.ref a] H (fun v _ => v = .bl true) fun _ _ _ => False) ∧
        ∀ base : Heap, K.In base → base.Ns mainGlobals mg → FnOk l.prog w K mg base CX k fa fd [x] sp)
    (hCX : ∀ (H : Hp) (s : Shared) (e : Value) (s' : Shared), CX [] H s (fun _ _ _ => False) e s' → False) :
    PySem.W.WalkO q loose XP YP l.row.toRowW d [] (fun f vs => PySem.call f vs) := by
  refine Att.attach_callB hn hdf fun w s₀ s₁ mg mb fa o pm cd doc a vs ns G Y ho hd hcd hmg hobj hints hlen hbits hg => ?_
  obtain ⟨K, fd, sp, KX, hb, hsp, hF⟩ := F w mg fa _ Y G.T.g hmg
  exact law_call KX G.T.g G.T.b G.T.builtins G.T.nolimit hg hobj hints (Nat.le_trans hlen hn2) hr hF hb (fun H hO hS => hsp H a ns hlen hbits hO hS) fun H e s' => hCX H s₁ e s'
section
variable {X : Cx}
/-- a written power -/
theorem pe_powC {i j v : Int} {a b : Nat} {p1 p2 pos : Pos} (e : i ^ j.toNat = v) (h : 0 ≤ j ∧ j ≤ 1000000 ∧ i.natAbs < 2 ^ 64) : PE X (.BinOp (.Constant (.int i) a p1) .Pow (.Constant (.int j) b p2) pos) (tC (.int v)) := by
  subst e
  refine ⟨fun pins s σ H Q I q => ?_⟩
  exact (pe_op (X := X) op_pow pe_int pe_int).run pins s σ H Q I ⟨i, j, rfl, rfl, h, q⟩
/-- a written negative number -/
theorem pe_negC {i : Int} {a : Nat} {p1 pos : Pos} : PE X (.UnaryOp .USub (.Constant (.int i) a p1) pos) (tC (.int (-i))) := by
  refine ⟨fun pins s σ H Q I q => ?_⟩
  exact (pe_un (X := X) un_neg pe_int).run pins s σ H Q I ⟨i, rfl, q⟩
end
theorem iteD {c A B : Prop} [Decidable c] (h1 : c → A) (h2 : ¬ c → B) : if decide c = true then A else B := by
  by_cases h : c
  · rw [if_pos (decide_eq_true h)]
    exact h1 h
  · rw [if_neg (by rw [decide_eq_false h]; exact Bool.false_ne_true)]
    exact h2 h
theorem iteND {c A B : Prop} [Decidable c] (h1 : ¬ c → A) (h2 : c → B) : if (!decide c) = true then A else B := by
  by_cases h : c
  · rw [decide_eq_true h]
    exact iteF (h2 h)
  · rw [decide_eq_false h]
    exact iteT (h1 h)
theorem iteV {a b : Int} {A B : Prop} (h1 : a = b → A) (h2 : a ≠ b → B) : if decide (V.int a = V.int b) = true then A else B :=
  iteD (fun e => h1 (V.int.inj e)) fun e => h2 fun q => e (congrArg V.int q)
theorem iteNV {a b : Int} {A B : Prop} (h1 : a ≠ b → A) (h2 : a = b → B) : if (!decide (V.int a = V.int b)) = true then A else B :=
  iteND (fun e => h1 fun q => e (congrArg V.int q)) fun e => h2 (V.int.inj e)
theorem iteB {b : Bool} {A B : Prop} (h1 : b = true → A) (h2 : b = false → B) : if b = true then A else B := by
  cases b with
  | true => exact iteT (h1 rfl)
  | false => exact iteF (h2 rfl)
theorem iteDT {c A B : Prop} [Decidable c] (h : c) (h1 : A) : if decide c = true then A else B := iteD (fun _ => h1) fun q => absurd h q
theorem iteDF {c A B : Prop} [Decidable c] (h : ¬ c) (h1 : B) : if decide c = true then A else B := iteD (fun q => absurd q h) fun _ => h1
theorem iteVT {a b : Int} {A B : Prop} (h : a = b) (h1 : A) : if decide (V.int a = V.int b) = true then A else B := iteV (fun _ => h1) fun q => absurd h q
theorem iteVF {a b : Int} {A B : Prop} (h : a ≠ b) (h1 : B) : if decide (V.int a = V.int b) = true then A else B := iteV (fun q => absurd q h) fun _ => h1
theorem iteNVF {a b : Int} {A B : Prop} (h : a = b) (h1 : B) : if (!decide (V.int a = V.int b)) = true then A else B := iteNV (fun q => absurd h q) fun _ => h1
theorem yes_lc {σ : St} {H : Hp} {A B : Hp → Prop} (h : A H) : tYes σ H (fun b H3 => if b = true then A H3 else B H3) := by
  show if true = true then A H else B H
  rw [if_pos rfl]
  exact h
theorem qT {Q : VK} {H : Hp} {c : Prop} [Decidable c] (h : c) (k : Q (.bl true) H) : Q (.bl (decide c)) H := by
  rw [decide_eq_true h]
  exact k
theorem qF {Q : VK} {H : Hp} {c : Prop} [Decidable c] (h : ¬ c) (k : Q (.bl false) H) : Q (.bl (decide c)) H := by
  rw [decide_eq_false h]
  exact k
theorem iteS {a b : List Nat} {z : Str} {A B : Prop} (e : z = SX.S b) (h1 : a = b → A) (h2 : a ≠ b → B) : if decide (V.str (SX.S a) = V.str z) = true then A else B := by
  subst e
  exact iteD (fun q => h1 (SX.S_inj (V.str.inj q))) fun q => h2 fun r => q (congrArg (fun l => V.str (SX.S l)) r)
theorem iteNSt {a b : List Nat} {z : Str} {A B : Prop} (e : z = SX.S b) (h1 : a ≠ b → A) (h2 : a = b → B) : if (!decide (V.str (SX.S a) = V.str z)) = true then A else B := by
  subst e
  exact iteND (fun q => h1 fun r => q (congrArg (fun l => V.str (SX.S l)) r)) fun q => h2 (SX.S_inj (V.str.inj q))
theorem cut_ints (ns : List Int) (lo hi : Option Int) : ∃ ms : List Int, cutV (ns.map V.int) lo hi = ms.map V.int ∧ ms.length ≤ ns.length ∧ ∀ z ∈ ms, z ∈ ns := by
  refine ⟨(ns.drop (HT.sIx (ns.map V.int).length 0 lo)).take (HT.sIx (ns.map V.int).length (ns.map V.int).length hi - HT.sIx (ns.map V.int).length 0 lo), ?_, ?_, ?_⟩
  · unfold cutV
    rw [List.map_take, List.map_drop]
  · rw [List.length_take, List.length_drop]
    omega
  · intro z hz
    exact List.mem_of_mem_drop (List.mem_of_mem_take hz)
theorem int_at {ns : List Int} {i : Nat} {y : V} (h : (ns.map V.int)[i]? = some y) : ∃ z, y = V.int z ∧ ns[i]? = some z ∧ i < ns.length := by
  rw [List.getElem?_map] at h
  cases e : ns[i]? with
  | none =>
    rw [e] at h
    cases h
  | some z =>
    rw [e] at h
    exact ⟨z, (Option.some.inj h).symm, rfl, (List.getElem?_eq_some_iff.mp e).1⟩
theorem atI_lt {xs : List V} {k : Int} (h0 : 0 ≤ k) (h1 : k < xs.length) : ∃ v, atI xs k = some v ∧ xs[k.toNat]? = some v := by
  have hl : k.toNat < xs.length := by omega
  refine ⟨xs[k.toNat], ?_, List.getElem?_eq_getElem hl⟩
  obtain ⟨n, rfl⟩ : ∃ n : Nat, k = n := ⟨k.toNat, by omega⟩
  exact atI_nat (List.getElem?_eq_getElem hl)
theorem at2 {a b k : Int} (h0 : 0 ≤ k) (h1 : k < 2) : ∃ v, atI [V.int a, V.int b] k = some (V.int v) ∧ ((k = 0 ∧ v = a) ∨ (k = 1 ∧ v = b)) := by
  rcases (by omega : k = 0 ∨ k = 1) with rfl | rfl
  · exact ⟨a, rfl, .inl ⟨rfl, rfl⟩⟩
  · exact ⟨b, rfl, .inr ⟨rfl, rfl⟩⟩
theorem at3 {a b c k : Int} (h0 : 0 ≤ k) (h1 : k < 3) : ∃ v, atI [V.int a, V.int b, V.int c] k = some (V.int v) ∧ ((k = 0 ∧ v = a) ∨ (k = 1 ∧ v = b) ∨ (k = 2 ∧ v = c)) := by
  rcases (by omega : k = 0 ∨ k = 1 ∨ k = 2) with rfl | rfl | rfl
  · exact ⟨a, rfl, .inl ⟨rfl, rfl⟩⟩
  · exact ⟨b, rfl, .inr (.inl ⟨rfl, rfl⟩)⟩
  · exact ⟨c, rfl, .inr (.inr ⟨rfl, rfl⟩)⟩
/-- a call that writes all parameters, the last ones by name -/
theorem kb_all {K : PySem.W.Frag} {x qual : Str} {params : Arguments} {body : List Stmt} {scope : Scope} {dvs : List V} {kws : List (Str × V)} {f : Addr} {fd : FuncData} {ps : List Str} (F : FunD K x qual params body scope dvs kws f fd) (n : Nat) (ks : List Str) (hd : dvs ≠ [])
    (h : ∀ (T : Addr) (kV doc pm : Value) (an : Option Addr) (cdv ct : Value) (us its ws : List Value), us.length = n → its.length = dvs.length → ws.length = ks.length →
      ∃ k, bindArgs (PySem.W.fnOf x qual params body scope (.ref T) kV doc pm an cdv ct) ⟨us, ks.zip ws⟩ = seqItems? (.ref T) >>= k ∧ k (some its.toArray) = pure (ps.zip (us ++ ws))) : KBn K fd ps n ks (fun us ws => us ++ ws) (fun vs zs => vs ++ zs) := by
  obtain ⟨oc, od, dV, kV, doc, pm, an, cdv, ct, osl, rfl, lk, hcd, hD, _⟩ := F.ex
  rcases hD with ⟨e, _⟩ | ⟨_, T, o, its, m, rfl, lT, oT, rT⟩
  · exact absurd e hd
  · refine ⟨fun s us ws X h1 h2 => ?_, fun r1 r2 => r1.append r2⟩
    obtain ⟨k, e1, e2⟩ := h T kV doc pm an cdv ct us its ws h1 rT.length.symm h2
    refine BindsTo.of_looks fun M => ?_
    rw [e1]
    exact looks_items X lT oT (.of_pure e2)
theorem FunD.fd_eq {K : PySem.W.Frag} {x qual : Str} {params : Arguments} {body : List Stmt} {scope : Scope} {dvs : List V} {kws : List (Str × V)} {f : Addr} {fd fd' : FuncData} (F : FunD K x qual params body scope dvs kws f fd) (F' : FunD K x qual params body scope dvs kws f fd') : fd = fd' := by
  obtain ⟨_, _, _, _, _, _, _, _, _, _, _, l, _⟩ := F.ex
  obtain ⟨_, _, _, _, _, _, _, _, _, _, _, l', _⟩ := F'.ex
  rw [l] at l'
  simp only [Option.some.injEq, Obj.mk.injEq, Data.func.injEq] at l'
  exact l'.2.2.1
theorem at4 {a b c d k : Int} (h0 : 0 ≤ k) (h1 : k < 4) : ∃ v, atI ([a, b, c, d].map V.int) k = some (V.int v) := by
  rcases (by omega : k = 0 ∨ k = 1 ∨ k = 2 ∨ k = 3) with rfl | rfl | rfl | rfl
  · exact ⟨a, rfl⟩
  · exact ⟨b, rfl⟩
  · exact ⟨c, rfl⟩
  · exact ⟨d, rfl⟩
theorem ints_last {es : List Int} {v : Int} (h : es.getLast? = some v) : atI (es.map V.int) (-1) = some (V.int v) := by
  obtain ⟨r, e⟩ := List.getLast?_eq_some_iff.mp h
  rw [e, List.map_append]
  exact atI_last _ _
/-- a loop over the signs of a text -/
theorem for_text {l : List Nat} {g : TG} {tb : TS} {D : Ends} {σ : St} {H : Hp} (Pv : Nat → St → Hp → Prop) (h0 : Pv 0 σ H)
    (hs : ∀ (i : Nat) (c : Nat) (σ : St) (H : Hp), l[i]? = some c → Pv i σ H → g (.str ⟨#[c]⟩) σ H (fun σ2 H2 => tb { D with nx := Pv (i + 1), ct := Pv (i + 1), bk := D.nx } σ2 H2))
    (hd : ∀ σ H, Pv l.length σ H → D.nx σ H) :
    ∃ W : Nat → Nat → St → Hp → Prop, (∃ m, W 0 m σ H) ∧ ∀ i m σ H, W i m σ H → ((Its (SX.S l)).stop i H ∧ D.nx σ H) ∨
      ((Its (SX.S l)).go i H ∧ ∃ N : St → Hp → Prop, (∀ σ' H', N σ' H' → ∃ m', m' < m ∧ W (i + 1) m' σ' H') ∧ ∀ v H', (Its (SX.S l)).yld i H v H' → g v σ H' fun σ2 H2 => tb { D with nx := N, ct := N, bk := D.nx } σ2 H2) := by
  refine ⟨fun i m σ H => m = l.length - i ∧ i ≤ l.length ∧ Pv i σ H, ⟨_, rfl, Nat.zero_le _, h0⟩, ?_⟩
  intro i m σ1 H1 hw
  obtain ⟨em, hi, p⟩ := hw
  have es : (SX.S l).cps.size = l.length := by simp
  rcases Nat.lt_or_ge i l.length with hlt | hge
  · right
    refine ⟨(by show i < (SX.S l).cps.size; omega), Pv (i + 1), fun σ' H' p' => ⟨l.length - (i + 1), by omega, rfl, by omega, p'⟩, ?_⟩
    intro v H' hy
    obtain ⟨e, c, hc, ev⟩ := hy
    rw [e, ev]
    refine hs i c σ1 H1 ?_ p
    have h2 : (SX.S l).cps[i]? = l[i]? := by simp
    rw [← h2]
    exact hc
  · left
    refine ⟨(by show (SX.S l).cps.size ≤ i; omega), hd σ1 H1 ?_⟩
    have e : i = l.length := by omega
    rw [← e]
    exact p
theorem atI_head {α : Type} (c : α) (r : List α) : atI (c :: r) 0 = some c := by
  show atI (c :: r) ((0 : Nat) : Int) = some c
  exact atI_nat rfl
theorem small_size {n : Nat} (h : n ≤ 100000) : n ≤ sizeLine := Nat.le_trans h (by decide)
theorem Same.new {H H' : Hp} {p : Addr} {o : HO} (e : Same H H') (h : H' p = none) : Same H (upd H' p o) := fun a u q => by
  rw [upd_ne (ne_of_none (e a u q) h)]
  exact e a u q
theorem Same.mut {H H' : Hp} {p : Addr} {o : HO} (e : Same H H') (h : H p = none) : Same H (upd H' p o) := fun a u q => by
  rw [upd_ne (ne_of_none q h)]
  exact e a u q
/-- o.m(e, .., k = v, ..) -/
def tMethN (C : Addr) (m : Str) (n j : Nat) (sp : Sp) (gV : List V → List V → List V) (E : XK) (ta : TE) (t tk : TA) : TE := fun σ H Q => ta σ H fun x H1 => ∃ a dx fs, x = .ref a ∧ H1 a = some (.ins C dx fs) ∧ fs.lookup m = none ∧
  t σ H1 fun vs H2 => tk σ H2 fun zs H3 => vs.length = n ∧ zs.length = j ∧ sp (gV (x :: vs) zs) H3 Q E
theorem pe_methN {X : Cx} {CX : CXT} {k n : Nat} {f C : Addr} {fd : FuncData} {ps ks : List Str} {sp : Sp} {E : XK} {m : Str} {o e : Expr} {es : List Expr} {kws : List Keyword} {apos pos : Pos} {ta : TE} {t tk : TA} {g : List Value → List Value → List Value} {gV : List V → List V → List V} {pl : Sem Bool}
    (he : PE X o ta) (c : Cls X.K C) (hm : Meth X.K C m f) (F : FnOk X.prog X.w X.K X.mg X.base CX k f fd ps sp) (hr : Room k X.A) (hb : KBn X.K fd ps (n + 1) ks g gV) (hx : Passes CX X E) (ha : PA X (e :: es) t) (hkw : PK X kws tk)
    (hall : (backToKw pos (keywordEach kws X.env)).all (·.1.isSome) = true := by rfl)
    (hks : (backToKw pos (keywordEach kws X.env)).filterMap (·.1) = ks := by rfl)
    (hst : starEach (e :: es) X.env = (false, eval e X.env) :: starEach es X.env := by rfl)
    (hpl : ((backTo pos (starEach (e :: es) X.env)).any (·.1) || (backToKw pos (keywordEach kws X.env)).any (·.1.isNone)) = false := by rfl)
    (ht : eval (.Call (.Attribute o m apos) (e :: es) kws pos) X.env = (do
      let ov ← eval o X.env
      standAt apos.atName
      let (f, first) ← holding [ov] (getMethod ov m pl)
      callWith pos f first (backTo pos (starEach (e :: es) X.env)) (backToKw pos (keywordEach kws X.env))) := by rfl) :
    PE X (.Call (.Attribute o m apos) (e :: es) kws pos) (tMethN C m n ks.length sp gV E ta t tk) := by
  constructor
  intro pins s σ H Q I hh
  apply PySem.W.methodCall_KW (pl := pl) (he := ht)
  apply thn (he.run pins s σ H _ I hh)
  rintro u s1 ⟨x, H1, I1, rx, a, dx, fs, rfl, ea, l, q⟩
  obtain rfl : u = Value.ref a := rx
  apply getmeth_ok I1 ea c hm l
  apply PySem.W.callWith_KW (first := [.ref a]) (h₀ := X.base) I.ok.mod.kin hm.kp hall (hplain := hpl) (he := hst)
  apply thn (ha.run pos pins s1 σ H1 _ I1 q)
  rintro us s2 ⟨vs, H2, I2, r, q2⟩
  apply thn (hkw.run pos pins s2 σ H2 _ I2 q2)
  rintro ws s3 ⟨zs, H3, I3, rz, l1, l2, q3⟩
  refine ⟨I3.kIn, ?_⟩
  rw [hks]
  exact run_fnN (us := .ref a :: us) (vs := .ref a :: vs) F hr hb hx I3 (.cons rfl r) rz (congrArg Nat.succ l1) l2 q3
theorem updN {H : Hp} {a b : Addr} {o u : HO} (h : b ≠ a) (e : H b = some u) : upd H a o b = some u := (upd_ne h).trans e
theorem neN {H : Hp} {a b : Addr} {u : HO} (h' : H b = none) (h : H a = some u) : a ≠ b := ne_of_none h h'
theorem neN2 {H : Hp} {a b : Addr} {u : HO} (h' : H a = none) (h : H b = some u) : a ≠ b := (ne_of_none h h').symm
theorem Same.at {H H' : Hp} {a : Addr} {u : HO} (s : Same H H') (e : H a = some u) : H' a = some u := s a u e
theorem Same.fresh {H H' : Hp} {a : Addr} (s : Same H H') (e : H' a = none) : H a = none := by
  cases h : H a with
  | none => rfl
  | some u =>
    rw [s a u h] at e
    cases e
theorem freshS {H H' : Hp} {a : Addr} (e : H' a = none) (s : Same H H') : H a = none := s.fresh e
/-! ### a head that asks one more thing of the written part -/
def obsY (n : Nat) (fa : List He.Fa) (fn : List He.DefD) (ex : PySem.W.Frag → Bool) (g : Addr → Option Obj) : He.AlD × Bool := (He.obsDG n fa fn g, ex (He.frG g (He.asD g n)))
def hookY (n : Nat) (fa : List He.Fa) (fn : List He.DefD) (ex : PySem.W.Frag → Bool) : PySem.W.Hook where
  α := He.AlD × Bool
  obs := fun s => obsY n fa fn ex s.heap.get?
  val := fun _ => (He.valD fn, true)
  says := fun _ h => ∃ K : PySem.W.Frag, K.In h ∧ He.SaysD fa fn K ∧ ex K = true
  of := fun _ _ e => ⟨_, He.frG_in, congrArg Prod.fst e, congrArg Prod.snd e⟩
  keeps := fun _ _ _ ⟨K, hK, c⟩ k => ⟨K, PySem.W.Frag.In.keeps hK k, c⟩
theorem obsY_eq {n : Nat} {fa : List He.Fa} {fn : List He.DefD} {ex : PySem.W.Frag → Bool} {g : Addr → Option Obj} {s : Shared} (h : ∀ a, g a = s.heap.get? a) : obsY n fa fn ex g = (hookY n fa fn ex).obs s := by
  have e : g = s.heap.get? := funext h
  rw [e]
  rfl
/-! ### what a class of errors must say, as one Bool -/
def excB (K : PySem.W.Frag) (x : Str) : Bool :=
  decide (PySem.W.findIn K (.ref (He.ga K x)) "__getattribute__" = some (some (.builtin "BaseException.__getattribute__"))) && (decide (PySem.W.findIn K (.ref (He.ga K x)) "__getattr__" = some none) &&
  (decide (PySem.W.subIn K (.ref (He.ga K x)) (.type "BaseException") = some true) && (PySem.W.hasDictIn K (He.ga K x) && (decide (PySem.W.findIn K (.ref (He.ga K x)) "__class__" = some (some (.builtin "object.__class__"))) &&
  (decide (PySem.W.specialIn K (.builtin "object.__class__") "__get__" = some (some (.builtin "getset_descriptor.__get__"))) && (decide (PySem.W.takesIn K (.builtin "object.__class__") = some true) && decide (PySem.W.mroIn K (He.ga K x) (.type "object") = some true)))))))
theorem excB_ok {K : PySem.W.Frag} {x : Str} (h : excB K x = true) : ExcC K (He.ga K x) := by
  obtain ⟨h1, h⟩ := He.ba h
  obtain ⟨h2, h⟩ := He.ba h
  obtain ⟨h3, h⟩ := He.ba h
  obtain ⟨h4, h⟩ := He.ba h
  obtain ⟨h5, h⟩ := He.ba h
  obtain ⟨h6, h⟩ := He.ba h
  obtain ⟨h7, h8⟩ := He.ba h
  exact ⟨of_decide_eq_true h1, of_decide_eq_true h2, of_decide_eq_true h3, h4, of_decide_eq_true h5, of_decide_eq_true h6, of_decide_eq_true h7, of_decide_eq_true h8⟩
/-- isinstance of what a suite holds, its class told by the reading -/
def rIsX (K : PySem.W.Frag) (cls : Value) (dc : Option Addr) (a : Addr) : List V → Hp → VK → Prop := fun xs H Q => ∃ D, cls = .ref D ∧ dc = none ∧ ExcC K D ∧ rIsE K D a xs H Q
theorem call_isX {X : Cx} {a : Addr} {cls : Value} {dc : Option Addr} {oe : Obj} {pn : List (Addr × Obj)} (hz : Zc cls dc oe) (hf : ∃ vs, oe.data = .fields vs) : CallR (X.suite a ((a, oe) :: pn)) (.builtin "isinstance") (rIsX X.K cls dc a) := by
  intro pins s σ H xs us Q I r h
  obtain ⟨D, e1, e2, C, q⟩ := h
  subst e1 e2
  exact call_isE C hz hf pins s σ H xs us Q I r q
end L2
/-! ### rules whose readings name the heap behind them -/
namespace L2
open PySem PySem.Spec PyProof.Rows
def Fr (H : Hp) (p : Addr) : Prop := H p = none
/-- all but a stays -/
def But (a : Addr) (H H' : Hp) : Prop := ∀ b u, b ≠ a → H b = some u → H' b = some u
theorem But.up {H : Hp} {a : Addr} {o : HO} : But a H (upd H a o) := fun b u n e => updN n e
theorem But.at {H H' : Hp} {a b : Addr} {u : HO} (m : But a H H') (n : b ≠ a) (e : H b = some u) : H' b = some u := m b u n e
theorem But.kind {H H' : Hp} {a b : Addr} {o u : HO} (m : But a H H') (h : H a = some o) (e : H b = some u) (d : u ≠ o) : H' b = some u := m b u (ne_of e h d) e
theorem But.trans {H H1 H' : Hp} {a : Addr} (m : But a H H1) (n : But a H1 H') : But a H H' := fun b u h e => n b u h (m b u h e)
theorem But.same {H H1 H' : Hp} {a : Addr} (m : But a H H1) (s : Same H1 H') : But a H H' := fun b u h e => s _ _ (m b u h e)
theorem But.before {H H1 H' : Hp} {a : Addr} (m : But a H1 H') (s : Same H H1) : But a H H' := fun b u h e => m b u h (s _ _ e)
theorem Same.thenBut {H H1 H' : Hp} {a : Addr} (s : Same H H1) (m : But a H1 H') : But a H H' := fun b u h e => m b u h (s _ _ e)
theorem Same.but {H H1 H' : Hp} {a : Addr} (s : Same H H1) (m : But a H1 H') (f : Fr H a) : Same H H' := fun b u e => m b u (ne_of_none e f) (s b u e)
/-- all but a and c stays -/
def But2 (a c : Addr) (H H' : Hp) : Prop := ∀ b u, b ≠ a → b ≠ c → H b = some u → H' b = some u
theorem But2.at {H H' : Hp} {a c b : Addr} {u : HO} (m : But2 a c H H') (n1 : b ≠ a) (n2 : b ≠ c) (e : H b = some u) : H' b = some u := m b u n1 n2 e
theorem But2.kind {H H' : Hp} {a c b : Addr} {o o' u : HO} (m : But2 a c H H') (h : H a = some o) (h' : H c = some o') (e : H b = some u) (d : u ≠ o) (d' : u ≠ o') : H' b = some u := m b u (ne_of e h d) (ne_of e h' d') e
theorem But2.refl {H : Hp} {a c : Addr} : But2 a c H H := fun _ _ _ _ e => e
theorem But.two {H H' : Hp} {a c : Addr} (m : But a H H') : But2 a c H H' := fun b u n _ e => m b u n e
theorem But.two' {H H' : Hp} {a c : Addr} (m : But a H H') : But2 c a H H' := fun b u _ n e => m b u n e
theorem Same.two {H H' : Hp} {a c : Addr} (s : Same H H') : But2 a c H H' := fun b u _ _ e => s b u e
theorem But2.trans {H H1 H' : Hp} {a c : Addr} (m : But2 a c H H1) (n : But2 a c H1 H') : But2 a c H H' := fun b u h1 h2 e => n b u h1 h2 (m b u h1 h2 e)
theorem But2.same {H0 H H' : Hp} {a c : Addr} (m : But2 a c H H') (s : Same H0 H) (f : Fr H0 a) (g : Fr H0 c) : Same H0 H' := fun b u e => m b u (ne_of_none e f) (ne_of_none e g) (s _ _ e)
theorem neF {H : Hp} {a b : Addr} {u : HO} (f : Fr H b) (e : H a = some u) : a ≠ b := ne_of_none e f
theorem neF2 {H : Hp} {a b : Addr} {u : HO} (f : Fr H a) (e : H b = some u) : a ≠ b := (ne_of_none e f).symm
theorem Fr.back {H H' : Hp} {p : Addr} (f : Fr H' p) (s : Same H H') : Fr H p := s.fresh f
/-- a new object -/
def New (o : HO) (H : Hp) (Q : VK) : Prop := ∀ (p : Addr) (H' : Hp), Fr H p → Same H H' → H' p = some o → Q (.ref p) H'
theorem New.out {o : HO} {H : Hp} {Q : VK} (h : New o H Q) (p : Addr) (hp : H p = none) : Q (.ref p) (upd H p o) := h p _ hp ((Same.refl H).new hp) upd_same
/-- the object at a is changed -/
def Put (a : Addr) (o : HO) (H : Hp) (Q : Hp → Prop) : Prop := ∀ H', But a H H' → H' a = some o → Q H'
theorem Put.out {a : Addr} {o : HO} {H : Hp} {Q : Hp → Prop} (h : Put a o H Q) : Q (upd H a o) := h _ But.up upd_same
section
variable {X : Cx} {pos : Pos}
def upE (t : TE) : TE := fun σ H Q => ∃ R : VK, t σ H R ∧ ∀ v H', R v H' → Q v H'
theorem PE.up {e : Expr} {t : TE} (h : PE X e t) : PE X e (upE t) := ⟨fun pins s σ H Q I ⟨R, r, k⟩ => thn (h.run pins s σ H R I r) fun u s1 ⟨v, H1, I1, rv, q⟩ => ⟨v, H1, I1, rv, k v H1 q⟩⟩
theorem PE.imp {e : Expr} {t t' : TE} (h : PE X e t) (k : ∀ σ H Q, t' σ H Q → t σ H Q) : PE X e t' := ⟨fun pins s σ H Q I q => h.run pins s σ H Q I (k σ H Q q)⟩
def upA (t : TA) : TA := fun σ H Q => ∃ R : List V → Hp → Prop, t σ H R ∧ ∀ v H', R v H' → Q v H'
theorem PA.up {es : List Expr} {t : TA} (h : PA X es t) : PA X es (upA t) := ⟨fun pos pins s σ H Q I ⟨R, r, k⟩ => thn (h.run pos pins s σ H R I r) fun u s1 ⟨v, H1, I1, rv, q⟩ => ⟨v, H1, I1, rv, k v H1 q⟩⟩
def upG (t : TG) : TG := fun v σ H Q => ∃ R : St → Hp → Prop, t v σ H R ∧ ∀ σ' H', R σ' H' → Q σ' H'
theorem PG.up {e : Expr} {t : TG} (h : PG X e t) : PG X e (upG t) := ⟨fun pins s σ H v u Q I rv ⟨R, r, k⟩ => thn (h.run pins s σ H v u R I rv r) fun _ s1 ⟨σ1, H1, I1, q⟩ => ⟨σ1, H1, I1, k σ1 H1 q⟩⟩
def upT (t : TT) : TT := fun σ H Q => ∃ R : Bool → Hp → Prop, t σ H R ∧ ∀ b H', R b H' → Q b H'
theorem PTs.up {es : List Expr} {t : TT} (h : PTs X es t) : PTs X es (upT t) := ⟨fun pins s σ H Q I ⟨R, r, k⟩ => thn (h.run pins s σ H R I r) fun b s1 ⟨H1, I1, q⟩ => ⟨H1, I1, k b H1 q⟩⟩
theorem PS.imp {st : Stmt} {t t' : TS} (h : PS X st t) (k : ∀ D σ H, t' D σ H → t D σ H) : PS X st t' := ⟨fun pins s σ H D I q => h.run pins s σ H D I (k D σ H q)⟩
theorem OpR.imp {f : Value → Value → Sem Value} {r r' : R2} (h : OpR X f r) (k : ∀ x y H Q, r' x y H Q → r x y H Q) : OpR X f r' := fun pins s σ H x y v u Q I rx ry q => h pins s σ H x y v u Q I rx ry (k x y H Q q)
theorem CallR.imp {f : Value} {r r' : List V → Hp → VK → Prop} (h : CallR X f r) (k : ∀ xs H Q, r' xs H Q → r xs H Q) : CallR X f r' := fun pins s σ H xs us Q I rx q => h pins s σ H xs us Q I rx (k xs H Q q)
theorem MtR.imp {id : String} {r r' : V → List V → Hp → VK → Prop} (h : MtR X id r) (k : ∀ x xs H Q, r' x xs H Q → r x xs H Q) : MtR X id r' := fun pins s σ H x xs v us Q I rx rs q => h pins s σ H x xs v us Q I rx rs (k x xs H Q q)
theorem SlR.imp {r r' : V → Option Int → Option Int → Hp → VK → Prop} (h : SlR X r) (k : ∀ x lo hi H Q, r' x lo hi H Q → r x lo hi H Q) : SlR X r' := fun pins s σ H x v vl vu lo hi sl Q I rx hs pl pu q => h pins s σ H x v vl vu lo hi sl Q I rx hs pl pu (k x lo hi H Q q)
def tLstK (t : TA) : TE := fun σ H Q => t σ H fun xs H1 => xs.length ≤ sizeLine ∧ New (.lst xs) H1 Q
theorem pe_lstK {es : List Expr} {t : TA} (h : PA X es t) : PE X (.List es pos) (tLstK t) := (pe_lst h.up).imp fun σ H Q q => ⟨_, q, fun xs H1 r => ⟨r.1, r.2.out⟩⟩
def tTupK (t : TA) : TE := fun σ H Q => t σ H fun xs H1 => xs.length ≤ sizeLine ∧ New (.tup xs) H1 Q
theorem pe_tupK {x1} {es : List Expr} {t : TA} (h : PA X es t) : PE X (.Tuple es x1 pos) (tTupK t) := (pe_tup h.up).imp fun σ H Q q => ⟨_, q, fun xs H1 r => ⟨r.1, r.2.out⟩⟩
def tDNewTK : TE := fun _ H Q => New (.dT []) H Q
theorem pe_dnewTK : PE X (.Dict [] [] pos) tDNewTK := pe_dnewT.imp fun σ H Q q => q.out
def tDNewKK : TE := fun _ H Q => New (.dK []) H Q
theorem pe_dnewKK : PE X (.Dict [] [] pos) tDNewKK := pe_dnewK.imp fun σ H Q q => q.out
def rCatK : R2 := fun x y H Q => ∃ l b xs zs, x = .ref l ∧ y = .ref b ∧ H l = some (.lst xs) ∧ H b = some (.lst zs) ∧ xs.length + zs.length ≤ sizeLine ∧ New (.lst (xs ++ zs)) H Q
theorem op_catK : OpR X (binaryOp .Add) rCatK := op_cat.imp fun x y H Q ⟨l, b, xs, zs, e1, e2, h1, h2, z, q⟩ => ⟨l, b, xs, zs, e1, e2, h1, h2, z, q.out⟩
def rRepK : R2 := fun x y H Q => ∃ l k xs, x = .ref l ∧ y = .int k ∧ H l = some (.lst xs) ∧ (-(2 ^ 63) ≤ k ∧ k < 2 ^ 63 ∧ xs.length * k.toNat ≤ sizeLine) ∧ New (.lst (List.replicate k.toNat xs).flatten) H Q
theorem op_repK : OpR X (binaryOp .Mult) rRepK := op_rep.imp fun x y H Q ⟨l, k, xs, e1, e2, h1, ⟨z1, z2, z3⟩, q⟩ => ⟨l, k, xs, e1, e2, h1, z1, z2, z3, q.out⟩
def rSlLK (K : PySem.W.Frag) : V → Option Int → Option Int → Hp → VK → Prop := fun x lo hi H Q => ∃ a xs, x = .ref a ∧ SqL K H a xs ∧ New (.lst (cutV xs lo hi)) H Q
theorem sl_listK : SlR X (rSlLK X.K) := sl_list.imp fun x lo hi H Q ⟨a, xs, e, h, q⟩ => ⟨a, xs, e, h, q.out⟩
def rAppK : V → List V → Hp → VK → Prop := fun x vs H Q => ∃ l xs y, x = .ref l ∧ vs = [y] ∧ H l = some (.lst xs) ∧ xs.length < sizeLine ∧ Put l (.lst (xs ++ [y])) H (Q .non)
theorem mt_appendK : MtR X "list.append" rAppK := MtR.imp mt_append fun x xs H Q ⟨l, ys, y, e1, e2, h, z, q⟩ => ⟨l, ys, y, e1, e2, h, z, q.out⟩
def rExtK : V → List V → Hp → VK → Prop := fun x vs H Q => ∃ l b xs zs, x = .ref l ∧ vs = [.ref b] ∧ H l = some (.lst xs) ∧ H b = some (.lst zs) ∧ xs.length + zs.length ≤ sizeLine ∧ Put l (.lst (xs ++ zs)) H (Q .non)
theorem mt_extendK : MtR X "list.extend" rExtK := MtR.imp mt_extend fun x xs H Q ⟨l, b, ys, zs, e1, e2, h, h2, z, q⟩ => ⟨l, b, ys, zs, e1, e2, h, h2, z, q.out⟩
def rPopLK : V → List V → Hp → VK → Prop := fun x vs H Q => ∃ l xs y, x = .ref l ∧ vs = [] ∧ H l = some (.lst xs) ∧ xs[xs.length - 1]? = some y ∧ Put l (.lst xs.dropLast) H (Q y)
theorem mt_popK : MtR X "list.pop" rPopLK := MtR.imp mt_pop fun x xs H Q ⟨l, ys, y, e1, e2, h, z, q⟩ => ⟨l, ys, y, e1, e2, h, z, q.out⟩
def rPopIK : V → List V → Hp → VK → Prop := fun x vs H Q => ∃ l xs i k y, x = .ref l ∧ vs = [.int i] ∧ H l = some (.lst xs) ∧ (-(2 ^ 63) ≤ i ∧ i < 2 ^ 63) ∧ seqIndex? i xs.length = some k ∧ xs[k]? = some y ∧ Put l (.lst (xs.eraseIdx k)) H (Q y)
theorem mt_popAtK : MtR X "list.pop" rPopIK := MtR.imp mt_popAt fun x xs H Q ⟨l, ys, i, k, y, e1, e2, h, z, h3, h4, q⟩ => ⟨l, ys, i, k, y, e1, e2, h, z.1, z.2, h3, h4, q.out⟩
def rClearK : V → List V → Hp → VK → Prop := fun x vs H Q => ∃ l xs, x = .ref l ∧ vs = [] ∧ H l = some (.lst xs) ∧ Put l (.lst []) H (Q .non)
theorem mt_clearK : MtR X "list.clear" rClearK := MtR.imp mt_clear fun x xs H Q ⟨l, ys, e1, e2, h, q⟩ => ⟨l, ys, e1, e2, h, q.out⟩
def rInsK : V → List V → Hp → VK → Prop := fun x vs H Q => ∃ l xs i y, x = .ref l ∧ vs = [.int i, y] ∧ H l = some (.lst xs) ∧ xs.length < sizeLine ∧ (0 ≤ i ∧ i < 2 ^ 63) ∧ Put l (.lst (xs.take i.toNat ++ [y] ++ xs.drop i.toNat)) H (Q .non)
theorem mt_insertK : MtR X "list.insert" rInsK := MtR.imp mt_insert fun x xs H Q ⟨l, ys, i, y, e1, e2, h, z, hi, q⟩ => ⟨l, ys, i, y, e1, e2, h, z, hi.1, hi.2, q.out⟩
def rSetK : V → V → V → Hp → (Hp → Prop) → Prop := fun o i v H Q => ∃ p xs k j, o = .ref p ∧ i = .int k ∧ H p = some (.lst xs) ∧ ixN xs.length k = some j ∧ Put p (.lst (xs.set j v)) H Q
theorem set_listK : PSet X rSetK := fun pins s σ H o i v ov iv u Q I ro ri rv ⟨p, xs, k, j, e1, e2, h, z, q⟩ => set_list pins s σ H o i v ov iv u Q I ro ri rv ⟨p, xs, k, j, e1, e2, h, z, q.out⟩
def rListK (K : PySem.W.Frag) : List V → Hp → VK → Prop := fun xs H Q => ∃ p ys, xs = [.ref p] ∧ (SqL K H p ys ∨ SqT K H p ys) ∧ New (.lst ys) H Q
theorem call_listK : CallR X (.type "list") (rListK X.K) := CallR.imp call_list_of fun xs H Q ⟨p, ys, e, h, q⟩ => ⟨p, ys, e, h, q.out⟩
def rDictDK : List V → Hp → VK → Prop := fun xs H Q => ∃ (a : Addr) (kvs : List (Key × V)), xs = [.ref a] ∧ H a = some (.dK kvs) ∧ New (.dK kvs) H Q
theorem call_dictDK : CallR X (.type "dict") rDictDK := CallR.imp call_dictD fun xs H Q ⟨a, kvs, e, h, q⟩ => ⟨a, kvs, e, .inl h, q.out⟩
def rListDK : List V → Hp → VK → Prop := fun xs H Q => ∃ (a : Addr) (kvs : List (Key × V)), xs = [.ref a] ∧ H a = some (.dK kvs) ∧ New (.lst (kvs.map fun kv => kV kv.1)) H Q
theorem call_listDK (hc : X.calm = true) : CallR X (.type "list") rListDK := CallR.imp (call_listD hc) fun xs H Q ⟨a, kvs, e, h, q⟩ => ⟨a, kvs, e, .inl h, q.out⟩
def rSlTK (K : PySem.W.Frag) : V → Option Int → Option Int → Hp → VK → Prop := fun x lo hi H Q => ∃ a xs, x = .ref a ∧ SqT K H a xs ∧ (cutV xs lo hi).length ≠ xs.length ∧ New (.tup (cutV xs lo hi)) H Q
def rDivK : List V → Hp → VK → Prop := fun xs H Q => ∃ i j, xs = [.int i, .int j] ∧ CDiv i j ∧ New (.tup [.int (i / j), .int (i % j)]) H Q
theorem call_divmodK : CallR X (.builtin "divmod") rDivK := CallR.imp call_divmod fun xs H Q ⟨i, j, e, h, q⟩ => ⟨i, j, e, h, q.out⟩
def rSplitK : V → List V → Hp → VK → Prop := fun x xs H Q => ∃ a b, x = .str a ∧ xs = [.str b] ∧ (b.length == 0) = false ∧ a.length + 2 ≤ sizeLine ∧ New (.lst ((Txt.split a b).map V.str)) H Q
theorem mt_splitK : MtR X "str.split" rSplitK := MtR.imp mt_split fun x xs H Q ⟨a, b, e1, e2, h1, h2, q⟩ => ⟨a, b, e1, e2, h1, h2, q.out⟩
/-- d[k] = v, the keys tuples -/
def sDPutTK (td ty tv : TE) : TS := fun D σ H => tv σ H fun v H1 => td σ H1 fun x H2 => ty σ H2 fun y H3 => ∃ a b kvs k, x = .ref a ∧ y = .ref b ∧ H3 a = some (.dT kvs) ∧ H3 b = some (.tup (k.map kV)) ∧ kvs.length < sizeLine ∧ Put a (.dT (putK kvs k v)) H3 (D.nx σ)
theorem ps_dputTK {o i value : Expr} {td ty tv : TE} {pos' : Pos} (hu : X.A.units + 1 < cLine) (ho : PE X o td) (hi : PE X i ty) (hv : PE X value tv) (hs : swapsWith value (some (.Subscript o i pos')) pos.line X.env = pure false) :
    PS X (.Assign [.Subscript o i pos'] value pos) (sDPutTK td ty tv) := by
  refine (ps_dput hu ho.up hi.up hv.up hs).imp fun D σ H q => ?_
  refine ⟨_, q, fun v H1 q1 => ⟨_, q1, fun x H2 q2 => ⟨_, q2, fun y H3 q3 => ?_⟩⟩⟩
  obtain ⟨a, b, kvs, k, e1, e2, h1, h2, z, r⟩ := q3
  exact ⟨a, _, e1, by rw [e2]; exact DPut.t h1 h2 z, r.out⟩
def sDPutKK (td ty tv : TE) : TS := fun D σ H => tv σ H fun v H1 => td σ H1 fun x H2 => ty σ H2 fun y H3 => ∃ a kvs k, x = .ref a ∧ y = kV k ∧ H3 a = some (.dK kvs) ∧ kvs.length < sizeLine ∧ Put a (.dK (putK kvs k v)) H3 (D.nx σ)
theorem ps_dputKK {o i value : Expr} {td ty tv : TE} {pos' : Pos} (hu : X.A.units + 1 < cLine) (ho : PE X o td) (hi : PE X i ty) (hv : PE X value tv) (hs : swapsWith value (some (.Subscript o i pos')) pos.line X.env = pure false) :
    PS X (.Assign [.Subscript o i pos'] value pos) (sDPutKK td ty tv) := by
  refine (ps_dput hu ho.up hi.up hv.up hs).imp fun D σ H q => ?_
  refine ⟨_, q, fun v H1 q1 => ⟨_, q1, fun x H2 q2 => ⟨_, q2, fun y H3 q3 => ?_⟩⟩⟩
  obtain ⟨a, kvs, k, e1, e2, h1, z, r⟩ := q3
  exact ⟨a, _, e1, by rw [e2]; exact DPut.k h1 z, r.out⟩
def sFldK (K : PySem.W.Frag) (ta tv : TE) (f : Str) : TS := fun D σ H => tv σ H fun y H1 => ta σ H1 fun x H2 => ∃ a C dx fs, x = .ref a ∧ H2 a = some (.ins C dx fs) ∧ Cls K C ∧ NoAttr K C f ∧ fs.length < 1000 ∧ ∃ fs', putF f y fs = fs' ∧ Put a (.ins C dx fs') H2 (D.nx σ)
theorem ps_fldK {o value : Expr} {ta tv : TE} {f : Str} {pos' : Pos} (ha : PE X o ta) (hv : PE X value tv) (hs : swapsWith value (some (.Attribute o f pos')) pos.line X.env = pure false) : PS X (.Assign [.Attribute o f pos'] value pos) (sFldK X.K ta tv f) := by
  refine (ps_fld ha.up hv.up hs).imp fun D σ H q => ?_
  refine ⟨_, q, fun y H1 q1 => ⟨_, q1, fun x H2 q2 => ?_⟩⟩
  obtain ⟨a, C, dx, fs, e1, h1, c, n, z, fs', e2, r⟩ := q2
  exact ⟨a, C, dx, fs, e1, h1, c, n, z, by rw [e2]; exact r.out⟩
def tMakeK (C : Addr) (sp : Sp) (dvs : List V) (E : XK) (t : TA) : TE := fun σ H Q => t σ H fun vs H1 => ∀ (x dx : Addr) (H2 : Hp), Fr H1 x → Same H1 H2 → H2 x = some (.ins C dx []) →
  sp (.ref x :: (vs ++ dvs)) H2 (fun v H3 => v = .non ∧ Q (.ref x) H3) E
theorem tMakeK.out {C : Addr} {sp : Sp} {dvs : List V} {E : XK} {t : TA} {σ : St} {H : Hp} {Q : VK} (q : tMakeK C sp dvs E t σ H Q) : tMake C sp dvs E (upA t) σ H Q := by
  refine ⟨_, q, fun vs H1 r x dx hx hdx ne => r x dx _ hx ?_ upd_same⟩
  exact ((Same.refl H1).new hdx).new (by rw [upd_ne ne.symm]; exact hx)
theorem pe_makeK {CX : CXT} {k : Nat} {C f : Addr} {fd : FuncData} {ps : List Str} {sp : Sp} {x : Str} {p : Pos} {ds : List Value} {dvs : List V} {E : XK} {e : Expr} {es : List Expr} {t : TA} (M : Mk X.K C f) (F : FnOk X.prog X.w X.K X.mg X.base CX k f fd ps sp) (hr : Room (k + 1) X.A) (hg : Gl X x) (hm : X.mg x = some (.ref C)) (hb : Binds X.K fd ps ds) (hd : Vals dvs ds) (hx : Passes CX X E)
    (ha : PA X (e :: es) t) (hdb : (x == ("__debug__" : Str)) = false := by decide) (he : starEach (e :: es) X.env = (false, eval e X.env) :: starEach es X.env := by rfl) (hpl : (backTo pos (starEach es X.env)).any (·.1) = false := by rfl) :
    PE X (.Call (.Name x p) (e :: es) [] pos) (tMakeK C sp dvs E t) := (pe_make M F hr hg hm hb hd hx ha.up hdb he hpl).imp fun σ H Q q => q.out
theorem pe_make0K {CX : CXT} {k : Nat} {C f : Addr} {fd : FuncData} {ps : List Str} {sp : Sp} {x : Str} {p : Pos} {ds : List Value} {dvs : List V} {E : XK} (M : Mk X.K C f) (F : FnOk X.prog X.w X.K X.mg X.base CX k f fd ps sp) (hr : Room (k + 1) X.A) (hg : Gl X x) (hm : X.mg x = some (.ref C)) (hb : Binds X.K fd ps ds) (hd : Vals dvs ds) (hx : Passes CX X E)
    (hdb : (x == ("__debug__" : Str)) = false := by decide) : PE X (.Call (.Name x p) [] [] pos) (tMakeK C sp dvs E tNil) := (pe_make0 M F hr hg hm hb hd hx hdb).imp fun σ H Q q x dx hx hdx ne => q x dx _ hx (((Same.refl H).new hdx).new (by rw [upd_ne ne.symm]; exact hx)) upd_same
end
/-! ### loops and comprehensions over them -/
section
variable {K : PySem.W.Frag} {a : Addr} {xs : List V} {g : TG} {tt : TT} {te : TE} {vs : List Nat} {σ : St} {H1 : Hp} {D : Addr} {Qd : Hp → Prop}
/-- one turn of a comprehension -/
def LcTurn (σ : St) (vs : List Nat) (g : TG) (tt : TT) (te : TE) (D : Addr) (x : V) (H : Hp) (P : Hp → Prop) : Prop :=
  g x (wipe σ vs) H fun σ2 H2 => wipe σ2 vs = wipe σ vs ∧ tt σ2 H2 fun b H3 => if b = true then te σ2 H3 fun y H4 => ∃ acc, H4 D = some (.lst acc) ∧ acc.length < sizeLine ∧ Put D (.lst (acc ++ [y])) H4 P else P H3
theorem LcTurn.out {x : V} {H : Hp} {P : Hp → Prop} (h : LcTurn σ vs g tt te D x H P) : upG g x (wipe σ vs) H fun σ2 H2 => wipe σ2 vs = wipe σ vs ∧ upT tt σ2 H2 fun b H3 =>
    if b = true then upE te σ2 H3 fun y H4 => ∃ acc, H4 D = some (.lst acc) ∧ acc.length < sizeLine ∧ P (upd H4 D (.lst (acc ++ [y]))) else P H3 := by
  refine ⟨_, h, fun σ2 H2 ⟨w, q⟩ => ⟨w, _, q, fun b H3 r => ?_⟩⟩
  cases b with
  | true =>
    rw [if_pos rfl] at r ⊢
    exact ⟨_, r, fun y H4 ⟨acc, h1, h2, h3⟩ => ⟨acc, h1, h2, h3.out⟩⟩
  | false =>
    rw [if_neg Bool.false_ne_true] at r ⊢
    exact r
theorem lcK_list (hD : H1 D = none) (Pv : Nat → Hp → Prop) (h0 : ∀ H', Fr H1 D → Same H1 H' → H' D = some (.lst []) → Pv 0 H') (hl : ∀ i H, i ≤ xs.length → Pv i H → SqL K H a xs) (hs : ∀ i x H, xs[i]? = some x → Pv i H → LcTurn σ vs g tt te D x H (Pv (i + 1))) (hd : ∀ H, Pv xs.length H → Qd H) :
    ∃ W : Nat → Nat → Hp → Prop, (∃ m, W 0 m (upd H1 D (.lst []))) ∧ ∀ i m H, W i m H →
      ((Itl K a).stop i H ∧ Qd H) ∨ ((Itl K a).go i H ∧ ∃ Nx : Hp → Prop, (∀ H', Nx H' → ∃ m', m' < m ∧ W (i + 1) m' H') ∧ ∀ x H', (Itl K a).yld i H x H' → upG g x (wipe σ vs) H' fun σ2 H2 => wipe σ2 vs = wipe σ vs ∧ upT tt σ2 H2 fun b H3 =>
        if b = true then upE te σ2 H3 fun y H4 => ∃ acc, H4 D = some (.lst acc) ∧ acc.length < sizeLine ∧ Nx (upd H4 D (.lst (acc ++ [y]))) else Nx H3) :=
  lc_list Pv (h0 _ hD ((Same.refl H1).new hD) upd_same) hl (fun i x H hx p => (hs i x H hx p).out) hd
theorem lcK_tup (hD : H1 D = none) (Pv : Nat → Hp → Prop) (h0 : ∀ H', Fr H1 D → Same H1 H' → H' D = some (.lst []) → Pv 0 H') (hl : ∀ i H, i ≤ xs.length → Pv i H → SqT K H a xs) (hs : ∀ i x H, xs[i]? = some x → Pv i H → LcTurn σ vs g tt te D x H (Pv (i + 1))) (hd : ∀ H, Pv xs.length H → Qd H) :
    ∃ W : Nat → Nat → Hp → Prop, (∃ m, W 0 m (upd H1 D (.lst []))) ∧ ∀ i m H, W i m H →
      ((Itt K a).stop i H ∧ Qd H) ∨ ((Itt K a).go i H ∧ ∃ Nx : Hp → Prop, (∀ H', Nx H' → ∃ m', m' < m ∧ W (i + 1) m' H') ∧ ∀ x H', (Itt K a).yld i H x H' → upG g x (wipe σ vs) H' fun σ2 H2 => wipe σ2 vs = wipe σ vs ∧ upT tt σ2 H2 fun b H3 =>
        if b = true then upE te σ2 H3 fun y H4 => ∃ acc, H4 D = some (.lst acc) ∧ acc.length < sizeLine ∧ Nx (upd H4 D (.lst (acc ++ [y]))) else Nx H3) :=
  lc_tup Pv (h0 _ hD ((Same.refl H1).new hD) upd_same) hl (fun i x H hx p => (hs i x H hx p).out) hd
theorem lcK_range {lo : Int} {n : Nat} (hD : H1 D = none) (Pv : Nat → Hp → Prop) (h0 : ∀ H', Fr H1 D → Same H1 H' → H' D = some (.lst []) → Pv 0 H') (hs : ∀ i H, i < n → Pv i H → LcTurn σ vs g tt te D (.int (lo + i)) H (Pv (i + 1))) (hd : ∀ H, Pv n H → Qd H) :
    ∃ W : Nat → Nat → Hp → Prop, (∃ m, W 0 m (upd H1 D (.lst []))) ∧ ∀ i m H, W i m H →
      ((Itr lo n).stop i H ∧ Qd H) ∨ ((Itr lo n).go i H ∧ ∃ Nx : Hp → Prop, (∀ H', Nx H' → ∃ m', m' < m ∧ W (i + 1) m' H') ∧ ∀ x H', (Itr lo n).yld i H x H' → upG g x (wipe σ vs) H' fun σ2 H2 => wipe σ2 vs = wipe σ vs ∧ upT tt σ2 H2 fun b H3 =>
        if b = true then upE te σ2 H3 fun y H4 => ∃ acc, H4 D = some (.lst acc) ∧ acc.length < sizeLine ∧ Nx (upd H4 D (.lst (acc ++ [y]))) else Nx H3) :=
  lc_range Pv (h0 _ hD ((Same.refl H1).new hD) upd_same) (fun i H hx p => (hs i H hx p).out) hd
/-- a new pair is unpacked into two names -/
theorem gTup2 {x y : V} {T : Addr} {t : TGs} {H : Hp} {Q : St → Hp → Prop} (hT : H T = none) (h : ∀ H', Same H H' → t [x, y] σ H' Q) : gTup K 2 t (.ref T) σ (upd H T (.tup [x, y])) Q :=
  ⟨T, _, rfl, .of upd_same, rfl, h _ ((Same.refl H).new hT)⟩
end
theorem ins_ne {C C' d d' : Addr} {fs gs : List (Str × V)} (h : fs.length ≠ gs.length) : HO.ins C d fs ≠ HO.ins C' d' gs := fun e => h (by
  injection e with _ _ e
  rw [e])
theorem lkE {a b : Str} {v : V} {r : List (Str × V)} (h : (b == a) = true) : ((a, v) :: r).lookup b = some v := by
  rw [List.lookup_cons, h]
theorem lkN {a b : Str} {v : V} {r : List (Str × V)} {o : Option V} (h : (b == a) = false) (q : r.lookup b = o) : ((a, v) :: r).lookup b = o := by
  rw [List.lookup_cons, h]
  exact q
theorem pfNil {f : Str} {v : V} : putF f v [] = [(f, v)] := rfl
theorem pfE {f g : Str} {v x : V} {r : List (Str × V)} (h : g = f) : putF f v ((g, x) :: r) = (g, v) :: r := if_pos h
theorem pfN {f g : Str} {v x : V} {r r' : List (Str × V)} (h : g ≠ f) (q : putF f v r = r') : putF f v ((g, x) :: r) = (g, x) :: r' := by
  rw [← q]
  exact if_neg h
theorem upd_self {H : Hp} {a : Addr} {o : HO} (h : H a = some o) : upd H a o = H := by
  funext b
  by_cases e : b = a
  · rw [e, upd_same, h]
  · rw [upd_ne e]
/-- a loop whose walk has nothing to give -/
theorem for_none {J : It} {g : TG} {tb : TS} {D : Ends} {σ : St} {H : Hp} (h : J.stop 0 H) (q : D.nx σ H) : ∃ W : Nat → Nat → St → Hp → Prop, (∃ m, W 0 m σ H) ∧ ∀ i m σ H, W i m σ H →
    (J.stop i H ∧ D.nx σ H) ∨ (J.go i H ∧ ∃ N : St → Hp → Prop, (∀ σ' H', N σ' H' → ∃ m', m' < m ∧ W (i + 1) m' σ' H') ∧ ∀ x H', J.yld i H x H' → g x σ H' fun σ2 H2 => tb { D with nx := N, ct := N, bk := D.nx } σ2 H2) := by
  refine ⟨fun i _ σ' H' => i = 0 ∧ σ' = σ ∧ H' = H, ⟨0, rfl, rfl, rfl⟩, ?_⟩
  rintro i m σ' H' ⟨rfl, rfl, rfl⟩
  exact .inl ⟨h, q⟩
theorem lc_none {J : It} {g : TG} {tt : TT} {te : TE} {vs : List Nat} {σ : St} {H1 : Hp} {D : Addr} {Qd : Hp → Prop} (h : J.stop 0 (upd H1 D (.lst []))) (q : Qd (upd H1 D (.lst []))) :
    ∃ W : Nat → Nat → Hp → Prop, (∃ m, W 0 m (upd H1 D (.lst []))) ∧ ∀ i m H, W i m H →
      (J.stop i H ∧ Qd H) ∨ (J.go i H ∧ ∃ Nx : Hp → Prop, (∀ H', Nx H' → ∃ m', m' < m ∧ W (i + 1) m' H') ∧ ∀ x H', J.yld i H x H' → g x (wipe σ vs) H' fun σ2 H2 => wipe σ2 vs = wipe σ vs ∧ tt σ2 H2 fun b H3 =>
        if b = true then te σ2 H3 fun y H4 => ∃ acc, H4 D = some (.lst acc) ∧ acc.length < sizeLine ∧ Nx (upd H4 D (.lst (acc ++ [y]))) else Nx H3) := by
  refine ⟨fun i _ H' => i = 0 ∧ H' = upd H1 D (.lst []), ⟨0, rfl, rfl⟩, ?_⟩
  rintro i m H' ⟨rfl, rfl⟩
  exact .inl ⟨h, q⟩
/-- an empty dict walked by its keys, under its lock -/
theorem lock_keys0 {td : TE} {g : TG} {tb : TS} {D : Ends} {σ : St} {H : Hp} {d : Addr} (hd : H d = some (.dK [])) (hv : ∀ od Q, Q (.ref d) (upd H d (.frz od (.dK []))) → td σ (upd H d (.frz od (.dK []))) Q) (q : D.nx σ H) : tLock (tFor (iKeys td) g tb) D σ H := by
  refine ⟨d, _, hd, trivial, fun od => hv od _ ⟨d, od, rfl, .inl ⟨[], upd_same, ?_⟩⟩⟩
  refine for_none ⟨upd_same, Nat.le_refl _⟩ ⟨upd_same, ?_⟩
  rw [upd_upd, upd_self hd]
  exact q
theorem lock_vals0 {td : TE} {g : TG} {tb : TS} {D : Ends} {σ : St} {H : Hp} {d : Addr} (hd : H d = some (.dK [])) (hv : ∀ od Q, Q (.ref d) (upd H d (.frz od (.dK []))) → td σ (upd H d (.frz od (.dK []))) Q) (q : D.nx σ H) : tLock (tFor (iVals td) g tb) D σ H := by
  refine ⟨d, _, hd, trivial, fun od => hv od _ ⟨d, od, [], rfl, upd_same, ?_⟩⟩
  refine for_none ⟨upd_same, Nat.le_refl _⟩ ⟨upd_same, ?_⟩
  rw [upd_upd, upd_self hd]
  exact q
theorem lock_lc0 {td te : TE} {g : TG} {tt : TT} {vs : List Nat} {σ : St} {H : Hp} {d : Addr} {Q : VK} (hd : H d = some (.dK [])) (hv : ∀ od Q, Q (.ref d) (upd H d (.frz od (.dK []))) → td σ (upd H d (.frz od (.dK []))) Q) (q : New (.lst []) H Q) : tLockE (tLc (iKeys td) g tt te vs) σ H Q := by
  refine ⟨d, _, hd, trivial, fun od => hv od _ ⟨d, od, rfl, .inl ⟨[], upd_same, fun D hD => ?_⟩⟩⟩
  have nd : D ≠ d := (ne_of_none upd_same hD).symm
  have hD0 : H D = none := by
    rw [upd_ne nd] at hD
    exact hD
  refine lc_none ⟨by rw [upd_ne nd.symm]; exact upd_same, Nat.le_refl _⟩ ⟨by rw [upd_ne nd.symm]; exact upd_same, ?_⟩
  have e : upd (upd (upd H d (.frz od (.dK []))) D (.lst [])) d (.dK []) = upd H D (.lst []) := by
    funext b
    by_cases e1 : b = d
    · rw [e1, upd_same, upd_ne nd.symm, hd]
    · rw [upd_ne e1]
      by_cases e2 : b = D
      · rw [e2, upd_same, upd_same]
      · rw [upd_ne e2, upd_ne e2, upd_ne e1]
  rw [e]
  exact q.out D hD0
theorem PT.up {X : Cx} {e : Expr} {t : TT} (h : PT X e t) : PT X e (upT t) := ⟨fun pins s σ H Q I ⟨R, r, k⟩ => thn (h.run pins s σ H R I r) fun b s1 ⟨H1, I1, q⟩ => ⟨H1, I1, k b H1 q⟩⟩
/-- a while, its turns counted down by W's number -/
theorem whileN {c : TT} {tb : TS} {D : Ends} {σ : St} {H : Hp} (W : Nat → St → Hp → Prop) (m0 : Nat) (h0 : W m0 σ H)
    (hs : ∀ m σ H, W m σ H → c σ H fun b H1 => if b = true then tb { D with nx := fun σ' H' => ∃ m', m' < m ∧ W m' σ' H', ct := fun σ' H' => ∃ m', m' < m ∧ W m' σ' H', bk := D.nx } σ H1 else D.nx σ H1) : tWhile (upT c) tb D σ H := by
  refine ⟨W, ⟨m0, h0⟩, fun m σ H w => ⟨_, hs m σ H w, fun b H1 q => ?_⟩⟩
  cases b with
  | true =>
    rw [if_pos rfl] at q ⊢
    exact ⟨_, fun σ' H' h => h, q⟩
  | false =>
    rw [if_neg Bool.false_ne_true] at q ⊢
    exact q
theorem PE.or {X : Cx} {e : Expr} {t u : TE} (h1 : PE X e t) (h2 : PE X e u) : PE X e (fun σ H Q => t σ H Q ∨ u σ H Q) := ⟨fun pins s σ H Q I q => q.elim (h1.run pins s σ H Q I) (h2.run pins s σ H Q I)⟩
theorem szlt {n : Nat} (h : n ≤ 100000) : n < sizeLine := Nat.lt_of_le_of_lt h (by decide)
section
variable {X : Cx} {CX : CXT} {k : Nat} {f : Addr} {fd : FuncData} {ps : List Str} {sp : Sp} {E : St → XK} {x : Str} {p pos : Pos} {e : Expr} {es : List Expr} {t : TA} {ds : List Value} {dvs : List V}
/-- a call in a try, the last parameters left out -/
theorem run_fnSd {pins : List (Addr × Obj)} {σ : St} {H : Hp} {s : Shared} {Q : VK} {us : List Value} {vs : List V} (F : FnOk X.prog X.w X.K X.mg X.base CX k f fd ps sp) (hr : Room k X.A) (hb : Binds X.K fd ps ds) (hd : Vals dvs ds) (hx : PassesAt CX X σ (E σ))
    (I : Inv X pins σ H s) (r : Vals vs us) (h : sp (vs ++ dvs) H Q (E σ)) : wpAny (model X.prog X.w) X.A (call (.ref f) us) (EP X pins σ Q) X.xe s := by
  have hl : us.length + ds.length = ps.length := by
    rw [← r.length, ← hd.length, ← List.length_append]
    exact F.len _ _ _ _ h
  refine wpAny_call (codeAny_mono (F.run X.A X.stack s H ⟨us, []⟩ (us ++ ds) (vs ++ dvs) Q (E σ) hr I.env0 (hb s us I.kIn (by first | exact hl | (rw [List.length_append]; exact hl))) (r.append hd) h) fun r s' hq => ?_)
  cases r with
  | error e => exact hx pins H s e s' I hq
  | ok fl =>
    cases fl with
    | ret u => exact I.after hq
    | next => exact False.elim hq
    | brk => exact False.elim hq
    | cont => exact False.elim hq
def tCallSd (sp : Sp) (dvs : List V) (E : St → XK) (t : TA) : TE := fun σ H Q => t σ H fun vs H1 => sp (vs ++ dvs) H1 Q (E σ)
theorem pe_callSd (F : FnOk X.prog X.w X.K X.mg X.base CX k f fd ps sp) (hr : Room k X.A) (hg : Gl X x) (hm : X.mg x = some (.ref f)) (hk : PySem.W.keepIn X.K (.ref f) = true) (hb : Binds X.K fd ps ds) (hd : Vals dvs ds) (hx : ∀ σ, PassesAt CX X σ (E σ))
    (ha : PA X (e :: es) t) (hdb : (x == ("__debug__" : Str)) = false := by decide) (he : starEach (e :: es) X.env = (false, eval e X.env) :: starEach es X.env := by rfl) (hpl : (backTo pos (starEach es X.env)).any (·.1) = false := by rfl) :
    PE X (.Call (.Name x p) (e :: es) [] pos) (tCallSd sp dvs E t) := by
  refine ⟨fun pins s σ H Q I h => ?_⟩
  refine wpAny_Call_Name_kw (ld_glob I hg hm ?_ hdb)
  refine PySem.W.callWith_K (h₀ := X.base) I.ok.mod.kin hk (thn (ha.run pos pins s σ H _ I h) fun us s1 ⟨vs, H1, I1, r, q⟩ => ⟨I1.kIn, ?_⟩) he hpl
  exact run_fnSd F hr hb hd (hx σ) I1 r q
def rCatTK (K : PySem.W.Frag) : R2 := fun x y H Q => ∃ a b xs ys, x = .ref a ∧ y = .ref b ∧ SqT K H a xs ∧ SqT K H b ys ∧ xs ≠ [] ∧ ys ≠ [] ∧ xs.length + ys.length ≤ sizeLine ∧ New (.tup (xs ++ ys)) H Q
theorem op_catTK : OpR X (binaryOp .Add) (rCatTK X.K) := OpR.imp op_catT fun x y H Q ⟨a, b, xs, ys, e1, e2, h1, h2, n1, n2, z, q⟩ => ⟨a, b, xs, ys, e1, e2, h1, h2, n1, z, fun e => absurd e n2, fun _ => q.out⟩
def rTupK (K : PySem.W.Frag) : List V → Hp → VK → Prop := fun xs H Q => ∃ p ys, xs = [.ref p] ∧ SqL K H p ys ∧ New (.tup ys) H Q
theorem call_tupleK : CallR X (.type "tuple") (rTupK X.K) := CallR.imp call_tuple_of fun xs H Q ⟨p, ys, e, h, q⟩ => ⟨p, ys, e, .inl ⟨h, q.out⟩⟩
end
end L2
/-! sorted(xs, key=lambda x: x[k]) over a list of tuples (imports: HandS.Lambda, KE.SortKeyHeap, KE.SortData, HandS.SortKw, HandS.Defaults) -/
namespace PySem.W
open PySem PySem.Spec PyProof.Rows
section
variable {prog : Program} {w : World} {A : Around} {s : Shared}
/-- the call of a lambda x: x[k], of a tuple -/
theorem lam_at {f c' t : Addr} {q x : Str} {params : Arguments} {scope : Scope} {clos : List (Str × Addr)} {pm ctv : Value} {k n : Int} {i : Nat} {tk : Tok} {items : Array Value} {p1 p2 p3 : Pos} {ki : Nat}
    (hd : A.depth < recursionLimit) (hl : s.heap.NoLimit)
    (hf : s.heap.get? f = some (kla_obj "<lambda>" q params (.Subscript (.Name x p1) (.Constant (.int k) ki p2) p3) scope clos pm c' ctv)) (hc : s.heap.CodeRec (.ref c') q)
    (hb : bindArgs (kla_fn "<lambda>" q params (.Subscript (.Name x p1) (.Constant (.int k) ki p2) p3) scope clos pm (.ref c') ctv) ⟨[.ref t], []⟩ = pure [(x, .ref t)])
    (kind : scope.kind = .function) (co : scope.isCoroutine = false) (gen : scope.isGenerator = false) (nc : ∀ y ∈ scope.names, y.2 ≠ .cell) (lx : scope.names.lookup x = some .local) (dx : (x == ("__debug__" : Str)) = false)
    (ht : IsTup s.heap t items) (hk0 : -(2 ^ 63) ≤ k) (hk1 : k < 2 ^ 63) (hi : seqIndex? k items.size = some i) (hx : items[i]? = some (.int n tk)) :
    wpAny (model prog w) A (call (.ref f) [.ref t]) (KeyPure (.int n) s) (fun _ _ => False) s := by
  refine wpAny_call (kla_callFunE hd hf rfl co gen rfl hc ?_)
  rw [hb]
  refine wpAny_pure (wpAny_newFunctionEnv nc (fun y hy => ?_) (fun h₁ hns hsb => ⟨hl.fresh _ hsb, ?_⟩) kind)
  · obtain rfl : y = (x, .ref t) := by simpa using hy
    exact lx
  have kp : ∀ b o, s.heap.get? b = some o → h₁.get? b = some o := fun b o e => hsb.extBut b o (Nat.ne_of_lt (Heap.lt_size e)) (Heap.get?_push_of_some _ e)
  refine kla_codeExpr ?_
  refine Subscript_ (wpAny_Name (wpAny_loadName_local kind lx hns (v := .ref t) ?_ ?_) dx)
  · simp
  refine wpAny_Constant_int ?_
  refine subscriptTail_builtinR (x := .int n tk) (T := "tuple") ?_ slot_tuple_getitem.lookup (getItem_tuple (items := items) (j := i) ?_ hk0 hk1 hi hx ⟨rfl, ?_⟩)
  · exact (IsTup.keeps ht kp).typeIs
  · exact IsTup.keeps ht kp
  · exact ⟨h₁, _, rfl, kp, .int n tk⟩
end
end PySem.W

namespace L2
open PySem PySem.Spec PyProof.Rows LamX PySem.W
/-- sorted(xs, key=lambda x: x[k]), xs a list of tuples -/
def tSrtLam (K : PySem.W.Frag) (T : List (Addr × Str)) (k : Int) (ta : TA) : TE := fun σ H Q => ta σ H fun vs H0 => ∃ (l : Addr) (ts : List Addr) (kf : Addr → Int), vs = [.ref l] ∧ SqL K H0 l (ts.map V.ref) ∧
  (∀ t ∈ ts, ∃ xs, SqT K H0 t xs ∧ atI xs k = some (.int (kf t))) ∧ Tabs T H0 ∧
  ∀ (p : Addr) (H1 : Hp) (out : List Addr), ExtN H0 H1 → Tabs T H1 → (∀ u, H0 p = some u → ∃ ps, u = .tbl ps) → H1 p = some (.lst (out.map V.ref)) → out.Perm ts → out.Pairwise (fun a b => kf a ≤ kf b) → Q (.ref p) H1
section
variable {X : Cx}
theorem seqL_extN {K : PySem.W.Frag} {H H' : Hp} {a : Addr} {xs : List V} (e : ExtN H H') (h : SqL K H a xs) : SqL K H' a xs := by
  rcases h with (h | ⟨o, h⟩) | h
  · exact .inl (.inl (e _ _ h (fun _ z => by cases z)))
  · exact .inl (.inr ⟨o, e _ _ h (fun _ z => by cases z)⟩)
  · exact .inr h
theorem seqT_extN {K : PySem.W.Frag} {H H' : Hp} {a : Addr} {xs : List V} (e : ExtN H H') (h : SqT K H a xs) : SqT K H' a xs := by
  rcases h with (h | ⟨o, h⟩) | h
  · exact .inl (.inl (e _ _ h (fun _ z => by cases z)))
  · exact .inl (.inr ⟨o, e _ _ h (fun _ z => by cases z)⟩)
  · exact .inr h
theorem refs_each {ts : List Addr} {us : List Value} (r : EachIs (fun (v : Value) (t : Addr) => v = .ref t) us ts) : Vals (ts.map V.ref) us := by
  induction r with
  | nil => exact .nil
  | cons h _ ih => exact .cons h ih
theorem each_refs {ts : List Addr} {us : List Value} (r : Vals (ts.map V.ref) us) : EachIs (fun (v : Value) (t : Addr) => v = .ref t) us ts := by
  induction ts generalizing us with
  | nil =>
    cases r
    exact EachIs.nil
  | cons t ts ih =>
    cases r with
    | cons h r => exact EachIs.cons h (ih r)
theorem pe_srtLam {T : List (Addr × Str)} {c P : Addr} {x y : Str} {kd : Nat} {k : Int} {ki : Nat} {params : Arguments} {scope : Scope} {a : Expr} {ta : TA} {p p1 p2 p3 lpos kpos pos : Pos} (hg : Gl X x) (hm : X.mg x = none) (hv : bootBuiltins x = some (.builtin "sorted"))
    (ha : PA X [a] ta) (TB : TabB X.base X.mg c P) (hcode : X.env.code = .ref c) (hmT : (P, X.env.qual ++ "<lambda>") ∈ T) (hu : ∀ p ∈ T, p.1 = P → p.2 = X.env.qual ++ "<lambda>") (hr : Room kd X.A)
    (hdef : defaultsOf params X.env = ([], [])) (nf : ∀ z ∈ scope.names, z.2 ≠ .free)
    (kind : scope.kind = .function) (co : scope.isCoroutine = false) (gen : scope.isGenerator = false) (nc : ∀ z ∈ scope.names, z.2 ≠ .cell) (lx : scope.names.lookup y = some .local) (dx : (y == ("__debug__" : Str)) = false)
    (hbind : ∀ (q : Str) (cl : List (Str × Addr)) (pm cv ctv u : Value), bindArgs (PySem.W.kla_fn "<lambda>" q params (.Subscript (.Name y p1) (.Constant (.int k) ki p2) p3) scope cl pm cv ctv) ⟨[u], []⟩ = pure [(y, u)])
    (hk0 : -(2 ^ 63) ≤ k) (hk1 : k < 2 ^ 63) (hn : x ≠ "__name__" := by decide) (hdb : (x == ("__debug__" : Str)) = false := by decide)
    (he : backTo pos (starEach [a] X.env) = (false, eval a X.env) :: backTo pos (starEach [] X.env) := by rfl) (hpl : (backTo pos (starEach [a] X.env)).any (·.1) = false := by rfl) :
    PE X (.Call (.Name x p) [a] [⟨some "key", .Lambda params (.Subscript (.Name y p1) (.Constant (.int k) ki p2) p3) scope lpos, kpos⟩] pos) (tSrtLam X.K T k ta) := by
  refine ⟨fun pins s σ H Q I h => ?_⟩
  refine wpAny_Call_Name_kw (ld_blt I hg hm hv ?_ hn hdb)
  refine PyProof.Rows.callWith_kw (thn (ha.run pos pins s σ H _ I h) fun us s1 ⟨vs, H1, I1, r1, q1⟩ => ?_) he hpl (by rfl) (by rfl)
  obtain ⟨l, ts, kf, rfl, hs, hk, hT, q⟩ := q1
  obtain rfl := Vals.ref1 r1
  show wpAny _ _ (evalAll ((do let v ← eval (.Lambda params (.Subscript (.Name y p1) (.Constant (.int k) ki p2) p3) scope lpos) X.env; standAt pos; pure v) :: (backToKw pos (keywordEach [] X.env)).map (·.2))) _ _ s1
  refine wpAny_evalAll_cons (wpAny_bind (lam_make2 I1 TB hcode hmT hu hT hdef (fun z hz e => absurd e (nf z hz)) fun f c' pm ctv H2 s2 I2 eN T2 hf hfn hfr hco => wpAny_bind (wpAny_standAt (wpAny_pure (wpAny_evalAll_nil ?_)))))
  show wpAny _ _ (call (.builtin "sorted") [.ref l] [(Str.ofString "key", .ref f)]) _ _ _
  obtain ⟨its, rv, hl, hz⟩ := I2.list (seqL_extN eN hs)
  rw [List.length_map] at hz
  have hnl := I2.nolimit
  obtain ⟨⟨oc, vs', tq, e1, e2, e3⟩, _⟩ := I2.hok c' _ hco
  refine PySem.W.sorted_key_data (β := Addr) (bs := ts) (R := fun v t => v = .ref t) (b := false) (k := fun t => .int (kf t)) hl.isList (each_refs rv) ?_ ?_ hz ?_ (ksk_s1 _ _) (fun _ => ksk_l1 _ _) (fun z => ksk_t1 f z) ?_ ?_
  · intro d hd d' hd'
    obtain ⟨_, _, rfl⟩ := List.mem_map.mp hd
    obtain ⟨_, _, rfl⟩ := List.mem_map.mp hd'
    rfl
  · refine .inr fun d hd => ?_
    obtain ⟨_, _, rfl⟩ := List.mem_map.mp hd
    exact ⟨(fun z => by cases z), (fun xs z => by cases z)⟩
  · intro z _
    have := hr.un
    show X.A.units + 2 + PyData.depth (.int (kf z)) < cLine
    rw [show PyData.depth (.int (kf z)) = 0 from rfl]
    omega
  · rintro v t rfl ht h tk kp
    obtain ⟨xs, hx1, hx2⟩ := hk t ht
    obtain ⟨its2, r2, pl, hz2⟩ := I2.tuple (seqT_extN eN hx1)
    obtain ⟨j, h1, h2, h3, h4, h5⟩ := atI_get hx2
    obtain ⟨w', ew, rw'⟩ := r2.get h2
    obtain ⟨tk', rfl⟩ := rw'
    have hl2 := r2.length
    refine lam_at (s := { s2 with heap := h, toks := tk }) (i := j) (items := its2.toArray) (tk := tk') (by show X.A.depth < recursionLimit; exact hr.depth) (hnl.keeps kp) (kp _ _ hf) ⟨c', oc, vs', tq, rfl, kp _ _ e1, e2, e3⟩ (hbind _ _ _ _ _ _) kind co gen nc lx dx (IsTup.keeps pl kp) hk0 hk1 (by rw [List.size_toArray, ← hl2]; exact h1) (by simpa using ew)
  · intro out c0 h' tk kp fresh hnew hlen hout
    have hS : H2 (s2.heap.objs.size + 1) = none := I2.hok.fresh (Nat.le_succ _)
    rw [dataLe_int] at hout
    refine ⟨.ref _, upd H2 (s2.heap.objs.size + 1) (.lst ((ts.mergeSort fun a b => decide (kf a ≤ kf b)).map V.ref)), I2.laid kp (Nat.le_succ _) ⟨by rw [List.length_map, List.length_mergeSort]; exact hz, _, c0, refs_each hout, hnew⟩, rfl, ?_⟩
    refine q _ _ _ (fun b o e n => by rw [upd_ne (ne_of_none (eN _ _ e n) hS)]; exact eN _ _ e n) (T2.ext fun b o e => by rw [upd_ne (ne_of_none e hS)]; exact e) (fun u e => ?_) upd_same (List.mergeSort_perm _ _) ?_
    · by_cases hq : ∃ ps, u = .tbl ps
      · exact hq
      · have := eN _ _ e (fun ps z => hq ⟨ps, z⟩)
        rw [hS] at this
        cases this
    · have := List.pairwise_mergeSort (le := fun a b => decide (kf a ≤ kf b)) (fun a b c x y => by simp only [decide_eq_true_eq] at *; omega) (fun a b => by simp only [Bool.or_eq_true, decide_eq_true_eq]; omega) ts
      exact this.imp fun z => of_decide_eq_true z
end
end L2

/-! a def whose code object and table are told (for a lambda made in it); the end of a law with one such def -/
namespace L2
open PySem PySem.Spec PyProof.Rows LamX
/-- the rule for a def whose code object is told -/
theorem FunD.okC {P : Program} {w : World} {K : PySem.W.Frag} {mg : Str → Option Value} {base : Heap} {x qual : Str} {params : Arguments} {body : List Stmt} {scope : Scope} {dvs : List V} {kws : List (Str × V)} {fd : FuncData} {q : He.Defn} {CX : CXT} {N ps : List Str} {k : Nat} {sp : Sp}
    (F : FunD K x qual params body scope dvs kws (He.fAd K q) fd) (S : FnScope N ps scope) (len : ∀ vs H Q E, sp vs H Q E → vs.length = ps.length)
    (hbody : ∀ (cdv : Value) (A : Around) (outer : List Env) (s : Shared) (H : Hp) (vs : List V) (Q : VK) (E : XK), cdv = .ref (He.cT K q).1 → Room k (A.deeper (envOfC qual scope s.heap.objs.size (He.fAd K q) cdv)) → sp vs H Q E →
      ∃ t, PSs (cxOf CX P w K mg base N qual scope (He.fAd K q) cdv A outer s H E) body t ∧ t { nx := fun _ H' => Q .non H', rt := Q } (start N vs) H) : FnOk P w K mg base CX (k + 1) (He.fAd K q) fd ps sp := by
  obtain ⟨oc, od, dV, kV, doc, pm, an, cdv, ct, osl, rfl, lk, hcd, _, _⟩ := F.ex
  obtain ⟨c, rfl⟩ := He.codeIn_ref hcd
  have e : (He.cT K q).1 = c := He.codeOf_eq lk rfl
  exact fn_of lk hcd S len fun A outer s H vs Q E hr hsp => hbody _ A outer s H vs Q E (by rw [e]) hr hsp
end L2

/-! x not in a list, by data -/
namespace L2
open PySem PySem.Spec PyProof.Rows
theorem room65 {k : Nat} {A : Around} (r : Room k A) : A.units + 65 < cLine := by
  have h := r.un
  omega
def rNotInLD (K : PySem.W.Frag) : R2 := fun x y H Q => ∃ p xs d ds, y = .ref p ∧ SqL K H p xs ∧ Dp K H x d ∧ DpAll K H xs ds ∧ SeqAt.shaped d = true ∧ SeqAt.shaped (.list ds) = true ∧ Q (.bl (!(ds.any fun z => PyData.eqv z d))) H
theorem op_notInLD {X : Cx} (hu : X.A.units + 65 < cLine) : OpR X (compareOp .NotIn) (rNotInLD X.K) := by
  intro pins s σ H x y v u Q I rx ry ⟨p, xs, d, ds, ey, hq, hx, hxs, sd, sl, q⟩
  subst ey
  cases ry
  obtain ⟨its, r, pl, hz⟩ := I.list hq
  obtain ⟨as, h4⟩ := Dp.readsAll I ds xs its hxs r
  obtain ⟨bs, r1⟩ := Dp.reads I d x v hx rx
  have hc : PyData.canLayAll0 ds = true := SeqAt.canLay_of_shaped sl
  have e : its.toArray.any (fun u => PyData.eqv (SeqAt.readOf s.heap u) d) = ds.any fun z => PyData.eqv z d := by
    rw [← SeqAt.readsAll_map ds its as hc h4]
    simp [List.any_map, Function.comp_def]
  refine SeqAt.notIn_listAt (fun u => PyData.eqv (SeqAt.readOf s.heap u) d) pl.isList (SeqAt.items_eqAt (vs := its.toArray) (show ReadsAll s.heap its.toArray.toList ds as from h4) r1 hc (SeqAt.canLay_of_shaped sd) (room_in_shaped sd hu)) ⟨.bl _, H, I, rfl, ?_⟩
  rw [e]
  exact q
end L2

/-! xs[::-1], the new list named (imports: HandS.Style) -/
namespace L2
open PySem PySem.Spec PyProof.Rows
section
variable {X : Cx}
def tRevLK (K : PySem.W.Frag) (te : TE) : TE := fun σ H Q => te σ H fun x H1 => ∃ a xs, x = .ref a ∧ SqL K H1 a xs ∧ New (.lst xs.reverse) H1 Q
theorem pe_revLK {e : Expr} {te : TE} {k : Nat} {p1 p2 p3 pos : Pos} (he : PE X e te) : PE X (.Subscript e (.Slice none none (some (.UnaryOp .USub (.Constant (.int 1) k p1) p2)) p3) pos) (tRevLK X.K te) :=
  (pe_revL he.up).imp fun σ H Q q => ⟨_, q, fun x H1 ⟨a, xs, e, h, r⟩ => ⟨a, xs, e, h, r.out⟩⟩
end
end L2

local macro_rules | `(tactic| walk_at "hp") => `(tactic| first
  | assumption
  | (apply L2.Same.at; assumption; walk_at "hp")
  | (apply L2.But.at; assumption; (walk_at "ne"); walk_at "hp")
  | (apply L2.But.kind; assumption; (walk_at "hp"); (walk_at "hp"); (intro z; cases z))
  | (apply L2.But2.at; assumption; (walk_at "ne"); (walk_at "ne"); walk_at "hp"))
local macro_rules | `(tactic| walk_at "ne") => `(tactic| first
  | assumption
  | exact Ne.symm (by assumption)
  | exact L2.neF (by assumption) (by walk_at "hp")
  | exact L2.neF2 (by assumption) (by walk_at "hp"))
local macro_rules | `(tactic| walk_at "sm") => `(tactic| first
  | exact L2.Same.refl _
  | assumption
  | (refine L2.Same.trans ?_ (by assumption); walk_at "sm")
  | (refine L2.Same.but ?_ (by assumption) (by walk_at "fr"); walk_at "sm"))
local macro_rules | `(tactic| walk_at "fr") => `(tactic| first
  | assumption
  | exact L2.Fr.back (by assumption) (by walk_at "sm"))
local macro_rules | `(tactic| walk_at "bt") => `(tactic| first
  | assumption
  | (refine L2.But.same ?_ (by assumption); walk_at "bt")
  | exact L2.But.before (by assumption) (by walk_at "sm")
  | (refine L2.But.trans ?_ (by assumption); walk_at "bt"))
local macro_rules | `(tactic| walk_at "b2") => `(tactic| first
  | assumption
  | exact L2.But2.refl
  | (refine L2.But2.trans ?_ (L2.Same.two (by assumption)); walk_at "b2")
  | (refine L2.But2.trans ?_ (L2.But.two (by assumption)); walk_at "b2")
  | (refine L2.But2.trans ?_ (L2.But.two' (by assumption)); walk_at "b2")
  | (refine L2.But2.trans ?_ (by assumption); walk_at "b2"))
local macro_rules | `(tactic| walk_at "sz") => `(tactic| first
  | exact Nat.le_of_ble_eq_true rfl
  | ((try simp only [List.length_append, List.length_map, List.length_cons, List.length_nil, List.length_take, List.length_drop, List.length_dropLast, List.length_reverse]); omega))
local macro_rules | `(tactic| walk_at "at") => `(tactic| first
  | rfl
  | assumption
  | exact L2.atI_nat (by first | rfl | assumption))
/-! ### the words of a reading: sd a side condition, rd one step, rds as many as go by themselves, ri a test -/
local macro_rules | `(tactic| walk_at "sd") => `(tactic| first
  | omega
  | (show (0 : Int) < _; omega)
  | (show (0 : Int) ≤ _; omega)
  | exact .inl ⟨by omega, by omega⟩
  | exact .inr ⟨by omega, by omega⟩
  | exact ⟨by decide, by decide⟩
  | exact ⟨by omega, by omega⟩
  | exact L2.small_size (Nat.le_of_ble_eq_true rfl)
  | exact L2.wide_div (b := 64) (by omega) (by omega) (by decide) (by decide)
  | assumption
  | exact ⟨_, by assumption⟩
  | exact .of (by walk_at "hp")
  | exact .inl (.of (by walk_at "hp"))
  | exact .inr (.of (by walk_at "hp"))
  | walk_at "hp"
  | exact L2.szlt (by walk_at "sz"))
local macro_rules | `(tactic| walk_at "rd") => `(tactic| first
  | refine ⟨_, rfl, ?_⟩
  | refine ⟨_, _, rfl, rfl, ?_⟩
  | refine ⟨_, _, rfl, ?_⟩
  | refine ⟨_, _, _, rfl, ?_⟩
  | refine ⟨_, _, _, _, rfl, ?_⟩
  | refine ⟨_, _, _, _, _, rfl, ?_⟩
  | refine ⟨_, _, _, _, _, _, rfl, ?_⟩
  | refine ⟨rfl, ?_⟩
  | refine L2.iteF ?_
  | refine L2.iteT ?_
  | refine And.intro (by walk_at "sd") ?_
  | refine ⟨_, _, _, _, true, rfl, .ty _, .base (.int _), L2.kit_ty (by decide +kernel), ?_⟩
  | refine ⟨_, _, _, _, false, rfl, .ty _, .base (.int _), L2.kit_ty (by decide +kernel), ?_⟩
  | refine ⟨_, _, _, _, true, rfl, .ty _, .base (.bl _), L2.kit_ty (by decide +kernel), ?_⟩
  | refine ⟨_, _, _, _, false, rfl, .ty _, .base (.bl _), L2.kit_ty (by decide +kernel), ?_⟩
  | refine ⟨_, _, _, _, true, rfl, .ty _, .base (.str _), L2.kit_ty (by decide +kernel), ?_⟩
  | refine ⟨_, _, _, _, false, rfl, .ty _, .base (.str _), L2.kit_ty (by decide +kernel), ?_⟩
  | refine ⟨_, _, _, _, true, rfl, .ty _, .base .non, L2.kit_ty (by decide +kernel), ?_⟩
  | refine ⟨_, _, _, _, false, rfl, .ty _, .base .non, L2.kit_ty (by decide +kernel), ?_⟩)
local macro_rules | `(tactic| walk_at "rds") => `(tactic| repeat walk_at "rd")
local macro_rules | `(tactic| walk_at "rz") => `(tactic| repeat first
  | walk_at "rd"
  | refine fun (_ : Int) => ?_
  | refine fun (_ : (_ : Int) ≤ _) => ?_
  | refine fun (_ : (_ : Int) < _) => ?_)
local macro_rules | `(tactic| walk_at "ri") => `(tactic| first
  | refine L2.iteV ?_ ?_
  | refine L2.iteNV ?_ ?_
  | refine L2.iteD ?_ ?_
  | refine L2.iteND ?_ ?_
  | refine L2.iteB ?_ ?_)
local macro_rules | `(tactic| walk_at "nf") => `(tactic| try dsimp only [L2.start, List.set_cons_zero, List.set_cons_succ])
local macro_rules | `(tactic| walk_at "g94len") => `(tactic| (intro vs H Q E h; first
  | exact False.elim h
  | (obtain ⟨e, _⟩ := h; exact congrArg List.length e)
  | (obtain ⟨_, e, _⟩ := h; exact congrArg List.length e)
  | (obtain ⟨_, _, e, _⟩ := h; exact congrArg List.length e)
  | (obtain ⟨_, _, _, e, _⟩ := h; exact congrArg List.length e)
  | (obtain ⟨_, _, _, _, e, _⟩ := h; exact congrArg List.length e)
  | (obtain ⟨_, _, _, _, _, e, _⟩ := h; exact congrArg List.length e)
  | (obtain ⟨_, _, _, _, _, _, e, _⟩ := h; exact congrArg List.length e)
  | (obtain ⟨_, _, _, _, _, _, _, e, _⟩ := h; exact congrArg List.length e)
  | (obtain ⟨_, _, _, _, _, _, _, _, e, _⟩ := h; exact congrArg List.length e)
  | (obtain ⟨_, _, _, _, _, _, _, _, _, e, _⟩ := h; exact congrArg List.length e)
  | (obtain ⟨_, _, _, _, _, _, _, _, _, _, e, _⟩ := h; exact congrArg List.length e)
  | (obtain ⟨_, _, _, _, _, _, _, _, _, _, _, e, _⟩ := h; exact congrArg List.length e)
  | (obtain ⟨_, _, _, _, _, _, _, _, _, _, _, _, e, _⟩ := h; exact congrArg List.length e)
  | (obtain ⟨_, _, _, _, _, _, _, _, _, _, _, _, _, e, _⟩ := h; exact congrArg List.length e)
  | (obtain ⟨_, _, _, _, _, _, _, _, _, _, _, _, _, _, e, _⟩ := h; exact congrArg List.length e)))
local macro_rules | `(tactic| walk_at "g94tr") => `(tactic| (set_option pp.deepTerms false in set_option pp.deepTerms.threshold 8 in trace_state))
local macro_rules | `(tactic| walk_at "wk") => `(tactic| first
  | walk_at "rd"
  | refine ⟨_, _, _, _, rfl, rfl, .of (by walk_at "hp"), (by walk_at "at"), ?_⟩
  | refine ⟨_, _, _, _, _, rfl, (by walk_at "hp"), (by assumption), (by assumption), (by walk_at "lk"), ?_⟩
  | refine ⟨_, _, _, rfl, rfl, (by walk_at "hp"), L2.szlt (by walk_at "sz"), ?_⟩
  | refine ⟨_, _, _, rfl, (by walk_at "hp"), (by walk_at "lk"), ?_⟩
  | refine ⟨_, _, _, _, rfl, (by walk_at "hp"), (by assumption), (by assumption), Nat.le_of_ble_eq_true rfl, _, (by walk_at "pf"), ?_⟩
  | refine ⟨_, _, _, _, true, rfl, .ty _, .base (.lst (by walk_at "hp")), L2.kit_ty (by decide +kernel), ?_⟩
  | refine ⟨_, _, _, _, true, rfl, .ty _, .base (.tup (by walk_at "hp")), L2.kit_ty (by decide +kernel), ?_⟩
  | refine ⟨_, _, _, _, true, rfl, .ty _, .base (.dK (by walk_at "hp")), L2.kit_ty (by decide +kernel), ?_⟩
  | refine ⟨_, _, _, rfl, (by walk_at "hp"), ?_⟩
  | refine ⟨_, _, rfl, (by walk_at "hp"), ?_⟩
  | refine ⟨.inl ⟨rfl, _, .of (by walk_at "hp")⟩, ?_⟩
  | refine ⟨_, _, rfl, .inl (.of (by walk_at "hp")), ?_⟩
  | refine ⟨_, _, rfl, .of (by walk_at "hp"), ?_⟩
  | refine ⟨_, _, _, _, rfl, rfl, (by walk_at "hp"), (by walk_at "hp"), L2.small_size (by walk_at "sz"), ?_⟩
  | refine ⟨_, _, _, rfl, rfl, (by walk_at "hp"), ⟨by decide, by decide, L2.small_size (by walk_at "sz")⟩, ?_⟩
  | refine fun p H' (f : L2.Fr _ _) (s : L2.Same _ _) (h : _ = some _) => ?_
  | refine fun H' (m : L2.But _ _ _) (h : _ = some _) => ?_)
local macro_rules | `(tactic| walk_at "wks") => `(tactic| repeat walk_at "wk")
local macro_rules | `(tactic| walk_at "lk") => `(tactic| first
  | exact L2.lkE (by decide +kernel)
  | exact L2.lkN (by decide +kernel) (by walk_at "lk")
  | rfl
  | assumption)
local macro_rules | `(tactic| walk_at "pf") => `(tactic| first
  | exact L2.pfNil
  | exact L2.pfE (by decide +kernel)
  | exact L2.pfN (by decide +kernel) (by walk_at "pf"))
namespace G94
open PySem PySem.Spec PyProof.Rows L2
def top (i : Nat) : Stmt := PySem.Challenge.pw_lampcues_k82_marks.main.body.getD i (.Pass ⟨0, 0, 0, 0⟩)
abbrev s_marks : Stmt := top 1
theorem sc_marks : FnScope ["some", "numbers", "apart", "wish"] ["some"] (defScope s_marks) := ⟨rfl, rfl, rfl, by decide +kernel, rfl, by decide +kernel, by decide +kernel⟩
abbrev s_l_drawn : Stmt := top 3
theorem sc_l_drawn : FnScope ["_law_script", "_law_k"] ["_law_script", "_law_k"] (defScope s_l_drawn) := ⟨rfl, rfl, rfl, by decide +kernel, rfl, by decide +kernel, by decide +kernel⟩
abbrev s_l_whole : Stmt := top 4
theorem sc_l_whole : FnScope ["_law_found"] ["_law_found"] (defScope s_l_whole) := ⟨rfl, rfl, rfl, by decide +kernel, rfl, by decide +kernel, by decide +kernel⟩
abbrev s_l_wish : Stmt := top 5
theorem sc_l_wish : FnScope ["_law_number", "_law_other", "_law_first", "_law_last", "_law_more", "_law_lamp"] ["_law_number", "_law_other"] (defScope s_l_wish) := ⟨rfl, rfl, rfl, by decide +kernel, rfl, by decide +kernel, by decide +kernel⟩
abbrev s_l_wishes : Stmt := top 6
theorem sc_l_wishes : FnScope ["_law_script", "_law_found", "_law_k", "_law_number", "_law_other", "_law_twice"] ["_law_script"] (defScope s_l_wishes) := ⟨rfl, rfl, rfl, by decide +kernel, rfl, by decide +kernel, by decide +kernel⟩
abbrev s_l_good : Stmt := top 7
theorem sc_l_good : FnScope ["_law_found", "_law_some", "_law_numbers", "_law_apart", "_law_lasts", "_law_k", "_law_j", "_law_wish_here", "_law_number"] ["_law_found", "_law_some"] (defScope s_l_good) := ⟨rfl, rfl, rfl, by decide +kernel, rfl, by decide +kernel, by decide +kernel⟩
abbrev s_l_chosen : Stmt := top 8
theorem sc_l_chosen : FnScope ["_law_some", "_law_script", "_law_found", "_law_k", "_law_wide"] ["_law_some", "_law_script"] (defScope s_l_chosen) := ⟨rfl, rfl, rfl, by decide +kernel, rfl, by decide +kernel, by decide +kernel⟩
abbrev s_law : Stmt := top 9
theorem sc_law : FnScope ["_law_script", "_law_some", "_law_handed", "_law_found", "_law_many", "_law_again"] ["_law_script"] (defScope s_law) := ⟨rfl, rfl, rfl, by decide +kernel, rfl, by decide +kernel, by decide +kernel⟩
def d_marks : He.DefD := ⟨("marks", none), "marks", "marks", defArgs s_marks, defBody s_marks, defScope s_marks, [], []⟩
def d_l_drawn : He.DefD := ⟨("_law_drawn", none), "_law_drawn", "_law_drawn", defArgs s_l_drawn, defBody s_l_drawn, defScope s_l_drawn, [], []⟩
def d_l_whole : He.DefD := ⟨("_law_whole", none), "_law_whole", "_law_whole", defArgs s_l_whole, defBody s_l_whole, defScope s_l_whole, [], []⟩
def d_l_wish : He.DefD := ⟨("_law_wish", none), "_law_wish", "_law_wish", defArgs s_l_wish, defBody s_l_wish, defScope s_l_wish, [], []⟩
def d_l_wishes : He.DefD := ⟨("_law_wishes", none), "_law_wishes", "_law_wishes", defArgs s_l_wishes, defBody s_l_wishes, defScope s_l_wishes, [], []⟩
def d_l_good : He.DefD := ⟨("_law_good", none), "_law_good", "_law_good", defArgs s_l_good, defBody s_l_good, defScope s_l_good, [], []⟩
def d_l_chosen : He.DefD := ⟨("_law_chosen", none), "_law_chosen", "_law_chosen", defArgs s_l_chosen, defBody s_l_chosen, defScope s_l_chosen, [], []⟩
def d_law : He.DefD := ⟨("law", none), "law", "law", defArgs s_law, defBody s_law, defScope s_law, [], []⟩
def fn : List He.DefD := [d_marks, d_l_drawn, d_l_whole, d_l_wish, d_l_wishes, d_l_good, d_l_chosen, d_law]
def fa : List He.Fa := [.glo "marks", .glo "_law_drawn", .glo "_law_whole", .glo "_law_wish", .glo "_law_wishes", .glo "_law_good", .glo "_law_chosen", .glo "law", .free "len", .free "min", .free "isinstance", .free "int", .free "bool", .free "range", .free "list", .free "tuple", .free "sorted"]
/-- what the top leaves -/
structure Txt (K : PySem.W.Frag) (mg : Str → Option Value) : Prop where
  c : He.SaysD fa fn K
  hp : ∃ h : Heap, K.In h ∧ h.Ns mainGlobals mg
section
variable {K : PySem.W.Frag} {mg : Str → Option Value}
theorem glo_marks (T : Txt K mg) : mg "marks" = some (.ref (He.ga K "marks")) := by
  obtain ⟨h, X, G⟩ := T.hp
  exact He.glo_ok X G (T.c.fact 0 rfl)
theorem glo__law_drawn (T : Txt K mg) : mg "_law_drawn" = some (.ref (He.ga K "_law_drawn")) := by
  obtain ⟨h, X, G⟩ := T.hp
  exact He.glo_ok X G (T.c.fact 1 rfl)
theorem glo__law_whole (T : Txt K mg) : mg "_law_whole" = some (.ref (He.ga K "_law_whole")) := by
  obtain ⟨h, X, G⟩ := T.hp
  exact He.glo_ok X G (T.c.fact 2 rfl)
theorem glo__law_wish (T : Txt K mg) : mg "_law_wish" = some (.ref (He.ga K "_law_wish")) := by
  obtain ⟨h, X, G⟩ := T.hp
  exact He.glo_ok X G (T.c.fact 3 rfl)
theorem glo__law_wishes (T : Txt K mg) : mg "_law_wishes" = some (.ref (He.ga K "_law_wishes")) := by
  obtain ⟨h, X, G⟩ := T.hp
  exact He.glo_ok X G (T.c.fact 4 rfl)
theorem glo__law_good (T : Txt K mg) : mg "_law_good" = some (.ref (He.ga K "_law_good")) := by
  obtain ⟨h, X, G⟩ := T.hp
  exact He.glo_ok X G (T.c.fact 5 rfl)
theorem glo__law_chosen (T : Txt K mg) : mg "_law_chosen" = some (.ref (He.ga K "_law_chosen")) := by
  obtain ⟨h, X, G⟩ := T.hp
  exact He.glo_ok X G (T.c.fact 6 rfl)
theorem glo_law (T : Txt K mg) : mg "law" = some (.ref (He.ga K "law")) := by
  obtain ⟨h, X, G⟩ := T.hp
  exact He.glo_ok X G (T.c.fact 7 rfl)
theorem free_len (T : Txt K mg) : mg "len" = none := by
  obtain ⟨h, X, G⟩ := T.hp
  exact He.free_ok X G (T.c.fact 8 rfl)
theorem free_min (T : Txt K mg) : mg "min" = none := by
  obtain ⟨h, X, G⟩ := T.hp
  exact He.free_ok X G (T.c.fact 9 rfl)
theorem free_isinstance (T : Txt K mg) : mg "isinstance" = none := by
  obtain ⟨h, X, G⟩ := T.hp
  exact He.free_ok X G (T.c.fact 10 rfl)
theorem free_int (T : Txt K mg) : mg "int" = none := by
  obtain ⟨h, X, G⟩ := T.hp
  exact He.free_ok X G (T.c.fact 11 rfl)
theorem free_bool (T : Txt K mg) : mg "bool" = none := by
  obtain ⟨h, X, G⟩ := T.hp
  exact He.free_ok X G (T.c.fact 12 rfl)
theorem free_range (T : Txt K mg) : mg "range" = none := by
  obtain ⟨h, X, G⟩ := T.hp
  exact He.free_ok X G (T.c.fact 13 rfl)
theorem free_list (T : Txt K mg) : mg "list" = none := by
  obtain ⟨h, X, G⟩ := T.hp
  exact He.free_ok X G (T.c.fact 14 rfl)
theorem free_tuple (T : Txt K mg) : mg "tuple" = none := by
  obtain ⟨h, X, G⟩ := T.hp
  exact He.free_ok X G (T.c.fact 15 rfl)
theorem free_sorted (T : Txt K mg) : mg "sorted" = none := by
  obtain ⟨h, X, G⟩ := T.hp
  exact He.free_ok X G (T.c.fact 16 rfl)
end
section
variable {K : PySem.W.Frag} {mg : Str → Option Value}


end
section
variable {P : Program} {w : World} {K : PySem.W.Frag} {mg : Str → Option Value} {base : Heap}
def spWhole : Sp := fun vs H Q _ => ∃ n : Int, vs = [.int n] ∧ Q (.bl true) H
theorem ok_l_whole (T : Txt K mg) : ∃ fd, FnOk P w K mg base CX0 1 (He.fAd K ("_law_whole", none)) fd ["_law_found"] spWhole ∧ FunD K "_law_whole" "_law_whole" (defArgs s_l_whole) (defBody s_l_whole) (defScope s_l_whole) [] [] (He.fAd K ("_law_whole", none)) fd := by
  obtain ⟨fd, F⟩ := T.c.def_ 2 (d := d_l_whole) rfl
  refine ⟨fd, F.ok sc_l_whole (by walk_at "g94len") (fun cdv A outer st H vs Q E hr h => ?_), F⟩
  · obtain ⟨n, rfl, k⟩ := h
    refine ⟨_, PSs.nox (pss_one (ps_ret (pe_and (pe_callB call_isi (by rfl) (free_isinstance T) (by decide +kernel) (pa_cons (pv 0) (pa_cons (pe_bltn (v := .ty "int") (by rfl) (free_int T) (by decide +kernel) rfl) pa_nil))) (pe_one (pe_not (pe_callB call_isi (by rfl) (free_isinstance T) (by decide +kernel) (pa_cons (pv 0) (pa_cons (pe_bltn (v := .ty "bool") (by rfl) (free_bool T) (by decide +kernel) rfl) pa_nil)))))))), ?_⟩
    walk_at "rds"
    exact k

/-! ### plain: the greedy choice of numbers -/
section
variable {α : Type} (fa la : α → Int)
/-- does w stand apart from all that was chosen? -/
def far (ap : List α) (w : α) : Bool := match ap.getLast? with
  | none => true
  | some z => decide (la z < fa w)
def pick : List α → List α → List α
  | [], ap => ap
  | w :: r, ap => if far fa la ap w = true then pick r (ap ++ [w]) else pick r ap
structure Chosen (done ap : List α) : Prop where
  sub : ∀ z ∈ ap, z ∈ done
  apart : ap.Pairwise (fun x y => la x < fa y)
  hit : ∀ w ∈ done, ∃ z ∈ ap, fa w ≤ la z ∧ la z ≤ la w
theorem last_le {ap : List α} (hw : ∀ z ∈ ap, fa z ≤ la z) (h : ap.Pairwise (fun x y => la x < fa y)) {z : α} (hz : ap.getLast? = some z) : ∀ x ∈ ap, la x ≤ la z := by
  obtain ⟨l, rfl⟩ := List.getLast?_eq_some_iff.mp hz
  intro x hx
  rcases List.mem_append.mp hx with hx | hx
  · have h1 := (List.pairwise_append.mp h).2.2 x hx z (List.mem_singleton.mpr rfl)
    have h2 := hw z (List.mem_append_right _ (List.mem_singleton.mpr rfl))
    omega
  · rw [List.mem_singleton.mp hx]
    exact Int.le_refl _
theorem step_chosen {done ap : List α} {w : α} (hw : ∀ z ∈ done, fa z ≤ la z) (hww : fa w ≤ la w) (hs : ∀ z ∈ done, la z ≤ la w) (c : Chosen fa la done ap) :
    Chosen fa la (done ++ [w]) (if far fa la ap w = true then ap ++ [w] else ap) := by
  have hap : ∀ z ∈ ap, fa z ≤ la z := fun z hz => hw z (c.sub z hz)
  by_cases hf : far fa la ap w = true
  · rw [if_pos hf]
    refine ⟨fun z hz => ?_, ?_, fun v hv => ?_⟩
    · rcases List.mem_append.mp hz with hz | hz
      · exact List.mem_append_left _ (c.sub z hz)
      · exact List.mem_append_right _ hz
    · refine List.pairwise_append.mpr ⟨c.apart, List.pairwise_singleton _ _, fun x hx y hy => ?_⟩
      rw [List.mem_singleton.mp hy]
      unfold far at hf
      cases hl : ap.getLast? with
      | none =>
        rw [List.getLast?_eq_none_iff] at hl
        rw [hl] at hx
        cases hx
      | some z =>
        rw [hl] at hf
        have h1 := last_le fa la hap c.apart hl x hx
        have h2 : la z < fa w := of_decide_eq_true hf
        omega
    · rcases List.mem_append.mp hv with hv | hv
      · obtain ⟨z, hz, h1, h2⟩ := c.hit v hv
        exact ⟨z, List.mem_append_left _ hz, h1, h2⟩
      · rw [List.mem_singleton.mp hv]
        exact ⟨w, List.mem_append_right _ (List.mem_singleton.mpr rfl), hww, Int.le_refl _⟩
  · rw [if_neg hf]
    refine ⟨fun z hz => List.mem_append_left _ (c.sub z hz), c.apart, fun v hv => ?_⟩
    rcases List.mem_append.mp hv with hv | hv
    · exact c.hit v hv
    · rw [List.mem_singleton.mp hv]
      unfold far at hf
      cases hl : ap.getLast? with
      | none =>
        rw [hl] at hf
        exact absurd rfl hf
      | some z =>
        rw [hl] at hf
        have h2 : ¬ la z < fa w := fun q => hf (decide_eq_true q)
        have hm := List.mem_of_getLast? hl
        exact ⟨z, hm, by omega, hs z (c.sub z hm)⟩
theorem pick_chosen : ∀ (r done ap : List α), (∀ z ∈ done ++ r, fa z ≤ la z) → (done ++ r).Pairwise (fun a b => la a ≤ la b) → Chosen fa la done ap → Chosen fa la (done ++ r) (pick fa la r ap)
  | [], done, ap, _, _, c => by
    rw [List.append_nil]
    exact c
  | w :: r, done, ap, hw, hs, c => by
    have e : done ++ w :: r = done ++ [w] ++ r := by simp
    have h := step_chosen fa la (w := w) (fun z hz => hw z (List.mem_append_left _ hz)) (hw w (by simp)) (fun z hz => (List.pairwise_append.mp hs).2.2 z hz w (by simp)) c
    rw [e] at hw hs ⊢
    unfold pick
    by_cases hf : far fa la ap w = true
    · rw [if_pos hf] at h ⊢
      exact pick_chosen r _ _ hw hs h
    · rw [if_neg hf] at h ⊢
      exact pick_chosen r _ _ hw hs h
theorem pick_all {l : List α} (hw : ∀ z ∈ l, fa z ≤ la z) (hs : l.Pairwise (fun a b => la a ≤ la b)) : Chosen fa la l (pick fa la l []) :=
  pick_chosen fa la l [] [] (by simpa using hw) (by simpa using hs) ⟨by simp, List.Pairwise.nil, by simp⟩
theorem fewer {β : Type} [DecidableEq β] : ∀ {l m : List β}, l.Nodup → (∀ x ∈ l, x ∈ m) → l.length ≤ m.length
  | [], _, _, _ => Nat.zero_le _
  | x :: l, m, hn, h => by
    have hx := h x List.mem_cons_self
    obtain ⟨h1, h2⟩ := List.nodup_cons.mp hn
    have ih := fewer (m := m.erase x) h2 fun y hy => (List.mem_erase_of_ne (fun e => h1 (by rw [← e]; exact hy))).mpr (h y (List.mem_cons_of_mem _ hy))
    have hl := List.length_erase_of_mem hx
    have hp := List.length_pos_of_mem hx
    rw [List.length_cons]
    omega
/-- no fewer numbers serve all -/
theorem chosen_least {done ap : List α} (c : Chosen fa la done ap) {S : List Int} (h : ∀ w ∈ done, ∃ s ∈ S, fa w ≤ s ∧ s ≤ la w) : ap.length ≤ S.length := by
  have key : ∀ l : List α, (∀ z ∈ l, z ∈ done) → l.Pairwise (fun x y => la x < fa y) → ∃ m : List Int, m.length = l.length ∧ (∀ s ∈ m, s ∈ S) ∧ m.Nodup ∧ ∀ s ∈ m, ∃ z ∈ l, fa z ≤ s := by
    intro l
    induction l with
    | nil => exact fun _ _ => ⟨[], rfl, by simp, List.nodup_nil, by simp⟩
    | cons x l ih =>
      intro hd hp
      obtain ⟨hx, hp2⟩ := List.pairwise_cons.mp hp
      obtain ⟨m, m1, m2, m3, m4⟩ := ih (fun z hz => hd z (List.mem_cons_of_mem _ hz)) hp2
      obtain ⟨s, hs, h1, h2⟩ := h x (hd x List.mem_cons_self)
      refine ⟨s :: m, by rw [List.length_cons, List.length_cons, m1], fun y hy => ?_, List.nodup_cons.mpr ⟨fun q => ?_, m3⟩, fun y hy => ?_⟩
      · rcases List.mem_cons.mp hy with rfl | hy
        · exact hs
        · exact m2 y hy
      · obtain ⟨z, hz, h3⟩ := m4 s q
        have := hx z hz
        omega
      · rcases List.mem_cons.mp hy with rfl | hy
        · exact ⟨x, List.mem_cons_self, h1⟩
        · obtain ⟨z, hz, h3⟩ := m4 y hy
          exact ⟨z, List.mem_cons_of_mem _ hz, h3⟩
  obtain ⟨m, m1, m2, m3, _⟩ := key ap c.sub c.apart
  rw [← m1]
  exact fewer m3 m2
/-- two ways of going through the same wishes choose as many -/
theorem chosen_same {d1 d2 a1 a2 : List α} (c1 : Chosen fa la d1 a1) (c2 : Chosen fa la d2 a2) (h : ∀ w, w ∈ d1 ↔ w ∈ d2) : a1.length = a2.length := by
  have half : ∀ {d1 d2 a1 a2 : List α}, Chosen fa la d1 a1 → Chosen fa la d2 a2 → (∀ w ∈ d1, w ∈ d2) → a1.length ≤ a2.length := fun {d1 d2 a1 a2} c1 c2 h => by
    have := chosen_least fa la c1 (S := a2.map la) fun w hw => by
      obtain ⟨z, hz, h1, h2⟩ := c2.hit w (h w hw)
      exact ⟨la z, List.mem_map.mpr ⟨z, hz, rfl⟩, h1, h2⟩
    rw [List.length_map] at this
    exact this
  exact Nat.le_antisymm (half c1 c2 fun w hw => (h w).mp hw) (half c2 c1 fun w hw => (h w).mpr hw)
end

/-! ### data of lists and tuples, their forms -/
structure Sd (n : Nat) (d : PyData) : Prop where
  can : d.canLay0 = true
  dep : d.depth ≤ n
structure SdAll (n : Nat) (ds : List PyData) : Prop where
  can : PyData.canLayAll0 ds = true
  dep : PyData.depthAll ds ≤ n
theorem Sd.sh {n : Nat} {d : PyData} (h : Sd n d) (hn : n ≤ 64) : SeqAt.shaped d = true := by
  unfold SeqAt.shaped
  rw [h.can, decide_eq_true (Nat.le_trans h.dep hn)]
  rfl
theorem Sd.int {n : Nat} {i : Int} : Sd n (.int i) := ⟨by unfold PyData.canLay0; rfl, by unfold PyData.depth; exact Nat.zero_le _⟩
theorem Sd.bl {n : Nat} {b : Bool} : Sd n (.bool b) := ⟨by unfold PyData.canLay0; rfl, by unfold PyData.depth; exact Nat.zero_le _⟩
theorem Sd.non {n : Nat} : Sd n .none := ⟨by unfold PyData.canLay0; rfl, by unfold PyData.depth; exact Nat.zero_le _⟩
theorem Sd.str {n : Nat} {x : Str} (h : PyData.strOk x = true) : Sd n (.str x) := ⟨by unfold PyData.canLay0; exact h, by unfold PyData.depth; exact Nat.zero_le _⟩
theorem SdAll.nil {n : Nat} : SdAll n [] := ⟨by unfold PyData.canLayAll0; rfl, by unfold PyData.depthAll; exact Nat.zero_le _⟩
theorem SdAll.cons {n : Nat} {d : PyData} {ds : List PyData} (h : Sd n d) (k : SdAll n ds) : SdAll n (d :: ds) :=
  ⟨by unfold PyData.canLayAll0; rw [h.can, k.can]; rfl, by unfold PyData.depthAll; exact Nat.max_le.mpr ⟨h.dep, k.dep⟩⟩
theorem SdAll.app {n : Nat} : ∀ {ds es : List PyData}, SdAll n ds → SdAll n es → SdAll n (ds ++ es)
  | [], _, _, k => k
  | d :: ds, es, h, k => by
    have hc := h.can
    have hd := h.dep
    unfold PyData.canLayAll0 at hc
    unfold PyData.depthAll at hd
    have hc := Bool.and_eq_true_iff.mp hc
    have hd := Nat.max_le.mp hd
    exact SdAll.cons ⟨hc.1, hd.1⟩ (SdAll.app ⟨hc.2, hd.2⟩ k)
theorem Sd.list {n : Nat} {ds : List PyData} (h : SdAll n ds) : Sd (n + 1) (.list ds) := ⟨by unfold PyData.canLay0; exact h.can, by unfold PyData.depth; exact Nat.succ_le_succ h.dep⟩
theorem Sd.tup {n : Nat} {ds : List PyData} (h : SdAll n ds) : Sd (n + 1) (.tuple ds) := ⟨by unfold PyData.canLay0; exact h.can, by unfold PyData.depth; exact Nat.succ_le_succ h.dep⟩
theorem SdAll.ints {n : Nat} : ∀ ns : List Int, SdAll n (ns.map PyData.int)
  | [] => SdAll.nil
  | _ :: r => SdAll.cons Sd.int (SdAll.ints r)
theorem DpAll.ints {K : PySem.W.Frag} {H : Hp} : ∀ ns : List Int, DpAll K H (ns.map V.int) (ns.map PyData.int)
  | [] => .nil
  | i :: r => .cons (.int i) (DpAll.ints r)
theorem Dp.ints {K : PySem.W.Frag} {H : Hp} {a : Addr} {ns : List Int} (h : H a = some (.lst (ns.map V.int))) : Dp K H (.ref a) (.list (ns.map PyData.int)) := .lst (.of h) (DpAll.ints ns)
theorem DpAll.len {K : PySem.W.Frag} {H : Hp} : ∀ {vs : List V} {ds : List PyData}, DpAll K H vs ds → ds.length = vs.length
  | _, _, .nil => rfl
  | _, _, .cons _ h => congrArg Nat.succ (DpAll.len h)
theorem eqvAll_ints : ∀ ns ms : List Int, PyData.eqvAll (ns.map PyData.int) (ms.map PyData.int) = decide (ns = ms)
  | [], [] => by
    show PyData.eqvAll [] [] = _
    unfold PyData.eqvAll
    rfl
  | [], m :: ms => by
    show PyData.eqvAll [] (_ :: _) = _
    unfold PyData.eqvAll
    rfl
  | n :: ns, [] => by
    show PyData.eqvAll (_ :: _) [] = _
    unfold PyData.eqvAll
    rfl
  | n :: ns, m :: ms => by
    show PyData.eqvAll (PyData.int n :: ns.map PyData.int) (PyData.int m :: ms.map PyData.int) = _
    unfold PyData.eqvAll
    rw [eqvAll_ints ns ms]
    have e : PyData.eqv (.int n) (.int m) = decide (n = m) := by
      unfold PyData.eqv
      exact Bool.eq_iff_iff.mpr (by simp)
    rw [e]
    exact Bool.eq_iff_iff.mpr (by simp)
theorem eqv_ints {ns ms : List Int} : PyData.eqv (.list (ns.map PyData.int)) (.list (ms.map PyData.int)) = decide (ns = ms) := by
  unfold PyData.eqv
  exact eqvAll_ints ns ms
theorem eqv_nil {ds : List PyData} : PyData.eqv (.list ds) (.list []) = ds.isEmpty := by
  unfold PyData.eqv
  cases ds with
  | nil =>
    unfold PyData.eqvAll
    rfl
  | cons d r =>
    unfold PyData.eqvAll
    rfl

theorem atI_lastG {α : Type} {l : List α} {x : α} (h : l.getLast? = some x) : atI l (-1) = some x := by
  have h0 : l ≠ [] := fun e => by rw [e] at h; cases h
  have h1 : 0 < l.length := List.length_pos_iff.mpr h0
  unfold atI ixN
  rw [if_neg (by decide), if_pos (by omega), Option.bind_some]
  rw [show ((-1 : Int) + (l.length : Int)).toNat = l.length - 1 by omega, ← List.getLast?_eq_getElem?]
  exact h
abbrev tabD : He.Defn := ("marks", none)
abbrev tabA (K : PySem.W.Frag) : Addr × Addr := He.cT K tabD
abbrev tabsK (K : PySem.W.Frag) : List (Addr × Str) := [((tabA K).2, d_marks.qual ++ ".<locals>." ++ "<lambda>")]
/-- a wish: its first and its last number, its lamp, a later one -/
abbrev Wi := Int × Int × Str × Int
/-- the wishes' tuples, one behind another -/
def WishAt (H : Hp) (t : Addr) (w : Wi) : Prop := H t = some (.tup [.int w.1, .int w.2.1, .str w.2.2.1, .int w.2.2.2])
theorem tabs_but {T : List (Addr × Str)} {H H' : Hp} (t : LamX.Tabs T H) (e : ∀ b o, (∀ xs, o ≠ .lst xs) → H b = some o → H' b = some o) : LamX.Tabs T H' := fun p hp => by
  obtain ⟨ps, h1, h2, h3⟩ := t p hp
  refine ⟨ps, e _ _ (fun _ z => by cases z) h1, h2, fun pos cv hc => ?_⟩
  obtain ⟨c, e1, e2⟩ := h3 pos cv hc
  exact ⟨c, e1, e _ _ (fun _ z => by unfold LamX.CodeO at z; cases z) e2⟩
def spMarks (K : PySem.W.Frag) : Sp := fun vs H Q _ => ∃ (a : Addr) (ts : List Addr) (f : Addr → Wi), vs = [.ref a] ∧ SqL K H a (ts.map V.ref) ∧ ts.length ≤ 1000 ∧ (∀ t ∈ ts, WishAt H t (f t) ∧ (f t).1 ≤ (f t).2.1) ∧ LamX.Tabs (tabsK K) H ∧
  ∀ (p q r : Addr) (ap : List Addr) (H' : Hp), LamX.ExtN H H' → LamX.Tabs (tabsK K) H' → (∀ u, H p = some u → ∃ ps, u = .tbl ps) → (∀ u, H q = some u → ∃ ps, u = .tbl ps) → p ≠ q → H' r = some (.tup [.ref p, .ref q]) → H' p = some (.lst ((ap.map fun t => (f t).2.1).map V.int)) → H' q = some (.lst (ap.map V.ref)) →
    (∃ done : List Addr, done.Perm ts ∧ Chosen (fun t => (f t).1) (fun t => (f t).2.1) done ap) → Q (.ref r) H'
theorem ok_marks (T : Txt K mg) (TB : LamX.TabB base mg (tabA K).1 (tabA K).2) : ∃ fd, FnOk P w K mg base CX0 1 (He.fAd K ("marks", none)) fd ["some"] (spMarks K) ∧ FunD K "marks" "marks" (defArgs s_marks) (defBody s_marks) (defScope s_marks) [] [] (He.fAd K ("marks", none)) fd := by
  obtain ⟨fd, F⟩ := T.c.def_ 0 (d := d_marks) rfl
  refine ⟨fd, FunD.okC F sc_marks (by walk_at "g94len") (fun cdv A outer st H vs Q E hcd hr h => ?_), F⟩
  · obtain ⟨a, ts, f, rfl, hS, hl, hw, hT, k⟩ := h
    refine ⟨_, PSs.nox (pss_cons (ps_set (i := 1) sc_marks.nd rfl (Or.inl rfl) (pe_lstK pa_nil))
        (pss_cons (ps_set (i := 2) sc_marks.nd rfl (Or.inl rfl) (pe_lstK pa_nil))
        (pss_cons (ps_for PassesOwn.never rfl (pi_list (pe_srtLam (T := tabsK K) (c := (tabA K).1) (P := (tabA K).2) (y := "one") (k := 1) (by rfl) (free_sorted T) (by decide +kernel) (pa_cons (pv 0) pa_nil) TB hcd (List.mem_singleton.mpr rfl) (fun p hp _ => by rw [List.mem_singleton.mp hp] <;> rfl) hr rfl (by decide) rfl rfl rfl (by decide) rfl (by decide) (fun _ _ _ _ _ _ => rfl) (by decide) (by decide))) (pg_name (i := 3) sc_marks.nd rfl (Or.inl rfl)) (pss_one (ps_if (PW.pt (pw_or (pt_cmpR (op_eqD hr.units) (pv 1) (pe_lstK pa_nil) (nomark _)) (pw_or1 (pt_cmpR op_lt (pe_ix ix_list (pv 1) pe_negC (fun _ _ => rfl)) (pe_ix ix_tup (pv 3) pe_int (fun _ _ => rfl)) (nomark _))))) (pss_cons (ps_expr (pe_bm PySem.F.plainAttrs_list PySem.F.slot_list_append PySem.F.type_list_append mt_appendK (pv 1) (pa_cons (pe_ix ix_tup (pv 3) pe_int (fun _ _ => rfl)) pa_nil)))
        (pss_one (ps_expr (pe_bm PySem.F.plainAttrs_list PySem.F.slot_list_append PySem.F.type_list_append mt_appendK (pv 2) (pa_cons (pv 3) pa_nil))))) pss_nil)))
        (pss_one (ps_ret (pe_tupK (pa_cons (pv 1) (pa_cons (pv 2) pa_nil)))))))), ?_⟩
    walk_at "wks"
    rename_i p1 G1 f1 s1 h1 p2 G2 f2 s2 h2
    have S2 := s1.trans s2
    have n12 : p1 ≠ p2 := by walk_at "ne"
    refine ⟨a, ts, fun t => (f t).2.1, rfl, S2.seq hS, fun t ht => ⟨_, .of (S2 _ _ (hw t ht).1), rfl⟩, hT.ext S2, fun ps G3 out eN T3 fr3 h3 hp ho => ?_⟩
    have g1 : G3 p1 = some (.lst []) := eN _ _ (s2 _ _ h1) (fun _ z => by cases z)
    have g2 : G3 p2 = some (.lst []) := eN _ _ h2 (fun _ z => by cases z)
    have nu : ∀ b o, G2 b = some o → (∀ qs, o ≠ .tbl qs) → ps ≠ b := fun b o e n z => by
      obtain ⟨qs, e2⟩ := fr3 o (by rw [z]; exact e)
      exact n qs e2
    refine ⟨ps, rfl, ⟨_, .of h3⟩, for_list (K := K) (a := ps) (xs := out.map V.ref) (fun i σ' H' => ∃ (v : Option V) (ap : List Addr), σ' = [some (.ref a), some (.ref p1), some (.ref p2), v] ∧ Chosen (fun t => (f t).1) (fun t => (f t).2.1) (out.take i) ap ∧ ap.length ≤ i ∧ H' p1 = some (.lst ((ap.map fun t => (f t).2.1).map V.int)) ∧ H' p2 = some (.lst (ap.map V.ref)) ∧ ∀ b o, b ≠ p1 → b ≠ p2 → G3 b = some o → H' b = some o) ⟨_, [], rfl, ⟨by simp, List.Pairwise.nil, by simp⟩, Nat.le_refl _, g1, g2, fun _ _ _ _ e => e⟩ (fun i σ' H' _ ⟨_, _, _, _, _, _, _, st⟩ => .of (st _ _ (nu _ _ (s2 _ _ h1) (fun _ z => by cases z)) (nu _ _ h2 (fun _ z => by cases z)) h3)) ?_ ?_⟩
    · rintro i y σ' H' hi ⟨v, ap, rfl, c, al, a1, a2, st⟩
      obtain ⟨t, ht, rfl⟩ : ∃ t, out[i]? = some t ∧ y = .ref t := by
        rw [List.getElem?_map] at hi
        cases e : out[i]? with
        | none =>
          rw [e] at hi
          cases hi
        | some t =>
          rw [e] at hi
          exact ⟨t, rfl, (Option.some.inj hi).symm⟩
      have hto : t ∈ ts := hp.mem_iff.mp (List.mem_of_getElem? ht)
      have st2 := eN _ _ (S2 _ _ (hw t hto).1) (fun _ z => by cases z)
      have nt1 : t ≠ p1 := fun z => by
        rw [z, g1] at st2
        cases st2
      have nt2 : t ≠ p2 := fun z => by
        rw [z, g2] at st2
        cases st2
      have wt := st _ _ nt1 nt2 st2
      walk_at "wks"
      rename_i pe E1 fe se he
      have a1' := se _ _ a1
      have a2' := se _ _ a2
      have wt' := se _ _ wt
      refine ⟨.list ((ap.map fun t => (f t).2.1).map PyData.int), .list [], Dp.ints a1', .lst (.of he) .nil, (Sd.list (n := 0) (SdAll.ints _)).sh (by decide), by decide +kernel, _, rfl, ?_⟩
      rw [eqv_nil]
      have etake : out.take (i + 1) = out.take i ++ [t] := by rw [List.take_add_one, ht]; rfl
      have hsorted : ∀ z ∈ out.take i, (f z).2.1 ≤ (f t).2.1 := by
        have h1 : (out.take i ++ out.drop i).Pairwise (fun a b => (f a).2.1 ≤ (f b).2.1) := by
          rw [List.take_append_drop]
          exact ho
        intro z hz
        refine (List.pairwise_append.mp h1).2.2 z hz t ?_
        rw [List.mem_iff_getElem?]
        exact ⟨0, by rw [List.getElem?_drop]; exact ht⟩
      have hstep := step_chosen (fun t => (f t).1) (fun t => (f t).2.1) (w := t) (fun z hz => (hw z (hp.mem_iff.mp (List.mem_of_mem_take hz))).2) (hw t hto).2 hsorted c
      rw [← etake] at hstep
      refine iteB (fun e0 => ?_) (fun e0 => ?_)
      · have e1 : ap = [] := by
          cases ap with
          | nil => rfl
          | cons x r => cases e0
        subst e1
        rw [if_pos (show far (fun t => (f t).1) (fun t => (f t).2.1) [] t = true from rfl)] at hstep
        refine iteB (fun _ => ?_) (fun z => by cases z)
        walk_at "wks"
        rename_i X1 m1 x1 X2 m2 x2
        refine ⟨by rw [List.length_append, List.length_singleton]; omega, ?_, ?_, fun b o n1 n2 e => m2 _ _ n2 (m1 _ _ n1 (se _ _ (st _ _ n1 n2 e)))⟩
        · rw [List.map_append, List.map_append]
          exact m2 _ _ n12 x1
        · rw [List.map_append]
          exact x2
      · obtain ⟨z, hl⟩ : ∃ z, ap.getLast? = some z := by
          cases e : ap.getLast? with
          | none =>
            rw [List.getLast?_eq_none_iff] at e
            rw [e] at e0
            cases e0
          | some z => exact ⟨z, rfl⟩
        have hl2 : ((ap.map fun t => (f t).2.1).map V.int).getLast? = some (V.int (f z).2.1) := by
          rw [List.getLast?_map, List.getLast?_map, hl]
          rfl
        walk_at "wks"
        refine ⟨p1, _, -1, _, rfl, rfl, .of a1', atI_lastG hl2, ?_⟩
        walk_at "wks"
        refine iteD (fun q0 => ?_) (fun q0 => ?_)
        · have hf : far (fun t => (f t).1) (fun t => (f t).2.1) ap t = true := by
            unfold far
            rw [hl]
            exact decide_eq_true q0
          rw [if_pos hf] at hstep
          have hi2 : i < out.length := (List.getElem?_eq_some_iff.mp ht).1
          have hol := hp.length_eq
          walk_at "wks"
          rename_i X1 m1 x1 X2 m2 x2
          refine ⟨by rw [List.length_append, List.length_singleton]; omega, ?_, ?_, fun b o n1 n2 e => m2 _ _ n2 (m1 _ _ n1 (se _ _ (st _ _ n1 n2 e)))⟩
          · rw [List.map_append, List.map_append]
            exact m2 _ _ n12 x1
          · rw [List.map_append]
            exact x2
        · have hf : ¬ far (fun t => (f t).1) (fun t => (f t).2.1) ap t = true := by
            unfold far
            rw [hl]
            exact fun z => q0 (of_decide_eq_true z)
          rw [if_neg hf] at hstep
          exact ⟨_, ap, rfl, hstep, by omega, a1', a2', fun b o n1 n2 e => se _ _ (st _ _ n1 n2 e)⟩
    rintro σ' H' ⟨v, ap, rfl, c, al, a1, a2, st⟩
    walk_at "wks"
    rename_i pr F fR sR hR
    rw [List.length_map, List.take_length] at c
    have no1 : H p1 = none := f1
    have no2 : G1 p2 = none := f2
    refine k p1 p2 pr ap F (fun b o e n => sR _ _ (st _ _ (ne_of_none e no1) (ne_of_none (s1 _ _ e) no2) (eN _ _ (S2 _ _ e) n))) ?_ (fun u e => by rw [no1] at e; cases e) (fun u e => by
      rw [s1 _ _ e] at no2
      cases no2) n12 hR (sR _ _ a1) (sR _ _ a2) ⟨out, hp, c⟩
    exact tabs_but T3 fun b o n e => sR _ _ (st _ _ (fun z => n [] (Option.some.inj (e.symm.trans (by rw [z]; exact g1)))) (fun z => n [] (Option.some.inj (e.symm.trans (by rw [z]; exact g2)))) e)
def spDrawn (K : PySem.W.Frag) : Sp := fun vs H Q _ => ∃ (a : Addr) (ns : List Int) (k : Int), vs = [.ref a, .int k] ∧ SqL K H a (ns.map V.int) ∧ 0 ≤ k ∧ k < ns.length ∧ ns.length ≤ 63 ∧ ∀ r : Int, Q (.int r) H
theorem ok_l_drawn (T : Txt K mg) : ∃ fd, FnOk P w K mg base CX0 1 (He.fAd K ("_law_drawn", none)) fd ["_law_script", "_law_k"] (spDrawn K) ∧ FunD K "_law_drawn" "_law_drawn" (defArgs s_l_drawn) (defBody s_l_drawn) (defScope s_l_drawn) [] [] (He.fAd K ("_law_drawn", none)) fd := by
  obtain ⟨fd, F⟩ := T.c.def_ 1 (d := d_l_drawn) rfl
  refine ⟨fd, F.ok sc_l_drawn (by walk_at "g94len") (fun cdv A outer st H vs Q E hr h => ?_), F⟩
  · obtain ⟨a, ns, i, rfl, hS, i0, i1, hl, k⟩ := h
    refine ⟨_, PSs.nox (pss_one (ps_ret (pe_op op_mod (pe_op op_mul (pe_op op_add (pe_ix ix_list (pv 0) (pv 1) (fun _ _ => rfl)) pe_int) (pe_op op_add pe_int (pe_op op_mul (pe_op op_mul pe_int (pv 1)) (pv 1)))) pe_int))), ?_⟩
    obtain ⟨v, hv, hv2⟩ := atI_lt (xs := ns.map V.int) i0 (by rw [List.length_map]; exact i1)
    obtain ⟨z, rfl, _, _⟩ := int_at hv2
    have hm : 0 ≤ i * i ∧ i * i ≤ 63 * 63 := ⟨Int.mul_nonneg i0 i0, Int.mul_le_mul (by omega) (by omega) i0 (by decide)⟩
    have hm2 : 7919 * i * i = 7919 * (i * i) := Int.mul_assoc _ _ _
    walk_at "wks"
    refine ⟨a, _, i, _, rfl, rfl, hS, hv, ?_⟩
    walk_at "wks"
    exact k _
def WOk (w : Wi) : Prop := w.1 ≤ w.2.1 ∧ PyData.strOk w.2.2.1 = true
def Wishes (H : Hp) (ts : List Addr) : Prop := ∀ t ∈ ts, ∃ w : Wi, WishAt H t w ∧ WOk w
theorem Wishes.dp {K : PySem.W.Frag} {H : Hp} : ∀ {ts : List Addr}, Wishes H ts → ∃ ds, DpAll K H (ts.map V.ref) ds ∧ SdAll 1 ds ∧ ds.length = ts.length
  | [], _ => ⟨[], .nil, SdAll.nil, rfl⟩
  | t :: ts, h => by
    obtain ⟨w, h1, h2⟩ := h t List.mem_cons_self
    obtain ⟨ds, d1, d2, d3⟩ := Wishes.dp (ts := ts) fun z hz => h z (List.mem_cons_of_mem _ hz)
    exact ⟨.tuple [.int w.1, .int w.2.1, .str w.2.2.1, .int w.2.2.2] :: ds, .cons (.tup (.of h1) (.cons (.int _) (.cons (.int _) (.cons (.str _) (.cons (.int _) .nil))))) d1,
      SdAll.cons (Sd.tup (SdAll.cons Sd.int (SdAll.cons Sd.int (SdAll.cons (Sd.str h2.2) (SdAll.cons Sd.int SdAll.nil))))) d2, by rw [List.length_cons, List.length_cons, d3]⟩
theorem Wishes.app {H H' : Hp} {ts : List Addr} {t : Addr} {p : Addr} {xs : List V} (h : Wishes H ts) (ht : ∃ w : Wi, WishAt H t w ∧ WOk w) (hp : H p = some (.lst xs)) (b : But p H H') : Wishes H' (ts ++ [t]) := fun z hz => by
  have k : ∃ w : Wi, WishAt H z w ∧ WOk w := by
    rcases List.mem_append.mp hz with hz | hz
    · exact h z hz
    · rw [List.mem_singleton.mp hz]
      exact ht
  obtain ⟨w, h1, h2⟩ := k
  exact ⟨w, b _ _ (fun e => by
    rw [WishAt, e, hp] at h1
    cases h1) h1, h2⟩
theorem Wishes.same {H H' : Hp} {ts : List Addr} (h : Wishes H ts) (s : Same H H') : Wishes H' ts := fun t ht => by
  obtain ⟨w, h1, h2⟩ := h t ht
  exact ⟨w, s _ _ h1, h2⟩
theorem lamp_at {m : Int} (h0 : 0 ≤ m) (h1 : m < 3) : ∃ x : Str, atI [V.str "a", V.str "ab", V.str "b"] m = some (V.str x) ∧ PyData.strOk x = true := by
  rcases (by omega : m = 0 ∨ m = 1 ∨ m = 2) with rfl | rfl | rfl <;> exact ⟨_, rfl, by decide +kernel⟩
def spWish : Sp := fun vs H Q _ => ∃ i j : Int, vs = [.int i, .int j] ∧ ∀ (t : Addr) (H' : Hp) (w : Wi), Same H H' → WishAt H' t w → WOk w → Q (.ref t) H'
theorem ok_l_wish (T : Txt K mg) : ∃ fd, FnOk P w K mg base CX0 1 (He.fAd K ("_law_wish", none)) fd ["_law_number", "_law_other"] spWish ∧ FunD K "_law_wish" "_law_wish" (defArgs s_l_wish) (defBody s_l_wish) (defScope s_l_wish) [] [] (He.fAd K ("_law_wish", none)) fd := by
  obtain ⟨fd, F⟩ := T.c.def_ 3 (d := d_l_wish) rfl
  refine ⟨fd, F.ok sc_l_wish (by walk_at "g94len") (fun cdv A outer st H vs Q E hr h => ?_), F⟩
  · obtain ⟨i, j, rfl, k⟩ := h
    refine ⟨_, PSs.nox (pss_cons (ps_set (i := 2) sc_l_wish.nd rfl (Or.inl rfl) (pe_op op_add pe_int (pe_op op_mod (pv 0) pe_int)))
        (C8.pss_cut (ps_if (pt_cmpR op_eq (pe_op op_mod (pe_op op_fdiv (pv 0) pe_int) pe_int) pe_int (nomark _)) (pss_one (ps_set (i := 2) sc_l_wish.nd rfl (Or.inl rfl) (pe_op op_add pe_int (pe_op op_mod (pe_op op_fdiv (pv 0) pe_int) (pe_op op_mul pe_int (pe_powC (v := 1000000) (by rfl) (by decide +kernel))))))) pss_nil)
        (pss_cons (ps_set (i := 3) sc_l_wish.nd rfl (Or.inl rfl) (pe_op op_add (pv 2) (pe_op op_mod (pe_op op_fdiv (pv 1) pe_int) pe_int)))
        (C8.pss_cut (ps_if (pt_cmpR op_eq (pe_op op_mod (pe_op op_fdiv (pv 1) pe_int) pe_int) pe_int (nomark _)) (pss_one (ps_set (i := 3) sc_l_wish.nd rfl (Or.inl rfl) (pe_op op_add (pv 2) (pe_op op_mod (pe_op op_fdiv (pv 1) pe_int) (pe_powC (v := 1000000) (by rfl) (by decide +kernel)))))) pss_nil)
        (pss_cons (ps_set (i := 4) sc_l_wish.nd rfl (Or.inl rfl) (pe_op op_fdivW (pv 1) (pe_op op_mul pe_int (pe_powC (v := 10000000) (by rfl) (by decide +kernel)))))
        (pss_cons (ps_set (i := 5) sc_l_wish.nd rfl (Or.inl rfl) (pe_ix ix_list (pe_lstK (pa_cons pe_str (pa_cons pe_str (pa_cons pe_str pa_nil)))) (pe_op op_mod (pe_op op_add (pe_op op_fdiv (pv 1) pe_int) (pv 4)) pe_int) (fun _ _ => rfl)))
        (pss_one (ps_ret (pe_tupK (pa_cons (pv 2) (pa_cons (pv 3) (pa_cons (pv 5) (pa_cons (pe_op op_add (pe_op op_add (pv 3) pe_int) (pe_op op_mod (pe_op op_add (pe_op op_fdiv (pv 1) pe_int) (pe_op op_fdiv (pv 4) pe_int)) pe_int)) pa_nil))))))))))))), ?_⟩
    walk_at "wks"
    refine ⟨fun σ' H' => ∃ u : Int, σ' = [some (.int i), some (.int j), some (.int u), none, none, none] ∧ H' = H, ?_, ?_⟩
    · walk_at "wks"
      walk_at "ri" <;> intro c1
      · walk_at "wks"
        first | exact ⟨_, rfl, rfl⟩ | exact ⟨rfl, rfl⟩ | rfl
      · first | exact ⟨_, rfl, rfl⟩ | exact ⟨rfl, rfl⟩ | rfl
    rintro σ' H' ⟨u, rfl, rfl⟩
    walk_at "wks"
    refine ⟨fun σ' H2 => ∃ v : Int, u ≤ v ∧ σ' = [some (.int i), some (.int j), some (.int u), some (.int v), none, none] ∧ H2 = H', ?_, ?_⟩
    · walk_at "wks"
      walk_at "ri" <;> intro c1
      · walk_at "wks"
        first | exact ⟨_, by omega, rfl, rfl⟩ | exact ⟨by omega, rfl, rfl⟩ | exact ⟨rfl, rfl⟩ | rfl
      · first | exact ⟨_, by omega, rfl, rfl⟩ | exact ⟨by omega, rfl, rfl⟩ | exact ⟨rfl, rfl⟩ | rfl
    rintro σ' H2 ⟨v, uv, rfl, rfl⟩
    walk_at "wks"
    rename_i pL HL fL sL hL
    obtain ⟨x, hx, hxo⟩ := lamp_at (m := (j / 11 + j / (49 * 10000000)) % 3) (by omega) (by omega)
    refine ⟨pL, _, _, _, rfl, rfl, .of hL, hx, ?_⟩
    walk_at "wks"
    rename_i pT HT fT sT hT
    exact k pT HT (u, v, x, _) (by walk_at "sm") hT ⟨uv, hxo⟩
def spWishes (K : PySem.W.Frag) : Sp := fun vs H Q _ => ∃ (a : Addr) (ns : List Int), vs = [.ref a] ∧ SqL K H a (ns.map V.int) ∧ ns.length ≤ 63 ∧ ∀ (p : Addr) (ts : List Addr) (H' : Hp), Same H H' → H p = none → H' p = some (.lst (ts.map V.ref)) → ts.length ≤ 60 → ts.length ≤ ns.length → Wishes H' ts → Q (.ref p) H'
theorem ok_l_wishes (T : Txt K mg) : ∃ fd, FnOk P w K mg base CX0 2 (He.fAd K ("_law_wishes", none)) fd ["_law_script"] (spWishes K) ∧ FunD K "_law_wishes" "_law_wishes" (defArgs s_l_wishes) (defBody s_l_wishes) (defScope s_l_wishes) [] [] (He.fAd K ("_law_wishes", none)) fd := by
  obtain ⟨fd, F⟩ := T.c.def_ 4 (d := d_l_wishes) rfl
  obtain ⟨fd_l_drawn, G_l_drawn, F_l_drawn⟩ := ok_l_drawn (P := P) (w := w) (base := base) T
  have kp_l_drawn := F_l_drawn.kp
  have b_l_drawn : Binds K fd_l_drawn ["_law_script", "_law_k"] [] := FunD.bindsN F_l_drawn (fun _ _ _ _ _ _ us hl => match us, hl with | [_, _], _ => rfl)
  obtain ⟨fd_l_wish, G_l_wish, F_l_wish⟩ := ok_l_wish (P := P) (w := w) (base := base) T
  have kp_l_wish := F_l_wish.kp
  have b_l_wish : Binds K fd_l_wish ["_law_number", "_law_other"] [] := FunD.bindsN F_l_wish (fun _ _ _ _ _ _ us hl => match us, hl with | [_, _], _ => rfl)
  refine ⟨fd, F.ok sc_l_wishes (by walk_at "g94len") (fun cdv A outer st H vs Q E hr h => ?_), F⟩
  · obtain ⟨a, ns, rfl, hS, hl, k⟩ := h
    refine ⟨_, PSs.nox (pss_cons (ps_set (i := 1) sc_l_wishes.nd rfl (Or.inl rfl) (pe_lstK pa_nil))
        (pss_cons (ps_for PassesOwn.never rfl (pi_range1 rfl (free_range T) (pa_cons (pe_callB (call_min2 rfl) (by rfl) (free_min T) (by decide +kernel) (pa_cons (pe_callB call_len_seq (by rfl) (free_len T) (by decide +kernel) (pa_cons (pv 0) pa_nil)) (pa_cons pe_int pa_nil))) pa_nil)) (pg_name (i := 2) sc_l_wishes.nd rfl (Or.inl rfl)) (pss_cons (ps_set (i := 3) sc_l_wishes.nd rfl (Or.inl rfl) (pe_call G_l_drawn (hr.mono (by decide)) rfl (glo__law_drawn T) kp_l_drawn b_l_drawn .nil pass0 (pa_cons (pv 0) (pa_cons (pv 2) pa_nil))))
        (pss_cons (ps_set (i := 4) sc_l_wishes.nd rfl (Or.inl rfl) (pv 3))
        (pss_cons (ps_set (i := 5) sc_l_wishes.nd rfl (Or.inl rfl) (pe_op op_fdiv (pv 3) pe_int))
        (C8.pss_cut (ps_if (PW.pt (pw_and (pt_cmpR op_eq (pe_op op_mod (pe_ix ix_list (pv 0) pe_int (fun _ _ => rfl)) pe_int) pe_int (nomark _)) (pw_and1 (pt_cmpR op_gt (pe_ix ix_list (pv 0) (pv 2) (fun _ _ => rfl)) (pe_powC (v := 1000000000000) (by rfl) (by decide +kernel)) (nomark _))))) (pss_cons (ps_set (i := 3) sc_l_wishes.nd rfl (Or.inl rfl) (pe_op op_mod (pe_ix ix_list (pv 0) (pv 2) (fun _ _ => rfl)) (pe_op op_mul pe_int (pe_powC (v := 100000000000) (by rfl) (by decide +kernel)))))
        (pss_cons (ps_set (i := 4) sc_l_wishes.nd rfl (Or.inl rfl) (pe_op op_mod (pe_op op_fdivW (pe_ix ix_list (pv 0) (pv 2) (fun _ _ => rfl)) (pe_op op_mul pe_int (pe_powC (v := 100000000000) (by rfl) (by decide +kernel)))) (pe_powC (v := 1000000000000) (by rfl) (by decide +kernel))))
        (pss_one (ps_set (i := 5) sc_l_wishes.nd rfl (Or.inl rfl) (pe_op op_fdivW (pe_ix ix_list (pv 0) (pv 2) (fun _ _ => rfl)) (pe_powC (v := 1000000000000000000000000) (by rfl) (by decide +kernel))))))) pss_nil)
        (pss_one (ps_if (PW.pt (pw_and (pt_cmpR op_eq (pe_op op_mod (pv 5) pe_int) pe_int (nomark _)) (pw_and1 (pt_cmpR (op_neD hr.units) (pv 1) (pe_lstK pa_nil) (nomark _))))) (pss_one (ps_expr (pe_bm PySem.F.plainAttrs_list PySem.F.slot_list_append PySem.F.type_list_append mt_appendK (pv 1) (pa_cons (pe_ix ix_list (pv 1) (pe_op op_mod (pe_op op_fdiv (pv 5) pe_int) (pe_callB call_len_seq (by rfl) (free_len T) (by decide +kernel) (pa_cons (pv 1) pa_nil))) (fun _ _ => rfl)) pa_nil)))) (pss_one (ps_expr (pe_bm PySem.F.plainAttrs_list PySem.F.slot_list_append PySem.F.type_list_append mt_appendK (pv 1) (pa_cons (pe_call G_l_wish (hr.mono (by decide)) rfl (glo__law_wish T) kp_l_wish b_l_wish .nil pass0 (pa_cons (pv 3) (pa_cons (pv 4) pa_nil))) pa_nil)))))))))))
        (pss_one (ps_ret (pv 1))))), ?_⟩
    walk_at "wks"
    rename_i p1 G1 f1 s1 h1
    refine ⟨a, _, rfl, .inl (s1.seq hS), ?_⟩
    walk_at "wks"
    have hS1 := s1.seq hS
    have hN : (if (60 : Int) < ((ns.map V.int).length : Int) then (60 : Int) else ((ns.map V.int).length : Int)).toNat ≤ 60 ∧ (if (60 : Int) < ((ns.map V.int).length : Int) then (60 : Int) else ((ns.map V.int).length : Int)).toNat ≤ ns.length := by
      rw [List.length_map]
      split <;> omega
    refine for_range (lo := 0) (n := (if (60 : Int) < ((ns.map V.int).length : Int) then (60 : Int) else ((ns.map V.int).length : Int)).toNat) (fun i σ' H' => ∃ (v1 v2 v3 v4 : Option V) (ts : List Addr), σ' = [some (.ref a), some (.ref p1), v1, v2, v3, v4] ∧ But p1 G1 H' ∧ H' p1 = some (.lst (ts.map V.ref)) ∧ ts.length = i ∧ Wishes H' ts) ⟨_, _, _, _, [], rfl, fun b u _ e => e, h1, rfl, fun _ z => by cases z⟩ ?_ ?_
    · rintro i σ' H' hi ⟨v1, v2, v3, v4, ts, rfl, b1, hF, tl, hW⟩
      have hi2 : i < 60 ∧ i < ns.length := ⟨Nat.lt_of_lt_of_le hi hN.1, Nat.lt_of_lt_of_le hi hN.2⟩
      have hS2 : SqL K H' a (ns.map V.int) := by
        rcases hS with (e | ⟨o, e⟩) | e
        · exact .inl (.inl (b1 _ _ (ne_of_none e f1) (s1 _ _ e)))
        · exact .inl (.inr ⟨o, b1 _ _ (ne_of_none e f1) (s1 _ _ e)⟩)
        · exact .inr e
      have hS3 : SqL K H' a (ns.map V.int) := hS2
      obtain ⟨y0, hy0, hy1⟩ := atI_lt (xs := ns.map V.int) (k := 0) (by decide) (by rw [List.length_map]; omega)
      obtain ⟨z0, rfl, _, _⟩ := int_at hy1
      obtain ⟨yk, hk0, hk1⟩ := atI_lt (xs := ns.map V.int) (k := 0 + (i : Int)) (by omega) (by rw [List.length_map]; omega)
      obtain ⟨zk, rfl, _, _⟩ := int_at hk1
      walk_at "wks"
      intro r
      walk_at "wks"
      refine ⟨fun σ' H2 => ∃ x y z : Int, σ' = [some (.ref a), some (.ref p1), some (.int (0 + (i : Int))), some (.int x), some (.int y), some (.int z)] ∧ H2 = H', ?_, ?_⟩
      · walk_at "wks"
        refine ⟨a, _, 0, _, rfl, rfl, hS2, hy0, ?_⟩
        walk_at "wks"
        refine iteB (fun c0 => ?_) (fun c0 => ?_)
        · walk_at "wks"
          refine ⟨a, _, 0 + (i : Int), _, rfl, rfl, hS2, hk0, ?_⟩
          walk_at "wks"
          refine iteB (fun c1 => ?_) (fun c1 => ?_)
          · repeat (first | (refine ⟨a, _, 0 + (i : Int), _, rfl, rfl, hS2, hk0, ?_⟩) | (refine ⟨⟨by decide, by decide +kernel⟩, ?_⟩) | (refine ⟨_, _, rfl, rfl, ⟨by decide, by decide +kernel⟩, ?_⟩) | walk_at "wk")
            first | exact ⟨_, _, _, rfl, rfl⟩ | exact ⟨rfl, rfl⟩ | rfl
          · first | exact ⟨_, _, _, rfl, rfl⟩ | exact ⟨rfl, rfl⟩ | rfl
        · first | exact ⟨_, _, _, rfl, rfl⟩ | exact ⟨rfl, rfl⟩ | rfl
      rintro σ' H2 ⟨x, y, z, rfl, rfl⟩
      walk_at "wks"
      obtain ⟨ds, d1, d2, d3⟩ := hW.dp (K := K)
      refine iteB (fun c0 => ?_) (fun c0 => ?_)
      · walk_at "wks"
        rename_i pe He' fe se he
        obtain ⟨ds', d1', d2', d3'⟩ := (hW.same se).dp (K := K)
        refine ⟨.list ds', .list [], .lst (.of (se _ _ hF)) d1', .lst (.of he) .nil, (Sd.list d2').sh (by decide), by decide +kernel, ?_⟩
        rw [eqv_nil]
        walk_at "wks"
        have hF2 := se _ _ hF
        have hW2 := hW.same se
        have b2 := b1.same se
        refine iteB (fun c1 => ?_) (fun c1 => ?_)
        · have hne : 0 < ts.length := by
            rw [← d3']
            cases ds' with
            | nil => cases c1
            | cons _ _ => exact Nat.succ_pos _
          walk_at "wks"
          have hpos : (0 : Int) < ((ts.map V.ref).length : Int) := by
            rw [List.length_map]
            omega
          obtain ⟨y1, hy2, hy3⟩ := atI_lt (xs := ts.map V.ref) (k := z / 9 % ((ts.map V.ref).length : Int)) (Int.emod_nonneg _ (by omega)) (Int.emod_lt_of_pos _ hpos)
          obtain ⟨t, ht, rfl⟩ : ∃ t, t ∈ ts ∧ y1 = .ref t := by
            obtain ⟨t, h1, h2⟩ := List.mem_map.mp (List.mem_of_getElem? hy3)
            exact ⟨t, h1, h2.symm⟩
          refine ⟨hpos, ?_⟩
          walk_at "wks"
          rename_i H5 m5 h5
          exact ⟨_, _, _, _, ts ++ [t], rfl, b2.trans m5, by rw [List.map_append]; exact h5, by rw [List.length_append, tl]; rfl, hW2.app (hW2 t ht) hF2 m5⟩
        · walk_at "wks"
          intro t H3 w s3 hw wok
          have hF3 := s3 _ _ hF2
          refine ⟨p1, _, _, rfl, rfl, hF3, szlt (by rw [List.length_map]; omega), fun H5 m5 h5 => ?_⟩
          exact ⟨_, _, _, _, ts ++ [t], rfl, (b2.same s3).trans m5, by rw [List.map_append]; exact h5, by rw [List.length_append, tl]; rfl, (hW2.same s3).app ⟨w, hw, wok⟩ hF3 m5⟩
      · refine iteB (fun z => by cases z) (fun _ => ?_)
        walk_at "wks"
        intro t H3 w s3 hw wok
        have hF3 := s3 _ _ hF
        refine ⟨p1, _, _, rfl, rfl, hF3, szlt (by rw [List.length_map]; omega), fun H5 m5 h5 => ?_⟩
        exact ⟨_, _, _, _, ts ++ [t], rfl, (b1.same s3).trans m5, by rw [List.map_append]; exact h5, by rw [List.length_append, tl]; rfl, (hW.same s3).app ⟨w, hw, wok⟩ hF3 m5⟩
    · rintro σ' H' ⟨v1, v2, v3, v4, ts, rfl, b1, hF, tl, hW⟩
      walk_at "wks"
      exact k p1 ts H' (s1.but b1 f1) f1 hF (by rw [tl]; exact hN.1) (by rw [tl]; exact hN.2) hW
abbrev nums (S : List Int) : List (Key × V) := S.map fun s => (Sum.inl s, V.bl true)
theorem put_nums (S : List Int) (n : Int) : ∃ S' : List Int, putK (nums S) ((Sum.inl n)) (V.bl true) = nums S' ∧ n ∈ S' ∧ (∀ s ∈ S, s ∈ S') ∧ S'.length ≤ S.length + 1 := by
  unfold putK
  by_cases h : ((nums S).any fun kv => decide (kv.1 = (Sum.inl n))) = true
  · rw [if_pos h]
    obtain ⟨kv, h1, h2⟩ := List.any_eq_true.mp h
    obtain ⟨s, h3, rfl⟩ := List.mem_map.mp h1
    have e : s = n := by
      have := of_decide_eq_true h2
      injection this
    refine ⟨S, ?_, by rw [← e]; exact h3, fun _ z => z, Nat.le_succ _⟩
    rw [List.map_map]
    refine List.map_congr_left fun s _ => ?_
    show (if (Sum.inl s : Key) = Sum.inl n then (Sum.inl s, V.bl true) else (Sum.inl s, V.bl true)) = _
    rw [ite_self]
  · rw [if_neg h]
    exact ⟨S ++ [n], by rw [nums, nums, List.map_append]; rfl, List.mem_append_right _ (List.mem_singleton.mpr rfl), fun s z => List.mem_append_left _ z, by rw [List.length_append]; exact Nat.le_refl _⟩
def spChosen (K : PySem.W.Frag) : Sp := fun vs H Q _ => ∃ (b a : Addr) (ts : List Addr) (ns : List Int), vs = [.ref b, .ref a] ∧ SqL K H b (ts.map V.ref) ∧ SqL K H a (ns.map V.int) ∧ ns.length ≤ 63 ∧ ts.length ≤ ns.length ∧ Wishes H ts ∧
  ∀ (S : List Int) (H' : Hp), Same H H' → (∀ t ∈ ts, ∀ w, WishAt H t w → ∃ s ∈ S, w.1 ≤ s ∧ s ≤ w.2.1) → Q (.int S.length) H'
theorem ok_l_chosen (T : Txt K mg) : ∃ fd, FnOk P w K mg base CX0 2 (He.fAd K ("_law_chosen", none)) fd ["_law_some", "_law_script"] (spChosen K) ∧ FunD K "_law_chosen" "_law_chosen" (defArgs s_l_chosen) (defBody s_l_chosen) (defScope s_l_chosen) [] [] (He.fAd K ("_law_chosen", none)) fd := by
  obtain ⟨fd, F⟩ := T.c.def_ 6 (d := d_l_chosen) rfl
  obtain ⟨fd_l_drawn, G_l_drawn, F_l_drawn⟩ := ok_l_drawn (P := P) (w := w) (base := base) T
  have kp_l_drawn := F_l_drawn.kp
  have b_l_drawn : Binds K fd_l_drawn ["_law_script", "_law_k"] [] := FunD.bindsN F_l_drawn (fun _ _ _ _ _ _ us hl => match us, hl with | [_, _], _ => rfl)
  refine ⟨fd, F.ok sc_l_chosen (by walk_at "g94len") (fun cdv A outer st H vs Q E hr h => ?_), F⟩
  · obtain ⟨b, a, ts, ns, rfl, hB, hS, hl, htl, hW, k⟩ := h
    refine ⟨_, PSs.nox (pss_cons (ps_set (i := 2) sc_l_chosen.nd rfl (Or.inl rfl) pe_dnewKK)
        (pss_cons (ps_for PassesOwn.never rfl (pi_range1 rfl (free_range T) (pa_cons (pe_callB call_len_seq (by rfl) (free_len T) (by decide +kernel) (pa_cons (pv 0) pa_nil)) pa_nil)) (pg_name (i := 3) sc_l_chosen.nd rfl (Or.inl rfl)) (pss_cons (ps_set (i := 4) sc_l_chosen.nd rfl (Or.inl rfl) (pe_op op_add (pe_op op_sub (pe_ix ix_tup (pe_ix ix_list (pv 0) (pv 3) (fun _ _ => rfl)) pe_int (fun _ _ => rfl)) (pe_ix ix_tup (pe_ix ix_list (pv 0) (pv 3) (fun _ _ => rfl)) pe_int (fun _ _ => rfl))) pe_int))
        (pss_one (ps_dputKK (hu_of hr) (pv 2) (pe_op op_add (pe_ix ix_tup (pe_ix ix_list (pv 0) (pv 3) (fun _ _ => rfl)) pe_int (fun _ _ => rfl)) (pe_op op_mod (pe_op op_mod (pe_op op_mul (pe_call G_l_drawn (hr.mono (by decide)) rfl (glo__law_drawn T) kp_l_drawn b_l_drawn .nil pass0 (pa_cons (pv 1) (pa_cons (pv 3) pa_nil))) pe_int) pe_int) (pv 4))) pe_bl rfl))))
        (pss_one (ps_ret (pe_callB call_lenD (by rfl) (free_len T) (by decide +kernel) (pa_cons (pv 2) pa_nil)))))), ?_⟩
    walk_at "wks"
    rename_i p1 G1 f1 s1 h1
    have hlen : ((ts.map V.ref).length : Int) ≤ 63 := by
      rw [List.length_map]
      omega
    refine ⟨b, _, rfl, .inl (s1.seq hB), ?_⟩
    refine ⟨_, rfl, by omega, by omega, ?_⟩
    have hn : ((ts.map V.ref).length : Int).toNat = ts.length := by
      rw [List.length_map]
      exact Int.toNat_natCast _
    refine for_range (lo := 0) (n := ((ts.map V.ref).length : Int).toNat) (fun i σ' H' => ∃ (v1 v2 : Option V) (S : List Int), σ' = [some (.ref b), some (.ref a), some (.ref p1), v1, v2] ∧ But p1 G1 H' ∧ H' p1 = some (.dK (nums S)) ∧ S.length ≤ i ∧ ∀ t ∈ ts.take i, ∀ w, WishAt H t w → ∃ s ∈ S, w.1 ≤ s ∧ s ≤ w.2.1) ⟨_, _, [], rfl, fun b u _ e => e, h1, Nat.le_refl _, by simp⟩ ?_ ?_
    · rintro i σ' H' hi ⟨v1, v2, S, rfl, b1, hD, sl, hh⟩
      rw [hn] at hi
      obtain ⟨t, ht⟩ : ∃ t, ts[i]? = some t := ⟨_, List.getElem?_eq_getElem hi⟩
      obtain ⟨ww, hw, wok⟩ := hW t (List.mem_of_getElem? ht)
      have hw2 := b1 _ _ (ne_of_none hw f1) (s1 _ _ hw)
      have keep : ∀ {a : Addr} {xs : List V}, SqL K H a xs → SqL K H' a xs := fun {a xs} h => by
        rcases h with (e | ⟨o, e⟩) | e
        · exact .inl (.inl (b1 _ _ (ne_of_none e f1) (s1 _ _ e)))
        · exact .inl (.inr ⟨o, b1 _ _ (ne_of_none e f1) (s1 _ _ e)⟩)
        · exact .inr e
      have hB2 := keep hB
      have hS2 := keep hS
      have hx : atI (ts.map V.ref) (0 + (i : Int)) = some (.ref t) := by
        rw [Int.zero_add]
        exact atI_nat (by rw [List.getElem?_map, ht]; rfl)
      have wp := wok.1
      have wpos : 0 < ww.2.1 - ww.1 + 1 := by omega
      repeat (first | (refine ⟨b, _, 0 + (i : Int), _, rfl, rfl, hB2, hx, ?_⟩) | (refine ⟨t, _, _, _, rfl, rfl, .of hw2, rfl, ?_⟩) | (refine ⟨a, ns, 0 + (i : Int), rfl, hS2, by omega, by omega, hl, fun r => ?_⟩) | (refine ⟨wpos, ?_⟩) | walk_at "wk")
      have r0 := Int.emod_nonneg (r * 69621 % 2147483647) (show ww.2.1 - ww.1 + 1 ≠ 0 by omega)
      have r1 := Int.emod_lt_of_pos (r * 69621 % 2147483647) wpos
      obtain ⟨S', q1, q2, q3, q4⟩ := put_nums S (ww.1 + r * 69621 % 2147483647 % (ww.2.1 - ww.1 + 1))
      refine ⟨p1, nums S, Sum.inl (ww.1 + r * 69621 % 2147483647 % (ww.2.1 - ww.1 + 1)), rfl, rfl, hD, szlt (by rw [List.length_map]; omega), fun H5 m5 h5 => ?_⟩
      rw [q1] at h5
      refine ⟨_, _, S', rfl, b1.trans m5, h5, by omega, fun t2 ht2 w2 hw3 => ?_⟩
      rw [List.take_add_one, ht] at ht2
      rcases List.mem_append.mp ht2 with ht2 | ht2
      · obtain ⟨s, k1, k2⟩ := hh t2 ht2 w2 hw3
        exact ⟨s, q3 s k1, k2⟩
      · obtain rfl : t2 = t := by simpa using ht2
        have e2 := hw3.symm.trans hw
        injection e2 with e2
        injection e2 with e2
        injection e2 with f1' e2
        injection e2 with f2' e2
        injection f1' with f1'
        injection f2' with f2'
        exact ⟨_, q2, by omega, by omega⟩
    · rintro σ' H' ⟨v1, v2, S, rfl, b1, hD, sl, hh⟩
      walk_at "wks"
      rw [hn, List.take_length] at hh
      have e : ((nums S).length : Int) = (S.length : Int) := by rw [List.length_map]
      rw [e]
      exact k S H' (s1.but b1 f1) hh
def wiDat (w : Wi) : PyData := .tuple [.int w.1, .int w.2.1, .str w.2.2.1, .int w.2.2.2]
theorem wiDat_dp {K : PySem.W.Frag} {H : Hp} {t : Addr} {w : Wi} (h : WishAt H t w) : Dp K H (.ref t) (wiDat w) := .tup (.of h) (.cons (.int _) (.cons (.int _) (.cons (.str _) (.cons (.int _) .nil))))
theorem wiDat_sd {w : Wi} (h : WOk w) : Sd 1 (wiDat w) := Sd.tup (SdAll.cons Sd.int (SdAll.cons Sd.int (SdAll.cons (Sd.str h.2) (SdAll.cons Sd.int SdAll.nil))))
theorem wiDats {K : PySem.W.Frag} {H : Hp} {f : Addr → Wi} : ∀ {ts : List Addr}, (∀ t ∈ ts, WishAt H t (f t) ∧ WOk (f t)) → DpAll K H (ts.map V.ref) (ts.map fun t => wiDat (f t)) ∧ SdAll 1 (ts.map fun t => wiDat (f t))
  | [], _ => ⟨.nil, SdAll.nil⟩
  | t :: ts, h => by
    obtain ⟨h1, h2⟩ := h t List.mem_cons_self
    obtain ⟨d1, d2⟩ := wiDats (K := K) (ts := ts) fun z hz => h z (List.mem_cons_of_mem _ hz)
    exact ⟨.cons (wiDat_dp h1) d1, SdAll.cons (wiDat_sd h2) d2⟩
def spGood (K : PySem.W.Frag) : Sp := fun vs H Q _ => ∃ (r b p q : Addr) (ts done ap : List Addr) (f : Addr → Wi), vs = [.ref r, .ref b] ∧ H r = some (.tup [.ref p, .ref q]) ∧ H p = some (.lst ((ap.map fun t => (f t).2.1).map V.int)) ∧ H q = some (.lst (ap.map V.ref)) ∧
  SqL K H b (ts.map V.ref) ∧ ts.length ≤ 60 ∧ (∀ t ∈ ts, WishAt H t (f t) ∧ WOk (f t)) ∧ done.Perm ts ∧ Chosen (fun t => (f t).1) (fun t => (f t).2.1) done ap ∧ ap.length ≤ 60 ∧ ∀ H', Same H H' → Q (.bl true) H'
theorem ok_l_good (T : Txt K mg) : ∃ fd, FnOk P w K mg base CX0 2 (He.fAd K ("_law_good", none)) fd ["_law_found", "_law_some"] (spGood K) ∧ FunD K "_law_good" "_law_good" (defArgs s_l_good) (defBody s_l_good) (defScope s_l_good) [] [] (He.fAd K ("_law_good", none)) fd := by
  obtain ⟨fd, F⟩ := T.c.def_ 5 (d := d_l_good) rfl
  obtain ⟨fd_l_whole, G_l_whole, F_l_whole⟩ := ok_l_whole (P := P) (w := w) (base := base) T
  have kp_l_whole := F_l_whole.kp
  have b_l_whole : Binds K fd_l_whole ["_law_found"] [] := FunD.bindsN F_l_whole (fun _ _ _ _ _ _ us hl => match us, hl with | [_], _ => rfl)
  refine ⟨fd, F.ok sc_l_good (by walk_at "g94len") (fun cdv A outer st H vs Q E hr h => ?_), F⟩
  · obtain ⟨r, b, p, q, ts, done, ap, f, rfl, hr0, hp, hq, hb, tl, hW, hd, c, al, k⟩ := h
    refine ⟨_, PSs.nox (pss_cons (ps_if (PW.pt (pw_or (pt_not (pt_val (pe_callB call_isi (by rfl) (free_isinstance T) (by decide +kernel) (pa_cons (pv 0) (pa_cons (pe_bltn (v := .ty "tuple") (by rfl) (free_tuple T) (by decide +kernel) rfl) pa_nil))))) (pw_or1 (pt_cmpR op_ne (pe_callB call_len_seq (by rfl) (free_len T) (by decide +kernel) (pa_cons (pv 0) pa_nil)) pe_int (nomark _))))) (pss_one (ps_ret pe_bl)) pss_nil)
        (pss_cons (ps_asg (pv 0) (pg_tup rfl (pgs_cons (pg_name (i := 2) sc_l_good.nd rfl (Or.inl rfl)) (pgs_cons (pg_name (i := 3) sc_l_good.nd rfl (Or.inl rfl)) pgs_nil))))
        (pss_cons (ps_if (PW.pt (pw_or (pt_not (pt_val (pe_callB call_isi (by rfl) (free_isinstance T) (by decide +kernel) (pa_cons (pv 2) (pa_cons (pe_bltn (v := .ty "list") (by rfl) (free_list T) (by decide +kernel) rfl) pa_nil))))) (pw_or (pt_not (pt_val (pe_callB call_isi (by rfl) (free_isinstance T) (by decide +kernel) (pa_cons (pv 3) (pa_cons (pe_bltn (v := .ty "list") (by rfl) (free_list T) (by decide +kernel) rfl) pa_nil))))) (pw_or1 (pt_cmpR op_ne (pe_callB call_len_seq (by rfl) (free_len T) (by decide +kernel) (pa_cons (pv 2) pa_nil)) (pe_callB call_len_seq (by rfl) (free_len T) (by decide +kernel) (pa_cons (pv 3) pa_nil)) (nomark _)))))) (pss_one (ps_ret pe_bl)) pss_nil)
        (pss_cons (ps_setLc (i := 4) (own := [("_law_wish_here", 7)]) (g := upG (gName 7)) rfl sc_l_good.nd rfl rfl (sw_true rfl rfl rfl (by decide +kernel)) (pi_list (pv 1)) (blkOk_by (own := [("_law_wish_here", 7)]) (N := ["_law_found", "_law_some", "_law_numbers", "_law_apart", "_law_lasts", "_law_k", "_law_j", "_law_wish_here", "_law_number"]) (sc := defScope s_l_good) (by decide +kernel)) (fun _ _ _ _ _ => (PG.up (pg_name (i := 7) sc_l_good.nd rfl (Or.inl rfl)))) (fun _ _ _ _ _ => (PTs.up pts_nil)) (fun _ _ _ _ _ => (PE.up (pe_ix (show IxR _ (rIxT K) from ix_tup) (pv 7) pe_int (fun _ _ => rfl)))))
        (pss_cons (ps_for PassesOwn.never rfl (pi_range1 rfl (free_range T) (pa_cons (pe_callB call_len_seq (by rfl) (free_len T) (by decide +kernel) (pa_cons (pv 2) pa_nil)) pa_nil)) (pg_name (i := 5) sc_l_good.nd rfl (Or.inl rfl)) (pss_cons (ps_if (PW.pt (pw_or (pt_not (pt_val (pe_call G_l_whole (hr.mono (by decide)) rfl (glo__law_whole T) kp_l_whole b_l_whole .nil pass0 (pa_cons (pe_ix ix_list (pv 2) (pv 5) (fun _ _ => rfl)) pa_nil)))) (pw_or (pt_cmpR op_notIn_seq (pe_ix ix_list (pv 2) (pv 5) (fun _ _ => rfl)) (pv 4) (by with_unfolding_all rfl)) (pw_or1 (pt_cmpR (op_notInLD (room65 hr)) (pe_ix ix_list (pv 3) (pv 5) (fun _ _ => rfl)) (pv 1) (by with_unfolding_all rfl)))))) (pss_one (ps_ret pe_bl)) pss_nil)
        (pss_cons (ps_if (PW.pt (pw_or (PW.pt (pw_and (pt_cmpR op_gt (pv 5) pe_int (nomark _)) (pw_and1 (pt_cmpR op_ge (pe_ix ix_list (pv 2) (pe_op op_sub (pv 5) pe_int) (fun _ _ => rfl)) (pe_ix ix_list (pv 2) (pv 5) (fun _ _ => rfl)) (nomark _))))) (pw_or1 (pt_not (pt_val (pe_callB call_isi (by rfl) (free_isinstance T) (by decide +kernel) (pa_cons (pe_ix ix_list (pv 3) (pv 5) (fun _ _ => rfl)) (pa_cons (pe_bltn (v := .ty "tuple") (by rfl) (free_tuple T) (by decide +kernel) rfl) pa_nil)))))))) (pss_one (ps_ret pe_bl)) pss_nil)
        (pss_one (ps_for PassesOwn.never rfl (pi_range1 rfl (free_range T) (pa_cons (pv 5) pa_nil)) (pg_name (i := 6) sc_l_good.nd rfl (Or.inl rfl)) (pss_one (ps_if (PW.pt (pw_and (pt_cmpR op_le (pe_ix ix_tup (pe_ix ix_list (pv 3) (pv 6) (fun _ _ => rfl)) pe_int (fun _ _ => rfl)) (pe_ix ix_tup (pe_ix ix_list (pv 3) (pv 5) (fun _ _ => rfl)) pe_int (fun _ _ => rfl)) (nomark _)) (pw_and1 (pt_cmpR op_le (pe_ix ix_tup (pe_ix ix_list (pv 3) (pv 5) (fun _ _ => rfl)) pe_int (fun _ _ => rfl)) (pe_ix ix_tup (pe_ix ix_list (pv 3) (pv 6) (fun _ _ => rfl)) pe_int (fun _ _ => rfl)) (nomark _))))) (pss_one (ps_ret pe_bl)) pss_nil)))))))
        (pss_cons (ps_for PassesOwn.never rfl (pi_list (pv 1)) (pg_name (i := 7) sc_l_good.nd rfl (Or.inr rfl)) (pss_one (ps_if (pt_cmpR (op_eqD hr.units) (pe_lc (own := [("_law_number", 8)]) (g := upG (gName 8)) rfl sc_l_good.nd (pi_list (pv 2)) (blkOk_by (own := [("_law_number", 8)]) (N := ["_law_found", "_law_some", "_law_numbers", "_law_apart", "_law_lasts", "_law_k", "_law_j", "_law_wish_here", "_law_number"]) (sc := defScope s_l_good) (by decide +kernel)) (fun _ _ _ _ _ => (PG.up (pg_name (i := 8) sc_l_good.nd rfl (Or.inl rfl)))) (fun _ _ _ _ _ => (PTs.up (pts_one (PW.pt (pw_and (pt_cmpR op_le (pe_ix (show IxR _ (rIxT K) from ix_tup) (pv 7) pe_int (fun _ _ => rfl)) (pv 8) (nomark _)) (pw_and1 (pt_cmpR op_le (pv 8) (pe_ix (show IxR _ (rIxT K) from ix_tup) (pv 7) pe_int (fun _ _ => rfl)) (nomark _)))))))) (fun _ _ _ _ _ => (PE.up (pv 8)))) (pe_lstK pa_nil) (nomark _)) (pss_one (ps_ret pe_bl)) pss_nil)))
        (pss_one (ps_ret pe_bl)))))))), ?_⟩
    walk_at "wks"
    refine ⟨r, _, rfl, .inr (.of hr0), ?_⟩
    repeat (first | (refine ⟨r, _, rfl, .of hr0, rfl, _, _, rfl, _, _, rfl, rfl, ?_⟩) | (refine ⟨p, _, rfl, .inl (.of hp), ?_⟩) | (refine ⟨q, _, rfl, .inl (.of hq), ?_⟩) | walk_at "wk")
    have elen : ((((ap.map fun t => (f t).2.1).map V.int).length : Nat) : Int) = (((ap.map V.ref).length : Nat) : Int) := by simp
    refine iteB (fun z => ?_) (fun _ => ?_)
    · rw [elen] at z
      simp at z
    walk_at "wks"
    refine fun D hD => lcK_list (K := K) (a := b) (xs := ts.map V.ref) hD (fun i H' => H' D = some (.lst (((ts.take i).map fun t => (f t).2.1).map V.int)) ∧ Same H H') (fun H' f s h => ⟨h, s⟩) (fun i H' _ ⟨_, q⟩ => q.seq hb) ?_ ?_
    · rintro i x H2 hx ⟨h2, s2⟩
      obtain ⟨t, ht, rfl⟩ : ∃ t, ts[i]? = some t ∧ x = .ref t := by
        rw [List.getElem?_map] at hx
        cases e : ts[i]? with
        | none =>
          rw [e] at hx
          cases hx
        | some t =>
          rw [e] at hx
          exact ⟨t, rfl, (Option.some.inj hx).symm⟩
      have wt := s2 _ _ (hW t (List.mem_of_getElem? ht)).1
      have il := (List.getElem?_eq_some_iff.mp ht).1
      refine ⟨rfl, ?_⟩
      walk_at "wks"
      refine ⟨_, h2, szlt (by rw [List.length_map, List.length_map, List.length_take]; omega), fun H4 m4 h4 => ⟨?_, s2.but m4 hD⟩⟩
      rw [List.take_add_one, ht, List.map_append, List.map_append]
      exact h4
    rintro H2 ⟨h2, s2⟩
    rw [List.length_map, List.take_length] at h2
    have hlen : ((((ap.map fun t => (f t).2.1).map V.int).length : Nat) : Int) ≤ 60 := by
      rw [List.length_map, List.length_map]
      omega
    have hp2 := s2 _ _ hp
    have hq2 := s2 _ _ hq
    have hb2 := s2.seq hb
    walk_at "wk"
    walk_at "wk"
    have hn : ((((ap.map fun t => (f t).2.1).map V.int).length : Nat) : Int).toNat = ap.length := by
      rw [List.length_map, List.length_map]
      exact Int.toNat_natCast _
    refine ⟨_, rfl, by omega, by omega, ?_⟩
    refine for_range (lo := 0) (n := ((((ap.map fun t => (f t).2.1).map V.int).length : Nat) : Int).toNat) (fun i σ' H' => ∃ v1 v2 : Option V, σ' = [some (.ref r), some (.ref b), some (.ref p), some (.ref q), some (.ref D), v1, v2, none, none] ∧ H' = H2) ⟨_, _, rfl, rfl⟩ ?_ ?_
    · rintro i σ' H' hi ⟨v1, v2, rfl, rfl⟩
      rw [hn] at hi
      obtain ⟨t, ht⟩ : ∃ t, ap[i]? = some t := ⟨_, List.getElem?_eq_getElem hi⟩
      have hx1 : atI ((ap.map fun t => (f t).2.1).map V.int) (0 + (i : Int)) = some (.int (f t).2.1) := by
        rw [Int.zero_add]
        exact atI_nat (by rw [List.getElem?_map, List.getElem?_map, ht]; rfl)
      have hx2 : atI (ap.map V.ref) (0 + (i : Int)) = some (.ref t) := by
        rw [Int.zero_add]
        exact atI_nat (by rw [List.getElem?_map, ht]; rfl)
      repeat (first | (refine ⟨p, _, 0 + (i : Int), _, rfl, rfl, .of hp2, hx1, ?_⟩) | (refine ⟨q, _, 0 + (i : Int), _, rfl, rfl, .of hq2, hx2, ?_⟩) | walk_at "wk")
      have flat : ((ts.map fun t => (f t).2.1).map V.int).all flatV = true := by
        rw [List.all_eq_true]
        intro x hx
        obtain ⟨n, _, rfl⟩ := List.mem_map.mp hx
        rfl
      have tm : t ∈ ts := hd.mem_iff.mp (c.sub t (List.mem_of_getElem? ht))
      have hin : inV (V.int (f t).2.1) ((ts.map fun t => (f t).2.1).map V.int) = true := List.any_eq_true.mpr ⟨_, List.mem_map.mpr ⟨_, List.mem_map.mpr ⟨t, tm, rfl⟩, rfl⟩, by simp [eqV]⟩
      refine ⟨flat, ?_⟩
      walk_at "wks"
      refine iteB (fun z => ?_) (fun _ => ?_)
      · rw [if_pos rfl, hin] at z
        cases z
      have hW2 : ∀ t ∈ ts, WishAt H' t (f t) ∧ WOk (f t) := fun t h => ⟨s2 _ _ (hW t h).1, (hW t h).2⟩
      obtain ⟨d1, d2⟩ := wiDats (K := K) hW2
      repeat (first | (refine ⟨q, _, 0 + (i : Int), _, rfl, rfl, .of hq2, hx2, ?_⟩) | (refine ⟨b, _, wiDat (f t), _, rfl, hb2, wiDat_dp (hW2 t tm).1, d1, (wiDat_sd (hW2 t tm).2).sh (by decide), (Sd.list d2).sh (by decide), ?_⟩) | walk_at "wk")
      refine iteB (fun z => ?_) (fun _ => ?_)
      · have e : ((ts.map fun t => wiDat (f t)).any fun z => PyData.eqv z (wiDat (f t))) = true := List.any_eq_true.mpr ⟨_, List.mem_map.mpr ⟨t, tm, rfl⟩, SeqAt.eqv_refl _ (wiDat_sd (hW2 t tm).2).can⟩
        rw [e] at z
        cases z
      have hWt := hW2 t tm
      have wt : H' t = some (.tup [.int (f t).1, .int (f t).2.1, .str (f t).2.2.1, .int (f t).2.2.2]) := hWt.1
      have apartP := c.apart
      have earlier : ∀ (j : Nat) (u : Addr), j < i → ap[j]? = some u → (f u).2.1 < (f t).1 := fun j u hj hu => by
        obtain ⟨hj2, ej⟩ := List.getElem?_eq_some_iff.mp hu
        obtain ⟨hi2, ei⟩ := List.getElem?_eq_some_iff.mp ht
        have := (List.pairwise_iff_getElem.mp apartP) j i hj2 hi2 hj
        rw [ej, ei] at this
        exact this
      walk_at "wks"
      refine iteB (fun z0 => ?_) (fun z0 => ?_)
      · have i0 : 0 < i := by
          have := of_decide_eq_true z0
          omega
        obtain ⟨u, hu⟩ : ∃ u, ap[i - 1]? = some u := ⟨_, List.getElem?_eq_getElem (by omega)⟩
        have hx3 : atI ((ap.map fun t => (f t).2.1).map V.int) (0 + (i : Int) - 1) = some (.int (f u).2.1) := by
          rw [show (0 : Int) + (i : Int) - 1 = ((i - 1 : Nat) : Int) by omega]
          exact atI_nat (by rw [List.getElem?_map, List.getElem?_map, hu]; rfl)
        have lt := earlier (i - 1) u (by omega) hu
        repeat (first | (refine ⟨p, _, 0 + (i : Int) - 1, _, rfl, rfl, .of hp2, hx3, ?_⟩) | (refine ⟨p, _, 0 + (i : Int), _, rfl, rfl, .of hp2, hx1, ?_⟩) | walk_at "wk")
        refine iteB (fun z1 => ?_) (fun _ => ?_)
        · have h1 := of_decide_eq_true z1
          have h2 := hWt.2.1
          omega
        repeat (first | (refine ⟨q, _, 0 + (i : Int), _, rfl, rfl, .of hq2, hx2, ?_⟩) | walk_at "wk")
        refine for_range (lo := 0) (n := (0 + (i : Int)).toNat) (fun j σ' H4 => ∃ v2 : Option V, σ' = [some (.ref r), some (.ref b), some (.ref p), some (.ref q), some (.ref D), some (.int (0 + (i : Int))), v2, none, none] ∧ H4 = H') ⟨_, rfl, rfl⟩ ?_ ?_
        · rintro j σ' H4 hj ⟨v2, rfl, rfl⟩
          have hj2 : j < i := by omega
          obtain ⟨u2, hu2⟩ : ∃ u, ap[j]? = some u := ⟨_, List.getElem?_eq_getElem (by omega)⟩
          have lt2 := earlier j u2 hj2 hu2
          have wu := (hW2 u2 (hd.mem_iff.mp (c.sub u2 (List.mem_of_getElem? hu2)))).1
          have hx4 : atI (ap.map V.ref) (0 + (j : Int)) = some (.ref u2) := by
            rw [Int.zero_add]
            exact atI_nat (by rw [List.getElem?_map, hu2]; rfl)
          repeat (first | (refine ⟨q, _, 0 + (j : Int), _, rfl, rfl, .of hq2, hx4, ?_⟩) | (refine ⟨q, _, 0 + (i : Int), _, rfl, rfl, .of hq2, hx2, ?_⟩) | (refine ⟨u2, _, _, _, rfl, rfl, .of wu, rfl, ?_⟩) | (refine ⟨t, _, _, _, rfl, rfl, .of wt, rfl, ?_⟩) | walk_at "wk")
          refine iteB (fun _ => ?_) (fun _ => ?_)
          · repeat (first | (refine ⟨q, _, 0 + (j : Int), _, rfl, rfl, .of hq2, hx4, ?_⟩) | (refine ⟨q, _, 0 + (i : Int), _, rfl, rfl, .of hq2, hx2, ?_⟩) | (refine ⟨u2, _, _, _, rfl, rfl, .of wu, rfl, ?_⟩) | (refine ⟨t, _, _, _, rfl, rfl, .of wt, rfl, ?_⟩) | walk_at "wk")
            refine iteB (fun z => ?_) (fun _ => ?_)
            · have := of_decide_eq_true z
              omega
            · first | exact ⟨_, rfl, rfl⟩ | (walk_at "wks"; exact ⟨_, rfl, rfl⟩) | exact ⟨rfl, rfl⟩ | rfl
          · first | exact ⟨_, rfl, rfl⟩ | (walk_at "wks"; exact ⟨_, rfl, rfl⟩) | exact ⟨rfl, rfl⟩ | rfl
        · rintro σ' H4 ⟨v2, rfl, rfl⟩
          exact ⟨_, _, rfl, rfl⟩
      · repeat (first | (refine ⟨q, _, 0 + (i : Int), _, rfl, rfl, .of hq2, hx2, ?_⟩) | walk_at "wk")
        refine for_range (lo := 0) (n := (0 + (i : Int)).toNat) (fun j σ' H4 => ∃ v2 : Option V, σ' = [some (.ref r), some (.ref b), some (.ref p), some (.ref q), some (.ref D), some (.int (0 + (i : Int))), v2, none, none] ∧ H4 = H') ⟨_, rfl, rfl⟩ ?_ ?_
        · rintro j σ' H4 hj ⟨v2, rfl, rfl⟩
          have hj2 : j < i := by omega
          obtain ⟨u2, hu2⟩ : ∃ u, ap[j]? = some u := ⟨_, List.getElem?_eq_getElem (by omega)⟩
          have lt2 := earlier j u2 hj2 hu2
          have wu := (hW2 u2 (hd.mem_iff.mp (c.sub u2 (List.mem_of_getElem? hu2)))).1
          have hx4 : atI (ap.map V.ref) (0 + (j : Int)) = some (.ref u2) := by
            rw [Int.zero_add]
            exact atI_nat (by rw [List.getElem?_map, hu2]; rfl)
          repeat (first | (refine ⟨q, _, 0 + (j : Int), _, rfl, rfl, .of hq2, hx4, ?_⟩) | (refine ⟨q, _, 0 + (i : Int), _, rfl, rfl, .of hq2, hx2, ?_⟩) | (refine ⟨u2, _, _, _, rfl, rfl, .of wu, rfl, ?_⟩) | (refine ⟨t, _, _, _, rfl, rfl, .of wt, rfl, ?_⟩) | walk_at "wk")
          refine iteB (fun _ => ?_) (fun _ => ?_)
          · repeat (first | (refine ⟨q, _, 0 + (j : Int), _, rfl, rfl, .of hq2, hx4, ?_⟩) | (refine ⟨q, _, 0 + (i : Int), _, rfl, rfl, .of hq2, hx2, ?_⟩) | (refine ⟨u2, _, _, _, rfl, rfl, .of wu, rfl, ?_⟩) | (refine ⟨t, _, _, _, rfl, rfl, .of wt, rfl, ?_⟩) | walk_at "wk")
            refine iteB (fun z => ?_) (fun _ => ?_)
            · have := of_decide_eq_true z
              omega
            · first | exact ⟨_, rfl, rfl⟩ | (walk_at "wks"; exact ⟨_, rfl, rfl⟩) | exact ⟨rfl, rfl⟩ | rfl
          · first | exact ⟨_, rfl, rfl⟩ | (walk_at "wks"; exact ⟨_, rfl, rfl⟩) | exact ⟨rfl, rfl⟩ | rfl
        · rintro σ' H4 ⟨v2, rfl, rfl⟩
          exact ⟨_, _, rfl, rfl⟩
    rintro σ' H' ⟨v1, v2, rfl, rfl⟩
    walk_at "wk"
    walk_at "wk"
    refine ⟨⟨_, hb2⟩, for_list (K := K) (a := b) (xs := ts.map V.ref) (fun i σ' H4 => ∃ vw : Option V, σ' = [some (.ref r), some (.ref b), some (.ref p), some (.ref q), some (.ref D), v1, v2, vw, none] ∧ Same H' H4) ⟨_, rfl, .refl _⟩ (fun i σ' H4 _ ⟨_, _, s4⟩ => s4.seq hb2) ?_ ?_⟩
    · rintro i y σ' H4 hi ⟨vw, rfl, s4⟩
      obtain ⟨t, ht, rfl⟩ : ∃ t, ts[i]? = some t ∧ y = .ref t := by
        rw [List.getElem?_map] at hi
        cases e : ts[i]? with
        | none =>
          rw [e] at hi
          cases hi
        | some t =>
          rw [e] at hi
          exact ⟨t, rfl, (Option.some.inj hi).symm⟩
      have tm := List.mem_of_getElem? ht
      have wt := s4 _ _ (s2 _ _ (hW t tm).1)
      have hp4 := s4 _ _ hp2
      walk_at "wks"
      refine ⟨⟨_, .of hp4⟩, fun D2 hD2 => lcK_list (K := K) (a := p) (xs := (ap.map fun t => (f t).2.1).map V.int) hD2 (fun i H5 => ∃ zs : List Int, H5 D2 = some (.lst (zs.map V.int)) ∧ (∀ n ∈ (ap.map fun t => (f t).2.1).take i, (f t).1 ≤ n → n ≤ (f t).2.1 → zs ≠ []) ∧ zs.length ≤ i ∧ Same H4 H5) (fun H5 f5 s5 h5 => ⟨[], h5, by simp, Nat.le_refl _, s5⟩) (fun i H5 _ ⟨_, _, _, _, q5⟩ => .of (q5 _ _ hp4)) ?_ ?_⟩
      · rintro i x H5 hx ⟨zs, h5, hz, zl, s5⟩
        obtain ⟨n, rfl, hn2, _⟩ := int_at hx
        have wt5 : H5 t = some (.tup [.int (f t).1, .int (f t).2.1, .str (f t).2.2.1, .int (f t).2.2.2]) := s5 _ _ wt
        have etk : (ap.map fun t => (f t).2.1).take (i + 1) = (ap.map fun t => (f t).2.1).take i ++ [n] := by rw [List.take_add_one, hn2]; rfl
        refine ⟨rfl, ?_⟩
        have ial : i < ap.length := by
          have := (List.getElem?_eq_some_iff.mp hn2).1
          rw [List.length_map] at this
          exact this
        have no : ¬ ((f t).1 ≤ n ∧ n ≤ (f t).2.1) → ∀ m ∈ (ap.map fun t => (f t).2.1).take (i + 1), (f t).1 ≤ m → m ≤ (f t).2.1 → zs ≠ [] := fun nn m hm a1 a2 => by
          rw [etk] at hm
          rcases List.mem_append.mp hm with hm | hm
          · exact hz m hm a1 a2
          · rw [List.mem_singleton.mp hm] at a1 a2
            exact absurd ⟨a1, a2⟩ nn
        walk_at "wks"
        refine iteB (fun c1 => ?_) (fun c1 => ?_)
        · walk_at "wks"
          refine iteB (fun c2 => ?_) (fun c2 => ?_)
          · first
              | (refine ⟨_, rfl, _, h5, szlt (by rw [List.length_map]; omega), fun H6 m6 h6 => ⟨zs ++ [n], by rw [List.map_append]; exact h6, fun _ _ _ _ => by simp, by rw [List.length_append]; exact Nat.succ_le_succ zl, s5.but m6 hD2⟩⟩)
              | (walk_at "wks"; refine ⟨_, h5, szlt (by rw [List.length_map]; omega), fun H6 m6 h6 => ⟨zs ++ [n], by rw [List.map_append]; exact h6, fun _ _ _ _ => by simp, by rw [List.length_append]; exact Nat.succ_le_succ zl, s5.but m6 hD2⟩⟩)
              | (walk_at "wks"; rename_i H6 m6 h6; exact ⟨zs ++ [n], by rw [List.map_append]; exact h6, fun _ _ _ _ => by simp, by rw [List.length_append]; exact Nat.succ_le_succ zl, s5.but m6 hD2⟩)
          · exact ⟨zs, h5, no fun q => by have := of_decide_eq_false c2; exact this q.2, by omega, s5⟩
        · exact ⟨zs, h5, no fun q => by have := of_decide_eq_false c1; exact this q.1, by omega, s5⟩
      rintro H5 ⟨zs, h5, hz, zl, s5⟩
      walk_at "wks"
      rename_i pe He fe se he
      refine ⟨.list (zs.map PyData.int), .list [], Dp.ints (se _ _ h5), .lst (.of he) .nil, (Sd.list (n := 0) (SdAll.ints _)).sh (by decide), by decide +kernel, _, rfl, ?_⟩
      rw [eqv_nil]
      have ne : zs ≠ [] := by
        obtain ⟨z, hz1, g1, g2⟩ := c.hit t (hd.mem_iff.mpr tm)
        refine hz (f z).2.1 ?_ g1 g2
        rw [List.length_map, List.take_length]
        exact List.mem_map.mpr ⟨z, hz1, rfl⟩
      refine iteB (fun z => ?_) (fun _ => ?_)
      · cases zs with
        | nil => exact absurd rfl ne
        | cons _ _ => cases z
      · exact ⟨_, rfl, s4.trans (s5.trans se)⟩
    · rintro σ' H4 ⟨vw, rfl, s4⟩
      walk_at "wks"
      exact k _ (s2.trans s4)
/-- what the heap says of a wish -/
def wiOf (H : Hp) (t : Addr) : Wi := match H t with
  | some (.tup [.int a, .int b, .str c, .int d]) => (a, b, c, d)
  | _ => (0, 0, "", 0)
theorem wiOf_at {H : Hp} {ts : List Addr} (h : Wishes H ts) : ∀ t ∈ ts, WishAt H t (wiOf H t) ∧ WOk (wiOf H t) := fun t ht => by
  obtain ⟨w, h1, h2⟩ := h t ht
  have e : wiOf H t = w := by
    unfold wiOf
    rw [show H t = _ from h1]
  rw [e]
  exact ⟨h1, h2⟩
theorem chosen_len {ts done ap : List Addr} {f : Addr → Wi} (hW : ∀ t ∈ ts, WOk (f t)) (hd : done.Perm ts) (c : Chosen (fun t => (f t).1) (fun t => (f t).2.1) done ap) : ap.length ≤ ts.length := by
  rw [← hd.length_eq]
  refine fewer ?_ c.sub
  refine (List.Pairwise.and_mem.mp c.apart).imp fun {x y} h e => ?_
  subst e
  have h1 := (hW x (hd.mem_iff.mp (c.sub x h.1))).1
  have h2 := h.2.2
  omega
theorem but_lst {p : Addr} {xs : List V} {H H' : Hp} (m : But p H H') (h : H p = some (.lst xs)) : ∀ b o, (∀ xs, o ≠ HO.lst xs) → H b = some o → H' b = some o := fun b o n e => m b o (fun z => n xs (Option.some.inj (e.symm.trans (by rw [z]; exact h)))) e
def spLaw (K : PySem.W.Frag) : Sp := fun vs H Q _ => ∃ (a : Addr) (ns : List Int), vs = [.ref a] ∧ SqL K H a (ns.map V.int) ∧ ns.length ≤ 63 ∧ H (tabA K).2 = some (.tbl #[]) ∧ ∀ H', Q (.bl true) H'
theorem ok_law (T : Txt K mg) (TB : LamX.TabB base mg (tabA K).1 (tabA K).2) : ∃ fd, FnOk P w K mg base CX0 6 (He.fAd K ("law", none)) fd ["_law_script"] (spLaw K) ∧ FunD K "law" "law" (defArgs s_law) (defBody s_law) (defScope s_law) [] [] (He.fAd K ("law", none)) fd := by
  obtain ⟨fd, F⟩ := T.c.def_ 7 (d := d_law) rfl
  obtain ⟨fd_l_wishes, G_l_wishes, F_l_wishes⟩ := ok_l_wishes (P := P) (w := w) (base := base) T
  have kp_l_wishes := F_l_wishes.kp
  have b_l_wishes : Binds K fd_l_wishes ["_law_script"] [] := FunD.bindsN F_l_wishes (fun _ _ _ _ _ _ us hl => match us, hl with | [_], _ => rfl)
  obtain ⟨fd_marks, G_marks, F_marks⟩ := ok_marks (P := P) (w := w) (base := base) T TB
  have kp_marks := F_marks.kp
  have b_marks : Binds K fd_marks ["some"] [] := FunD.bindsN F_marks (fun _ _ _ _ _ _ us hl => match us, hl with | [_], _ => rfl)
  obtain ⟨fd_l_good, G_l_good, F_l_good⟩ := ok_l_good (P := P) (w := w) (base := base) T
  have kp_l_good := F_l_good.kp
  have b_l_good : Binds K fd_l_good ["_law_found", "_law_some"] [] := FunD.bindsN F_l_good (fun _ _ _ _ _ _ us hl => match us, hl with | [_, _], _ => rfl)
  obtain ⟨fd_l_chosen, G_l_chosen, F_l_chosen⟩ := ok_l_chosen (P := P) (w := w) (base := base) T
  have kp_l_chosen := F_l_chosen.kp
  have b_l_chosen : Binds K fd_l_chosen ["_law_some", "_law_script"] [] := FunD.bindsN F_l_chosen (fun _ _ _ _ _ _ us hl => match us, hl with | [_, _], _ => rfl)
  refine ⟨fd, F.ok sc_law (by walk_at "g94len") (fun cdv A outer st H vs Q E hr h => ?_), F⟩
  · obtain ⟨a, ns, rfl, hS, hl, hP, k⟩ := h
    refine ⟨_, PSs.nox (pss_cons (ps_set (i := 1) sc_law.nd rfl (Or.inl rfl) (pe_call G_l_wishes (hr.mono (by decide)) rfl (glo__law_wishes T) kp_l_wishes b_l_wishes .nil pass0 (pa_cons (pv 0) pa_nil)))
        (pss_cons (ps_set (i := 2) sc_law.nd rfl (Or.inl rfl) (pe_callTy call_listK (by rfl) (free_list T) (by decide +kernel) (pa_cons (pv 1) pa_nil)))
        (pss_cons (ps_set (i := 3) sc_law.nd rfl (Or.inl rfl) (pe_call G_marks (hr.mono (by decide)) rfl (glo_marks T) kp_marks b_marks .nil pass0 (pa_cons (pv 2) pa_nil)))
        (pss_cons (ps_if (PW.pt (pw_or (pt_not (pt_val (pe_call G_l_good (hr.mono (by decide)) rfl (glo__law_good T) kp_l_good b_l_good .nil pass0 (pa_cons (pv 3) (pa_cons (pv 1) pa_nil))))) (pw_or (pt_cmpR (op_neD hr.units) (pv 2) (pv 1) (nomark _)) (pw_or1 (pt_cmpR op_gt (pe_callB call_len_seq (by rfl) (free_len T) (by decide +kernel) (pa_cons (pe_ix ix_tup (pv 3) pe_int (fun _ _ => rfl)) pa_nil)) (pe_call G_l_chosen (hr.mono (by decide)) rfl (glo__law_chosen T) kp_l_chosen b_l_chosen .nil pass0 (pa_cons (pv 1) (pa_cons (pv 0) pa_nil))) (nomark _)))))) (pss_one (ps_ret pe_bl)) pss_nil)
        (pss_cons (ps_set (i := 4) sc_law.nd rfl (Or.inl rfl) (pe_callB call_len_seq (by rfl) (free_len T) (by decide +kernel) (pa_cons (pe_ix ix_tup (pv 3) pe_int (fun _ _ => rfl)) pa_nil)))
        (pss_cons (ps_expr (pe_bm0 PySem.F.plainAttrs_list PySem.F.slot_list_clear PySem.F.type_list_clear mt_clearK (pv 2)))
        (pss_cons (ps_expr (pe_bm PySem.F.plainAttrs_list PySem.F.slot_list_append PySem.F.type_list_append mt_appendK (pe_ix ix_tup (pv 3) pe_int (fun _ _ => rfl)) (pa_cons pe_int pa_nil)))
        (pss_cons (ps_set (i := 5) sc_law.nd rfl (Or.inl rfl) (pe_call G_marks (hr.mono (by decide)) rfl (glo_marks T) kp_marks b_marks .nil pass0 (pa_cons (pe_revLK (pv 1)) pa_nil)))
        (pss_one (ps_ret (pe_and (pe_call G_l_good (hr.mono (by decide)) rfl (glo__law_good T) kp_l_good b_l_good .nil pass0 (pa_cons (pv 5) (pa_cons (pv 1) pa_nil))) (pe_and (pe_cmpR op_eq (pe_callB call_len_seq (by rfl) (free_len T) (by decide +kernel) (pa_cons (pe_ix ix_tup (pv 5) pe_int (fun _ _ => rfl)) pa_nil)) (pv 4) (nomark _)) (pe_one (pe_cmpR (op_eqD hr.units) (pe_call G_marks (hr.mono (by decide)) rfl (glo_marks T) kp_marks b_marks .nil pass0 (pa_cons (pe_lstK pa_nil) pa_nil)) (pe_tupK (pa_cons (pe_lstK pa_nil) (pa_cons (pe_lstK pa_nil) pa_nil))) (nomark _))))))))))))))), ?_⟩
    have T0 : LamX.Tabs (tabsK K) H := fun p hp => by
      rw [List.mem_singleton.mp hp]
      exact .nil hP
    walk_at "wk"
    refine ⟨a, ns, rfl, hS, hl, fun p1 ts H1 s1 f1 h1 tl tn hW => ?_⟩
    have T1 := T0.ext s1
    have hWf := wiOf_at hW
    walk_at "wks"
    rename_i pH H2 fH sH hH
    have hp2 := sH _ _ h1
    refine ⟨pH, ts, wiOf H1, rfl, .inl (.inl hH), by omega, fun t ht => ⟨sH _ _ (hWf t ht).1, (hWf t ht).2.1⟩, T1.ext sH, fun p q r ap H3 eN T3 fp fq npq hr0 hpp hqq ⟨done, hd, c⟩ => ?_⟩
    have hp3 := eN _ _ hp2 (fun _ z => by cases z)
    have hH3 := eN _ _ hH (fun _ z => by cases z)
    have hW3 : ∀ t ∈ ts, WishAt H3 t (wiOf H1 t) ∧ WOk (wiOf H1 t) := fun t ht => ⟨eN _ _ (sH _ _ (hWf t ht).1) (fun _ z => by cases z), (hWf t ht).2⟩
    have hS3 : SqL K H3 a (ns.map V.int) := seqL_extN eN (sH.seq (s1.seq hS))
    have apl := chosen_len (fun t ht => (hWf t ht).2) hd c
    walk_at "wk"
    walk_at "wk"
    refine ⟨r, p1, p, q, ts, done, ap, wiOf H1, rfl, hr0, hpp, hqq, .inl (.inl hp3), tl, hW3, hd, c, by omega, fun H4 s4 => ?_⟩
    have hp4 := s4 _ _ hp3
    have hH4 := s4 _ _ hH3
    have hr4 := s4 _ _ hr0
    have hpp4 := s4 _ _ hpp
    have hS4 := s4.seq hS3
    have T4 := T3.ext s4
    have hW4 : ∀ t ∈ ts, WishAt H4 t (wiOf H1 t) ∧ WOk (wiOf H1 t) := fun t ht => ⟨s4 _ _ (hW3 t ht).1, (hW3 t ht).2⟩
    have hH2 := hH
    have hWf2 := hWf
    have hp22 := hp2
    clear hp2 sH hH hp3 hH3 hr0 hpp hqq hW3 T3 eN hS3 hWf T1 hP T0
    obtain ⟨d1, d2⟩ := wiDats (K := K) hW4
    walk_at "wks"
    refine ⟨.list (ts.map fun t => wiDat (wiOf H1 t)), .list (ts.map fun t => wiDat (wiOf H1 t)), .lst (.of hH4) d1, .lst (.of hp4) d1, (Sd.list d2).sh (by decide), (Sd.list d2).sh (by decide), ?_⟩
    rw [SeqAt.eqv_refl _ (Sd.list d2).can]
    walk_at "wk"
    walk_at "wk"
    refine ⟨r, _, 0, _, rfl, rfl, .of hr4, rfl, ?_⟩
    walk_at "wks"
    refine ⟨p1, a, ts, ns, rfl, .of hp4, hS4, hl, tn, fun t ht => ⟨_, hW4 t ht⟩, fun S H5 s5 hh => ?_⟩
    have hle : ap.length ≤ S.length := chosen_least (fun t => (wiOf H1 t).1) (fun t => (wiOf H1 t).2.1) c fun w hw => hh w (hd.mem_iff.mp hw) _ (hW4 w (hd.mem_iff.mp hw)).1
    have elen : (((ap.map fun t => (wiOf H1 t).2.1).map V.int).length : Int) = (ap.length : Int) := by simp
    have hp5 := s5 _ _ hp4
    have hH5 := s5 _ _ hH4
    have hr5 := s5 _ _ hr4
    have hpp5 := s5 _ _ hpp4
    have T5 := T4.ext s5
    have hW5 : ∀ t ∈ ts, WishAt H5 t (wiOf H1 t) ∧ WOk (wiOf H1 t) := fun t ht => ⟨s5 _ _ (hW4 t ht).1, (hW4 t ht).2⟩
    clear hp4 hH4 hr4 hpp4 hS4 T4 hW4 d1 d2 hS
    walk_at "wk"
    walk_at "wk"
    refine iteD (fun z => ?_) (fun _ => ?_)
    · omega
    walk_at "wk"
    refine ⟨r, _, 0, _, rfl, rfl, .of hr5, rfl, ?_⟩
    walk_at "wk"
    walk_at "wk"
    walk_at "wk"
    refine ⟨pH, _, rfl, rfl, hH5, fun H6 m6 h6 => ?_⟩
    have nH1 : p1 ≠ pH := ne_of_none h1 fH
    have npH : p ≠ pH := fun z => by
      obtain ⟨_, e⟩ := fp _ (by rw [z]; exact hH2)
      cases e
    have np1 : p ≠ p1 := fun z => by
      obtain ⟨_, e⟩ := fp _ (by rw [z]; exact hp22)
      cases e
    have hp6 := m6 _ _ nH1 hp5
    have hpp6 := m6 _ _ npH hpp5
    have hr6 := but_lst m6 hH5 _ _ (fun _ z => by cases z) hr5
    have T6 := tabs_but T5 (but_lst m6 hH5)
    have hW6 : ∀ t ∈ ts, WishAt H6 t (wiOf H1 t) ∧ WOk (wiOf H1 t) := fun t ht => ⟨but_lst m6 hH5 _ _ (fun _ z => by cases z) (hW5 t ht).1, (hW5 t ht).2⟩
    clear hp5 hpp5 hr5 T5 hW5
    walk_at "wk"
    refine ⟨r, _, 0, _, rfl, rfl, .of hr6, rfl, ?_⟩
    walk_at "wk"
    walk_at "wk"
    intro H7 m7 h7
    have hp7 := m7 _ _ np1.symm hp6
    have T7 := tabs_but T6 (but_lst m7 hpp6)
    have hW7 : ∀ t ∈ ts, WishAt H7 t (wiOf H1 t) ∧ WOk (wiOf H1 t) := fun t ht => ⟨but_lst m7 hpp6 _ _ (fun _ z => by cases z) (hW6 t ht).1, (hW6 t ht).2⟩
    clear hp6 T6 hW6
    walk_at "wk"
    refine ⟨p1, _, rfl, .of hp7, fun pR H8 f8 s8 h8 => ?_⟩
    rw [← List.map_reverse] at h8
    have hp8 := s8 _ _ hp7
    have hW8 : ∀ t ∈ ts, WishAt H8 t (wiOf H1 t) ∧ WOk (wiOf H1 t) := fun t ht => ⟨s8 _ _ (hW7 t ht).1, (hW7 t ht).2⟩
    have T8 := T7.ext s8
    clear hp7 T7 hW7
    refine ⟨pR, ts.reverse, wiOf H1, rfl, .of h8, by rw [List.length_reverse]; omega, fun t ht => ⟨(hW8 t (List.mem_reverse.mp ht)).1, (hW8 t (List.mem_reverse.mp ht)).2.1⟩, T8, fun p' q' r' ap' H9 eN9 T9 _ _ npq' hr9 hpp9 hqq9 ⟨done', hd', c'⟩ => ?_⟩
    have hd2 : done'.Perm ts := hd'.trans (List.reverse_perm ts)
    have hp9 := eN9 _ _ hp8 (fun _ z => by cases z)
    have hW9 : ∀ t ∈ ts, WishAt H9 t (wiOf H1 t) ∧ WOk (wiOf H1 t) := fun t ht => ⟨eN9 _ _ (hW8 t ht).1 (fun _ z => by cases z), (hW8 t ht).2⟩
    have apl' := chosen_len (fun t ht => (hWf2 t ht).2) hd2 c'
    have same := chosen_same (fun t => (wiOf H1 t).1) (fun t => (wiOf H1 t).2.1) c c' fun w => (hd.mem_iff).trans hd2.mem_iff.symm
    clear hp8 hW8 T8 eN9
    walk_at "wk"
    walk_at "wk"
    refine ⟨r', p1, p', q', ts, done', ap', wiOf H1, rfl, hr9, hpp9, hqq9, .of hp9, tl, hW9, hd2, c', by omega, fun HA sA => ?_⟩
    have hrA := sA _ _ hr9
    have hppA := sA _ _ hpp9
    have TA := T9.ext sA
    clear hr9 hpp9 hqq9 hW9 T9 hp9
    walk_at "wk"
    walk_at "wk"
    refine ⟨r', _, 0, _, rfl, rfl, .of hrA, rfl, ?_⟩
    walk_at "wks"
    have eV : (V.int ((((ap'.map fun t => (wiOf H1 t).2.1).map V.int).length : Nat) : Int)) = V.int ((((ap.map fun t => (wiOf H1 t).2.1).map V.int).length : Nat) : Int) := by
      rw [List.length_map, List.length_map, List.length_map, List.length_map, same]
    rw [if_pos (decide_eq_true eV)]
    walk_at "wk"
    walk_at "wk"
    rename_i pE HB fB sB hB
    refine ⟨pE, [], wiOf H1, rfl, .of hB, by simp, by simp, TA.ext sB, fun pp qq rr apE HC eNC TC _ _ nC hrC hpC hqC ⟨doneE, hdE, cE⟩ => ?_⟩
    obtain rfl : apE = [] := by
      cases apE with
      | nil => rfl
      | cons x l =>
        have h := cE.sub x List.mem_cons_self
        rw [List.Perm.eq_nil hdE] at h
        cases h
    walk_at "wks"
    rename_i x1 X1 f1' s1' h1' x2 X2 f2' s2' h2' x3 X3 f3' s3' h3'
    have dd : Sd 2 (.tuple [.list [], .list []]) := Sd.tup (SdAll.cons (Sd.list SdAll.nil) (SdAll.cons (Sd.list SdAll.nil) SdAll.nil))
    have S3 := (s1'.trans s2').trans s3'
    refine ⟨.tuple [.list [], .list []], .tuple [.list [], .list []], .tup (.of (S3 _ _ hrC)) (.cons (.lst (.of (S3 _ _ hpC)) .nil) (.cons (.lst (.of (S3 _ _ hqC)) .nil) .nil)), .tup (.of h3') (.cons (.lst (.of (s3' _ _ (s2' _ _ h1'))) .nil) (.cons (.lst (.of (s3' _ _ h2')) .nil) .nil)), dd.sh (by decide), dd.sh (by decide), ?_⟩
    rw [SeqAt.eqv_refl _ dd.can]
    exact k _
theorem law_facts {fa : Addr} (T : Txt K mg) (hfa : mg "law" = some (.ref fa)) :
    ∃ fd : FuncData, (∀ (s : Shared) (v : Value), BindsTo s fd ⟨[v], []⟩ [("_law_script", v)]) ∧ ∀ base : Heap, K.In base → base.Ns mainGlobals mg → LamX.TabB base mg (tabA K).1 (tabA K).2 → FnOk P w K mg base CX0 6 fa fd ["_law_script"] (spLaw K) := by
  have e := hfa.symm.trans (glo_law T)
  cases e
  obtain ⟨fd, F⟩ := T.c.def_ 7 (d := d_law) rfl
  refine ⟨fd, fun s v => FunD.bindsA (ps := ["_law_script"]) F (fun _ _ _ _ _ _ us hl => match us, hl with | [_], _ => rfl) s [v] rfl, fun base _ _ TB => ?_⟩
  obtain ⟨fd', G, F'⟩ := ok_law (P := P) (w := w) (base := base) T TB
  have q : fd' = fd := F'.fd_eq F
  rw [← q]
  exact G


end

abbrev R : PySem.W.OpenRow := PySem.W.OpenLaw.row PySem.Challenge.rw_lampcues_k82_marks
abbrev hk : PySem.W.Hook := He.hookX 6 fa fn [] [tabD] (fun _ => true)
def ob (s : PySem.W.SharedT) : He.AlX := He.obsX 6 fa fn [] [tabD] (fun _ => true) (HandSHeadRun.getT s)
theorem ob_eq (s : PySem.W.SharedT) : ob s = hk.obs s.abs := He.obsX_eq (HandSHeadRun.getT_eq s)
def loose0 : List PySem.Str := ["marks", "_law_drawn", "_law_whole", "_law_wish", "_law_wishes", "_law_good", "_law_chosen"]
def loose : List PySem.Str := loose0
theorem run (w : World) : HandSHeadRun.RunEq R (PySem.W.view R.prog [9]) hk ob 9000 loose w := by
  intro os
  kernel_rfl
end G94
open PySem PySem.W PySem.Calls PyProof.Rows
theorem PySem.Challenge.cw_lampcues_k82_marks_holds : PySem.Challenge.rw_lampcues_k82_marks.Holds := by
  w_on; o_law
  refine HandSHeadRun.head_any (r := OpenLaw.row PySem.Challenge.rw_lampcues_k82_marks) (q := view (OpenLaw.row PySem.Challenge.rw_lampcues_k82_marks).prog [9]) (H := G94.hk) (ob := G94.ob) (M := 9000) (loose := G94.loose) (d := HandSHeadRun.topDef (OpenLaw.row PySem.Challenge.rw_lampcues_k82_marks).prog 9) (kwd := []) G94.ob_eq
    (by kernel_rfl) (fun s => by kernel_rfl) G94.run (by kernel_rfl) (by kernel_rfl) (by kernel_rfl) (by rfl) (by first | assumption | decide +kernel) (by decide +kernel) ⟨rfl, rfl, rfl, rfl, rfl, by decide +kernel⟩ ?hw ?hc
  case hw => w_witness2
  case hc =>
    refine LamX.walk_ofTsE (l := PySem.Challenge.rw_lampcues_k82_marks) (n := 63) (k := 6) (x := "_law_script") (CX := fun _ => L2.CX0) rfl (by decide) (by kernel_rfl) ⟨rfl, by decide, by decide⟩ ?F (fun _ _ _ _ _ z => z)
    intro w mg fa h Y G hmg0
    obtain ⟨K, KX, c⟩ := Y
    have hmg : mg ("law" : PySem.Str) = some (.ref fa) := by
      have e : (HandSHeadRun.topDef (OpenLaw.row PySem.Challenge.rw_lampcues_k82_marks).prog 9).name = ("law" : PySem.Str) := by kernel_rfl
      rw [← e]
      exact hmg0
    obtain ⟨fd, hb, hF⟩ := G94.law_facts (P := (PySem.Challenge.rw_lampcues_k82_marks).prog) (w := w) ⟨c.t.d, ⟨h, KX, G⟩⟩ hmg
    refine ⟨K, KX, fd, [G94.tabA K], G94.spLaw K, fun p hp => ?_, fun p hp => ?_, fun p hp => ?_, hb, fun H a ns hl hbt hH hS => ⟨a, ns, rfl, hS, hl, hH _ (List.mem_singleton.mpr rfl), fun _ => rfl⟩, fun base hK hN hT => hF base hK hN (hT _ (List.mem_singleton.mpr rfl))⟩
    · rw [List.mem_singleton.mp hp]
      exact c.empty _ (List.mem_singleton.mpr rfl)
    · rw [List.mem_singleton.mp hp]
      exact c.out _ (List.mem_singleton.mpr rfl)
    · rw [List.mem_singleton.mp hp]
      exact PySem.W.codeHd_of_K KX (c.hd _ (List.mem_singleton.mpr rfl))
