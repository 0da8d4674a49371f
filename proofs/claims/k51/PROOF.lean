import PyProof.Rows.All
import Wide.All
import OpenK.AllK
import Wide.FinOn
import KE.KStateDown
import HandS.ForMost
import HandS.Exc
import HandS.TryOnly
import HandS.ExcOwn
import HandS.WordsExc
import HandS.Defaults
import HandS.Wide
import HandS.IsInst
import HandS.ExcIs
import HandS.EndBits
import HandS.TupLe
import HandS.Rev
import HandS.Codes
import HandS.MakeKw
import HandS.StrMore
import HandS.Head0
import HandS.Head1
import HandS.Head2
import HandS.HeadEnd
import HandS.HeadHook1
import HandS.HeadHook2
import HandS.More
import KE.KExcPX
import HandS.ExcValue
import PySem.Challenge.RW_lampcues_k51_amounts
set_option Elab.async false
set_option linter.all false
set_option maxRecDepth 100000
set_option maxHeartbeats 4000000
namespace L2
open PySem PySem.Spec PyProof.Rows
/-! ### own rules, own words -/
/-- a law's end by facts, with the script's bits and the only tracked thing told -/
theorem walk_ofEB {l : PySem.W.OpenLaw} {n k : Nat} {q : Program} {loose : List Str} {XP : (Str → Option Value) → Heap → Prop} {YP : World → Heap → Prop} {d : DefRec} {CX : CXT} {x : Str}
    (hn : l.most = some n) (hn2 : n ≤ sizeLine) (hdf : d.params.defaults = []) (hr : Room k callerA)
    (F : ∀ (w : World) (mg : Str → Option Value) (fa : Addr) (h : Heap), YP w h → h.Ns mainGlobals mg → mg d.name = some (.ref fa) →
      ∃ (K : PySem.W.Frag) (fd : FuncData) (sp : Sp), K.In h ∧ (∀ (s : Shared) (u : Value), BindsTo s fd ⟨[u], []⟩ [(x, u)]) ∧
        (∀ (H : Hp) (a : Addr) (ns : List Int), ns.length ≤ n → (∀ z ∈ ns, Builtin.Int.intBits z ≤ 1048576) → Only H → SqL K H a (ns.map V.int) → sp [.ref a] H (fun v _ => v = .bl true) fun _ _ _ => False) ∧
        ∀ base : Heap, K.In base → base.Ns mainGlobals mg → FnOk l.prog w K mg base CX k fa fd [x] sp)
    (hCX : ∀ (H : Hp) (s : Shared) (e : Value) (s' : Shared), CX [] H s (fun _ _ _ => False) e s' → False) :
    PySem.W.WalkO q loose XP YP l.row.toRowW d [] (fun f vs => PySem.call f vs) := by
  refine Att.attach_callB hn hdf fun w s₀ s₁ mg mb fa o pm cd doc a vs ns G Y ho hd hcd hmg hobj hints hlen hbits hg => ?_
  obtain ⟨K, fd, sp, KX, hb, hsp, hF⟩ := F w mg fa _ Y G.T.g hmg
  exact law_call KX G.T.g G.T.b G.T.builtins G.T.nolimit hg hobj hints (Nat.le_trans hlen hn2) hr hF hb (fun H hO hS => hsp H a ns hlen hbits hO hS) fun H e s' => hCX H s₁ e s'
section
variable {X : Cx}
/-- a written power -/
theorem pe_powC {i j v : Int} {a b : Nat} {p1 p2 pos : Pos} (e : i ^ j.toNat = v) (h : 0 ≤ j ∧ j ≤ 1000000 ∧ i.natAbs < 2 ^ 64) : PE X (.BinOp (.Constant (.int i) a p1) .Pow (.Constant (.int j) b p2) pos) (tC (.int v)) := by
  subst e
  refine ⟨fun pins s σ H Q I q => ?_⟩
  exact (pe_op (X := X) op_pow pe_int pe_int).run pins s σ H Q I ⟨i, j, rfl, rfl, h, q⟩
/-- a written negative number -/
theorem pe_negC {i : Int} {a : Nat} {p1 pos : Pos} : PE X (.UnaryOp .USub (.Constant (.int i) a p1) pos) (tC (.int (-i))) := by
  refine ⟨fun pins s σ H Q I q => ?_⟩
  exact (pe_un (X := X) un_neg pe_int).run pins s σ H Q I ⟨i, rfl, q⟩
end
theorem iteD {c A B : Prop} [Decidable c] (h1 : c → A) (h2 : ¬ c → B) : if decide c = true then A else B := by
  by_cases h : c
  · rw [if_pos (decide_eq_true h)]
    exact h1 h
  · rw [if_neg (by rw [decide_eq_false h]; exact Bool.false_ne_true)]
    exact h2 h
theorem iteND {c A B : Prop} [Decidable c] (h1 : ¬ c → A) (h2 : c → B) : if (!decide c) = true then A else B := by
  by_cases h : c
  · rw [decide_eq_true h]
    exact iteF (h2 h)
  · rw [decide_eq_false h]
    exact iteT (h1 h)
theorem iteV {a b : Int} {A B : Prop} (h1 : a = b → A) (h2 : a ≠ b → B) : if decide (V.int a = V.int b) = true then A else B :=
  iteD (fun e => h1 (V.int.inj e)) fun e => h2 fun q => e (congrArg V.int q)
theorem iteNV {a b : Int} {A B : Prop} (h1 : a ≠ b → A) (h2 : a = b → B) : if (!decide (V.int a = V.int b)) = true then A else B :=
  iteND (fun e => h1 fun q => e (congrArg V.int q)) fun e => h2 (V.int.inj e)
theorem iteB {b : Bool} {A B : Prop} (h1 : b = true → A) (h2 : b = false → B) : if b = true then A else B := by
  cases b with
  | true => exact iteT (h1 rfl)
  | false => exact iteF (h2 rfl)
theorem iteDT {c A B : Prop} [Decidable c] (h : c) (h1 : A) : if decide c = true then A else B := iteD (fun _ => h1) fun q => absurd h q
theorem iteDF {c A B : Prop} [Decidable c] (h : ¬ c) (h1 : B) : if decide c = true then A else B := iteD (fun q => absurd q h) fun _ => h1
theorem iteVT {a b : Int} {A B : Prop} (h : a = b) (h1 : A) : if decide (V.int a = V.int b) = true then A else B := iteV (fun _ => h1) fun q => absurd h q
theorem iteVF {a b : Int} {A B : Prop} (h : a ≠ b) (h1 : B) : if decide (V.int a = V.int b) = true then A else B := iteV (fun q => absurd q h) fun _ => h1
theorem iteNVF {a b : Int} {A B : Prop} (h : a = b) (h1 : B) : if (!decide (V.int a = V.int b)) = true then A else B := iteNV (fun q => absurd h q) fun _ => h1
theorem yes_lc {σ : St} {H : Hp} {A B : Hp → Prop} (h : A H) : tYes σ H (fun b H3 => if b = true then A H3 else B H3) := by
  show if true = true then A H else B H
  rw [if_pos rfl]
  exact h
theorem qT {Q : VK} {H : Hp} {c : Prop} [Decidable c] (h : c) (k : Q (.bl true) H) : Q (.bl (decide c)) H := by
  rw [decide_eq_true h]
  exact k
theorem qF {Q : VK} {H : Hp} {c : Prop} [Decidable c] (h : ¬ c) (k : Q (.bl false) H) : Q (.bl (decide c)) H := by
  rw [decide_eq_false h]
  exact k
theorem iteS {a b : List Nat} {z : Str} {A B : Prop} (e : z = SX.S b) (h1 : a = b → A) (h2 : a ≠ b → B) : if decide (V.str (SX.S a) = V.str z) = true then A else B := by
  subst e
  exact iteD (fun q => h1 (SX.S_inj (V.str.inj q))) fun q => h2 fun r => q (congrArg (fun l => V.str (SX.S l)) r)
theorem iteNSt {a b : List Nat} {z : Str} {A B : Prop} (e : z = SX.S b) (h1 : a ≠ b → A) (h2 : a = b → B) : if (!decide (V.str (SX.S a) = V.str z)) = true then A else B := by
  subst e
  exact iteND (fun q => h1 fun r => q (congrArg (fun l => V.str (SX.S l)) r)) fun q => h2 (SX.S_inj (V.str.inj q))
theorem cut_ints (ns : List Int) (lo hi : Option Int) : ∃ ms : List Int, cutV (ns.map V.int) lo hi = ms.map V.int ∧ ms.length ≤ ns.length ∧ ∀ z ∈ ms, z ∈ ns := by
  refine ⟨(ns.drop (HT.sIx (ns.map V.int).length 0 lo)).take (HT.sIx (ns.map V.int).length (ns.map V.int).length hi - HT.sIx (ns.map V.int).length 0 lo), ?_, ?_, ?_⟩
  · unfold cutV
    rw [List.map_take, List.map_drop]
  · rw [List.length_take, List.length_drop]
    omega
  · intro z hz
    exact List.mem_of_mem_drop (List.mem_of_mem_take hz)
theorem int_at {ns : List Int} {i : Nat} {y : V} (h : (ns.map V.int)[i]? = some y) : ∃ z, y = V.int z ∧ ns[i]? = some z ∧ i < ns.length := by
  rw [List.getElem?_map] at h
  cases e : ns[i]? with
  | none =>
    rw [e] at h
    cases h
  | some z =>
    rw [e] at h
    exact ⟨z, (Option.some.inj h).symm, rfl, (List.getElem?_eq_some_iff.mp e).1⟩
theorem atI_lt {xs : List V} {k : Int} (h0 : 0 ≤ k) (h1 : k < xs.length) : ∃ v, atI xs k = some v ∧ xs[k.toNat]? = some v := by
  have hl : k.toNat < xs.length := by omega
  refine ⟨xs[k.toNat], ?_, List.getElem?_eq_getElem hl⟩
  obtain ⟨n, rfl⟩ : ∃ n : Nat, k = n := ⟨k.toNat, by omega⟩
  exact atI_nat (List.getElem?_eq_getElem hl)
theorem at2 {a b k : Int} (h0 : 0 ≤ k) (h1 : k < 2) : ∃ v, atI [V.int a, V.int b] k = some (V.int v) ∧ ((k = 0 ∧ v = a) ∨ (k = 1 ∧ v = b)) := by
  rcases (by omega : k = 0 ∨ k = 1) with rfl | rfl
  · exact ⟨a, rfl, .inl ⟨rfl, rfl⟩⟩
  · exact ⟨b, rfl, .inr ⟨rfl, rfl⟩⟩
theorem at3 {a b c k : Int} (h0 : 0 ≤ k) (h1 : k < 3) : ∃ v, atI [V.int a, V.int b, V.int c] k = some (V.int v) ∧ ((k = 0 ∧ v = a) ∨ (k = 1 ∧ v = b) ∨ (k = 2 ∧ v = c)) := by
  rcases (by omega : k = 0 ∨ k = 1 ∨ k = 2) with rfl | rfl | rfl
  · exact ⟨a, rfl, .inl ⟨rfl, rfl⟩⟩
  · exact ⟨b, rfl, .inr (.inl ⟨rfl, rfl⟩)⟩
  · exact ⟨c, rfl, .inr (.inr ⟨rfl, rfl⟩)⟩
/-- a call that writes all parameters, the last ones by name -/
theorem kb_all {K : PySem.W.Frag} {x qual : Str} {params : Arguments} {body : List Stmt} {scope : Scope} {dvs : List V} {kws : List (Str × V)} {f : Addr} {fd : FuncData} {ps : List Str} (F : FunD K x qual params body scope dvs kws f fd) (n : Nat) (ks : List Str) (hd : dvs ≠ [])
    (h : ∀ (T : Addr) (kV doc pm : Value) (an : Option Addr) (cdv ct : Value) (us its ws : List Value), us.length = n → its.length = dvs.length → ws.length = ks.length →
      ∃ k, bindArgs (PySem.W.fnOf x qual params body scope (.ref T) kV doc pm an cdv ct) ⟨us, ks.zip ws⟩ = seqItems? (.ref T) >>= k ∧ k (some its.toArray) = pure (ps.zip (us ++ ws))) : KBn K fd ps n ks (fun us ws => us ++ ws) (fun vs zs => vs ++ zs) := by
  obtain ⟨oc, od, dV, kV, doc, pm, an, cdv, ct, osl, rfl, lk, hcd, hD, _⟩ := F.ex
  rcases hD with ⟨e, _⟩ | ⟨_, T, o, its, m, rfl, lT, oT, rT⟩
  · exact absurd e hd
  · refine ⟨fun s us ws X h1 h2 => ?_, fun r1 r2 => r1.append r2⟩
    obtain ⟨k, e1, e2⟩ := h T kV doc pm an cdv ct us its ws h1 rT.length.symm h2
    refine BindsTo.of_looks fun M => ?_
    rw [e1]
    exact looks_items X lT oT (.of_pure e2)
theorem FunD.fd_eq {K : PySem.W.Frag} {x qual : Str} {params : Arguments} {body : List Stmt} {scope : Scope} {dvs : List V} {kws : List (Str × V)} {f : Addr} {fd fd' : FuncData} (F : FunD K x qual params body scope dvs kws f fd) (F' : FunD K x qual params body scope dvs kws f fd') : fd = fd' := by
  obtain ⟨_, _, _, _, _, _, _, _, _, _, _, l, _⟩ := F.ex
  obtain ⟨_, _, _, _, _, _, _, _, _, _, _, l', _⟩ := F'.ex
  rw [l] at l'
  simp only [Option.some.injEq, Obj.mk.injEq, Data.func.injEq] at l'
  exact l'.2.2.1
theorem at4 {a b c d k : Int} (h0 : 0 ≤ k) (h1 : k < 4) : ∃ v, atI ([a, b, c, d].map V.int) k = some (V.int v) := by
  rcases (by omega : k = 0 ∨ k = 1 ∨ k = 2 ∨ k = 3) with rfl | rfl | rfl | rfl
  · exact ⟨a, rfl⟩
  · exact ⟨b, rfl⟩
  · exact ⟨c, rfl⟩
  · exact ⟨d, rfl⟩
theorem ints_last {es : List Int} {v : Int} (h : es.getLast? = some v) : atI (es.map V.int) (-1) = some (V.int v) := by
  obtain ⟨r, e⟩ := List.getLast?_eq_some_iff.mp h
  rw [e, List.map_append]
  exact atI_last _ _
/-- a loop over the signs of a text -/
theorem for_text {l : List Nat} {g : TG} {tb : TS} {D : Ends} {σ : St} {H : Hp} (Pv : Nat → St → Hp → Prop) (h0 : Pv 0 σ H)
    (hs : ∀ (i : Nat) (c : Nat) (σ : St) (H : Hp), l[i]? = some c → Pv i σ H → g (.str ⟨#[c]⟩) σ H (fun σ2 H2 => tb { D with nx := Pv (i + 1), ct := Pv (i + 1), bk := D.nx } σ2 H2))
    (hd : ∀ σ H, Pv l.length σ H → D.nx σ H) :
    ∃ W : Nat → Nat → St → Hp → Prop, (∃ m, W 0 m σ H) ∧ ∀ i m σ H, W i m σ H → ((Its (SX.S l)).stop i H ∧ D.nx σ H) ∨
      ((Its (SX.S l)).go i H ∧ ∃ N : St → Hp → Prop, (∀ σ' H', N σ' H' → ∃ m', m' < m ∧ W (i + 1) m' σ' H') ∧ ∀ v H', (Its (SX.S l)).yld i H v H' → g v σ H' fun σ2 H2 => tb { D with nx := N, ct := N, bk := D.nx } σ2 H2) := by
  refine ⟨fun i m σ H => m = l.length - i ∧ i ≤ l.length ∧ Pv i σ H, ⟨_, rfl, Nat.zero_le _, h0⟩, ?_⟩
  intro i m σ1 H1 hw
  obtain ⟨em, hi, p⟩ := hw
  have es : (SX.S l).cps.size = l.length := by simp
  rcases Nat.lt_or_ge i l.length with hlt | hge
  · right
    refine ⟨(by show i < (SX.S l).cps.size; omega), Pv (i + 1), fun σ' H' p' => ⟨l.length - (i + 1), by omega, rfl, by omega, p'⟩, ?_⟩
    intro v H' hy
    obtain ⟨e, c, hc, ev⟩ := hy
    rw [e, ev]
    refine hs i c σ1 H1 ?_ p
    have h2 : (SX.S l).cps[i]? = l[i]? := by simp
    rw [← h2]
    exact hc
  · left
    refine ⟨(by show (SX.S l).cps.size ≤ i; omega), hd σ1 H1 ?_⟩
    have e : i = l.length := by omega
    rw [← e]
    exact p
theorem atI_head {α : Type} (c : α) (r : List α) : atI (c :: r) 0 = some c := by
  show atI (c :: r) ((0 : Nat) : Int) = some c
  exact atI_nat rfl
theorem small_size {n : Nat} (h : n ≤ 100000) : n ≤ sizeLine := Nat.le_trans h (by decide)
theorem Same.new {H H' : Hp} {p : Addr} {o : HO} (e : Same H H') (h : H' p = none) : Same H (upd H' p o) := fun a u q => by
  rw [upd_ne (ne_of_none (e a u q) h)]
  exact e a u q
theorem Same.mut {H H' : Hp} {p : Addr} {o : HO} (e : Same H H') (h : H p = none) : Same H (upd H' p o) := fun a u q => by
  rw [upd_ne (ne_of_none q h)]
  exact e a u q
/-- o.m(e, .., k = v, ..) -/
def tMethN (C : Addr) (m : Str) (n j : Nat) (sp : Sp) (gV : List V → List V → List V) (E : XK) (ta : TE) (t tk : TA) : TE := fun σ H Q => ta σ H fun x H1 => ∃ a dx fs, x = .ref a ∧ H1 a = some (.ins C dx fs) ∧ fs.lookup m = none ∧
  t σ H1 fun vs H2 => tk σ H2 fun zs H3 => vs.length = n ∧ zs.length = j ∧ sp (gV (x :: vs) zs) H3 Q E
theorem pe_methN {X : Cx} {CX : CXT} {k n : Nat} {f C : Addr} {fd : FuncData} {ps ks : List Str} {sp : Sp} {E : XK} {m : Str} {o e : Expr} {es : List Expr} {kws : List Keyword} {apos pos : Pos} {ta : TE} {t tk : TA} {g : List Value → List Value → List Value} {gV : List V → List V → List V} {pl : Sem Bool}
    (he : PE X o ta) (c : Cls X.K C) (hm : Meth X.K C m f) (F : FnOk X.prog X.w X.K X.mg X.base CX k f fd ps sp) (hr : Room k X.A) (hb : KBn X.K fd ps (n + 1) ks g gV) (hx : Passes CX X E) (ha : PA X (e :: es) t) (hkw : PK X kws tk)
    (hall : (backToKw pos (keywordEach kws X.env)).all (·.1.isSome) = true := by rfl)
    (hks : (backToKw pos (keywordEach kws X.env)).filterMap (·.1) = ks := by rfl)
    (hst : starEach (e :: es) X.env = (false, eval e X.env) :: starEach es X.env := by rfl)
    (hpl : ((backTo pos (starEach (e :: es) X.env)).any (·.1) || (backToKw pos (keywordEach kws X.env)).any (·.1.isNone)) = false := by rfl)
    (ht : eval (.Call (.Attribute o m apos) (e :: es) kws pos) X.env = (do
      let ov ← eval o X.env
      standAt apos.atName
      let (f, first) ← holding [ov] (getMethod ov m pl)
      callWith pos f first (backTo pos (starEach (e :: es) X.env)) (backToKw pos (keywordEach kws X.env))) := by rfl) :
    PE X (.Call (.Attribute o m apos) (e :: es) kws pos) (tMethN C m n ks.length sp gV E ta t tk) := by
  constructor
  intro pins s σ H Q I hh
  apply PySem.W.methodCall_KW (pl := pl) (he := ht)
  apply thn (he.run pins s σ H _ I hh)
  rintro u s1 ⟨x, H1, I1, rx, a, dx, fs, rfl, ea, l, q⟩
  obtain rfl : u = Value.ref a := rx
  apply getmeth_ok I1 ea c hm l
  apply PySem.W.callWith_KW (first := [.ref a]) (h₀ := X.base) I.ok.mod.kin hm.kp hall (hplain := hpl) (he := hst)
  apply thn (ha.run pos pins s1 σ H1 _ I1 q)
  rintro us s2 ⟨vs, H2, I2, r, q2⟩
  apply thn (hkw.run pos pins s2 σ H2 _ I2 q2)
  rintro ws s3 ⟨zs, H3, I3, rz, l1, l2, q3⟩
  refine ⟨I3.kIn, ?_⟩
  rw [hks]
  exact run_fnN (us := .ref a :: us) (vs := .ref a :: vs) F hr hb hx I3 (.cons rfl r) rz (congrArg Nat.succ l1) l2 q3
theorem updN {H : Hp} {a b : Addr} {o u : HO} (h : b ≠ a) (e : H b = some u) : upd H a o b = some u := (upd_ne h).trans e
theorem neN {H : Hp} {a b : Addr} {u : HO} (h' : H b = none) (h : H a = some u) : a ≠ b := ne_of_none h h'
theorem neN2 {H : Hp} {a b : Addr} {u : HO} (h' : H a = none) (h : H b = some u) : a ≠ b := (ne_of_none h h').symm
theorem Same.at {H H' : Hp} {a : Addr} {u : HO} (s : Same H H') (e : H a = some u) : H' a = some u := s a u e
theorem Same.fresh {H H' : Hp} {a : Addr} (s : Same H H') (e : H' a = none) : H a = none := by
  cases h : H a with
  | none => rfl
  | some u =>
    rw [s a u h] at e
    cases e
theorem freshS {H H' : Hp} {a : Addr} (e : H' a = none) (s : Same H H') : H a = none := s.fresh e
/-! ### a head that asks one more thing of the written part -/
def obsY (n : Nat) (fa : List He.Fa) (fn : List He.DefD) (ex : PySem.W.Frag → Bool) (g : Addr → Option Obj) : He.AlD × Bool := (He.obsDG n fa fn g, ex (He.frG g (He.asD g n)))
def hookY (n : Nat) (fa : List He.Fa) (fn : List He.DefD) (ex : PySem.W.Frag → Bool) : PySem.W.Hook where
  α := He.AlD × Bool
  obs := fun s => obsY n fa fn ex s.heap.get?
  val := fun _ => (He.valD fn, true)
  says := fun _ h => ∃ K : PySem.W.Frag, K.In h ∧ He.SaysD fa fn K ∧ ex K = true
  of := fun _ _ e => ⟨_, He.frG_in, congrArg Prod.fst e, congrArg Prod.snd e⟩
  keeps := fun _ _ _ ⟨K, hK, c⟩ k => ⟨K, PySem.W.Frag.In.keeps hK k, c⟩
theorem obsY_eq {n : Nat} {fa : List He.Fa} {fn : List He.DefD} {ex : PySem.W.Frag → Bool} {g : Addr → Option Obj} {s : Shared} (h : ∀ a, g a = s.heap.get? a) : obsY n fa fn ex g = (hookY n fa fn ex).obs s := by
  have e : g = s.heap.get? := funext h
  rw [e]
  rfl
/-! ### what a class of errors must say, as one Bool -/
def excB (K : PySem.W.Frag) (x : Str) : Bool :=
  decide (PySem.W.findIn K (.ref (He.ga K x)) "__getattribute__" = some (some (.builtin "BaseException.__getattribute__"))) && (decide (PySem.W.findIn K (.ref (He.ga K x)) "__getattr__" = some none) &&
  (decide (PySem.W.subIn K (.ref (He.ga K x)) (.type "BaseException") = some true) && (PySem.W.hasDictIn K (He.ga K x) && (decide (PySem.W.findIn K (.ref (He.ga K x)) "__class__" = some (some (.builtin "object.__class__"))) &&
  (decide (PySem.W.specialIn K (.builtin "object.__class__") "__get__" = some (some (.builtin "getset_descriptor.__get__"))) && (decide (PySem.W.takesIn K (.builtin "object.__class__") = some true) && decide (PySem.W.mroIn K (He.ga K x) (.type "object") = some true)))))))
theorem excB_ok {K : PySem.W.Frag} {x : Str} (h : excB K x = true) : ExcC K (He.ga K x) := by
  obtain ⟨h1, h⟩ := He.ba h
  obtain ⟨h2, h⟩ := He.ba h
  obtain ⟨h3, h⟩ := He.ba h
  obtain ⟨h4, h⟩ := He.ba h
  obtain ⟨h5, h⟩ := He.ba h
  obtain ⟨h6, h⟩ := He.ba h
  obtain ⟨h7, h8⟩ := He.ba h
  exact ⟨of_decide_eq_true h1, of_decide_eq_true h2, of_decide_eq_true h3, h4, of_decide_eq_true h5, of_decide_eq_true h6, of_decide_eq_true h7, of_decide_eq_true h8⟩
/-- isinstance of what a suite holds, its class told by the reading -/
def rIsX (K : PySem.W.Frag) (cls : Value) (dc : Option Addr) (a : Addr) : List V → Hp → VK → Prop := fun xs H Q => ∃ D, cls = .ref D ∧ dc = none ∧ ExcC K D ∧ rIsE K D a xs H Q
theorem call_isX {X : Cx} {a : Addr} {cls : Value} {dc : Option Addr} {oe : Obj} {pn : List (Addr × Obj)} (hz : Zc cls dc oe) (hf : ∃ vs, oe.data = .fields vs) : CallR (X.suite a ((a, oe) :: pn)) (.builtin "isinstance") (rIsX X.K cls dc a) := by
  intro pins s σ H xs us Q I r h
  obtain ⟨D, e1, e2, C, q⟩ := h
  subst e1 e2
  exact call_isE C hz hf pins s σ H xs us Q I r q
end L2
/-! ### rules whose readings name the heap behind them -/
namespace L2
open PySem PySem.Spec PyProof.Rows
def Fr (H : Hp) (p : Addr) : Prop := H p = none
/-- all but a stays -/
def But (a : Addr) (H H' : Hp) : Prop := ∀ b u, b ≠ a → H b = some u → H' b = some u
theorem But.up {H : Hp} {a : Addr} {o : HO} : But a H (upd H a o) := fun b u n e => updN n e
theorem But.at {H H' : Hp} {a b : Addr} {u : HO} (m : But a H H') (n : b ≠ a) (e : H b = some u) : H' b = some u := m b u n e
theorem But.kind {H H' : Hp} {a b : Addr} {o u : HO} (m : But a H H') (h : H a = some o) (e : H b = some u) (d : u ≠ o) : H' b = some u := m b u (ne_of e h d) e
theorem But.trans {H H1 H' : Hp} {a : Addr} (m : But a H H1) (n : But a H1 H') : But a H H' := fun b u h e => n b u h (m b u h e)
theorem But.same {H H1 H' : Hp} {a : Addr} (m : But a H H1) (s : Same H1 H') : But a H H' := fun b u h e => s _ _ (m b u h e)
theorem Same.thenBut {H H1 H' : Hp} {a : Addr} (s : Same H H1) (m : But a H1 H') : But a H H' := fun b u h e => m b u h (s _ _ e)
theorem Same.but {H H1 H' : Hp} {a : Addr} (s : Same H H1) (m : But a H1 H') (f : Fr H a) : Same H H' := fun b u e => m b u (ne_of_none e f) (s b u e)
theorem neF {H : Hp} {a b : Addr} {u : HO} (f : Fr H b) (e : H a = some u) : a ≠ b := ne_of_none e f
theorem neF2 {H : Hp} {a b : Addr} {u : HO} (f : Fr H a) (e : H b = some u) : a ≠ b := (ne_of_none e f).symm
theorem Fr.back {H H' : Hp} {p : Addr} (f : Fr H' p) (s : Same H H') : Fr H p := s.fresh f
/-- a new object -/
def New (o : HO) (H : Hp) (Q : VK) : Prop := ∀ (p : Addr) (H' : Hp), Fr H p → Same H H' → H' p = some o → Q (.ref p) H'
theorem New.out {o : HO} {H : Hp} {Q : VK} (h : New o H Q) (p : Addr) (hp : H p = none) : Q (.ref p) (upd H p o) := h p _ hp ((Same.refl H).new hp) upd_same
/-- the object at a is changed -/
def Put (a : Addr) (o : HO) (H : Hp) (Q : Hp → Prop) : Prop := ∀ H', But a H H' → H' a = some o → Q H'
theorem Put.out {a : Addr} {o : HO} {H : Hp} {Q : Hp → Prop} (h : Put a o H Q) : Q (upd H a o) := h _ But.up upd_same
section
variable {X : Cx} {pos : Pos}
def upE (t : TE) : TE := fun σ H Q => ∃ R : VK, t σ H R ∧ ∀ v H', R v H' → Q v H'
theorem PE.up {e : Expr} {t : TE} (h : PE X e t) : PE X e (upE t) := ⟨fun pins s σ H Q I ⟨R, r, k⟩ => thn (h.run pins s σ H R I r) fun u s1 ⟨v, H1, I1, rv, q⟩ => ⟨v, H1, I1, rv, k v H1 q⟩⟩
theorem PE.imp {e : Expr} {t t' : TE} (h : PE X e t) (k : ∀ σ H Q, t' σ H Q → t σ H Q) : PE X e t' := ⟨fun pins s σ H Q I q => h.run pins s σ H Q I (k σ H Q q)⟩
def upA (t : TA) : TA := fun σ H Q => ∃ R : List V → Hp → Prop, t σ H R ∧ ∀ v H', R v H' → Q v H'
theorem PA.up {es : List Expr} {t : TA} (h : PA X es t) : PA X es (upA t) := ⟨fun pos pins s σ H Q I ⟨R, r, k⟩ => thn (h.run pos pins s σ H R I r) fun u s1 ⟨v, H1, I1, rv, q⟩ => ⟨v, H1, I1, rv, k v H1 q⟩⟩
def upG (t : TG) : TG := fun v σ H Q => ∃ R : St → Hp → Prop, t v σ H R ∧ ∀ σ' H', R σ' H' → Q σ' H'
theorem PG.up {e : Expr} {t : TG} (h : PG X e t) : PG X e (upG t) := ⟨fun pins s σ H v u Q I rv ⟨R, r, k⟩ => thn (h.run pins s σ H v u R I rv r) fun _ s1 ⟨σ1, H1, I1, q⟩ => ⟨σ1, H1, I1, k σ1 H1 q⟩⟩
def upT (t : TT) : TT := fun σ H Q => ∃ R : Bool → Hp → Prop, t σ H R ∧ ∀ b H', R b H' → Q b H'
theorem PTs.up {es : List Expr} {t : TT} (h : PTs X es t) : PTs X es (upT t) := ⟨fun pins s σ H Q I ⟨R, r, k⟩ => thn (h.run pins s σ H R I r) fun b s1 ⟨H1, I1, q⟩ => ⟨H1, I1, k b H1 q⟩⟩
theorem PS.imp {st : Stmt} {t t' : TS} (h : PS X st t) (k : ∀ D σ H, t' D σ H → t D σ H) : PS X st t' := ⟨fun pins s σ H D I q => h.run pins s σ H D I (k D σ H q)⟩
theorem OpR.imp {f : Value → Value → Sem Value} {r r' : R2} (h : OpR X f r) (k : ∀ x y H Q, r' x y H Q → r x y H Q) : OpR X f r' := fun pins s σ H x y v u Q I rx ry q => h pins s σ H x y v u Q I rx ry (k x y H Q q)
theorem CallR.imp {f : Value} {r r' : List V → Hp → VK → Prop} (h : CallR X f r) (k : ∀ xs H Q, r' xs H Q → r xs H Q) : CallR X f r' := fun pins s σ H xs us Q I rx q => h pins s σ H xs us Q I rx (k xs H Q q)
theorem MtR.imp {id : String} {r r' : V → List V → Hp → VK → Prop} (h : MtR X id r) (k : ∀ x xs H Q, r' x xs H Q → r x xs H Q) : MtR X id r' := fun pins s σ H x xs v us Q I rx rs q => h pins s σ H x xs v us Q I rx rs (k x xs H Q q)
theorem SlR.imp {r r' : V → Option Int → Option Int → Hp → VK → Prop} (h : SlR X r) (k : ∀ x lo hi H Q, r' x lo hi H Q → r x lo hi H Q) : SlR X r' := fun pins s σ H x v vl vu lo hi sl Q I rx hs pl pu q => h pins s σ H x v vl vu lo hi sl Q I rx hs pl pu (k x lo hi H Q q)
def tLstK (t : TA) : TE := fun σ H Q => t σ H fun xs H1 => xs.length ≤ sizeLine ∧ New (.lst xs) H1 Q
theorem pe_lstK {es : List Expr} {t : TA} (h : PA X es t) : PE X (.List es pos) (tLstK t) := (pe_lst h.up).imp fun σ H Q q => ⟨_, q, fun xs H1 r => ⟨r.1, r.2.out⟩⟩
def tTupK (t : TA) : TE := fun σ H Q => t σ H fun xs H1 => xs.length ≤ sizeLine ∧ New (.tup xs) H1 Q
theorem pe_tupK {x1} {es : List Expr} {t : TA} (h : PA X es t) : PE X (.Tuple es x1 pos) (tTupK t) := (pe_tup h.up).imp fun σ H Q q => ⟨_, q, fun xs H1 r => ⟨r.1, r.2.out⟩⟩
def tDNewTK : TE := fun _ H Q => New (.dT []) H Q
theorem pe_dnewTK : PE X (.Dict [] [] pos) tDNewTK := pe_dnewT.imp fun σ H Q q => q.out
def tDNewKK : TE := fun _ H Q => New (.dK []) H Q
theorem pe_dnewKK : PE X (.Dict [] [] pos) tDNewKK := pe_dnewK.imp fun σ H Q q => q.out
def rCatK : R2 := fun x y H Q => ∃ l b xs zs, x = .ref l ∧ y = .ref b ∧ H l = some (.lst xs) ∧ H b = some (.lst zs) ∧ xs.length + zs.length ≤ sizeLine ∧ New (.lst (xs ++ zs)) H Q
theorem op_catK : OpR X (binaryOp .Add) rCatK := op_cat.imp fun x y H Q ⟨l, b, xs, zs, e1, e2, h1, h2, z, q⟩ => ⟨l, b, xs, zs, e1, e2, h1, h2, z, q.out⟩
def rRepK : R2 := fun x y H Q => ∃ l k xs, x = .ref l ∧ y = .int k ∧ H l = some (.lst xs) ∧ (-(2 ^ 63) ≤ k ∧ k < 2 ^ 63 ∧ xs.length * k.toNat ≤ sizeLine) ∧ New (.lst (List.replicate k.toNat xs).flatten) H Q
theorem op_repK : OpR X (binaryOp .Mult) rRepK := op_rep.imp fun x y H Q ⟨l, k, xs, e1, e2, h1, ⟨z1, z2, z3⟩, q⟩ => ⟨l, k, xs, e1, e2, h1, z1, z2, z3, q.out⟩
def rSlLK (K : PySem.W.Frag) : V → Option Int → Option Int → Hp → VK → Prop := fun x lo hi H Q => ∃ a xs, x = .ref a ∧ SqL K H a xs ∧ New (.lst (cutV xs lo hi)) H Q
theorem sl_listK : SlR X (rSlLK X.K) := sl_list.imp fun x lo hi H Q ⟨a, xs, e, h, q⟩ => ⟨a, xs, e, h, q.out⟩
def rAppK : V → List V → Hp → VK → Prop := fun x vs H Q => ∃ l xs y, x = .ref l ∧ vs = [y] ∧ H l = some (.lst xs) ∧ xs.length < sizeLine ∧ Put l (.lst (xs ++ [y])) H (Q .non)
theorem mt_appendK : MtR X "list.append" rAppK := MtR.imp mt_append fun x xs H Q ⟨l, ys, y, e1, e2, h, z, q⟩ => ⟨l, ys, y, e1, e2, h, z, q.out⟩
def rExtK : V → List V → Hp → VK → Prop := fun x vs H Q => ∃ l b xs zs, x = .ref l ∧ vs = [.ref b] ∧ H l = some (.lst xs) ∧ H b = some (.lst zs) ∧ xs.length + zs.length ≤ sizeLine ∧ Put l (.lst (xs ++ zs)) H (Q .non)
theorem mt_extendK : MtR X "list.extend" rExtK := MtR.imp mt_extend fun x xs H Q ⟨l, b, ys, zs, e1, e2, h, h2, z, q⟩ => ⟨l, b, ys, zs, e1, e2, h, h2, z, q.out⟩
def rPopLK : V → List V → Hp → VK → Prop := fun x vs H Q => ∃ l xs y, x = .ref l ∧ vs = [] ∧ H l = some (.lst xs) ∧ xs[xs.length - 1]? = some y ∧ Put l (.lst xs.dropLast) H (Q y)
theorem mt_popK : MtR X "list.pop" rPopLK := MtR.imp mt_pop fun x xs H Q ⟨l, ys, y, e1, e2, h, z, q⟩ => ⟨l, ys, y, e1, e2, h, z, q.out⟩
def rPopIK : V → List V → Hp → VK → Prop := fun x vs H Q => ∃ l xs i k y, x = .ref l ∧ vs = [.int i] ∧ H l = some (.lst xs) ∧ (-(2 ^ 63) ≤ i ∧ i < 2 ^ 63) ∧ seqIndex? i xs.length = some k ∧ xs[k]? = some y ∧ Put l (.lst (xs.eraseIdx k)) H (Q y)
theorem mt_popAtK : MtR X "list.pop" rPopIK := MtR.imp mt_popAt fun x xs H Q ⟨l, ys, i, k, y, e1, e2, h, z, h3, h4, q⟩ => ⟨l, ys, i, k, y, e1, e2, h, z.1, z.2, h3, h4, q.out⟩
def rClearK : V → List V → Hp → VK → Prop := fun x vs H Q => ∃ l xs, x = .ref l ∧ vs = [] ∧ H l = some (.lst xs) ∧ Put l (.lst []) H (Q .non)
theorem mt_clearK : MtR X "list.clear" rClearK := MtR.imp mt_clear fun x xs H Q ⟨l, ys, e1, e2, h, q⟩ => ⟨l, ys, e1, e2, h, q.out⟩
def rInsK : V → List V → Hp → VK → Prop := fun x vs H Q => ∃ l xs i y, x = .ref l ∧ vs = [.int i, y] ∧ H l = some (.lst xs) ∧ xs.length < sizeLine ∧ (0 ≤ i ∧ i < 2 ^ 63) ∧ Put l (.lst (xs.take i.toNat ++ [y] ++ xs.drop i.toNat)) H (Q .non)
theorem mt_insertK : MtR X "list.insert" rInsK := MtR.imp mt_insert fun x xs H Q ⟨l, ys, i, y, e1, e2, h, z, hi, q⟩ => ⟨l, ys, i, y, e1, e2, h, z, hi.1, hi.2, q.out⟩
def rSetK : V → V → V → Hp → (Hp → Prop) → Prop := fun o i v H Q => ∃ p xs k j, o = .ref p ∧ i = .int k ∧ H p = some (.lst xs) ∧ ixN xs.length k = some j ∧ Put p (.lst (xs.set j v)) H Q
theorem set_listK : PSet X rSetK := fun pins s σ H o i v ov iv u Q I ro ri rv ⟨p, xs, k, j, e1, e2, h, z, q⟩ => set_list pins s σ H o i v ov iv u Q I ro ri rv ⟨p, xs, k, j, e1, e2, h, z, q.out⟩
def rListK (K : PySem.W.Frag) : List V → Hp → VK → Prop := fun xs H Q => ∃ p ys, xs = [.ref p] ∧ (SqL K H p ys ∨ SqT K H p ys) ∧ New (.lst ys) H Q
theorem call_listK : CallR X (.type "list") (rListK X.K) := CallR.imp call_list_of fun xs H Q ⟨p, ys, e, h, q⟩ => ⟨p, ys, e, h, q.out⟩
def rDivK : List V → Hp → VK → Prop := fun xs H Q => ∃ i j, xs = [.int i, .int j] ∧ CDiv i j ∧ New (.tup [.int (i / j), .int (i % j)]) H Q
theorem call_divmodK : CallR X (.builtin "divmod") rDivK := CallR.imp call_divmod fun xs H Q ⟨i, j, e, h, q⟩ => ⟨i, j, e, h, q.out⟩
def rSplitK : V → List V → Hp → VK → Prop := fun x xs H Q => ∃ a b, x = .str a ∧ xs = [.str b] ∧ (b.length == 0) = false ∧ a.length + 2 ≤ sizeLine ∧ New (.lst ((Txt.split a b).map V.str)) H Q
theorem mt_splitK : MtR X "str.split" rSplitK := MtR.imp mt_split fun x xs H Q ⟨a, b, e1, e2, h1, h2, q⟩ => ⟨a, b, e1, e2, h1, h2, q.out⟩
/-- d[k] = v, the keys tuples -/
def sDPutTK (td ty tv : TE) : TS := fun D σ H => tv σ H fun v H1 => td σ H1 fun x H2 => ty σ H2 fun y H3 => ∃ a b kvs k, x = .ref a ∧ y = .ref b ∧ H3 a = some (.dT kvs) ∧ H3 b = some (.tup (k.map kV)) ∧ kvs.length < sizeLine ∧ Put a (.dT (putK kvs k v)) H3 (D.nx σ)
theorem ps_dputTK {o i value : Expr} {td ty tv : TE} {pos' : Pos} (hu : X.A.units + 1 < cLine) (ho : PE X o td) (hi : PE X i ty) (hv : PE X value tv) (hs : swapsWith value (some (.Subscript o i pos')) pos.line X.env = pure false) :
    PS X (.Assign [.Subscript o i pos'] value pos) (sDPutTK td ty tv) := by
  refine (ps_dput hu ho.up hi.up hv.up hs).imp fun D σ H q => ?_
  refine ⟨_, q, fun v H1 q1 => ⟨_, q1, fun x H2 q2 => ⟨_, q2, fun y H3 q3 => ?_⟩⟩⟩
  obtain ⟨a, b, kvs, k, e1, e2, h1, h2, z, r⟩ := q3
  exact ⟨a, _, e1, by rw [e2]; exact DPut.t h1 h2 z, r.out⟩
def sDPutKK (td ty tv : TE) : TS := fun D σ H => tv σ H fun v H1 => td σ H1 fun x H2 => ty σ H2 fun y H3 => ∃ a kvs k, x = .ref a ∧ y = kV k ∧ H3 a = some (.dK kvs) ∧ kvs.length < sizeLine ∧ Put a (.dK (putK kvs k v)) H3 (D.nx σ)
theorem ps_dputKK {o i value : Expr} {td ty tv : TE} {pos' : Pos} (hu : X.A.units + 1 < cLine) (ho : PE X o td) (hi : PE X i ty) (hv : PE X value tv) (hs : swapsWith value (some (.Subscript o i pos')) pos.line X.env = pure false) :
    PS X (.Assign [.Subscript o i pos'] value pos) (sDPutKK td ty tv) := by
  refine (ps_dput hu ho.up hi.up hv.up hs).imp fun D σ H q => ?_
  refine ⟨_, q, fun v H1 q1 => ⟨_, q1, fun x H2 q2 => ⟨_, q2, fun y H3 q3 => ?_⟩⟩⟩
  obtain ⟨a, kvs, k, e1, e2, h1, z, r⟩ := q3
  exact ⟨a, _, e1, by rw [e2]; exact DPut.k h1 z, r.out⟩
def sFldK (K : PySem.W.Frag) (ta tv : TE) (f : Str) : TS := fun D σ H => tv σ H fun y H1 => ta σ H1 fun x H2 => ∃ a C dx fs, x = .ref a ∧ H2 a = some (.ins C dx fs) ∧ Cls K C ∧ NoAttr K C f ∧ fs.length < 1000 ∧ Put a (.ins C dx (putF f y fs)) H2 (D.nx σ)
theorem ps_fldK {o value : Expr} {ta tv : TE} {f : Str} {pos' : Pos} (ha : PE X o ta) (hv : PE X value tv) (hs : swapsWith value (some (.Attribute o f pos')) pos.line X.env = pure false) : PS X (.Assign [.Attribute o f pos'] value pos) (sFldK X.K ta tv f) := by
  refine (ps_fld ha.up hv.up hs).imp fun D σ H q => ?_
  refine ⟨_, q, fun y H1 q1 => ⟨_, q1, fun x H2 q2 => ?_⟩⟩
  obtain ⟨a, C, dx, fs, e1, h1, c, n, z, r⟩ := q2
  exact ⟨a, C, dx, fs, e1, h1, c, n, z, r.out⟩
def tMakeK (C : Addr) (sp : Sp) (dvs : List V) (E : XK) (t : TA) : TE := fun σ H Q => t σ H fun vs H1 => ∀ (x dx : Addr) (H2 : Hp), Fr H1 x → Same H1 H2 → H2 x = some (.ins C dx []) →
  sp (.ref x :: (vs ++ dvs)) H2 (fun v H3 => v = .non ∧ Q (.ref x) H3) E
theorem tMakeK.out {C : Addr} {sp : Sp} {dvs : List V} {E : XK} {t : TA} {σ : St} {H : Hp} {Q : VK} (q : tMakeK C sp dvs E t σ H Q) : tMake C sp dvs E (upA t) σ H Q := by
  refine ⟨_, q, fun vs H1 r x dx hx hdx ne => r x dx _ hx ?_ upd_same⟩
  exact ((Same.refl H1).new hdx).new (by rw [upd_ne ne.symm]; exact hx)
theorem pe_makeK {CX : CXT} {k : Nat} {C f : Addr} {fd : FuncData} {ps : List Str} {sp : Sp} {x : Str} {p : Pos} {ds : List Value} {dvs : List V} {E : XK} {e : Expr} {es : List Expr} {t : TA} (M : Mk X.K C f) (F : FnOk X.prog X.w X.K X.mg X.base CX k f fd ps sp) (hr : Room (k + 1) X.A) (hg : Gl X x) (hm : X.mg x = some (.ref C)) (hb : Binds X.K fd ps ds) (hd : Vals dvs ds) (hx : Passes CX X E)
    (ha : PA X (e :: es) t) (hdb : (x == ("__debug__" : Str)) = false := by decide) (he : starEach (e :: es) X.env = (false, eval e X.env) :: starEach es X.env := by rfl) (hpl : (backTo pos (starEach es X.env)).any (·.1) = false := by rfl) :
    PE X (.Call (.Name x p) (e :: es) [] pos) (tMakeK C sp dvs E t) := (pe_make M F hr hg hm hb hd hx ha.up hdb he hpl).imp fun σ H Q q => q.out
theorem pe_make0K {CX : CXT} {k : Nat} {C f : Addr} {fd : FuncData} {ps : List Str} {sp : Sp} {x : Str} {p : Pos} {ds : List Value} {dvs : List V} {E : XK} (M : Mk X.K C f) (F : FnOk X.prog X.w X.K X.mg X.base CX k f fd ps sp) (hr : Room (k + 1) X.A) (hg : Gl X x) (hm : X.mg x = some (.ref C)) (hb : Binds X.K fd ps ds) (hd : Vals dvs ds) (hx : Passes CX X E)
    (hdb : (x == ("__debug__" : Str)) = false := by decide) : PE X (.Call (.Name x p) [] [] pos) (tMakeK C sp dvs E tNil) := (pe_make0 M F hr hg hm hb hd hx hdb).imp fun σ H Q q x dx hx hdx ne => q x dx _ hx (((Same.refl H).new hdx).new (by rw [upd_ne ne.symm]; exact hx)) upd_same
end
/-! ### loops and comprehensions over them -/
section
variable {K : PySem.W.Frag} {a : Addr} {xs : List V} {g : TG} {tt : TT} {te : TE} {vs : List Nat} {σ : St} {H1 : Hp} {D : Addr} {Qd : Hp → Prop}
/-- one turn of a comprehension -/
def LcTurn (σ : St) (vs : List Nat) (g : TG) (tt : TT) (te : TE) (D : Addr) (x : V) (H : Hp) (P : Hp → Prop) : Prop :=
  g x (wipe σ vs) H fun σ2 H2 => wipe σ2 vs = wipe σ vs ∧ tt σ2 H2 fun b H3 => if b = true then te σ2 H3 fun y H4 => ∃ acc, H4 D = some (.lst acc) ∧ acc.length < sizeLine ∧ Put D (.lst (acc ++ [y])) H4 P else P H3
theorem LcTurn.out {x : V} {H : Hp} {P : Hp → Prop} (h : LcTurn σ vs g tt te D x H P) : upG g x (wipe σ vs) H fun σ2 H2 => wipe σ2 vs = wipe σ vs ∧ upT tt σ2 H2 fun b H3 =>
    if b = true then upE te σ2 H3 fun y H4 => ∃ acc, H4 D = some (.lst acc) ∧ acc.length < sizeLine ∧ P (upd H4 D (.lst (acc ++ [y]))) else P H3 := by
  refine ⟨_, h, fun σ2 H2 ⟨w, q⟩ => ⟨w, _, q, fun b H3 r => ?_⟩⟩
  cases b with
  | true =>
    rw [if_pos rfl] at r ⊢
    exact ⟨_, r, fun y H4 ⟨acc, h1, h2, h3⟩ => ⟨acc, h1, h2, h3.out⟩⟩
  | false =>
    rw [if_neg Bool.false_ne_true] at r ⊢
    exact r
theorem lcK_list (hD : H1 D = none) (Pv : Nat → Hp → Prop) (h0 : ∀ H', Fr H1 D → Same H1 H' → H' D = some (.lst []) → Pv 0 H') (hl : ∀ i H, i ≤ xs.length → Pv i H → SqL K H a xs) (hs : ∀ i x H, xs[i]? = some x → Pv i H → LcTurn σ vs g tt te D x H (Pv (i + 1))) (hd : ∀ H, Pv xs.length H → Qd H) :
    ∃ W : Nat → Nat → Hp → Prop, (∃ m, W 0 m (upd H1 D (.lst []))) ∧ ∀ i m H, W i m H →
      ((Itl K a).stop i H ∧ Qd H) ∨ ((Itl K a).go i H ∧ ∃ Nx : Hp → Prop, (∀ H', Nx H' → ∃ m', m' < m ∧ W (i + 1) m' H') ∧ ∀ x H', (Itl K a).yld i H x H' → upG g x (wipe σ vs) H' fun σ2 H2 => wipe σ2 vs = wipe σ vs ∧ upT tt σ2 H2 fun b H3 =>
        if b = true then upE te σ2 H3 fun y H4 => ∃ acc, H4 D = some (.lst acc) ∧ acc.length < sizeLine ∧ Nx (upd H4 D (.lst (acc ++ [y]))) else Nx H3) :=
  lc_list Pv (h0 _ hD ((Same.refl H1).new hD) upd_same) hl (fun i x H hx p => (hs i x H hx p).out) hd
theorem lcK_tup (hD : H1 D = none) (Pv : Nat → Hp → Prop) (h0 : ∀ H', Fr H1 D → Same H1 H' → H' D = some (.lst []) → Pv 0 H') (hl : ∀ i H, i ≤ xs.length → Pv i H → SqT K H a xs) (hs : ∀ i x H, xs[i]? = some x → Pv i H → LcTurn σ vs g tt te D x H (Pv (i + 1))) (hd : ∀ H, Pv xs.length H → Qd H) :
    ∃ W : Nat → Nat → Hp → Prop, (∃ m, W 0 m (upd H1 D (.lst []))) ∧ ∀ i m H, W i m H →
      ((Itt K a).stop i H ∧ Qd H) ∨ ((Itt K a).go i H ∧ ∃ Nx : Hp → Prop, (∀ H', Nx H' → ∃ m', m' < m ∧ W (i + 1) m' H') ∧ ∀ x H', (Itt K a).yld i H x H' → upG g x (wipe σ vs) H' fun σ2 H2 => wipe σ2 vs = wipe σ vs ∧ upT tt σ2 H2 fun b H3 =>
        if b = true then upE te σ2 H3 fun y H4 => ∃ acc, H4 D = some (.lst acc) ∧ acc.length < sizeLine ∧ Nx (upd H4 D (.lst (acc ++ [y]))) else Nx H3) :=
  lc_tup Pv (h0 _ hD ((Same.refl H1).new hD) upd_same) hl (fun i x H hx p => (hs i x H hx p).out) hd
theorem lcK_range {lo : Int} {n : Nat} (hD : H1 D = none) (Pv : Nat → Hp → Prop) (h0 : ∀ H', Fr H1 D → Same H1 H' → H' D = some (.lst []) → Pv 0 H') (hs : ∀ i H, i < n → Pv i H → LcTurn σ vs g tt te D (.int (lo + i)) H (Pv (i + 1))) (hd : ∀ H, Pv n H → Qd H) :
    ∃ W : Nat → Nat → Hp → Prop, (∃ m, W 0 m (upd H1 D (.lst []))) ∧ ∀ i m H, W i m H →
      ((Itr lo n).stop i H ∧ Qd H) ∨ ((Itr lo n).go i H ∧ ∃ Nx : Hp → Prop, (∀ H', Nx H' → ∃ m', m' < m ∧ W (i + 1) m' H') ∧ ∀ x H', (Itr lo n).yld i H x H' → upG g x (wipe σ vs) H' fun σ2 H2 => wipe σ2 vs = wipe σ vs ∧ upT tt σ2 H2 fun b H3 =>
        if b = true then upE te σ2 H3 fun y H4 => ∃ acc, H4 D = some (.lst acc) ∧ acc.length < sizeLine ∧ Nx (upd H4 D (.lst (acc ++ [y]))) else Nx H3) :=
  lc_range Pv (h0 _ hD ((Same.refl H1).new hD) upd_same) (fun i H hx p => (hs i H hx p).out) hd
/-- a new pair is unpacked into two names -/
theorem gTup2 {x y : V} {T : Addr} {t : TGs} {H : Hp} {Q : St → Hp → Prop} (hT : H T = none) (h : ∀ H', Same H H' → t [x, y] σ H' Q) : gTup K 2 t (.ref T) σ (upd H T (.tup [x, y])) Q :=
  ⟨T, _, rfl, .of upd_same, rfl, h _ ((Same.refl H).new hT)⟩
end
theorem szlt {n : Nat} (h : n ≤ 100000) : n < sizeLine := Nat.lt_of_le_of_lt h (by decide)
end L2
/-! ### an exception that is kept behind its clause -/
namespace L2
open PySem PySem.Spec PyProof.Rows
/-- the exception at a, told of by its class and its dict -/
def excO (cls : Value) (d : Option Addr) (a : Addr) : HO := .ext fun h => ∃ oe : Obj, h.get? a = some oe ∧ Zc cls d oe ∧ ∃ vs, oe.data = .fields vs
/-- the ends of a suite that keeps what it caught -/
def keepEnds (D : Ends) (i : Nat) (a : Addr) (cls : Value) (d : Option Addr) : Ends :=
  { nx := fun σ' H' => H' a = none → D.nx (σ'.set i none) (upd H' a (excO cls d a)), rt := D.rt, bk := fun _ _ => False, ct := fun _ _ => False }
def wAsK (K : PySem.W.Frag) (c : Value) (i : Nat) (ts : Addr → Value → Option Addr → TS) (D : Ends) : WX := fun cls d σ H =>
  PySem.W.exmOne K cls c = some true ∧ ∀ a, H a = none → ts a cls d (keepEnds D i a cls d) (σ.set i (some (.ref a))) H
section
variable {X : Cx} {x n : Str} {c : Value} {i : Nat} {body suite : List Stmt} {b₀ : Stmt} {np pos pos' : Pos} {tb : WX → TS} {ts : Addr → Value → Option Addr → TS}
theorem ps_try_asK (hs : X.stack = X.env :: X.outer) (hf : X.env.frame = some X.env.locals) (hN : X.N.Nodup) (hi : X.N[i]? = some n) (hln : X.env.kindOf n = some .local) (hc : Names X x c)
    (hb : ∀ (W : WX) (pn : List (Addr × Obj)) (xe : Value → Shared → Prop), Takes (X.tr pn xe) W → PassesOwn (model X.prog X.w) X.A X.env xe → PSs (X.tr pn xe) body (tb W))
    (hsu : ∀ (a : Addr) (oe : Obj) (cls : Value) (d : Option Addr) (pn : List (Addr × Obj)), Zc cls d oe → (∃ vs, oe.data = .fields vs) → PSs (X.suite a ((a, oe) :: pn)) (b₀ :: suite) (ts a cls d)) :
    PS X (.Try body [.ExceptHandler (some (.Name x np)) (some n) (b₀ :: suite) pos'] [] [] pos) (fun D σ H => tb (wAsK X.K c i ts D) D σ H) := by
  constructor
  intro pins s σ H D I h
  have hfr : X.A.frames = some (X.env :: X.outer) := I.ok.frames.trans (congrArg some hs)
  apply wpAny_Try_except
  refine wpAny_mono (PSs.run (hb (wAsK X.K c i ts D) (X.pn ++ pins) (fun e s₁ => wpAny (model X.prog X.w) X.A (noteFrame e X.env) (fun _ s₂ => wpAny (model X.prog X.w) X.A (setFlight e none)
    (fun _ s₃ => wpAny (model X.prog X.w) X.A (handleBy e X.env [.ExceptHandler (some (.Name x np)) (some n) (b₀ :: suite) pos']) (SP X pins D) X.xe s₃) X.xe s₂) X.xe s₁) ?tk PassesOwn.looking) [] s σ H D (I.toTry _) h) ?fine fun _ _ z => z
  case fine =>
    intro f s1 q
    cases f
    case next =>
      obtain ⟨σ1, H1, J, r⟩ := q
      exact wpAny_execs_nil ⟨σ1, H1, J.ofTry I.ok, r⟩
    case brk =>
      obtain ⟨σ1, H1, J, r⟩ := q
      exact ⟨σ1, H1, J.ofTry I.ok, r⟩
    case cont =>
      obtain ⟨σ1, H1, J, r⟩ := q
      exact ⟨σ1, H1, J.ofTry I.ok, r⟩
    case ret u =>
      obtain ⟨v, σ1, H1, J, e, r⟩ := q
      exact ⟨v, σ1, H1, J.ofTry I.ok, e, r⟩
  case tk =>
    rintro u s1 ⟨a, B, sI, pins', σ1, H1, cls, d, rfl, J0, nb, up, sky, na, hos, hag, hx, q⟩
    have J1 : Inv X pins σ1 H1 sI := J0.ofTry I.ok
    have sk : Sky B (X.env :: X.outer) a (Zc cls d) X.env.locals s1.heap := hs ▸ (show Sky B X.stack a (Zc cls d) X.env.locals s1.heap from sky)
    refine Sky.land Zc.steady hfr hf sk fun h2 fly up2 => ?_
    have J2 : Inv X pins σ1 H1 { s1 with heap := h2 } := J1.landed nb fly.1 (up.trans up2) hos hag
    -- a is no record of the frames
    have nf : ∀ (h' : Heap) (o : Obj) (vs : Array Value), h'.FunFrames B (X.env :: X.outer) → h'.get? a = some o → o.data = .fields vs → a ∉ frs (X.env :: X.outer) := by
      intro h' o vs ff e1 e2 hm
      obtain ⟨_, o', e3, no⟩ := ff.mem hm
      cases e1.symm.trans e3
      exact no _ e2
    obtain ⟨o2, vs2, g2, z2, dt2⟩ := fly.there
    have nfr := nf h2 o2 vs2 fly.2.2.1 g2 dt2
    have nL : a ≠ X.env.locals := by
      rintro rfl
      exact nfr (List.mem_filterMap.mpr ⟨X.env, List.mem_cons_self, by rw [hf]⟩)
    have nF : a ∉ X.fs := by
      intro hm
      obtain ⟨e, he, q'⟩ := List.mem_filterMap.mp hm
      exact nfr (List.mem_filterMap.mpr ⟨e, List.mem_cons_of_mem _ he, q'⟩)
    have young : ∀ o, sI.heap.get? a ≠ some o := by
      intro o e
      have z := nb a o e (by rw [hs]; exact nfr)
      rw [fly.2.1] at z
      cases z
    refine PySem.PX.clause_asZ (Z := Zc cls d) (cls := cls) J2.kIn (fun o z => z.1) fly hx ?_ ?_
    · intro Q' E' q'
      obtain ⟨hg, hdbg, hm⟩ := hc
      have S2 := J2.suite g2 dt2 na nL nF
      rcases hm with hm | ⟨hm, hv, hnn⟩
      · exact ld_glob (X := X.suite a ((a, o2) :: (X.pn ++ pins))) S2 hg hm q' hdbg
      · exact ld_blt (X := X.suite a ((a, o2) :: (X.pn ++ pins))) S2 hg hm hv q' hnn hdbg
    intro h3 fly3 up3
    have J3 : Inv X pins σ1 H1 { s1 with heap := h3 } := J1.landed nb fly3.1 ((up.trans up2).trans up3) hos hag
    obtain ⟨o3, vs3, g3, z3, dt3⟩ := PySem.PX.FlyingZ.there fly3
    have S3 := J3.suite g3 dt3 na nL nF
    refine store_ok (X := X.suite a ((a, o3) :: (X.pn ++ pins))) (v := .ref a) S3 hN hi (.inl hln) rfl (fun s5 S5 => ?_) (.inr hln)
    refine wpAny_mono (PSs.run (hsu a o3 cls d (X.pn ++ pins) z3 ⟨_, dt3⟩) [] s5 _ H1 _ S5 (q a na)) ?_ fun _ _ z => z.elim
    intro f s6 r
    have last : ∀ {σ6 : St} {H6 : Hp} {Q : Shared → Prop}, Inv (X.suite a ((a, o3) :: (X.pn ++ pins))) [] σ6 H6 s6 → (H6 a = none → ∀ s7, Inv X pins (σ6.set i none) (upd H6 a (excO cls d a)) s7 → Inv X pins (σ6.set i none) H6 s7 → Q s7) →
        wpAny (model X.prog X.w) X.A (do bindName X.env n .none; unbindBehindTheSuite X.env n pos') (fun _ s7 => Q s7) X.xe s6 := by
      intro σ6 H6 Q S6 fin
      obtain ⟨p1, p2, p3, p4, p5⟩ := S6.pin (a, o3) (List.mem_append.mpr (.inl List.mem_cons_self))
      have J6 : Inv X ((a, o3) :: pins) σ6 H6 s6 := (S6.unsuite I.ok).pins_of (by
        intro p hp
        rcases List.mem_cons.mp hp with rfl | hp
        · exact ⟨p1, p2, p3, p4, p5⟩
        · exact S6.pin p (List.mem_append.mpr (.inl (List.mem_cons_of_mem _ (List.mem_append.mpr (.inr hp))))))
      refine gone_ok J6 hN hi hln fun s7 J7 => ?_
      obtain ⟨r1, r2, r3, r4, r5⟩ := J7.pin (a, o3) (List.mem_append.mpr (.inr List.mem_cons_self))
      have J8 : Inv X pins (σ6.set i none) H6 s7 := J7.pins_of fun p hp => J7.pin p (List.mem_append.mpr (.inr (List.mem_cons_of_mem _ hp)))
      have cne : ∀ y c', X.env.cells.lookup y = some c' → c' ≠ a := by
        rintro y c' e rfl
        obtain ⟨v, oc, g, dc⟩ := J7.cell y _ e
        rw [r1] at g
        cases g
        exact r5 _ dc
      have pne : ∀ p ∈ X.pn ++ pins, p.1 ≠ a := by
        rintro p hp rfl
        exact young _ (J1.pin p hp).1
      have old : ∀ b u, H6 b = some u → upd H6 a (excO cls d a) b = some u := fun b u e => updN (ne_of_none e r2) e
      refine fin r2 s7 ⟨J8.ok, J8.os, J8.bare, ⟨J8.base.keep, J8.base.slot, fun b o e e0 hex => ?_, J8.base.there, fun b xs e => old _ _ (J8.base.tups b xs e), fun b o u e => old _ _ (J8.base.frzs b o u e), fun b ps e => ?_⟩, J8.loc, J8.cell, ?_, fun y c' e => ?_, fun p hp => ?_, ?_, J8.len⟩ J8
      · have nb2 : b ≠ a := by
          rintro rfl
          obtain ⟨o1, e1⟩ := J1.base.there _ o e hex
          exact young o1 e1
        rw [upd_ne nb2]
        exact J8.base.free b o e e0 hex
      · obtain ⟨more, e2⟩ := J8.base.tbls b ps e
        exact ⟨more, old _ _ e2⟩
      · rw [upd_ne nL.symm]
        exact J8.free
      · rw [upd_ne (cne y c' e)]
        exact J8.freeC y c' e
      · obtain ⟨t1, t2, t3, t4, t5⟩ := J8.pin p hp
        exact ⟨t1, by rw [upd_ne (pne p hp)]; exact t2, t3, t4, t5⟩
      · refine HOk.laidN J8.hok (fun _ _ e => e) r2 ⟨⟨o3, r1, z3, _, dt3⟩, ⟨o3, r1⟩, ?_⟩
        rintro ha hb2 ⟨o, e, z, w⟩ st
        exact ⟨o, st o e, z, w⟩
    cases f
    case next =>
      obtain ⟨σ6, H6, S6, q6⟩ := r
      exact last S6 fun n6 s7 J7 _ => ⟨_, _, J7, q6 n6⟩
    case brk =>
      obtain ⟨σ6, H6, S6, q6⟩ := r
      exact q6.elim
    case cont =>
      obtain ⟨σ6, H6, S6, q6⟩ := r
      exact q6.elim
    case ret u =>
      obtain ⟨v6, σ6, H6, S6, r6, q6⟩ := r
      exact last S6 fun n6 s7 _ J7 => ⟨_, _, _, J7, r6, q6⟩
/-- isinstance of an exception that was kept -/
def rIsK (K : PySem.W.Frag) : List V → Hp → VK → Prop := fun xs H Q => ∃ (a D : Addr) (c : V) (cv : Value) (b : Bool), xs = [.ref a, c] ∧ H a = some (excO (.ref D) none a) ∧ ExcC K D ∧ (∀ u, RelV c u → u = cv) ∧ PySem.W.kitOne K (.ref D) cv = some b ∧ Q (.bl b) H
theorem call_isK : CallR X (.builtin "isinstance") (rIsK X.K) := by
  intro pins s σ H xs us Q I r h
  obtain ⟨a, D, c, cv, b, rfl, ha, C, hcv, e, q⟩ := h
  obtain ⟨u1, u2, rfl, r1, r2⟩ := vals2 r
  cases r1
  obtain rfl := hcv _ r2
  obtain ⟨⟨oe, g, z, vs, dt⟩, _⟩ := (show ObjOk X.prog X.w H s.heap a (excO (.ref D) none a) from I.hok a _ ha)
  have J : PySem.W.InstAt s.heap a oe D none := by
    obtain ⟨oc, od, oda, osl⟩ := oe
    obtain ⟨z1, z2⟩ := z
    cases z1
    cases z2
    cases dt
    exact ⟨g, rfl, rfl, trivial⟩
  exact PySem.W.kia_one (PySem.W.handS_kitx_exc C.hg C.hk C.hs C.hd C.ha C.hn C.ht C.hm) I.kIn J e (fun y => nomatch y) fun tk => ⟨.bl b, H, I.kept (t' := tk) fun _ _ y => y, rfl, q⟩
end
end L2

local macro_rules | `(tactic| walk_at "hp") => `(tactic| first
  | assumption
  | (apply L2.Same.at; assumption; walk_at "hp")
  | (apply L2.But.at; assumption; (walk_at "ne"); walk_at "hp")
  | (apply L2.But.kind; assumption; (walk_at "hp"); (walk_at "hp"); (intro z; cases z)))
local macro_rules | `(tactic| walk_at "ne") => `(tactic| first
  | assumption
  | exact Ne.symm (by assumption)
  | exact L2.neF (by assumption) (by walk_at "hp")
  | exact L2.neF2 (by assumption) (by walk_at "hp"))
local macro_rules | `(tactic| walk_at "sm") => `(tactic| first
  | exact L2.Same.refl _
  | assumption
  | (refine L2.Same.trans ?_ (by assumption); walk_at "sm")
  | (refine L2.Same.but ?_ (by assumption) (by walk_at "fr"); walk_at "sm"))
local macro_rules | `(tactic| walk_at "fr") => `(tactic| first
  | assumption
  | exact L2.Fr.back (by assumption) (by walk_at "sm"))
local macro_rules | `(tactic| walk_at "bt") => `(tactic| first
  | assumption
  | (refine L2.But.same ?_ (by assumption); walk_at "bt")
  | (refine L2.Same.thenBut (by walk_at "sm") (by assumption))
  | (refine L2.But.trans ?_ (by assumption); walk_at "bt"))
local macro_rules | `(tactic| walk_at "sz") => `(tactic| first
  | exact Nat.le_of_ble_eq_true rfl
  | ((try simp only [List.length_append, List.length_map, List.length_cons, List.length_nil, List.length_take, List.length_drop, List.length_dropLast, List.length_reverse]); omega))
local macro_rules | `(tactic| walk_at "at") => `(tactic| first
  | rfl
  | assumption
  | exact L2.atI_nat (by first | rfl | assumption))
/-! ### the words of a reading: sd a side condition, rd one step, rds as many as go by themselves, ri a test -/
local macro_rules | `(tactic| walk_at "sd") => `(tactic| first
  | omega
  | (show (0 : Int) < _; omega)
  | (show (0 : Int) ≤ _; omega)
  | exact .inl ⟨by omega, by omega⟩
  | exact .inr ⟨by omega, by omega⟩
  | exact ⟨by decide, by decide⟩
  | exact ⟨by omega, by omega⟩
  | exact L2.small_size (Nat.le_of_ble_eq_true rfl)
  | exact L2.wide_div (b := 64) (by omega) (by omega) (by decide) (by decide)
  | assumption
  | exact ⟨_, by assumption⟩
  | exact .of (by walk_at "hp")
  | exact .inl (.of (by walk_at "hp"))
  | exact .inr (.of (by walk_at "hp"))
  | walk_at "hp"
  | exact L2.szlt (by walk_at "sz"))
local macro_rules | `(tactic| walk_at "rd") => `(tactic| first
  | refine ⟨_, rfl, ?_⟩
  | refine ⟨_, _, rfl, rfl, ?_⟩
  | refine ⟨_, _, rfl, ?_⟩
  | refine ⟨_, _, _, rfl, ?_⟩
  | refine ⟨_, _, _, _, rfl, ?_⟩
  | refine ⟨_, _, _, _, _, rfl, ?_⟩
  | refine ⟨_, _, _, _, _, _, rfl, ?_⟩
  | refine ⟨rfl, ?_⟩
  | refine L2.iteF ?_
  | refine L2.iteT ?_
  | refine And.intro (by walk_at "sd") ?_
  | refine ⟨_, _, _, _, true, rfl, .ty _, .base (.int _), L2.kit_ty (by decide +kernel), ?_⟩
  | refine ⟨_, _, _, _, false, rfl, .ty _, .base (.int _), L2.kit_ty (by decide +kernel), ?_⟩
  | refine ⟨_, _, _, _, true, rfl, .ty _, .base (.bl _), L2.kit_ty (by decide +kernel), ?_⟩
  | refine ⟨_, _, _, _, false, rfl, .ty _, .base (.bl _), L2.kit_ty (by decide +kernel), ?_⟩
  | refine ⟨_, _, _, _, true, rfl, .ty _, .base (.str _), L2.kit_ty (by decide +kernel), ?_⟩
  | refine ⟨_, _, _, _, false, rfl, .ty _, .base (.str _), L2.kit_ty (by decide +kernel), ?_⟩
  | refine ⟨_, _, _, _, true, rfl, .ty _, .base .non, L2.kit_ty (by decide +kernel), ?_⟩
  | refine ⟨_, _, _, _, false, rfl, .ty _, .base .non, L2.kit_ty (by decide +kernel), ?_⟩)
local macro_rules | `(tactic| walk_at "rds") => `(tactic| repeat walk_at "rd")
local macro_rules | `(tactic| walk_at "rz") => `(tactic| repeat first
  | walk_at "rd"
  | refine fun (_ : Int) => ?_
  | refine fun (_ : (_ : Int) ≤ _) => ?_
  | refine fun (_ : (_ : Int) < _) => ?_)
local macro_rules | `(tactic| walk_at "ri") => `(tactic| first
  | refine L2.iteV ?_ ?_
  | refine L2.iteNV ?_ ?_
  | refine L2.iteD ?_ ?_
  | refine L2.iteND ?_ ?_
  | refine L2.iteB ?_ ?_)
local macro_rules | `(tactic| walk_at "nf") => `(tactic| try dsimp only [L2.start, List.set_cons_zero, List.set_cons_succ])
local macro_rules | `(tactic| walk_at "g94len") => `(tactic| (intro vs H Q E h; first
  | (obtain ⟨e, _⟩ := h; exact congrArg List.length e)
  | (obtain ⟨_, e, _⟩ := h; exact congrArg List.length e)
  | (obtain ⟨_, _, e, _⟩ := h; exact congrArg List.length e)
  | (obtain ⟨_, _, _, e, _⟩ := h; exact congrArg List.length e)
  | (obtain ⟨_, _, _, _, e, _⟩ := h; exact congrArg List.length e)
  | (obtain ⟨_, _, _, _, _, e, _⟩ := h; exact congrArg List.length e)
  | (obtain ⟨_, _, _, _, _, _, e, _⟩ := h; exact congrArg List.length e)
  | (obtain ⟨_, _, _, _, _, _, _, e, _⟩ := h; exact congrArg List.length e)
  | (obtain ⟨_, _, _, _, _, _, _, _, e, _⟩ := h; exact congrArg List.length e)
  | (obtain ⟨_, _, _, _, _, _, _, _, _, e, _⟩ := h; exact congrArg List.length e)
  | (obtain ⟨_, _, _, _, _, _, _, _, _, _, e, _⟩ := h; exact congrArg List.length e)))
local macro_rules | `(tactic| walk_at "g94tr") => `(tactic| (set_option pp.deepTerms false in set_option pp.deepTerms.threshold 8 in trace_state))
local macro_rules | `(tactic| walk_at "wk") => `(tactic| first
  | walk_at "rd"
  | refine ⟨_, _, _, _, rfl, rfl, .of (by walk_at "hp"), (by walk_at "at"), ?_⟩
  | refine ⟨_, _, _, _, _, rfl, (by walk_at "hp"), (by assumption), (by assumption), (by walk_at "lk"), ?_⟩
  | refine ⟨_, _, _, rfl, rfl, (by walk_at "hp"), L2.szlt (by walk_at "sz"), ?_⟩
  | refine ⟨.inl ⟨rfl, _, .of (by walk_at "hp")⟩, ?_⟩
  | refine ⟨_, _, rfl, .inl (.of (by walk_at "hp")), ?_⟩
  | refine ⟨_, _, rfl, .of (by walk_at "hp"), ?_⟩
  | refine ⟨_, _, _, _, rfl, rfl, (by walk_at "hp"), (by walk_at "hp"), L2.small_size (by walk_at "sz"), ?_⟩
  | refine ⟨_, _, _, rfl, rfl, (by walk_at "hp"), ⟨by decide, by decide, L2.small_size (by walk_at "sz")⟩, ?_⟩
  | refine fun p H' (f : L2.Fr _ _) (s : L2.Same _ _) (h : _ = some _) => ?_
  | refine fun H' (m : L2.But _ _ _) (h : _ = some _) => ?_)
local macro_rules | `(tactic| walk_at "wks") => `(tactic| repeat walk_at "wk")
local macro_rules | `(tactic| walk_at "lk") => `(tactic| first
  | rfl
  | assumption)
namespace G94
open PySem PySem.Spec PyProof.Rows L2
def top (i : Nat) : Stmt := PySem.Challenge.pw_lampcues_k51_amounts.main.body.getD i (.Pass ⟨0, 0, 0, 0⟩)
abbrev s_is_amid : Stmt := top 15
theorem sc_is_amid : FnScope ["thing", "least", "most"] ["thing", "least", "most"] (defScope s_is_amid) := ⟨rfl, rfl, rfl, by decide +kernel, rfl, by decide +kernel, by decide +kernel⟩
abbrev s_is_worth : Stmt := top 16
theorem sc_is_worth : FnScope ["thing"] ["thing"] (defScope s_is_worth) := ⟨rfl, rfl, rfl, by decide +kernel, rfl, by decide +kernel, by decide +kernel⟩
abbrev s_is_level : Stmt := top 18
theorem sc_is_level : FnScope ["thing"] ["thing"] (defScope s_is_level) := ⟨rfl, rfl, rfl, by decide +kernel, rfl, by decide +kernel, by decide +kernel⟩
abbrev s_good_level : Stmt := top 19
theorem sc_good_level : FnScope ["thing"] ["thing"] (defScope s_good_level) := ⟨rfl, rfl, rfl, by decide +kernel, rfl, by decide +kernel, by decide +kernel⟩
abbrev s_good_worth : Stmt := top 20
theorem sc_good_worth : FnScope ["thing"] ["thing"] (defScope s_good_worth) := ⟨rfl, rfl, rfl, by decide +kernel, rfl, by decide +kernel, by decide +kernel⟩
abbrev s_amount : Stmt := top 21
theorem sc_amount : FnScope ["worth", "level"] ["worth", "level"] (defScope s_amount) := ⟨rfl, rfl, rfl, by decide +kernel, rfl, by decide +kernel, by decide +kernel⟩
abbrev s_lowered : Stmt := top 22
theorem sc_lowered : FnScope ["worth", "down"] ["worth", "down"] (defScope s_lowered) := ⟨rfl, rfl, rfl, by decide +kernel, rfl, by decide +kernel, by decide +kernel⟩
abbrev s_l_cell_at : Stmt := top 24
theorem sc_l_cell_at : FnScope ["_law_script", "_law_k"] ["_law_script", "_law_k"] (defScope s_l_cell_at) := ⟨rfl, rfl, rfl, by decide +kernel, rfl, by decide +kernel, by decide +kernel⟩
abbrev s_l_drawn : Stmt := top 25
theorem sc_l_drawn : FnScope ["_law_script", "_law_k"] ["_law_script", "_law_k"] (defScope s_l_drawn) := ⟨rfl, rfl, rfl, by decide +kernel, rfl, by decide +kernel, by decide +kernel⟩
abbrev s_l_whole : Stmt := top 26
theorem sc_l_whole : FnScope ["_law_found"] ["_law_found"] (defScope s_l_whole) := ⟨rfl, rfl, rfl, by decide +kernel, rfl, by decide +kernel, by decide +kernel⟩
abbrev s_l_worth : Stmt := top 27
theorem sc_l_worth : FnScope ["_law_number", "_law_again"] ["_law_number"] (defScope s_l_worth) := ⟨rfl, rfl, rfl, by decide +kernel, rfl, by decide +kernel, by decide +kernel⟩
abbrev s_l_level : Stmt := top 28
theorem sc_l_level : FnScope ["_law_number"] ["_law_number"] (defScope s_l_level) := ⟨rfl, rfl, rfl, by decide +kernel, rfl, by decide +kernel, by decide +kernel⟩
abbrev s_l_share : Stmt := top 29
theorem sc_l_share : FnScope ["_law_found", "_law_times_level"] ["_law_found", "_law_times_level"] (defScope s_l_share) := ⟨rfl, rfl, rfl, by decide +kernel, rfl, by decide +kernel, by decide +kernel⟩
abbrev s_l_others : Stmt := top 30
theorem sc_l_others : FnScope ["_law_e", "_law_some"] ["_law_e"] (defScope s_l_others) := ⟨rfl, rfl, rfl, by decide +kernel, rfl, by decide +kernel, by decide +kernel⟩
abbrev s_l_refused : Stmt := top 31
theorem sc_l_refused : FnScope ["_law_way", "_law_worth_here", "_law_level_here", "_law_caught", "_law_e"] ["_law_way", "_law_worth_here", "_law_level_here"] (defScope s_l_refused) := ⟨rfl, rfl, rfl, by decide +kernel, rfl, by decide +kernel, by decide +kernel⟩
abbrev s_l_bad : Stmt := top 32
theorem sc_l_bad : FnScope ["_law_most", "_law_cell", "_law_some"] ["_law_most", "_law_cell"] (defScope s_l_bad) := ⟨rfl, rfl, rfl, by decide +kernel, rfl, by decide +kernel, by decide +kernel⟩
abbrev s_law : Stmt := top 33
theorem sc_law : FnScope ["_law_script", "_law_k", "_law_number", "_law_worth_here", "_law_level_here", "_law_cell", "_law_bad_here"] ["_law_script"] (defScope s_law) := ⟨rfl, rfl, rfl, by decide +kernel, rfl, by decide +kernel, by decide +kernel⟩
def d_is_amid : He.DefD := ⟨("is_amid", none), "is_amid", "is_amid", defArgs s_is_amid, defBody s_is_amid, defScope s_is_amid, [], []⟩
def d_is_worth : He.DefD := ⟨("is_worth", none), "is_worth", "is_worth", defArgs s_is_worth, defBody s_is_worth, defScope s_is_worth, [], []⟩
def d_is_level : He.DefD := ⟨("is_level", none), "is_level", "is_level", defArgs s_is_level, defBody s_is_level, defScope s_is_level, [], []⟩
def d_good_level : He.DefD := ⟨("good_level", none), "good_level", "good_level", defArgs s_good_level, defBody s_good_level, defScope s_good_level, [], []⟩
def d_good_worth : He.DefD := ⟨("good_worth", none), "good_worth", "good_worth", defArgs s_good_worth, defBody s_good_worth, defScope s_good_worth, [], []⟩
def d_amount : He.DefD := ⟨("amount", none), "amount", "amount", defArgs s_amount, defBody s_amount, defScope s_amount, [], []⟩
def d_lowered : He.DefD := ⟨("lowered", none), "lowered", "lowered", defArgs s_lowered, defBody s_lowered, defScope s_lowered, [], []⟩
def d_l_cell_at : He.DefD := ⟨("_law_cell_at", none), "_law_cell_at", "_law_cell_at", defArgs s_l_cell_at, defBody s_l_cell_at, defScope s_l_cell_at, [], []⟩
def d_l_drawn : He.DefD := ⟨("_law_drawn", none), "_law_drawn", "_law_drawn", defArgs s_l_drawn, defBody s_l_drawn, defScope s_l_drawn, [], []⟩
def d_l_whole : He.DefD := ⟨("_law_whole", none), "_law_whole", "_law_whole", defArgs s_l_whole, defBody s_l_whole, defScope s_l_whole, [], []⟩
def d_l_worth : He.DefD := ⟨("_law_worth", none), "_law_worth", "_law_worth", defArgs s_l_worth, defBody s_l_worth, defScope s_l_worth, [], []⟩
def d_l_level : He.DefD := ⟨("_law_level", none), "_law_level", "_law_level", defArgs s_l_level, defBody s_l_level, defScope s_l_level, [], []⟩
def d_l_share : He.DefD := ⟨("_law_share", none), "_law_share", "_law_share", defArgs s_l_share, defBody s_l_share, defScope s_l_share, [], []⟩
def d_l_others : He.DefD := ⟨("_law_others", none), "_law_others", "_law_others", defArgs s_l_others, defBody s_l_others, defScope s_l_others, [], []⟩
def d_l_refused : He.DefD := ⟨("_law_refused", none), "_law_refused", "_law_refused", defArgs s_l_refused, defBody s_l_refused, defScope s_l_refused, [], []⟩
def d_l_bad : He.DefD := ⟨("_law_bad", none), "_law_bad", "_law_bad", defArgs s_l_bad, defBody s_l_bad, defScope s_l_bad, [], []⟩
def d_law : He.DefD := ⟨("law", none), "law", "law", defArgs s_law, defBody s_law, defScope s_law, [], []⟩
def fn : List He.DefD := [d_is_amid, d_is_worth, d_is_level, d_good_level, d_good_worth, d_amount, d_lowered, d_l_cell_at, d_l_drawn, d_l_whole, d_l_worth, d_l_level, d_l_share, d_l_others, d_l_refused, d_l_bad, d_law]
def fa : List He.Fa := [.glo "is_amid", .glo "is_worth", .glo "is_level", .glo "good_level", .glo "good_worth", .glo "amount", .glo "lowered", .glo "_law_cell_at", .glo "_law_drawn", .glo "_law_whole", .glo "_law_worth", .glo "_law_level", .glo "_law_share", .glo "_law_others", .glo "_law_refused", .glo "_law_bad", .glo "law", .glo "NoWorth", .glo "LampError", .glo "NoTime", .glo "NoText", .glo "NoCue", .glo "NoSlot", .glo "Late", .glo "NoPart", .glo "NoList", .glo "NoName", .glo "NoRow", .glo "MovesBright", .free "len", .free "min", .free "isinstance", .free "int", .free "bool", .free "range", .free "ValueError", .int "MOST" 1000000000, .exc "NoWorth", .exm "NoWorth" "LampError" true]
def exL (K : PySem.W.Frag) : List Bool := [L2.excB K "NoWorth",
  decide (PySem.W.kitOne K (.ref (He.ga K "NoWorth")) (.type "ValueError") = some true),
  decide (PySem.W.kitOne K (.ref (He.ga K "NoWorth")) (.ref (He.ga K "NoTime")) = some false),
  decide (PySem.W.kitOne K (.ref (He.ga K "NoWorth")) (.ref (He.ga K "NoText")) = some false),
  decide (PySem.W.kitOne K (.ref (He.ga K "NoWorth")) (.ref (He.ga K "NoWorth")) = some true),
  decide (PySem.W.kitOne K (.ref (He.ga K "NoWorth")) (.ref (He.ga K "NoCue")) = some false),
  decide (PySem.W.kitOne K (.ref (He.ga K "NoWorth")) (.ref (He.ga K "NoSlot")) = some false),
  decide (PySem.W.kitOne K (.ref (He.ga K "NoWorth")) (.ref (He.ga K "Late")) = some false),
  decide (PySem.W.kitOne K (.ref (He.ga K "NoWorth")) (.ref (He.ga K "NoPart")) = some false),
  decide (PySem.W.kitOne K (.ref (He.ga K "NoWorth")) (.ref (He.ga K "NoList")) = some false),
  decide (PySem.W.kitOne K (.ref (He.ga K "NoWorth")) (.ref (He.ga K "NoName")) = some false),
  decide (PySem.W.kitOne K (.ref (He.ga K "NoWorth")) (.ref (He.ga K "NoRow")) = some false),
  decide (PySem.W.kitOne K (.ref (He.ga K "NoWorth")) (.ref (He.ga K "MovesBright")) = some false)]
def exB (K : PySem.W.Frag) : Bool := (exL K).all id
/-- what the top leaves -/
structure Txt (K : PySem.W.Frag) (mg : Str → Option Value) : Prop where
  c : He.SaysD fa fn K
  hp : ∃ h : Heap, K.In h ∧ h.Ns mainGlobals mg
  x : exB K = true
section
variable {K : PySem.W.Frag} {mg : Str → Option Value}
theorem excC_NoWorth (T : Txt K mg) : L2.ExcC K (He.ga K "NoWorth") := L2.excB_ok (List.all_eq_true.mp T.x _ (List.mem_of_getElem? (i := 0) rfl))
theorem is_NoWorth_ValueError (T : Txt K mg) : PySem.W.kitOne K (.ref (He.ga K "NoWorth")) (.type "ValueError") = some true := of_decide_eq_true (List.all_eq_true.mp T.x _ (List.mem_of_getElem? (i := 1) rfl))
theorem is_NoWorth_NoTime (T : Txt K mg) : PySem.W.kitOne K (.ref (He.ga K "NoWorth")) (.ref (He.ga K "NoTime")) = some false := of_decide_eq_true (List.all_eq_true.mp T.x _ (List.mem_of_getElem? (i := 2) rfl))
theorem is_NoWorth_NoText (T : Txt K mg) : PySem.W.kitOne K (.ref (He.ga K "NoWorth")) (.ref (He.ga K "NoText")) = some false := of_decide_eq_true (List.all_eq_true.mp T.x _ (List.mem_of_getElem? (i := 3) rfl))
theorem is_NoWorth_NoWorth (T : Txt K mg) : PySem.W.kitOne K (.ref (He.ga K "NoWorth")) (.ref (He.ga K "NoWorth")) = some true := of_decide_eq_true (List.all_eq_true.mp T.x _ (List.mem_of_getElem? (i := 4) rfl))
theorem is_NoWorth_NoCue (T : Txt K mg) : PySem.W.kitOne K (.ref (He.ga K "NoWorth")) (.ref (He.ga K "NoCue")) = some false := of_decide_eq_true (List.all_eq_true.mp T.x _ (List.mem_of_getElem? (i := 5) rfl))
theorem is_NoWorth_NoSlot (T : Txt K mg) : PySem.W.kitOne K (.ref (He.ga K "NoWorth")) (.ref (He.ga K "NoSlot")) = some false := of_decide_eq_true (List.all_eq_true.mp T.x _ (List.mem_of_getElem? (i := 6) rfl))
theorem is_NoWorth_Late (T : Txt K mg) : PySem.W.kitOne K (.ref (He.ga K "NoWorth")) (.ref (He.ga K "Late")) = some false := of_decide_eq_true (List.all_eq_true.mp T.x _ (List.mem_of_getElem? (i := 7) rfl))
theorem is_NoWorth_NoPart (T : Txt K mg) : PySem.W.kitOne K (.ref (He.ga K "NoWorth")) (.ref (He.ga K "NoPart")) = some false := of_decide_eq_true (List.all_eq_true.mp T.x _ (List.mem_of_getElem? (i := 8) rfl))
theorem is_NoWorth_NoList (T : Txt K mg) : PySem.W.kitOne K (.ref (He.ga K "NoWorth")) (.ref (He.ga K "NoList")) = some false := of_decide_eq_true (List.all_eq_true.mp T.x _ (List.mem_of_getElem? (i := 9) rfl))
theorem is_NoWorth_NoName (T : Txt K mg) : PySem.W.kitOne K (.ref (He.ga K "NoWorth")) (.ref (He.ga K "NoName")) = some false := of_decide_eq_true (List.all_eq_true.mp T.x _ (List.mem_of_getElem? (i := 10) rfl))
theorem is_NoWorth_NoRow (T : Txt K mg) : PySem.W.kitOne K (.ref (He.ga K "NoWorth")) (.ref (He.ga K "NoRow")) = some false := of_decide_eq_true (List.all_eq_true.mp T.x _ (List.mem_of_getElem? (i := 11) rfl))
theorem is_NoWorth_MovesBright (T : Txt K mg) : PySem.W.kitOne K (.ref (He.ga K "NoWorth")) (.ref (He.ga K "MovesBright")) = some false := of_decide_eq_true (List.all_eq_true.mp T.x _ (List.mem_of_getElem? (i := 12) rfl))
theorem glo_is_amid (T : Txt K mg) : mg "is_amid" = some (.ref (He.ga K "is_amid")) := by
  obtain ⟨h, X, G⟩ := T.hp
  exact He.glo_ok X G (T.c.fact 0 rfl)
theorem glo_is_worth (T : Txt K mg) : mg "is_worth" = some (.ref (He.ga K "is_worth")) := by
  obtain ⟨h, X, G⟩ := T.hp
  exact He.glo_ok X G (T.c.fact 1 rfl)
theorem glo_is_level (T : Txt K mg) : mg "is_level" = some (.ref (He.ga K "is_level")) := by
  obtain ⟨h, X, G⟩ := T.hp
  exact He.glo_ok X G (T.c.fact 2 rfl)
theorem glo_good_level (T : Txt K mg) : mg "good_level" = some (.ref (He.ga K "good_level")) := by
  obtain ⟨h, X, G⟩ := T.hp
  exact He.glo_ok X G (T.c.fact 3 rfl)
theorem glo_good_worth (T : Txt K mg) : mg "good_worth" = some (.ref (He.ga K "good_worth")) := by
  obtain ⟨h, X, G⟩ := T.hp
  exact He.glo_ok X G (T.c.fact 4 rfl)
theorem glo_amount (T : Txt K mg) : mg "amount" = some (.ref (He.ga K "amount")) := by
  obtain ⟨h, X, G⟩ := T.hp
  exact He.glo_ok X G (T.c.fact 5 rfl)
theorem glo_lowered (T : Txt K mg) : mg "lowered" = some (.ref (He.ga K "lowered")) := by
  obtain ⟨h, X, G⟩ := T.hp
  exact He.glo_ok X G (T.c.fact 6 rfl)
theorem glo__law_cell_at (T : Txt K mg) : mg "_law_cell_at" = some (.ref (He.ga K "_law_cell_at")) := by
  obtain ⟨h, X, G⟩ := T.hp
  exact He.glo_ok X G (T.c.fact 7 rfl)
theorem glo__law_drawn (T : Txt K mg) : mg "_law_drawn" = some (.ref (He.ga K "_law_drawn")) := by
  obtain ⟨h, X, G⟩ := T.hp
  exact He.glo_ok X G (T.c.fact 8 rfl)
theorem glo__law_whole (T : Txt K mg) : mg "_law_whole" = some (.ref (He.ga K "_law_whole")) := by
  obtain ⟨h, X, G⟩ := T.hp
  exact He.glo_ok X G (T.c.fact 9 rfl)
theorem glo__law_worth (T : Txt K mg) : mg "_law_worth" = some (.ref (He.ga K "_law_worth")) := by
  obtain ⟨h, X, G⟩ := T.hp
  exact He.glo_ok X G (T.c.fact 10 rfl)
theorem glo__law_level (T : Txt K mg) : mg "_law_level" = some (.ref (He.ga K "_law_level")) := by
  obtain ⟨h, X, G⟩ := T.hp
  exact He.glo_ok X G (T.c.fact 11 rfl)
theorem glo__law_share (T : Txt K mg) : mg "_law_share" = some (.ref (He.ga K "_law_share")) := by
  obtain ⟨h, X, G⟩ := T.hp
  exact He.glo_ok X G (T.c.fact 12 rfl)
theorem glo__law_others (T : Txt K mg) : mg "_law_others" = some (.ref (He.ga K "_law_others")) := by
  obtain ⟨h, X, G⟩ := T.hp
  exact He.glo_ok X G (T.c.fact 13 rfl)
theorem glo__law_refused (T : Txt K mg) : mg "_law_refused" = some (.ref (He.ga K "_law_refused")) := by
  obtain ⟨h, X, G⟩ := T.hp
  exact He.glo_ok X G (T.c.fact 14 rfl)
theorem glo__law_bad (T : Txt K mg) : mg "_law_bad" = some (.ref (He.ga K "_law_bad")) := by
  obtain ⟨h, X, G⟩ := T.hp
  exact He.glo_ok X G (T.c.fact 15 rfl)
theorem glo_law (T : Txt K mg) : mg "law" = some (.ref (He.ga K "law")) := by
  obtain ⟨h, X, G⟩ := T.hp
  exact He.glo_ok X G (T.c.fact 16 rfl)
theorem glo_NoWorth (T : Txt K mg) : mg "NoWorth" = some (.ref (He.ga K "NoWorth")) := by
  obtain ⟨h, X, G⟩ := T.hp
  exact He.glo_ok X G (T.c.fact 17 rfl)
theorem glo_LampError (T : Txt K mg) : mg "LampError" = some (.ref (He.ga K "LampError")) := by
  obtain ⟨h, X, G⟩ := T.hp
  exact He.glo_ok X G (T.c.fact 18 rfl)
theorem glo_NoTime (T : Txt K mg) : mg "NoTime" = some (.ref (He.ga K "NoTime")) := by
  obtain ⟨h, X, G⟩ := T.hp
  exact He.glo_ok X G (T.c.fact 19 rfl)
theorem glo_NoText (T : Txt K mg) : mg "NoText" = some (.ref (He.ga K "NoText")) := by
  obtain ⟨h, X, G⟩ := T.hp
  exact He.glo_ok X G (T.c.fact 20 rfl)
theorem glo_NoCue (T : Txt K mg) : mg "NoCue" = some (.ref (He.ga K "NoCue")) := by
  obtain ⟨h, X, G⟩ := T.hp
  exact He.glo_ok X G (T.c.fact 21 rfl)
theorem glo_NoSlot (T : Txt K mg) : mg "NoSlot" = some (.ref (He.ga K "NoSlot")) := by
  obtain ⟨h, X, G⟩ := T.hp
  exact He.glo_ok X G (T.c.fact 22 rfl)
theorem glo_Late (T : Txt K mg) : mg "Late" = some (.ref (He.ga K "Late")) := by
  obtain ⟨h, X, G⟩ := T.hp
  exact He.glo_ok X G (T.c.fact 23 rfl)
theorem glo_NoPart (T : Txt K mg) : mg "NoPart" = some (.ref (He.ga K "NoPart")) := by
  obtain ⟨h, X, G⟩ := T.hp
  exact He.glo_ok X G (T.c.fact 24 rfl)
theorem glo_NoList (T : Txt K mg) : mg "NoList" = some (.ref (He.ga K "NoList")) := by
  obtain ⟨h, X, G⟩ := T.hp
  exact He.glo_ok X G (T.c.fact 25 rfl)
theorem glo_NoName (T : Txt K mg) : mg "NoName" = some (.ref (He.ga K "NoName")) := by
  obtain ⟨h, X, G⟩ := T.hp
  exact He.glo_ok X G (T.c.fact 26 rfl)
theorem glo_NoRow (T : Txt K mg) : mg "NoRow" = some (.ref (He.ga K "NoRow")) := by
  obtain ⟨h, X, G⟩ := T.hp
  exact He.glo_ok X G (T.c.fact 27 rfl)
theorem glo_MovesBright (T : Txt K mg) : mg "MovesBright" = some (.ref (He.ga K "MovesBright")) := by
  obtain ⟨h, X, G⟩ := T.hp
  exact He.glo_ok X G (T.c.fact 28 rfl)
theorem free_len (T : Txt K mg) : mg "len" = none := by
  obtain ⟨h, X, G⟩ := T.hp
  exact He.free_ok X G (T.c.fact 29 rfl)
theorem free_min (T : Txt K mg) : mg "min" = none := by
  obtain ⟨h, X, G⟩ := T.hp
  exact He.free_ok X G (T.c.fact 30 rfl)
theorem free_isinstance (T : Txt K mg) : mg "isinstance" = none := by
  obtain ⟨h, X, G⟩ := T.hp
  exact He.free_ok X G (T.c.fact 31 rfl)
theorem free_int (T : Txt K mg) : mg "int" = none := by
  obtain ⟨h, X, G⟩ := T.hp
  exact He.free_ok X G (T.c.fact 32 rfl)
theorem free_bool (T : Txt K mg) : mg "bool" = none := by
  obtain ⟨h, X, G⟩ := T.hp
  exact He.free_ok X G (T.c.fact 33 rfl)
theorem free_range (T : Txt K mg) : mg "range" = none := by
  obtain ⟨h, X, G⟩ := T.hp
  exact He.free_ok X G (T.c.fact 34 rfl)
theorem free_ValueError (T : Txt K mg) : mg "ValueError" = none := by
  obtain ⟨h, X, G⟩ := T.hp
  exact He.free_ok X G (T.c.fact 35 rfl)
theorem int_MOST (T : Txt K mg) : ∃ t, mg "MOST" = some (.int 1000000000 t) := by
  obtain ⟨h, X, G⟩ := T.hp
  exact He.int_ok X G (T.c.fact 36 rfl)
theorem fact_exc_NoWorth (T : Txt K mg) : (He.Fa.ok K (.exc "NoWorth")) = true := T.c.fact 37 rfl
theorem fact_exm_NoWorth_LampError (T : Txt K mg) : (He.Fa.ok K (.exm "NoWorth" "LampError" true)) = true := T.c.fact 38 rfl
end
section
variable {K : PySem.W.Frag} {mg : Str → Option Value}
theorem exc_NoWorth (T : Txt K mg) : PySem.W.excIn K (He.ga K "NoWorth") He.veBase "ValueError.__new__" = true ∧ PySem.W.keepIn K (.ref (He.ga K "NoWorth")) = true ∧ PySem.W.subIn K (.ref (He.ga K "NoWorth")) (.type "BaseException") = some true ∧ PySem.W.typeIn K (.ref (He.ga K "NoWorth")) = some (.type "type") := He.exc_ok (fact_exc_NoWorth T)
theorem exm_NoWorth_LampError (T : Txt K mg) : PySem.W.exmOne K (.ref (He.ga K "NoWorth")) (.ref (He.ga K "LampError")) = some true := He.exm_ok (fact_exm_NoWorth_LampError T)
end
section
variable {P : Program} {w : World} {K : PySem.W.Frag} {mg : Str → Option Value} {base : Heap}
/-- a value of another type -/
def IsA (K : PySem.W.Frag) (H : Hp) (v : V) (t : String) (b : Bool) : Prop := ∃ u, TyX K H v u ∧ PySem.W.kitOne K u (.type t) = some b
def spAmid (K : PySem.W.Frag) : Sp := fun vs H Q _ => ∃ (v : V) (a b : Int), vs = [v, .int a, .int b] ∧ ((∃ n : Int, v = .int n ∧ Q (.bl (decide (a ≤ n ∧ n ≤ b))) H) ∨ (∃ t, v = .bl t ∧ Q (.bl false) H) ∨ (IsA K H v "int" false ∧ Q (.bl false) H))
theorem ok_is_amid (T : Txt K mg) : ∃ fd, FnOk P w K mg base CX0 1 (He.fAd K ("is_amid", none)) fd ["thing", "least", "most"] (spAmid K) ∧ FunD K "is_amid" "is_amid" (defArgs s_is_amid) (defBody s_is_amid) (defScope s_is_amid) [] [] (He.fAd K ("is_amid", none)) fd := by
  obtain ⟨fd, F⟩ := T.c.def_ 0 (d := d_is_amid) rfl
  refine ⟨fd, F.ok sc_is_amid (by walk_at "g94len") (fun cdv A outer st H vs Q E hr h => ?_), F⟩
  · obtain ⟨v, a, b, rfl, k⟩ := h
    refine ⟨_, PSs.nox (pss_cons (ps_if (PW.pt (pw_or (pt_not (pt_val (pe_callB call_isi (by rfl) (free_isinstance T) (by decide +kernel) (pa_cons (pv 0) (pa_cons (pe_bltn (v := .ty "int") (by rfl) (free_int T) (by decide +kernel) rfl) pa_nil))))) (pw_or1 (pt_val (pe_callB call_isi (by rfl) (free_isinstance T) (by decide +kernel) (pa_cons (pv 0) (pa_cons (pe_bltn (v := .ty "bool") (by rfl) (free_bool T) (by decide +kernel) rfl) pa_nil))))))) (pss_one (ps_ret pe_bl)) pss_nil)
        (pss_one (ps_ret (pe_chain op_le op_le (pv 1) (pv 0) (pv 2))))), ?_⟩
    rcases k with ⟨n, rfl, k⟩ | ⟨t, rfl, k⟩ | ⟨⟨u, h1, h2⟩, k⟩
    · walk_at "rds"
      walk_at "ri" <;> intro c1
      · walk_at "rds"
        rw [show decide (a ≤ n ∧ n ≤ b) = decide (n ≤ b) from decide_eq_decide.mpr ⟨fun q => q.2, fun q => ⟨c1, q⟩⟩] at k
        exact k
      · rw [decide_eq_false (fun q : a ≤ n ∧ n ≤ b => c1 q.1)] at k
        exact k
    · walk_at "rds"
      exact k
    · refine ⟨_, rfl, _, _, _, _, false, rfl, .ty _, h1, h2, ?_⟩
      walk_at "rds"
      exact k
def WorthSays (K : PySem.W.Frag) (H : Hp) (v : V) (b : Bool) : Prop := (∃ n : Int, v = .int n ∧ b = decide (0 ≤ n ∧ n ≤ 1000000000)) ∨ (∃ t, v = .bl t ∧ b = false) ∨ (IsA K H v "int" false ∧ b = false)
def spWorth (K : PySem.W.Frag) : Sp := fun vs H Q _ => ∃ (v : V) (b : Bool), vs = [v] ∧ WorthSays K H v b ∧ Q (.bl b) H
theorem ok_is_worth (T : Txt K mg) : ∃ fd, FnOk P w K mg base CX0 2 (He.fAd K ("is_worth", none)) fd ["thing"] (spWorth K) ∧ FunD K "is_worth" "is_worth" (defArgs s_is_worth) (defBody s_is_worth) (defScope s_is_worth) [] [] (He.fAd K ("is_worth", none)) fd := by
  obtain ⟨fd, F⟩ := T.c.def_ 1 (d := d_is_worth) rfl
  obtain ⟨fd_is_amid, G_is_amid, F_is_amid⟩ := ok_is_amid (P := P) (w := w) (base := base) T
  have kp_is_amid := F_is_amid.kp
  have b_is_amid : Binds K fd_is_amid ["thing", "least", "most"] [] := FunD.bindsN F_is_amid (fun _ _ _ _ _ _ us hl => match us, hl with | [_, _, _], _ => rfl)
  obtain ⟨t_MOST, g_MOST⟩ := int_MOST T
  refine ⟨fd, F.ok sc_is_worth (by walk_at "g94len") (fun cdv A outer st H vs Q E hr h => ?_), F⟩
  · obtain ⟨v, b, rfl, hs, k⟩ := h
    refine ⟨_, PSs.nox (pss_one (ps_ret (pe_call G_is_amid (hr.mono (by decide)) rfl (glo_is_amid T) kp_is_amid b_is_amid .nil pass0 (pa_cons (pv 0) (pa_cons pe_int (pa_cons (pe_glob (v := .int 1000000000) rfl g_MOST ⟨_, rfl⟩) pa_nil)))))), ?_⟩
    rcases hs with ⟨n, rfl, rfl⟩ | ⟨t, rfl, rfl⟩ | ⟨h, rfl⟩
    · exact ⟨_, rfl, _, _, _, rfl, .inl ⟨n, rfl, k⟩⟩
    · exact ⟨_, rfl, _, _, _, rfl, .inr (.inl ⟨t, rfl, k⟩)⟩
    · exact ⟨_, rfl, _, _, _, rfl, .inr (.inr ⟨h, k⟩)⟩

def LevelSays (K : PySem.W.Frag) (H : Hp) (v : V) (b : Bool) : Prop := (∃ n : Int, v = .int n ∧ b = decide (0 ≤ n ∧ n ≤ 1000)) ∨ (∃ t, v = .bl t ∧ b = false) ∨ (IsA K H v "int" false ∧ b = false)
def spLevel (K : PySem.W.Frag) : Sp := fun vs H Q _ => ∃ (v : V) (b : Bool), vs = [v] ∧ LevelSays K H v b ∧ Q (.bl b) H
theorem ok_is_level (T : Txt K mg) : ∃ fd, FnOk P w K mg base CX0 3 (He.fAd K ("is_level", none)) fd ["thing"] (spLevel K) ∧ FunD K "is_level" "is_level" (defArgs s_is_level) (defBody s_is_level) (defScope s_is_level) [] [] (He.fAd K ("is_level", none)) fd := by
  obtain ⟨fd, F⟩ := T.c.def_ 2 (d := d_is_level) rfl
  obtain ⟨fd_is_worth, G_is_worth, F_is_worth⟩ := ok_is_worth (P := P) (w := w) (base := base) T
  have kp_is_worth := F_is_worth.kp
  have b_is_worth : Binds K fd_is_worth ["thing"] [] := FunD.bindsN F_is_worth (fun _ _ _ _ _ _ us hl => match us, hl with | [_], _ => rfl)
  refine ⟨fd, F.ok sc_is_level (by walk_at "g94len") (fun cdv A outer st H vs Q E hr h => ?_), F⟩
  · obtain ⟨v, b, rfl, hs, k⟩ := h
    refine ⟨_, PSs.nox (pss_one (ps_ret (pe_and (pe_call G_is_worth (hr.mono (by decide)) rfl (glo_is_worth T) kp_is_worth b_is_worth .nil pass0 (pa_cons (pv 0) pa_nil)) (pe_one (pe_cmpR op_le (pv 0) pe_int (nomark _)))))), ?_⟩
    rcases hs with ⟨n, rfl, rfl⟩ | ⟨t, rfl, rfl⟩ | ⟨h, rfl⟩
    · refine ⟨_, rfl, _, _, rfl, .inl ⟨n, rfl, rfl⟩, _, rfl, iteD (fun c1 => ?_) (fun c1 => ?_)⟩
      · walk_at "rds"
        rw [show decide (0 ≤ n ∧ n ≤ 1000) = decide (n ≤ 1000) from decide_eq_decide.mpr ⟨fun q => q.2, fun q => ⟨c1.1, q⟩⟩] at k
        exact k
      · rw [decide_eq_false (fun q : 0 ≤ n ∧ n ≤ 1000 => c1 ⟨q.1, by omega⟩)] at k
        exact k
    · exact ⟨_, rfl, _, _, rfl, .inr (.inl ⟨t, rfl, rfl⟩), _, rfl, iteF k⟩
    · exact ⟨_, rfl, _, _, rfl, .inr (.inr ⟨h, rfl⟩), _, rfl, iteF k⟩
def spGoodLevel (K : PySem.W.Frag) : Sp := fun vs H Q E => ∃ (v : V) (b : Bool), vs = [v] ∧ LevelSays K H v b ∧ (b = true → Q .non H) ∧ (b = false → E (.ref (He.ga K "NoWorth")) none H)
theorem ok_good_level (T : Txt K mg) : ∃ fd, FnOk P w K mg base (L2.CX P w) 4 (He.fAd K ("good_level", none)) fd ["thing"] (spGoodLevel K) ∧ FunD K "good_level" "good_level" (defArgs s_good_level) (defBody s_good_level) (defScope s_good_level) [] [] (He.fAd K ("good_level", none)) fd := by
  obtain ⟨fd, F⟩ := T.c.def_ 3 (d := d_good_level) rfl
  obtain ⟨fd_is_level, G_is_level, F_is_level⟩ := ok_is_level (P := P) (w := w) (base := base) T
  have kp_is_level := F_is_level.kp
  have b_is_level : Binds K fd_is_level ["thing"] [] := FunD.bindsN F_is_level (fun _ _ _ _ _ _ us hl => match us, hl with | [_], _ => rfl)
  refine ⟨fd, F.ok sc_good_level (by walk_at "g94len") (fun cdv A outer st H vs Q E hr h => ?_), F⟩
  · obtain ⟨v, b, rfl, hs, k1, k2⟩ := h
    refine ⟨_, (pss_one (ps_if (pt_not (pt_val (pe_call G_is_level (hr.mono (by decide)) rfl (glo_is_level T) kp_is_level b_is_level .nil pass0 (pa_cons (pv 0) pa_nil)))) (pss_one (ps_raise rfl (takes_of rfl rfl rfl rfl) (pmk_own PySem.F.excBase_ValueError (exc_NoWorth T).1 (glo_NoWorth T) (exc_NoWorth T).2.1 (raises_own (exc_NoWorth T).2.2.1 (exc_NoWorth T).2.2.2) rfl))) pss_nil)), ?_⟩
    refine ⟨_, rfl, v, b, rfl, hs, _, rfl, ?_⟩
    cases b with
    | true => exact iteF (k1 rfl)
    | false => exact iteT (k2 rfl)
def spGoodWorth (K : PySem.W.Frag) : Sp := fun vs H Q E => ∃ (v : V) (b : Bool), vs = [v] ∧ WorthSays K H v b ∧ (b = true → Q .non H) ∧ (b = false → E (.ref (He.ga K "NoWorth")) none H)
theorem ok_good_worth (T : Txt K mg) : ∃ fd, FnOk P w K mg base (L2.CX P w) 4 (He.fAd K ("good_worth", none)) fd ["thing"] (spGoodWorth K) ∧ FunD K "good_worth" "good_worth" (defArgs s_good_worth) (defBody s_good_worth) (defScope s_good_worth) [] [] (He.fAd K ("good_worth", none)) fd := by
  obtain ⟨fd, F⟩ := T.c.def_ 4 (d := d_good_worth) rfl
  obtain ⟨fd_is_worth, G_is_worth, F_is_worth⟩ := ok_is_worth (P := P) (w := w) (base := base) T
  have kp_is_worth := F_is_worth.kp
  have b_is_worth : Binds K fd_is_worth ["thing"] [] := FunD.bindsN F_is_worth (fun _ _ _ _ _ _ us hl => match us, hl with | [_], _ => rfl)
  refine ⟨fd, F.ok sc_good_worth (by walk_at "g94len") (fun cdv A outer st H vs Q E hr h => ?_), F⟩
  · obtain ⟨v, b, rfl, hs, k1, k2⟩ := h
    refine ⟨_, (pss_one (ps_if (pt_not (pt_val (pe_call G_is_worth (hr.mono (by decide)) rfl (glo_is_worth T) kp_is_worth b_is_worth .nil pass0 (pa_cons (pv 0) pa_nil)))) (pss_one (ps_raise rfl (takes_of rfl rfl rfl rfl) (pmk_own PySem.F.excBase_ValueError (exc_NoWorth T).1 (glo_NoWorth T) (exc_NoWorth T).2.1 (raises_own (exc_NoWorth T).2.2.1 (exc_NoWorth T).2.2.2) rfl))) pss_nil)), ?_⟩
    refine ⟨_, rfl, v, b, rfl, hs, _, rfl, ?_⟩
    cases b with
    | true => exact iteF (k1 rfl)
    | false => exact iteT (k2 rfl)
/-- both arguments, and how the call ends -/
def Weighed (K : PySem.W.Frag) (H : Hp) (v u : V) (f : Int → Int → Int) (Q : VK) (E : XK) : Prop :=
  (∃ n m : Int, v = .int n ∧ u = .int m ∧ (0 ≤ n ∧ n ≤ 1000000000) ∧ (0 ≤ m ∧ m ≤ 1000) ∧ Q (.int (f n m)) H) ∨ (WorthSays K H v false ∧ E (.ref (He.ga K "NoWorth")) none H) ∨ (WorthSays K H v true ∧ LevelSays K H u false ∧ E (.ref (He.ga K "NoWorth")) none H)
def spAmount (K : PySem.W.Frag) : Sp := fun vs H Q E => ∃ v u : V, vs = [v, u] ∧ Weighed K H v u (fun n m => n * m / 1000) Q E
theorem ok_amount (T : Txt K mg) : ∃ fd, FnOk P w K mg base (L2.CX P w) 5 (He.fAd K ("amount", none)) fd ["worth", "level"] (spAmount K) ∧ FunD K "amount" "amount" (defArgs s_amount) (defBody s_amount) (defScope s_amount) [] [] (He.fAd K ("amount", none)) fd := by
  obtain ⟨fd, F⟩ := T.c.def_ 5 (d := d_amount) rfl
  obtain ⟨fd_good_worth, G_good_worth, F_good_worth⟩ := ok_good_worth (P := P) (w := w) (base := base) T
  have kp_good_worth := F_good_worth.kp
  have b_good_worth : Binds K fd_good_worth ["thing"] [] := FunD.bindsN F_good_worth (fun _ _ _ _ _ _ us hl => match us, hl with | [_], _ => rfl)
  obtain ⟨fd_good_level, G_good_level, F_good_level⟩ := ok_good_level (P := P) (w := w) (base := base) T
  have kp_good_level := F_good_level.kp
  have b_good_level : Binds K fd_good_level ["thing"] [] := FunD.bindsN F_good_level (fun _ _ _ _ _ _ us hl => match us, hl with | [_], _ => rfl)
  refine ⟨fd, F.ok sc_amount (by walk_at "g94len") (fun cdv A outer st H vs Q E hr h => ?_), F⟩
  · obtain ⟨v, u, rfl, k⟩ := h
    refine ⟨_, (pss_cons (ps_expr (pe_call G_good_worth (hr.mono (by decide)) rfl (glo_good_worth T) kp_good_worth b_good_worth .nil (passes_call (takes_of rfl rfl rfl rfl) (fun _ _ _ _ h => h)) (pa_cons (pv 0) pa_nil)))
        (pss_cons (ps_expr (pe_call G_good_level (hr.mono (by decide)) rfl (glo_good_level T) kp_good_level b_good_level .nil (passes_call (takes_of rfl rfl rfl rfl) (fun _ _ _ _ h => h)) (pa_cons (pv 1) pa_nil)))
        (pss_one (ps_ret (pe_op op_fdiv (pe_op op_mul (pv 0) (pv 1)) pe_int))))), ?_⟩
    rcases k with ⟨n, m, rfl, rfl, hn, hm, k⟩ | ⟨h1, k⟩ | ⟨h1, h2, k⟩
    · refine ⟨_, rfl, _, true, rfl, .inl ⟨n, rfl, (decide_eq_true hn).symm⟩, fun _ => ?_, fun q => nomatch q⟩
      refine ⟨_, rfl, _, true, rfl, .inl ⟨m, rfl, (decide_eq_true hm).symm⟩, fun _ => ?_, fun q => nomatch q⟩
      walk_at "rds"
      exact k
    · exact ⟨_, rfl, v, false, rfl, h1, (fun q => nomatch q), fun _ => k⟩
    · exact ⟨_, rfl, v, true, rfl, h1, fun _ => ⟨_, rfl, u, false, rfl, h2, (fun q => nomatch q), fun _ => k⟩, fun q => nomatch q⟩
def spLowered (K : PySem.W.Frag) : Sp := fun vs H Q E => ∃ v u : V, vs = [v, u] ∧ Weighed K H v u (fun n m => n * (1000 - m) / 1000) Q E
theorem ok_lowered (T : Txt K mg) : ∃ fd, FnOk P w K mg base (L2.CX P w) 5 (He.fAd K ("lowered", none)) fd ["worth", "down"] (spLowered K) ∧ FunD K "lowered" "lowered" (defArgs s_lowered) (defBody s_lowered) (defScope s_lowered) [] [] (He.fAd K ("lowered", none)) fd := by
  obtain ⟨fd, F⟩ := T.c.def_ 6 (d := d_lowered) rfl
  obtain ⟨fd_good_worth, G_good_worth, F_good_worth⟩ := ok_good_worth (P := P) (w := w) (base := base) T
  have kp_good_worth := F_good_worth.kp
  have b_good_worth : Binds K fd_good_worth ["thing"] [] := FunD.bindsN F_good_worth (fun _ _ _ _ _ _ us hl => match us, hl with | [_], _ => rfl)
  obtain ⟨fd_good_level, G_good_level, F_good_level⟩ := ok_good_level (P := P) (w := w) (base := base) T
  have kp_good_level := F_good_level.kp
  have b_good_level : Binds K fd_good_level ["thing"] [] := FunD.bindsN F_good_level (fun _ _ _ _ _ _ us hl => match us, hl with | [_], _ => rfl)
  refine ⟨fd, F.ok sc_lowered (by walk_at "g94len") (fun cdv A outer st H vs Q E hr h => ?_), F⟩
  · obtain ⟨v, u, rfl, k⟩ := h
    refine ⟨_, (pss_cons (ps_expr (pe_call G_good_worth (hr.mono (by decide)) rfl (glo_good_worth T) kp_good_worth b_good_worth .nil (passes_call (takes_of rfl rfl rfl rfl) (fun _ _ _ _ h => h)) (pa_cons (pv 0) pa_nil)))
        (pss_cons (ps_expr (pe_call G_good_level (hr.mono (by decide)) rfl (glo_good_level T) kp_good_level b_good_level .nil (passes_call (takes_of rfl rfl rfl rfl) (fun _ _ _ _ h => h)) (pa_cons (pv 1) pa_nil)))
        (pss_one (ps_ret (pe_op op_fdiv (pe_op op_mul (pv 0) (pe_op op_sub pe_int (pv 1))) pe_int))))), ?_⟩
    rcases k with ⟨n, m, rfl, rfl, hn, hm, k⟩ | ⟨h1, k⟩ | ⟨h1, h2, k⟩
    · refine ⟨_, rfl, _, true, rfl, .inl ⟨n, rfl, (decide_eq_true hn).symm⟩, fun _ => ?_, fun q => nomatch q⟩
      refine ⟨_, rfl, _, true, rfl, .inl ⟨m, rfl, (decide_eq_true hm).symm⟩, fun _ => ?_, fun q => nomatch q⟩
      walk_at "rds"
      exact k
    · exact ⟨_, rfl, v, false, rfl, h1, (fun q => nomatch q), fun _ => k⟩
    · exact ⟨_, rfl, v, true, rfl, h1, fun _ => ⟨_, rfl, u, false, rfl, h2, (fun q => nomatch q), fun _ => k⟩, fun q => nomatch q⟩

/-! ### the law's small helpers -/
def spCell (K : PySem.W.Frag) : Sp := fun vs H Q _ => ∃ (a : Addr) (k : Int), vs = [.ref a, .int k] ∧ (∃ ns : List Int, SqL K H a (ns.map V.int)) ∧ 0 ≤ k ∧ ∀ r : Int, Q (.int r) H
theorem ok_l_cell_at (T : Txt K mg) : ∃ fd, FnOk P w K mg base CX0 1 (He.fAd K ("_law_cell_at", none)) fd ["_law_script", "_law_k"] (spCell K) ∧ FunD K "_law_cell_at" "_law_cell_at" (defArgs s_l_cell_at) (defBody s_l_cell_at) (defScope s_l_cell_at) [] [] (He.fAd K ("_law_cell_at", none)) fd := by
  obtain ⟨fd, F⟩ := T.c.def_ 7 (d := d_l_cell_at) rfl
  refine ⟨fd, F.ok sc_l_cell_at (by walk_at "g94len") (fun cdv A outer st H vs Q E hr h => ?_), F⟩
  · obtain ⟨a, i, rfl, ⟨ns, hS⟩, i0, k⟩ := h
    refine ⟨_, PSs.nox (pss_cons (ps_if (pt_cmpR op_lt (pv 1) (pe_callB call_len_seq (by rfl) (free_len T) (by decide +kernel) (pa_cons (pv 0) pa_nil)) (nomark _)) (pss_one (ps_ret (pe_ix ix_list (pv 0) (pv 1) (fun _ _ => rfl)))) pss_nil)
        (pss_one (ps_ret pe_int))), ?_⟩
    walk_at "rds"
    refine ⟨_, _, rfl, .inl hS, ?_⟩
    walk_at "rds"
    walk_at "ri" <;> intro c1
    · obtain ⟨v, hv, hv2⟩ := atI_lt i0 c1
      obtain ⟨z, rfl, _, _⟩ := int_at hv2
      walk_at "rds"
      exact ⟨_, _, _, _, rfl, rfl, hS, hv, k _⟩
    · walk_at "rds"
      exact k _

def spDrawn (K : PySem.W.Frag) : Sp := fun vs H Q _ => ∃ (a : Addr) (k : Int) (ns : List Int), vs = [.ref a, .int k] ∧ SqL K H a (ns.map V.int) ∧ 0 ≤ k ∧ k < ns.length ∧ ns.length ≤ 63 ∧ ∀ r : Int, 0 ≤ r → r < 1000000000000000000000000000000 → Q (.int r) H
theorem script_at {ns : List Int} {k : Int} (h0 : 0 ≤ k) (h1 : k < ns.length) : ∃ z : Int, atI (ns.map V.int) k = some (V.int z) := by
  obtain ⟨v, hv, hv2⟩ := atI_lt (xs := ns.map V.int) h0 (by rw [List.length_map]; exact h1)
  obtain ⟨z, rfl, _, _⟩ := int_at hv2
  exact ⟨z, hv⟩
theorem ok_l_drawn (T : Txt K mg) : ∃ fd, FnOk P w K mg base CX0 1 (He.fAd K ("_law_drawn", none)) fd ["_law_script", "_law_k"] (spDrawn K) ∧ FunD K "_law_drawn" "_law_drawn" (defArgs s_l_drawn) (defBody s_l_drawn) (defScope s_l_drawn) [] [] (He.fAd K ("_law_drawn", none)) fd := by
  obtain ⟨fd, F⟩ := T.c.def_ 8 (d := d_l_drawn) rfl
  refine ⟨fd, F.ok sc_l_drawn (by walk_at "g94len") (fun cdv A outer st H vs Q E hr h => ?_), F⟩
  · obtain ⟨a, i, ns, rfl, hS, i0, i1, hn, k⟩ := h
    refine ⟨_, PSs.nox (pss_cons (ps_if (PW.pt (pw_and (pt_cmpR op_eq (pe_op op_mod (pe_ix ix_list (pv 0) pe_int (fun _ _ => rfl)) pe_int) pe_int (nomark _)) (pw_and1 (pt_cmpR op_gt (pe_ix ix_list (pv 0) (pv 1) (fun _ _ => rfl)) (pe_powC (v := 1000000000000) (by rfl) (by decide +kernel)) (nomark _))))) (pss_one (ps_ret (pe_op op_mod (pe_ix ix_list (pv 0) (pv 1) (fun _ _ => rfl)) (pe_powC (v := 1000000000000000000000000000000) (by rfl) (by decide +kernel))))) pss_nil)
        (pss_one (ps_ret (pe_op op_mod (pe_op op_mul (pe_op op_add (pe_ix ix_list (pv 0) (pv 1) (fun _ _ => rfl)) pe_int) (pe_op op_add pe_int (pe_op op_mul (pe_op op_mul pe_int (pv 1)) (pv 1)))) pe_int)))), ?_⟩
    obtain ⟨z0, h0⟩ := script_at (ns := ns) (k := 0) (Int.le_refl _) (by omega)
    obtain ⟨z, hz⟩ := script_at i0 i1
    have hp2 : 0 ≤ 7919 * i * i ∧ 7919 * i * i ≤ 7919000000 := by
      have h1 : 0 ≤ 7919 * i := by omega
      have h2 := Int.mul_nonneg h1 i0
      have h3 := Int.mul_le_mul (show 7919 * i ≤ 7919000 by omega) (show i ≤ 1000 by omega) i0 (by decide)
      omega
    refine ⟨_, rfl, a, _, _, _, rfl, rfl, hS, h0, ?_⟩
    walk_at "rds"
    refine iteV (fun c1 => ?_) (fun c1 => ?_)
    · refine ⟨_, rfl, _, rfl, a, _, _, _, rfl, rfl, hS, hz, ?_⟩
      walk_at "rds"
      refine iteD (fun c2 => ?_) (fun c2 => ?_)
      · refine ⟨_, rfl, _, rfl, a, _, _, _, rfl, rfl, hS, hz, ?_⟩
        walk_at "rds"
        exact k _ (Int.emod_nonneg _ (by decide)) (Int.emod_lt_of_pos _ (by decide))
      · refine ⟨_, rfl, _, rfl, a, _, _, _, rfl, rfl, hS, hz, ?_⟩
        walk_at "rds"
        exact k _ (Int.emod_nonneg _ (by decide)) (Int.lt_trans (Int.emod_lt_of_pos _ (by decide)) (by decide))
    · refine ⟨_, rfl, _, rfl, a, _, _, _, rfl, rfl, hS, hz, ?_⟩
      walk_at "rds"
      exact k _ (Int.emod_nonneg _ (by decide)) (Int.lt_trans (Int.emod_lt_of_pos _ (by decide)) (by decide))

def spWhole : Sp := fun vs H Q _ => ∃ n : Int, vs = [.int n] ∧ Q (.bl true) H
theorem ok_l_whole (T : Txt K mg) : ∃ fd, FnOk P w K mg base CX0 1 (He.fAd K ("_law_whole", none)) fd ["_law_found"] spWhole ∧ FunD K "_law_whole" "_law_whole" (defArgs s_l_whole) (defBody s_l_whole) (defScope s_l_whole) [] [] (He.fAd K ("_law_whole", none)) fd := by
  obtain ⟨fd, F⟩ := T.c.def_ 9 (d := d_l_whole) rfl
  refine ⟨fd, F.ok sc_l_whole (by walk_at "g94len") (fun cdv A outer st H vs Q E hr h => ?_), F⟩
  · obtain ⟨n, rfl, k⟩ := h
    refine ⟨_, PSs.nox (pss_one (ps_ret (pe_and (pe_callB call_isi (by rfl) (free_isinstance T) (by decide +kernel) (pa_cons (pv 0) (pa_cons (pe_bltn (v := .ty "int") (by rfl) (free_int T) (by decide +kernel) rfl) pa_nil))) (pe_one (pe_not (pe_callB call_isi (by rfl) (free_isinstance T) (by decide +kernel) (pa_cons (pv 0) (pa_cons (pe_bltn (v := .ty "bool") (by rfl) (free_bool T) (by decide +kernel) rfl) pa_nil)))))))), ?_⟩
    walk_at "rds"
    exact k

def spDrawWorth : Sp := fun vs H Q _ => ∃ n : Int, vs = [.int n] ∧ 0 ≤ n ∧ ∀ r : Int, 0 ≤ r → r ≤ 1000000000 → Q (.int r) H
theorem ok_l_worth (T : Txt K mg) : ∃ fd, FnOk P w K mg base CX0 1 (He.fAd K ("_law_worth", none)) fd ["_law_number"] spDrawWorth ∧ FunD K "_law_worth" "_law_worth" (defArgs s_l_worth) (defBody s_l_worth) (defScope s_l_worth) [] [] (He.fAd K ("_law_worth", none)) fd := by
  obtain ⟨fd, F⟩ := T.c.def_ 10 (d := d_l_worth) rfl
  refine ⟨fd, F.ok sc_l_worth (by walk_at "g94len") (fun cdv A outer st H vs Q E hr h => ?_), F⟩
  · obtain ⟨n, rfl, n0, k⟩ := h
    refine ⟨_, PSs.nox (pss_cons (ps_set (i := 1) sc_l_worth.nd rfl (Or.inl rfl) (pe_op op_mod (pe_op op_mul (pv 0) pe_int) pe_int))
        (pss_cons (ps_if (pt_cmpR op_eq (pe_op op_mod (pv 1) pe_int) pe_int (nomark _)) (pss_one (ps_ret (pe_op op_mod (pe_op op_fdiv (pv 1) pe_int) pe_int))) pss_nil)
        (pss_one (ps_ret (pe_op op_mod (pv 1) (pe_op op_add (pe_powC (v := 1000000000) (by rfl) (by decide +kernel)) pe_int)))))), ?_⟩
    walk_at "rds"
    walk_at "ri" <;> intro c1
    · walk_at "rds"
      exact k _ (Int.emod_nonneg _ (by decide)) (Int.le_trans (Int.le_of_lt (Int.emod_lt_of_pos _ (by decide))) (by decide))
    · walk_at "rds"
      exact k _ (Int.emod_nonneg _ (by decide)) (Int.le_of_lt_add_one (Int.emod_lt_of_pos _ (by decide)))
def spDrawLevel : Sp := fun vs H Q _ => ∃ n : Int, vs = [.int n] ∧ 0 ≤ n ∧ ∀ (r : Int) (H' : Hp), 0 ≤ r → r ≤ 1000 → Same H H' → Q (.int r) H'
theorem ok_l_level (T : Txt K mg) : ∃ fd, FnOk P w K mg base CX0 1 (He.fAd K ("_law_level", none)) fd ["_law_number"] spDrawLevel ∧ FunD K "_law_level" "_law_level" (defArgs s_l_level) (defBody s_l_level) (defScope s_l_level) [] [] (He.fAd K ("_law_level", none)) fd := by
  obtain ⟨fd, F⟩ := T.c.def_ 11 (d := d_l_level) rfl
  refine ⟨fd, F.ok sc_l_level (by walk_at "g94len") (fun cdv A outer st H vs Q E hr h => ?_), F⟩
  · obtain ⟨n, rfl, n0, k⟩ := h
    refine ⟨_, PSs.nox (pss_cons (ps_if (pt_cmpR op_lt (pe_op op_mod (pv 0) pe_int) pe_int (nomark _)) (pss_one (ps_ret (pe_ix ix_list (pe_lstK (pa_cons pe_int (pa_cons pe_int pa_nil))) (pe_op op_mod (pv 0) pe_int) (fun _ _ => rfl)))) pss_nil)
        (pss_one (ps_ret (pe_op op_mod (pe_op op_fdiv (pv 0) pe_int) pe_int)))), ?_⟩
    walk_at "rds"
    walk_at "ri" <;> intro c1
    · walk_at "wks"
      obtain ⟨v, hv, hm⟩ := at2 (a := 0) (b := 1000) (k := n % 4) (by omega) (by omega)
      refine ⟨_, _, _, _, rfl, rfl, .of (by walk_at "hp"), hv, ?_⟩
      exact k _ _ (by omega) (by omega) (by walk_at "sm")
    · walk_at "rds"
      exact k _ _ (by omega) (by omega) (.refl _)
def spShare : Sp := fun vs H Q _ => ∃ n t : Int, vs = [.int n, .int t] ∧ 1000 * n ≤ t ∧ t < 1000 * n + 1000 ∧ Q (.bl true) H
theorem ok_l_share (T : Txt K mg) : ∃ fd, FnOk P w K mg base CX0 2 (He.fAd K ("_law_share", none)) fd ["_law_found", "_law_times_level"] spShare ∧ FunD K "_law_share" "_law_share" (defArgs s_l_share) (defBody s_l_share) (defScope s_l_share) [] [] (He.fAd K ("_law_share", none)) fd := by
  obtain ⟨fd, F⟩ := T.c.def_ 12 (d := d_l_share) rfl
  obtain ⟨fd_l_whole, G_l_whole, F_l_whole⟩ := ok_l_whole (P := P) (w := w) (base := base) T
  have kp_l_whole := F_l_whole.kp
  have b_l_whole : Binds K fd_l_whole ["_law_found"] [] := FunD.bindsN F_l_whole (fun _ _ _ _ _ _ us hl => match us, hl with | [_], _ => rfl)
  refine ⟨fd, F.ok sc_l_share (by walk_at "g94len") (fun cdv A outer st H vs Q E hr h => ?_), F⟩
  · obtain ⟨n, t, rfl, h1, h2, k⟩ := h
    refine ⟨_, PSs.nox (pss_one (ps_ret (pe_and (pe_call G_l_whole (hr.mono (by decide)) rfl (glo__law_whole T) kp_l_whole b_l_whole .nil pass0 (pa_cons (pv 0) pa_nil)) (pe_and (pe_cmpR op_le (pe_op op_mul pe_int (pv 0)) (pv 1) (nomark _)) (pe_one (pe_cmpR op_lt (pv 1) (pe_op op_add (pe_op op_mul pe_int (pv 0)) pe_int) (nomark _))))))), ?_⟩
    walk_at "rds"
    refine iteDT h1 ?_
    walk_at "rds"
    exact qT (Q := Q) h2 k
def spOthers (K : PySem.W.Frag) : Sp := fun vs H Q _ => ∃ a : Addr, vs = [.ref a] ∧ H a = some (excO (.ref (He.ga K "NoWorth")) none a) ∧ ∀ (p : Addr) (H' : Hp), Same H H' → H' p = some (.lst (List.replicate 10 (V.bl false))) → Q (.ref p) H'
theorem ok_l_others (T : Txt K mg) : ∃ fd, FnOk P w K mg base CX0 1 (He.fAd K ("_law_others", none)) fd ["_law_e"] (spOthers K) ∧ FunD K "_law_others" "_law_others" (defArgs s_l_others) (defBody s_l_others) (defScope s_l_others) [] [] (He.fAd K ("_law_others", none)) fd := by
  obtain ⟨fd, F⟩ := T.c.def_ 13 (d := d_l_others) rfl
  refine ⟨fd, F.ok sc_l_others (by walk_at "g94len") (fun cdv A outer st H vs Q E hr h => ?_), F⟩
  · obtain ⟨a, rfl, ha, k⟩ := h
    refine ⟨_, PSs.nox (pss_cons (ps_set (i := 1) sc_l_others.nd rfl (Or.inl rfl) (pe_lstK (pa_cons (pe_callB call_isK (by rfl) (free_isinstance T) (by decide +kernel) (pa_cons (pv 0) (pa_cons (pe_glob (v := .ref (He.ga K "NoText")) rfl (glo_NoText T) rfl) pa_nil))) (pa_cons (pe_callB call_isK (by rfl) (free_isinstance T) (by decide +kernel) (pa_cons (pv 0) (pa_cons (pe_glob (v := .ref (He.ga K "NoTime")) rfl (glo_NoTime T) rfl) pa_nil))) (pa_cons (pe_callB call_isK (by rfl) (free_isinstance T) (by decide +kernel) (pa_cons (pv 0) (pa_cons (pe_glob (v := .ref (He.ga K "NoSlot")) rfl (glo_NoSlot T) rfl) pa_nil))) (pa_cons (pe_callB call_isK (by rfl) (free_isinstance T) (by decide +kernel) (pa_cons (pv 0) (pa_cons (pe_glob (v := .ref (He.ga K "NoPart")) rfl (glo_NoPart T) rfl) pa_nil))) pa_nil))))))
        (pss_cons (ps_set (i := 1) sc_l_others.nd rfl (Or.inl rfl) (pe_op op_catK (pv 1) (pe_lstK (pa_cons (pe_callB call_isK (by rfl) (free_isinstance T) (by decide +kernel) (pa_cons (pv 0) (pa_cons (pe_glob (v := .ref (He.ga K "NoCue")) rfl (glo_NoCue T) rfl) pa_nil))) (pa_cons (pe_callB call_isK (by rfl) (free_isinstance T) (by decide +kernel) (pa_cons (pv 0) (pa_cons (pe_glob (v := .ref (He.ga K "NoList")) rfl (glo_NoList T) rfl) pa_nil))) (pa_cons (pe_callB call_isK (by rfl) (free_isinstance T) (by decide +kernel) (pa_cons (pv 0) (pa_cons (pe_glob (v := .ref (He.ga K "Late")) rfl (glo_Late T) rfl) pa_nil))) (pa_cons (pe_callB call_isK (by rfl) (free_isinstance T) (by decide +kernel) (pa_cons (pv 0) (pa_cons (pe_glob (v := .ref (He.ga K "NoName")) rfl (glo_NoName T) rfl) pa_nil))) pa_nil)))))))
        (pss_one (ps_ret (pe_op op_catK (pv 1) (pe_lstK (pa_cons (pe_callB call_isK (by rfl) (free_isinstance T) (by decide +kernel) (pa_cons (pv 0) (pa_cons (pe_glob (v := .ref (He.ga K "MovesBright")) rfl (glo_MovesBright T) rfl) pa_nil))) (pa_cons (pe_callB call_isK (by rfl) (free_isinstance T) (by decide +kernel) (pa_cons (pv 0) (pa_cons (pe_glob (v := .ref (He.ga K "NoRow")) rfl (glo_NoRow T) rfl) pa_nil))) pa_nil)))))))), ?_⟩
    (repeat first | (refine ⟨_, _, _, _, _, rfl, (by walk_at "hp"), excC_NoWorth T, (fun _ h => h), is_NoWorth_ValueError T, ?_⟩) | (refine ⟨_, _, _, _, _, rfl, (by walk_at "hp"), excC_NoWorth T, (fun _ h => h), is_NoWorth_NoTime T, ?_⟩) | (refine ⟨_, _, _, _, _, rfl, (by walk_at "hp"), excC_NoWorth T, (fun _ h => h), is_NoWorth_NoText T, ?_⟩) | (refine ⟨_, _, _, _, _, rfl, (by walk_at "hp"), excC_NoWorth T, (fun _ h => h), is_NoWorth_NoWorth T, ?_⟩) | (refine ⟨_, _, _, _, _, rfl, (by walk_at "hp"), excC_NoWorth T, (fun _ h => h), is_NoWorth_NoCue T, ?_⟩) | (refine ⟨_, _, _, _, _, rfl, (by walk_at "hp"), excC_NoWorth T, (fun _ h => h), is_NoWorth_NoSlot T, ?_⟩) | (refine ⟨_, _, _, _, _, rfl, (by walk_at "hp"), excC_NoWorth T, (fun _ h => h), is_NoWorth_Late T, ?_⟩) | (refine ⟨_, _, _, _, _, rfl, (by walk_at "hp"), excC_NoWorth T, (fun _ h => h), is_NoWorth_NoPart T, ?_⟩) | (refine ⟨_, _, _, _, _, rfl, (by walk_at "hp"), excC_NoWorth T, (fun _ h => h), is_NoWorth_NoList T, ?_⟩) | (refine ⟨_, _, _, _, _, rfl, (by walk_at "hp"), excC_NoWorth T, (fun _ h => h), is_NoWorth_NoName T, ?_⟩) | (refine ⟨_, _, _, _, _, rfl, (by walk_at "hp"), excC_NoWorth T, (fun _ h => h), is_NoWorth_NoRow T, ?_⟩) | (refine ⟨_, _, _, _, _, rfl, (by walk_at "hp"), excC_NoWorth T, (fun _ h => h), is_NoWorth_MovesBright T, ?_⟩) | (walk_at "wk"))
    exact k _ _ (by walk_at "sm") (by assumption)
theorem dp_bls {K : PySem.W.Frag} {H : Hp} : ∀ bs : List Bool, DpAll K H (bs.map V.bl) (bs.map PyData.bool)
  | [] => .nil
  | b :: r => .cons (.bl b) (dp_bls r)
/-- what is refused -/
def Bad (K : PySem.W.Frag) (H : Hp) (v u : V) : Prop := WorthSays K H v false ∨ (WorthSays K H v true ∧ LevelSays K H u false)
def spRefused (K : PySem.W.Frag) : Sp := fun vs H Q _ => ∃ (w : Int) (v u : V), vs = [.int w, v, u] ∧ Bad K H v u ∧ ∀ H', Same H H' → Q (.bl true) H'
theorem ok_l_refused (T : Txt K mg) : ∃ fd, FnOk P w K mg base CX0 6 (He.fAd K ("_law_refused", none)) fd ["_law_way", "_law_worth_here", "_law_level_here"] (spRefused K) ∧ FunD K "_law_refused" "_law_refused" (defArgs s_l_refused) (defBody s_l_refused) (defScope s_l_refused) [] [] (He.fAd K ("_law_refused", none)) fd := by
  obtain ⟨fd, F⟩ := T.c.def_ 14 (d := d_l_refused) rfl
  obtain ⟨fd_l_others, G_l_others, F_l_others⟩ := ok_l_others (P := P) (w := w) (base := base) T
  have kp_l_others := F_l_others.kp
  have b_l_others : Binds K fd_l_others ["_law_e"] [] := FunD.bindsN F_l_others (fun _ _ _ _ _ _ us hl => match us, hl with | [_], _ => rfl)
  obtain ⟨fd_amount, G_amount, F_amount⟩ := ok_amount (P := P) (w := w) (base := base) T
  have kp_amount := F_amount.kp
  have b_amount : Binds K fd_amount ["worth", "level"] [] := FunD.bindsN F_amount (fun _ _ _ _ _ _ us hl => match us, hl with | [_, _], _ => rfl)
  obtain ⟨fd_lowered, G_lowered, F_lowered⟩ := ok_lowered (P := P) (w := w) (base := base) T
  have kp_lowered := F_lowered.kp
  have b_lowered : Binds K fd_lowered ["worth", "down"] [] := FunD.bindsN F_lowered (fun _ _ _ _ _ _ us hl => match us, hl with | [_, _], _ => rfl)
  refine ⟨fd, F.ok sc_l_refused (by walk_at "g94len") (fun cdv A outer st H vs Q E hr h => ?_), F⟩
  · obtain ⟨w, v, u, rfl, hb, k⟩ := h
    refine ⟨_, PSs.nox (pss_cons (ps_set (i := 3) sc_l_refused.nd rfl (Or.inl rfl) pe_non)
        (pss_cons (ps_try_asK (i := 4) rfl rfl sc_l_refused.nd rfl rfl ⟨rfl, by decide, .inl (glo_LampError T)⟩ (fun W pn xe tk _ => (pss_one (ps_if (pt_cmpR op_eq (pv 0) pe_int (nomark _)) (pss_one (ps_expr (pe_callS G_amount (hr.mono (by decide)) rfl (glo_amount T) kp_amount b_amount (fun σ => passAt tk σ) (pa_cons (pv 1) (pa_cons (pv 2) pa_nil))))) (pss_one (ps_expr (pe_callS G_lowered (hr.mono (by decide)) rfl (glo_lowered T) kp_lowered b_lowered (fun σ => passAt tk σ) (pa_cons (pv 1) (pa_cons (pv 2) pa_nil)))))))) (fun a oe cls d pn hz hf => (pss_one (ps_set (i := 3) sc_l_refused.nd rfl (Or.inl rfl) (pv 4)))))
        (pss_cons (ps_if (PW.pt (pw_or (pt_not (pt_val (pe_callB call_isK (by rfl) (free_isinstance T) (by decide +kernel) (pa_cons (pv 3) (pa_cons (pe_glob (v := .ref (He.ga K "NoWorth")) rfl (glo_NoWorth T) rfl) pa_nil))))) (pw_or1 (pt_not (pt_val (pe_callB call_isK (by rfl) (free_isinstance T) (by decide +kernel) (pa_cons (pv 3) (pa_cons (pe_bltn (v := .ty "ValueError") (by rfl) (free_ValueError T) (by decide +kernel) rfl) pa_nil)))))))) (pss_one (ps_ret pe_bl)) pss_nil)
        (pss_one (ps_ret (pe_cmpR (op_eqD hr.units) (pe_call G_l_others (hr.mono (by decide)) rfl (glo__law_others T) kp_l_others b_l_others .nil pass0 (pa_cons (pv 3) pa_nil)) (pe_op op_repK (pe_lstK (pa_cons pe_bl pa_nil)) pe_int) (nomark _))))))), ?_⟩
    have go : ∀ {f : Int → Int → Int} {Q' : VK} {E' : XK}, E' (.ref (He.ga K "NoWorth")) none H → Weighed K H v u f Q' E' := fun q => hb.elim (fun h => .inr (.inl ⟨h, q⟩)) fun h => .inr (.inr ⟨h.1, h.2, q⟩)
    walk_at "rds"
    have tl : ∀ (a : Addr), H a = none → ∀ {S : Hp → Prop}, (∀ H1, Same H H1 → H1 a = some (excO (.ref (He.ga K "NoWorth")) none a) → S H1) → S (upd H a (excO (.ref (He.ga K "NoWorth")) none a)) := fun a ha S h => h _ ((Same.refl H).new ha) upd_same
    walk_at "ri" <;> intro c1
    all_goals
      refine ⟨_, rfl, _, rfl, v, u, rfl, go ⟨exm_NoWorth_LampError T, fun a ha => ⟨_, rfl, fun _ => tl a ha fun H1 s1 q1 => ?_⟩⟩⟩
      walk_at "nf"
      (repeat first | (refine ⟨_, _, _, _, _, rfl, (by walk_at "hp"), excC_NoWorth T, (fun _ h => h), is_NoWorth_ValueError T, ?_⟩) | (refine ⟨_, _, _, _, _, rfl, (by walk_at "hp"), excC_NoWorth T, (fun _ h => h), is_NoWorth_NoTime T, ?_⟩) | (refine ⟨_, _, _, _, _, rfl, (by walk_at "hp"), excC_NoWorth T, (fun _ h => h), is_NoWorth_NoText T, ?_⟩) | (refine ⟨_, _, _, _, _, rfl, (by walk_at "hp"), excC_NoWorth T, (fun _ h => h), is_NoWorth_NoWorth T, ?_⟩) | (refine ⟨_, _, _, _, _, rfl, (by walk_at "hp"), excC_NoWorth T, (fun _ h => h), is_NoWorth_NoCue T, ?_⟩) | (refine ⟨_, _, _, _, _, rfl, (by walk_at "hp"), excC_NoWorth T, (fun _ h => h), is_NoWorth_NoSlot T, ?_⟩) | (refine ⟨_, _, _, _, _, rfl, (by walk_at "hp"), excC_NoWorth T, (fun _ h => h), is_NoWorth_Late T, ?_⟩) | (refine ⟨_, _, _, _, _, rfl, (by walk_at "hp"), excC_NoWorth T, (fun _ h => h), is_NoWorth_NoPart T, ?_⟩) | (refine ⟨_, _, _, _, _, rfl, (by walk_at "hp"), excC_NoWorth T, (fun _ h => h), is_NoWorth_NoList T, ?_⟩) | (refine ⟨_, _, _, _, _, rfl, (by walk_at "hp"), excC_NoWorth T, (fun _ h => h), is_NoWorth_NoName T, ?_⟩) | (refine ⟨_, _, _, _, _, rfl, (by walk_at "hp"), excC_NoWorth T, (fun _ h => h), is_NoWorth_NoRow T, ?_⟩) | (refine ⟨_, _, _, _, _, rfl, (by walk_at "hp"), excC_NoWorth T, (fun _ h => h), is_NoWorth_MovesBright T, ?_⟩) | (walk_at "wk"))
      intro p H2 s2 q2
      walk_at "wks"
      refine ⟨.list ((List.replicate 10 false).map PyData.bool), .list ((List.replicate 10 false).map PyData.bool), .lst (.of (by walk_at "hp")) (dp_bls (List.replicate 10 false)), .lst (.of (by walk_at "hp")) (dp_bls (List.replicate 10 false)), by decide +kernel, by decide +kernel, ?_⟩
      rw [SeqAt.eqv_refl _ (by decide +kernel)]
      exact k _ (by walk_at "sm")
/-- no number up to m -/
def NoInt (K : PySem.W.Frag) (H : Hp) (m : Int) (x : V) : Prop := (∃ n : Int, x = .int n ∧ ¬ (0 ≤ n ∧ n ≤ m)) ∨ (∃ t, x = .bl t) ∨ IsA K H x "int" false
theorem NoInt.worth {K : PySem.W.Frag} {H : Hp} {x : V} (h : NoInt K H 1000000000 x) : WorthSays K H x false := h.elim (fun ⟨n, e, q⟩ => .inl ⟨n, e, (decide_eq_false q).symm⟩) fun h => h.elim (fun ⟨t, e⟩ => .inr (.inl ⟨t, e, rfl⟩)) fun h => .inr (.inr ⟨h, rfl⟩)
theorem NoInt.level {K : PySem.W.Frag} {H : Hp} {x : V} (h : NoInt K H 1000 x) : LevelSays K H x false := h.elim (fun ⟨n, e, q⟩ => .inl ⟨n, e, (decide_eq_false q).symm⟩) fun h => h.elim (fun ⟨t, e⟩ => .inr (.inl ⟨t, e, rfl⟩)) fun h => .inr (.inr ⟨h, rfl⟩)
def spBad (K : PySem.W.Frag) : Sp := fun vs H Q _ => ∃ m c : Int, vs = [.int m, .int c] ∧ 0 ≤ m ∧ ∀ (p : Addr) (xs : List V) (H' : Hp), Same H H' → H' p = some (.lst xs) → (∀ x ∈ xs, ∀ H2, Same H' H2 → NoInt K H2 m x) → Q (.ref p) H'
theorem ok_l_bad (T : Txt K mg) : ∃ fd, FnOk P w K mg base CX0 1 (He.fAd K ("_law_bad", none)) fd ["_law_most", "_law_cell"] (spBad K) ∧ FunD K "_law_bad" "_law_bad" (defArgs s_l_bad) (defBody s_l_bad) (defScope s_l_bad) [] [] (He.fAd K ("_law_bad", none)) fd := by
  obtain ⟨fd, F⟩ := T.c.def_ 15 (d := d_l_bad) rfl
  refine ⟨fd, F.ok sc_l_bad (by walk_at "g94len") (fun cdv A outer st H vs Q E hr h => ?_), F⟩
  · obtain ⟨m, c, rfl, m0, k⟩ := h
    refine ⟨_, PSs.nox (pss_cons (ps_set (i := 2) sc_l_bad.nd rfl (Or.inl rfl) (pe_lstK (pa_cons pe_negC (pa_cons (pe_op op_add (pv 0) pe_int) (pa_cons (pe_op op_sub pe_negC (pe_op op_mod (pv 1) (pe_powC (v := 1000000000000000000000000000000) (by rfl) (by decide +kernel)))) (pa_cons (pe_op op_add (pe_op op_add (pv 0) pe_int) (pe_op op_mod (pv 1) (pe_powC (v := 1000000000000000000000000000000) (by rfl) (by decide +kernel)))) pa_nil))))))
        (pss_one (ps_ret (pe_op op_catK (pv 2) (pe_lstK (pa_cons pe_non (pa_cons pe_bl (pa_cons pe_bl (pa_cons pe_str (pa_cons (pe_lstK (pa_cons pe_int pa_nil)) (pa_cons (pe_tupK (pa_cons pe_int pa_nil)) (pa_cons pe_dnewTK pa_nil)))))))))))), ?_⟩
    walk_at "wks"
    rename_i p1 G1 f1 s1 h1 p2 G2 f2 s2 h2 p3 G3 f3 s3 h3 p4 G4 f4 s4 h4 p5 G5 f5 s5 h5 p6 G6 f6 s6 h6
    have hc : 0 ≤ c % 1000000000000000000000000000000 := Int.emod_nonneg _ (by decide)
    refine k p6 _ _ (by walk_at "sm") h6 fun x hx H2 s => ?_
    simp only [List.mem_append, List.mem_cons, List.not_mem_nil, or_false] at hx
    rcases hx with (rfl | rfl | rfl | rfl) | rfl | rfl | rfl | rfl | rfl | rfl | rfl
    · exact .inl ⟨_, rfl, by omega⟩
    · exact .inl ⟨_, rfl, by omega⟩
    · exact .inl ⟨_, rfl, by omega⟩
    · exact .inl ⟨_, rfl, by omega⟩
    · exact .inr (.inr ⟨_, .base .non, kit_ty (by decide +kernel)⟩)
    · exact .inr (.inl ⟨_, rfl⟩)
    · exact .inr (.inl ⟨_, rfl⟩)
    · exact .inr (.inr ⟨_, .base (.str _), kit_ty (by decide +kernel)⟩)
    · exact .inr (.inr ⟨_, .base (.lst (by walk_at "hp")), kit_ty (by decide +kernel)⟩)
    · exact .inr (.inr ⟨_, .base (.tup (by walk_at "hp")), kit_ty (by decide +kernel)⟩)
    · exact .inr (.inr ⟨_, .base (.dT (by walk_at "hp")), kit_ty (by decide +kernel)⟩)
def spLaw (K : PySem.W.Frag) : Sp := fun vs H Q _ => ∃ (a : Addr) (ns : List Int), vs = [.ref a] ∧ SqL K H a (ns.map V.int) ∧ ns.length ≤ 63 ∧ (∀ z ∈ ns, Builtin.Int.intBits z ≤ 1048576) ∧ Only H ∧ ∀ H', Q (.bl true) H'

theorem ok_law (T : Txt K mg) : ∃ fd, FnOk P w K mg base CX0 7 (He.fAd K ("law", none)) fd ["_law_script"] (spLaw K) ∧ FunD K "law" "law" (defArgs s_law) (defBody s_law) (defScope s_law) [] [] (He.fAd K ("law", none)) fd := by
  obtain ⟨fd, F⟩ := T.c.def_ 16 (d := d_law) rfl
  obtain ⟨fd_l_cell_at, G_l_cell_at, F_l_cell_at⟩ := ok_l_cell_at (P := P) (w := w) (base := base) T
  have kp_l_cell_at := F_l_cell_at.kp
  have b_l_cell_at : Binds K fd_l_cell_at ["_law_script", "_law_k"] [] := FunD.bindsN F_l_cell_at (fun _ _ _ _ _ _ us hl => match us, hl with | [_, _], _ => rfl)
  obtain ⟨fd_l_bad, G_l_bad, F_l_bad⟩ := ok_l_bad (P := P) (w := w) (base := base) T
  have kp_l_bad := F_l_bad.kp
  have b_l_bad : Binds K fd_l_bad ["_law_most", "_law_cell"] [] := FunD.bindsN F_l_bad (fun _ _ _ _ _ _ us hl => match us, hl with | [_, _], _ => rfl)
  obtain ⟨fd_l_drawn, G_l_drawn, F_l_drawn⟩ := ok_l_drawn (P := P) (w := w) (base := base) T
  have kp_l_drawn := F_l_drawn.kp
  have b_l_drawn : Binds K fd_l_drawn ["_law_script", "_law_k"] [] := FunD.bindsN F_l_drawn (fun _ _ _ _ _ _ us hl => match us, hl with | [_, _], _ => rfl)
  obtain ⟨fd_l_worth, G_l_worth, F_l_worth⟩ := ok_l_worth (P := P) (w := w) (base := base) T
  have kp_l_worth := F_l_worth.kp
  have b_l_worth : Binds K fd_l_worth ["_law_number"] [] := FunD.bindsN F_l_worth (fun _ _ _ _ _ _ us hl => match us, hl with | [_], _ => rfl)
  obtain ⟨fd_l_level, G_l_level, F_l_level⟩ := ok_l_level (P := P) (w := w) (base := base) T
  have kp_l_level := F_l_level.kp
  have b_l_level : Binds K fd_l_level ["_law_number"] [] := FunD.bindsN F_l_level (fun _ _ _ _ _ _ us hl => match us, hl with | [_], _ => rfl)
  obtain ⟨fd_l_share, G_l_share, F_l_share⟩ := ok_l_share (P := P) (w := w) (base := base) T
  have kp_l_share := F_l_share.kp
  have b_l_share : Binds K fd_l_share ["_law_found", "_law_times_level"] [] := FunD.bindsN F_l_share (fun _ _ _ _ _ _ us hl => match us, hl with | [_, _], _ => rfl)
  obtain ⟨fd_amount, G_amount, F_amount⟩ := ok_amount (P := P) (w := w) (base := base) T
  have kp_amount := F_amount.kp
  have b_amount : Binds K fd_amount ["worth", "level"] [] := FunD.bindsN F_amount (fun _ _ _ _ _ _ us hl => match us, hl with | [_, _], _ => rfl)
  obtain ⟨fd_lowered, G_lowered, F_lowered⟩ := ok_lowered (P := P) (w := w) (base := base) T
  have kp_lowered := F_lowered.kp
  have b_lowered : Binds K fd_lowered ["worth", "down"] [] := FunD.bindsN F_lowered (fun _ _ _ _ _ _ us hl => match us, hl with | [_, _], _ => rfl)
  obtain ⟨fd_l_refused, G_l_refused, F_l_refused⟩ := ok_l_refused (P := P) (w := w) (base := base) T
  have kp_l_refused := F_l_refused.kp
  have b_l_refused : Binds K fd_l_refused ["_law_way", "_law_worth_here", "_law_level_here"] [] := FunD.bindsN F_l_refused (fun _ _ _ _ _ _ us hl => match us, hl with | [_, _, _], _ => rfl)
  refine ⟨fd, F.ok sc_law (by walk_at "g94len") (fun cdv A outer st H vs Q E hr h => ?_), F⟩
  · obtain ⟨a, ns, rfl, hS, hlen, hbits, hO, k⟩ := h
    refine ⟨_, PSs.nox (pss_cons (ps_for PassesOwn.never rfl (pi_range1 rfl (free_range T) (pa_cons (pe_callB (call_min2 rfl) (by rfl) (free_min T) (by decide +kernel) (pa_cons (pe_callB call_len_seq (by rfl) (free_len T) (by decide +kernel) (pa_cons (pv 0) pa_nil)) (pa_cons pe_int pa_nil))) pa_nil)) (pg_name (i := 1) sc_law.nd rfl (Or.inl rfl)) (pss_cons (ps_set (i := 2) sc_law.nd rfl (Or.inl rfl) (pe_call G_l_drawn (hr.mono (by decide)) rfl (glo__law_drawn T) kp_l_drawn b_l_drawn .nil pass0 (pa_cons (pv 0) (pa_cons (pv 1) pa_nil))))
        (pss_cons (ps_set (i := 3) sc_law.nd rfl (Or.inl rfl) (pe_call G_l_worth (hr.mono (by decide)) rfl (glo__law_worth T) kp_l_worth b_l_worth .nil pass0 (pa_cons (pv 2) pa_nil)))
        (pss_cons (ps_set (i := 4) sc_law.nd rfl (Or.inl rfl) (pe_call G_l_level (hr.mono (by decide)) rfl (glo__law_level T) kp_l_level b_l_level .nil pass0 (pa_cons (pv 2) pa_nil)))
        (pss_cons (ps_if (pt_not (pt_val (pe_call G_l_share (hr.mono (by decide)) rfl (glo__law_share T) kp_l_share b_l_share .nil pass0 (pa_cons (pe_call G_amount (hr.mono (by decide)) rfl (glo_amount T) kp_amount b_amount .nil (passes_call takes0 (fun _ _ _ _ h => h)) (pa_cons (pv 3) (pa_cons (pv 4) pa_nil))) (pa_cons (pe_op op_mul (pv 3) (pv 4)) pa_nil))))) (pss_one (ps_ret pe_bl)) pss_nil)
        (pss_one (ps_if (pt_not (pt_val (pe_call G_l_share (hr.mono (by decide)) rfl (glo__law_share T) kp_l_share b_l_share .nil pass0 (pa_cons (pe_call G_lowered (hr.mono (by decide)) rfl (glo_lowered T) kp_lowered b_lowered .nil (passes_call takes0 (fun _ _ _ _ h => h)) (pa_cons (pv 3) (pa_cons (pv 4) pa_nil))) (pa_cons (pe_op op_mul (pv 3) (pe_op op_sub pe_int (pv 4))) pa_nil))))) (pss_one (ps_ret pe_bl)) pss_nil)))))))
        (pss_cons (ps_set (i := 5) sc_law.nd rfl (Or.inl rfl) (pe_call G_l_cell_at (hr.mono (by decide)) rfl (glo__law_cell_at T) kp_l_cell_at b_l_cell_at .nil pass0 (pa_cons (pv 0) (pa_cons pe_int pa_nil))))
        (pss_cons (ps_for PassesOwn.never rfl (pi_list (pe_call G_l_bad (hr.mono (by decide)) rfl (glo__law_bad T) kp_l_bad b_l_bad .nil pass0 (pa_cons (pe_powC (v := 1000000000) (by rfl) (by decide +kernel)) (pa_cons (pv 5) pa_nil)))) (pg_name (i := 6) sc_law.nd rfl (Or.inl rfl)) (pss_one (ps_if (PW.pt (pw_or (pt_not (pt_val (pe_call G_l_refused (hr.mono (by decide)) rfl (glo__law_refused T) kp_l_refused b_l_refused .nil pass0 (pa_cons pe_int (pa_cons (pv 6) (pa_cons pe_int pa_nil)))))) (pw_or1 (pt_not (pt_val (pe_call G_l_refused (hr.mono (by decide)) rfl (glo__law_refused T) kp_l_refused b_l_refused .nil pass0 (pa_cons pe_int (pa_cons (pv 6) (pa_cons (pe_op op_mod (pv 5) pe_int) pa_nil))))))))) (pss_one (ps_ret pe_bl)) pss_nil)))
        (pss_cons (ps_for PassesOwn.never rfl (pi_list (pe_call G_l_bad (hr.mono (by decide)) rfl (glo__law_bad T) kp_l_bad b_l_bad .nil pass0 (pa_cons pe_int (pa_cons (pv 5) pa_nil)))) (pg_name (i := 6) sc_law.nd rfl (Or.inl rfl)) (pss_one (ps_if (PW.pt (pw_or (pt_not (pt_val (pe_call G_l_refused (hr.mono (by decide)) rfl (glo__law_refused T) kp_l_refused b_l_refused .nil pass0 (pa_cons pe_int (pa_cons pe_int (pa_cons (pv 6) pa_nil)))))) (pw_or1 (pt_not (pt_val (pe_call G_l_refused (hr.mono (by decide)) rfl (glo__law_refused T) kp_l_refused b_l_refused .nil pass0 (pa_cons pe_int (pa_cons (pe_op op_mod (pv 5) (pe_powC (v := 1000000000) (by rfl) (by decide +kernel))) (pa_cons (pv 6) pa_nil))))))))) (pss_one (ps_ret pe_bl)) pss_nil)))
        (pss_one (ps_ret (pe_and (pe_cmpR op_eq (pe_call G_amount (hr.mono (by decide)) rfl (glo_amount T) kp_amount b_amount .nil (passes_call takes0 (fun _ _ _ _ h => h)) (pa_cons (pe_powC (v := 1000000000) (by rfl) (by decide +kernel)) (pa_cons pe_int pa_nil))) (pe_powC (v := 1000000000) (by rfl) (by decide +kernel)) (nomark _)) (pe_one (pe_cmpR op_eq (pe_call G_lowered (hr.mono (by decide)) rfl (glo_lowered T) kp_lowered b_lowered .nil (passes_call takes0 (fun _ _ _ _ h => h)) (pa_cons (pe_powC (v := 1000000000) (by rfl) (by decide +kernel)) (pa_cons pe_int pa_nil))) pe_int (nomark _)))))))))), ?_⟩
    clear hbits hO
    walk_at "rds"
    refine ⟨a, _, rfl, .inl hS, ?_⟩
    rw [List.length_map]
    walk_at "rds"
    have hmn : (if (64 : Int) < (ns.length : Int) then (64 : Int) else (ns.length : Int)) = ns.length := if_neg (by omega)
    rw [hmn]
    walk_at "rds"
    refine for_range (lo := 0) (n := ((ns.length : Int)).toNat) (fun i σ' H' => ∃ v1 v2 v3 v4 : Option V, σ' = [some (.ref a), v1, v2, v3, v4, none, none] ∧ Same H H') ⟨_, _, _, _, rfl, .refl _⟩ ?_ ?_
    · rintro i σ' H' hi ⟨v1, v2, v3, v4, rfl, s⟩
      have hil : i < ns.length := by omega
      refine ⟨_, rfl, _, rfl, a, _, ns, rfl, s.seq hS, by omega, by omega, by omega, fun r r0 r1 => ?_⟩
      walk_at "rds"
      intro w w0 w1
      walk_at "rds"
      intro l H2 l0 l1 s2
      have hb : 0 ≤ w * l := Int.mul_nonneg w0 l0
      have hb2 : 0 ≤ w * (1000 - l) := Int.mul_nonneg w0 (by omega)
      refine ⟨_, rfl, _, rfl, _, _, rfl, .inl ⟨w, l, rfl, rfl, ⟨w0, w1⟩, ⟨l0, l1⟩, ?_⟩⟩
      refine ⟨_, rfl, _, rfl, _, _, rfl, rfl, .inl ⟨by omega, by omega⟩, _, _, rfl, (by show 1000 * (w * l / 1000) ≤ w * l; omega), (by show w * l < 1000 * (w * l / 1000) + 1000; omega), ?_⟩
      refine ⟨_, rfl, iteF ?_⟩
      refine ⟨_, rfl, _, rfl, _, _, rfl, .inl ⟨w, l, rfl, rfl, ⟨w0, w1⟩, ⟨l0, l1⟩, ?_⟩⟩
      refine ⟨_, rfl, _, rfl, _, _, rfl, rfl, _, _, rfl, rfl, .inl ⟨by omega, by omega⟩, _, _, rfl, (by show 1000 * (w * (1000 - l) / 1000) ≤ w * (1000 - l); omega), (by show w * (1000 - l) < 1000 * (w * (1000 - l) / 1000) + 1000; omega), ?_⟩
      refine ⟨_, rfl, iteF ?_⟩
      exact ⟨_, _, _, _, rfl, by walk_at "sm"⟩
    rintro σ' H' ⟨v1, v2, v3, v4, rfl, s⟩
    refine ⟨_, rfl, a, 0, rfl, ⟨_, s.seq hS⟩, Int.le_refl _, fun cell => ?_⟩
    walk_at "rds"
    intro p xs H2 s2 hp hxs
    refine ⟨p, rfl, ⟨_, .of hp⟩, ?_⟩
    refine for_list (K := K) (a := p) (xs := xs) (fun i σ' H' => ∃ v5 : Option V, σ' = [some (.ref a), v1, v2, v3, v4, some (.int cell), v5] ∧ Same H2 H') ⟨_, rfl, .refl _⟩ (fun i σ' H' _ ⟨_, _, s⟩ => .of (s _ _ hp)) ?_ ?_
    · rintro i x σ' H3 hi ⟨v5, rfl, s3⟩
      have hb := fun H' s => hxs x (List.mem_of_getElem? hi) H' (s3.trans s)
      refine ⟨_, rfl, 0, x, .int 500, rfl, .inl (hb _ (.refl _)).worth, fun H4 s4 => ?_⟩
      refine ⟨_, rfl, iteF ?_⟩
      refine ⟨_, rfl, _, rfl, _, _, rfl, rfl, (by show (0 : Int) < 1001; decide), 1, x, _, rfl, .inl (hb _ s4).worth, fun H5 s5 => ?_⟩
      refine ⟨_, rfl, iteF ?_⟩
      exact ⟨_, rfl, by walk_at "sm"⟩
    rintro σ' H3 ⟨v5, rfl, s3⟩
    walk_at "rds"
    intro p2 ys H4 s4 hp2 hys
    refine ⟨p2, rfl, ⟨_, .of hp2⟩, ?_⟩
    refine for_list (K := K) (a := p2) (xs := ys) (fun i σ' H' => ∃ v5 : Option V, σ' = [some (.ref a), v1, v2, v3, v4, some (.int cell), v5] ∧ Same H4 H') ⟨_, rfl, .refl _⟩ (fun i σ' H' _ ⟨_, _, s⟩ => .of (s _ _ hp2)) ?_ ?_
    · rintro i x σ' H5 hi ⟨v5, rfl, s5⟩
      have hb := fun H' s => hys x (List.mem_of_getElem? hi) H' (s5.trans s)
      refine ⟨_, rfl, 0, .int 7, x, rfl, .inr ⟨.inl ⟨7, rfl, by decide⟩, (hb _ (.refl _)).level⟩, fun H6 s6 => ?_⟩
      refine ⟨_, rfl, iteF ?_⟩
      have hc : 0 ≤ cell % 1000000000 ∧ cell % 1000000000 ≤ 1000000000 := by omega
      refine ⟨_, rfl, _, _, rfl, rfl, (by show (0 : Int) < 1000000000; decide), _, rfl, 1, _, x, rfl, .inr ⟨.inl ⟨_, rfl, (decide_eq_true hc).symm⟩, (hb _ s6).level⟩, fun H7 s7 => ?_⟩
      refine ⟨_, rfl, iteF ?_⟩
      exact ⟨_, rfl, by walk_at "sm"⟩
    rintro σ' H5 ⟨v5, rfl, s5⟩
    refine ⟨_, _, rfl, .inl ⟨1000000000, 1000, rfl, rfl, by decide, by decide, ?_⟩⟩
    walk_at "rds"
    refine .inl ⟨1000000000, 1000, rfl, rfl, by decide, by decide, ?_⟩
    refine ⟨rfl, ?_⟩
    exact qT (Q := Q) (by decide) (k _)
theorem law_facts {fa : Addr} (T : Txt K mg) (hfa : mg "law" = some (.ref fa)) :
    ∃ fd : FuncData, (∀ (s : Shared) (v : Value), BindsTo s fd ⟨[v], []⟩ [("_law_script", v)]) ∧ ∀ base : Heap, K.In base → base.Ns mainGlobals mg → FnOk P w K mg base CX0 7 fa fd ["_law_script"] (spLaw K) := by
  have e := hfa.symm.trans (glo_law T)
  cases e
  obtain ⟨fd, _, F⟩ := ok_law (P := P) (w := w) (base := default) T
  refine ⟨fd, fun s v => FunD.bindsA (ps := ["_law_script"]) F (fun _ _ _ _ _ _ us hl => match us, hl with | [_], _ => rfl) s [v] rfl, fun base _ _ => ?_⟩
  obtain ⟨fd', G, F'⟩ := ok_law (P := P) (w := w) (base := base) T
  have q : fd' = fd := F'.fd_eq F
  rw [← q]
  exact G


end

abbrev R : PySem.W.OpenRow := PySem.W.OpenLaw.row PySem.Challenge.rw_lampcues_k51_amounts
abbrev hk : PySem.W.Hook := L2.hookY 6 fa fn exB
def ob (s : PySem.W.SharedT) : He.AlD × Bool := L2.obsY 6 fa fn exB (HandSHeadRun.getT s)
theorem ob_eq (s : PySem.W.SharedT) : ob s = hk.obs s.abs := L2.obsY_eq (HandSHeadRun.getT_eq s)
def loose0 : List PySem.Str := ["LampError", "NoText", "NoTime", "NoSlot", "NoWorth", "NoPart", "NoCue", "NoList", "Late", "NoName", "MovesBright", "NoRow", "MOST", "is_amid", "is_worth", "is_level", "good_level", "good_worth", "amount", "lowered", "_law_cell_at", "_law_drawn", "_law_whole", "_law_worth", "_law_level", "_law_share", "_law_others", "_law_refused", "_law_bad"]
def loose : List PySem.Str := loose0
theorem run (w : World) : HandSHeadRun.RunEq R (PySem.W.view R.prog [33]) hk ob 4000 loose w := by
  intro os
  kernel_rfl
end G94
open PySem PySem.W PySem.Calls PyProof.Rows
theorem PySem.Challenge.cw_lampcues_k51_amounts_holds : PySem.Challenge.rw_lampcues_k51_amounts.Holds := by
  w_on; o_law
  refine HandSHeadRun.head_any (r := OpenLaw.row PySem.Challenge.rw_lampcues_k51_amounts) (q := view (OpenLaw.row PySem.Challenge.rw_lampcues_k51_amounts).prog [33]) (H := G94.hk) (ob := G94.ob) (M := 4000) (loose := G94.loose) (d := HandSHeadRun.topDef (OpenLaw.row PySem.Challenge.rw_lampcues_k51_amounts).prog 33) (kwd := []) G94.ob_eq
    (by kernel_rfl) (fun s => by kernel_rfl) G94.run (by kernel_rfl) (by kernel_rfl) (by kernel_rfl) (by rfl) (by first | assumption | decide +kernel) (by decide +kernel) ⟨rfl, rfl, rfl, rfl, rfl, by decide +kernel⟩ ?hw ?hc
  case hw => w_witness2
  case hc =>
    refine L2.walk_ofEB (l := PySem.Challenge.rw_lampcues_k51_amounts) (n := 63) (k := 7) (x := "_law_script") (CX := L2.CX0) rfl (by decide) (by kernel_rfl) ⟨rfl, by decide, by decide⟩ ?F (fun _ _ _ _ z => z)
    intro w mg fa h Y G hmg0
    obtain ⟨K, KX, c, cx⟩ := Y
    have hmg : mg ("law" : PySem.Str) = some (.ref fa) := by
      have e : (HandSHeadRun.topDef (OpenLaw.row PySem.Challenge.rw_lampcues_k51_amounts).prog 33).name = ("law" : PySem.Str) := by kernel_rfl
      rw [← e]
      exact hmg0
    obtain ⟨fd, hb, hF⟩ := G94.law_facts (P := (PySem.Challenge.rw_lampcues_k51_amounts).prog) (w := w) ⟨c, ⟨h, KX, G⟩, cx⟩ hmg
    exact ⟨K, fd, G94.spLaw K, KX, hb, fun H a ns hl hb hH hS => ⟨a, ns, rfl, hS, hl, hb, hH, fun _ => rfl⟩, hF⟩
