import PyProof.Rows.All
import Wide.All
import OpenK.AllK
import Wide.FinOn
import KE.KStateDown
import HandS.ForMost
import HandS.Exc
import HandS.TryOnly
import HandS.ExcOwn
import HandS.WordsExc
import HandS.Defaults
import HandS.Wide
import HandS.IsInst
import HandS.ExcIs
import HandS.EndBits
import HandS.TupLe
import HandS.Rev
import HandS.Codes
import HandS.MakeKw
import HandS.StrMore
import HandS.Head0
import HandS.Head1
import HandS.Head2
import HandS.HeadEnd
import HandS.HeadHook1
import HandS.HeadHook2
import PySem.Challenge.RW_lampcues_k01_times_written
set_option Elab.async false
set_option linter.all false
set_option maxRecDepth 100000
set_option maxHeartbeats 4000000
namespace L2
open PySem PySem.Spec PyProof.Rows
/-! ### own rules, own words -/
/-- a law's end by facts, with the script's bits and the only tracked thing told -/
theorem walk_ofEB {l : PySem.W.OpenLaw} {n k : Nat} {q : Program} {loose : List Str} {XP : (Str → Option Value) → Heap → Prop} {YP : World → Heap → Prop} {d : DefRec} {CX : CXT} {x : Str}
    (hn : l.most = some n) (hn2 : n ≤ sizeLine) (hdf : d.params.defaults = []) (hr : Room k callerA)
    (F : ∀ (w : World) (mg : Str → Option Value) (fa : Addr) (h : Heap), YP w h → h.Ns mainGlobals mg → mg d.name = some (.ref fa) →
      ∃ (K : PySem.W.Frag) (fd : FuncData) (sp : Sp), K.In h ∧ (∀ (s : Shared) (u : Value), BindsTo s fd ⟨[u], []⟩ [(x, u)]) ∧
        (∀ (H : Hp) (a : Addr) (ns : List Int), ns.length ≤ n → (∀ z ∈ ns, Builtin.Int.intBits z ≤ 1048576) → Only H → SqL K H a (ns.map V.int) → sp [.ref a] H (fun v _ => v = .bl true) fun _ _ _ => False) ∧
        ∀ base : Heap, K.In base → base.Ns mainGlobals mg → FnOk l.prog w K mg base CX k fa fd [x] sp)
    (hCX : ∀ (H : Hp) (s : Shared) (e : Value) (s' : Shared), CX [] H s (fun _ _ _ => False) e s' → False) :
    PySem.W.WalkO q loose XP YP l.row.toRowW d [] (fun f vs => PySem.call f vs) := by
  refine Att.attach_callB hn hdf fun w s₀ s₁ mg mb fa o pm cd doc a vs ns G Y ho hd hcd hmg hobj hints hlen hbits hg => ?_
  obtain ⟨K, fd, sp, KX, hb, hsp, hF⟩ := F w mg fa _ Y G.T.g hmg
  exact law_call KX G.T.g G.T.b G.T.builtins G.T.nolimit hg hobj hints (Nat.le_trans hlen hn2) hr hF hb (fun H hO hS => hsp H a ns hlen hbits hO hS) fun H e s' => hCX H s₁ e s'
section
variable {X : Cx}
/-- a written power -/
theorem pe_powC {i j v : Int} {a b : Nat} {p1 p2 pos : Pos} (e : i ^ j.toNat = v) (h : 0 ≤ j ∧ j ≤ 1000000 ∧ i.natAbs < 2 ^ 64) : PE X (.BinOp (.Constant (.int i) a p1) .Pow (.Constant (.int j) b p2) pos) (tC (.int v)) := by
  subst e
  refine ⟨fun pins s σ H Q I q => ?_⟩
  exact (pe_op (X := X) op_pow pe_int pe_int).run pins s σ H Q I ⟨i, j, rfl, rfl, h, q⟩
/-- a written negative number -/
theorem pe_negC {i : Int} {a : Nat} {p1 pos : Pos} : PE X (.UnaryOp .USub (.Constant (.int i) a p1) pos) (tC (.int (-i))) := by
  refine ⟨fun pins s σ H Q I q => ?_⟩
  exact (pe_un (X := X) un_neg pe_int).run pins s σ H Q I ⟨i, rfl, q⟩
end
theorem iteD {c A B : Prop} [Decidable c] (h1 : c → A) (h2 : ¬ c → B) : if decide c = true then A else B := by
  by_cases h : c
  · rw [if_pos (decide_eq_true h)]
    exact h1 h
  · rw [if_neg (by rw [decide_eq_false h]; exact Bool.false_ne_true)]
    exact h2 h
theorem iteND {c A B : Prop} [Decidable c] (h1 : ¬ c → A) (h2 : c → B) : if (!decide c) = true then A else B := by
  by_cases h : c
  · rw [decide_eq_true h]
    exact iteF (h2 h)
  · rw [decide_eq_false h]
    exact iteT (h1 h)
theorem iteV {a b : Int} {A B : Prop} (h1 : a = b → A) (h2 : a ≠ b → B) : if decide (V.int a = V.int b) = true then A else B :=
  iteD (fun e => h1 (V.int.inj e)) fun e => h2 fun q => e (congrArg V.int q)
theorem iteNV {a b : Int} {A B : Prop} (h1 : a ≠ b → A) (h2 : a = b → B) : if (!decide (V.int a = V.int b)) = true then A else B :=
  iteND (fun e => h1 fun q => e (congrArg V.int q)) fun e => h2 (V.int.inj e)
theorem iteB {b : Bool} {A B : Prop} (h1 : b = true → A) (h2 : b = false → B) : if b = true then A else B := by
  cases b with
  | true => exact iteT (h1 rfl)
  | false => exact iteF (h2 rfl)
theorem iteDT {c A B : Prop} [Decidable c] (h : c) (h1 : A) : if decide c = true then A else B := iteD (fun _ => h1) fun q => absurd h q
theorem iteDF {c A B : Prop} [Decidable c] (h : ¬ c) (h1 : B) : if decide c = true then A else B := iteD (fun q => absurd q h) fun _ => h1
theorem iteVT {a b : Int} {A B : Prop} (h : a = b) (h1 : A) : if decide (V.int a = V.int b) = true then A else B := iteV (fun _ => h1) fun q => absurd h q
theorem iteVF {a b : Int} {A B : Prop} (h : a ≠ b) (h1 : B) : if decide (V.int a = V.int b) = true then A else B := iteV (fun q => absurd q h) fun _ => h1
theorem iteNVF {a b : Int} {A B : Prop} (h : a = b) (h1 : B) : if (!decide (V.int a = V.int b)) = true then A else B := iteNV (fun q => absurd h q) fun _ => h1
theorem yes_lc {σ : St} {H : Hp} {A B : Hp → Prop} (h : A H) : tYes σ H (fun b H3 => if b = true then A H3 else B H3) := by
  show if true = true then A H else B H
  rw [if_pos rfl]
  exact h
theorem qT {Q : VK} {H : Hp} {c : Prop} [Decidable c] (h : c) (k : Q (.bl true) H) : Q (.bl (decide c)) H := by
  rw [decide_eq_true h]
  exact k
theorem qF {Q : VK} {H : Hp} {c : Prop} [Decidable c] (h : ¬ c) (k : Q (.bl false) H) : Q (.bl (decide c)) H := by
  rw [decide_eq_false h]
  exact k
theorem iteS {a b : List Nat} {z : Str} {A B : Prop} (e : z = SX.S b) (h1 : a = b → A) (h2 : a ≠ b → B) : if decide (V.str (SX.S a) = V.str z) = true then A else B := by
  subst e
  exact iteD (fun q => h1 (SX.S_inj (V.str.inj q))) fun q => h2 fun r => q (congrArg (fun l => V.str (SX.S l)) r)
theorem iteNSt {a b : List Nat} {z : Str} {A B : Prop} (e : z = SX.S b) (h1 : a ≠ b → A) (h2 : a = b → B) : if (!decide (V.str (SX.S a) = V.str z)) = true then A else B := by
  subst e
  exact iteND (fun q => h1 fun r => q (congrArg (fun l => V.str (SX.S l)) r)) fun q => h2 (SX.S_inj (V.str.inj q))
theorem cut_ints (ns : List Int) (lo hi : Option Int) : ∃ ms : List Int, cutV (ns.map V.int) lo hi = ms.map V.int ∧ ms.length ≤ ns.length ∧ ∀ z ∈ ms, z ∈ ns := by
  refine ⟨(ns.drop (HT.sIx (ns.map V.int).length 0 lo)).take (HT.sIx (ns.map V.int).length (ns.map V.int).length hi - HT.sIx (ns.map V.int).length 0 lo), ?_, ?_, ?_⟩
  · unfold cutV
    rw [List.map_take, List.map_drop]
  · rw [List.length_take, List.length_drop]
    omega
  · intro z hz
    exact List.mem_of_mem_drop (List.mem_of_mem_take hz)
theorem int_at {ns : List Int} {i : Nat} {y : V} (h : (ns.map V.int)[i]? = some y) : ∃ z, y = V.int z ∧ ns[i]? = some z ∧ i < ns.length := by
  rw [List.getElem?_map] at h
  cases e : ns[i]? with
  | none =>
    rw [e] at h
    cases h
  | some z =>
    rw [e] at h
    exact ⟨z, (Option.some.inj h).symm, rfl, (List.getElem?_eq_some_iff.mp e).1⟩
theorem atI_lt {xs : List V} {k : Int} (h0 : 0 ≤ k) (h1 : k < xs.length) : ∃ v, atI xs k = some v ∧ xs[k.toNat]? = some v := by
  have hl : k.toNat < xs.length := by omega
  refine ⟨xs[k.toNat], ?_, List.getElem?_eq_getElem hl⟩
  obtain ⟨n, rfl⟩ : ∃ n : Nat, k = n := ⟨k.toNat, by omega⟩
  exact atI_nat (List.getElem?_eq_getElem hl)
theorem at2 {a b k : Int} (h0 : 0 ≤ k) (h1 : k < 2) : ∃ v, atI [V.int a, V.int b] k = some (V.int v) ∧ ((k = 0 ∧ v = a) ∨ (k = 1 ∧ v = b)) := by
  rcases (by omega : k = 0 ∨ k = 1) with rfl | rfl
  · exact ⟨a, rfl, .inl ⟨rfl, rfl⟩⟩
  · exact ⟨b, rfl, .inr ⟨rfl, rfl⟩⟩
theorem at3 {a b c k : Int} (h0 : 0 ≤ k) (h1 : k < 3) : ∃ v, atI [V.int a, V.int b, V.int c] k = some (V.int v) ∧ ((k = 0 ∧ v = a) ∨ (k = 1 ∧ v = b) ∨ (k = 2 ∧ v = c)) := by
  rcases (by omega : k = 0 ∨ k = 1 ∨ k = 2) with rfl | rfl | rfl
  · exact ⟨a, rfl, .inl ⟨rfl, rfl⟩⟩
  · exact ⟨b, rfl, .inr (.inl ⟨rfl, rfl⟩)⟩
  · exact ⟨c, rfl, .inr (.inr ⟨rfl, rfl⟩)⟩
/-- a call that writes all parameters, the last ones by name -/
theorem kb_all {K : PySem.W.Frag} {x qual : Str} {params : Arguments} {body : List Stmt} {scope : Scope} {dvs : List V} {kws : List (Str × V)} {f : Addr} {fd : FuncData} {ps : List Str} (F : FunD K x qual params body scope dvs kws f fd) (n : Nat) (ks : List Str) (hd : dvs ≠ [])
    (h : ∀ (T : Addr) (kV doc pm : Value) (an : Option Addr) (cdv ct : Value) (us its ws : List Value), us.length = n → its.length = dvs.length → ws.length = ks.length →
      ∃ k, bindArgs (PySem.W.fnOf x qual params body scope (.ref T) kV doc pm an cdv ct) ⟨us, ks.zip ws⟩ = seqItems? (.ref T) >>= k ∧ k (some its.toArray) = pure (ps.zip (us ++ ws))) : KBn K fd ps n ks (fun us ws => us ++ ws) (fun vs zs => vs ++ zs) := by
  obtain ⟨oc, od, dV, kV, doc, pm, an, cdv, ct, osl, rfl, lk, hcd, hD, _⟩ := F.ex
  rcases hD with ⟨e, _⟩ | ⟨_, T, o, its, m, rfl, lT, oT, rT⟩
  · exact absurd e hd
  · refine ⟨fun s us ws X h1 h2 => ?_, fun r1 r2 => r1.append r2⟩
    obtain ⟨k, e1, e2⟩ := h T kV doc pm an cdv ct us its ws h1 rT.length.symm h2
    refine BindsTo.of_looks fun M => ?_
    rw [e1]
    exact looks_items X lT oT (.of_pure e2)
theorem FunD.fd_eq {K : PySem.W.Frag} {x qual : Str} {params : Arguments} {body : List Stmt} {scope : Scope} {dvs : List V} {kws : List (Str × V)} {f : Addr} {fd fd' : FuncData} (F : FunD K x qual params body scope dvs kws f fd) (F' : FunD K x qual params body scope dvs kws f fd') : fd = fd' := by
  obtain ⟨_, _, _, _, _, _, _, _, _, _, _, l, _⟩ := F.ex
  obtain ⟨_, _, _, _, _, _, _, _, _, _, _, l', _⟩ := F'.ex
  rw [l] at l'
  simp only [Option.some.injEq, Obj.mk.injEq, Data.func.injEq] at l'
  exact l'.2.2.1
theorem at4 {a b c d k : Int} (h0 : 0 ≤ k) (h1 : k < 4) : ∃ v, atI ([a, b, c, d].map V.int) k = some (V.int v) := by
  rcases (by omega : k = 0 ∨ k = 1 ∨ k = 2 ∨ k = 3) with rfl | rfl | rfl | rfl
  · exact ⟨a, rfl⟩
  · exact ⟨b, rfl⟩
  · exact ⟨c, rfl⟩
  · exact ⟨d, rfl⟩
theorem ints_last {es : List Int} {v : Int} (h : es.getLast? = some v) : atI (es.map V.int) (-1) = some (V.int v) := by
  obtain ⟨r, e⟩ := List.getLast?_eq_some_iff.mp h
  rw [e, List.map_append]
  exact atI_last _ _
/-- a loop over the signs of a text -/
theorem for_text {l : List Nat} {g : TG} {tb : TS} {D : Ends} {σ : St} {H : Hp} (Pv : Nat → St → Hp → Prop) (h0 : Pv 0 σ H)
    (hs : ∀ (i : Nat) (c : Nat) (σ : St) (H : Hp), l[i]? = some c → Pv i σ H → g (.str ⟨#[c]⟩) σ H (fun σ2 H2 => tb { D with nx := Pv (i + 1), ct := Pv (i + 1), bk := D.nx } σ2 H2))
    (hd : ∀ σ H, Pv l.length σ H → D.nx σ H) :
    ∃ W : Nat → Nat → St → Hp → Prop, (∃ m, W 0 m σ H) ∧ ∀ i m σ H, W i m σ H → ((Its (SX.S l)).stop i H ∧ D.nx σ H) ∨
      ((Its (SX.S l)).go i H ∧ ∃ N : St → Hp → Prop, (∀ σ' H', N σ' H' → ∃ m', m' < m ∧ W (i + 1) m' σ' H') ∧ ∀ v H', (Its (SX.S l)).yld i H v H' → g v σ H' fun σ2 H2 => tb { D with nx := N, ct := N, bk := D.nx } σ2 H2) := by
  refine ⟨fun i m σ H => m = l.length - i ∧ i ≤ l.length ∧ Pv i σ H, ⟨_, rfl, Nat.zero_le _, h0⟩, ?_⟩
  intro i m σ1 H1 hw
  obtain ⟨em, hi, p⟩ := hw
  have es : (SX.S l).cps.size = l.length := by simp
  rcases Nat.lt_or_ge i l.length with hlt | hge
  · right
    refine ⟨(by show i < (SX.S l).cps.size; omega), Pv (i + 1), fun σ' H' p' => ⟨l.length - (i + 1), by omega, rfl, by omega, p'⟩, ?_⟩
    intro v H' hy
    obtain ⟨e, c, hc, ev⟩ := hy
    rw [e, ev]
    refine hs i c σ1 H1 ?_ p
    have h2 : (SX.S l).cps[i]? = l[i]? := by simp
    rw [← h2]
    exact hc
  · left
    refine ⟨(by show (SX.S l).cps.size ≤ i; omega), hd σ1 H1 ?_⟩
    have e : i = l.length := by omega
    rw [← e]
    exact p
theorem atI_head {α : Type} (c : α) (r : List α) : atI (c :: r) 0 = some c := by
  show atI (c :: r) ((0 : Nat) : Int) = some c
  exact atI_nat rfl
theorem small_size {n : Nat} (h : n ≤ 100000) : n ≤ sizeLine := Nat.le_trans h (by decide)
theorem Same.new {H H' : Hp} {p : Addr} {o : HO} (e : Same H H') (h : H' p = none) : Same H (upd H' p o) := fun a u q => by
  rw [upd_ne (ne_of_none (e a u q) h)]
  exact e a u q
theorem Same.mut {H H' : Hp} {p : Addr} {o : HO} (e : Same H H') (h : H p = none) : Same H (upd H' p o) := fun a u q => by
  rw [upd_ne (ne_of_none q h)]
  exact e a u q
/-- o.m(e, .., k = v, ..) -/
def tMethN (C : Addr) (m : Str) (n j : Nat) (sp : Sp) (gV : List V → List V → List V) (E : XK) (ta : TE) (t tk : TA) : TE := fun σ H Q => ta σ H fun x H1 => ∃ a dx fs, x = .ref a ∧ H1 a = some (.ins C dx fs) ∧ fs.lookup m = none ∧
  t σ H1 fun vs H2 => tk σ H2 fun zs H3 => vs.length = n ∧ zs.length = j ∧ sp (gV (x :: vs) zs) H3 Q E
theorem pe_methN {X : Cx} {CX : CXT} {k n : Nat} {f C : Addr} {fd : FuncData} {ps ks : List Str} {sp : Sp} {E : XK} {m : Str} {o e : Expr} {es : List Expr} {kws : List Keyword} {apos pos : Pos} {ta : TE} {t tk : TA} {g : List Value → List Value → List Value} {gV : List V → List V → List V} {pl : Sem Bool}
    (he : PE X o ta) (c : Cls X.K C) (hm : Meth X.K C m f) (F : FnOk X.prog X.w X.K X.mg X.base CX k f fd ps sp) (hr : Room k X.A) (hb : KBn X.K fd ps (n + 1) ks g gV) (hx : Passes CX X E) (ha : PA X (e :: es) t) (hkw : PK X kws tk)
    (hall : (backToKw pos (keywordEach kws X.env)).all (·.1.isSome) = true := by rfl)
    (hks : (backToKw pos (keywordEach kws X.env)).filterMap (·.1) = ks := by rfl)
    (hst : starEach (e :: es) X.env = (false, eval e X.env) :: starEach es X.env := by rfl)
    (hpl : ((backTo pos (starEach (e :: es) X.env)).any (·.1) || (backToKw pos (keywordEach kws X.env)).any (·.1.isNone)) = false := by rfl)
    (ht : eval (.Call (.Attribute o m apos) (e :: es) kws pos) X.env = (do
      let ov ← eval o X.env
      standAt apos.atName
      let (f, first) ← holding [ov] (getMethod ov m pl)
      callWith pos f first (backTo pos (starEach (e :: es) X.env)) (backToKw pos (keywordEach kws X.env))) := by rfl) :
    PE X (.Call (.Attribute o m apos) (e :: es) kws pos) (tMethN C m n ks.length sp gV E ta t tk) := by
  constructor
  intro pins s σ H Q I hh
  apply PySem.W.methodCall_KW (pl := pl) (he := ht)
  apply thn (he.run pins s σ H _ I hh)
  rintro u s1 ⟨x, H1, I1, rx, a, dx, fs, rfl, ea, l, q⟩
  obtain rfl : u = Value.ref a := rx
  apply getmeth_ok I1 ea c hm l
  apply PySem.W.callWith_KW (first := [.ref a]) (h₀ := X.base) I.ok.mod.kin hm.kp hall (hplain := hpl) (he := hst)
  apply thn (ha.run pos pins s1 σ H1 _ I1 q)
  rintro us s2 ⟨vs, H2, I2, r, q2⟩
  apply thn (hkw.run pos pins s2 σ H2 _ I2 q2)
  rintro ws s3 ⟨zs, H3, I3, rz, l1, l2, q3⟩
  refine ⟨I3.kIn, ?_⟩
  rw [hks]
  exact run_fnN (us := .ref a :: us) (vs := .ref a :: vs) F hr hb hx I3 (.cons rfl r) rz (congrArg Nat.succ l1) l2 q3
/-! ### a head that asks one more thing of the written part -/
def obsY (n : Nat) (fa : List He.Fa) (fn : List He.DefD) (ex : PySem.W.Frag → Bool) (g : Addr → Option Obj) : He.AlD × Bool := (He.obsDG n fa fn g, ex (He.frG g (He.asD g n)))
def hookY (n : Nat) (fa : List He.Fa) (fn : List He.DefD) (ex : PySem.W.Frag → Bool) : PySem.W.Hook where
  α := He.AlD × Bool
  obs := fun s => obsY n fa fn ex s.heap.get?
  val := fun _ => (He.valD fn, true)
  says := fun _ h => ∃ K : PySem.W.Frag, K.In h ∧ He.SaysD fa fn K ∧ ex K = true
  of := fun _ _ e => ⟨_, He.frG_in, congrArg Prod.fst e, congrArg Prod.snd e⟩
  keeps := fun _ _ _ ⟨K, hK, c⟩ k => ⟨K, PySem.W.Frag.In.keeps hK k, c⟩
theorem obsY_eq {n : Nat} {fa : List He.Fa} {fn : List He.DefD} {ex : PySem.W.Frag → Bool} {g : Addr → Option Obj} {s : Shared} (h : ∀ a, g a = s.heap.get? a) : obsY n fa fn ex g = (hookY n fa fn ex).obs s := by
  have e : g = s.heap.get? := funext h
  rw [e]
  rfl
/-! ### what a class of errors must say, as one Bool -/
def excB (K : PySem.W.Frag) (x : Str) : Bool :=
  decide (PySem.W.findIn K (.ref (He.ga K x)) "__getattribute__" = some (some (.builtin "BaseException.__getattribute__"))) && (decide (PySem.W.findIn K (.ref (He.ga K x)) "__getattr__" = some none) &&
  (decide (PySem.W.subIn K (.ref (He.ga K x)) (.type "BaseException") = some true) && (PySem.W.hasDictIn K (He.ga K x) && (decide (PySem.W.findIn K (.ref (He.ga K x)) "__class__" = some (some (.builtin "object.__class__"))) &&
  (decide (PySem.W.specialIn K (.builtin "object.__class__") "__get__" = some (some (.builtin "getset_descriptor.__get__"))) && (decide (PySem.W.takesIn K (.builtin "object.__class__") = some true) && decide (PySem.W.mroIn K (He.ga K x) (.type "object") = some true)))))))
theorem excB_ok {K : PySem.W.Frag} {x : Str} (h : excB K x = true) : ExcC K (He.ga K x) := by
  obtain ⟨h1, h⟩ := He.ba h
  obtain ⟨h2, h⟩ := He.ba h
  obtain ⟨h3, h⟩ := He.ba h
  obtain ⟨h4, h⟩ := He.ba h
  obtain ⟨h5, h⟩ := He.ba h
  obtain ⟨h6, h⟩ := He.ba h
  obtain ⟨h7, h8⟩ := He.ba h
  exact ⟨of_decide_eq_true h1, of_decide_eq_true h2, of_decide_eq_true h3, h4, of_decide_eq_true h5, of_decide_eq_true h6, of_decide_eq_true h7, of_decide_eq_true h8⟩
/-- isinstance of what a suite holds, its class told by the reading -/
def rIsX (K : PySem.W.Frag) (cls : Value) (dc : Option Addr) (a : Addr) : List V → Hp → VK → Prop := fun xs H Q => ∃ D, cls = .ref D ∧ dc = none ∧ ExcC K D ∧ rIsE K D a xs H Q
theorem call_isX {X : Cx} {a : Addr} {cls : Value} {dc : Option Addr} {oe : Obj} {pn : List (Addr × Obj)} (hz : Zc cls dc oe) (hf : ∃ vs, oe.data = .fields vs) : CallR (X.suite a ((a, oe) :: pn)) (.builtin "isinstance") (rIsX X.K cls dc a) := by
  intro pins s σ H xs us Q I r h
  obtain ⟨D, e1, e2, C, q⟩ := h
  subst e1 e2
  exact call_isE C hz hf pins s σ H xs us Q I r q
end L2
/-! ### the words of a reading: sd a side condition, rd one step, rds as many as go by themselves, ri a test -/
local macro_rules | `(tactic| walk_at "sd") => `(tactic| first
  | omega
  | (show (0 : Int) < _; omega)
  | (show (0 : Int) ≤ _; omega)
  | exact .inl ⟨by omega, by omega⟩
  | exact .inr ⟨by omega, by omega⟩
  | exact ⟨by decide, by decide⟩
  | exact ⟨by omega, by omega⟩
  | exact L2.small_size (Nat.le_of_ble_eq_true rfl)
  | exact L2.wide_div (b := 64) (by omega) (by omega) (by decide) (by decide)
  | assumption
  | exact ⟨_, by assumption⟩)
local macro_rules | `(tactic| walk_at "rd") => `(tactic| first
  | refine ⟨_, rfl, ?_⟩
  | refine ⟨_, _, rfl, rfl, ?_⟩
  | refine ⟨_, _, rfl, ?_⟩
  | refine ⟨_, _, _, rfl, ?_⟩
  | refine ⟨_, _, _, _, rfl, ?_⟩
  | refine ⟨_, _, _, _, _, rfl, ?_⟩
  | refine ⟨_, _, _, _, _, _, rfl, ?_⟩
  | refine ⟨rfl, ?_⟩
  | refine L2.iteF ?_
  | refine L2.iteT ?_
  | refine And.intro (by walk_at "sd") ?_
  | refine ⟨_, _, _, _, true, rfl, .ty _, .base (.int _), L2.kit_ty (by decide +kernel), ?_⟩
  | refine ⟨_, _, _, _, false, rfl, .ty _, .base (.int _), L2.kit_ty (by decide +kernel), ?_⟩
  | refine ⟨_, _, _, _, true, rfl, .ty _, .base (.bl _), L2.kit_ty (by decide +kernel), ?_⟩
  | refine ⟨_, _, _, _, false, rfl, .ty _, .base (.bl _), L2.kit_ty (by decide +kernel), ?_⟩
  | refine ⟨_, _, _, _, true, rfl, .ty _, .base (.str _), L2.kit_ty (by decide +kernel), ?_⟩
  | refine ⟨_, _, _, _, false, rfl, .ty _, .base (.str _), L2.kit_ty (by decide +kernel), ?_⟩
  | refine ⟨_, _, _, _, true, rfl, .ty _, .base .non, L2.kit_ty (by decide +kernel), ?_⟩
  | refine ⟨_, _, _, _, false, rfl, .ty _, .base .non, L2.kit_ty (by decide +kernel), ?_⟩)
local macro_rules | `(tactic| walk_at "rds") => `(tactic| repeat walk_at "rd")
local macro_rules | `(tactic| walk_at "rz") => `(tactic| repeat first
  | walk_at "rd"
  | refine fun (_ : Int) => ?_
  | refine fun (_ : (_ : Int) ≤ _) => ?_
  | refine fun (_ : (_ : Int) < _) => ?_)
local macro_rules | `(tactic| walk_at "ri") => `(tactic| first
  | refine L2.iteV ?_ ?_
  | refine L2.iteNV ?_ ?_
  | refine L2.iteD ?_ ?_
  | refine L2.iteND ?_ ?_
  | refine L2.iteB ?_ ?_)
local macro_rules | `(tactic| walk_at "nf") => `(tactic| try dsimp only [L2.start, List.set_cons_zero, List.set_cons_succ])
local macro_rules | `(tactic| walk_at "g94len") => `(tactic| (intro vs H Q E h; first
  | (obtain ⟨e, _⟩ := h; exact congrArg List.length e)
  | (obtain ⟨_, e, _⟩ := h; exact congrArg List.length e)
  | (obtain ⟨_, _, e, _⟩ := h; exact congrArg List.length e)
  | (obtain ⟨_, _, _, e, _⟩ := h; exact congrArg List.length e)
  | (obtain ⟨_, _, _, _, e, _⟩ := h; exact congrArg List.length e)
  | (obtain ⟨_, _, _, _, _, e, _⟩ := h; exact congrArg List.length e)
  | (obtain ⟨_, _, _, _, _, _, e, _⟩ := h; exact congrArg List.length e)
  | (obtain ⟨_, _, _, _, _, _, _, e, _⟩ := h; exact congrArg List.length e)
  | (obtain ⟨_, _, _, _, _, _, _, _, e, _⟩ := h; exact congrArg List.length e)
  | (obtain ⟨_, _, _, _, _, _, _, _, _, e, _⟩ := h; exact congrArg List.length e)
  | (obtain ⟨_, _, _, _, _, _, _, _, _, _, e, _⟩ := h; exact congrArg List.length e)))
local macro_rules | `(tactic| walk_at "g94tr") => `(tactic| (set_option pp.deepTerms false in set_option pp.deepTerms.threshold 8 in trace_state))
namespace G94
open PySem PySem.Spec PyProof.Rows L2
def top (i : Nat) : Stmt := PySem.Challenge.pw_lampcues_k01_times_written.main.body.getD i (.Pass ⟨0, 0, 0, 0⟩)
abbrev s_is_time : Stmt := top 15
theorem sc_is_time : FnScope ["thing"] ["thing"] (defScope s_is_time) := ⟨rfl, rfl, rfl, by decide +kernel, rfl, by decide +kernel, by decide +kernel⟩
abbrev s_time_text : Stmt := top 16
theorem sc_time_text : FnScope ["ticks", "seconds", "rest"] ["ticks"] (defScope s_time_text) := ⟨rfl, rfl, rfl, by decide +kernel, rfl, by decide +kernel, by decide +kernel⟩
abbrev s_l_cell_at : Stmt := top 18
theorem sc_l_cell_at : FnScope ["_law_script", "_law_k"] ["_law_script", "_law_k"] (defScope s_l_cell_at) := ⟨rfl, rfl, rfl, by decide +kernel, rfl, by decide +kernel, by decide +kernel⟩
abbrev s_l_time_by : Stmt := top 20
theorem sc_l_time_by : FnScope ["_law_cell", "_law_number_here"] ["_law_cell"] (defScope s_l_time_by) := ⟨rfl, rfl, rfl, by decide +kernel, rfl, by decide +kernel, by decide +kernel⟩
abbrev s_l_number : Stmt := top 21
theorem sc_l_number : FnScope ["_law_figures", "_law_found", "_law_sign", "_law_at"] ["_law_figures"] (defScope s_l_number) := ⟨rfl, rfl, rfl, by decide +kernel, rfl, by decide +kernel, by decide +kernel⟩
abbrev s_l_ticks : Stmt := top 22
theorem sc_l_ticks : FnScope ["_law_text", "_law_seconds", "_law_point", "_law_rest"] ["_law_text"] (defScope s_l_ticks) := ⟨rfl, rfl, rfl, by decide +kernel, rfl, by decide +kernel, by decide +kernel⟩
abbrev s_l_refused : Stmt := top 23
theorem sc_l_refused : FnScope ["_law_thing", "_law_truths", "e"] ["_law_thing"] (defScope s_l_refused) := ⟨rfl, rfl, rfl, by decide +kernel, rfl, by decide +kernel, by decide +kernel⟩
abbrev s_l_good : Stmt := top 24
theorem sc_l_good : FnScope ["_law_ticks_here", "_law_found"] ["_law_ticks_here"] (defScope s_l_good) := ⟨rfl, rfl, rfl, by decide +kernel, rfl, by decide +kernel, by decide +kernel⟩
abbrev s_law : Stmt := top 25
theorem sc_law : FnScope ["_law_script", "_law_cell", "_law_far", "_law_thing"] ["_law_script"] (defScope s_law) := ⟨rfl, rfl, rfl, by decide +kernel, rfl, by decide +kernel, by decide +kernel⟩
def d_is_time : He.DefD := ⟨("is_time", none), "is_time", "is_time", defArgs s_is_time, defBody s_is_time, defScope s_is_time, [], []⟩
def d_time_text : He.DefD := ⟨("time_text", none), "time_text", "time_text", defArgs s_time_text, defBody s_time_text, defScope s_time_text, [], []⟩
def d_l_cell_at : He.DefD := ⟨("_law_cell_at", none), "_law_cell_at", "_law_cell_at", defArgs s_l_cell_at, defBody s_l_cell_at, defScope s_l_cell_at, [], []⟩
def d_l_time_by : He.DefD := ⟨("_law_time_by", none), "_law_time_by", "_law_time_by", defArgs s_l_time_by, defBody s_l_time_by, defScope s_l_time_by, [], []⟩
def d_l_number : He.DefD := ⟨("_law_number", none), "_law_number", "_law_number", defArgs s_l_number, defBody s_l_number, defScope s_l_number, [], []⟩
def d_l_ticks : He.DefD := ⟨("_law_ticks", none), "_law_ticks", "_law_ticks", defArgs s_l_ticks, defBody s_l_ticks, defScope s_l_ticks, [], []⟩
def d_l_refused : He.DefD := ⟨("_law_refused", none), "_law_refused", "_law_refused", defArgs s_l_refused, defBody s_l_refused, defScope s_l_refused, [], []⟩
def d_l_good : He.DefD := ⟨("_law_good", none), "_law_good", "_law_good", defArgs s_l_good, defBody s_l_good, defScope s_l_good, [], []⟩
def d_law : He.DefD := ⟨("law", none), "law", "law", defArgs s_law, defBody s_law, defScope s_law, [], []⟩
def fn : List He.DefD := [d_is_time, d_time_text, d_l_cell_at, d_l_time_by, d_l_number, d_l_ticks, d_l_refused, d_l_good, d_law]
def fa : List He.Fa := [.glo "is_time", .glo "time_text", .glo "_law_cell_at", .glo "_law_time_by", .glo "_law_number", .glo "_law_ticks", .glo "_law_refused", .glo "_law_good", .glo "law", .glo "NoTime", .glo "LampError", .glo "NoText", .glo "NoWorth", .glo "NoCue", .glo "NoSlot", .glo "Late", .glo "NoPart", .glo "NoList", .glo "NoName", .glo "NoRow", .glo "MovesBright", .free "len", .free "isinstance", .free "int", .free "bool", .free "str", .free "divmod", .free "ValueError", .int "MOST" 1000000000, .exc "NoTime", .exm "NoTime" "LampError" true]
def exL (K : PySem.W.Frag) : List Bool := [L2.excB K "NoTime",
  decide (PySem.W.kitOne K (.ref (He.ga K "NoTime")) (.type "ValueError") = some true),
  decide (PySem.W.kitOne K (.ref (He.ga K "NoTime")) (.ref (He.ga K "NoTime")) = some true),
  decide (PySem.W.kitOne K (.ref (He.ga K "NoTime")) (.ref (He.ga K "NoText")) = some false),
  decide (PySem.W.kitOne K (.ref (He.ga K "NoTime")) (.ref (He.ga K "NoWorth")) = some false),
  decide (PySem.W.kitOne K (.ref (He.ga K "NoTime")) (.ref (He.ga K "NoCue")) = some false),
  decide (PySem.W.kitOne K (.ref (He.ga K "NoTime")) (.ref (He.ga K "NoSlot")) = some false),
  decide (PySem.W.kitOne K (.ref (He.ga K "NoTime")) (.ref (He.ga K "Late")) = some false),
  decide (PySem.W.kitOne K (.ref (He.ga K "NoTime")) (.ref (He.ga K "NoPart")) = some false),
  decide (PySem.W.kitOne K (.ref (He.ga K "NoTime")) (.ref (He.ga K "NoList")) = some false),
  decide (PySem.W.kitOne K (.ref (He.ga K "NoTime")) (.ref (He.ga K "NoName")) = some false),
  decide (PySem.W.kitOne K (.ref (He.ga K "NoTime")) (.ref (He.ga K "NoRow")) = some false),
  decide (PySem.W.kitOne K (.ref (He.ga K "NoTime")) (.ref (He.ga K "MovesBright")) = some false)]
def exB (K : PySem.W.Frag) : Bool := (exL K).all id
/-- what the top leaves -/
structure Txt (K : PySem.W.Frag) (mg : Str → Option Value) : Prop where
  c : He.SaysD fa fn K
  hp : ∃ h : Heap, K.In h ∧ h.Ns mainGlobals mg
  x : exB K = true
section
variable {K : PySem.W.Frag} {mg : Str → Option Value}
theorem excC_NoTime (T : Txt K mg) : L2.ExcC K (He.ga K "NoTime") := L2.excB_ok (List.all_eq_true.mp T.x _ (List.mem_of_getElem? (i := 0) rfl))
theorem is_NoTime_ValueError (T : Txt K mg) : PySem.W.kitOne K (.ref (He.ga K "NoTime")) (.type "ValueError") = some true := of_decide_eq_true (List.all_eq_true.mp T.x _ (List.mem_of_getElem? (i := 1) rfl))
theorem is_NoTime_NoTime (T : Txt K mg) : PySem.W.kitOne K (.ref (He.ga K "NoTime")) (.ref (He.ga K "NoTime")) = some true := of_decide_eq_true (List.all_eq_true.mp T.x _ (List.mem_of_getElem? (i := 2) rfl))
theorem is_NoTime_NoText (T : Txt K mg) : PySem.W.kitOne K (.ref (He.ga K "NoTime")) (.ref (He.ga K "NoText")) = some false := of_decide_eq_true (List.all_eq_true.mp T.x _ (List.mem_of_getElem? (i := 3) rfl))
theorem is_NoTime_NoWorth (T : Txt K mg) : PySem.W.kitOne K (.ref (He.ga K "NoTime")) (.ref (He.ga K "NoWorth")) = some false := of_decide_eq_true (List.all_eq_true.mp T.x _ (List.mem_of_getElem? (i := 4) rfl))
theorem is_NoTime_NoCue (T : Txt K mg) : PySem.W.kitOne K (.ref (He.ga K "NoTime")) (.ref (He.ga K "NoCue")) = some false := of_decide_eq_true (List.all_eq_true.mp T.x _ (List.mem_of_getElem? (i := 5) rfl))
theorem is_NoTime_NoSlot (T : Txt K mg) : PySem.W.kitOne K (.ref (He.ga K "NoTime")) (.ref (He.ga K "NoSlot")) = some false := of_decide_eq_true (List.all_eq_true.mp T.x _ (List.mem_of_getElem? (i := 6) rfl))
theorem is_NoTime_Late (T : Txt K mg) : PySem.W.kitOne K (.ref (He.ga K "NoTime")) (.ref (He.ga K "Late")) = some false := of_decide_eq_true (List.all_eq_true.mp T.x _ (List.mem_of_getElem? (i := 7) rfl))
theorem is_NoTime_NoPart (T : Txt K mg) : PySem.W.kitOne K (.ref (He.ga K "NoTime")) (.ref (He.ga K "NoPart")) = some false := of_decide_eq_true (List.all_eq_true.mp T.x _ (List.mem_of_getElem? (i := 8) rfl))
theorem is_NoTime_NoList (T : Txt K mg) : PySem.W.kitOne K (.ref (He.ga K "NoTime")) (.ref (He.ga K "NoList")) = some false := of_decide_eq_true (List.all_eq_true.mp T.x _ (List.mem_of_getElem? (i := 9) rfl))
theorem is_NoTime_NoName (T : Txt K mg) : PySem.W.kitOne K (.ref (He.ga K "NoTime")) (.ref (He.ga K "NoName")) = some false := of_decide_eq_true (List.all_eq_true.mp T.x _ (List.mem_of_getElem? (i := 10) rfl))
theorem is_NoTime_NoRow (T : Txt K mg) : PySem.W.kitOne K (.ref (He.ga K "NoTime")) (.ref (He.ga K "NoRow")) = some false := of_decide_eq_true (List.all_eq_true.mp T.x _ (List.mem_of_getElem? (i := 11) rfl))
theorem is_NoTime_MovesBright (T : Txt K mg) : PySem.W.kitOne K (.ref (He.ga K "NoTime")) (.ref (He.ga K "MovesBright")) = some false := of_decide_eq_true (List.all_eq_true.mp T.x _ (List.mem_of_getElem? (i := 12) rfl))
theorem glo_is_time (T : Txt K mg) : mg "is_time" = some (.ref (He.ga K "is_time")) := by
  obtain ⟨h, X, G⟩ := T.hp
  exact He.glo_ok X G (T.c.fact 0 rfl)
theorem glo_time_text (T : Txt K mg) : mg "time_text" = some (.ref (He.ga K "time_text")) := by
  obtain ⟨h, X, G⟩ := T.hp
  exact He.glo_ok X G (T.c.fact 1 rfl)
theorem glo__law_cell_at (T : Txt K mg) : mg "_law_cell_at" = some (.ref (He.ga K "_law_cell_at")) := by
  obtain ⟨h, X, G⟩ := T.hp
  exact He.glo_ok X G (T.c.fact 2 rfl)
theorem glo__law_time_by (T : Txt K mg) : mg "_law_time_by" = some (.ref (He.ga K "_law_time_by")) := by
  obtain ⟨h, X, G⟩ := T.hp
  exact He.glo_ok X G (T.c.fact 3 rfl)
theorem glo__law_number (T : Txt K mg) : mg "_law_number" = some (.ref (He.ga K "_law_number")) := by
  obtain ⟨h, X, G⟩ := T.hp
  exact He.glo_ok X G (T.c.fact 4 rfl)
theorem glo__law_ticks (T : Txt K mg) : mg "_law_ticks" = some (.ref (He.ga K "_law_ticks")) := by
  obtain ⟨h, X, G⟩ := T.hp
  exact He.glo_ok X G (T.c.fact 5 rfl)
theorem glo__law_refused (T : Txt K mg) : mg "_law_refused" = some (.ref (He.ga K "_law_refused")) := by
  obtain ⟨h, X, G⟩ := T.hp
  exact He.glo_ok X G (T.c.fact 6 rfl)
theorem glo__law_good (T : Txt K mg) : mg "_law_good" = some (.ref (He.ga K "_law_good")) := by
  obtain ⟨h, X, G⟩ := T.hp
  exact He.glo_ok X G (T.c.fact 7 rfl)
theorem glo_law (T : Txt K mg) : mg "law" = some (.ref (He.ga K "law")) := by
  obtain ⟨h, X, G⟩ := T.hp
  exact He.glo_ok X G (T.c.fact 8 rfl)
theorem glo_NoTime (T : Txt K mg) : mg "NoTime" = some (.ref (He.ga K "NoTime")) := by
  obtain ⟨h, X, G⟩ := T.hp
  exact He.glo_ok X G (T.c.fact 9 rfl)
theorem glo_LampError (T : Txt K mg) : mg "LampError" = some (.ref (He.ga K "LampError")) := by
  obtain ⟨h, X, G⟩ := T.hp
  exact He.glo_ok X G (T.c.fact 10 rfl)
theorem glo_NoText (T : Txt K mg) : mg "NoText" = some (.ref (He.ga K "NoText")) := by
  obtain ⟨h, X, G⟩ := T.hp
  exact He.glo_ok X G (T.c.fact 11 rfl)
theorem glo_NoWorth (T : Txt K mg) : mg "NoWorth" = some (.ref (He.ga K "NoWorth")) := by
  obtain ⟨h, X, G⟩ := T.hp
  exact He.glo_ok X G (T.c.fact 12 rfl)
theorem glo_NoCue (T : Txt K mg) : mg "NoCue" = some (.ref (He.ga K "NoCue")) := by
  obtain ⟨h, X, G⟩ := T.hp
  exact He.glo_ok X G (T.c.fact 13 rfl)
theorem glo_NoSlot (T : Txt K mg) : mg "NoSlot" = some (.ref (He.ga K "NoSlot")) := by
  obtain ⟨h, X, G⟩ := T.hp
  exact He.glo_ok X G (T.c.fact 14 rfl)
theorem glo_Late (T : Txt K mg) : mg "Late" = some (.ref (He.ga K "Late")) := by
  obtain ⟨h, X, G⟩ := T.hp
  exact He.glo_ok X G (T.c.fact 15 rfl)
theorem glo_NoPart (T : Txt K mg) : mg "NoPart" = some (.ref (He.ga K "NoPart")) := by
  obtain ⟨h, X, G⟩ := T.hp
  exact He.glo_ok X G (T.c.fact 16 rfl)
theorem glo_NoList (T : Txt K mg) : mg "NoList" = some (.ref (He.ga K "NoList")) := by
  obtain ⟨h, X, G⟩ := T.hp
  exact He.glo_ok X G (T.c.fact 17 rfl)
theorem glo_NoName (T : Txt K mg) : mg "NoName" = some (.ref (He.ga K "NoName")) := by
  obtain ⟨h, X, G⟩ := T.hp
  exact He.glo_ok X G (T.c.fact 18 rfl)
theorem glo_NoRow (T : Txt K mg) : mg "NoRow" = some (.ref (He.ga K "NoRow")) := by
  obtain ⟨h, X, G⟩ := T.hp
  exact He.glo_ok X G (T.c.fact 19 rfl)
theorem glo_MovesBright (T : Txt K mg) : mg "MovesBright" = some (.ref (He.ga K "MovesBright")) := by
  obtain ⟨h, X, G⟩ := T.hp
  exact He.glo_ok X G (T.c.fact 20 rfl)
theorem free_len (T : Txt K mg) : mg "len" = none := by
  obtain ⟨h, X, G⟩ := T.hp
  exact He.free_ok X G (T.c.fact 21 rfl)
theorem free_isinstance (T : Txt K mg) : mg "isinstance" = none := by
  obtain ⟨h, X, G⟩ := T.hp
  exact He.free_ok X G (T.c.fact 22 rfl)
theorem free_int (T : Txt K mg) : mg "int" = none := by
  obtain ⟨h, X, G⟩ := T.hp
  exact He.free_ok X G (T.c.fact 23 rfl)
theorem free_bool (T : Txt K mg) : mg "bool" = none := by
  obtain ⟨h, X, G⟩ := T.hp
  exact He.free_ok X G (T.c.fact 24 rfl)
theorem free_str (T : Txt K mg) : mg "str" = none := by
  obtain ⟨h, X, G⟩ := T.hp
  exact He.free_ok X G (T.c.fact 25 rfl)
theorem free_divmod (T : Txt K mg) : mg "divmod" = none := by
  obtain ⟨h, X, G⟩ := T.hp
  exact He.free_ok X G (T.c.fact 26 rfl)
theorem free_ValueError (T : Txt K mg) : mg "ValueError" = none := by
  obtain ⟨h, X, G⟩ := T.hp
  exact He.free_ok X G (T.c.fact 27 rfl)
theorem int_MOST (T : Txt K mg) : ∃ t, mg "MOST" = some (.int 1000000000 t) := by
  obtain ⟨h, X, G⟩ := T.hp
  exact He.int_ok X G (T.c.fact 28 rfl)
theorem fact_exc_NoTime (T : Txt K mg) : (He.Fa.ok K (.exc "NoTime")) = true := T.c.fact 29 rfl
theorem fact_exm_NoTime_LampError (T : Txt K mg) : (He.Fa.ok K (.exm "NoTime" "LampError" true)) = true := T.c.fact 30 rfl
end
section
variable {K : PySem.W.Frag} {mg : Str → Option Value}
theorem exc_NoTime (T : Txt K mg) : PySem.W.excIn K (He.ga K "NoTime") He.veBase "ValueError.__new__" = true ∧ PySem.W.keepIn K (.ref (He.ga K "NoTime")) = true ∧ PySem.W.subIn K (.ref (He.ga K "NoTime")) (.type "BaseException") = some true ∧ PySem.W.typeIn K (.ref (He.ga K "NoTime")) = some (.type "type") := He.exc_ok (fact_exc_NoTime T)
theorem exm_NoTime_LampError (T : Txt K mg) : PySem.W.exmOne K (.ref (He.ga K "NoTime")) (.ref (He.ga K "LampError")) = some true := He.exm_ok (fact_exm_NoTime_LampError T)
end
section
variable {P : Program} {w : World} {K : PySem.W.Frag} {mg : Str → Option Value} {base : Heap}
/-! ### the law's small helpers -/
def spCell (K : PySem.W.Frag) : Sp := fun vs H Q _ => ∃ (a : Addr) (k : Int), vs = [.ref a, .int k] ∧ (∃ ns : List Int, SqL K H a (ns.map V.int)) ∧ 0 ≤ k ∧ ∀ r : Int, Q (.int r) H
theorem ok_l_cell_at (T : Txt K mg) : ∃ fd, FnOk P w K mg base CX0 1 (He.fAd K ("_law_cell_at", none)) fd ["_law_script", "_law_k"] (spCell K) ∧ FunD K "_law_cell_at" "_law_cell_at" (defArgs s_l_cell_at) (defBody s_l_cell_at) (defScope s_l_cell_at) [] [] (He.fAd K ("_law_cell_at", none)) fd := by
  obtain ⟨fd, F⟩ := T.c.def_ 2 (d := d_l_cell_at) rfl
  refine ⟨fd, F.ok sc_l_cell_at (by walk_at "g94len") (fun cdv A outer st H vs Q E hr h => ?_), F⟩
  · obtain ⟨a, i, rfl, ⟨ns, hS⟩, i0, k⟩ := h
    refine ⟨_, PSs.nox (pss_cons (ps_if (pt_cmpR op_lt (pv 1) (pe_callB call_len_seq (by rfl) (free_len T) (by decide +kernel) (pa_cons (pv 0) pa_nil)) (nomark _)) (pss_one (ps_ret (pe_ix ix_list (pv 0) (pv 1) (fun _ _ => rfl)))) pss_nil)
        (pss_one (ps_ret pe_int))), ?_⟩
    walk_at "rds"
    refine ⟨_, _, rfl, .inl hS, ?_⟩
    walk_at "rds"
    walk_at "ri" <;> intro c1
    · obtain ⟨v, hv, hv2⟩ := atI_lt i0 c1
      obtain ⟨z, rfl, _, _⟩ := int_at hv2
      walk_at "rds"
      exact ⟨_, _, _, _, rfl, rfl, hS, hv, k _⟩
    · walk_at "rds"
      exact k _

def isFig (c : Nat) : Bool := decide (48 ≤ c) && decide (c ≤ 57)
def figs : List Nat := [48, 49, 50, 51, 52, 53, 54, 55, 56, 57]
theorem figs_eq : ("0123456789" : Str) = SX.S figs := by decide +kernel
theorem fig_iff {c : Nat} : c ∈ figs ↔ isFig c = true := by
  simp only [figs, List.mem_cons, List.not_mem_nil, or_false, isFig, Bool.and_eq_true, decide_eq_true_eq]
  omega
/-- the number, sign by sign -/
def dstep (t : Int) (c : Nat) : Int := 10 * t + ((c : Int) - 48)
def val (l : List Nat) : Int := l.foldl dstep 0
theorem val_snoc (l : List Nat) (c : Nat) : val (l ++ [c]) = 10 * val l + ((c : Int) - 48) := by
  unfold val
  rw [List.foldl_append]
  rfl
theorem val_bound : ∀ (n : Nat) (l : List Nat), l.length = n → l.all isFig = true → 0 ≤ val l ∧ val l < 10 ^ n
  | 0, l, h, _ => by
    have e : l = [] := List.length_eq_zero_iff.mp h
    subst e
    exact ⟨Int.le_refl _, by show (0 : Int) < 1; decide⟩
  | n + 1, l, h, ha => by
    rcases List.eq_nil_or_concat l with e | ⟨r, c, e⟩
    · rw [e] at h
      cases h
    · rw [List.concat_eq_append] at e
      subst e
      rw [List.length_append] at h
      rw [List.all_append, Bool.and_eq_true] at ha
      have hr := val_bound n r (by simp only [List.length_cons, List.length_nil] at h; omega) ha.1
      have hc : isFig c = true := by simpa using ha.2
      unfold isFig at hc
      rw [Bool.and_eq_true, decide_eq_true_eq, decide_eq_true_eq] at hc
      rw [val_snoc, Int.pow_succ]
      omega
theorem val_digits {l : List Nat} (h : l.all isFig = true) : val l = ((NumText.digitsVal l : Nat) : Int) := by
  have key : ∀ (l : List Nat) (a : Nat), l.all isFig = true → l.foldl dstep (a : Int) = ((l.foldl (fun acc c => acc * 10 + (c - 48)) a : Nat) : Int) := by
    intro l
    induction l with
    | nil =>
      intro a _
      rfl
    | cons c r ih =>
      intro a h
      rw [List.all_cons, Bool.and_eq_true] at h
      have hc := h.1
      unfold isFig at hc
      rw [Bool.and_eq_true, decide_eq_true_eq, decide_eq_true_eq] at hc
      rw [List.foldl_cons, List.foldl_cons, ← ih _ h.2]
      congr 1
      unfold dstep
      omega
  exact key l 0 h
theorem find_fig {c : Nat} (h : isFig c = true) : Txt.find (SX.S figs) (SX.S [c]) = (c : Int) - 48 := by
  unfold isFig at h
  rw [Bool.and_eq_true, decide_eq_true_eq, decide_eq_true_eq] at h
  rcases (by omega : c = 48 ∨ c = 49 ∨ c = 50 ∨ c = 51 ∨ c = 52 ∨ c = 53 ∨ c = 54 ∨ c = 55 ∨ c = 56 ∨ c = 57) with rfl | rfl | rfl | rfl | rfl | rfl | rfl | rfl | rfl | rfl <;> decide +kernel
theorem len_S (l : List Nat) : (SX.S l).length = l.length := SX.S_len l

/-- a value of another type -/
def IsA (K : PySem.W.Frag) (H : Hp) (v : V) (t : String) (b : Bool) : Prop := ∃ u, TyX K H v u ∧ PySem.W.kitOne K u (.type t) = some b

/-! ### plain -/
def tail3 (r : Nat) : List Nat := if r % 100 = 0 then [48 + r / 100] else if r % 10 = 0 then [48 + r / 100, 48 + r / 10 % 10] else [48 + r / 100, 48 + r / 10 % 10, 48 + r % 10]
def written (n : Nat) : List Nat := if n % 1000 = 0 then TL.numL (n / 1000) else TL.numL (n / 1000) ++ [46] ++ tail3 (n % 1000)
theorem str_num (n : Nat) : Str.ofString (toString ((n : Nat) : Int)) = SX.S (TL.numL n) := (SX.S_tl _).symm.trans (congrArg SX.S (TL.tl_num n))
theorem pad_all : ∀ r : Fin 1000, (decide (r.val = 0) || decide ((Txt.rstripChars (Txt.zfill (SX.S (TL.numL r.val)) 3) (SX.S [48])).cps.toList = tail3 r.val)) = true := by decide +kernel
theorem pad_tail {r : Nat} (h0 : r ≠ 0) (h1 : r < 1000) : Txt.rstripChars (Txt.zfill (SX.S (TL.numL r)) 3) (SX.S [48]) = SX.S (tail3 r) := by
  have h := pad_all ⟨r, h1⟩
  rw [Bool.or_eq_true, decide_eq_true_eq, decide_eq_true_eq] at h
  rcases h with h | h
  · exact absurd h h0
  · exact (SX.S_tl _).symm.trans (congrArg SX.S h)
theorem tail_all : ∀ r : Fin 1000, (decide (r.val = 0) || ((tail3 r.val).all isFig && (decide (1 ≤ (tail3 r.val).length) && (decide ((tail3 r.val).length ≤ 3) && (decide ((tail3 r.val).getLast? ≠ some 48) && decide (val ((tail3 r.val ++ [48, 48]).take 3) = (r.val : Int))))))) = true := by decide +kernel
theorem tail_facts {r : Nat} (h0 : r ≠ 0) (h1 : r < 1000) : (tail3 r).all isFig = true ∧ 1 ≤ (tail3 r).length ∧ (tail3 r).length ≤ 3 ∧ (tail3 r).getLast? ≠ some 48 ∧ val ((tail3 r ++ [48, 48]).take 3) = (r : Int) := by
  have h := tail_all ⟨r, h1⟩
  simp only [Bool.or_eq_true, Bool.and_eq_true, decide_eq_true_eq] at h
  rcases h with h | h
  · exact absurd h h0
  · exact h
theorem zfill_all : ∀ r : Fin 1000, decide ((Txt.zfill (SX.S (TL.numL r.val)) 3).length ≤ 3) = true := by decide +kernel
theorem zfill_len {r : Nat} (h : r < 1000) : (Txt.zfill (SX.S (TL.numL r)) 3).length ≤ 3 := of_decide_eq_true (zfill_all ⟨r, h⟩)
theorem numL_fig (n : Nat) : (TL.numL n).all isFig = true := by
  rw [List.all_eq_true]
  intro c hc
  have h := TL.numL_digits n c hc
  unfold isFig
  rw [Bool.and_eq_true, decide_eq_true_eq, decide_eq_true_eq]
  omega
theorem numL_valI (n : Nat) : val (TL.numL n) = (n : Int) := by
  rw [val_digits (numL_fig n), TL.numL_val]
theorem numL_head : ∀ n : Nat, n ≠ 0 → ∃ c r, TL.numL n = c :: r ∧ c ≠ 48 := by
  intro n
  induction n using Nat.strongRecOn with
  | _ n ih =>
    intro h0
    by_cases h : n < 10
    · exact ⟨48 + n, [], TL.numL_lt h, by omega⟩
    · obtain ⟨c, r, e, hc⟩ := ih (n / 10) (by omega) (by omega)
      exact ⟨c, r ++ [48 + n % 10], by rw [TL.numL_step (by omega), e]; rfl, hc⟩
theorem part_w (n : Nat) : ∃ pt rs : List Nat, Txt.partition (SX.S (written n)) "." = (SX.S (TL.numL (n / 1000)), SX.S pt, SX.S rs) ∧ ((n % 1000 = 0 ∧ pt = [] ∧ rs = []) ∨ (n % 1000 ≠ 0 ∧ pt = [46] ∧ rs = tail3 (n % 1000))) := by
  have hd : (("." : Str)) = SX.S [46] := by decide +kernel
  have hf : 46 ∉ TL.numL (n / 1000) := TL.numL_free (.inl (by decide))
  rw [hd]
  unfold written
  by_cases h : n % 1000 = 0
  · rw [if_pos h]
    exact ⟨[], [], SX.partition_none (by decide) (SX.par_head_none hf), .inl ⟨h, rfl, rfl⟩⟩
  · rw [if_neg h]
    refine ⟨[46], tail3 (n % 1000), SX.partition_some (by decide) ?_, .inr ⟨h, rfl, rfl⟩⟩
    rw [List.append_assoc]
    exact SX.par_head _ hf
theorem written_len {n : Nat} (h : n ≤ 1000000000) : (written n).length ≤ 12 := by
  have h1 := TL.numL_len (n := n / 1000) (k := 8) (by decide) (by show n / 1000 < 100000000; omega)
  have h2 : (tail3 (n % 1000)).length ≤ 3 := by
    unfold tail3
    split
    · exact (by decide : 1 ≤ 3)
    · split
      · exact (by decide : 2 ≤ 3)
      · exact (by decide : 3 ≤ 3)
  unfold written
  split
  · omega
  · rw [List.length_append, List.length_append]
    show (TL.numL (n / 1000)).length + 1 + _ ≤ 12
    omega
def TimeSays (K : PySem.W.Frag) (H : Hp) (v : V) (b : Bool) : Prop := (∃ n : Int, v = .int n ∧ b = decide (0 ≤ n ∧ n ≤ 1000000000)) ∨ (∃ t, v = .bl t ∧ b = false) ∨ (IsA K H v "int" false ∧ b = false)
def spTime (K : PySem.W.Frag) : Sp := fun vs H Q _ => ∃ (v : V) (b : Bool), vs = [v] ∧ TimeSays K H v b ∧ Q (.bl b) H
theorem ok_is_time (T : Txt K mg) : ∃ fd, FnOk P w K mg base CX0 1 (He.fAd K ("is_time", none)) fd ["thing"] (spTime K) ∧ FunD K "is_time" "is_time" (defArgs s_is_time) (defBody s_is_time) (defScope s_is_time) [] [] (He.fAd K ("is_time", none)) fd := by
  obtain ⟨fd, F⟩ := T.c.def_ 0 (d := d_is_time) rfl
  obtain ⟨t_MOST, g_MOST⟩ := int_MOST T
  refine ⟨fd, F.ok sc_is_time (by walk_at "g94len") (fun cdv A outer st H vs Q E hr h => ?_), F⟩
  · obtain ⟨v, b, rfl, hs, k⟩ := h
    refine ⟨_, PSs.nox (pss_one (ps_ret (pe_and (pe_callB call_isi (by rfl) (free_isinstance T) (by decide +kernel) (pa_cons (pv 0) (pa_cons (pe_bltn (v := .ty "int") (by rfl) (free_int T) (by decide +kernel) rfl) pa_nil))) (pe_and (pe_not (pe_callB call_isi (by rfl) (free_isinstance T) (by decide +kernel) (pa_cons (pv 0) (pa_cons (pe_bltn (v := .ty "bool") (by rfl) (free_bool T) (by decide +kernel) rfl) pa_nil)))) (pe_one (pe_chain op_le op_le pe_int (pv 0) (pe_glob (v := .int 1000000000) rfl g_MOST ⟨_, rfl⟩))))))), ?_⟩
    rcases hs with ⟨n, rfl, rfl⟩ | ⟨t, rfl, rfl⟩ | ⟨⟨u, h1, h2⟩, rfl⟩
    · walk_at "rds"
      walk_at "ri" <;> intro c1
      · walk_at "rds"
        rw [show decide (0 ≤ n ∧ n ≤ 1000000000) = decide (n ≤ 1000000000) from decide_eq_decide.mpr ⟨fun q => q.2, fun q => ⟨c1, q⟩⟩] at k
        exact k
      · rw [decide_eq_false (fun q : 0 ≤ n ∧ n ≤ 1000000000 => c1 q.1)] at k
        exact k
    · walk_at "rds"
      exact k
    · refine ⟨_, rfl, _, _, _, _, false, rfl, .ty _, h1, h2, ?_⟩
      walk_at "rds"
      exact k

theorem lg {n : Nat} (h : n < 2 ^ 64) : ((n : Nat) : Int).natAbs.log2 < 1920 := Nat.lt_of_lt_of_le (PySem.Flt.log2_lt_of (k := 64) (by decide) (by omega)) (by decide)
def spText (K : PySem.W.Frag) : Sp := fun vs H Q E => ∃ v : V, vs = [v] ∧ ((∃ n : Nat, v = .int n ∧ n ≤ 1000000000 ∧ ∀ H' : Hp, Same H H' → Q (.str (SX.S (written n))) H') ∨ (TimeSays K H v false ∧ E (.ref (He.ga K "NoTime")) none H))
theorem ok_time_text (T : Txt K mg) : ∃ fd, FnOk P w K mg base (L2.CX P w) 2 (He.fAd K ("time_text", none)) fd ["ticks"] (spText K) ∧ FunD K "time_text" "time_text" (defArgs s_time_text) (defBody s_time_text) (defScope s_time_text) [] [] (He.fAd K ("time_text", none)) fd := by
  obtain ⟨fd, F⟩ := T.c.def_ 1 (d := d_time_text) rfl
  obtain ⟨fd_is_time, G_is_time, F_is_time⟩ := ok_is_time (P := P) (w := w) (base := base) T
  have kp_is_time := F_is_time.kp
  have b_is_time : Binds K fd_is_time ["thing"] [] := FunD.bindsN F_is_time (fun _ _ _ _ _ _ us hl => match us, hl with | [_], _ => rfl)
  refine ⟨fd, F.ok sc_time_text (by walk_at "g94len") (fun cdv A outer st H vs Q E hr h => ?_), F⟩
  · obtain ⟨v, rfl, hs⟩ := h
    refine ⟨_, (pss_cons (ps_if (pt_not (pt_val (pe_call G_is_time (hr.mono (by decide)) rfl (glo_is_time T) kp_is_time b_is_time .nil pass0 (pa_cons (pv 0) pa_nil)))) (pss_one (ps_raise rfl (takes_of rfl rfl rfl rfl) (pmk_own PySem.F.excBase_ValueError (exc_NoTime T).1 (glo_NoTime T) (exc_NoTime T).2.1 (raises_own (exc_NoTime T).2.2.1 (exc_NoTime T).2.2.2) rfl))) pss_nil)
        (pss_cons (ps_asg (pe_callB call_divmod (by rfl) (free_divmod T) (by decide +kernel) (pa_cons (pv 0) (pa_cons pe_int pa_nil))) (pg_tup rfl (pgs_cons (pg_name (i := 1) sc_time_text.nd rfl (Or.inl rfl)) (pgs_cons (pg_name (i := 2) sc_time_text.nd rfl (Or.inl rfl)) pgs_nil))))
        (pss_cons (ps_if (pt_cmpR op_eq (pv 2) pe_int (nomark _)) (pss_one (ps_ret (pe_callTy call_str_int (by rfl) (free_str T) (by decide +kernel) (pa_cons (pv 1) pa_nil)))) pss_nil)
        (pss_one (ps_ret (pe_op op_add_str (pe_op op_add_str (pe_callTy call_str_int (by rfl) (free_str T) (by decide +kernel) (pa_cons (pv 1) pa_nil)) pe_str) (pe_m1 PySem.F.slot_str_rstrip PySem.F.type_str_rstrip mt_rstripChars (pe_m1 PySem.F.slot_str_zfill PySem.F.type_str_zfill mt_zfill (pe_callTy call_str_int (by rfl) (free_str T) (by decide +kernel) (pa_cons (pv 2) pa_nil)) pe_int) pe_str))))))), ?_⟩
    rcases hs with ⟨n, rfl, hn, k⟩ | ⟨ht, k⟩
    · refine ⟨_, rfl, _, _, rfl, .inl ⟨n, rfl, rfl⟩, ?_⟩
      rw [decide_eq_true (show (0 : Int) ≤ n ∧ (n : Int) ≤ 1000000000 by omega)]
      walk_at "rds"
      rw [show (n : Int) / 1000 = ((n / 1000 : Nat) : Int) by omega, show (n : Int) % 1000 = ((n % 1000 : Nat) : Int) by omega]
      intro p hp
      refine ⟨p, _, rfl, .of upd_same, rfl, ?_⟩
      have s1 := (Same.refl H).new (o := HO.tup [V.int ((n / 1000 : Nat) : Int), V.int ((n % 1000 : Nat) : Int)]) hp
      have hw := k _ s1
      unfold written at hw
      walk_at "rds"
      walk_at "ri" <;> intro c1
      · rw [if_pos (by omega)] at hw
        refine ⟨_, rfl, _, rfl, lg (by omega), ?_⟩
        rw [str_num]
        exact hw
      · rw [if_neg (by omega)] at hw
        refine ⟨_, rfl, _, rfl, lg (by omega), ?_⟩
        rw [str_num]
        refine ⟨_, _, rfl, rfl, ?_, ?_⟩
        · rw [len_S]
          have := TL.numL_len (n := n / 1000) (k := 8) (by decide) (by show n / 1000 < 100000000; omega)
          exact small_size (show (TL.numL (n / 1000)).length + 1 ≤ 100000 by omega)
        refine ⟨_, rfl, _, rfl, lg (by omega), ?_⟩
        rw [str_num]
        refine ⟨⟨_, rfl⟩, _, _, rfl, rfl, by decide +kernel, ⟨_, rfl⟩, _, _, rfl, rfl, ?_, ?_⟩
        · exact small_size (Nat.le_trans (zfill_len (by omega)) (by decide))
        rw [show (("0" : Str)) = SX.S [48] by decide +kernel, pad_tail (by omega) (by omega), show (("." : Str)) = SX.S [46] by decide +kernel, SX.S_cat]
        refine ⟨_, _, rfl, rfl, ?_, ?_⟩
        · have h1 := TL.numL_len (n := n / 1000) (k := 8) (by decide) (by show n / 1000 < 100000000; omega)
          have h2 := (tail_facts (r := n % 1000) (by omega) (by omega)).2.2.1
          rw [len_S, len_S, List.length_append]
          exact small_size (show (TL.numL (n / 1000)).length + 1 + (tail3 (n % 1000)).length ≤ 100000 by omega)
        rw [SX.S_cat]
        exact hw
    · refine ⟨_, rfl, v, _, rfl, ht, ?_⟩
      walk_at "rds"
      exact k
def spBy : Sp := fun vs H Q _ => ∃ c : Int, vs = [.int c] ∧ ∀ (r : Nat) (H' : Hp), r ≤ 1000000000 → Same H H' → Q (.int r) H'
theorem ok_l_time_by (T : Txt K mg) : ∃ fd, FnOk P w K mg base CX0 1 (He.fAd K ("_law_time_by", none)) fd ["_law_cell"] spBy ∧ FunD K "_law_time_by" "_law_time_by" (defArgs s_l_time_by) (defBody s_l_time_by) (defScope s_l_time_by) [] [] (He.fAd K ("_law_time_by", none)) fd := by
  obtain ⟨fd, F⟩ := T.c.def_ 3 (d := d_l_time_by) rfl
  refine ⟨fd, F.ok sc_l_time_by (by walk_at "g94len") (fun cdv A outer st H vs Q E hr h => ?_), F⟩
  · obtain ⟨c, rfl, k⟩ := h
    refine ⟨_, PSs.nox (pss_cons (ps_set (i := 1) sc_l_time_by.nd rfl (Or.inl rfl) (pe_op op_fdiv (pv 0) pe_int))
        (pss_cons (ps_if (pt_cmpR op_eq (pe_op op_mod (pv 0) pe_int) pe_int (nomark _)) (pss_one (ps_ret (pe_op op_mod (pv 1) (pe_op op_add (pe_powC (v := 1000000000) (by rfl) (by decide +kernel)) pe_int)))) pss_nil)
        (pss_cons (ps_if (pt_cmpR op_eq (pe_op op_mod (pv 0) pe_int) pe_int (nomark _)) (pss_one (ps_ret (pe_op op_mul (pe_op op_mod (pv 1) (pe_op op_add (pe_powC (v := 1000000) (by rfl) (by decide +kernel)) pe_int)) pe_int))) pss_nil)
        (pss_cons (ps_if (pt_cmpR op_eq (pe_op op_mod (pv 0) pe_int) pe_int (nomark _)) (pss_one (ps_ret (pe_op op_mul (pe_op op_mod (pe_op op_fdiv (pv 1) pe_int) (pe_op op_add (pe_powC (v := 10000000) (by rfl) (by decide +kernel)) pe_int)) (pe_ix ix_list (pe_lst (pa_cons pe_int (pa_cons pe_int pa_nil))) (pe_op op_mod (pv 1) pe_int) (fun _ _ => rfl))))) pss_nil)
        (pss_one (ps_ret (pe_op op_mod (pv 1) pe_int))))))), ?_⟩
    have kk : ∀ (z : Int) (H' : Hp), 0 ≤ z → z ≤ 1000000000 → Same H H' → Q (.int z) H' := fun z H' h0 h1 s => by
      obtain ⟨r, rfl⟩ := Int.eq_ofNat_of_zero_le h0
      exact k r H' (by omega) s
    walk_at "rds"
    walk_at "ri" <;> intro c1
    · walk_at "rds"
      exact kk _ _ (by omega) (by omega) (.refl H)
    walk_at "rds"
    walk_at "ri" <;> intro c2
    · walk_at "rds"
      exact kk _ _ (by omega) (by omega) (.refl H)
    walk_at "rds"
    walk_at "ri" <;> intro c3
    · walk_at "rds"
      intro p hp
      obtain ⟨m, hm, hmv⟩ := at2 (a := 100) (b := 10) (k := c / 4 % 2) (by omega) (by omega)
      walk_at "rds"
      refine ⟨p, _, _, _, rfl, rfl, .of upd_same, hm, ?_⟩
      rcases hmv with ⟨_, rfl⟩ | ⟨_, rfl⟩
      · walk_at "rds"
        exact kk _ _ (by omega) (by omega) ((Same.refl H).new hp)
      · walk_at "rds"
        exact kk _ _ (by omega) (by omega) ((Same.refl H).new hp)
    · walk_at "rds"
      exact kk _ _ (by omega) (by omega) (.refl H)
def spNumber : Sp := fun vs H Q _ => ∃ l : List Nat, vs = [.str (SX.S l)] ∧ l.length ≤ 100 ∧ l.all isFig = true ∧ Q (.int (val l)) H
theorem ok_l_number (T : Txt K mg) : ∃ fd, FnOk P w K mg base CX0 1 (He.fAd K ("_law_number", none)) fd ["_law_figures"] spNumber ∧ FunD K "_law_number" "_law_number" (defArgs s_l_number) (defBody s_l_number) (defScope s_l_number) [] [] (He.fAd K ("_law_number", none)) fd := by
  obtain ⟨fd, F⟩ := T.c.def_ 4 (d := d_l_number) rfl
  refine ⟨fd, F.ok sc_l_number (by walk_at "g94len") (fun cdv A outer st H vs Q E hr h => ?_), F⟩
  · obtain ⟨l, rfl, hlen, ha, k⟩ := h
    refine ⟨_, PSs.nox (pss_cons (ps_set (i := 1) sc_l_number.nd rfl (Or.inl rfl) pe_int)
        (pss_cons (ps_for PassesOwn.never rfl (pi_str (pv 0)) (pg_name (i := 2) sc_l_number.nd rfl (Or.inl rfl)) (pss_cons (ps_set (i := 3) sc_l_number.nd rfl (Or.inl rfl) (pe_m1 PySem.F.slot_str_find PySem.F.type_str_find mt_find pe_str (pv 2)))
        (pss_cons (ps_if (pt_cmpR op_lt (pv 3) pe_int (nomark _)) (pss_one (ps_ret pe_non)) pss_nil)
        (pss_one (ps_set (i := 1) sc_l_number.nd rfl (Or.inl rfl) (pe_op op_add (pe_op op_mul pe_int (pv 1)) (pv 3)))))))
        (pss_one (ps_ret (pv 1))))), ?_⟩
    refine ⟨_, rfl, _, rfl, for_text (l := l) (fun i σ' H2 => ∃ v u, σ' = [some (.str (SX.S l)), some (.int (val (l.take i))), v, u] ∧ H2 = H) ⟨_, _, rfl, rfl⟩ ?_ ?_⟩
    · rintro i c σ' H2 hc ⟨v, u, rfl, rfl⟩
      have hf : isFig c = true := List.all_eq_true.mp ha c (List.mem_of_getElem? hc)
      have hb := val_bound _ (l.take i) rfl (List.all_eq_true.mpr fun c hc => List.all_eq_true.mp ha c (List.mem_of_mem_take hc))
      have hf2 := hf
      unfold isFig at hf2
      rw [Bool.and_eq_true, decide_eq_true_eq, decide_eq_true_eq] at hf2
      refine ⟨⟨_, rfl⟩, _, rfl, _, _, rfl, rfl, ?_⟩
      rw [figs_eq, show (⟨#[c]⟩ : Str) = SX.S [c] from rfl, find_fig hf]
      walk_at "rds"
      refine iteDF (by omega) ?_
      refine ⟨_, rfl, _, _, rfl, rfl, .inl ⟨by decide, by decide⟩, _, rfl, _, _, rfl, rfl, some (V.str (SX.S [c])), some (V.int ((c : Int) - 48)), ?_, rfl⟩
      rw [show val (l.take (i + 1)) = 10 * val (l.take i) + ((c : Int) - 48) by
        rw [List.take_add_one, hc]
        exact val_snoc _ _]
      rfl
    rintro σ' H2 ⟨v, u, rfl, rfl⟩
    rw [List.take_length]
    exact ⟨_, rfl, k⟩
theorem atI_last {l : List Nat} {x : Nat} (h : l.getLast? = some x) : atI l (-1) = some x := by
  have h0 : l ≠ [] := fun e => by rw [e] at h; cases h
  have h1 : 0 < l.length := List.length_pos_iff.mpr h0
  unfold atI ixN
  rw [if_neg (by decide), if_pos (by omega), Option.bind_some]
  rw [show ((-1 : Int) + (l.length : Int)).toNat = l.length - 1 by omega, ← List.getLast?_eq_getElem?]
  exact h
def spTicks : Sp := fun vs H Q _ => ∃ n : Nat, vs = [.str (SX.S (written n))] ∧ n ≤ 1000000000 ∧ ∀ H' : Hp, Same H H' → Q (.int n) H'
theorem ok_l_ticks (T : Txt K mg) : ∃ fd, FnOk P w K mg base CX0 2 (He.fAd K ("_law_ticks", none)) fd ["_law_text"] spTicks ∧ FunD K "_law_ticks" "_law_ticks" (defArgs s_l_ticks) (defBody s_l_ticks) (defScope s_l_ticks) [] [] (He.fAd K ("_law_ticks", none)) fd := by
  obtain ⟨fd, F⟩ := T.c.def_ 5 (d := d_l_ticks) rfl
  obtain ⟨fd_l_number, G_l_number, F_l_number⟩ := ok_l_number (P := P) (w := w) (base := base) T
  have kp_l_number := F_l_number.kp
  have b_l_number : Binds K fd_l_number ["_law_figures"] [] := FunD.bindsN F_l_number (fun _ _ _ _ _ _ us hl => match us, hl with | [_], _ => rfl)
  refine ⟨fd, F.ok sc_l_ticks (by walk_at "g94len") (fun cdv A outer st H vs Q E hr h => ?_), F⟩
  · obtain ⟨n, rfl, hn, k⟩ := h
    refine ⟨_, PSs.nox (pss_cons (ps_asg (pe_partition (pv 0) pe_str) (pg_tup rfl (pgs_cons (pg_name (i := 1) sc_l_ticks.nd rfl (Or.inl rfl)) (pgs_cons (pg_name (i := 2) sc_l_ticks.nd rfl (Or.inl rfl)) (pgs_cons (pg_name (i := 3) sc_l_ticks.nd rfl (Or.inl rfl)) pgs_nil)))))
        (C8.pss_cut (ps_if (PW.pt (pw_or (pt_cmpR op_eq (pv 1) pe_str (nomark _)) (pw_or (PW.pt (pw_and (pt_cmpR op_ne (pv 1) pe_str (nomark _)) (pw_and1 (pt_cmpR op_eq (pe_ix ix_str (pv 1) pe_int (fun _ _ => rfl)) pe_str (nomark _))))) (pw_or1 (pt_cmpR op_isN (pe_call G_l_number (hr.mono (by decide)) rfl (glo__law_number T) kp_l_number b_l_number .nil pass0 (pa_cons (pv 1) pa_nil)) pe_non (nomark _)))))) (pss_one (ps_ret pe_non)) pss_nil)
        (pss_cons (ps_if (pt_cmpR op_eq (pv 2) pe_str (nomark _)) (pss_one (ps_ret (pe_op op_mul pe_int (pe_call G_l_number (hr.mono (by decide)) rfl (glo__law_number T) kp_l_number b_l_number .nil pass0 (pa_cons (pv 1) pa_nil))))) pss_nil)
        (C8.pss_cut (ps_if (PW.pt (pw_or (pt_cmpR op_eq (pv 3) pe_str (nomark _)) (pw_or (pt_cmpR op_gt (pe_callB call_len_str (by rfl) (free_len T) (by decide +kernel) (pa_cons (pv 3) pa_nil)) pe_int (nomark _)) (pw_or (pt_cmpR op_eq (pe_ix ix_str (pv 3) pe_negC (fun _ _ => rfl)) pe_str (nomark _)) (pw_or1 (pt_cmpR op_isN (pe_call G_l_number (hr.mono (by decide)) rfl (glo__law_number T) kp_l_number b_l_number .nil pass0 (pa_cons (pv 3) pa_nil)) pe_non (nomark _))))))) (pss_one (ps_ret pe_non)) pss_nil)
        (pss_one (ps_ret (pe_op op_add (pe_op op_mul pe_int (pe_call G_l_number (hr.mono (by decide)) rfl (glo__law_number T) kp_l_number b_l_number .nil pass0 (pa_cons (pv 1) pa_nil))) (pe_call G_l_number (hr.mono (by decide)) rfl (glo__law_number T) kp_l_number b_l_number .nil pass0 (pa_cons (pe_slice C8.sl_txt (pe_op op_add_str (pv 3) pe_str) po_none (po_some pe_int)) pa_nil))))))))), ?_⟩
    have hl1 := TL.numL_len (n := n / 1000) (k := 8) (by decide) (by show n / 1000 < 100000000; omega)
    have hwl := written_len hn
    have ha := numL_fig (n / 1000)
    have hne := TL.numL_ne (n / 1000)
    have hval := numL_valI (n / 1000)
    obtain ⟨pt, rs, hpart, hcase⟩ := part_w n
    generalize hA : TL.numL (n / 1000) = a at hl1 ha hne hval hpart
    refine ⟨_, rfl, ⟨_, rfl⟩, _, _, rfl, rfl, by decide +kernel, by rw [len_S]; exact small_size (by omega), ?_⟩
    rw [hpart]
    intro p hp
    have s1 := (Same.refl H).new (o := HO.tup [V.str (SX.S a), V.str (SX.S pt), V.str (SX.S rs)]) hp
    have q1 : upd H p (HO.tup [V.str (SX.S a), V.str (SX.S pt), V.str (SX.S rs)]) p = some (HO.tup [V.str (SX.S a), V.str (SX.S pt), V.str (SX.S rs)]) := upd_same
    generalize upd H p (HO.tup [V.str (SX.S a), V.str (SX.S pt), V.str (SX.S rs)]) = H1 at s1 q1 ⊢
    refine ⟨p, _, rfl, .of q1, rfl, _, _, rfl, _, _, rfl, _, _, rfl, rfl, ?_⟩
    refine ⟨fun σ' H' => σ' = [some (.str (SX.S (written n))), some (.str (SX.S a)), some (.str (SX.S pt)), some (.str (SX.S rs))] ∧ H' = H1, ?_, ?_⟩
    · walk_at "rds"
      refine iteS (b := []) (by decide +kernel) (fun e => absurd e hne) (fun _ => ?_)
      walk_at "rds"
      refine iteNSt (b := [48]) (by decide +kernel) (fun h0 => ?_) (fun _ => ?_)
      · obtain ⟨c, r, e, hc⟩ := numL_head (n / 1000) (fun e => h0 (by rw [← hA, e]; rfl))
        rw [hA] at e
        subst e
        refine ⟨_, rfl, _, 0, c, rfl, rfl, by rw [len_S]; exact small_size (by omega), atI_head _ _, rfl, _, rfl, ?_⟩
        refine iteS (a := [c]) (b := [48]) (by decide +kernel) (fun e1 => absurd (List.cons.inj e1).1 hc) (fun _ => ?_)
        walk_at "rds"
        rfl
      · walk_at "rds"
        rfl
    rintro σ' H' ⟨rfl, rfl⟩
    walk_at "rds"
    rcases hcase with ⟨h0, rfl, rfl⟩ | ⟨h0, rfl, rfl⟩
    · refine iteS (b := []) (by decide +kernel) (fun _ => ?_) (fun e => absurd rfl e)
      walk_at "rds"
      have hk := k _ s1
      rw [show (n : Int) = 1000 * ((n / 1000 : Nat) : Int) by omega, ← hval] at hk
      exact hk
    refine iteS (b := []) (by decide +kernel) (fun e => by cases e) (fun _ => ?_)
    obtain ⟨r1, r2, r3, r4, r5⟩ := tail_facts (r := n % 1000) h0 (by omega)
    generalize tail3 (n % 1000) = rs at r1 r2 r3 r4 r5 ⊢
    have hrs : (SX.S rs).length ≤ sizeLine := by
      rw [len_S]
      exact small_size (by omega)
    refine ⟨fun σ' H2 => σ' = [some (.str (SX.S (written n))), some (.str (SX.S a)), some (.str (SX.S [46])), some (.str (SX.S rs))] ∧ H2 = H', ?_, ?_⟩
    · walk_at "rds"
      refine iteS (b := []) (by decide +kernel) (fun e => by rw [e] at r2; cases r2) (fun _ => ?_)
      walk_at "rds"
      refine iteDF (by rw [len_S]; omega) ?_
      obtain ⟨c, hc⟩ : ∃ c, rs.getLast? = some c := by
        cases e : rs.getLast? with
        | none =>
          rw [List.getLast?_eq_none_iff.mp e] at r2
          cases r2
        | some c => exact ⟨c, rfl⟩
      refine ⟨_, rfl, _, -1, c, rfl, rfl, hrs, atI_last hc, rfl, _, rfl, ?_⟩
      refine iteS (a := [c]) (b := [48]) (by decide +kernel) (fun e1 => absurd (by rw [hc, (List.cons.inj e1).1]) r4) (fun _ => ?_)
      walk_at "rds"
      rfl
    rintro σ' H2 ⟨rfl, rfl⟩
    walk_at "rds"
    have hk := k _ s1
    rw [show (n : Int) = 1000 * ((n / 1000 : Nat) : Int) + ((n % 1000 : Nat) : Int) by omega, ← hval, ← r5] at hk
    rw [show (("00" : Str)) = SX.S [48, 48] by decide +kernel]
    refine ⟨by rw [len_S, len_S]; exact small_size (show rs.length + 2 ≤ 100000 by omega), ?_⟩
    rw [SX.S_cat]
    refine ⟨_, rfl, SX.S _, rfl, by rw [len_S, List.length_append]; exact small_size (show rs.length + 2 ≤ 100000 by omega), ?_⟩
    rw [SX.slice_to (by decide)]
    refine ⟨_, rfl, ?_, ?_, ?_⟩
    · rw [List.length_take]
      exact Nat.le_trans (Nat.min_le_left _ _) (by decide)
    · rw [List.all_eq_true]
      intro c hc
      rcases List.mem_append.mp (List.mem_of_mem_take hc) with hc | hc
      · exact List.all_eq_true.mp r1 c hc
      · simp only [List.mem_cons, List.not_mem_nil, or_false] at hc
        rcases hc with rfl | rfl <;> decide
    walk_at "rds"
    exact hk
def spGood (K : PySem.W.Frag) : Sp := fun vs H Q _ => ∃ n : Nat, vs = [.int n] ∧ n ≤ 1000000000 ∧ ∀ H' : Hp, Same H H' → Q (.bl true) H'
theorem ok_l_good (T : Txt K mg) : ∃ fd, FnOk P w K mg base CX0 3 (He.fAd K ("_law_good", none)) fd ["_law_ticks_here"] (spGood K) ∧ FunD K "_law_good" "_law_good" (defArgs s_l_good) (defBody s_l_good) (defScope s_l_good) [] [] (He.fAd K ("_law_good", none)) fd := by
  obtain ⟨fd, F⟩ := T.c.def_ 7 (d := d_l_good) rfl
  obtain ⟨fd_time_text, G_time_text, F_time_text⟩ := ok_time_text (P := P) (w := w) (base := base) T
  have kp_time_text := F_time_text.kp
  have b_time_text : Binds K fd_time_text ["ticks"] [] := FunD.bindsN F_time_text (fun _ _ _ _ _ _ us hl => match us, hl with | [_], _ => rfl)
  obtain ⟨fd_is_time, G_is_time, F_is_time⟩ := ok_is_time (P := P) (w := w) (base := base) T
  have kp_is_time := F_is_time.kp
  have b_is_time : Binds K fd_is_time ["thing"] [] := FunD.bindsN F_is_time (fun _ _ _ _ _ _ us hl => match us, hl with | [_], _ => rfl)
  obtain ⟨fd_l_ticks, G_l_ticks, F_l_ticks⟩ := ok_l_ticks (P := P) (w := w) (base := base) T
  have kp_l_ticks := F_l_ticks.kp
  have b_l_ticks : Binds K fd_l_ticks ["_law_text"] [] := FunD.bindsN F_l_ticks (fun _ _ _ _ _ _ us hl => match us, hl with | [_], _ => rfl)
  refine ⟨fd, F.ok sc_l_good (by walk_at "g94len") (fun cdv A outer st H vs Q E hr h => ?_), F⟩
  · obtain ⟨n, rfl, hn, k⟩ := h
    refine ⟨_, PSs.nox (pss_cons (ps_set (i := 1) sc_l_good.nd rfl (Or.inl rfl) (pe_call G_time_text (hr.mono (by decide)) rfl (glo_time_text T) kp_time_text b_time_text .nil (passes_call takes0 (fun _ _ _ _ h => h)) (pa_cons (pv 0) pa_nil)))
        (pss_one (ps_ret (pe_and (pe_cmpR op_is_bl (pe_call G_is_time (hr.mono (by decide)) rfl (glo_is_time T) kp_is_time b_is_time .nil pass0 (pa_cons (pv 0) pa_nil)) pe_bl (nomark _)) (pe_and (pe_callB call_isi (by rfl) (free_isinstance T) (by decide +kernel) (pa_cons (pv 1) (pa_cons (pe_bltn (v := .ty "str") (by rfl) (free_str T) (by decide +kernel) rfl) pa_nil))) (pe_one (pe_cmpR op_eq (pe_call G_l_ticks (hr.mono (by decide)) rfl (glo__law_ticks T) kp_l_ticks b_l_ticks .nil pass0 (pa_cons (pv 1) pa_nil)) (pv 0) (nomark _)))))))), ?_⟩
    refine ⟨_, rfl, _, rfl, .inl ⟨n, rfl, hn, fun H1 s1 => ?_⟩⟩
    walk_at "rds"
    refine ⟨_, _, rfl, .inl ⟨n, rfl, rfl⟩, ?_⟩
    rw [decide_eq_true (show (0 : Int) ≤ n ∧ (n : Int) ≤ 1000000000 by omega)]
    walk_at "rds"
    intro H2 s2
    walk_at "rds"
    exact qT (Q := Q) rfl (k _ (s1.trans s2))
theorem dp_bls {K : PySem.W.Frag} {H : Hp} : ∀ bs : List Bool, DpAll K H (bs.map V.bl) (bs.map PyData.bool)
  | [] => .nil
  | b :: r => .cons (.bl b) (dp_bls r)
def spRefused (K : PySem.W.Frag) : Sp := fun vs H Q _ => ∃ v : V, vs = [v] ∧ (∀ H', Same H H' → TimeSays K H' v false) ∧ ∀ H' : Hp, Same H H' → Q (.bl true) H'
theorem ok_l_refused (T : Txt K mg) : ∃ fd, FnOk P w K mg base CX0 3 (He.fAd K ("_law_refused", none)) fd ["_law_thing"] (spRefused K) ∧ FunD K "_law_refused" "_law_refused" (defArgs s_l_refused) (defBody s_l_refused) (defScope s_l_refused) [] [] (He.fAd K ("_law_refused", none)) fd := by
  obtain ⟨fd, F⟩ := T.c.def_ 6 (d := d_l_refused) rfl
  obtain ⟨fd_time_text, G_time_text, F_time_text⟩ := ok_time_text (P := P) (w := w) (base := base) T
  have kp_time_text := F_time_text.kp
  have b_time_text : Binds K fd_time_text ["ticks"] [] := FunD.bindsN F_time_text (fun _ _ _ _ _ _ us hl => match us, hl with | [_], _ => rfl)
  refine ⟨fd, F.ok sc_l_refused (by walk_at "g94len") (fun cdv A outer st H vs Q E hr h => ?_), F⟩
  · obtain ⟨v, rfl, ht, k⟩ := h
    refine ⟨_, PSs.nox (pss_cons (ps_set (i := 1) sc_l_refused.nd rfl (Or.inl rfl) (pe_lst pa_nil))
        (pss_cons (ps_try_as (i := 2) rfl rfl sc_l_refused.nd rfl rfl ⟨rfl, by decide, .inl (glo_LampError T)⟩ takes0 (fun W pn xe tk _ => (pss_one (ps_expr (pe_callS G_time_text (hr.mono (by decide)) rfl (glo_time_text T) kp_time_text b_time_text (fun σ => passAt tk σ) (pa_cons (pv 0) pa_nil))))) (fun a oe cls d pn hz hf => (pss_cons (ps_set (i := 1) sc_l_refused.nd rfl (Or.inl rfl) (pe_lst (pa_cons (pe_callB (call_isX hz hf) (by rfl) (free_isinstance T) (by decide +kernel) (pa_cons (pv 2) (pa_cons (pe_bltn (v := .ty "ValueError") (by rfl) (free_ValueError T) (by decide +kernel) rfl) pa_nil))) (pa_cons (pe_callB (call_isX hz hf) (by rfl) (free_isinstance T) (by decide +kernel) (pa_cons (pv 2) (pa_cons (pe_glob (v := .ref (He.ga K "NoTime")) rfl (glo_NoTime T) rfl) pa_nil))) (pa_cons (pe_callB (call_isX hz hf) (by rfl) (free_isinstance T) (by decide +kernel) (pa_cons (pv 2) (pa_cons (pe_glob (v := .ref (He.ga K "NoText")) rfl (glo_NoText T) rfl) pa_nil))) pa_nil)))))
        (pss_cons (ps_set (i := 1) sc_l_refused.nd rfl (Or.inl rfl) (pe_op op_cat (pv 1) (pe_lst (pa_cons (pe_callB (call_isX hz hf) (by rfl) (free_isinstance T) (by decide +kernel) (pa_cons (pv 2) (pa_cons (pe_glob (v := .ref (He.ga K "NoWorth")) rfl (glo_NoWorth T) rfl) pa_nil))) (pa_cons (pe_callB (call_isX hz hf) (by rfl) (free_isinstance T) (by decide +kernel) (pa_cons (pv 2) (pa_cons (pe_glob (v := .ref (He.ga K "NoCue")) rfl (glo_NoCue T) rfl) pa_nil))) (pa_cons (pe_callB (call_isX hz hf) (by rfl) (free_isinstance T) (by decide +kernel) (pa_cons (pv 2) (pa_cons (pe_glob (v := .ref (He.ga K "NoSlot")) rfl (glo_NoSlot T) rfl) pa_nil))) (pa_cons (pe_callB (call_isX hz hf) (by rfl) (free_isinstance T) (by decide +kernel) (pa_cons (pv 2) (pa_cons (pe_glob (v := .ref (He.ga K "Late")) rfl (glo_Late T) rfl) pa_nil))) pa_nil)))))))
        (pss_cons (ps_set (i := 1) sc_l_refused.nd rfl (Or.inl rfl) (pe_op op_cat (pv 1) (pe_lst (pa_cons (pe_callB (call_isX hz hf) (by rfl) (free_isinstance T) (by decide +kernel) (pa_cons (pv 2) (pa_cons (pe_glob (v := .ref (He.ga K "NoPart")) rfl (glo_NoPart T) rfl) pa_nil))) (pa_cons (pe_callB (call_isX hz hf) (by rfl) (free_isinstance T) (by decide +kernel) (pa_cons (pv 2) (pa_cons (pe_glob (v := .ref (He.ga K "NoList")) rfl (glo_NoList T) rfl) pa_nil))) (pa_cons (pe_callB (call_isX hz hf) (by rfl) (free_isinstance T) (by decide +kernel) (pa_cons (pv 2) (pa_cons (pe_glob (v := .ref (He.ga K "NoName")) rfl (glo_NoName T) rfl) pa_nil))) (pa_cons (pe_callB (call_isX hz hf) (by rfl) (free_isinstance T) (by decide +kernel) (pa_cons (pv 2) (pa_cons (pe_glob (v := .ref (He.ga K "NoRow")) rfl (glo_NoRow T) rfl) pa_nil))) pa_nil)))))))
        (pss_one (ps_expr (show PE _ _ (tBM K _ _ _ _) from (pe_bm PySem.F.plainAttrs_list PySem.F.slot_list_append PySem.F.type_list_append mt_append (pv 1) (pa_cons (pe_callB (call_isX hz hf) (by rfl) (free_isinstance T) (by decide +kernel) (pa_cons (pv 2) (pa_cons (pe_glob (v := .ref (He.ga K "MovesBright")) rfl (glo_MovesBright T) rfl) pa_nil))) pa_nil))))))))))
        (pss_one (ps_ret (pe_cmpR (op_eqD hr.units) (pv 1) (pe_op op_cat (pe_lst (pa_cons pe_bl (pa_cons pe_bl pa_nil))) (pe_op op_rep (pe_lst (pa_cons pe_bl pa_nil)) pe_int)) (nomark _)))))), ?_⟩
    walk_at "rds"
    intro p hp
    have s1 := (Same.refl H).new (o := HO.lst []) hp
    have q1 : upd H p (HO.lst []) p = some (HO.lst []) := upd_same
    generalize upd H p (HO.lst []) = H1 at s1 q1 ⊢
    refine ⟨_, rfl, v, rfl, .inr ⟨ht _ s1, true, exm_NoTime_LampError T, fun _ a ha => ?_, fun q => nomatch q⟩⟩
    (repeat first | (refine ⟨_, rfl, _, rfl, rfl, excC_NoTime T, _, _, _, rfl, (fun _ h => h), is_NoTime_ValueError T, ?_⟩) | (refine ⟨_, rfl, _, rfl, rfl, excC_NoTime T, _, _, _, rfl, (fun _ h => h), is_NoTime_NoTime T, ?_⟩) | (refine ⟨_, rfl, _, rfl, rfl, excC_NoTime T, _, _, _, rfl, (fun _ h => h), is_NoTime_NoText T, ?_⟩) | (refine ⟨_, rfl, _, rfl, rfl, excC_NoTime T, _, _, _, rfl, (fun _ h => h), is_NoTime_NoWorth T, ?_⟩) | (refine ⟨_, rfl, _, rfl, rfl, excC_NoTime T, _, _, _, rfl, (fun _ h => h), is_NoTime_NoCue T, ?_⟩) | (refine ⟨_, rfl, _, rfl, rfl, excC_NoTime T, _, _, _, rfl, (fun _ h => h), is_NoTime_NoSlot T, ?_⟩) | (refine ⟨_, rfl, _, rfl, rfl, excC_NoTime T, _, _, _, rfl, (fun _ h => h), is_NoTime_Late T, ?_⟩) | (refine ⟨_, rfl, _, rfl, rfl, excC_NoTime T, _, _, _, rfl, (fun _ h => h), is_NoTime_NoPart T, ?_⟩) | (refine ⟨_, rfl, _, rfl, rfl, excC_NoTime T, _, _, _, rfl, (fun _ h => h), is_NoTime_NoList T, ?_⟩) | (refine ⟨_, rfl, _, rfl, rfl, excC_NoTime T, _, _, _, rfl, (fun _ h => h), is_NoTime_NoName T, ?_⟩) | (refine ⟨_, rfl, _, rfl, rfl, excC_NoTime T, _, _, _, rfl, (fun _ h => h), is_NoTime_NoRow T, ?_⟩) | (refine ⟨_, rfl, _, rfl, rfl, excC_NoTime T, _, _, _, rfl, (fun _ h => h), is_NoTime_MovesBright T, ?_⟩) | (walk_at "rd"))
    intro p1 hp1
    have s2 := s1.new (o := HO.lst [V.bl true, V.bl true, V.bl false]) hp1
    have q2 : upd H1 p1 (HO.lst [V.bl true, V.bl true, V.bl false]) p1 = some (HO.lst [V.bl true, V.bl true, V.bl false]) := upd_same
    generalize hg2 : upd H1 p1 (HO.lst [V.bl true, V.bl true, V.bl false]) = H2 at s2 q2 ⊢
    (repeat first | (refine ⟨_, rfl, _, rfl, rfl, excC_NoTime T, _, _, _, rfl, (fun _ h => h), is_NoTime_ValueError T, ?_⟩) | (refine ⟨_, rfl, _, rfl, rfl, excC_NoTime T, _, _, _, rfl, (fun _ h => h), is_NoTime_NoTime T, ?_⟩) | (refine ⟨_, rfl, _, rfl, rfl, excC_NoTime T, _, _, _, rfl, (fun _ h => h), is_NoTime_NoText T, ?_⟩) | (refine ⟨_, rfl, _, rfl, rfl, excC_NoTime T, _, _, _, rfl, (fun _ h => h), is_NoTime_NoWorth T, ?_⟩) | (refine ⟨_, rfl, _, rfl, rfl, excC_NoTime T, _, _, _, rfl, (fun _ h => h), is_NoTime_NoCue T, ?_⟩) | (refine ⟨_, rfl, _, rfl, rfl, excC_NoTime T, _, _, _, rfl, (fun _ h => h), is_NoTime_NoSlot T, ?_⟩) | (refine ⟨_, rfl, _, rfl, rfl, excC_NoTime T, _, _, _, rfl, (fun _ h => h), is_NoTime_Late T, ?_⟩) | (refine ⟨_, rfl, _, rfl, rfl, excC_NoTime T, _, _, _, rfl, (fun _ h => h), is_NoTime_NoPart T, ?_⟩) | (refine ⟨_, rfl, _, rfl, rfl, excC_NoTime T, _, _, _, rfl, (fun _ h => h), is_NoTime_NoList T, ?_⟩) | (refine ⟨_, rfl, _, rfl, rfl, excC_NoTime T, _, _, _, rfl, (fun _ h => h), is_NoTime_NoName T, ?_⟩) | (refine ⟨_, rfl, _, rfl, rfl, excC_NoTime T, _, _, _, rfl, (fun _ h => h), is_NoTime_NoRow T, ?_⟩) | (refine ⟨_, rfl, _, rfl, rfl, excC_NoTime T, _, _, _, rfl, (fun _ h => h), is_NoTime_MovesBright T, ?_⟩) | (walk_at "rd"))
    intro p2 hp2
    have r2 : upd H2 p2 (HO.lst [V.bl false, V.bl false, V.bl false, V.bl false]) p1 = some (HO.lst [V.bl true, V.bl true, V.bl false]) := by rw [upd_ne (ne_of_none q2 hp2)]; exact q2
    have s3 := s2.new (o := HO.lst [V.bl false, V.bl false, V.bl false, V.bl false]) hp2
    have q3 : upd H2 p2 (HO.lst [V.bl false, V.bl false, V.bl false, V.bl false]) p2 = some (HO.lst [V.bl false, V.bl false, V.bl false, V.bl false]) := upd_same
    generalize hg3 : upd H2 p2 (HO.lst [V.bl false, V.bl false, V.bl false, V.bl false]) = H3 at s3 q3 ⊢
    rw [hg3] at r2
    refine ⟨p1, p2, _, _, rfl, rfl, r2, q3, small_size (by decide), fun p3 hp3 => ?_⟩
    have s4 := s3.new (o := HO.lst ([V.bl true, V.bl true, V.bl false] ++ [V.bl false, V.bl false, V.bl false, V.bl false])) hp3
    have q4 : upd H3 p3 (HO.lst ([V.bl true, V.bl true, V.bl false] ++ [V.bl false, V.bl false, V.bl false, V.bl false])) p3 = some (HO.lst ([V.bl true, V.bl true, V.bl false] ++ [V.bl false, V.bl false, V.bl false, V.bl false])) := upd_same
    generalize hg4 : upd H3 p3 (HO.lst ([V.bl true, V.bl true, V.bl false] ++ [V.bl false, V.bl false, V.bl false, V.bl false])) = H4 at s4 q4 ⊢
    (repeat first | (refine ⟨_, rfl, _, rfl, rfl, excC_NoTime T, _, _, _, rfl, (fun _ h => h), is_NoTime_ValueError T, ?_⟩) | (refine ⟨_, rfl, _, rfl, rfl, excC_NoTime T, _, _, _, rfl, (fun _ h => h), is_NoTime_NoTime T, ?_⟩) | (refine ⟨_, rfl, _, rfl, rfl, excC_NoTime T, _, _, _, rfl, (fun _ h => h), is_NoTime_NoText T, ?_⟩) | (refine ⟨_, rfl, _, rfl, rfl, excC_NoTime T, _, _, _, rfl, (fun _ h => h), is_NoTime_NoWorth T, ?_⟩) | (refine ⟨_, rfl, _, rfl, rfl, excC_NoTime T, _, _, _, rfl, (fun _ h => h), is_NoTime_NoCue T, ?_⟩) | (refine ⟨_, rfl, _, rfl, rfl, excC_NoTime T, _, _, _, rfl, (fun _ h => h), is_NoTime_NoSlot T, ?_⟩) | (refine ⟨_, rfl, _, rfl, rfl, excC_NoTime T, _, _, _, rfl, (fun _ h => h), is_NoTime_Late T, ?_⟩) | (refine ⟨_, rfl, _, rfl, rfl, excC_NoTime T, _, _, _, rfl, (fun _ h => h), is_NoTime_NoPart T, ?_⟩) | (refine ⟨_, rfl, _, rfl, rfl, excC_NoTime T, _, _, _, rfl, (fun _ h => h), is_NoTime_NoList T, ?_⟩) | (refine ⟨_, rfl, _, rfl, rfl, excC_NoTime T, _, _, _, rfl, (fun _ h => h), is_NoTime_NoName T, ?_⟩) | (refine ⟨_, rfl, _, rfl, rfl, excC_NoTime T, _, _, _, rfl, (fun _ h => h), is_NoTime_NoRow T, ?_⟩) | (refine ⟨_, rfl, _, rfl, rfl, excC_NoTime T, _, _, _, rfl, (fun _ h => h), is_NoTime_MovesBright T, ?_⟩) | (walk_at "rd"))
    intro p4 hp4
    have r4 : upd H4 p4 (HO.lst [V.bl false, V.bl false, V.bl false, V.bl false]) p3 = some (HO.lst ([V.bl true, V.bl true, V.bl false] ++ [V.bl false, V.bl false, V.bl false, V.bl false])) := by rw [upd_ne (ne_of_none q4 hp4)]; exact q4
    have s5 := s4.new (o := HO.lst [V.bl false, V.bl false, V.bl false, V.bl false]) hp4
    have q5 : upd H4 p4 (HO.lst [V.bl false, V.bl false, V.bl false, V.bl false]) p4 = some (HO.lst [V.bl false, V.bl false, V.bl false, V.bl false]) := upd_same
    generalize hg5 : upd H4 p4 (HO.lst [V.bl false, V.bl false, V.bl false, V.bl false]) = H5 at s5 q5 ⊢
    rw [hg5] at r4
    refine ⟨p3, p4, _, _, rfl, rfl, r4, q5, small_size (by decide), fun p5 hp5 => ?_⟩
    have f5 : H p5 = none := by
      cases e : H p5 with
      | none => rfl
      | some o => exact absurd (s5 _ _ e) (by rw [hp5]; exact fun z => by cases z)
    have s6 := s5.new (o := HO.lst (([V.bl true, V.bl true, V.bl false] ++ [V.bl false, V.bl false, V.bl false, V.bl false]) ++ [V.bl false, V.bl false, V.bl false, V.bl false])) hp5
    have q6 : upd H5 p5 (HO.lst (([V.bl true, V.bl true, V.bl false] ++ [V.bl false, V.bl false, V.bl false, V.bl false]) ++ [V.bl false, V.bl false, V.bl false, V.bl false])) p5 = some (HO.lst (([V.bl true, V.bl true, V.bl false] ++ [V.bl false, V.bl false, V.bl false, V.bl false]) ++ [V.bl false, V.bl false, V.bl false, V.bl false])) := upd_same
    generalize hg6 : upd H5 p5 (HO.lst (([V.bl true, V.bl true, V.bl false] ++ [V.bl false, V.bl false, V.bl false, V.bl false]) ++ [V.bl false, V.bl false, V.bl false, V.bl false])) = H6 at s6 q6 ⊢
    refine ⟨_, rfl, .inl ⟨rfl, _, .of q6⟩, ?_⟩
    (repeat first | (refine ⟨_, rfl, _, rfl, rfl, excC_NoTime T, _, _, _, rfl, (fun _ h => h), is_NoTime_ValueError T, ?_⟩) | (refine ⟨_, rfl, _, rfl, rfl, excC_NoTime T, _, _, _, rfl, (fun _ h => h), is_NoTime_NoTime T, ?_⟩) | (refine ⟨_, rfl, _, rfl, rfl, excC_NoTime T, _, _, _, rfl, (fun _ h => h), is_NoTime_NoText T, ?_⟩) | (refine ⟨_, rfl, _, rfl, rfl, excC_NoTime T, _, _, _, rfl, (fun _ h => h), is_NoTime_NoWorth T, ?_⟩) | (refine ⟨_, rfl, _, rfl, rfl, excC_NoTime T, _, _, _, rfl, (fun _ h => h), is_NoTime_NoCue T, ?_⟩) | (refine ⟨_, rfl, _, rfl, rfl, excC_NoTime T, _, _, _, rfl, (fun _ h => h), is_NoTime_NoSlot T, ?_⟩) | (refine ⟨_, rfl, _, rfl, rfl, excC_NoTime T, _, _, _, rfl, (fun _ h => h), is_NoTime_Late T, ?_⟩) | (refine ⟨_, rfl, _, rfl, rfl, excC_NoTime T, _, _, _, rfl, (fun _ h => h), is_NoTime_NoPart T, ?_⟩) | (refine ⟨_, rfl, _, rfl, rfl, excC_NoTime T, _, _, _, rfl, (fun _ h => h), is_NoTime_NoList T, ?_⟩) | (refine ⟨_, rfl, _, rfl, rfl, excC_NoTime T, _, _, _, rfl, (fun _ h => h), is_NoTime_NoName T, ?_⟩) | (refine ⟨_, rfl, _, rfl, rfl, excC_NoTime T, _, _, _, rfl, (fun _ h => h), is_NoTime_NoRow T, ?_⟩) | (refine ⟨_, rfl, _, rfl, rfl, excC_NoTime T, _, _, _, rfl, (fun _ h => h), is_NoTime_MovesBright T, ?_⟩) | (walk_at "rd"))
    refine ⟨p5, _, .bl false, rfl, rfl, q6, by decide, ?_⟩
    have s7 := s6.mut (o := HO.lst ((([V.bl true, V.bl true, V.bl false] ++ [V.bl false, V.bl false, V.bl false, V.bl false]) ++ [V.bl false, V.bl false, V.bl false, V.bl false]) ++ [V.bl false])) f5
    have q7 : upd H6 p5 (HO.lst ((([V.bl true, V.bl true, V.bl false] ++ [V.bl false, V.bl false, V.bl false, V.bl false]) ++ [V.bl false, V.bl false, V.bl false, V.bl false]) ++ [V.bl false])) p5 = some (HO.lst ((([V.bl true, V.bl true, V.bl false] ++ [V.bl false, V.bl false, V.bl false, V.bl false]) ++ [V.bl false, V.bl false, V.bl false, V.bl false]) ++ [V.bl false])) := upd_same
    generalize upd H6 p5 (HO.lst ((([V.bl true, V.bl true, V.bl false] ++ [V.bl false, V.bl false, V.bl false, V.bl false]) ++ [V.bl false, V.bl false, V.bl false, V.bl false]) ++ [V.bl false])) = H7 at s7 q7 ⊢
    walk_at "rds"
    intro p6 hp6
    have s8 := (Same.refl H7).new (o := HO.lst [V.bl true, V.bl true]) hp6
    have q8 : upd H7 p6 (HO.lst [V.bl true, V.bl true]) p6 = some (HO.lst [V.bl true, V.bl true]) := upd_same
    generalize upd H7 p6 (HO.lst [V.bl true, V.bl true]) = H8 at s8 q8 ⊢
    walk_at "rds"
    intro p7 hp7
    have s9 := (Same.refl H8).new (o := HO.lst [V.bl false]) hp7
    have q9 : upd H8 p7 (HO.lst [V.bl false]) p7 = some (HO.lst [V.bl false]) := upd_same
    generalize upd H8 p7 (HO.lst [V.bl false]) = H9 at s9 q9 ⊢
    trace_state
    refine ⟨p7, 10, _, rfl, rfl, q9, by decide, by decide, by decide, fun p8 hp8 => ?_⟩
    have s10 := (Same.refl H9).new (o := HO.lst (List.replicate (10 : Int).toNat [V.bl false]).flatten) hp8
    have q10 : upd H9 p8 (HO.lst (List.replicate (10 : Int).toNat [V.bl false]).flatten) p8 = some (HO.lst (List.replicate (10 : Int).toNat [V.bl false]).flatten) := upd_same
    generalize upd H9 p8 (HO.lst (List.replicate (10 : Int).toNat [V.bl false]).flatten) = H10 at s10 q10 ⊢
    refine ⟨p6, p8, _, _, rfl, rfl, s10 _ _ (s9 _ _ q8), q10, by decide, fun p9 hp9 => ?_⟩
    have s11 := (Same.refl H10).new (o := HO.lst ([V.bl true, V.bl true] ++ (List.replicate (10 : Int).toNat [V.bl false]).flatten)) hp9
    have q11 : upd H10 p9 (HO.lst ([V.bl true, V.bl true] ++ (List.replicate (10 : Int).toNat [V.bl false]).flatten)) p9 = some (HO.lst ([V.bl true, V.bl true] ++ (List.replicate (10 : Int).toNat [V.bl false]).flatten)) := upd_same
    generalize upd H10 p9 (HO.lst ([V.bl true, V.bl true] ++ (List.replicate (10 : Int).toNat [V.bl false]).flatten)) = H11 at s11 q11 ⊢
    refine ⟨.list ([true, true, false, false, false, false, false, false, false, false, false, false].map PyData.bool), .list ([true, true, false, false, false, false, false, false, false, false, false, false].map PyData.bool), .lst (.of (s11 _ _ (s10 _ _ (s9 _ _ (s8 _ _ q7))))) (dp_bls [true, true, false, false, false, false, false, false, false, false, false, false]), .lst (.of q11) (dp_bls [true, true, false, false, false, false, false, false, false, false, false, false]), by decide +kernel, by decide +kernel, ?_⟩
    rw [show PyData.eqv (.list ([true, true, false, false, false, false, false, false, false, false, false, false].map PyData.bool)) (.list ([true, true, false, false, false, false, false, false, false, false, false, false].map PyData.bool)) = true by decide +kernel]
    exact k _ (s7.trans (s8.trans (s9.trans (s10.trans s11))))
def spLaw (K : PySem.W.Frag) : Sp := fun vs H Q _ => ∃ (a : Addr) (ns : List Int), vs = [.ref a] ∧ SqL K H a (ns.map V.int) ∧ ns.length ≤ 63 ∧ (∀ z ∈ ns, Builtin.Int.intBits z ≤ 1048576) ∧ Only H ∧ ∀ H', Q (.bl true) H'

theorem ok_law (T : Txt K mg) : ∃ fd, FnOk P w K mg base CX0 6 (He.fAd K ("law", none)) fd ["_law_script"] (spLaw K) ∧ FunD K "law" "law" (defArgs s_law) (defBody s_law) (defScope s_law) [] [] (He.fAd K ("law", none)) fd := by
  obtain ⟨fd, F⟩ := T.c.def_ 8 (d := d_law) rfl
  obtain ⟨fd_l_cell_at, G_l_cell_at, F_l_cell_at⟩ := ok_l_cell_at (P := P) (w := w) (base := base) T
  have kp_l_cell_at := F_l_cell_at.kp
  have b_l_cell_at : Binds K fd_l_cell_at ["_law_script", "_law_k"] [] := FunD.bindsN F_l_cell_at (fun _ _ _ _ _ _ us hl => match us, hl with | [_, _], _ => rfl)
  obtain ⟨fd_l_good, G_l_good, F_l_good⟩ := ok_l_good (P := P) (w := w) (base := base) T
  have kp_l_good := F_l_good.kp
  have b_l_good : Binds K fd_l_good ["_law_ticks_here"] [] := FunD.bindsN F_l_good (fun _ _ _ _ _ _ us hl => match us, hl with | [_], _ => rfl)
  obtain ⟨fd_l_time_by, G_l_time_by, F_l_time_by⟩ := ok_l_time_by (P := P) (w := w) (base := base) T
  have kp_l_time_by := F_l_time_by.kp
  have b_l_time_by : Binds K fd_l_time_by ["_law_cell"] [] := FunD.bindsN F_l_time_by (fun _ _ _ _ _ _ us hl => match us, hl with | [_], _ => rfl)
  obtain ⟨fd_is_time, G_is_time, F_is_time⟩ := ok_is_time (P := P) (w := w) (base := base) T
  have kp_is_time := F_is_time.kp
  have b_is_time : Binds K fd_is_time ["thing"] [] := FunD.bindsN F_is_time (fun _ _ _ _ _ _ us hl => match us, hl with | [_], _ => rfl)
  obtain ⟨fd_l_refused, G_l_refused, F_l_refused⟩ := ok_l_refused (P := P) (w := w) (base := base) T
  have kp_l_refused := F_l_refused.kp
  have b_l_refused : Binds K fd_l_refused ["_law_thing"] [] := FunD.bindsN F_l_refused (fun _ _ _ _ _ _ us hl => match us, hl with | [_], _ => rfl)
  refine ⟨fd, F.ok sc_law (by walk_at "g94len") (fun cdv A outer st H vs Q E hr h => ?_), F⟩
  · obtain ⟨a, ns, rfl, hS, hlen, hbits, hO, k⟩ := h
    refine ⟨_, PSs.nox (pss_cons (ps_if (PW.pt (pw_or (pt_not (pt_val (pe_call G_l_good (hr.mono (by decide)) rfl (glo__law_good T) kp_l_good b_l_good .nil pass0 (pa_cons pe_int pa_nil)))) (pw_or1 (pt_not (pt_val (pe_call G_l_good (hr.mono (by decide)) rfl (glo__law_good T) kp_l_good b_l_good .nil pass0 (pa_cons (pe_powC (v := 1000000000) (by rfl) (by decide +kernel)) pa_nil))))))) (pss_one (ps_ret pe_bl)) pss_nil)
        (pss_cons (ps_for PassesOwn.never rfl (pi_list (pe_slice sl_list (pv 0) po_none (po_some pe_int))) (pg_name (i := 1) sc_law.nd rfl (Or.inl rfl)) (pss_one (ps_if (pt_not (pt_val (pe_call G_l_good (hr.mono (by decide)) rfl (glo__law_good T) kp_l_good b_l_good .nil pass0 (pa_cons (pe_call G_l_time_by (hr.mono (by decide)) rfl (glo__law_time_by T) kp_l_time_by b_l_time_by .nil pass0 (pa_cons (pv 1) pa_nil)) pa_nil)))) (pss_one (ps_ret pe_bl)) pss_nil)))
        (pss_cons (ps_set (i := 2) sc_law.nd rfl (Or.inl rfl) (pe_op op_mod (pe_call G_l_cell_at (hr.mono (by decide)) rfl (glo__law_cell_at T) kp_l_cell_at b_l_cell_at .nil pass0 (pa_cons (pv 0) (pa_cons pe_int pa_nil))) (pe_powC (v := 1000000000000000000000000000000) (by rfl) (by decide +kernel))))
        (pss_cons (ps_for PassesOwn.never rfl (pi_list (pe_lst (pa_cons (pe_op op_add (pe_op op_add (pe_powC (v := 1000000000) (by rfl) (by decide +kernel)) pe_int) (pv 2)) (pa_cons (pe_op op_sub pe_negC (pv 2)) (pa_cons pe_bl (pa_cons pe_bl (pa_cons pe_non (pa_cons pe_str (pa_cons pe_str (pa_cons (pe_lst (pa_cons pe_int pa_nil)) (pa_cons (pe_tup (pa_cons pe_int pa_nil)) pa_nil))))))))))) (pg_name (i := 3) sc_law.nd rfl (Or.inl rfl)) (pss_one (ps_if (PW.pt (pw_or (pt_cmpR op_isnot_bl (pe_call G_is_time (hr.mono (by decide)) rfl (glo_is_time T) kp_is_time b_is_time .nil pass0 (pa_cons (pv 3) pa_nil)) pe_bl (nomark _)) (pw_or1 (pt_not (pt_val (pe_call G_l_refused (hr.mono (by decide)) rfl (glo__law_refused T) kp_l_refused b_l_refused .nil pass0 (pa_cons (pv 3) pa_nil))))))) (pss_one (ps_ret pe_bl)) pss_nil)))
        (pss_one (ps_ret pe_bl)))))), ?_⟩
    clear hbits hO
    refine ⟨0, rfl, by decide, fun H1 s1 => ?_⟩
    walk_at "rds"
    refine ⟨by decide, fun H2 s2 => ?_⟩
    walk_at "rds"
    have hS2 := (s1.trans s2).seq hS
    refine ⟨a, _, rfl, hS2, fun p hp => ?_⟩
    obtain ⟨ms, em, hms, _⟩ := cut_ints ns none (some 84)
    rw [em]
    have s3 := (Same.refl H2).new (o := HO.lst (ms.map V.int)) hp
    have hS3 := s3.seq hS2
    have q3 : upd H2 p (HO.lst (ms.map V.int)) p = some (HO.lst (ms.map V.int)) := upd_same
    generalize upd H2 p (HO.lst (ms.map V.int)) = H3 at s3 q3 hS3 ⊢
    refine ⟨p, rfl, ⟨_, .of q3⟩, ?_⟩
    refine for_list (K := K) (a := p) (xs := ms.map V.int) (fun i σ' H' => ∃ v : Option V, σ' = [some (.ref a), v, none, none] ∧ Same H3 H') ⟨_, rfl, .refl _⟩ (fun i σ' H' _ ⟨_, _, s⟩ => s.seq (.of q3)) ?_ ?_
    · rintro i y σ' H' hi ⟨v, rfl, s⟩
      obtain ⟨z, rfl, _, _⟩ := int_at hi
      walk_at "rds"
      intro r H4 hr4 s4
      walk_at "rds"
      intro H5 s5
      walk_at "rds"
      exact (s.trans s4).trans s5
    rintro σ' H4 ⟨v, rfl, s4⟩
    have hS4 := s4.seq hS3
    walk_at "rz"
    rename_i far0
    have hfar : 0 ≤ far0 % 1000000000000000000000000000000 := by omega
    intro p1 hp1
    have s5 := (Same.refl H4).new (o := HO.lst [V.int 1]) hp1
    have q5 : upd H4 p1 (HO.lst [V.int 1]) p1 = some (HO.lst [V.int 1]) := upd_same
    generalize upd H4 p1 (HO.lst [V.int 1]) = H5 at s5 q5 ⊢
    walk_at "rds"
    intro p2 hp2
    have s6 := (Same.refl H5).new (o := HO.tup [V.int 1]) hp2
    have q6 : upd H5 p2 (HO.tup [V.int 1]) p2 = some (HO.tup [V.int 1]) := upd_same
    generalize upd H5 p2 (HO.tup [V.int 1]) = H6 at s6 q6 ⊢
    walk_at "rds"
    intro p3 hp3
    have F : ∀ H7 : Hp, Same H6 H7 → ∀ v ∈ [V.int (1000000000 + 1 + far0 % 1000000000000000000000000000000), V.int (-1 - far0 % 1000000000000000000000000000000), V.bl true, V.bl false, V.non, V.str "1", V.str "", V.ref p1, V.ref p2], TimeSays K H7 v false := by
      intro H7 s v hv
      simp only [List.mem_cons, List.not_mem_nil, or_false] at hv
      rcases hv with rfl | rfl | rfl | rfl | rfl | rfl | rfl | rfl | rfl
      · exact .inl ⟨_, rfl, (decide_eq_false (by omega)).symm⟩
      · exact .inl ⟨_, rfl, (decide_eq_false (by omega)).symm⟩
      · exact .inr (.inl ⟨_, rfl, rfl⟩)
      · exact .inr (.inl ⟨_, rfl, rfl⟩)
      · exact .inr (.inr ⟨⟨_, .base .non, kit_ty (by decide +kernel)⟩, rfl⟩)
      · exact .inr (.inr ⟨⟨_, .base (.str _), kit_ty (by decide +kernel)⟩, rfl⟩)
      · exact .inr (.inr ⟨⟨_, .base (.str _), kit_ty (by decide +kernel)⟩, rfl⟩)
      · exact .inr (.inr ⟨⟨_, .base (.lst (s _ _ (s6 _ _ q5))), kit_ty (by decide +kernel)⟩, rfl⟩)
      · exact .inr (.inr ⟨⟨_, .base (.tup (s _ _ q6)), kit_ty (by decide +kernel)⟩, rfl⟩)
    have s7 := (Same.refl H6).new (o := HO.lst [V.int (1000000000 + 1 + far0 % 1000000000000000000000000000000), V.int (-1 - far0 % 1000000000000000000000000000000), V.bl true, V.bl false, V.non, V.str "1", V.str "", V.ref p1, V.ref p2]) hp3
    have q7 : upd H6 p3 (HO.lst [V.int (1000000000 + 1 + far0 % 1000000000000000000000000000000), V.int (-1 - far0 % 1000000000000000000000000000000), V.bl true, V.bl false, V.non, V.str "1", V.str "", V.ref p1, V.ref p2]) p3 = some (HO.lst [V.int (1000000000 + 1 + far0 % 1000000000000000000000000000000), V.int (-1 - far0 % 1000000000000000000000000000000), V.bl true, V.bl false, V.non, V.str "1", V.str "", V.ref p1, V.ref p2]) := upd_same
    refine ⟨p3, rfl, ⟨_, .of q7⟩, ?_⟩
    generalize [V.int (1000000000 + 1 + far0 % 1000000000000000000000000000000), V.int (-1 - far0 % 1000000000000000000000000000000), V.bl true, V.bl false, V.non, V.str "1", V.str "", V.ref p1, V.ref p2] = things at F q7 s7 ⊢
    generalize upd H6 p3 (HO.lst things) = H7 at q7 s7 ⊢
    refine for_list (K := K) (a := p3) (xs := things) (fun i σ2 H' => ∃ w : Option V, σ2 = [some (.ref a), v, some (.int (far0 % 1000000000000000000000000000000)), w] ∧ Same H7 H') ⟨_, rfl, .refl _⟩ (fun i σ' H' _ ⟨_, _, s⟩ => s.seq (.of q7)) ?_ ?_
    · rintro i y σ2 H8 hi ⟨w, rfl, s8⟩
      have f := fun H' (s : Same H8 H') => F H' (s7.trans (s8.trans s)) y (List.mem_of_getElem? hi)
      refine ⟨_, rfl, y, _, rfl, f _ (.refl _), _, _, rfl, rfl, _, rfl, ?_⟩
      walk_at "rds"
      intro H9 s9
      walk_at "rds"
      exact s8.trans s9
    rintro σ2 H8 ⟨w, rfl, s8⟩
    exact k _
theorem law_facts {fa : Addr} (T : Txt K mg) (hfa : mg "law" = some (.ref fa)) :
    ∃ fd : FuncData, (∀ (s : Shared) (v : Value), BindsTo s fd ⟨[v], []⟩ [("_law_script", v)]) ∧ ∀ base : Heap, K.In base → base.Ns mainGlobals mg → FnOk P w K mg base CX0 6 fa fd ["_law_script"] (spLaw K) := by
  have e := hfa.symm.trans (glo_law T)
  cases e
  obtain ⟨fd, _, F⟩ := ok_law (P := P) (w := w) (base := default) T
  refine ⟨fd, fun s v => FunD.bindsA (ps := ["_law_script"]) F (fun _ _ _ _ _ _ us hl => match us, hl with | [_], _ => rfl) s [v] rfl, fun base _ _ => ?_⟩
  obtain ⟨fd', G, F'⟩ := ok_law (P := P) (w := w) (base := base) T
  have q : fd' = fd := F'.fd_eq F
  rw [← q]
  exact G


end

abbrev R : PySem.W.OpenRow := PySem.W.OpenLaw.row PySem.Challenge.rw_lampcues_k01_times_written
abbrev hk : PySem.W.Hook := L2.hookY 6 fa fn exB
def ob (s : PySem.W.SharedT) : He.AlD × Bool := L2.obsY 6 fa fn exB (HandSHeadRun.getT s)
theorem ob_eq (s : PySem.W.SharedT) : ob s = hk.obs s.abs := L2.obsY_eq (HandSHeadRun.getT_eq s)
def loose0 : List PySem.Str := ["LampError", "NoText", "NoTime", "NoSlot", "NoWorth", "NoPart", "NoCue", "NoList", "Late", "NoName", "MovesBright", "NoRow", "MOST", "is_time", "time_text", "_law_cell_at", "_law_whole", "_law_time_by", "_law_number", "_law_ticks", "_law_refused", "_law_good"]
def loose : List PySem.Str := loose0
theorem run (w : World) : HandSHeadRun.RunEq R (PySem.W.view R.prog [25]) hk ob 4000 loose w := by
  intro os
  kernel_rfl
end G94
open PySem PySem.W PySem.Calls PyProof.Rows
theorem PySem.Challenge.cw_lampcues_k01_times_written_holds : PySem.Challenge.rw_lampcues_k01_times_written.Holds := by
  w_on; o_law
  refine HandSHeadRun.head_any (r := OpenLaw.row PySem.Challenge.rw_lampcues_k01_times_written) (q := view (OpenLaw.row PySem.Challenge.rw_lampcues_k01_times_written).prog [25]) (H := G94.hk) (ob := G94.ob) (M := 4000) (loose := G94.loose) (d := HandSHeadRun.topDef (OpenLaw.row PySem.Challenge.rw_lampcues_k01_times_written).prog 25) (kwd := []) G94.ob_eq
    (by kernel_rfl) (fun s => by kernel_rfl) G94.run (by kernel_rfl) (by kernel_rfl) (by kernel_rfl) (by rfl) (by first | assumption | decide +kernel) (by decide +kernel) ⟨rfl, rfl, rfl, rfl, rfl, by decide +kernel⟩ ?hw ?hc
  case hw => w_witness2
  case hc =>
    refine L2.walk_ofEB (l := PySem.Challenge.rw_lampcues_k01_times_written) (n := 63) (k := 6) (x := "_law_script") (CX := L2.CX0) rfl (by decide) (by kernel_rfl) ⟨rfl, by decide, by decide⟩ ?F (fun _ _ _ _ z => z)
    intro w mg fa h Y G hmg0
    obtain ⟨K, KX, c, cx⟩ := Y
    have hmg : mg ("law" : PySem.Str) = some (.ref fa) := by
      have e : (HandSHeadRun.topDef (OpenLaw.row PySem.Challenge.rw_lampcues_k01_times_written).prog 25).name = ("law" : PySem.Str) := by kernel_rfl
      rw [← e]
      exact hmg0
    obtain ⟨fd, hb, hF⟩ := G94.law_facts (P := (PySem.Challenge.rw_lampcues_k01_times_written).prog) (w := w) ⟨c, ⟨h, KX, G⟩, cx⟩ hmg
    exact ⟨K, fd, G94.spLaw K, KX, hb, fun H a ns hl hb hH hS => ⟨a, ns, rfl, hS, hl, hb, hH, fun _ => rfl⟩, hF⟩
