import PyProof.Rows.All
import Wide.All
import OpenK.AllK
import Wide.FinOn
import KE.KStateDown
import HandS.ForMost
import HandS.Exc
import HandS.TryOnly
import HandS.ExcOwn
import HandS.WordsExc
import HandS.Defaults
import HandS.Wide
import HandS.IsInst
import HandS.ExcIs
import HandS.EndBits
import HandS.TupLe
import HandS.Rev
import HandS.Codes
import HandS.MakeKw
import HandS.StrMore
import HandS.Head0
import HandS.Head1
import HandS.Head2
import HandS.HeadEnd
import HandS.HeadHook1
import HandS.HeadHook2
import PySem.Challenge.RW_lampcues_k06_whole_course
set_option Elab.async false
set_option linter.all false
set_option maxRecDepth 100000
set_option maxHeartbeats 4000000
namespace L2
open PySem PySem.Spec PyProof.Rows
/-! ### own rules, own words -/
/-- a law's end by facts, with the script's bits and the only tracked thing told -/
theorem walk_ofEB {l : PySem.W.OpenLaw} {n k : Nat} {q : Program} {loose : List Str} {XP : (Str → Option Value) → Heap → Prop} {YP : World → Heap → Prop} {d : DefRec} {CX : CXT} {x : Str}
    (hn : l.most = some n) (hn2 : n ≤ sizeLine) (hdf : d.params.defaults = []) (hr : Room k callerA)
    (F : ∀ (w : World) (mg : Str → Option Value) (fa : Addr) (h : Heap), YP w h → h.Ns mainGlobals mg → mg d.name = some (.ref fa) →
      ∃ (K : PySem.W.Frag) (fd : FuncData) (sp : Sp), K.In h ∧ (∀ (s : Shared) (u : Value), BindsTo s fd ⟨[u], []⟩ [(x, u)]) ∧
        (∀ (H : Hp) (a : Addr) (ns : List Int), ns.length ≤ n → (∀ z ∈ ns, Builtin.Int.intBits z ≤ 1048576) → Only H → SqL K H a (ns.map V.int) → sp [.ref a] H (fun v _ => v = .bl true) fun _ _ _ => False) ∧
        ∀ base : Heap, K.In base → base.Ns mainGlobals mg → FnOk l.prog w K mg base CX k fa fd [x] sp)
    (hCX : ∀ (H : Hp) (s : Shared) (e : Value) (s' : Shared), CX [] H s (fun _ _ _ => False) e s' → False) :
    PySem.W.WalkO q loose XP YP l.row.toRowW d [] (fun f vs => PySem.call f vs) := by
  refine Att.attach_callB hn hdf fun w s₀ s₁ mg mb fa o pm cd doc a vs ns G Y ho hd hcd hmg hobj hints hlen hbits hg => ?_
  obtain ⟨K, fd, sp, KX, hb, hsp, hF⟩ := F w mg fa _ Y G.T.g hmg
  exact law_call KX G.T.g G.T.b G.T.builtins G.T.nolimit hg hobj hints (Nat.le_trans hlen hn2) hr hF hb (fun H hO hS => hsp H a ns hlen hbits hO hS) fun H e s' => hCX H s₁ e s'
section
variable {X : Cx}
/-- a written power -/
theorem pe_powC {i j v : Int} {a b : Nat} {p1 p2 pos : Pos} (e : i ^ j.toNat = v) (h : 0 ≤ j ∧ j ≤ 1000000 ∧ i.natAbs < 2 ^ 64) : PE X (.BinOp (.Constant (.int i) a p1) .Pow (.Constant (.int j) b p2) pos) (tC (.int v)) := by
  subst e
  refine ⟨fun pins s σ H Q I q => ?_⟩
  exact (pe_op (X := X) op_pow pe_int pe_int).run pins s σ H Q I ⟨i, j, rfl, rfl, h, q⟩
/-- a written negative number -/
theorem pe_negC {i : Int} {a : Nat} {p1 pos : Pos} : PE X (.UnaryOp .USub (.Constant (.int i) a p1) pos) (tC (.int (-i))) := by
  refine ⟨fun pins s σ H Q I q => ?_⟩
  exact (pe_un (X := X) un_neg pe_int).run pins s σ H Q I ⟨i, rfl, q⟩
end
theorem iteD {c A B : Prop} [Decidable c] (h1 : c → A) (h2 : ¬ c → B) : if decide c = true then A else B := by
  by_cases h : c
  · rw [if_pos (decide_eq_true h)]
    exact h1 h
  · rw [if_neg (by rw [decide_eq_false h]; exact Bool.false_ne_true)]
    exact h2 h
theorem iteND {c A B : Prop} [Decidable c] (h1 : ¬ c → A) (h2 : c → B) : if (!decide c) = true then A else B := by
  by_cases h : c
  · rw [decide_eq_true h]
    exact iteF (h2 h)
  · rw [decide_eq_false h]
    exact iteT (h1 h)
theorem iteV {a b : Int} {A B : Prop} (h1 : a = b → A) (h2 : a ≠ b → B) : if decide (V.int a = V.int b) = true then A else B :=
  iteD (fun e => h1 (V.int.inj e)) fun e => h2 fun q => e (congrArg V.int q)
theorem iteNV {a b : Int} {A B : Prop} (h1 : a ≠ b → A) (h2 : a = b → B) : if (!decide (V.int a = V.int b)) = true then A else B :=
  iteND (fun e => h1 fun q => e (congrArg V.int q)) fun e => h2 (V.int.inj e)
theorem iteB {b : Bool} {A B : Prop} (h1 : b = true → A) (h2 : b = false → B) : if b = true then A else B := by
  cases b with
  | true => exact iteT (h1 rfl)
  | false => exact iteF (h2 rfl)
theorem iteDT {c A B : Prop} [Decidable c] (h : c) (h1 : A) : if decide c = true then A else B := iteD (fun _ => h1) fun q => absurd h q
theorem iteDF {c A B : Prop} [Decidable c] (h : ¬ c) (h1 : B) : if decide c = true then A else B := iteD (fun q => absurd q h) fun _ => h1
theorem iteVT {a b : Int} {A B : Prop} (h : a = b) (h1 : A) : if decide (V.int a = V.int b) = true then A else B := iteV (fun _ => h1) fun q => absurd h q
theorem iteVF {a b : Int} {A B : Prop} (h : a ≠ b) (h1 : B) : if decide (V.int a = V.int b) = true then A else B := iteV (fun q => absurd q h) fun _ => h1
theorem iteNVF {a b : Int} {A B : Prop} (h : a = b) (h1 : B) : if (!decide (V.int a = V.int b)) = true then A else B := iteNV (fun q => absurd h q) fun _ => h1
theorem yes_lc {σ : St} {H : Hp} {A B : Hp → Prop} (h : A H) : tYes σ H (fun b H3 => if b = true then A H3 else B H3) := by
  show if true = true then A H else B H
  rw [if_pos rfl]
  exact h
theorem qT {Q : VK} {H : Hp} {c : Prop} [Decidable c] (h : c) (k : Q (.bl true) H) : Q (.bl (decide c)) H := by
  rw [decide_eq_true h]
  exact k
theorem qF {Q : VK} {H : Hp} {c : Prop} [Decidable c] (h : ¬ c) (k : Q (.bl false) H) : Q (.bl (decide c)) H := by
  rw [decide_eq_false h]
  exact k
theorem iteS {a b : List Nat} {z : Str} {A B : Prop} (e : z = SX.S b) (h1 : a = b → A) (h2 : a ≠ b → B) : if decide (V.str (SX.S a) = V.str z) = true then A else B := by
  subst e
  exact iteD (fun q => h1 (SX.S_inj (V.str.inj q))) fun q => h2 fun r => q (congrArg (fun l => V.str (SX.S l)) r)
theorem iteNSt {a b : List Nat} {z : Str} {A B : Prop} (e : z = SX.S b) (h1 : a ≠ b → A) (h2 : a = b → B) : if (!decide (V.str (SX.S a) = V.str z)) = true then A else B := by
  subst e
  exact iteND (fun q => h1 fun r => q (congrArg (fun l => V.str (SX.S l)) r)) fun q => h2 (SX.S_inj (V.str.inj q))
theorem cut_ints (ns : List Int) (lo hi : Option Int) : ∃ ms : List Int, cutV (ns.map V.int) lo hi = ms.map V.int ∧ ms.length ≤ ns.length ∧ ∀ z ∈ ms, z ∈ ns := by
  refine ⟨(ns.drop (HT.sIx (ns.map V.int).length 0 lo)).take (HT.sIx (ns.map V.int).length (ns.map V.int).length hi - HT.sIx (ns.map V.int).length 0 lo), ?_, ?_, ?_⟩
  · unfold cutV
    rw [List.map_take, List.map_drop]
  · rw [List.length_take, List.length_drop]
    omega
  · intro z hz
    exact List.mem_of_mem_drop (List.mem_of_mem_take hz)
theorem int_at {ns : List Int} {i : Nat} {y : V} (h : (ns.map V.int)[i]? = some y) : ∃ z, y = V.int z ∧ ns[i]? = some z ∧ i < ns.length := by
  rw [List.getElem?_map] at h
  cases e : ns[i]? with
  | none =>
    rw [e] at h
    cases h
  | some z =>
    rw [e] at h
    exact ⟨z, (Option.some.inj h).symm, rfl, (List.getElem?_eq_some_iff.mp e).1⟩
theorem atI_lt {xs : List V} {k : Int} (h0 : 0 ≤ k) (h1 : k < xs.length) : ∃ v, atI xs k = some v ∧ xs[k.toNat]? = some v := by
  have hl : k.toNat < xs.length := by omega
  refine ⟨xs[k.toNat], ?_, List.getElem?_eq_getElem hl⟩
  obtain ⟨n, rfl⟩ : ∃ n : Nat, k = n := ⟨k.toNat, by omega⟩
  exact atI_nat (List.getElem?_eq_getElem hl)
theorem at2 {a b k : Int} (h0 : 0 ≤ k) (h1 : k < 2) : ∃ v, atI [V.int a, V.int b] k = some (V.int v) ∧ ((k = 0 ∧ v = a) ∨ (k = 1 ∧ v = b)) := by
  rcases (by omega : k = 0 ∨ k = 1) with rfl | rfl
  · exact ⟨a, rfl, .inl ⟨rfl, rfl⟩⟩
  · exact ⟨b, rfl, .inr ⟨rfl, rfl⟩⟩
theorem at3 {a b c k : Int} (h0 : 0 ≤ k) (h1 : k < 3) : ∃ v, atI [V.int a, V.int b, V.int c] k = some (V.int v) ∧ ((k = 0 ∧ v = a) ∨ (k = 1 ∧ v = b) ∨ (k = 2 ∧ v = c)) := by
  rcases (by omega : k = 0 ∨ k = 1 ∨ k = 2) with rfl | rfl | rfl
  · exact ⟨a, rfl, .inl ⟨rfl, rfl⟩⟩
  · exact ⟨b, rfl, .inr (.inl ⟨rfl, rfl⟩)⟩
  · exact ⟨c, rfl, .inr (.inr ⟨rfl, rfl⟩)⟩
/-- a call that writes all parameters, the last ones by name -/
theorem kb_all {K : PySem.W.Frag} {x qual : Str} {params : Arguments} {body : List Stmt} {scope : Scope} {dvs : List V} {kws : List (Str × V)} {f : Addr} {fd : FuncData} {ps : List Str} (F : FunD K x qual params body scope dvs kws f fd) (n : Nat) (ks : List Str) (hd : dvs ≠ [])
    (h : ∀ (T : Addr) (kV doc pm : Value) (an : Option Addr) (cdv ct : Value) (us its ws : List Value), us.length = n → its.length = dvs.length → ws.length = ks.length →
      ∃ k, bindArgs (PySem.W.fnOf x qual params body scope (.ref T) kV doc pm an cdv ct) ⟨us, ks.zip ws⟩ = seqItems? (.ref T) >>= k ∧ k (some its.toArray) = pure (ps.zip (us ++ ws))) : KBn K fd ps n ks (fun us ws => us ++ ws) (fun vs zs => vs ++ zs) := by
  obtain ⟨oc, od, dV, kV, doc, pm, an, cdv, ct, osl, rfl, lk, hcd, hD, _⟩ := F.ex
  rcases hD with ⟨e, _⟩ | ⟨_, T, o, its, m, rfl, lT, oT, rT⟩
  · exact absurd e hd
  · refine ⟨fun s us ws X h1 h2 => ?_, fun r1 r2 => r1.append r2⟩
    obtain ⟨k, e1, e2⟩ := h T kV doc pm an cdv ct us its ws h1 rT.length.symm h2
    refine BindsTo.of_looks fun M => ?_
    rw [e1]
    exact looks_items X lT oT (.of_pure e2)
theorem FunD.fd_eq {K : PySem.W.Frag} {x qual : Str} {params : Arguments} {body : List Stmt} {scope : Scope} {dvs : List V} {kws : List (Str × V)} {f : Addr} {fd fd' : FuncData} (F : FunD K x qual params body scope dvs kws f fd) (F' : FunD K x qual params body scope dvs kws f fd') : fd = fd' := by
  obtain ⟨_, _, _, _, _, _, _, _, _, _, _, l, _⟩ := F.ex
  obtain ⟨_, _, _, _, _, _, _, _, _, _, _, l', _⟩ := F'.ex
  rw [l] at l'
  simp only [Option.some.injEq, Obj.mk.injEq, Data.func.injEq] at l'
  exact l'.2.2.1
theorem at4 {a b c d k : Int} (h0 : 0 ≤ k) (h1 : k < 4) : ∃ v, atI ([a, b, c, d].map V.int) k = some (V.int v) := by
  rcases (by omega : k = 0 ∨ k = 1 ∨ k = 2 ∨ k = 3) with rfl | rfl | rfl | rfl
  · exact ⟨a, rfl⟩
  · exact ⟨b, rfl⟩
  · exact ⟨c, rfl⟩
  · exact ⟨d, rfl⟩
theorem ints_last {es : List Int} {v : Int} (h : es.getLast? = some v) : atI (es.map V.int) (-1) = some (V.int v) := by
  obtain ⟨r, e⟩ := List.getLast?_eq_some_iff.mp h
  rw [e, List.map_append]
  exact atI_last _ _
/-- a loop over the signs of a text -/
theorem for_text {l : List Nat} {g : TG} {tb : TS} {D : Ends} {σ : St} {H : Hp} (Pv : Nat → St → Hp → Prop) (h0 : Pv 0 σ H)
    (hs : ∀ (i : Nat) (c : Nat) (σ : St) (H : Hp), l[i]? = some c → Pv i σ H → g (.str ⟨#[c]⟩) σ H (fun σ2 H2 => tb { D with nx := Pv (i + 1), ct := Pv (i + 1), bk := D.nx } σ2 H2))
    (hd : ∀ σ H, Pv l.length σ H → D.nx σ H) :
    ∃ W : Nat → Nat → St → Hp → Prop, (∃ m, W 0 m σ H) ∧ ∀ i m σ H, W i m σ H → ((Its (SX.S l)).stop i H ∧ D.nx σ H) ∨
      ((Its (SX.S l)).go i H ∧ ∃ N : St → Hp → Prop, (∀ σ' H', N σ' H' → ∃ m', m' < m ∧ W (i + 1) m' σ' H') ∧ ∀ v H', (Its (SX.S l)).yld i H v H' → g v σ H' fun σ2 H2 => tb { D with nx := N, ct := N, bk := D.nx } σ2 H2) := by
  refine ⟨fun i m σ H => m = l.length - i ∧ i ≤ l.length ∧ Pv i σ H, ⟨_, rfl, Nat.zero_le _, h0⟩, ?_⟩
  intro i m σ1 H1 hw
  obtain ⟨em, hi, p⟩ := hw
  have es : (SX.S l).cps.size = l.length := by simp
  rcases Nat.lt_or_ge i l.length with hlt | hge
  · right
    refine ⟨(by show i < (SX.S l).cps.size; omega), Pv (i + 1), fun σ' H' p' => ⟨l.length - (i + 1), by omega, rfl, by omega, p'⟩, ?_⟩
    intro v H' hy
    obtain ⟨e, c, hc, ev⟩ := hy
    rw [e, ev]
    refine hs i c σ1 H1 ?_ p
    have h2 : (SX.S l).cps[i]? = l[i]? := by simp
    rw [← h2]
    exact hc
  · left
    refine ⟨(by show (SX.S l).cps.size ≤ i; omega), hd σ1 H1 ?_⟩
    have e : i = l.length := by omega
    rw [← e]
    exact p
theorem atI_head {α : Type} (c : α) (r : List α) : atI (c :: r) 0 = some c := by
  show atI (c :: r) ((0 : Nat) : Int) = some c
  exact atI_nat rfl
theorem small_size {n : Nat} (h : n ≤ 100000) : n ≤ sizeLine := Nat.le_trans h (by decide)
theorem Same.new {H H' : Hp} {p : Addr} {o : HO} (e : Same H H') (h : H' p = none) : Same H (upd H' p o) := fun a u q => by
  rw [upd_ne (ne_of_none (e a u q) h)]
  exact e a u q
theorem Same.mut {H H' : Hp} {p : Addr} {o : HO} (e : Same H H') (h : H p = none) : Same H (upd H' p o) := fun a u q => by
  rw [upd_ne (ne_of_none q h)]
  exact e a u q
/-- o.m(e, .., k = v, ..) -/
def tMethN (C : Addr) (m : Str) (n j : Nat) (sp : Sp) (gV : List V → List V → List V) (E : XK) (ta : TE) (t tk : TA) : TE := fun σ H Q => ta σ H fun x H1 => ∃ a dx fs, x = .ref a ∧ H1 a = some (.ins C dx fs) ∧ fs.lookup m = none ∧
  t σ H1 fun vs H2 => tk σ H2 fun zs H3 => vs.length = n ∧ zs.length = j ∧ sp (gV (x :: vs) zs) H3 Q E
theorem pe_methN {X : Cx} {CX : CXT} {k n : Nat} {f C : Addr} {fd : FuncData} {ps ks : List Str} {sp : Sp} {E : XK} {m : Str} {o e : Expr} {es : List Expr} {kws : List Keyword} {apos pos : Pos} {ta : TE} {t tk : TA} {g : List Value → List Value → List Value} {gV : List V → List V → List V} {pl : Sem Bool}
    (he : PE X o ta) (c : Cls X.K C) (hm : Meth X.K C m f) (F : FnOk X.prog X.w X.K X.mg X.base CX k f fd ps sp) (hr : Room k X.A) (hb : KBn X.K fd ps (n + 1) ks g gV) (hx : Passes CX X E) (ha : PA X (e :: es) t) (hkw : PK X kws tk)
    (hall : (backToKw pos (keywordEach kws X.env)).all (·.1.isSome) = true := by rfl)
    (hks : (backToKw pos (keywordEach kws X.env)).filterMap (·.1) = ks := by rfl)
    (hst : starEach (e :: es) X.env = (false, eval e X.env) :: starEach es X.env := by rfl)
    (hpl : ((backTo pos (starEach (e :: es) X.env)).any (·.1) || (backToKw pos (keywordEach kws X.env)).any (·.1.isNone)) = false := by rfl)
    (ht : eval (.Call (.Attribute o m apos) (e :: es) kws pos) X.env = (do
      let ov ← eval o X.env
      standAt apos.atName
      let (f, first) ← holding [ov] (getMethod ov m pl)
      callWith pos f first (backTo pos (starEach (e :: es) X.env)) (backToKw pos (keywordEach kws X.env))) := by rfl) :
    PE X (.Call (.Attribute o m apos) (e :: es) kws pos) (tMethN C m n ks.length sp gV E ta t tk) := by
  constructor
  intro pins s σ H Q I hh
  apply PySem.W.methodCall_KW (pl := pl) (he := ht)
  apply thn (he.run pins s σ H _ I hh)
  rintro u s1 ⟨x, H1, I1, rx, a, dx, fs, rfl, ea, l, q⟩
  obtain rfl : u = Value.ref a := rx
  apply getmeth_ok I1 ea c hm l
  apply PySem.W.callWith_KW (first := [.ref a]) (h₀ := X.base) I.ok.mod.kin hm.kp hall (hplain := hpl) (he := hst)
  apply thn (ha.run pos pins s1 σ H1 _ I1 q)
  rintro us s2 ⟨vs, H2, I2, r, q2⟩
  apply thn (hkw.run pos pins s2 σ H2 _ I2 q2)
  rintro ws s3 ⟨zs, H3, I3, rz, l1, l2, q3⟩
  refine ⟨I3.kIn, ?_⟩
  rw [hks]
  exact run_fnN (us := .ref a :: us) (vs := .ref a :: vs) F hr hb hx I3 (.cons rfl r) rz (congrArg Nat.succ l1) l2 q3
theorem updN {H : Hp} {a b : Addr} {o u : HO} (h : b ≠ a) (e : H b = some u) : upd H a o b = some u := (upd_ne h).trans e
theorem neN {H : Hp} {a b : Addr} {u : HO} (h' : H b = none) (h : H a = some u) : a ≠ b := ne_of_none h h'
theorem neN2 {H : Hp} {a b : Addr} {u : HO} (h' : H a = none) (h : H b = some u) : a ≠ b := (ne_of_none h h').symm
theorem Same.at {H H' : Hp} {a : Addr} {u : HO} (s : Same H H') (e : H a = some u) : H' a = some u := s a u e
theorem Same.fresh {H H' : Hp} {a : Addr} (s : Same H H') (e : H' a = none) : H a = none := by
  cases h : H a with
  | none => rfl
  | some u =>
    rw [s a u h] at e
    cases e
theorem freshS {H H' : Hp} {a : Addr} (e : H' a = none) (s : Same H H') : H a = none := s.fresh e
/-! ### a head that asks one more thing of the written part -/
def obsY (n : Nat) (fa : List He.Fa) (fn : List He.DefD) (ex : PySem.W.Frag → Bool) (g : Addr → Option Obj) : He.AlD × Bool := (He.obsDG n fa fn g, ex (He.frG g (He.asD g n)))
def hookY (n : Nat) (fa : List He.Fa) (fn : List He.DefD) (ex : PySem.W.Frag → Bool) : PySem.W.Hook where
  α := He.AlD × Bool
  obs := fun s => obsY n fa fn ex s.heap.get?
  val := fun _ => (He.valD fn, true)
  says := fun _ h => ∃ K : PySem.W.Frag, K.In h ∧ He.SaysD fa fn K ∧ ex K = true
  of := fun _ _ e => ⟨_, He.frG_in, congrArg Prod.fst e, congrArg Prod.snd e⟩
  keeps := fun _ _ _ ⟨K, hK, c⟩ k => ⟨K, PySem.W.Frag.In.keeps hK k, c⟩
theorem obsY_eq {n : Nat} {fa : List He.Fa} {fn : List He.DefD} {ex : PySem.W.Frag → Bool} {g : Addr → Option Obj} {s : Shared} (h : ∀ a, g a = s.heap.get? a) : obsY n fa fn ex g = (hookY n fa fn ex).obs s := by
  have e : g = s.heap.get? := funext h
  rw [e]
  rfl
/-! ### what a class of errors must say, as one Bool -/
def excB (K : PySem.W.Frag) (x : Str) : Bool :=
  decide (PySem.W.findIn K (.ref (He.ga K x)) "__getattribute__" = some (some (.builtin "BaseException.__getattribute__"))) && (decide (PySem.W.findIn K (.ref (He.ga K x)) "__getattr__" = some none) &&
  (decide (PySem.W.subIn K (.ref (He.ga K x)) (.type "BaseException") = some true) && (PySem.W.hasDictIn K (He.ga K x) && (decide (PySem.W.findIn K (.ref (He.ga K x)) "__class__" = some (some (.builtin "object.__class__"))) &&
  (decide (PySem.W.specialIn K (.builtin "object.__class__") "__get__" = some (some (.builtin "getset_descriptor.__get__"))) && (decide (PySem.W.takesIn K (.builtin "object.__class__") = some true) && decide (PySem.W.mroIn K (He.ga K x) (.type "object") = some true)))))))
theorem excB_ok {K : PySem.W.Frag} {x : Str} (h : excB K x = true) : ExcC K (He.ga K x) := by
  obtain ⟨h1, h⟩ := He.ba h
  obtain ⟨h2, h⟩ := He.ba h
  obtain ⟨h3, h⟩ := He.ba h
  obtain ⟨h4, h⟩ := He.ba h
  obtain ⟨h5, h⟩ := He.ba h
  obtain ⟨h6, h⟩ := He.ba h
  obtain ⟨h7, h8⟩ := He.ba h
  exact ⟨of_decide_eq_true h1, of_decide_eq_true h2, of_decide_eq_true h3, h4, of_decide_eq_true h5, of_decide_eq_true h6, of_decide_eq_true h7, of_decide_eq_true h8⟩
/-- isinstance of what a suite holds, its class told by the reading -/
def rIsX (K : PySem.W.Frag) (cls : Value) (dc : Option Addr) (a : Addr) : List V → Hp → VK → Prop := fun xs H Q => ∃ D, cls = .ref D ∧ dc = none ∧ ExcC K D ∧ rIsE K D a xs H Q
theorem call_isX {X : Cx} {a : Addr} {cls : Value} {dc : Option Addr} {oe : Obj} {pn : List (Addr × Obj)} (hz : Zc cls dc oe) (hf : ∃ vs, oe.data = .fields vs) : CallR (X.suite a ((a, oe) :: pn)) (.builtin "isinstance") (rIsX X.K cls dc a) := by
  intro pins s σ H xs us Q I r h
  obtain ⟨D, e1, e2, C, q⟩ := h
  subst e1 e2
  exact call_isE C hz hf pins s σ H xs us Q I r q
end L2
local macro_rules | `(tactic| walk_at "hp") => `(tactic| first
  | assumption
  | exact L2.upd_same
  | (apply L2.updN; (walk_at "ne"); walk_at "hp")
  | (apply L2.Same.at; assumption; walk_at "hp"))
local macro_rules | `(tactic| walk_at "ne") => `(tactic| first
  | assumption
  | exact Ne.symm (by assumption)
  | exact L2.neN (by assumption) (by walk_at "hp")
  | exact L2.neN2 (by assumption) (by walk_at "hp")
  | exact L2.ne_of (by assumption) (by assumption) (by intro z; cases z))
local macro_rules | `(tactic| walk_at "sm") => `(tactic| first
  | exact L2.Same.refl _
  | assumption
  | (refine L2.Same.new ?_ (by assumption); walk_at "sm")
  | (refine L2.Same.mut ?_ (by walk_at "fr"); walk_at "sm")
  | (refine L2.Same.trans ?_ (by assumption); walk_at "sm"))
local macro_rules | `(tactic| walk_at "fr") => `(tactic| first
  | assumption
  | exact L2.freshS (by assumption) (by walk_at "sm"))
/-! ### the words of a reading: sd a side condition, rd one step, rds as many as go by themselves, ri a test -/
local macro_rules | `(tactic| walk_at "sd") => `(tactic| first
  | omega
  | (show (0 : Int) < _; omega)
  | (show (0 : Int) ≤ _; omega)
  | exact .inl ⟨by omega, by omega⟩
  | exact .inr ⟨by omega, by omega⟩
  | exact ⟨by decide, by decide⟩
  | exact ⟨by omega, by omega⟩
  | exact L2.small_size (Nat.le_of_ble_eq_true rfl)
  | exact L2.wide_div (b := 64) (by omega) (by omega) (by decide) (by decide)
  | assumption
  | exact ⟨_, by assumption⟩)
local macro_rules | `(tactic| walk_at "rd") => `(tactic| first
  | refine ⟨_, rfl, ?_⟩
  | refine ⟨_, _, rfl, rfl, ?_⟩
  | refine ⟨_, _, rfl, ?_⟩
  | refine ⟨_, _, _, rfl, ?_⟩
  | refine ⟨_, _, _, _, rfl, ?_⟩
  | refine ⟨_, _, _, _, _, rfl, ?_⟩
  | refine ⟨_, _, _, _, _, _, rfl, ?_⟩
  | refine ⟨rfl, ?_⟩
  | refine L2.iteF ?_
  | refine L2.iteT ?_
  | refine And.intro (by walk_at "sd") ?_
  | refine ⟨_, _, _, _, true, rfl, .ty _, .base (.int _), L2.kit_ty (by decide +kernel), ?_⟩
  | refine ⟨_, _, _, _, false, rfl, .ty _, .base (.int _), L2.kit_ty (by decide +kernel), ?_⟩
  | refine ⟨_, _, _, _, true, rfl, .ty _, .base (.bl _), L2.kit_ty (by decide +kernel), ?_⟩
  | refine ⟨_, _, _, _, false, rfl, .ty _, .base (.bl _), L2.kit_ty (by decide +kernel), ?_⟩
  | refine ⟨_, _, _, _, true, rfl, .ty _, .base (.str _), L2.kit_ty (by decide +kernel), ?_⟩
  | refine ⟨_, _, _, _, false, rfl, .ty _, .base (.str _), L2.kit_ty (by decide +kernel), ?_⟩
  | refine ⟨_, _, _, _, true, rfl, .ty _, .base .non, L2.kit_ty (by decide +kernel), ?_⟩
  | refine ⟨_, _, _, _, false, rfl, .ty _, .base .non, L2.kit_ty (by decide +kernel), ?_⟩)
local macro_rules | `(tactic| walk_at "rds") => `(tactic| repeat walk_at "rd")
local macro_rules | `(tactic| walk_at "rz") => `(tactic| repeat first
  | walk_at "rd"
  | refine fun (_ : Int) => ?_
  | refine fun (_ : (_ : Int) ≤ _) => ?_
  | refine fun (_ : (_ : Int) < _) => ?_)
local macro_rules | `(tactic| walk_at "ri") => `(tactic| first
  | refine L2.iteV ?_ ?_
  | refine L2.iteNV ?_ ?_
  | refine L2.iteD ?_ ?_
  | refine L2.iteND ?_ ?_
  | refine L2.iteB ?_ ?_)
local macro_rules | `(tactic| walk_at "nf") => `(tactic| try dsimp only [L2.start, List.set_cons_zero, List.set_cons_succ])
local macro_rules | `(tactic| walk_at "g94len") => `(tactic| (intro vs H Q E h; first
  | (obtain ⟨e, _⟩ := h; exact congrArg List.length e)
  | (obtain ⟨_, e, _⟩ := h; exact congrArg List.length e)
  | (obtain ⟨_, _, e, _⟩ := h; exact congrArg List.length e)
  | (obtain ⟨_, _, _, e, _⟩ := h; exact congrArg List.length e)
  | (obtain ⟨_, _, _, _, e, _⟩ := h; exact congrArg List.length e)
  | (obtain ⟨_, _, _, _, _, e, _⟩ := h; exact congrArg List.length e)
  | (obtain ⟨_, _, _, _, _, _, e, _⟩ := h; exact congrArg List.length e)
  | (obtain ⟨_, _, _, _, _, _, _, e, _⟩ := h; exact congrArg List.length e)
  | (obtain ⟨_, _, _, _, _, _, _, _, e, _⟩ := h; exact congrArg List.length e)
  | (obtain ⟨_, _, _, _, _, _, _, _, _, e, _⟩ := h; exact congrArg List.length e)
  | (obtain ⟨_, _, _, _, _, _, _, _, _, _, e, _⟩ := h; exact congrArg List.length e)))
local macro_rules | `(tactic| walk_at "g94tr") => `(tactic| (set_option pp.deepTerms false in set_option pp.deepTerms.threshold 8 in trace_state))
namespace G94
open PySem PySem.Spec PyProof.Rows L2
def top (i : Nat) : Stmt := PySem.Challenge.pw_lampcues_k06_whole_course.main.body.getD i (.Pass ⟨0, 0, 0, 0⟩)
abbrev s_stand : Stmt := top 1
theorem sc_stand : FnScope ["start", "end", "length", "top", "bottom", "steps"] ["start", "end", "length", "top", "bottom"] (defScope s_stand) := ⟨rfl, rfl, rfl, by decide +kernel, rfl, by decide +kernel, by decide +kernel⟩
abbrev s_Course_init : Stmt := inClass (top 2) 0
theorem sc_Course_init : FnScope ["self", "worth"] ["self", "worth"] (defScope s_Course_init) := ⟨rfl, rfl, rfl, by decide +kernel, rfl, by decide +kernel, by decide +kernel⟩
abbrev s_Course_at : Stmt := inClass (top 2) 2
theorem sc_Course_at : FnScope ["self", "top", "bottom", "out", "start", "end", "length"] ["self", "top", "bottom"] (defScope s_Course_at) := ⟨rfl, rfl, rfl, by decide +kernel, rfl, by decide +kernel, by decide +kernel⟩
abbrev s_Course_tell : Stmt := inClass (top 2) 1
theorem sc_Course_tell : FnScope ["self", "now", "wait", "rise", "fall", "end", "out", "start", "length", "fade"] ["self", "now", "wait", "rise", "fall", "end"] (defScope s_Course_tell) := ⟨rfl, rfl, rfl, by decide +kernel, rfl, by decide +kernel, by decide +kernel⟩
abbrev s_Course_aim : Stmt := inClass (top 2) 3
theorem sc_Course_aim : FnScope ["self"] ["self"] (defScope s_Course_aim) := ⟨rfl, rfl, rfl, by decide +kernel, rfl, by decide +kernel, by decide +kernel⟩
abbrev s_Course_still : Stmt := inClass (top 2) 4
theorem sc_Course_still : FnScope ["self"] ["self"] (defScope s_Course_still) := ⟨rfl, rfl, rfl, by decide +kernel, rfl, by decide +kernel, by decide +kernel⟩
abbrev s_l_cell_at : Stmt := top 4
theorem sc_l_cell_at : FnScope ["_law_script", "_law_k"] ["_law_script", "_law_k"] (defScope s_l_cell_at) := ⟨rfl, rfl, rfl, by decide +kernel, rfl, by decide +kernel, by decide +kernel⟩
abbrev s_l_whole : Stmt := top 5
theorem sc_l_whole : FnScope ["_law_found"] ["_law_found"] (defScope s_l_whole) := ⟨rfl, rfl, rfl, by decide +kernel, rfl, by decide +kernel, by decide +kernel⟩
abbrev s_l_draw : Stmt := top 6
theorem sc_l_draw : FnScope ["_law_cell", "_law_place", "_law_own", "_law_number"] ["_law_cell", "_law_place"] (defScope s_l_draw) := ⟨rfl, rfl, rfl, by decide +kernel, rfl, by decide +kernel, by decide +kernel⟩
abbrev s_l_far : Stmt := top 7
theorem sc_l_far : FnScope ["_law_cell", "_law_place", "_law_number"] ["_law_cell", "_law_place"] (defScope s_l_far) := ⟨rfl, rfl, rfl, by decide +kernel, rfl, by decide +kernel, by decide +kernel⟩
abbrev s_l_gone : Stmt := top 8
theorem sc_l_gone : FnScope ["_law_start_here", "_law_end", "_law_length", "_law_top", "_law_bottom"] ["_law_start_here", "_law_end", "_law_length", "_law_top", "_law_bottom"] (defScope s_l_gone) := ⟨rfl, rfl, rfl, by decide +kernel, rfl, by decide +kernel, by decide +kernel⟩
abbrev s_l_time : Stmt := top 9
theorem sc_l_time : FnScope ["_law_number", "_law_most"] ["_law_number", "_law_most"] (defScope s_l_time) := ⟨rfl, rfl, rfl, by decide +kernel, rfl, by decide +kernel, by decide +kernel⟩
abbrev s_l_fade : Stmt := top 10
theorem sc_l_fade : FnScope ["_law_cell", "_law_last", "_law_wide", "_law_rising", "_law_most", "_law_now", "_law_times", "_law_k"] ["_law_cell", "_law_last", "_law_wide", "_law_rising"] (defScope s_l_fade) := ⟨rfl, rfl, rfl, by decide +kernel, rfl, by decide +kernel, by decide +kernel⟩
abbrev s_l_spots : Stmt := top 11
theorem sc_l_spots : FnScope ["_law_cell", "_law_fade_here", "_law_out", "_law_number", "_law_bottom", "_law_spots_here", "_law_k", "_law_length"] ["_law_cell", "_law_fade_here"] (defScope s_l_spots) := ⟨rfl, rfl, rfl, by decide +kernel, rfl, by decide +kernel, by decide +kernel⟩
abbrev s_l_answers : Stmt := top 12
theorem sc_l_answers : FnScope ["_law_course", "_law_spots_here", "_law_found", "_law_one", "_law_top", "_law_bottom"] ["_law_course", "_law_spots_here"] (defScope s_l_answers) := ⟨rfl, rfl, rfl, by decide +kernel, rfl, by decide +kernel, by decide +kernel⟩
abbrev s_l_start : Stmt := top 13
theorem sc_l_start : FnScope ["_law_course", "_law_left", "_law_out", "_law_start_here"] ["_law_course", "_law_left", "_law_out"] (defScope s_l_start) := ⟨rfl, rfl, rfl, by decide +kernel, rfl, by decide +kernel, by decide +kernel⟩
abbrev s_l_told : Stmt := top 14
theorem sc_l_told : FnScope ["_law_course", "_law_left", "_law_fade_here", "_law_spots_here", "_law_out", "_law_before", "_law_start_here", "_law_length", "_law_behind", "_law_k", "_law_top", "_law_bottom", "_law_due", "_law_ends"] ["_law_course", "_law_left", "_law_fade_here", "_law_spots_here"] (defScope s_l_told) := ⟨rfl, rfl, rfl, by decide +kernel, rfl, by decide +kernel, by decide +kernel⟩
abbrev s_law : Stmt := top 15
theorem sc_law : FnScope ["_law_script", "_law_wide", "_law_rising", "_law_first", "_law_courses", "_law_left", "_law_last", "_law_cell", "_law_k", "_law_fade_here", "_law_spots_here", "_law_beside"] ["_law_script"] (defScope s_law) := ⟨rfl, rfl, rfl, by decide +kernel, rfl, by decide +kernel, by decide +kernel⟩
def d_stand : He.DefD := ⟨("stand", none), "stand", "stand", defArgs s_stand, defBody s_stand, defScope s_stand, [.int 1], []⟩
def d_Course_init : He.DefD := ⟨("Course", some "__init__"), "__init__", "Course.__init__", defArgs s_Course_init, defBody s_Course_init, defScope s_Course_init, [.int 0], []⟩
def d_Course_at : He.DefD := ⟨("Course", some "at"), "at", "Course.at", defArgs s_Course_at, defBody s_Course_at, defScope s_Course_at, [.int 1], []⟩
def d_Course_tell : He.DefD := ⟨("Course", some "tell"), "tell", "Course.tell", defArgs s_Course_tell, defBody s_Course_tell, defScope s_Course_tell, [], []⟩
def d_Course_aim : He.DefD := ⟨("Course", some "aim"), "aim", "Course.aim", defArgs s_Course_aim, defBody s_Course_aim, defScope s_Course_aim, [], []⟩
def d_Course_still : He.DefD := ⟨("Course", some "still"), "still", "Course.still", defArgs s_Course_still, defBody s_Course_still, defScope s_Course_still, [], []⟩
def d_l_cell_at : He.DefD := ⟨("_law_cell_at", none), "_law_cell_at", "_law_cell_at", defArgs s_l_cell_at, defBody s_l_cell_at, defScope s_l_cell_at, [], []⟩
def d_l_whole : He.DefD := ⟨("_law_whole", none), "_law_whole", "_law_whole", defArgs s_l_whole, defBody s_l_whole, defScope s_l_whole, [], []⟩
def d_l_draw : He.DefD := ⟨("_law_draw", none), "_law_draw", "_law_draw", defArgs s_l_draw, defBody s_l_draw, defScope s_l_draw, [], []⟩
def d_l_far : He.DefD := ⟨("_law_far", none), "_law_far", "_law_far", defArgs s_l_far, defBody s_l_far, defScope s_l_far, [], []⟩
def d_l_gone : He.DefD := ⟨("_law_gone", none), "_law_gone", "_law_gone", defArgs s_l_gone, defBody s_l_gone, defScope s_l_gone, [], []⟩
def d_l_time : He.DefD := ⟨("_law_time", none), "_law_time", "_law_time", defArgs s_l_time, defBody s_l_time, defScope s_l_time, [], []⟩
def d_l_fade : He.DefD := ⟨("_law_fade", none), "_law_fade", "_law_fade", defArgs s_l_fade, defBody s_l_fade, defScope s_l_fade, [], []⟩
def d_l_spots : He.DefD := ⟨("_law_spots", none), "_law_spots", "_law_spots", defArgs s_l_spots, defBody s_l_spots, defScope s_l_spots, [], []⟩
def d_l_answers : He.DefD := ⟨("_law_answers", none), "_law_answers", "_law_answers", defArgs s_l_answers, defBody s_l_answers, defScope s_l_answers, [], []⟩
def d_l_start : He.DefD := ⟨("_law_start", none), "_law_start", "_law_start", defArgs s_l_start, defBody s_l_start, defScope s_l_start, [], []⟩
def d_l_told : He.DefD := ⟨("_law_told", none), "_law_told", "_law_told", defArgs s_l_told, defBody s_l_told, defScope s_l_told, [], []⟩
def d_law : He.DefD := ⟨("law", none), "law", "law", defArgs s_law, defBody s_law, defScope s_law, [], []⟩
def fn : List He.DefD := [d_stand, d_Course_init, d_Course_at, d_Course_tell, d_Course_aim, d_Course_still, d_l_cell_at, d_l_whole, d_l_draw, d_l_far, d_l_gone, d_l_time, d_l_fade, d_l_spots, d_l_answers, d_l_start, d_l_told, d_law]
def fa : List He.Fa := [.glo "stand", .glo "_law_cell_at", .glo "_law_whole", .glo "_law_draw", .glo "_law_far", .glo "_law_gone", .glo "_law_time", .glo "_law_fade", .glo "_law_spots", .glo "_law_answers", .glo "_law_start", .glo "_law_told", .glo "law", .glo "Course", .free "len", .free "abs", .free "max", .free "sum", .free "isinstance", .free "int", .free "bool", .free "min", .free "reversed", .free "range", .cls "Course", .mkr "Course", .noat "Course" "first", .noat "Course" "fades", .meth "Course" "tell", .meth "Course" "at", .meth "Course" "aim", .meth "Course" "still"]
/-- what the top leaves -/
structure Txt (K : PySem.W.Frag) (mg : Str → Option Value) : Prop where
  c : He.SaysD fa fn K
  hp : ∃ h : Heap, K.In h ∧ h.Ns mainGlobals mg
section
variable {K : PySem.W.Frag} {mg : Str → Option Value}
theorem glo_stand (T : Txt K mg) : mg "stand" = some (.ref (He.ga K "stand")) := by
  obtain ⟨h, X, G⟩ := T.hp
  exact He.glo_ok X G (T.c.fact 0 rfl)
theorem glo__law_cell_at (T : Txt K mg) : mg "_law_cell_at" = some (.ref (He.ga K "_law_cell_at")) := by
  obtain ⟨h, X, G⟩ := T.hp
  exact He.glo_ok X G (T.c.fact 1 rfl)
theorem glo__law_whole (T : Txt K mg) : mg "_law_whole" = some (.ref (He.ga K "_law_whole")) := by
  obtain ⟨h, X, G⟩ := T.hp
  exact He.glo_ok X G (T.c.fact 2 rfl)
theorem glo__law_draw (T : Txt K mg) : mg "_law_draw" = some (.ref (He.ga K "_law_draw")) := by
  obtain ⟨h, X, G⟩ := T.hp
  exact He.glo_ok X G (T.c.fact 3 rfl)
theorem glo__law_far (T : Txt K mg) : mg "_law_far" = some (.ref (He.ga K "_law_far")) := by
  obtain ⟨h, X, G⟩ := T.hp
  exact He.glo_ok X G (T.c.fact 4 rfl)
theorem glo__law_gone (T : Txt K mg) : mg "_law_gone" = some (.ref (He.ga K "_law_gone")) := by
  obtain ⟨h, X, G⟩ := T.hp
  exact He.glo_ok X G (T.c.fact 5 rfl)
theorem glo__law_time (T : Txt K mg) : mg "_law_time" = some (.ref (He.ga K "_law_time")) := by
  obtain ⟨h, X, G⟩ := T.hp
  exact He.glo_ok X G (T.c.fact 6 rfl)
theorem glo__law_fade (T : Txt K mg) : mg "_law_fade" = some (.ref (He.ga K "_law_fade")) := by
  obtain ⟨h, X, G⟩ := T.hp
  exact He.glo_ok X G (T.c.fact 7 rfl)
theorem glo__law_spots (T : Txt K mg) : mg "_law_spots" = some (.ref (He.ga K "_law_spots")) := by
  obtain ⟨h, X, G⟩ := T.hp
  exact He.glo_ok X G (T.c.fact 8 rfl)
theorem glo__law_answers (T : Txt K mg) : mg "_law_answers" = some (.ref (He.ga K "_law_answers")) := by
  obtain ⟨h, X, G⟩ := T.hp
  exact He.glo_ok X G (T.c.fact 9 rfl)
theorem glo__law_start (T : Txt K mg) : mg "_law_start" = some (.ref (He.ga K "_law_start")) := by
  obtain ⟨h, X, G⟩ := T.hp
  exact He.glo_ok X G (T.c.fact 10 rfl)
theorem glo__law_told (T : Txt K mg) : mg "_law_told" = some (.ref (He.ga K "_law_told")) := by
  obtain ⟨h, X, G⟩ := T.hp
  exact He.glo_ok X G (T.c.fact 11 rfl)
theorem glo_law (T : Txt K mg) : mg "law" = some (.ref (He.ga K "law")) := by
  obtain ⟨h, X, G⟩ := T.hp
  exact He.glo_ok X G (T.c.fact 12 rfl)
theorem glo_Course (T : Txt K mg) : mg "Course" = some (.ref (He.ga K "Course")) := by
  obtain ⟨h, X, G⟩ := T.hp
  exact He.glo_ok X G (T.c.fact 13 rfl)
theorem free_len (T : Txt K mg) : mg "len" = none := by
  obtain ⟨h, X, G⟩ := T.hp
  exact He.free_ok X G (T.c.fact 14 rfl)
theorem free_abs (T : Txt K mg) : mg "abs" = none := by
  obtain ⟨h, X, G⟩ := T.hp
  exact He.free_ok X G (T.c.fact 15 rfl)
theorem free_max (T : Txt K mg) : mg "max" = none := by
  obtain ⟨h, X, G⟩ := T.hp
  exact He.free_ok X G (T.c.fact 16 rfl)
theorem free_sum (T : Txt K mg) : mg "sum" = none := by
  obtain ⟨h, X, G⟩ := T.hp
  exact He.free_ok X G (T.c.fact 17 rfl)
theorem free_isinstance (T : Txt K mg) : mg "isinstance" = none := by
  obtain ⟨h, X, G⟩ := T.hp
  exact He.free_ok X G (T.c.fact 18 rfl)
theorem free_int (T : Txt K mg) : mg "int" = none := by
  obtain ⟨h, X, G⟩ := T.hp
  exact He.free_ok X G (T.c.fact 19 rfl)
theorem free_bool (T : Txt K mg) : mg "bool" = none := by
  obtain ⟨h, X, G⟩ := T.hp
  exact He.free_ok X G (T.c.fact 20 rfl)
theorem free_min (T : Txt K mg) : mg "min" = none := by
  obtain ⟨h, X, G⟩ := T.hp
  exact He.free_ok X G (T.c.fact 21 rfl)
theorem free_reversed (T : Txt K mg) : mg "reversed" = none := by
  obtain ⟨h, X, G⟩ := T.hp
  exact He.free_ok X G (T.c.fact 22 rfl)
theorem free_range (T : Txt K mg) : mg "range" = none := by
  obtain ⟨h, X, G⟩ := T.hp
  exact He.free_ok X G (T.c.fact 23 rfl)
theorem fact_cls_Course (T : Txt K mg) : (He.Fa.ok K (.cls "Course")) = true := T.c.fact 24 rfl
theorem fact_mk_Course (T : Txt K mg) : (He.Fa.ok K (.mkr "Course")) = true := T.c.fact 25 rfl
theorem fact_na_Course_first (T : Txt K mg) : (He.Fa.ok K (.noat "Course" "first")) = true := T.c.fact 26 rfl
theorem fact_na_Course_fades (T : Txt K mg) : (He.Fa.ok K (.noat "Course" "fades")) = true := T.c.fact 27 rfl
theorem fact_m_Course_tell (T : Txt K mg) : (He.Fa.ok K (.meth "Course" "tell")) = true := T.c.fact 28 rfl
theorem fact_m_Course_at (T : Txt K mg) : (He.Fa.ok K (.meth "Course" "at")) = true := T.c.fact 29 rfl
theorem fact_m_Course_aim (T : Txt K mg) : (He.Fa.ok K (.meth "Course" "aim")) = true := T.c.fact 30 rfl
theorem fact_m_Course_still (T : Txt K mg) : (He.Fa.ok K (.meth "Course" "still")) = true := T.c.fact 31 rfl
end
section
variable {K : PySem.W.Frag} {mg : Str → Option Value}
theorem cls_Course (T : Txt K mg) : Cls K (He.ga K "Course") := He.cls_ok (fact_cls_Course T)
theorem mk_Course (T : Txt K mg) : Mk K (He.ga K "Course") (He.ma K (He.ga K "Course") "__init__") := He.mkr_ok (fact_mk_Course T)
theorem na_Course_first (T : Txt K mg) : NoAttr K (He.ga K "Course") "first" := He.noat_ok (fact_na_Course_first T)
theorem na_Course_fades (T : Txt K mg) : NoAttr K (He.ga K "Course") "fades" := He.noat_ok (fact_na_Course_fades T)
theorem m_Course_tell (T : Txt K mg) : Meth K (He.ga K "Course") "tell" (He.ma K (He.ga K "Course") "tell") := He.meth_ok (fact_m_Course_tell T)
theorem m_Course_at (T : Txt K mg) : Meth K (He.ga K "Course") "at" (He.ma K (He.ga K "Course") "at") := He.meth_ok (fact_m_Course_at T)
theorem m_Course_aim (T : Txt K mg) : Meth K (He.ga K "Course") "aim" (He.ma K (He.ga K "Course") "aim") := He.meth_ok (fact_m_Course_aim T)
theorem m_Course_still (T : Txt K mg) : Meth K (He.ga K "Course") "still" (He.ma K (He.ga K "Course") "still") := He.meth_ok (fact_m_Course_still T)
end
section
variable {P : Program} {w : World} {K : PySem.W.Frag} {mg : Str → Option Value} {base : Heap}
/-! ### stand -/
def way (s e : Int) : Int := if e - s < 0 then -(e - s) else e - s
def stand (s e l t b : Int) : Int :=
  if t < 0 then s else if b * l ≤ t then e else if e < s then s - way s e * t / (b * l) else s + way s e * t / (b * l)
/-- how far the numbers may go -/
def Fits (s e l b : Int) : Prop := 0 ≤ s ∧ s ≤ 1000000000000000000 ∧ 0 ≤ e ∧ e ≤ 1000000000000000000 ∧ 0 ≤ l ∧ l ≤ 1000000000000000000 ∧ 1 ≤ b ∧ b ≤ 1000000000000000000
theorem way_bound {s e l b : Int} (h : Fits s e l b) : 0 ≤ way s e ∧ way s e ≤ 1000000000000000000 := by
  obtain ⟨s0, s1, e0, e1, l0, l1, b0, b1⟩ := h
  unfold way
  split <;> omega
theorem bl_bound {s e l b : Int} (h : Fits s e l b) : (b * l).natAbs < 2 ^ 121 := by
  obtain ⟨s0, s1, e0, e1, l0, l1, b0, b1⟩ := h
  rw [Int.natAbs_mul]
  have h1 : b.natAbs ≤ 10 ^ 18 := by omega
  have h2 : l.natAbs ≤ 10 ^ 18 := by omega
  exact Nat.lt_of_le_of_lt (Nat.mul_le_mul h1 h2) (by decide)
theorem bl_pos {s e l t b : Int} (h : Fits s e l b) (h0 : ¬ t < 0) (h1 : ¬ b * l ≤ t) : 0 < b * l := by omega
def spStand : Sp := fun vs H Q _ => ∃ s e l t b, vs = [.int s, .int e, .int l, .int t, .int b] ∧ Fits s e l b ∧ Q (.int (stand s e l t b)) H
theorem ok_stand (T : Txt K mg) : ∃ fd, FnOk P w K mg base CX0 1 (He.fAd K ("stand", none)) fd ["start", "end", "length", "top", "bottom"] spStand ∧ FunD K "stand" "stand" (defArgs s_stand) (defBody s_stand) (defScope s_stand) [V.int 1] [] (He.fAd K ("stand", none)) fd := by
  obtain ⟨fd, F⟩ := T.c.def_ 0 (d := d_stand) rfl
  refine ⟨fd, F.ok sc_stand (by walk_at "g94len") (fun cdv A outer st H vs Q E hr h => ?_), F⟩
  · obtain ⟨s, e, l, t, b, rfl, hf, k⟩ := h
    refine ⟨_, PSs.nox (pss_cons (ps_if (pt_cmpR op_lt (pv 3) pe_int (nomark _)) (pss_one (ps_ret (pv 0))) pss_nil)
        (pss_cons (ps_if (pt_cmpR op_ge (pv 3) (pe_op op_mul (pv 4) (pv 2)) (nomark _)) (pss_one (ps_ret (pv 1))) pss_nil)
        (pss_cons (ps_set (i := 5) sc_stand.nd rfl (Or.inl rfl) (pe_op op_fdivW (pe_op op_mul (pe_callB call_abs (by rfl) (free_abs T) (by decide +kernel) (pa_cons (pe_op op_sub (pv 1) (pv 0)) pa_nil)) (pv 3)) (pe_op op_mul (pv 4) (pv 2))))
        (pss_cons (ps_if (pt_cmpR op_lt (pv 1) (pv 0) (nomark _)) (pss_one (ps_ret (pe_op op_sub (pv 0) (pv 5)))) pss_nil)
        (pss_one (ps_ret (pe_op op_add (pv 0) (pv 5)))))))), ?_⟩
    unfold stand at k
    have hf' := hf
    obtain ⟨s0, s1, e0, e1, l0, l1, b0, b1⟩ := hf'
    have wb := way_bound hf
    walk_at "rds"
    walk_at "ri" <;> intro c1
    · rw [if_pos c1] at k
      exact ⟨_, rfl, k⟩
    rw [if_neg c1] at k
    refine ⟨_, rfl, _, rfl, _, rfl, _, _, rfl, rfl, .inl ⟨by omega, by omega⟩, _, _, rfl, rfl, _, rfl, ?_⟩
    walk_at "ri" <;> intro c2
    · rw [if_pos c2] at k
      exact ⟨_, rfl, k⟩
    rw [if_neg c2] at k
    have hp := bl_pos hf c1 c2
    refine ⟨_, rfl, _, rfl, _, _, rfl, rfl, _, rfl, _, rfl, _, _, rfl, rfl, .inl ⟨?_, ?_⟩, ?_⟩
    · show -(2 ^ 64) < way s e
      omega
    · show way s e < 2 ^ 64
      omega
    refine ⟨_, rfl, _, rfl, _, _, rfl, rfl, .inl ⟨by omega, by omega⟩, _, _, rfl, rfl, wide_div hp (bl_bound hf) (by decide) (by decide), ?_⟩
    refine ⟨_, rfl, _, rfl, _, _, rfl, rfl, _, rfl, ?_⟩
    walk_at "ri" <;> intro c3
    · rw [if_pos c3] at k
      exact ⟨_, rfl, _, rfl, _, _, rfl, rfl, k⟩
    · rw [if_neg c3] at k
      exact ⟨_, rfl, _, rfl, _, _, rfl, rfl, k⟩
/-! ### courses: the data -/
structure Fade where
  out : Int
  start : Int
  fin : Int
  len : Int
def Fade.v (f : Fade) : List V := [.int f.out, .int f.start, .int f.fin, .int f.len]
structure Crs where
  first : Int
  fades : List Fade
def look (first t b : Int) : List Fade → Int
  | [] => first
  | f :: r => if f.out * b ≤ t then stand f.start f.fin f.len (t - f.out * b) b else look first t b r
theorem look_yes {first t b : Int} {f : Fade} {r : List Fade} (h : f.out * b ≤ t) : look first t b (f :: r) = stand f.start f.fin f.len (t - f.out * b) b := if_pos h
theorem look_no {first t b : Int} {f : Fade} {r : List Fade} (h : ¬ f.out * b ≤ t) : look first t b (f :: r) = look first t b r := if_neg h
def Crs.pos (c : Crs) (t b : Int) : Int := look c.first t b c.fades.reverse
def kept (o : Int) (fs : List Fade) : List Fade := fs.filter fun f => decide (f.out < o)
def Crs.tell (c : Crs) (now wait rise fall fin : Int) : Crs :=
  ⟨c.first, kept (now + wait) c.fades ++ [⟨now + wait, look c.first (now + wait) 1 (kept (now + wait) c.fades).reverse, fin, if look c.first (now + wait) 1 (kept (now + wait) c.fades).reverse < fin then rise else fall⟩]⟩
def Crs.aim (c : Crs) : Int := match c.fades.getLast? with
  | none => c.first
  | some f => f.fin
def Crs.still (c : Crs) : Int := match c.fades.getLast? with
  | none => 0
  | some f => f.out + f.len
def Inr (x : Int) : Prop := 0 ≤ x ∧ x ≤ 1000000000000000000
structure Fade.Good (f : Fade) : Prop where
  s : Inr f.start
  e : Inr f.fin
  l : Inr f.len
structure Crs.Good (c : Crs) : Prop where
  f : Inr c.first
  fs : ∀ f ∈ c.fades, f.Good
theorem stand_in {s e l t b : Int} (hs : Inr s) (he : Inr e) (hl : Inr l) (hb : 1 ≤ b) : Inr (stand s e l t b) := by
  obtain ⟨s0, s1⟩ := hs
  obtain ⟨e0, e1⟩ := he
  obtain ⟨l0, l1⟩ := hl
  unfold stand
  by_cases c1 : t < 0
  · rw [if_pos c1]
    exact ⟨s0, s1⟩
  rw [if_neg c1]
  by_cases c2 : b * l ≤ t
  · rw [if_pos c2]
    exact ⟨e0, e1⟩
  rw [if_neg c2]
  have hp : 0 < b * l := by omega
  have hw : 0 ≤ way s e := by
    unfold way
    split <;> omega
  have g0 : 0 ≤ way s e * t / (b * l) := Int.ediv_nonneg (Int.mul_nonneg hw (by omega)) (by omega)
  have g1 : way s e * t / (b * l) ≤ way s e := by
    have h2 : way s e * t ≤ way s e * (b * l) := Int.mul_le_mul_of_nonneg_left (by omega) hw
    have h3 : way s e * t / (b * l) * (b * l) ≤ way s e * t := Int.ediv_mul_le _ (by omega)
    exact Int.le_of_mul_le_mul_right (Int.le_trans h3 h2) hp
  generalize way s e * t / (b * l) = g at g0 g1 ⊢
  unfold way at g1
  unfold Inr
  by_cases c3 : e < s
  · rw [if_pos c3]
    split at g1 <;> omega
  · rw [if_neg c3]
    split at g1 <;> omega
theorem look_in {first t b : Int} (h0 : Inr first) (hb : 1 ≤ b) : ∀ {fs : List Fade}, (∀ f ∈ fs, f.Good) → Inr (look first t b fs)
  | [], _ => h0
  | f :: r, h => by
    unfold look
    have hf := h f List.mem_cons_self
    split
    · exact stand_in hf.s hf.e hf.l hb
    · exact look_in h0 hb fun g hg => h g (List.mem_cons_of_mem _ hg)
theorem kept_good {o : Int} {fs : List Fade} (h : ∀ f ∈ fs, f.Good) : ∀ f ∈ kept o fs, f.Good := fun f hf => h f (List.mem_filter.mp hf).1
theorem Crs.Good.tell {c : Crs} (h : c.Good) {now wait rise fall fin : Int} (hr : Inr rise) (hf : Inr fall) (he : Inr fin) : (c.tell now wait rise fall fin).Good := by
  refine ⟨h.f, fun f hm => ?_⟩
  rcases List.mem_append.mp hm with hm | hm
  · exact kept_good h.fs f hm
  · have e := List.mem_singleton.mp hm
    subst e
    refine ⟨?_, he, ?_⟩
    · exact look_in h.f (by decide) fun g hg => kept_good h.fs g (List.mem_reverse.mp hg)
    · show Inr (if _ then rise else fall)
      split
      · exact hr
      · exact hf
theorem Crs.tell_len (c : Crs) (now wait rise fall fin : Int) : (c.tell now wait rise fall fin).fades.length ≤ c.fades.length + 1 := by
  have h := List.length_filter_le (fun f : Fade => decide (f.out < now + wait)) c.fades
  show (kept (now + wait) c.fades ++ [_]).length ≤ _
  rw [List.length_append]
  unfold kept
  simp only [List.length_cons, List.length_nil]
  omega
/-! ### courses: the heap -/
def TupsAt (H : Hp) (ts : List Addr) (fs : List Fade) : Prop := ts.length = fs.length ∧ ∀ (i : Nat) t f, ts[i]? = some t → fs[i]? = some f → H t = some (.tup f.v)
theorem TupsAt.mono {H H' : Hp} {ts : List Addr} {fs : List Fade} (h : TupsAt H ts fs) (e : ∀ t xs, H t = some (.tup xs) → H' t = some (.tup xs)) : TupsAt H' ts fs := ⟨h.1, fun i t f a b => e _ _ (h.2 i t f a b)⟩
theorem TupsAt.snoc {H : Hp} {ts : List Addr} {fs : List Fade} (h : TupsAt H ts fs) {t : Addr} {f : Fade} (ht : H t = some (.tup f.v)) : TupsAt H (ts ++ [t]) (fs ++ [f]) := by
  refine ⟨by rw [List.length_append, List.length_append, h.1]; rfl, fun i u g a b => ?_⟩
  by_cases hi : i < ts.length
  · rw [List.getElem?_append_left hi] at a
    rw [List.getElem?_append_left (by rw [← h.1]; exact hi)] at b
    exact h.2 i u g a b
  · have hi' : ts.length ≤ i := by omega
    rw [List.getElem?_append_right hi'] at a
    rw [List.getElem?_append_right (by rw [← h.1]; exact hi'), ← h.1] at b
    cases hk : i - ts.length with
    | zero =>
      rw [hk] at a b
      have e1 : t = u := Option.some.inj a
      have e2 : f = g := Option.some.inj b
      rw [← e1, ← e2]
      exact ht
    | succ k =>
      rw [hk] at a
      cases a
abbrev cC (K : PySem.W.Frag) : Addr := He.ga K "Course"
def cflds (z : Int) (l : Addr) : List (Str × V) := [(("first" : Str), V.int z), (("fades" : Str), V.ref l)]
theorem nff : ¬ (("first" : Str) = "fades") := by decide +kernel
theorem nff2 : ¬ (("fades" : Str) = "first") := by decide +kernel
theorem cf_first (z : Int) (l : Addr) : (cflds z l).lookup ("first" : Str) = some (.int z) := by simp [cflds, List.lookup]
theorem cf_fades (z : Int) (l : Addr) : (cflds z l).lookup ("fades" : Str) = some (.ref l) := by
  have e : (("fades" : Str) == ("first" : Str)) = false := by simpa using nff2
  simp [cflds, List.lookup, e]
theorem cf_no (z : Int) (l : Addr) {m : Str} (h1 : ¬ m = ("first" : Str)) (h2 : ¬ m = ("fades" : Str)) : (cflds z l).lookup m = none := by
  have e1 : (m == ("first" : Str)) = false := by simpa using h1
  have e2 : (m == ("fades" : Str)) = false := by simpa using h2
  simp [cflds, List.lookup, e1, e2]
theorem cf_make (z : Int) (l : Addr) : putF "fades" (.ref l) (putF "first" (.int z) []) = cflds z l := by
  simp [putF, cflds, nff]
theorem cf_put (z : Int) (l l' : Addr) : putF "fades" (.ref l') (cflds z l) = cflds z l' := by
  simp [putF, cflds, nff]
structure CrsAt (K : PySem.W.Frag) (H : Hp) (p : Addr) (c : Crs) : Prop where
  ob : ∃ dx l ts, H p = some (.ins (cC K) dx (cflds c.first l)) ∧ H l = some (.lst (ts.map V.ref)) ∧ TupsAt H ts c.fades
/-- .. its list of fades told -/
structure CrsL (K : PySem.W.Frag) (H : Hp) (p l : Addr) (c : Crs) : Prop where
  ob : ∃ dx ts, H p = some (.ins (cC K) dx (cflds c.first l)) ∧ H l = some (.lst (ts.map V.ref)) ∧ TupsAt H ts c.fades
theorem CrsL.crs {K : PySem.W.Frag} {H : Hp} {p l : Addr} {c : Crs} (h : CrsL K H p l c) : CrsAt K H p c := by
  obtain ⟨dx, ts, h1⟩ := h.ob
  exact ⟨dx, l, ts, h1⟩
theorem CrsL.same {K : PySem.W.Frag} {H H' : Hp} {p l : Addr} {c : Crs} (h : CrsL K H p l c) (e : Same H H') : CrsL K H' p l c := by
  obtain ⟨dx, ts, h1, h2, h3⟩ := h.ob
  exact ⟨dx, ts, e _ _ h1, e _ _ h2, h3.mono fun t xs q => e _ _ q⟩
/-- another list is written -/
theorem CrsL.lst {K : PySem.W.Frag} {H : Hp} {p l a : Addr} {c : Crs} (h : CrsL K H p l c) {xs : List V} {o : HO} (ha : H a = some (.lst xs)) (hl : a ≠ l) : CrsL K (upd H a o) p l c := by
  obtain ⟨dx, ts, h1, h2, h3⟩ := h.ob
  refine ⟨dx, ts, ?_, ?_, h3.mono fun t xs q => ?_⟩
  · rw [upd_ne (ne_of h1 ha (by intro z; cases z))]
    exact h1
  · rw [upd_ne hl.symm]
    exact h2
  · rw [upd_ne (ne_of q ha (by intro z; cases z))]
    exact q
/-- a course stays where all that was tracked stays -/
theorem CrsAt.same {K : PySem.W.Frag} {H H' : Hp} {p : Addr} {c : Crs} (h : CrsAt K H p c) (e : Same H H') : CrsAt K H' p c := by
  obtain ⟨dx, l, ts, h1, h2, h3⟩ := h.ob
  exact ⟨dx, l, ts, e _ _ h1, e _ _ h2, h3.mono fun t xs q => e _ _ q⟩
theorem made_same {H H1 : Hp} {C x dx : Addr} (hx : H x = none) (hd : H dx = none) (k : ∀ b o, upd (upd H dx (.own x)) x (.ins C dx []) b = some o → b ≠ x → H1 b = some o) : Same H H1 := fun b o e => by
  refine k b o ?_ (ne_of_none e hx)
  rw [upd_ne (ne_of_none e hx), upd_ne (ne_of_none e hd)]
  exact e
theorem CrsAt.list {K : PySem.W.Frag} {H H' : Hp} {p : Addr} {c : Crs} (h : CrsAt K H p c) (k : ∀ b o, H b = some o → b ≠ p → H' b = some o) {a : Addr} {xs : List V} (hS : SqL K H a xs) : SqL K H' a xs := by
  obtain ⟨dx, l, ts, h1, _, _⟩ := h.ob
  rcases hS with (q | ⟨o, q⟩) | q
  · exact .inl (.inl (k _ _ q (ne_of q h1 (by intro z; cases z))))
  · exact .inl (.inr ⟨o, k _ _ q (ne_of q h1 (by intro z; cases z))⟩)
  · exact .inr q
theorem CrsAt.tup {K : PySem.W.Frag} {H H' : Hp} {p : Addr} {c : Crs} (h : CrsAt K H p c) (k : ∀ b o, H b = some o → b ≠ p → H' b = some o) {a : Addr} {xs : List V} (e : H a = some (.tup xs)) : H' a = some (.tup xs) := by
  obtain ⟨dx, l, ts, h1, _, _⟩ := h.ob
  exact k _ _ e (ne_of e h1 (by intro z; cases z))
def FPy (fs : List Fade) : List PyData := fs.map fun f => .tuple [.int f.out, .int f.start, .int f.fin, .int f.len]
theorem fpy_lay : ∀ fs : List Fade, PyData.canLayAll0 (FPy fs) = true
  | [] => by simp [FPy, PyData.canLayAll0]
  | f :: r => by
    have ih := fpy_lay r
    unfold FPy at ih ⊢
    simp [PyData.canLayAll0, PyData.canLay0, ih]
theorem fpy_depth : ∀ fs : List Fade, PyData.depthAll (FPy fs) ≤ 1
  | [] => by simp [FPy, PyData.depthAll]
  | f :: r => by
    have ih := fpy_depth r
    unfold FPy at ih ⊢
    simp only [List.map_cons, PyData.depthAll, PyData.depth]
    omega
theorem fpy_shaped (fs : List Fade) : SeqAt.shaped (.list (FPy fs)) = true := by
  unfold SeqAt.shaped
  rw [Bool.and_eq_true]
  refine ⟨by simp only [PyData.canLay0]; exact fpy_lay fs, decide_eq_true ?_⟩
  have h := fpy_depth fs
  simp only [PyData.depth]
  omega
theorem dp_fades {K : PySem.W.Frag} {H : Hp} : ∀ {ts : List Addr} {fs : List Fade}, TupsAt H ts fs → DpAll K H (ts.map V.ref) (FPy fs)
  | [], [], _ => .nil
  | [], _ :: _, h => by cases h.1
  | _ :: _, [], h => by cases h.1
  | t :: ts, f :: fs, h => by
    have h0 : H t = some (.tup f.v) := h.2 0 t f rfl rfl
    have hr : TupsAt H ts fs := ⟨Nat.succ.inj h.1, fun i u g a b => h.2 (i + 1) u g a b⟩
    exact .cons (.tup (SqT.of h0) (.cons (.int _) (.cons (.int _) (.cons (.int _) (.cons (.int _) .nil))))) (dp_fades hr)
theorem eqv_nil (fs : List Fade) : PyData.eqv (.list (FPy fs)) (.list []) = decide (fs = []) := by
  cases fs with
  | nil => simp [FPy, PyData.eqv, PyData.eqvAll]
  | cons f r => simp [FPy, PyData.eqv, PyData.eqvAll]
/-! ### the methods -/
def spInit (K : PySem.W.Frag) : Sp := fun vs H Q _ => ∃ (p dx : Addr) (z : Int), vs = [.ref p, .int z] ∧ H p = some (.ins (cC K) dx []) ∧ ∀ (H' : Hp) (l : Addr), H l = none → l ≠ p → CrsL K H' p l ⟨z, []⟩ → (∀ b o, H b = some o → b ≠ p → H' b = some o) → Q .non H'
theorem ok_Course_init (T : Txt K mg) : ∃ fd, FnOk P w K mg base CX0 1 (He.fAd K ("Course", some "__init__")) fd ["self", "worth"] (spInit K) ∧ FunD K "__init__" "Course.__init__" (defArgs s_Course_init) (defBody s_Course_init) (defScope s_Course_init) [V.int 0] [] (He.fAd K ("Course", some "__init__")) fd := by
  obtain ⟨fd, F⟩ := T.c.def_ 1 (d := d_Course_init) rfl
  refine ⟨fd, F.ok sc_Course_init (by walk_at "g94len") (fun cdv A outer st H vs Q E hr h => ?_), F⟩
  · obtain ⟨p, dx, z, rfl, hp, k⟩ := h
    refine ⟨_, PSs.nox (pss_cons (ps_fld (pv 0) (pv 1) rfl)
        (pss_one (ps_fld (pv 0) (pe_lst pa_nil) rfl))), ?_⟩
    refine ⟨_, rfl, _, rfl, p, cC K, dx, [], rfl, hp, cls_Course T, na_Course_first T, (by show 0 < 1000; decide), ?_⟩
    refine ⟨small_size (Nat.le_of_ble_eq_true rfl), fun l hl => ?_⟩
    have npl : p ≠ l := ne_of_none upd_same hl
    refine ⟨_, rfl, p, cC K, dx, _, rfl, (by rw [upd_ne npl]; exact upd_same), cls_Course T, na_Course_fades T, (by show 1 < 1000; decide), ?_⟩
    have hl0 : H l = none := by
      rw [upd_ne npl.symm] at hl
      exact hl
    refine k _ l hl0 npl.symm ⟨dx, [], ?_, ?_, rfl, fun i t f a => by cases a⟩ fun b o hb hn => ?_
    · rw [upd_same, cf_make]
    · rw [upd_ne npl.symm, upd_same]
      rfl
    · have hl' : H l = none := by
        rw [upd_ne npl.symm] at hl
        exact hl
      rw [upd_ne hn, upd_ne (ne_of_none hb hl'), upd_ne hn]
      exact hb
def spAt (K : PySem.W.Frag) : Sp := fun vs H Q _ => ∃ (p : Addr) (c : Crs) (t b : Int), vs = [.ref p, .int t, .int b] ∧ CrsAt K H p c ∧ c.Good ∧ 1 ≤ b ∧ b ≤ 1000000000000000000 ∧ Q (.int (c.pos t b)) H
theorem ok_Course_at (T : Txt K mg) : ∃ fd, FnOk P w K mg base CX0 2 (He.fAd K ("Course", some "at")) fd ["self", "top", "bottom"] (spAt K) ∧ FunD K "at" "Course.at" (defArgs s_Course_at) (defBody s_Course_at) (defScope s_Course_at) [V.int 1] [] (He.fAd K ("Course", some "at")) fd := by
  obtain ⟨fd, F⟩ := T.c.def_ 2 (d := d_Course_at) rfl
  obtain ⟨fd_stand, G_stand, F_stand⟩ := ok_stand (P := P) (w := w) (base := base) T
  have kp_stand := F_stand.kp
  obtain ⟨d0_stand, v0_stand, b0_stand⟩ : ∃ ds, Vals ([V.int 1].drop 1) ds ∧ Binds K fd_stand ["start", "end", "length", "top", "bottom"] ds := F_stand.binds1 5 1 (by decide) rfl (fun _ _ _ _ _ _ _ us its h1 h2 => match us, its, h1, h2 with | [_, _, _, _, _], [_], _, _ => ⟨_, rfl, rfl⟩)
  refine ⟨fd, F.ok sc_Course_at (by walk_at "g94len") (fun cdv A outer st H vs Q E hr h => ?_), F⟩
  · obtain ⟨p, c, t, b, rfl, hc, hg, b0, b1, k⟩ := h
    obtain ⟨dx, l, ts, h1, h2, h3⟩ := hc.ob
    refine ⟨_, PSs.nox (pss_cons (ps_for PassesOwn.never rfl (pi_reversed (by rfl) (free_reversed T) (pa_cons (pe_fld (pv 0) rfl) pa_nil)) (pg_tup rfl (pgs_cons (pg_name (i := 3) sc_Course_at.nd rfl (Or.inl rfl)) (pgs_cons (pg_name (i := 4) sc_Course_at.nd rfl (Or.inl rfl)) (pgs_cons (pg_name (i := 5) sc_Course_at.nd rfl (Or.inl rfl)) (pgs_cons (pg_name (i := 6) sc_Course_at.nd rfl (Or.inl rfl)) pgs_nil))))) (pss_one (ps_if (pt_cmpR op_le (pe_op op_mul (pv 3) (pv 2)) (pv 1) (nomark _)) (pss_one (ps_ret (pe_call G_stand (hr.mono (by decide)) rfl (glo_stand T) kp_stand b0_stand v0_stand pass0 (pa_cons (pv 4) (pa_cons (pv 5) (pa_cons (pv 6) (pa_cons (pe_op op_sub (pv 1) (pe_op op_mul (pv 3) (pv 2))) (pa_cons (pv 2) pa_nil)))))))) pss_nil)))
        (pss_one (ps_ret (pe_fld (pv 0) rfl)))), ?_⟩
    refine ⟨_, rfl, p, cC K, dx, _, _, rfl, h1, cls_Course T, na_Course_fades T, cf_fades _ _, l, ts.map V.ref, rfl, SqL.of h2, ?_⟩
    refine RT.for_Itv (K := K) (a := l) (xs := ts.map V.ref) (fun i σ' H' => ∃ v3 v4 v5 v6, σ' = [some (.ref p), some (.int t), some (.int b), v3, v4, v5, v6] ∧ H' = H ∧ c.pos t b = look c.first t b (c.fades.reverse.drop i))
      ⟨_, _, _, _, rfl, rfl, rfl⟩ (fun i σ' H' ⟨_, _, _, _, _, e, _⟩ => by rw [e]; exact SqL.of h2) ?_ ?_
    · rintro i x σ' H' hi hx ⟨v3, v4, v5, v6, rfl, rfl, hl⟩
      rw [List.length_map] at hi hx
      obtain ⟨u, hu, rfl⟩ : ∃ u, ts[ts.length - 1 - i]? = some u ∧ x = V.ref u := by
        rw [List.getElem?_map] at hx
        cases e : ts[ts.length - 1 - i]? with
        | none =>
          rw [e] at hx
          cases hx
        | some u =>
          rw [e] at hx
          exact ⟨u, rfl, (Option.some.inj hx).symm⟩
      have hlen := h3.1
      have hj : c.fades.length - 1 - i < c.fades.length := by omega
      have hf : c.fades[ts.length - 1 - i]? = some c.fades[c.fades.length - 1 - i] := by
        rw [hlen]
        exact List.getElem?_eq_getElem hj
      have ht := h3.2 _ u _ hu hf
      have hgf := hg.fs _ (List.getElem_mem hj)
      have hir : i < c.fades.reverse.length := by
        rw [List.length_reverse]
        omega
      have hd : c.fades.reverse.drop i = c.fades[c.fades.length - 1 - i] :: c.fades.reverse.drop (i + 1) := by
        rw [List.drop_eq_getElem_cons hir, List.getElem_reverse]
      rw [hd] at hl
      generalize c.fades[c.fades.length - 1 - i] = f at ht hgf hl
      obtain ⟨⟨s0, s1⟩, ⟨e0, e1⟩, ⟨l0, l1⟩⟩ := hgf
      refine ⟨u, _, rfl, SqT.of ht, rfl, ?_⟩
      walk_at "rds"
      walk_at "ri" <;> intro c1
      · have q : c.pos t b = stand f.start f.fin f.len (t - f.out * b) b := by
          rw [hl, look_yes c1]
        rw [q] at k
        have hfit : Fits f.start f.fin f.len b := ⟨s0, s1, e0, e1, l0, l1, b0, b1⟩
        walk_at "rds"
        exact k
      · refine ⟨_, _, _, _, rfl, rfl, ?_⟩
        rw [hl, look_no c1]
    · rintro σ' H' ⟨v3, v4, v5, v6, rfl, rfl, hl⟩
      have q : c.pos t b = c.first := by
        rw [hl]
        have e : c.fades.reverse.drop (ts.map V.ref).length = [] := by
          rw [List.length_map, h3.1]
          exact List.drop_eq_nil_of_le (by rw [List.length_reverse]; exact Nat.le_refl _)
        rw [e]
        rfl
      rw [q] at k
      exact ⟨_, rfl, p, cC K, dx, _, _, rfl, h1, cls_Course T, na_Course_first T, cf_first _ _, k⟩
def spAim (K : PySem.W.Frag) : Sp := fun vs H Q _ => ∃ (p : Addr) (c : Crs), vs = [.ref p] ∧ CrsAt K H p c ∧ ∀ H', Same H H' → Q (.int c.aim) H'
theorem fades_last {ts : List Addr} {fs : List Fade} {H : Hp} (h : TupsAt H ts fs) (hn : ¬ fs = []) : ∃ (t : Addr) (f : Fade), atI (ts.map V.ref) (-1) = some (V.ref t) ∧ fs.getLast? = some f ∧ H t = some (.tup f.v) := by
  have hl : 0 < fs.length := List.length_pos_iff.mpr hn
  have e := h.1
  have hj : ts.length - 1 < ts.length := by omega
  have hk : fs.length - 1 < fs.length := by omega
  refine ⟨ts[ts.length - 1], fs[fs.length - 1], ?_, ?_, ?_⟩
  · have hx : (ts.map V.ref)[ts.length - 1]? = some (V.ref ts[ts.length - 1]) := by
      rw [List.getElem?_map, List.getElem?_eq_getElem hj]
      rfl
    unfold atI ixN
    rw [if_neg (by decide), if_pos (by rw [List.length_map]; omega), Option.bind_some, List.length_map]
    have e2 : ((-1 : Int) + (ts.length : Int)).toNat = ts.length - 1 := by omega
    rw [e2]
    exact hx
  · rw [List.getLast?_eq_getElem?]
    exact List.getElem?_eq_getElem hk
  · exact h.2 (ts.length - 1) _ _ (List.getElem?_eq_getElem hj) (by rw [e]; exact List.getElem?_eq_getElem hk)
theorem ok_Course_aim (T : Txt K mg) : ∃ fd, FnOk P w K mg base CX0 1 (He.fAd K ("Course", some "aim")) fd ["self"] (spAim K) ∧ FunD K "aim" "Course.aim" (defArgs s_Course_aim) (defBody s_Course_aim) (defScope s_Course_aim) [] [] (He.fAd K ("Course", some "aim")) fd := by
  obtain ⟨fd, F⟩ := T.c.def_ 4 (d := d_Course_aim) rfl
  refine ⟨fd, F.ok sc_Course_aim (by walk_at "g94len") (fun cdv A outer st H vs Q E hr h => ?_), F⟩
  · obtain ⟨p, c, rfl, hc, k⟩ := h
    obtain ⟨dx, l, ts, h1, h2, h3⟩ := hc.ob
    refine ⟨_, PSs.nox (pss_cons (ps_if (pt_cmpR (op_eqD hr.units) (pe_fld (pv 0) rfl) (pe_lst pa_nil) (nomark _)) (pss_one (ps_ret (pe_fld (pv 0) rfl))) pss_nil)
        (pss_one (ps_ret (pe_ix ix_tup (pe_ix ix_list (pe_fld (pv 0) rfl) pe_negC (fun _ _ => rfl)) pe_int (fun _ _ => rfl))))), ?_⟩
    refine ⟨_, rfl, p, cC K, dx, _, _, rfl, h1, cls_Course T, na_Course_fades T, cf_fades _ _, small_size (Nat.le_of_ble_eq_true rfl), fun e he => ?_⟩
    have s1 := (Same.refl H).new (o := HO.lst []) he
    have h3' : TupsAt (upd H e (HO.lst [])) ts c.fades := h3.mono fun t xs q => s1 _ _ q
    refine ⟨_, _, .lst (SqL.of (s1 _ _ h2)) (dp_fades h3'), .lst (SqL.of upd_same) .nil, fpy_shaped _, by decide, ?_⟩
    rw [eqv_nil]
    walk_at "rds"
    walk_at "ri" <;> intro c1
    · refine ⟨_, rfl, p, cC K, dx, _, _, rfl, s1 _ _ h1, cls_Course T, na_Course_first T, cf_first _ _, ?_⟩
      have q := k _ s1
      unfold Crs.aim at q
      rw [c1] at q
      exact q
    · obtain ⟨t, f, e1, e2, e3⟩ := fades_last h3 c1
      refine ⟨_, rfl, p, cC K, dx, _, _, rfl, s1 _ _ h1, cls_Course T, na_Course_fades T, cf_fades _ _, l, _, _, _, rfl, rfl, SqL.of (s1 _ _ h2), e1, t, _, _, _, rfl, rfl, SqT.of (s1 _ _ e3), rfl, ?_⟩
      have q := k _ s1
      unfold Crs.aim at q
      rw [e2] at q
      exact q
def spStill (K : PySem.W.Frag) : Sp := fun vs H Q _ => ∃ (p : Addr) (c : Crs), vs = [.ref p] ∧ CrsAt K H p c ∧ ∀ H', Same H H' → Q (.int c.still) H'
theorem ok_Course_still (T : Txt K mg) : ∃ fd, FnOk P w K mg base CX0 1 (He.fAd K ("Course", some "still")) fd ["self"] (spStill K) ∧ FunD K "still" "Course.still" (defArgs s_Course_still) (defBody s_Course_still) (defScope s_Course_still) [] [] (He.fAd K ("Course", some "still")) fd := by
  obtain ⟨fd, F⟩ := T.c.def_ 5 (d := d_Course_still) rfl
  refine ⟨fd, F.ok sc_Course_still (by walk_at "g94len") (fun cdv A outer st H vs Q E hr h => ?_), F⟩
  · obtain ⟨p, c, rfl, hc, k⟩ := h
    obtain ⟨dx, l, ts, h1, h2, h3⟩ := hc.ob
    refine ⟨_, PSs.nox (pss_cons (ps_if (pt_cmpR (op_eqD hr.units) (pe_fld (pv 0) rfl) (pe_lst pa_nil) (nomark _)) (pss_one (ps_ret pe_int)) pss_nil)
        (pss_one (ps_ret (pe_op op_add (pe_ix ix_tup (pe_ix ix_list (pe_fld (pv 0) rfl) pe_negC (fun _ _ => rfl)) pe_int (fun _ _ => rfl)) (pe_ix ix_tup (pe_ix ix_list (pe_fld (pv 0) rfl) pe_negC (fun _ _ => rfl)) pe_int (fun _ _ => rfl)))))), ?_⟩
    refine ⟨_, rfl, p, cC K, dx, _, _, rfl, h1, cls_Course T, na_Course_fades T, cf_fades _ _, small_size (Nat.le_of_ble_eq_true rfl), fun e he => ?_⟩
    have s1 := (Same.refl H).new (o := HO.lst []) he
    have h3' : TupsAt (upd H e (HO.lst [])) ts c.fades := h3.mono fun t xs q => s1 _ _ q
    refine ⟨_, _, .lst (SqL.of (s1 _ _ h2)) (dp_fades h3'), .lst (SqL.of upd_same) .nil, fpy_shaped _, by decide, ?_⟩
    rw [eqv_nil]
    walk_at "rds"
    walk_at "ri" <;> intro c1
    · have q := k _ s1
      unfold Crs.still at q
      rw [c1] at q
      exact q
    · obtain ⟨t, f, e1, e2, e3⟩ := fades_last h3 c1
      refine ⟨_, rfl, p, cC K, dx, _, _, rfl, s1 _ _ h1, cls_Course T, na_Course_fades T, cf_fades _ _, l, _, _, _, rfl, rfl, SqL.of (s1 _ _ h2), e1, t, _, _, _, rfl, rfl, SqT.of (s1 _ _ e3), rfl, ?_⟩
      refine ⟨_, rfl, p, cC K, dx, _, _, rfl, s1 _ _ h1, cls_Course T, na_Course_fades T, cf_fades _ _, l, _, _, _, rfl, rfl, SqL.of (s1 _ _ h2), e1, t, _, _, _, rfl, rfl, SqT.of (s1 _ _ e3), rfl, ?_⟩
      have q := k _ s1
      unfold Crs.still at q
      rw [e2] at q
      exact ⟨_, _, rfl, rfl, q⟩
theorem ref_at {ts : List Addr} {i : Nat} {y : V} (h : (ts.map V.ref)[i]? = some y) : ∃ u, y = V.ref u ∧ ts[i]? = some u ∧ i < ts.length := by
  rw [List.getElem?_map] at h
  cases e : ts[i]? with
  | none =>
    rw [e] at h
    cases h
  | some u =>
    rw [e] at h
    exact ⟨u, (Option.some.inj h).symm, rfl, (List.getElem?_eq_some_iff.mp e).1⟩
theorem take_snoc {α : Type} {l : List α} {i : Nat} {x : α} (h : l[i]? = some x) : l.take (i + 1) = l.take i ++ [x] := by
  rw [List.take_add_one, h]
  rfl
theorem kept_yes {o : Int} {fs : List Fade} {f : Fade} (h : f.out < o) : kept o (fs ++ [f]) = kept o fs ++ [f] := by
  unfold kept
  rw [List.filter_append, List.filter_cons, if_pos (by simpa using h)]
  rfl
theorem kept_no {o : Int} {fs : List Fade} {f : Fade} (h : ¬ f.out < o) : kept o (fs ++ [f]) = kept o fs := by
  unfold kept
  rw [List.filter_append, List.filter_cons, if_neg (by simpa using h)]
  exact List.append_nil _
def spTell (K : PySem.W.Frag) : Sp := fun vs H Q _ => ∃ (p : Addr) (c : Crs) (now wait rise fall fin : Int), vs = [.ref p, .int now, .int wait, .int rise, .int fall, .int fin] ∧ CrsAt K H p c ∧ c.Good ∧ c.fades.length ≤ 1000 ∧
  ∀ (H' : Hp) (l : Addr), H l = none → CrsL K H' p l (c.tell now wait rise fall fin) → (∀ b o, H b = some o → b ≠ p → H' b = some o) → Q .non H'
theorem ok_Course_tell (T : Txt K mg) : ∃ fd, FnOk P w K mg base CX0 3 (He.fAd K ("Course", some "tell")) fd ["self", "now", "wait", "rise", "fall", "end"] (spTell K) ∧ FunD K "tell" "Course.tell" (defArgs s_Course_tell) (defBody s_Course_tell) (defScope s_Course_tell) [] [] (He.fAd K ("Course", some "tell")) fd := by
  obtain ⟨fd, F⟩ := T.c.def_ 3 (d := d_Course_tell) rfl
  obtain ⟨fd_Course_at, G_Course_at, F_Course_at⟩ := ok_Course_at (P := P) (w := w) (base := base) T
  have kp_Course_at := F_Course_at.kp
  obtain ⟨d1_Course_at, v1_Course_at, b1_Course_at⟩ : ∃ ds, Vals ([V.int 1].drop 0) ds ∧ Binds K fd_Course_at ["self", "top", "bottom"] ds := F_Course_at.binds1 2 0 (by decide) rfl (fun _ _ _ _ _ _ _ us its h1 h2 => match us, its, h1, h2 with | [_, _], [_], _, _ => ⟨_, rfl, rfl⟩)
  refine ⟨fd, F.ok sc_Course_tell (by walk_at "g94len") (fun cdv A outer st H vs Q E hr h => ?_), F⟩
  · obtain ⟨p, c, now, wait, rise, fall, fin, rfl, hc, hg, hlen, k⟩ := h
    obtain ⟨dx, l, ts, h1, h2, h3⟩ := hc.ob
    refine ⟨_, PSs.nox (pss_cons (ps_set (i := 6) sc_Course_tell.nd rfl (Or.inr rfl) (pe_op op_add (pv 1) (pv 2)))
        (pss_cons (ps_fld (pv 0) (pe_lc (own := [("fade", 9)]) (g := gName 9) rfl sc_Course_tell.nd (pi_list (pe_fld (pv 0) rfl)) (blkOk_by (own := [("fade", 9)]) (N := ["self", "now", "wait", "rise", "fall", "end", "out", "start", "length", "fade"]) (sc := defScope s_Course_tell) (by decide +kernel)) (fun _ _ _ _ _ => pg_name (i := 9) sc_Course_tell.nd rfl (Or.inl rfl)) (fun _ _ _ _ _ => (pts_one (pt_cmpR op_lt (pe_ix (show IxR _ (rIxT K) from ix_tup) (pv 9) pe_int (fun _ _ => rfl)) (pv 6) (nomark _)))) (fun _ _ _ _ _ => (pv 9))) rfl)
        (pss_cons (ps_set (i := 7) sc_Course_tell.nd rfl (Or.inl rfl) (pe_meth (pv 0) (cls_Course T) (m_Course_at T) G_Course_at (hr.mono (by decide)) b1_Course_at v1_Course_at pass0 (pa_cons (pv 6) pa_nil)))
        (pss_cons (ps_set (i := 8) sc_Course_tell.nd rfl (Or.inl rfl) (pv 4))
        (C8.pss_cut (ps_if (pt_cmpR op_gt (pv 5) (pv 7) (nomark _)) (pss_one (ps_set (i := 8) sc_Course_tell.nd rfl (Or.inl rfl) (pv 3))) pss_nil)
        (pss_one (ps_expr (pe_bm PySem.F.plainAttrs_list PySem.F.slot_list_append PySem.F.type_list_append mt_append (pe_fld (pv 0) rfl) (pa_cons (pe_tup (pa_cons (pv 6) (pa_cons (pv 7) (pa_cons (pv 5) (pa_cons (pv 8) pa_nil))))) pa_nil))))))))), ?_⟩
    walk_at "rds"
    refine ⟨p, cC K, dx, _, _, rfl, h1, cls_Course T, na_Course_fades T, cf_fades _ _, l, rfl, ⟨_, SqL.of h2⟩, fun D hD => ?_⟩
    have npD : p ≠ D := ne_of_none h1 hD
    refine lc_list (K := K) (a := l) (xs := ts.map V.ref) (fun i H' => ∃ acc : List Addr, H' D = some (.lst (acc.map V.ref)) ∧ acc.length ≤ i ∧ TupsAt H acc (kept (now + wait) (c.fades.take i)) ∧ Same H H')
      ⟨[], upd_same, Nat.le_refl _, ⟨rfl, fun i t f a => by cases a⟩, (Same.refl H).new hD⟩ (fun i H' _ ⟨_, _, _, _, s⟩ => s.seq (SqL.of h2)) ?_ ?_
    · rintro i y H' hi ⟨acc, hacc, hal, hta, s⟩
      obtain ⟨u, rfl, hu, hlt⟩ := ref_at hi
      have hlt2 : i < c.fades.length := by
        rw [← h3.1]
        exact hlt
      have hf : c.fades[i]? = some c.fades[i] := List.getElem?_eq_getElem hlt2
      have ht := h3.2 _ u _ hu hf
      rw [take_snoc hf]
      generalize c.fades[i] = f at ht
      refine ⟨rfl, ?_⟩
      refine ⟨_, rfl, u, _, _, _, rfl, rfl, SqT.of (s _ _ ht), rfl, ?_⟩
      walk_at "rds"
      walk_at "ri" <;> intro c1
      · walk_at "rds"
        refine ⟨acc.map V.ref, hacc, ?_, acc ++ [u], ?_, ?_, ?_, s.mut hD⟩
        · rw [List.length_map]
          have := h3.1
          exact Nat.lt_of_le_of_lt (show acc.length ≤ 1000 by omega) (by decide)
        · rw [upd_same, List.map_append]
          rfl
        · rw [List.length_append]
          show acc.length + 1 ≤ i + 1
          omega
        · rw [kept_yes c1]
          exact hta.snoc ht
      · rw [kept_no c1]
        exact ⟨acc, hacc, by omega, hta, s⟩
    rintro H1 ⟨acc, hacc, hal, hta, s1⟩
    rw [List.length_map, h3.1, List.take_length] at hta
    rw [List.length_map, h3.1] at hal
    refine ⟨_, rfl, p, cC K, dx, _, rfl, s1 _ _ h1, cls_Course T, na_Course_fades T, (by show 2 < 1000; decide), ?_⟩
    rw [cf_put]
    have hpD : D ≠ p := fun e => npD e.symm
    have hT : ∀ t xs, H t = some (.tup xs) → upd H1 p (.ins (cC K) dx (cflds c.first D)) t = some (.tup xs) := fun t xs e => by
      rw [upd_ne (ne_of e h1 (by intro z; cases z))]
      exact s1 _ _ e
    have hc2 : CrsAt K (upd H1 p (.ins (cC K) dx (cflds c.first D))) p ⟨c.first, kept (now + wait) c.fades⟩ := ⟨dx, D, acc, upd_same, by rw [upd_ne hpD]; exact hacc, hta.mono hT⟩
    have hg2 : (Crs.mk c.first (kept (now + wait) c.fades)).Good := ⟨hg.f, kept_good hg.fs⟩
    refine ⟨_, rfl, p, dx, _, rfl, upd_same, cf_no _ _ (by decide +kernel) (by decide +kernel), _, rfl, p, _, now + wait, 1, rfl, hc2, hg2, by decide, by decide, ?_⟩
    walk_at "nf"
    have q : Crs.pos ⟨c.first, kept (now + wait) c.fades⟩ (now + wait) 1 = look c.first (now + wait) 1 (kept (now + wait) c.fades).reverse := rfl
    rw [q]
    have kk : c.tell now wait rise fall fin = ⟨c.first, kept (now + wait) c.fades ++ [⟨now + wait, look c.first (now + wait) 1 (kept (now + wait) c.fades).reverse, fin, if look c.first (now + wait) 1 (kept (now + wait) c.fades).reverse < fin then rise else fall⟩]⟩ := rfl
    rw [kk] at k
    generalize look c.first (now + wait) 1 (kept (now + wait) c.fades).reverse = s at k ⊢
    walk_at "rds"
    refine ⟨fun σ' H' => ∃ y : Int, σ' = [some (.ref p), some (.int now), some (.int wait), some (.int rise), some (.int fall), some (.int fin), some (.int (now + wait)), some (.int s), some (.int y), none] ∧ y = (if s < fin then rise else fall) ∧ H' = upd H1 p (.ins (cC K) dx (cflds c.first D)), ?_, ?_⟩
    · walk_at "rds"
      walk_at "ri" <;> intro c1
      · rw [if_pos c1]
        walk_at "rds"
        rfl
      · rw [if_neg c1]
        walk_at "rds"
        rfl
    rintro σ' H' ⟨y, rfl, hy, rfl⟩
    refine ⟨_, rfl, p, cC K, dx, _, _, rfl, upd_same, cls_Course T, na_Course_fades T, cf_fades _ _, Or.inl ⟨rfl, _, SqL.of (by rw [upd_ne hpD]; exact hacc)⟩, ?_⟩
    walk_at "rds"
    intro t ht
    have ht1 : H1 t = none := by
      by_cases e : t = p
      · rw [e, upd_same] at ht
        cases ht
      · rw [upd_ne e] at ht
        exact ht
    have ntp : p ≠ t := ne_of_none (s1 _ _ h1) ht1
    have ntD : D ≠ t := ne_of_none hacc ht1
    refine ⟨D, acc.map V.ref, .ref t, rfl, rfl, ?_, ?_, ?_⟩
    · rw [upd_ne ntD, upd_ne hpD]
      exact hacc
    · rw [List.length_map]
      exact Nat.lt_of_le_of_lt (show acc.length ≤ 1000 by omega) (by decide)
    rw [← hy] at k
    refine k _ D hD ⟨dx, acc ++ [t], ?_, ?_, ?_⟩ ?_
    · rw [upd_ne npD, upd_ne ntp, upd_same]
    · rw [upd_same, List.map_append]
      rfl
    · refine TupsAt.snoc ?_ ?_
      · refine hta.mono fun u xs e => ?_
        rw [upd_ne (ne_of_none e hD), upd_ne (ne_of_none (s1 _ _ e) ht1)]
        exact hT u xs e
      · rw [upd_ne ntD.symm, upd_same]
        rfl
    · intro b o e hb
      rw [upd_ne (ne_of_none e hD), upd_ne (ne_of_none (s1 _ _ e) ht1), upd_ne hb]
      exact s1 _ _ e
/-! ### the fades told, and those that lie on one another -/
structure WF (c : Crs) : Prop where
  srt : c.fades.Pairwise fun f g => f.out < g.out
  st : ∀ (q : List Fade) (f : Fade) (r : List Fade), c.fades = q ++ f :: r → f.start = look c.first f.out 1 q.reverse
theorem look_skip {first t b : Int} : ∀ {l m : List Fade}, (∀ f ∈ l, ¬ f.out * b ≤ t) → look first t b (l ++ m) = look first t b m
  | [], _, _ => rfl
  | f :: r, m, h => by
    rw [List.cons_append, look_no (h f List.mem_cons_self)]
    exact look_skip fun g hg => h g (List.mem_cons_of_mem _ hg)
theorem kept_all {o : Int} {l : List Fade} (h : ∀ f ∈ l, f.out < o) : kept o l = l := List.filter_eq_self.mpr fun f hf => decide_eq_true (h f hf)
theorem kept_none {o : Int} {l : List Fade} (h : ∀ f ∈ l, ¬ f.out < o) : kept o l = [] := List.filter_eq_nil_iff.mpr fun f hf => by
  rw [decide_eq_true_eq]
  exact h f hf
theorem kept_app {o : Int} {l m : List Fade} : kept o (l ++ m) = kept o l ++ kept o m := List.filter_append ..
/-- none sets out just then -/
theorem left_free {c : Crs} {o : Int} {pre suf : List Fade} (e : c.fades = pre ++ suf) (h1 : ∀ f ∈ pre, f.out < o) (h2 : ∀ g ∈ suf, o < g.out) : kept o c.fades = pre ∧ c.pos o 1 = look c.first o 1 pre.reverse := by
  refine ⟨?_, ?_⟩
  · rw [e, kept_app, kept_all h1, kept_none fun f hf => by have := h2 f hf; omega, List.append_nil]
  · unfold Crs.pos
    rw [e, List.reverse_append]
    exact look_skip fun f hf => by
      have := h2 f (List.mem_reverse.mp hf)
      omega
/-- one sets out just then -/
theorem left_same {c : Crs} (W : WF c) {o : Int} {q suf : List Fade} {f : Fade} (e : c.fades = q ++ [f] ++ suf) (hf : f.out = o) (h2 : ∀ g ∈ suf, o < g.out) : kept o c.fades = q ∧ f.start = look c.first o 1 q.reverse := by
  have e2 : c.fades = q ++ f :: suf := by rw [e, List.append_assoc]; rfl
  have hs := W.srt
  rw [e2, List.pairwise_append] at hs
  refine ⟨?_, ?_⟩
  · rw [e2, kept_app, kept_all fun g hg => by have := hs.2.2 g hg f List.mem_cons_self; omega, kept_none fun g hg => ?_, List.append_nil]
    rcases List.mem_cons.mp hg with rfl | hg
    · omega
    · have := h2 g hg
      omega
  · have := W.st q f suf e2
    rw [hf] at this
    exact this
/-- what is kept is a beginning -/
theorem kept_pre {c : Crs} (W : WF c) (o : Int) : ∃ suf, c.fades = kept o c.fades ++ suf ∧ ∀ g ∈ suf, o ≤ g.out := by
  have key : ∀ l : List Fade, l.Pairwise (fun f g => f.out < g.out) → ∃ suf, l = kept o l ++ suf ∧ ∀ g ∈ suf, o ≤ g.out := by
    intro l
    induction l with
    | nil => exact fun _ => ⟨[], rfl, fun g hg => by cases hg⟩
    | cons f r ih =>
      intro h
      rw [List.pairwise_cons] at h
      by_cases c1 : f.out < o
      · obtain ⟨suf, e, hs⟩ := ih h.2
        refine ⟨suf, ?_, hs⟩
        have e2 : kept o (f :: r) = f :: kept o r := by
          unfold kept
          rw [List.filter_cons, if_pos (decide_eq_true c1)]
        rw [e2, List.cons_append, ← e]
      · refine ⟨f :: r, ?_, fun g hg => ?_⟩
        · rw [kept_none (o := o) (l := f :: r) fun g hg => ?_, List.nil_append]
          rcases List.mem_cons.mp hg with rfl | hg
          · exact c1
          · have := h.1 g hg
            omega
        · rcases List.mem_cons.mp hg with rfl | hg
          · omega
          · have := h.1 g hg
            omega
  exact key _ W.srt
theorem WF.tell {c : Crs} (W : WF c) {now wait rise fall fin : Int} : WF (c.tell now wait rise fall fin) := by
  obtain ⟨suf, e, hs⟩ := kept_pre W (now + wait)
  refine ⟨?_, ?_⟩
  · show (kept (now + wait) c.fades ++ [_]).Pairwise _
    rw [List.pairwise_append]
    refine ⟨W.srt.filter _, List.pairwise_singleton _ _, fun f hf g hg => ?_⟩
    rw [List.mem_singleton.mp hg]
    exact of_decide_eq_true (List.mem_filter.mp hf).2
  · intro q f r h
    have h' : kept (now + wait) c.fades ++ [⟨now + wait, look c.first (now + wait) 1 (kept (now + wait) c.fades).reverse, fin, if look c.first (now + wait) 1 (kept (now + wait) c.fades).reverse < fin then rise else fall⟩] = q ++ f :: r := h
    rcases List.eq_nil_or_concat r with hr | ⟨r', z, hr⟩
    · subst hr
      obtain ⟨e1, e2⟩ := List.append_inj' h' rfl
      have e3 := List.cons.inj e2
      rw [← e3.1, ← e1]
      rfl
    · rw [List.concat_eq_append] at hr
      subst hr
      have key : ∀ x : Fade, kept (now + wait) c.fades ++ [x] = q ++ f :: (r' ++ [z]) → kept (now + wait) c.fades = q ++ f :: r' := fun x hx => by
        have h2 : kept (now + wait) c.fades ++ [x] = (q ++ f :: r') ++ [z] := by
          rw [hx, List.append_assoc]
          rfl
        exact (List.append_inj' h2 rfl).1
      have e1 := key _ h'
      refine W.st q f (r' ++ suf) ?_
      rw [e, e1, List.append_assoc]
      rfl
theorem WF.new (z : Int) : WF ⟨z, []⟩ := ⟨.nil, fun q f r h => by cases q <;> cases h⟩
theorem look_filt {first o t b : Int} (h : ∀ f : Fade, ¬ f.out < o → ¬ f.out * b ≤ t) : ∀ l : List Fade, look first t b (l.filter fun f => decide (f.out < o)) = look first t b l
  | [] => rfl
  | f :: r => by
    by_cases c : f.out < o
    · rw [List.filter_cons, if_pos (decide_eq_true c)]
      by_cases d : f.out * b ≤ t
      · rw [look_yes d, look_yes d]
      · rw [look_no d, look_no d, look_filt h r]
    · rw [List.filter_cons, if_neg (by rw [decide_eq_false c]; exact Bool.false_ne_true), look_no (h f c), look_filt h r]
/-- where it stands behind a telling -/
theorem tell_pos {c : Crs} {now wait rise fall fin t b s : Int} (hb : 1 ≤ b) (hs : s = look c.first (now + wait) 1 (kept (now + wait) c.fades).reverse) :
    (c.tell now wait rise fall fin).pos t b = if (now + wait) * b ≤ t then stand s fin (if s < fin then rise else fall) (t - (now + wait) * b) b else c.pos t b := by
  subst hs
  show look c.first t b (kept (now + wait) c.fades ++ [_]).reverse = _
  rw [List.reverse_append]
  show look c.first t b (_ :: (kept (now + wait) c.fades).reverse) = _
  by_cases h : (now + wait) * b ≤ t
  · rw [if_pos h]
    exact look_yes h
  · rw [if_neg h]
    refine (look_no h).trans ?_
    unfold kept
    rw [← List.filter_reverse]
    refine look_filt (fun f hf hle => h ?_) _
    have := Int.mul_le_mul_of_nonneg_right (show now + wait ≤ f.out by omega) (show (0 : Int) ≤ b by omega)
    omega
theorem tell_ends {c : Crs} {now wait rise fall fin s : Int} (hs : s = look c.first (now + wait) 1 (kept (now + wait) c.fades).reverse) :
    (c.tell now wait rise fall fin).aim = fin ∧ (c.tell now wait rise fall fin).still = now + wait + (if s < fin then rise else fall) := by
  subst hs
  unfold Crs.aim Crs.still Crs.tell
  rw [List.getLast?_append]
  exact ⟨rfl, rfl⟩

/-! ### the law's small helpers -/
def spCell (K : PySem.W.Frag) : Sp := fun vs H Q _ => ∃ (a : Addr) (k : Int), vs = [.ref a, .int k] ∧ (∃ ns : List Int, SqL K H a (ns.map V.int)) ∧ 0 ≤ k ∧ ∀ r : Int, Q (.int r) H
theorem ok_l_cell_at (T : Txt K mg) : ∃ fd, FnOk P w K mg base CX0 1 (He.fAd K ("_law_cell_at", none)) fd ["_law_script", "_law_k"] (spCell K) ∧ FunD K "_law_cell_at" "_law_cell_at" (defArgs s_l_cell_at) (defBody s_l_cell_at) (defScope s_l_cell_at) [] [] (He.fAd K ("_law_cell_at", none)) fd := by
  obtain ⟨fd, F⟩ := T.c.def_ 6 (d := d_l_cell_at) rfl
  refine ⟨fd, F.ok sc_l_cell_at (by walk_at "g94len") (fun cdv A outer st H vs Q E hr h => ?_), F⟩
  · obtain ⟨a, i, rfl, ⟨ns, hS⟩, i0, k⟩ := h
    refine ⟨_, PSs.nox (pss_cons (ps_if (pt_cmpR op_lt (pv 1) (pe_callB call_len_seq (by rfl) (free_len T) (by decide +kernel) (pa_cons (pv 0) pa_nil)) (nomark _)) (pss_one (ps_ret (pe_ix ix_list (pv 0) (pv 1) (fun _ _ => rfl)))) pss_nil)
        (pss_one (ps_ret pe_int))), ?_⟩
    walk_at "rds"
    refine ⟨_, _, rfl, .inl hS, ?_⟩
    walk_at "rds"
    walk_at "ri" <;> intro c1
    · obtain ⟨v, hv, hv2⟩ := atI_lt i0 c1
      obtain ⟨z, rfl, _, _⟩ := int_at hv2
      walk_at "rds"
      exact ⟨_, _, _, _, rfl, rfl, hS, hv, k _⟩
    · walk_at "rds"
      exact k _

/-! ### the draws -/
def spDraw : Sp := fun vs H Q _ => ∃ c p : Int, vs = [.int c, .int p] ∧ 0 ≤ p ∧ p ≤ 1000 ∧ ∀ r : Int, 0 ≤ r → r < 2147483648 → Q (.int r) H
theorem ok_l_draw (T : Txt K mg) : ∃ fd, FnOk P w K mg base CX0 1 (He.fAd K ("_law_draw", none)) fd ["_law_cell", "_law_place"] spDraw ∧ FunD K "_law_draw" "_law_draw" (defArgs s_l_draw) (defBody s_l_draw) (defScope s_l_draw) [] [] (He.fAd K ("_law_draw", none)) fd := by
  obtain ⟨fd, F⟩ := T.c.def_ 8 (d := d_l_draw) rfl
  refine ⟨fd, F.ok sc_l_draw (by walk_at "g94len") (fun cdv A outer st H vs Q E hr h => ?_), F⟩
  · obtain ⟨c, p, rfl, p0, p1, k⟩ := h
    refine ⟨_, PSs.nox (pss_cons (ps_set (i := 2) sc_l_draw.nd rfl (Or.inl rfl) (pe_op op_shr (pv 0) (pe_op op_add pe_int (pe_op op_mul pe_int (pe_op op_mod (pv 1) pe_int)))))
        (pss_cons (ps_if (PW.pt (pw_and (pt_cmpR op_eq (pe_op op_mod (pv 0) pe_int) pe_int (nomark _)) (pw_and1 (pt_cmpR op_ne (pv 2) pe_int (nomark _))))) (pss_one (ps_ret (pe_op op_mod (pv 2) pe_int))) pss_nil)
        (pss_cons (ps_set (i := 3) sc_l_draw.nd rfl (Or.inl rfl) (pe_op op_mod (pe_op op_mul (pe_op op_add (pe_op op_mod (pe_op op_fdiv (pv 0) pe_int) (pe_powC (v := 1000000000000000000000000000000) (by rfl) (by decide +kernel))) pe_int) (pe_op op_add pe_int (pe_op op_mul (pe_op op_mul pe_int (pv 1)) (pv 1)))) pe_int))
        (pss_one (ps_ret (pe_op op_mod (pe_op op_mul (pv 3) (pv 3)) pe_int)))))), ?_⟩
    have hp2 : 0 ≤ 7919 * p * p ∧ 7919 * p * p ≤ 7919000000 := by
      have h1 : 0 ≤ 7919 * p := by omega
      have h2 := Int.mul_nonneg h1 p0
      have h3 := Int.mul_le_mul (show 7919 * p ≤ 7919000 by omega) p1 p0 (by decide)
      omega
    walk_at "rds"
    walk_at "ri" <;> intro c1
    · walk_at "rds"
      walk_at "ri" <;> intro c2
      · walk_at "rds"
        exact k _ (by omega) (by omega)
      · walk_at "rds"
        exact k _ (by omega) (by omega)
    · walk_at "rds"
      exact k _ (by omega) (by omega)
def spFar : Sp := fun vs H Q _ => ∃ c p : Int, vs = [.int c, .int p] ∧ 0 ≤ p ∧ p ≤ 900 ∧ ∀ r : Int, 0 ≤ r → r < 9903520314283042199192993792 → Q (.int r) H
theorem ok_l_far (T : Txt K mg) : ∃ fd, FnOk P w K mg base CX0 2 (He.fAd K ("_law_far", none)) fd ["_law_cell", "_law_place"] spFar ∧ FunD K "_law_far" "_law_far" (defArgs s_l_far) (defBody s_l_far) (defScope s_l_far) [] [] (He.fAd K ("_law_far", none)) fd := by
  obtain ⟨fd, F⟩ := T.c.def_ 9 (d := d_l_far) rfl
  obtain ⟨fd_l_draw, G_l_draw, F_l_draw⟩ := ok_l_draw (P := P) (w := w) (base := base) T
  have kp_l_draw := F_l_draw.kp
  have b_l_draw : Binds K fd_l_draw ["_law_cell", "_law_place"] [] := FunD.bindsN F_l_draw (fun _ _ _ _ _ _ us hl => match us, hl with | [_, _], _ => rfl)
  refine ⟨fd, F.ok sc_l_far (by walk_at "g94len") (fun cdv A outer st H vs Q E hr h => ?_), F⟩
  · obtain ⟨c, p, rfl, p0, p1, k⟩ := h
    refine ⟨_, PSs.nox (pss_cons (ps_set (i := 2) sc_l_far.nd rfl (Or.inl rfl) (pe_op op_add (pe_op op_mul (pe_call G_l_draw (hr.mono (by decide)) rfl (glo__law_draw T) kp_l_draw b_l_draw .nil pass0 (pa_cons (pv 0) (pa_cons (pv 1) pa_nil))) pe_int) (pe_call G_l_draw (hr.mono (by decide)) rfl (glo__law_draw T) kp_l_draw b_l_draw .nil pass0 (pa_cons (pv 0) (pa_cons (pe_op op_add (pv 1) pe_int) pa_nil)))))
        (pss_one (ps_ret (pe_op op_add (pe_op op_mul (pv 2) pe_int) (pe_call G_l_draw (hr.mono (by decide)) rfl (glo__law_draw T) kp_l_draw b_l_draw .nil pass0 (pa_cons (pv 0) (pa_cons (pe_op op_add (pv 1) pe_int) pa_nil))))))), ?_⟩
    walk_at "rds"
    intro r0 h0 h0'
    walk_at "rds"
    intro r1 h1 h1'
    walk_at "rds"
    intro r2 h2 h2'
    walk_at "rds"
    exact k _ (by omega) (by omega)
def spWhole : Sp := fun vs H Q _ => ∃ n : Int, vs = [.int n] ∧ Q (.bl true) H
theorem ok_l_whole (T : Txt K mg) : ∃ fd, FnOk P w K mg base CX0 1 (He.fAd K ("_law_whole", none)) fd ["_law_found"] spWhole ∧ FunD K "_law_whole" "_law_whole" (defArgs s_l_whole) (defBody s_l_whole) (defScope s_l_whole) [] [] (He.fAd K ("_law_whole", none)) fd := by
  obtain ⟨fd, F⟩ := T.c.def_ 7 (d := d_l_whole) rfl
  refine ⟨fd, F.ok sc_l_whole (by walk_at "g94len") (fun cdv A outer st H vs Q E hr h => ?_), F⟩
  · obtain ⟨n, rfl, k⟩ := h
    refine ⟨_, PSs.nox (pss_one (ps_ret (pe_and (pe_callB call_isi (by rfl) (free_isinstance T) (by decide +kernel) (pa_cons (pv 0) (pa_cons (pe_bltn (v := .ty "int") (by rfl) (free_int T) (by decide +kernel) rfl) pa_nil))) (pe_one (pe_not (pe_callB call_isi (by rfl) (free_isinstance T) (by decide +kernel) (pa_cons (pv 0) (pa_cons (pe_bltn (v := .ty "bool") (by rfl) (free_bool T) (by decide +kernel) rfl) pa_nil)))))))), ?_⟩
    walk_at "rds"
    exact k

def spGone : Sp := fun vs H Q _ => ∃ s e l t b : Int, vs = [.int s, .int e, .int l, .int t, .int b] ∧ Fits s e l b ∧ Q (.int (stand s e l t b)) H
theorem ok_l_gone (T : Txt K mg) : ∃ fd, FnOk P w K mg base CX0 1 (He.fAd K ("_law_gone", none)) fd ["_law_start_here", "_law_end", "_law_length", "_law_top", "_law_bottom"] spGone ∧ FunD K "_law_gone" "_law_gone" (defArgs s_l_gone) (defBody s_l_gone) (defScope s_l_gone) [] [] (He.fAd K ("_law_gone", none)) fd := by
  obtain ⟨fd, F⟩ := T.c.def_ 10 (d := d_l_gone) rfl
  refine ⟨fd, F.ok sc_l_gone (by walk_at "g94len") (fun cdv A outer st H vs Q E hr h => ?_), F⟩
  · obtain ⟨s, e, l, t, b, rfl, hf, k⟩ := h
    have hf' := hf
    obtain ⟨s0, s1, e0, e1, l0, l1, b0, b1⟩ := hf'
    refine ⟨_, PSs.nox (pss_cons (ps_if (pt_cmpR op_lt (pv 3) pe_int (nomark _)) (pss_one (ps_ret (pv 0))) pss_nil)
        (pss_cons (ps_if (pt_cmpR op_ge (pv 3) (pe_op op_mul (pv 2) (pv 4)) (nomark _)) (pss_one (ps_ret (pv 1))) pss_nil)
        (pss_cons (ps_if (pt_cmpR op_lt (pv 1) (pv 0) (nomark _)) (pss_one (ps_ret (pe_op op_sub (pv 0) (pe_op op_fdivW (pe_op op_mul (pe_op op_sub (pv 0) (pv 1)) (pv 3)) (pe_op op_mul (pv 4) (pv 2)))))) pss_nil)
        (pss_one (ps_ret (pe_op op_add (pv 0) (pe_op op_fdivW (pe_op op_mul (pe_op op_sub (pv 1) (pv 0)) (pv 3)) (pe_op op_mul (pv 4) (pv 2))))))))), ?_⟩
    unfold stand at k
    walk_at "rds"
    walk_at "ri" <;> intro c1
    · rw [if_pos c1] at k
      walk_at "rds"
      exact k
    rw [if_neg c1] at k
    walk_at "rds"
    walk_at "ri" <;> intro c2
    · rw [if_pos (by rw [Int.mul_comm]; exact c2)] at k
      walk_at "rds"
      exact k
    have c2' : ¬ b * l ≤ t := by rw [Int.mul_comm]; exact c2
    rw [if_neg c2'] at k
    have hp := bl_pos hf c1 c2'
    have hw := fun i : Int => wide_div (i := i) hp (bl_bound hf) (by decide) (by decide)
    walk_at "rds"
    walk_at "ri" <;> intro c3
    · rw [if_pos c3] at k
      have q : way s e = s - e := by
        unfold way
        rw [if_pos (by omega)]
        omega
      rw [q] at k
      walk_at "rds"
      exact ⟨hw _, _, _, rfl, rfl, k⟩
    · rw [if_neg c3] at k
      have q : way s e = e - s := by
        unfold way
        rw [if_neg (by omega)]
      rw [q] at k
      walk_at "rds"
      exact ⟨hw _, _, _, rfl, rfl, k⟩

def spTime0 : Sp := fun vs H Q _ => ∃ n m : Int, vs = [.int n, .int m] ∧ 0 ≤ n ∧ 0 < m ∧ m ≤ 1000000001 ∧ ∀ r : Int, 0 ≤ r → r < m → Q (.int r) H
theorem ok_l_time (T : Txt K mg) : ∃ fd, FnOk P w K mg base CX0 1 (He.fAd K ("_law_time", none)) fd ["_law_number", "_law_most"] spTime0 ∧ FunD K "_law_time" "_law_time" (defArgs s_l_time) (defBody s_l_time) (defScope s_l_time) [] [] (He.fAd K ("_law_time", none)) fd := by
  obtain ⟨fd, F⟩ := T.c.def_ 11 (d := d_l_time) rfl
  refine ⟨fd, F.ok sc_l_time (by walk_at "g94len") (fun cdv A outer st H vs Q E hr h => ?_), F⟩
  · obtain ⟨n, m, rfl, n0, m0, m1, k⟩ := h
    refine ⟨_, PSs.nox (pss_cons (ps_if (pt_cmpR op_eq (pe_op op_mod (pv 0) pe_int) pe_int (nomark _)) (pss_one (ps_ret pe_int)) pss_nil)
        (pss_one (ps_ret (pe_op op_mod (pe_op op_fdiv (pv 0) pe_int) (pv 1))))), ?_⟩
    walk_at "rds"
    walk_at "ri" <;> intro c1
    · walk_at "rds"
      exact k _ (by omega) (by omega)
    · walk_at "rds"
      exact k _ (Int.emod_nonneg _ (by omega)) (Int.emod_lt_of_pos _ m0)
def spFade (K : PySem.W.Frag) : Sp := fun vs H Q _ => ∃ (cell last wide : Int) (rising : Bool), vs = [.int cell, .int last, .int wide, .bl rising] ∧ 0 ≤ last ∧ 0 ≤ wide ∧ wide < 2 ∧
  ∀ (p : Addr) (now w r f e : Int) (H' : Hp), Same H H' → H p = none → H' p = some (.lst ([now, w, r, f, e].map V.int)) → 0 ≤ now → now ≤ last + 2147483648 → 0 ≤ w ∧ w ≤ 1000000000 → 0 ≤ r ∧ r ≤ 1000000000 → 0 ≤ f ∧ f ≤ 1000000000 → 0 ≤ e ∧ e ≤ 1000000000 → Q (.ref p) H'
theorem ok_l_fade (T : Txt K mg) : ∃ fd, FnOk P w K mg base CX0 3 (He.fAd K ("_law_fade", none)) fd ["_law_cell", "_law_last", "_law_wide", "_law_rising"] (spFade K) ∧ FunD K "_law_fade" "_law_fade" (defArgs s_l_fade) (defBody s_l_fade) (defScope s_l_fade) [] [] (He.fAd K ("_law_fade", none)) fd := by
  obtain ⟨fd, F⟩ := T.c.def_ 12 (d := d_l_fade) rfl
  obtain ⟨fd_l_time, G_l_time, F_l_time⟩ := ok_l_time (P := P) (w := w) (base := base) T
  have kp_l_time := F_l_time.kp
  have b_l_time : Binds K fd_l_time ["_law_number", "_law_most"] [] := FunD.bindsN F_l_time (fun _ _ _ _ _ _ us hl => match us, hl with | [_, _], _ => rfl)
  obtain ⟨fd_l_draw, G_l_draw, F_l_draw⟩ := ok_l_draw (P := P) (w := w) (base := base) T
  have kp_l_draw := F_l_draw.kp
  have b_l_draw : Binds K fd_l_draw ["_law_cell", "_law_place"] [] := FunD.bindsN F_l_draw (fun _ _ _ _ _ _ us hl => match us, hl with | [_, _], _ => rfl)
  refine ⟨fd, F.ok sc_l_fade (by walk_at "g94len") (fun cdv A outer st H vs Q E hr h => ?_), F⟩
  · obtain ⟨cell, last, wide, rising, rfl, l0, w0, w1, k⟩ := h
    refine ⟨_, PSs.nox (pss_cons (ps_set (i := 4) sc_l_fade.nd rfl (Or.inr rfl) (pe_ix ix_list (pe_lst (pa_cons pe_int (pa_cons (pe_op op_add (pe_powC (v := 1000000000) (by rfl) (by decide +kernel)) pe_int) pa_nil))) (pv 2) (fun _ _ => rfl)))
        (pss_cons (ps_set (i := 5) sc_l_fade.nd rfl (Or.inl rfl) (pe_op op_mod (pe_op op_fdiv (pe_call G_l_draw (hr.mono (by decide)) rfl (glo__law_draw T) kp_l_draw b_l_draw .nil pass0 (pa_cons (pv 0) (pa_cons pe_int pa_nil))) pe_int) (pe_ix ix_list (pe_lst (pa_cons pe_int (pa_cons (pe_powC (v := 2147483648) (by rfl) (by decide +kernel)) pa_nil))) (pv 2) (fun _ _ => rfl))))
        (C8.pss_cut (ps_if (pt_val (pv 3)) (pss_one (ps_set (i := 5) sc_l_fade.nd rfl (Or.inl rfl) (pe_op op_add (pv 1) (pe_op op_mod (pe_op op_fdiv (pe_call G_l_draw (hr.mono (by decide)) rfl (glo__law_draw T) kp_l_draw b_l_draw .nil pass0 (pa_cons (pv 0) (pa_cons pe_int pa_nil))) pe_int) pe_int)))) pss_nil)
        (pss_cons (ps_setLc (i := 6) (own := [("_law_k", 7)]) (g := gName 7) rfl sc_l_fade.nd rfl rfl (sw_true rfl rfl rfl (by decide +kernel)) (pi_range1 rfl (free_range T) (pa_cons pe_int pa_nil)) (blkOk_by (own := [("_law_k", 7)]) (N := ["_law_cell", "_law_last", "_law_wide", "_law_rising", "_law_most", "_law_now", "_law_times", "_law_k"]) (sc := defScope s_l_fade) (by decide +kernel)) (fun _ _ _ _ _ => pg_name (i := 7) sc_l_fade.nd rfl (Or.inl rfl)) (fun _ _ _ _ _ => pts_nil) (fun _ _ _ _ _ => (pe_call G_l_time (hr.mono (by decide)) rfl (glo__law_time T) kp_l_time b_l_time .nil pass0 (pa_cons (pe_call G_l_draw (hr.mono (by decide)) rfl (glo__law_draw T) kp_l_draw b_l_draw .nil pass0 (pa_cons (pv 0) (pa_cons (pe_op op_add pe_int (pv 7)) pa_nil))) (pa_cons (pv 4) pa_nil)))))
        (pss_one (ps_ret (pe_op op_cat (pe_op op_cat (pe_lst (pa_cons (pv 5) pa_nil)) (pv 6)) (pe_lst (pa_cons (pe_op op_mod (pe_op op_fdiv (pe_call G_l_draw (hr.mono (by decide)) rfl (glo__law_draw T) kp_l_draw b_l_draw .nil pass0 (pa_cons (pv 0) (pa_cons pe_int pa_nil))) pe_int) (pe_ix ix_list (pe_lst (pa_cons pe_int (pa_cons (pe_op op_add (pe_powC (v := 1000000000) (by rfl) (by decide +kernel)) pe_int) pa_nil))) (pv 2) (fun _ _ => rfl))) pa_nil))))))))), ?_⟩
    walk_at "rds"
    intro p0 hp0
    obtain ⟨m0, hm0, hv0⟩ := at2 (a := 13) (b := 1000000000 + 1) (k := wide) w0 (by omega)
    obtain ⟨m1, hm1, hv1⟩ := at2 (a := 60) (b := 2147483648) (k := wide) w0 (by omega)
    obtain ⟨m2, hm2, hv2⟩ := at2 (a := 31) (b := 1000000000 + 1) (k := wide) w0 (by omega)
    have b0 : 0 < m0 ∧ m0 ≤ 1000000001 := by omega
    have b1 : 0 < m1 ∧ m1 ≤ 2147483648 := by omega
    have b2 : 0 < m2 ∧ m2 ≤ 1000000001 := by omega
    have s0 := (Same.refl H).new (o := HO.lst [V.int 13, V.int (1000000000 + 1)]) hp0
    refine ⟨_, rfl, p0, _, _, _, rfl, rfl, .of upd_same, hm0, ?_⟩
    generalize upd H p0 (HO.lst [V.int 13, V.int (1000000000 + 1)]) = H1 at s0 ⊢
    walk_at "rds"
    intro r0 r00 r01
    walk_at "rds"
    intro p1 hp1
    have s1 := s0.new (o := HO.lst [V.int 60, V.int 2147483648]) hp1
    refine ⟨_, rfl, p1, _, _, _, rfl, rfl, .of upd_same, hm1, ?_⟩
    generalize upd H1 p1 (HO.lst [V.int 60, V.int 2147483648]) = H2 at s1 ⊢
    walk_at "rds"
    refine ⟨fun σ' H' => ∃ now : Int, σ' = [some (.int cell), some (.int last), some (.int wide), some (.bl rising), some (.int m0), some (.int now), none, none] ∧ 0 ≤ now ∧ now ≤ last + 2147483648 ∧ H' = H2, ?_, ?_⟩
    · have hq : 0 ≤ r0 / 2 % m1 ∧ r0 / 2 % m1 < m1 := ⟨Int.emod_nonneg _ (by omega), Int.emod_lt_of_pos _ b1.1⟩
      refine ⟨_, rfl, _, rfl, iteB (fun _ => ?_) (fun _ => ?_)⟩
      · walk_at "rds"
        intro r2 r20 r21
        walk_at "rds"
        rfl
      · exact ⟨_, rfl, hq.1, by omega, rfl⟩
    rintro σ' H' ⟨now, rfl, n0, n1, rfl⟩
    walk_at "rds"
    intro D hD
    refine lc_range (lo := 0) (n := 3) (fun i H2 => ∃ acc : List Int, H2 D = some (.lst (acc.map V.int)) ∧ acc.length = i ∧ (∀ y ∈ acc, 0 ≤ y ∧ y ≤ 1000000000) ∧ Same H' H2) ⟨[], upd_same, rfl, fun y hy => (by cases hy), (Same.refl H').new hD⟩ ?_ ?_
    · rintro j H2 hi ⟨acc, hacc, hal, hall, s⟩
      refine ⟨rfl, ?_⟩
      walk_at "rds"
      intro r r0 r1
      walk_at "rds"
      intro y y0 y1
      refine ⟨acc.map V.int, hacc, ?_, acc ++ [y], ?_, ?_, ?_, s.mut hD⟩
      · rw [List.length_map]
        exact Nat.lt_of_le_of_lt (show acc.length ≤ 1000 by omega) (by decide)
      · rw [upd_same, List.map_append]
        rfl
      · rw [List.length_append]
        show acc.length + 1 = j + 1
        omega
      · intro z hz
        rcases List.mem_append.mp hz with hz | hz
        · exact hall z hz
        · rw [List.mem_singleton.mp hz]
          exact ⟨y0, by omega⟩
    rintro H3 ⟨acc, hacc, hal, hall, s3⟩
    obtain ⟨t0, t1, t2, rfl⟩ : ∃ a b c, acc = [a, b, c] := match acc, hal with | [a, b, c], _ => ⟨a, b, c, rfl⟩
    refine ⟨_, rfl, small_size (Nat.le_of_ble_eq_true rfl), fun p hp => ?_⟩
    have s4 := (Same.refl H3).new (o := HO.lst [V.int now]) hp
    refine ⟨_, rfl, p, D, _, _, rfl, rfl, upd_same, s4 _ _ hacc, small_size (Nat.le_of_ble_eq_true rfl), fun p2 hp2 => ?_⟩
    have s5 := s4.new (o := HO.lst ([V.int now] ++ List.map V.int [t0, t1, t2])) hp2
    have q5 : upd (upd H3 p (HO.lst [V.int now])) p2 (HO.lst ([V.int now] ++ List.map V.int [t0, t1, t2])) p2 = some (HO.lst ([V.int now] ++ List.map V.int [t0, t1, t2])) := upd_same
    generalize upd (upd H3 p (HO.lst [V.int now])) p2 (HO.lst ([V.int now] ++ List.map V.int [t0, t1, t2])) = H4 at s5 q5 ⊢
    walk_at "rds"
    intro e0 e00 e01
    walk_at "rds"
    intro p3 hp3
    have s6 := s5.new (o := HO.lst [V.int 31, V.int (1000000000 + 1)]) hp3
    have q6 : upd H4 p3 (HO.lst [V.int 31, V.int (1000000000 + 1)]) p2 = some (HO.lst ([V.int now] ++ List.map V.int [t0, t1, t2])) := by
      rw [upd_ne (ne_of_none q5 hp3)]
      exact q5
    refine ⟨_, rfl, p3, _, _, _, rfl, rfl, .of upd_same, hm2, ?_⟩
    generalize upd H4 p3 (HO.lst [V.int 31, V.int (1000000000 + 1)]) = H5 at s6 q6 ⊢
    have he : 0 ≤ e0 / 7 % m2 ∧ e0 / 7 % m2 < m2 := ⟨Int.emod_nonneg _ (by omega), Int.emod_lt_of_pos _ b2.1⟩
    walk_at "rds"
    intro p4 hp4
    have s7 := s6.new (o := HO.lst [V.int (e0 / 7 % m2)]) hp4
    refine ⟨p2, p4, [V.int now] ++ List.map V.int [t0, t1, t2], _, rfl, rfl, ?_, upd_same, small_size (Nat.le_of_ble_eq_true rfl), fun p5 hp5 => ?_⟩
    · rw [upd_ne (ne_of_none q6 hp4)]
      exact q6
    refine k p5 now t0 t1 t2 (e0 / 7 % m2) _ ((s1.trans s3).trans (s7.new hp5)) ?_ upd_same n0 n1 (hall t0 (by simp)) (hall t1 (by simp)) (hall t2 (by simp)) ⟨he.1, by omega⟩
    cases e : H p5 with
    | none => rfl
    | some o =>
      rw [s7 _ _ (s3 _ _ (s1 _ _ e))] at hp5
      cases hp5
structure Spots (H : Hp) (p : Addr) (us : List Addr) (ss : List (Int × Int)) : Prop where
  l : H p = some (.lst (us.map V.ref))
  n : us.length = ss.length
  t : ∀ (i : Nat) u z, us[i]? = some u → ss[i]? = some z → H u = some (.tup [.int z.1, .int z.2])
def SpotOk (z : Int × Int) : Prop := 1 ≤ z.2 ∧ z.2 ≤ 1000000000
theorem at3i {a b c k : Int} (h0 : 0 ≤ k) (h1 : k < 3) : ∃ v, atI [V.int a, V.int b, V.int c] k = some (V.int v) ∧ (v = a ∨ v = b ∨ v = c) := by
  rcases (by omega : k = 0 ∨ k = 1 ∨ k = 2) with rfl | rfl | rfl
  · exact ⟨a, rfl, by simp⟩
  · exact ⟨b, rfl, by simp⟩
  · exact ⟨c, rfl, by simp⟩
theorem Spots.snoc {H : Hp} {p u : Addr} {us : List Addr} {ss : List (Int × Int)} {x y : Int} (h : Spots H p us ss) (hu : H u = none) : Spots (upd (upd H u (.tup [.int x, .int y])) p (.lst (us.map V.ref ++ [.ref u]))) p (us ++ [u]) (ss ++ [(x, y)]) := by
  have kt : ∀ t xs, H t = some (.tup xs) → upd (upd H u (.tup [.int x, .int y])) p (.lst (us.map V.ref ++ [.ref u])) t = some (.tup xs) := fun t xs q => by
    rw [upd_ne (ne_of q h.l (by intro z; cases z)), upd_ne (ne_of_none q hu)]
    exact q
  refine ⟨by rw [upd_same, List.map_append]; rfl, by rw [List.length_append, List.length_append, h.n]; rfl, fun i v z a b => ?_⟩
  by_cases hi : i < us.length
  · rw [List.getElem?_append_left hi] at a
    rw [List.getElem?_append_left (by rw [← h.n]; exact hi)] at b
    exact kt _ _ (h.t i v z a b)
  · have hi' : us.length ≤ i := by omega
    rw [List.getElem?_append_right hi'] at a
    rw [List.getElem?_append_right (by rw [← h.n]; exact hi'), ← h.n] at b
    cases hk : i - us.length with
    | zero =>
      rw [hk] at a b
      have e1 : u = v := Option.some.inj a
      have e2 : (x, y) = z := Option.some.inj b
      rw [← e1, ← e2, upd_ne (ne_of_none h.l hu).symm, upd_same]
    | succ k =>
      rw [hk] at a
      cases a
theorem Spots.same {H H' : Hp} {p : Addr} {us : List Addr} {ss : List (Int × Int)} (h : Spots H p us ss) (e : Same H H') : Spots H' p us ss := ⟨e _ _ h.l, h.n, fun i u z a b => e _ _ (h.t i u z a b)⟩
def spSpots (K : PySem.W.Frag) : Sp := fun vs H Q _ => ∃ (cell : Int) (a : Addr) (now w r f e : Int), vs = [.int cell, .ref a] ∧ SqL K H a ([now, w, r, f, e].map V.int) ∧ 0 ≤ now ∧ now ≤ 1000000000000000 ∧ (0 ≤ w ∧ w ≤ 1000000000) ∧ (0 ≤ r ∧ r ≤ 1000000000) ∧ (0 ≤ f ∧ f ≤ 1000000000) ∧
  ∀ (p : Addr) (us : List Addr) (ss : List (Int × Int)) (H' : Hp), Same H H' → H p = none → Spots H' p us ss → ss.length ≤ 8 → (∀ z ∈ ss, SpotOk z) → Q (.ref p) H'
theorem ok_l_spots (T : Txt K mg) : ∃ fd, FnOk P w K mg base CX0 3 (He.fAd K ("_law_spots", none)) fd ["_law_cell", "_law_fade_here"] (spSpots K) ∧ FunD K "_law_spots" "_law_spots" (defArgs s_l_spots) (defBody s_l_spots) (defScope s_l_spots) [] [] (He.fAd K ("_law_spots", none)) fd := by
  obtain ⟨fd, F⟩ := T.c.def_ 13 (d := d_l_spots) rfl
  obtain ⟨fd_l_draw, G_l_draw, F_l_draw⟩ := ok_l_draw (P := P) (w := w) (base := base) T
  have kp_l_draw := F_l_draw.kp
  have b_l_draw : Binds K fd_l_draw ["_law_cell", "_law_place"] [] := FunD.bindsN F_l_draw (fun _ _ _ _ _ _ us hl => match us, hl with | [_, _], _ => rfl)
  obtain ⟨fd_l_far, G_l_far, F_l_far⟩ := ok_l_far (P := P) (w := w) (base := base) T
  have kp_l_far := F_l_far.kp
  have b_l_far : Binds K fd_l_far ["_law_cell", "_law_place"] [] := FunD.bindsN F_l_far (fun _ _ _ _ _ _ us hl => match us, hl with | [_, _], _ => rfl)
  refine ⟨fd, F.ok sc_l_spots (by walk_at "g94len") (fun cdv A outer st H vs Q E hr h => ?_), F⟩
  · obtain ⟨cell, a, now0, w, r, f, e, rfl, hS, n0, n1, hw, hr', hf, k⟩ := h
    refine ⟨_, PSs.nox (pss_cons (ps_set (i := 2) sc_l_spots.nd rfl (Or.inl rfl) (pe_op op_add (pe_ix ix_list (pv 1) pe_int (fun _ _ => rfl)) (pe_ix ix_list (pv 1) pe_int (fun _ _ => rfl))))
        (pss_cons (ps_set (i := 3) sc_l_spots.nd rfl (Or.inl rfl) (pe_call G_l_draw (hr.mono (by decide)) rfl (glo__law_draw T) kp_l_draw b_l_draw .nil pass0 (pa_cons (pv 0) (pa_cons pe_int pa_nil))))
        (C8.pss_cut (ps_set (i := 4) sc_l_spots.nd rfl (Or.inl rfl) (pe_op op_add pe_int (pe_op op_mod (pe_op op_fdiv (pv 3) pe_int) (pe_ix ix_list (pe_lst (pa_cons pe_int (pa_cons pe_int (pa_cons (pe_powC (v := 1000000000) (by rfl) (by decide +kernel)) pa_nil)))) (pe_op op_mod (pv 3) pe_int) (fun _ _ => rfl)))))
        (pss_cons (ps_set (i := 5) sc_l_spots.nd rfl (Or.inl rfl) (pe_lst (pa_cons (pe_tup (pa_cons (pe_op op_mul (pv 2) (pv 4)) (pa_cons (pv 4) pa_nil))) (pa_cons (pe_tup (pa_cons (pe_callB (call_max2 rfl) (by rfl) (free_max T) (by decide +kernel) (pa_cons pe_int (pa_cons (pe_op op_sub (pe_op op_mul (pv 2) (pv 4)) pe_int) pa_nil))) (pa_cons (pv 4) pa_nil))) (pa_cons (pe_tup (pa_cons (pe_op op_mod (pe_call G_l_far (hr.mono (by decide)) rfl (glo__law_far T) kp_l_far b_l_far .nil pass0 (pa_cons (pv 0) (pa_cons pe_int pa_nil))) (pe_op op_add (pv 2) pe_int)) (pa_cons pe_int pa_nil))) pa_nil)))))
        (pss_cons (ps_for PassesOwn.never rfl (pi_range1 rfl (free_range T) (pa_cons pe_int pa_nil)) (pg_name (i := 6) sc_l_spots.nd rfl (Or.inl rfl)) (pss_cons (ps_set (i := 7) sc_l_spots.nd rfl (Or.inl rfl) (pe_ix ix_list (pv 1) (pe_op op_add pe_int (pv 6)) (fun _ _ => rfl)))
        (pss_cons (ps_expr (pe_bm PySem.F.plainAttrs_list PySem.F.slot_list_append PySem.F.type_list_append mt_append (pv 5) (pa_cons (pe_tup (pa_cons (pe_op op_mul (pe_op op_add (pv 2) (pv 7)) (pv 4)) (pa_cons (pv 4) pa_nil))) pa_nil)))
        (pss_one (ps_expr (pe_bm PySem.F.plainAttrs_list PySem.F.slot_list_append PySem.F.type_list_append mt_append (pv 5) (pa_cons (pe_tup (pa_cons (pe_op op_add (pe_op op_mul (pv 2) (pv 4)) (pe_op op_mod (pe_call G_l_far (hr.mono (by decide)) rfl (glo__law_far T) kp_l_far b_l_far .nil pass0 (pa_cons (pv 0) (pa_cons (pe_op op_add pe_int (pe_op op_mul pe_int (pv 6))) pa_nil))) (pe_op op_add (pe_op op_mul (pv 7) (pv 4)) pe_int))) (pa_cons (pv 4) pa_nil))) pa_nil)))))))
        (pss_cons (ps_expr (pe_bm PySem.F.plainAttrs_list PySem.F.slot_list_append PySem.F.type_list_append mt_append (pv 5) (pa_cons (pe_tup (pa_cons (pe_op op_add (pe_op op_mul (pe_op op_add (pv 2) (pe_powC (v := 10000000000) (by rfl) (by decide +kernel))) (pv 4)) (pe_op op_mod (pv 3) (pv 4))) (pa_cons (pv 4) pa_nil))) pa_nil)))
        (pss_one (ps_ret (pv 5))))))))), ?_⟩
    refine ⟨_, rfl, a, _, _, _, rfl, rfl, hS, rfl, ?_⟩
    refine ⟨_, rfl, a, _, _, _, rfl, rfl, hS, rfl, ?_⟩
    walk_at "rds"
    intro q q0 q1
    walk_at "rds"
    refine ⟨fun σ' H' => ∃ b : Int, σ' = [some (.int cell), some (.ref a), some (.int (now0 + w)), some (.int q), some (.int b), none, none, none] ∧ 1 ≤ b ∧ b ≤ 1000000000 ∧ Same H H', ?_, ?_⟩
    · walk_at "rds"
      intro p1 hp1
      have s1 := (Same.refl H).new (o := HO.lst [V.int 1, V.int 7, V.int 1000000000]) hp1
      obtain ⟨m, hm, hmv⟩ := at3i (a := 1) (b := 7) (c := 1000000000) (k := q % 3) (by omega) (by omega)
      walk_at "rds"
      refine ⟨p1, _, _, _, rfl, rfl, .of upd_same, hm, ?_⟩
      have hb : 1 ≤ 1 + q / 3 % m ∧ 1 + q / 3 % m ≤ 1000000000 := by
        have h1 := Int.emod_nonneg (q / 3) (show m ≠ 0 by omega)
        have h2 := Int.emod_lt_of_pos (q / 3) (show 0 < m by omega)
        omega
      walk_at "rds"
      exact s1
    rintro σ' H1 ⟨b, rfl, b0, b1, s1⟩
    have hS1 := s1.seq hS
    have ho : 0 ≤ now0 + w ∧ now0 + w ≤ 1000001000000000 := by omega
    generalize now0 + w = out at ho ⊢
    walk_at "rds"
    intro u1 hu1
    have s2 := (Same.refl H1).new (o := HO.tup [V.int (out * b), V.int b]) hu1
    have q2 : upd H1 u1 (HO.tup [V.int (out * b), V.int b]) u1 = some (HO.tup [V.int (out * b), V.int b]) := upd_same
    generalize upd H1 u1 (HO.tup [V.int (out * b), V.int b]) = H2 at s2 q2 ⊢
    walk_at "rds"
    intro u2 hu2
    have s3 := (Same.refl H2).new (o := HO.tup [V.int (if out * b - 1 > 0 then out * b - 1 else 0), V.int b]) hu2
    have q3 : upd H2 u2 (HO.tup [V.int (if out * b - 1 > 0 then out * b - 1 else 0), V.int b]) u2 = some (HO.tup [V.int (if out * b - 1 > 0 then out * b - 1 else 0), V.int b]) := upd_same
    generalize upd H2 u2 (HO.tup [V.int (if out * b - 1 > 0 then out * b - 1 else 0), V.int b]) = H3 at s3 q3 ⊢
    walk_at "rds"
    intro x1 x10 x11
    walk_at "rds"
    intro u3 hu3
    have s4 := (Same.refl H3).new (o := HO.tup [V.int (x1 % (out + 1)), V.int 1]) hu3
    have q4 : upd H3 u3 (HO.tup [V.int (x1 % (out + 1)), V.int 1]) u3 = some (HO.tup [V.int (x1 % (out + 1)), V.int 1]) := upd_same
    generalize upd H3 u3 (HO.tup [V.int (x1 % (out + 1)), V.int 1]) = H4 at s4 q4 ⊢
    walk_at "rds"
    intro p hp
    have s5 := (Same.refl H4).new (o := HO.lst [V.ref u1, V.ref u2, V.ref u3]) hp
    have q5 : upd H4 p (HO.lst [V.ref u1, V.ref u2, V.ref u3]) p = some (HO.lst [V.ref u1, V.ref u2, V.ref u3]) := upd_same
    generalize upd H4 p (HO.lst [V.ref u1, V.ref u2, V.ref u3]) = H5 at s5 q5 ⊢
    have fp : H p = none := by
      cases e : H p with
      | none => rfl
      | some o =>
        rw [s4 _ _ (s3 _ _ (s2 _ _ (s1 _ _ e)))] at hp
        cases hp
    have S0 : Spots H5 p [u1, u2, u3] [(out * b, b), (if out * b - 1 > 0 then out * b - 1 else 0, b), (x1 % (out + 1), 1)] := by
      refine ⟨q5, rfl, fun i u z ha hb' => ?_⟩
      rcases i with _ | _ | _ | i
      · cases ha
        cases hb'
        exact s5 _ _ (s4 _ _ (s3 _ _ q2))
      · cases ha
        cases hb'
        exact s5 _ _ (s4 _ _ q3)
      · cases ha
        cases hb'
        exact s5 _ _ q4
      · cases ha
    have O0 : ∀ z ∈ [(out * b, b), ((if out * b - 1 > 0 then out * b - 1 else 0), b), (x1 % (out + 1), (1 : Int))], SpotOk z := by
      intro z hz
      simp only [List.mem_cons, List.not_mem_nil, or_false] at hz
      rcases hz with rfl | rfl | rfl
      · exact ⟨b0, b1⟩
      · exact ⟨b0, b1⟩
      · exact ⟨Int.le_refl _, (by decide : (1 : Int) ≤ 1000000000)⟩
    have sH := s1.trans (s2.trans (s3.trans (s4.trans s5)))
    generalize [(out * b, b), ((if out * b - 1 > 0 then out * b - 1 else 0), b), (x1 % (out + 1), (1 : Int))] = ss at S0 O0
    have n0 := S0.n
    walk_at "rds"
    refine for_range (lo := 0) (n := 2) (fun i σ' H' => ∃ (us : List Addr) (ss : List (Int × Int)) (v1 v2 : Option V), σ' = [some (.int cell), some (.ref a), some (.int out), some (.int q), some (.int b), some (.ref p), v1, v2] ∧ Spots H' p us ss ∧ ss.length = 3 + 2 * i ∧ (∀ z ∈ ss, SpotOk z) ∧ Same H H') ⟨_, ss, _, _, rfl, S0, n0.symm, O0, sH⟩ ?_ ?_
    · rintro i σ' H' hi ⟨us, ss, v1, v2, rfl, S1, hn, hO, s⟩
      have hS' := s.seq hS
      obtain ⟨len, hlen, hl⟩ : ∃ len : Int, atI ([now0, w, r, f, e].map V.int) (2 + (0 + (i : Int))) = some (V.int len) ∧ 0 ≤ len ∧ len ≤ 1000000000 := by
        rcases (by omega : i = 0 ∨ i = 1) with rfl | rfl
        · exact ⟨r, rfl, hr'⟩
        · exact ⟨f, rfl, hf⟩
      have hlb : 0 ≤ len * b := Int.mul_nonneg hl.1 (by omega)
      walk_at "rds"
      refine ⟨a, _, _, _, rfl, rfl, hS', hlen, ?_⟩
      refine ⟨_, rfl, .inl ⟨rfl, _, .of S1.l⟩, ?_⟩
      walk_at "rds"
      intro u hu
      have hun := S1.n
      refine ⟨p, us.map V.ref, .ref u, rfl, rfl, by rw [upd_ne (ne_of_none S1.l hu)]; exact S1.l, ?_, ?_⟩
      · rw [List.length_map]
        exact Nat.lt_of_le_of_lt (show us.length ≤ 1000 by omega) (by decide)
      have S2 := S1.snoc (x := (out + len) * b) (y := b) hu
      have s2' := (s.new (o := HO.tup [V.int ((out + len) * b), V.int b]) hu).mut (o := HO.lst (us.map V.ref ++ [.ref u])) fp
      generalize upd (upd H' u (HO.tup [V.int ((out + len) * b), V.int b])) p (HO.lst (us.map V.ref ++ [.ref u])) = H6 at S2 s2' ⊢
      refine ⟨_, rfl, .inl ⟨rfl, _, .of S2.l⟩, ?_⟩
      walk_at "rds"
      intro x x0 x1'
      walk_at "rds"
      intro u' hu'
      have hun2 := S2.n
      rw [List.length_append, List.length_append] at hun2
      refine ⟨p, (us ++ [u]).map V.ref, .ref u', rfl, rfl, by rw [upd_ne (ne_of_none S2.l hu')]; exact S2.l, ?_, ?_⟩
      · rw [List.length_map, List.length_append]
        exact Nat.lt_of_le_of_lt (show us.length + 1 ≤ 1000 by omega) (by decide)
      have S3 := S2.snoc (x := out * b + x % (len * b + 1)) (y := b) hu'
      refine ⟨us ++ [u] ++ [u'], ss ++ [((out + len) * b, b)] ++ [(out * b + x % (len * b + 1), b)], _, _, rfl, S3, ?_, ?_, (s2'.new hu').mut fp⟩
      · rw [List.length_append, List.length_append]
        show ss.length + 1 + 1 = _
        omega
      · intro z hz
        rcases List.mem_append.mp hz with hz | hz
        · rcases List.mem_append.mp hz with hz | hz
          · exact hO z hz
          · rw [List.mem_singleton.mp hz]
            exact ⟨b0, b1⟩
        · rw [List.mem_singleton.mp hz]
          exact ⟨b0, b1⟩
    rintro σ' H' ⟨us, ss, v1, v2, rfl, S1, hn, hO, s⟩
    refine ⟨_, rfl, .inl ⟨rfl, _, .of S1.l⟩, ?_⟩
    walk_at "rds"
    intro u hu
    have hun := S1.n
    refine ⟨p, us.map V.ref, .ref u, rfl, rfl, by rw [upd_ne (ne_of_none S1.l hu)]; exact S1.l, ?_, ?_⟩
    · rw [List.length_map]
      exact Nat.lt_of_le_of_lt (show us.length ≤ 1000 by omega) (by decide)
    have S2 := S1.snoc (x := (out + 10000000000) * b + q % b) (y := b) hu
    refine ⟨_, rfl, k p _ _ _ ((s.new hu).mut fp) fp S2 ?_ ?_⟩
    · rw [List.length_append]
      show ss.length + 1 ≤ 8
      omega
    · intro z hz
      rcases List.mem_append.mp hz with hz | hz
      · exact hO z hz
      · rw [List.mem_singleton.mp hz]
        exact ⟨b0, b1⟩
def posV (c : Crs) (z : Int × Int) : V := .int (c.pos z.1 z.2)
def spAnswers (K : PySem.W.Frag) : Sp := fun vs H Q _ => ∃ (x p : Addr) (c : Crs) (us : List Addr) (ss : List (Int × Int)), vs = [.ref x, .ref p] ∧ CrsAt K H x c ∧ c.Good ∧ Spots H p us ss ∧ ss.length ≤ 8 ∧ (∀ z ∈ ss, SpotOk z) ∧
  ∀ (D : Addr) (H' : Hp), Same H H' → H D = none → H' D = some (.lst (ss.map (posV c))) → Q (.ref D) H'
theorem ok_l_answers (T : Txt K mg) : ∃ fd, FnOk P w K mg base CX0 3 (He.fAd K ("_law_answers", none)) fd ["_law_course", "_law_spots_here"] (spAnswers K) ∧ FunD K "_law_answers" "_law_answers" (defArgs s_l_answers) (defBody s_l_answers) (defScope s_l_answers) [] [] (He.fAd K ("_law_answers", none)) fd := by
  obtain ⟨fd, F⟩ := T.c.def_ 14 (d := d_l_answers) rfl
  obtain ⟨fd_Course_at, G_Course_at, F_Course_at⟩ := ok_Course_at (P := P) (w := w) (base := base) T
  have kp_Course_at := F_Course_at.kp
  obtain ⟨d0_Course_at, v0_Course_at, b0_Course_at⟩ : ∃ ds, Vals ([V.int 1].drop 1) ds ∧ Binds K fd_Course_at ["self", "top", "bottom"] ds := F_Course_at.binds1 3 1 (by decide) rfl (fun _ _ _ _ _ _ _ us its h1 h2 => match us, its, h1, h2 with | [_, _, _], [_], _, _ => ⟨_, rfl, rfl⟩)
  obtain ⟨fd_l_whole, G_l_whole, F_l_whole⟩ := ok_l_whole (P := P) (w := w) (base := base) T
  have kp_l_whole := F_l_whole.kp
  have b_l_whole : Binds K fd_l_whole ["_law_found"] [] := FunD.bindsN F_l_whole (fun _ _ _ _ _ _ us hl => match us, hl with | [_], _ => rfl)
  refine ⟨fd, F.ok sc_l_answers (by walk_at "g94len") (fun cdv A outer st H vs Q E hr h => ?_), F⟩
  · obtain ⟨x, p, c, us, ss, rfl, hc, hg, hs, hn, hok, k⟩ := h
    obtain ⟨dx, lf, ts, o1, _, _⟩ := hc.ob
    refine ⟨_, PSs.nox (pss_cons (ps_setLc (i := 2) (own := [("_law_top", 4), ("_law_bottom", 5)]) (g := (gTup K 2 (gCons (gName 4) (gCons (gName 5) gNil)))) rfl sc_l_answers.nd rfl rfl (sw_true rfl rfl rfl (by decide +kernel)) (pi_list (pv 1)) (blkOk_by (own := [("_law_top", 4), ("_law_bottom", 5)]) (N := ["_law_course", "_law_spots_here", "_law_found", "_law_one", "_law_top", "_law_bottom"]) (sc := defScope s_l_answers) (by decide +kernel)) (fun _ _ _ _ _ => (show PG _ _ (gTup K 2 (gCons (gName 4) (gCons (gName 5) gNil))) from pg_tup rfl (pgs_cons (pg_name (i := 4) sc_l_answers.nd rfl (Or.inl rfl)) (pgs_cons (pg_name (i := 5) sc_l_answers.nd rfl (Or.inl rfl)) pgs_nil)))) (fun _ _ _ _ _ => pts_nil) (fun _ _ _ _ _ => (pe_meth (pv 0) (cls_Course T) (m_Course_at T) G_Course_at (hr.mono (by decide)) b0_Course_at v0_Course_at pass0 (pa_cons (pv 4) (pa_cons (pv 5) pa_nil)))))
        (pss_cons (ps_for PassesOwn.never rfl (pi_list (pv 2)) (pg_name (i := 3) sc_l_answers.nd rfl (Or.inl rfl)) (pss_one (ps_if (pt_not (pt_val (pe_call G_l_whole (hr.mono (by decide)) rfl (glo__law_whole T) kp_l_whole b_l_whole .nil pass0 (pa_cons (pv 3) pa_nil)))) (pss_one (ps_ret pe_non)) pss_nil)))
        (pss_one (ps_ret (pv 2))))), ?_⟩
    refine ⟨_, rfl, p, rfl, ⟨_, .of hs.l⟩, fun D hD => ?_⟩
    refine lc_list (K := K) (a := p) (xs := us.map V.ref) (fun i H' => H' D = some (.lst ((ss.take i).map (posV c))) ∧ Same H H') ⟨upd_same, (Same.refl H).new hD⟩ (fun i H' _ ⟨_, s⟩ => s.seq (.of hs.l)) ?_ ?_
    · rintro i y H' hi ⟨hacc, s⟩
      obtain ⟨u, rfl, hu, hlt⟩ := ref_at hi
      have hlt2 : i < ss.length := by
        rw [← hs.n]
        exact hlt
      have hz : ss[i]? = some ss[i] := List.getElem?_eq_getElem hlt2
      have ht := hs.t i u _ hu hz
      have hk := hok _ (List.getElem_mem hlt2)
      rw [take_snoc hz]
      generalize ss[i] = z at ht hk
      refine ⟨u, _, rfl, .of (s _ _ ht), rfl, _, _, rfl, _, _, rfl, rfl, rfl, ?_⟩
      refine yes_lc ?_
      refine ⟨_, rfl, x, dx, _, rfl, s _ _ o1, cf_no _ _ (by decide +kernel) (by decide +kernel), _, rfl, _, rfl, x, c, z.1, z.2, rfl, hc.same s, hg, hk.1, Int.le_trans hk.2 (by decide), ?_⟩
      refine ⟨_, hacc, ?_, ?_, s.mut hD⟩
      · rw [List.length_map]
        have := List.length_take_le i ss
        exact Nat.lt_of_le_of_lt (show (ss.take i).length ≤ 1000 by have := List.length_take_le' i ss; omega) (by decide)
      · rw [upd_same, List.map_append]
        rfl
    rintro H1 ⟨hacc, s⟩
    rw [List.length_map, hs.n, List.take_length] at hacc
    refine ⟨_, rfl, D, rfl, ⟨_, .of hacc⟩, ?_⟩
    refine for_list (K := K) (a := D) (xs := ss.map (posV c)) (fun i σ' H' => ∃ v : Option V, σ' = [some (.ref x), some (.ref p), some (.ref D), v, none, none] ∧ H' = H1) ⟨_, rfl, rfl⟩ (fun i σ' H' _ ⟨_, _, e⟩ => by rw [e]; exact .of hacc) ?_ ?_
    · rintro i y σ' H' hi ⟨v, rfl, rfl⟩
      obtain ⟨z, _, hz⟩ := List.mem_map.mp (List.mem_of_getElem? hi)
      cases hz
      walk_at "rds"
      rfl
    rintro σ' H' ⟨v, rfl, rfl⟩
    exact ⟨_, rfl, k D _ s hD hacc⟩
theorem ite_imp {c : Prop} [Decidable c] {A B A' B' : Prop} (h1 : A → A') (h2 : B → B') (h : if c then A else B) : if c then A' else B' := by
  by_cases hc : c
  · rw [if_pos hc] at h ⊢
    exact h1 h
  · rw [if_neg hc] at h ⊢
    exact h2 h
def lstLen (H : Hp) (q : Addr) : Nat := match H q with
  | some (.lst xs) => xs.length
  | _ => 0
theorem lstLen_of {H : Hp} {q : Addr} {xs : List V} (h : H q = some (.lst xs)) : lstLen H q = xs.length := by
  unfold lstLen
  rw [h]
theorem Spots.pop {H : Hp} {p v : Addr} {vr : List Addr} {ss : List (Int × Int)} {z : Int × Int} (h : Spots H p (vr ++ [v]) (ss ++ [z])) (e : vr.length = ss.length) : Spots (upd H p (.lst (vr.map V.ref))) p vr ss := by
  refine ⟨upd_same, e, fun i u y a b => ?_⟩
  have hi : i < vr.length := (List.getElem?_eq_some_iff.mp a).1
  have ht := h.t i u y (by rw [List.getElem?_append_left hi]; exact a) (by rw [List.getElem?_append_left (by omega)]; exact b)
  rw [upd_ne (ne_of ht h.l (by intro z; cases z))]
  exact ht
def lo (f : Fade) : Int × Int := (f.out, f.start)
theorem CrsL.keep {K : PySem.W.Frag} {H H' : Hp} {x l q : Addr} {c : Crs} {xs : List V} (h : CrsL K H x l c) (hq : H q = some (.lst xs)) (n : q ≠ l) (kp : ∀ b ob, H b = some ob → b ≠ q → H' b = some ob) : CrsL K H' x l c := by
  obtain ⟨dx, ts, h1, h2, h3⟩ := h.ob
  exact ⟨dx, ts, kp _ _ h1 (ne_of h1 hq (by intro z; cases z)), kp _ _ h2 n.symm, h3.mono fun t ys e => kp _ _ e (ne_of e hq (by intro z; cases z))⟩
def spStart (K : PySem.W.Frag) : Sp := fun vs H Q _ => ∃ (x q : Addr) (o : Int) (c : Crs) (us : List Addr) (lf : Addr), vs = [.ref x, .ref q, .int o] ∧ CrsL K H x lf c ∧ q ≠ lf ∧ c.Good ∧ WF c ∧ c.fades.length ≤ 1000 ∧ Spots H q us (c.fades.map lo) ∧
  ∀ (us' : List Addr) (s : Int) (H' : Hp), s = look c.first o 1 (kept o c.fades).reverse → Spots H' q us' ((kept o c.fades).map lo ++ [(o, s)]) → (∀ b ob, H b = some ob → b ≠ q → H' b = some ob) → Q (.int s) H'
theorem ok_l_start (T : Txt K mg) : ∃ fd, FnOk P w K mg base CX0 3 (He.fAd K ("_law_start", none)) fd ["_law_course", "_law_left", "_law_out"] (spStart K) ∧ FunD K "_law_start" "_law_start" (defArgs s_l_start) (defBody s_l_start) (defScope s_l_start) [] [] (He.fAd K ("_law_start", none)) fd := by
  obtain ⟨fd, F⟩ := T.c.def_ 15 (d := d_l_start) rfl
  obtain ⟨fd_Course_at, G_Course_at, F_Course_at⟩ := ok_Course_at (P := P) (w := w) (base := base) T
  have kp_Course_at := F_Course_at.kp
  obtain ⟨d1_Course_at, v1_Course_at, b1_Course_at⟩ : ∃ ds, Vals ([V.int 1].drop 0) ds ∧ Binds K fd_Course_at ["self", "top", "bottom"] ds := F_Course_at.binds1 2 0 (by decide) rfl (fun _ _ _ _ _ _ _ us its h1 h2 => match us, its, h1, h2 with | [_, _], [_], _, _ => ⟨_, rfl, rfl⟩)
  refine ⟨fd, F.ok sc_l_start (by walk_at "g94len") (fun cdv A outer st H vs Q E hr h => ?_), F⟩
  · obtain ⟨x, q, o, c, us, lf, rfl, hc, hql, hg, W, hn, hs, k⟩ := h
    refine ⟨_, PSs.nox (C8.pss_cut (ps_while PassesOwn.never (PW.pt (pw_and (pt_cmpR op_gt (pe_callB call_len_seq (by rfl) (free_len T) (by decide +kernel) (pa_cons (pv 1) pa_nil)) pe_int (nomark _)) (pw_and1 (pt_cmpR op_gt (pe_ix ix_tup (pe_ix ix_list (pv 1) pe_negC (fun _ _ => rfl)) pe_int (fun _ _ => rfl)) (pv 2) (nomark _))))) (pss_one (ps_expr (pe_bm0 PySem.F.plainAttrs_list PySem.F.slot_list_pop PySem.F.type_list_pop mt_pop (pv 1)))))
        (pss_cons (ps_set (i := 3) sc_l_start.nd rfl (Or.inl rfl) (pe_meth (pv 0) (cls_Course T) (m_Course_at T) G_Course_at (hr.mono (by decide)) b1_Course_at v1_Course_at pass0 (pa_cons (pv 2) pa_nil)))
        (C8.pss_cut (ps_if (PW.pt (pw_and (pt_cmpR op_gt (pe_callB call_len_seq (by rfl) (free_len T) (by decide +kernel) (pa_cons (pv 1) pa_nil)) pe_int (nomark _)) (pw_and1 (pt_cmpR op_eq (pe_ix ix_tup (pe_ix ix_list (pv 1) pe_negC (fun _ _ => rfl)) pe_int (fun _ _ => rfl)) (pv 2) (nomark _))))) (pss_one (ps_set (i := 3) sc_l_start.nd rfl (Or.inl rfl) (pe_ix ix_tup (pe_bm0 PySem.F.plainAttrs_list PySem.F.slot_list_pop PySem.F.type_list_pop mt_pop (pv 1)) pe_int (fun _ _ => rfl)))) pss_nil)
        (pss_cons (ps_expr (pe_bm PySem.F.plainAttrs_list PySem.F.slot_list_append PySem.F.type_list_append mt_append (pv 1) (pa_cons (pe_tup (pa_cons (pv 2) (pa_cons (pv 3) pa_nil))) pa_nil)))
        (pss_one (ps_ret (pv 3))))))), ?_⟩
    refine ⟨fun σ' H' => ∃ (vs : List Addr) (pre suf : List Fade), σ' = [some (.ref x), some (.ref q), some (.int o), none] ∧ c.fades = pre ++ suf ∧ (∀ g ∈ suf, o < g.out) ∧ (∀ f ∈ pre, f.out ≤ o) ∧ Spots H' q vs (pre.map lo) ∧ (∀ b ob, H b = some ob → b ≠ q → H' b = some ob), ?_, ?_⟩
    · refine while_by (fun σ' H' => ∃ (vs : List Addr) (pre suf : List Fade), σ' = [some (.ref x), some (.ref q), some (.int o), none] ∧ c.fades = pre ++ suf ∧ (∀ g ∈ suf, o < g.out) ∧ Spots H' q vs (pre.map lo) ∧ (∀ b ob, H b = some ob → b ≠ q → H' b = some ob)) (fun _ H' => lstLen H' q) ⟨us, c.fades, [], rfl, (List.append_nil _).symm, (fun g hg => by cases hg), hs, fun b ob e _ => e⟩ ?_ ?_
      · rintro σ' H' ⟨vs, pre, suf, rfl, e, hsuf, hS, kp⟩
        have hvn := hS.n
        rw [List.length_map] at hvn
        refine ⟨_, rfl, q, _, rfl, .inl (.of hS.l), ?_⟩
        rw [List.length_map]
        walk_at "rds"
        rcases List.eq_nil_or_concat pre with e0 | ⟨pr, f, e0⟩
        · subst e0
          refine iteDF (by rw [hvn]; decide) ?_
          exact ⟨vs, [], suf, rfl, e, hsuf, (fun g hg => by cases hg), hS, kp⟩
        rw [List.concat_eq_append] at e0
        subst e0
        rw [List.length_append] at hvn
        have hv1 : vs.length = pr.length + 1 := hvn
        obtain ⟨vr, v, hv⟩ : ∃ vr v, vs = vr ++ [v] := by
          rcases List.eq_nil_or_concat vs with e1 | ⟨vr, v, e1⟩
          · rw [e1] at hv1
            cases hv1
          · exact ⟨vr, v, by rw [e1, List.concat_eq_append]⟩
        subst hv
        rw [List.length_append] at hv1
        have hv2 : vr.length = pr.length := by
          have : vr.length + 1 = pr.length + 1 := hv1
          omega
        have ht : H' v = some (.tup [.int f.out, .int f.start]) := hS.t vr.length v (lo f) (by rw [List.getElem?_append_right (Nat.le_refl _), Nat.sub_self]; rfl) (by rw [List.map_append, List.getElem?_append_right (by rw [List.length_map, hv2]; exact Nat.le_refl _), List.length_map, hv2, Nat.sub_self]; rfl)
        have hlast : atI ((vr ++ [v]).map V.ref) (-1) = some (V.ref v) := by
          rw [List.map_append]
          exact L2.atI_last _ _
        refine iteDT (by rw [List.length_append]; show (0 : Int) < ((vr.length + 1 : Nat) : Int); omega) ?_
        refine ⟨_, rfl, q, _, _, _, rfl, rfl, .of hS.l, hlast, v, _, _, _, rfl, rfl, .of ht, rfl, ?_⟩
        walk_at "rds"
        refine iteD (fun c1 => ?_) (fun c1 => ?_)
        · have hd : ((vr ++ [v]).map V.ref).dropLast = vr.map V.ref := by
            rw [List.map_append]
            exact List.dropLast_concat
          refine ⟨_, rfl, .inl ⟨rfl, _, .of hS.l⟩, q, _, .ref v, rfl, rfl, hS.l, ?_, ?_⟩
          · rw [List.map_append, List.length_append, List.getElem?_append_right (by show (vr.map V.ref).length ≤ (vr.map V.ref).length + 1 - 1; omega)]
            show ([v].map V.ref)[(vr.map V.ref).length + 1 - 1 - (vr.map V.ref).length]? = _
            rw [show (vr.map V.ref).length + 1 - 1 - (vr.map V.ref).length = 0 by omega]
            rfl
          · rw [hd]
            refine ⟨⟨vr, pr, f :: suf, rfl, by rw [e, List.append_assoc]; rfl, fun g hg => ?_, ?_, fun b ob hb hn => ?_⟩, ?_⟩
            · rcases List.mem_cons.mp hg with rfl | hg
              · exact c1
              · exact hsuf g hg
            · exact Spots.pop (z := lo f) (by rw [List.map_append] at hS; exact hS) (by rw [List.length_map]; exact hv2)
            · rw [upd_ne hn]
              exact kp b ob hb hn
            · rw [lstLen_of upd_same, lstLen_of hS.l, List.length_map, List.length_map, List.length_append]
              exact Nat.lt_succ_self _
        · refine ⟨vr ++ [v], pr ++ [f], suf, rfl, e, hsuf, fun g hg => ?_, hS, kp⟩
          have hw := W.srt
          rw [e, List.append_assoc, List.pairwise_append] at hw
          rcases List.mem_append.mp hg with hg | hg
          · have := hw.2.2 g hg f List.mem_cons_self
            omega
          · rw [List.mem_singleton.mp hg]
            omega
      · intro σ' H' Q1 Q2 hq h
        repeat (first | exact hq _ _ h | (obtain ⟨w, h⟩ := h; refine ⟨w, ?_⟩))
        refine ite_imp (fun h => ?_) (fun h => ?_) h
        · repeat (first | exact hq _ _ h | (obtain ⟨w, h⟩ := h; refine ⟨w, ?_⟩))
        · repeat (first | exact hq _ _ h | (obtain ⟨w, h⟩ := h; refine ⟨w, ?_⟩))
    rintro σ' H' ⟨vs, pre, suf, rfl, e, hsuf, hpre, hS, kp⟩
    have hc' := hc.keep hs.l hql kp
    obtain ⟨dx, ts, o1, _, _⟩ := hc'.ob
    refine ⟨_, rfl, x, dx, _, rfl, o1, cf_no _ _ (by decide +kernel) (by decide +kernel), _, rfl, x, c, o, 1, rfl, hc'.crs, hg, by decide, by decide, ?_⟩
    have hvn := hS.n
    rw [List.length_map] at hvn
    refine ⟨fun σ' H2 => ∃ (vs : List Addr) (s : Int), σ' = [some (.ref x), some (.ref q), some (.int o), some (.int s)] ∧ s = look c.first o 1 (kept o c.fades).reverse ∧ Spots H2 q vs ((kept o c.fades).map lo) ∧ (∀ b ob, H b = some ob → b ≠ q → H2 b = some ob), ?_, ?_⟩
    · walk_at "rds"
      refine ⟨q, _, rfl, .inl (.of hS.l), ?_⟩
      rw [List.length_map]
      walk_at "rds"
      rcases List.eq_nil_or_concat pre with e0 | ⟨pr, f, e0⟩
      · subst e0
        obtain ⟨f1, f2⟩ := left_free e (fun g hg => by cases hg) hsuf
        refine iteDF (by rw [hvn]; decide) ?_
        exact ⟨vs, c.pos o 1, rfl, by rw [f2, f1], by rw [f1]; exact hS, kp⟩
      · rw [List.concat_eq_append] at e0
        subst e0
        rw [List.length_append] at hvn
        have hv1 : vs.length = pr.length + 1 := hvn
        obtain ⟨vr, v, hv⟩ : ∃ vr v, vs = vr ++ [v] := by
          rcases List.eq_nil_or_concat vs with e1 | ⟨vr, v, e1⟩
          · rw [e1] at hv1
            cases hv1
          · exact ⟨vr, v, by rw [e1, List.concat_eq_append]⟩
        subst hv
        rw [List.length_append] at hv1
        have hv2 : vr.length = pr.length := by
          have : vr.length + 1 = pr.length + 1 := hv1
          omega
        have ht : H' v = some (.tup [.int f.out, .int f.start]) := hS.t vr.length v (lo f) (by rw [List.getElem?_append_right (Nat.le_refl _), Nat.sub_self]; rfl) (by rw [List.map_append, List.getElem?_append_right (by rw [List.length_map, hv2]; exact Nat.le_refl _), List.length_map, hv2, Nat.sub_self]; rfl)
        have hlast : atI ((vr ++ [v]).map V.ref) (-1) = some (V.ref v) := by
          rw [List.map_append]
          exact L2.atI_last _ _
        refine iteDT (by rw [List.length_append]; show (0 : Int) < ((vr.length + 1 : Nat) : Int); omega) ?_
        refine ⟨_, rfl, q, _, _, _, rfl, rfl, .of hS.l, hlast, v, _, _, _, rfl, rfl, .of ht, rfl, ?_⟩
        walk_at "rds"
        refine iteV (fun c1 => ?_) (fun c1 => ?_)
        · obtain ⟨f1, f2⟩ := left_same W e c1 hsuf
          have hd : ((vr ++ [v]).map V.ref).dropLast = vr.map V.ref := by
            rw [List.map_append]
            exact List.dropLast_concat
          refine ⟨_, rfl, .inl ⟨rfl, _, .of hS.l⟩, q, _, .ref v, rfl, rfl, hS.l, ?_, ?_⟩
          · rw [List.map_append, List.length_append, List.getElem?_append_right (by show (vr.map V.ref).length ≤ (vr.map V.ref).length + 1 - 1; omega)]
            show ([v].map V.ref)[(vr.map V.ref).length + 1 - 1 - (vr.map V.ref).length]? = _
            rw [show (vr.map V.ref).length + 1 - 1 - (vr.map V.ref).length = 0 by omega]
            rfl
          · rw [hd]
            refine ⟨v, _, _, _, rfl, rfl, .of (by rw [upd_ne (ne_of ht hS.l (by intro z; cases z))]; exact ht), rfl, ?_⟩
            refine ⟨vr, f.start, rfl, by rw [f2, f1], ?_, fun b ob hb hn => ?_⟩
            · rw [f1]
              exact Spots.pop (z := lo f) (by rw [List.map_append] at hS; exact hS) (by rw [List.length_map]; exact hv2)
            · rw [upd_ne hn]
              exact kp b ob hb hn
        · have hlt : ∀ g ∈ pr ++ [f], g.out < o := fun g hg => by
            have hw := W.srt
            rw [e, List.append_assoc, List.pairwise_append] at hw
            have hfo := hpre f (List.mem_append_right _ (List.mem_singleton.mpr rfl))
            rcases List.mem_append.mp hg with hg | hg
            · have := hw.2.2 g hg f List.mem_cons_self
              omega
            · rw [List.mem_singleton.mp hg]
              omega
          obtain ⟨f1, f2⟩ := left_free e hlt hsuf
          exact ⟨vr ++ [v], c.pos o 1, rfl, by rw [f2, f1], by rw [f1]; exact hS, kp⟩
    rintro σ' H2 ⟨vs2, s, rfl, hs2, hS2, kp2⟩
    refine ⟨_, rfl, .inl ⟨rfl, _, .of hS2.l⟩, ?_⟩
    walk_at "rds"
    intro u hu
    have hun := hS2.n
    have hkl : (kept o c.fades).length ≤ c.fades.length := List.length_filter_le _ _
    rw [List.length_map] at hun
    refine ⟨q, vs2.map V.ref, .ref u, rfl, rfl, by rw [upd_ne (ne_of_none hS2.l hu)]; exact hS2.l, ?_, ?_⟩
    · rw [List.length_map]
      exact Nat.lt_of_le_of_lt (show vs2.length ≤ 1000 by omega) (by decide)
    refine ⟨_, rfl, k _ s _ hs2 (hS2.snoc (x := o) (y := s) hu) fun b ob hb hn => ?_⟩
    rw [upd_ne hn, upd_ne (ne_of_none (kp2 b ob hb hn) hu)]
    exact kp2 b ob hb hn
theorem Spots.mono {H H' : Hp} {p : Addr} {us : List Addr} {ss : List (Int × Int)} (h : Spots H p us ss) (hl : ∀ xs, H p = some (.lst xs) → H' p = some (.lst xs)) (ht : ∀ t xs, H t = some (.tup xs) → H' t = some (.tup xs)) : Spots H' p us ss :=
  ⟨hl _ h.l, h.n, fun i u z a b => ht _ _ (h.t i u z a b)⟩
def spTold (K : PySem.W.Frag) : Sp := fun vs H Q _ => ∃ (x q a p : Addr), vs = [.ref x, .ref q, .ref a, .ref p] ∧ ∃ (c : Crs) (us us2 : List Addr) (ss : List (Int × Int)) (lf : Addr) (now w r f e : Int), CrsL K H x lf c ∧ q ≠ lf ∧ a ≠ q ∧ p ≠ q ∧ c.Good ∧ WF c ∧ c.fades.length ≤ 900 ∧ Spots H q us (c.fades.map lo) ∧
  H a = some (.lst ([now, w, r, f, e].map V.int)) ∧ Spots H p us2 ss ∧ ss.length ≤ 8 ∧ (∀ z ∈ ss, SpotOk z) ∧ 0 ≤ now ∧ now ≤ 1000000000000000 ∧ (0 ≤ w ∧ w ≤ 1000000000) ∧ (0 ≤ r ∧ r ≤ 1000000000) ∧ (0 ≤ f ∧ f ≤ 1000000000) ∧ (0 ≤ e ∧ e ≤ 1000000000) ∧
  ∀ (lf' : Addr) (us' : List Addr) (H' : Hp), CrsL K H' x lf' (c.tell now w r f e) → (∀ b ob, H b = some ob → b ≠ lf') → Spots H' q us' ((c.tell now w r f e).fades.map lo) → (∀ b ob, H b = some ob → b ≠ q → b ≠ x → H' b = some ob) → Q (.bl true) H'
theorem ok_l_told (T : Txt K mg) : ∃ fd, FnOk P w K mg base CX0 4 (He.fAd K ("_law_told", none)) fd ["_law_course", "_law_left", "_law_fade_here", "_law_spots_here"] (spTold K) ∧ FunD K "_law_told" "_law_told" (defArgs s_l_told) (defBody s_l_told) (defScope s_l_told) [] [] (He.fAd K ("_law_told", none)) fd := by
  obtain ⟨fd, F⟩ := T.c.def_ 16 (d := d_l_told) rfl
  obtain ⟨fd_l_answers, G_l_answers, F_l_answers⟩ := ok_l_answers (P := P) (w := w) (base := base) T
  have kp_l_answers := F_l_answers.kp
  have b_l_answers : Binds K fd_l_answers ["_law_course", "_law_spots_here"] [] := FunD.bindsN F_l_answers (fun _ _ _ _ _ _ us hl => match us, hl with | [_, _], _ => rfl)
  obtain ⟨fd_l_start, G_l_start, F_l_start⟩ := ok_l_start (P := P) (w := w) (base := base) T
  have kp_l_start := F_l_start.kp
  have b_l_start : Binds K fd_l_start ["_law_course", "_law_left", "_law_out"] [] := FunD.bindsN F_l_start (fun _ _ _ _ _ _ us hl => match us, hl with | [_, _, _], _ => rfl)
  obtain ⟨fd_Course_tell, G_Course_tell, F_Course_tell⟩ := ok_Course_tell (P := P) (w := w) (base := base) T
  have kp_Course_tell := F_Course_tell.kp
  have b_Course_tell : Binds K fd_Course_tell ["self", "now", "wait", "rise", "fall", "end"] [] := FunD.bindsN F_Course_tell (fun _ _ _ _ _ _ us hl => match us, hl with | [_, _, _, _, _, _], _ => rfl)
  obtain ⟨fd_Course_aim, G_Course_aim, F_Course_aim⟩ := ok_Course_aim (P := P) (w := w) (base := base) T
  have kp_Course_aim := F_Course_aim.kp
  have b_Course_aim : Binds K fd_Course_aim ["self"] [] := FunD.bindsN F_Course_aim (fun _ _ _ _ _ _ us hl => match us, hl with | [_], _ => rfl)
  obtain ⟨fd_Course_still, G_Course_still, F_Course_still⟩ := ok_Course_still (P := P) (w := w) (base := base) T
  have kp_Course_still := F_Course_still.kp
  have b_Course_still : Binds K fd_Course_still ["self"] [] := FunD.bindsN F_Course_still (fun _ _ _ _ _ _ us hl => match us, hl with | [_], _ => rfl)
  obtain ⟨fd_l_whole, G_l_whole, F_l_whole⟩ := ok_l_whole (P := P) (w := w) (base := base) T
  have kp_l_whole := F_l_whole.kp
  have b_l_whole : Binds K fd_l_whole ["_law_found"] [] := FunD.bindsN F_l_whole (fun _ _ _ _ _ _ us hl => match us, hl with | [_], _ => rfl)
  obtain ⟨fd_l_gone, G_l_gone, F_l_gone⟩ := ok_l_gone (P := P) (w := w) (base := base) T
  have kp_l_gone := F_l_gone.kp
  have b_l_gone : Binds K fd_l_gone ["_law_start_here", "_law_end", "_law_length", "_law_top", "_law_bottom"] [] := FunD.bindsN F_l_gone (fun _ _ _ _ _ _ us hl => match us, hl with | [_, _, _, _, _], _ => rfl)
  refine ⟨fd, F.ok sc_l_told (by walk_at "g94len") (fun cdv A outer st H vs Q E hr h => ?_), F⟩
  · obtain ⟨x, q, a, p, rfl, c, us, us2, ss, lf, now, w, r, f, e, hc, hql, haq, hpq, hg, W, hn, hs, ha, hp, hsl, hok, n0, n1, hw, hr', hf, he, k⟩ := h
    refine ⟨_, PSs.nox (pss_cons (ps_set (i := 4) sc_l_told.nd rfl (Or.inl rfl) (pe_op op_add (pe_ix ix_list (pv 2) pe_int (fun _ _ => rfl)) (pe_ix ix_list (pv 2) pe_int (fun _ _ => rfl))))
        (pss_cons (ps_set (i := 5) sc_l_told.nd rfl (Or.inl rfl) (pe_call G_l_answers (hr.mono (by decide)) rfl (glo__law_answers T) kp_l_answers b_l_answers .nil pass0 (pa_cons (pv 0) (pa_cons (pv 3) pa_nil))))
        (pss_cons (ps_set (i := 6) sc_l_told.nd rfl (Or.inl rfl) (pe_call G_l_start (hr.mono (by decide)) rfl (glo__law_start T) kp_l_start b_l_start .nil pass0 (pa_cons (pv 0) (pa_cons (pv 1) (pa_cons (pv 4) pa_nil)))))
        (pss_cons (ps_if (PW.pt (pw_or (pt_cmpR op_isN (pv 5) pe_non (nomark _)) (pw_or1 (pt_not (pt_val (pe_call G_l_whole (hr.mono (by decide)) rfl (glo__law_whole T) kp_l_whole b_l_whole .nil pass0 (pa_cons (pv 6) pa_nil))))))) (pss_one (ps_ret pe_bl)) pss_nil)
        (pss_cons (ps_set (i := 7) sc_l_told.nd rfl (Or.inl rfl) (pe_ix ix_list (pv 2) pe_int (fun _ _ => rfl)))
        (C8.pss_cut (ps_if (pt_cmpR op_gt (pe_ix ix_list (pv 2) pe_int (fun _ _ => rfl)) (pv 6) (nomark _)) (pss_one (ps_set (i := 7) sc_l_told.nd rfl (Or.inl rfl) (pe_ix ix_list (pv 2) pe_int (fun _ _ => rfl)))) pss_nil)
        (pss_cons (ps_expr (pe_meth (pv 0) (cls_Course T) (m_Course_tell T) G_Course_tell (hr.mono (by decide)) b_Course_tell .nil pass0 (pa_cons (pe_ix ix_list (pv 2) pe_int (fun _ _ => rfl)) (pa_cons (pe_ix ix_list (pv 2) pe_int (fun _ _ => rfl)) (pa_cons (pe_ix ix_list (pv 2) pe_int (fun _ _ => rfl)) (pa_cons (pe_ix ix_list (pv 2) pe_int (fun _ _ => rfl)) (pa_cons (pe_ix ix_list (pv 2) pe_int (fun _ _ => rfl)) pa_nil)))))))
        (pss_cons (ps_set (i := 8) sc_l_told.nd rfl (Or.inl rfl) (pe_call G_l_answers (hr.mono (by decide)) rfl (glo__law_answers T) kp_l_answers b_l_answers .nil pass0 (pa_cons (pv 0) (pa_cons (pv 3) pa_nil))))
        (pss_cons (ps_if (pt_cmpR op_isN (pv 8) pe_non (nomark _)) (pss_one (ps_ret pe_bl)) pss_nil)
        (pss_cons (ps_for PassesOwn.never rfl (pi_range1 rfl (free_range T) (pa_cons (pe_callB call_len_seq (by rfl) (free_len T) (by decide +kernel) (pa_cons (pv 3) pa_nil)) pa_nil)) (pg_name (i := 9) sc_l_told.nd rfl (Or.inl rfl)) (pss_cons (ps_asg (pe_ix ix_list (pv 3) (pv 9) (fun _ _ => rfl)) (pg_tup rfl (pgs_cons (pg_name (i := 10) sc_l_told.nd rfl (Or.inl rfl)) (pgs_cons (pg_name (i := 11) sc_l_told.nd rfl (Or.inl rfl)) pgs_nil))))
        (pss_cons (ps_set (i := 12) sc_l_told.nd rfl (Or.inl rfl) (pe_ix ix_list (pv 5) (pv 9) (fun _ _ => rfl)))
        (C8.pss_cut (ps_if (pt_cmpR op_ge (pv 10) (pe_op op_mul (pv 4) (pv 11)) (nomark _)) (pss_one (ps_set (i := 12) sc_l_told.nd rfl (Or.inl rfl) (pe_call G_l_gone (hr.mono (by decide)) rfl (glo__law_gone T) kp_l_gone b_l_gone .nil pass0 (pa_cons (pv 6) (pa_cons (pe_ix ix_list (pv 2) pe_int (fun _ _ => rfl)) (pa_cons (pv 7) (pa_cons (pe_op op_sub (pv 10) (pe_op op_mul (pv 4) (pv 11))) (pa_cons (pv 11) pa_nil)))))))) pss_nil)
        (pss_one (ps_if (pt_cmpR op_ne (pe_ix ix_list (pv 8) (pv 9) (fun _ _ => rfl)) (pv 12) (nomark _)) (pss_one (ps_ret pe_bl)) pss_nil))))))
        (pss_cons (ps_set (i := 13) sc_l_told.nd rfl (Or.inl rfl) (pe_lst (pa_cons (pe_meth0 (pv 0) (cls_Course T) (m_Course_aim T) G_Course_aim (hr.mono (by decide)) b_Course_aim .nil pass0) (pa_cons (pe_meth0 (pv 0) (cls_Course T) (m_Course_still T) G_Course_still (hr.mono (by decide)) b_Course_still .nil pass0) pa_nil))))
        (pss_one (ps_ret (pe_and (pe_call G_l_whole (hr.mono (by decide)) rfl (glo__law_whole T) kp_l_whole b_l_whole .nil pass0 (pa_cons (pe_ix ix_list (pv 13) pe_int (fun _ _ => rfl)) pa_nil)) (pe_and (pe_call G_l_whole (hr.mono (by decide)) rfl (glo__law_whole T) kp_l_whole b_l_whole .nil pass0 (pa_cons (pe_ix ix_list (pv 13) pe_int (fun _ _ => rfl)) pa_nil)) (pe_one (pe_cmpR (op_eqD hr.units) (pv 13) (pe_lst (pa_cons (pe_ix ix_list (pv 2) pe_int (fun _ _ => rfl)) (pa_cons (pe_op op_add (pv 4) (pv 7)) pa_nil))) (nomark _)))))))))))))))))), ?_⟩
    refine ⟨_, rfl, a, _, _, _, rfl, rfl, .of ha, rfl, ?_⟩
    refine ⟨_, rfl, a, _, _, _, rfl, rfl, .of ha, rfl, ?_⟩
    walk_at "rds"
    refine ⟨x, p, c, us2, ss, rfl, hc.crs, hg, hp, hsl, hok, fun D1 H1 s1 hD1 hq1 => ?_⟩
    have q1 := hc.same s1
    have q2 := hs.same s1
    have q3 := s1 _ _ ha
    have q4 := hp.same s1
    walk_at "rds"
    refine ⟨x, q, now + w, c, us, lf, rfl, q1, hql, hg, W, by omega, q2, fun us3 s H2 hs3 hS3 k3 => ?_⟩
    have hDq : D1 ≠ q := (ne_of_none hs.l hD1).symm
    have q5 := q1.keep q2.l hql k3
    have q6 := k3 _ _ q3 haq
    have q7 := k3 _ _ hq1 hDq
    walk_at "rds"
    refine ⟨a, _, _, _, rfl, rfl, .of q6, rfl, ?_⟩
    refine ⟨fun σ' H' => ∃ len : Int, σ' = [some (.ref x), some (.ref q), some (.ref a), some (.ref p), some (.int (now + w)), some (.ref D1), some (.int s), some (.int len), none, none, none, none, none, none] ∧ len = (if s < e then r else f) ∧ H' = H2, ?_, ?_⟩
    · refine ⟨_, rfl, a, _, _, _, rfl, rfl, .of q6, rfl, ?_⟩
      walk_at "rds"
      walk_at "ri" <;> intro c1
      · refine ⟨_, rfl, a, _, _, _, rfl, rfl, .of q6, rfl, ?_⟩
        exact ⟨r, rfl, (if_pos c1).symm, rfl⟩
      · exact ⟨f, rfl, (if_neg c1).symm, rfl⟩
    rintro σ' H' ⟨len, rfl, hlen, rfl⟩
    have hlenI : 0 ≤ len ∧ len ≤ 1000000000 := by
      rw [hlen]
      split <;> omega
    have hsI : 0 ≤ s ∧ s ≤ 1000000000000000000 := by
      rw [hs3]
      exact look_in hg.f (by decide) fun g hg' => kept_good hg.fs g (List.mem_reverse.mp hg')
    obtain ⟨dx, ts, o1, _, _⟩ := q5.ob
    refine ⟨_, rfl, x, dx, _, rfl, o1, cf_no _ _ (by decide +kernel) (by decide +kernel), ?_⟩
    refine ⟨_, rfl, a, _, _, _, rfl, rfl, .of q6, rfl, ?_⟩
    refine ⟨_, rfl, a, _, _, _, rfl, rfl, .of q6, rfl, ?_⟩
    refine ⟨_, rfl, a, _, _, _, rfl, rfl, .of q6, rfl, ?_⟩
    refine ⟨_, rfl, a, _, _, _, rfl, rfl, .of q6, rfl, ?_⟩
    refine ⟨_, rfl, a, _, _, _, rfl, rfl, .of q6, rfl, ?_⟩
    refine ⟨x, c, now, w, r, f, e, rfl, q5.crs, hg, by omega, fun H3 l3 hl3 hc3 kp3 => ?_⟩
    have q4' : Spots H' p us2 ss := q4.mono (fun xs z => k3 _ _ z hpq) (fun t xs z => k3 _ _ z (ne_of z q2.l (by intro y; cases y)))
    have r6 : H3 a = some (.lst ([now, w, r, f, e].map V.int)) := kp3 _ _ q6 (ne_of q6 o1 (by intro z; cases z))
    have r7 : H3 D1 = some (.lst (ss.map (posV c))) := kp3 _ _ q7 (ne_of q7 o1 (by intro z; cases z))
    have r4 : Spots H3 p us2 ss := q4'.mono (fun xs z => kp3 _ _ z (ne_of z o1 (by intro y; cases y))) (fun t xs z => kp3 _ _ z (ne_of z o1 (by intro y; cases y)))
    have r3 : Spots H3 q us3 ((kept (now + w) c.fades).map lo ++ [(now + w, s)]) := hS3.mono (fun xs z => kp3 _ _ z (ne_of z o1 (by intro y; cases y))) (fun t xs z => kp3 _ _ z (ne_of z o1 (by intro y; cases y)))
    have hql3 : q ≠ l3 := ne_of_none hS3.l hl3
    have hg3 : (c.tell now w r f e).Good := hg.tell ⟨hr'.1, Int.le_trans hr'.2 (by decide)⟩ ⟨hf.1, Int.le_trans hf.2 (by decide)⟩ ⟨he.1, Int.le_trans he.2 (by decide)⟩
    refine ⟨_, rfl, _, rfl, x, p, c.tell now w r f e, us2, ss, rfl, hc3.crs, hg3, r4, hsl, hok, fun D2 H4 s4 hD2 hq4 => ?_⟩
    walk_at "rds"
    have t4 := r4.same s4
    have t6 := s4 _ _ r6
    have t7 := s4 _ _ r7
    refine ⟨p, _, rfl, .inl (.of t4.l), ?_⟩
    rw [List.length_map, hp.n]
    walk_at "rds"
    refine for_range (lo := 0) (n := ((ss.length : Nat) : Int).toNat) (fun i σ' H' => ∃ v1 v2 v3 v4, σ' = [some (.ref x), some (.ref q), some (.ref a), some (.ref p), some (.int (now + w)), some (.ref D1), some (.int s), some (.int len), some (.ref D2), v1, v2, v3, v4, none] ∧ H' = H4) ⟨_, _, _, _, rfl, rfl⟩ ?_ ?_
    · rintro i σ' H5 hi ⟨v1, v2, v3, v4, rfl, rfl⟩
      have hil : i < ss.length := by omega
      have hz : ss[i]? = some ss[i] := List.getElem?_eq_getElem hil
      have hok1 := hok _ (List.getElem_mem hil)
      generalize ss[i] = z at hz hok1
      have hiu : i < us2.length := by rw [hp.n]; exact hil
      have hu : us2[i]? = some us2[i] := List.getElem?_eq_getElem hiu
      generalize us2[i] = u at hu
      have hut := t4.t i u z hu hz
      have au : atI (us2.map V.ref) (0 + (i : Int)) = some (V.ref u) := by
        rw [Int.zero_add]
        exact atI_nat (by rw [List.getElem?_map, hu]; rfl)
      have a1 : atI (ss.map (posV c)) (0 + (i : Int)) = some (posV c z) := by
        rw [Int.zero_add]
        exact atI_nat (by rw [List.getElem?_map, hz]; rfl)
      have a2 : atI (ss.map (posV (c.tell now w r f e))) (0 + (i : Int)) = some (posV (c.tell now w r f e) z) := by
        rw [Int.zero_add]
        exact atI_nat (by rw [List.getElem?_map, hz]; rfl)
      walk_at "rds"
      refine ⟨p, _, _, _, rfl, rfl, .of t4.l, au, u, _, rfl, .of hut, rfl, _, _, rfl, _, _, rfl, rfl, ?_⟩
      refine ⟨_, rfl, _, rfl, D1, _, _, _, rfl, rfl, .of t7, a1, ?_⟩
      have hpos := tell_pos (c := c) (now := now) (wait := w) (rise := r) (fall := f) (fin := e) (t := z.1) (b := z.2) hok1.1 hs3
      refine ⟨fun σ' H6 => ∃ due : Int, σ' = [some (.ref x), some (.ref q), some (.ref a), some (.ref p), some (.int (now + w)), some (.ref D1), some (.int s), some (.int len), some (.ref D2), some (.int (0 + (i : Int))), some (.int z.1), some (.int z.2), some (.int due), none] ∧ due = (c.tell now w r f e).pos z.1 z.2 ∧ H6 = H5, ?_, ?_⟩
      · rw [hpos]
        walk_at "rds"
        walk_at "ri" <;> intro c1
        · rw [if_pos c1]
          refine ⟨_, rfl, _, rfl, a, _, _, _, rfl, rfl, .of t6, rfl, ?_⟩
          walk_at "rds"
          refine ⟨⟨hsI.1, hsI.2, he.1, Int.le_trans he.2 (by decide), hlenI.1, Int.le_trans hlenI.2 (by decide), hok1.1, Int.le_trans hok1.2 (by decide)⟩, ?_⟩
          exact ⟨_, rfl, by rw [hlen], rfl⟩
        · rw [if_neg c1]
          exact ⟨_, rfl, rfl, rfl⟩
      rintro σ' H6 ⟨due, rfl, hdue, rfl⟩
      refine ⟨_, rfl, _, rfl, D2, _, _, _, rfl, rfl, .of hq4, a2, ?_⟩
      walk_at "rds"
      refine iteNVF hdue.symm ?_
      exact ⟨_, _, _, _, rfl, rfl⟩
    rintro σ' H5 ⟨v1, v2, v3, v4, rfl, rfl⟩
    have c4 := hc3.same s4
    obtain ⟨dx3, ts3, o3, _, _⟩ := c4.ob
    refine ⟨_, rfl, x, dx3, _, rfl, o3, cf_no _ _ (by decide +kernel) (by decide +kernel), x, _, rfl, c4.crs, fun H6 s6 => ?_⟩
    refine ⟨_, rfl, x, dx3, _, rfl, s6 _ _ o3, cf_no _ _ (by decide +kernel) (by decide +kernel), x, _, rfl, (c4.same s6).crs, fun H7 s7 => ?_⟩
    refine ⟨small_size (Nat.le_of_ble_eq_true rfl), fun pe hpe => ?_⟩
    obtain ⟨e1, e2⟩ := tell_ends (c := c) (now := now) (wait := w) (rise := r) (fall := f) (fin := e) hs3
    rw [e1, e2, ← hlen]
    have s8 := (s4.trans (s6.trans s7)).new (o := HO.lst [V.int e, V.int (now + w + len)]) hpe
    have E1 : upd H7 pe (HO.lst [V.int e, V.int (now + w + len)]) pe = some (HO.lst [V.int e, V.int (now + w + len)]) := upd_same
    generalize upd H7 pe (HO.lst [V.int e, V.int (now + w + len)]) = H8 at s8 E1 ⊢
    refine ⟨_, rfl, pe, _, _, _, rfl, rfl, .of E1, rfl, _, rfl, _, rfl, iteT ?_⟩
    refine ⟨_, rfl, pe, _, _, _, rfl, rfl, .of E1, rfl, _, rfl, _, rfl, iteT ?_⟩
    refine ⟨_, rfl, _, rfl, a, _, _, _, rfl, rfl, .of (s8 _ _ r6), rfl, ?_⟩
    walk_at "rds"
    intro pf hpf
    refine ⟨.list [.int e, .int (now + w + len)], .list [.int e, .int (now + w + len)], .lst (.of (by rw [upd_ne (ne_of_none E1 hpf)]; exact E1)) (.cons (.int _) (.cons (.int _) .nil)), .lst (.of upd_same) (.cons (.int _) (.cons (.int _) .nil)), rfl, rfl, ?_⟩
    rw [SeqAt.eqv_refl _ rfl]
    have s9 := s8.new (o := HO.lst [V.int e, V.int (now + w + len)]) hpf
    have r9 := r3.same s9
    refine k l3 us3 _ (hc3.same s9) (fun b ob hb e0 => by
      by_cases hbq : b = q
      · exact hql3 (hbq.symm.trans e0)
      · exact ne_of_none (k3 _ _ (s1 _ _ hb) hbq) hl3 e0) (by rw [hs3] at r9; unfold Crs.tell; rw [List.map_append]; exact r9) fun b ob hb n1 n2 => s9 _ _ (kp3 _ _ (k3 _ _ (s1 _ _ hb) n1) n2)
structure Side (K : PySem.W.Frag) (H : Hp) (x q lf : Addr) (c : Crs) (us : List Addr) : Prop where
  crs : CrsL K H x lf c
  ne : q ≠ lf
  good : c.Good
  wf : WF c
  sp : Spots H q us (c.fades.map lo)
theorem Side.same {K : PySem.W.Frag} {H H' : Hp} {x q lf : Addr} {c : Crs} {us : List Addr} (h : Side K H x q lf c us) (e : Same H H') : Side K H' x q lf c us := ⟨h.crs.same e, h.ne, h.good, h.wf, h.sp.same e⟩
theorem Side.keep {K : PySem.W.Frag} {H H' : Hp} {x q lf x' q' C dx : Addr} {c : Crs} {us : List Addr} {fs : List (Str × V)} {xs : List V} (h : Side K H x q lf c us) (hx' : H x' = some (.ins C dx fs)) (hq' : H q' = some (.lst xs))
    (n1 : x ≠ x') (n2 : q ≠ q') (n3 : lf ≠ q') (kp : ∀ b ob, H b = some ob → b ≠ q' → b ≠ x' → H' b = some ob) : Side K H' x q lf c us := by
  obtain ⟨dx, ts, o1, o2, o3⟩ := h.crs.ob
  have kt : ∀ t xs, H t = some (.tup xs) → H' t = some (.tup xs) := fun t xs e => kp _ _ e (ne_of e hq' (by intro z; cases z)) (ne_of e hx' (by intro z; cases z))
  exact ⟨⟨⟨dx, ts, kp _ _ o1 (ne_of o1 hq' (by intro z; cases z)) n1, kp _ _ o2 n3 (ne_of o2 hx' (by intro z; cases z)), o3.mono kt⟩⟩, h.ne, h.good, h.wf, h.sp.mono (fun xs e => kp _ _ e n2 (ne_of e hx' (by intro z; cases z))) kt⟩
/-- both courses with what is left of each -/
structure Pair (K : PySem.W.Frag) (H : Hp) (x q y r : Addr) (n : Nat) : Prop where
  a : ∃ lf c us, Side K H x q lf c us ∧ c.fades.length ≤ n ∧ r ≠ lf
  b : ∃ lf c us, Side K H y r lf c us ∧ c.fades.length ≤ n ∧ q ≠ lf
  nx : x ≠ y
  nq : q ≠ r
theorem Pair.symm {K : PySem.W.Frag} {H : Hp} {x q y r : Addr} {n : Nat} (h : Pair K H x q y r n) : Pair K H y r x q n := ⟨h.b, h.a, h.nx.symm, h.nq.symm⟩
theorem Pair.same {K : PySem.W.Frag} {H H' : Hp} {x q y r : Addr} {n : Nat} (h : Pair K H x q y r n) (e : Same H H') : Pair K H' x q y r n := by
  obtain ⟨lf, c, us, s, l, n1⟩ := h.a
  obtain ⟨lg, d, vs, s2, l2, n2⟩ := h.b
  exact ⟨⟨lf, c, us, s.same e, l, n1⟩, ⟨lg, d, vs, s2.same e, l2, n2⟩, h.nx, h.nq⟩
theorem pick {K : PySem.W.Frag} {H : Hp} {x0 q0 x1 q1 : Addr} {n : Nat} {k : Int} (h0 : 0 ≤ k) (h1 : k < 2) (P : Pair K H x0 q0 x1 q1 n) : ∃ xa qa xb qb, atI [V.ref x0, V.ref x1] k = some (V.ref xa) ∧ atI [V.ref q0, V.ref q1] k = some (V.ref qa) ∧ atI [V.ref x0, V.ref x1] (1 - k) = some (V.ref xb) ∧
    Pair K H xa qa xb qb n ∧ (∀ H' m, Pair K H' xa qa xb qb m → Pair K H' x0 q0 x1 q1 m) ∧ ∀ p, p ≠ q0 → p ≠ q1 → p ≠ qa := by
  rcases (by omega : k = 0 ∨ k = 1) with rfl | rfl
  · exact ⟨x0, q0, x1, q1, rfl, rfl, rfl, P, fun _ _ h => h, fun _ h _ => h⟩
  · exact ⟨x1, q1, x0, q0, rfl, rfl, rfl, P.symm, fun _ _ h => h.symm, fun _ _ h => h⟩
def pD (c : Crs) (ss : List (Int × Int)) : List PyData := ss.map fun z => .int (c.pos z.1 z.2)
theorem pD_dp {K : PySem.W.Frag} {H : Hp} {c : Crs} : ∀ ss : List (Int × Int), DpAll K H (ss.map (posV c)) (pD c ss)
  | [] => .nil
  | z :: r => .cons (.int _) (pD_dp r)
theorem pD_lay {c : Crs} : ∀ ss : List (Int × Int), PyData.canLayAll0 (pD c ss) = true
  | [] => by simp [pD, PyData.canLayAll0]
  | z :: r => by
    have ih := pD_lay (c := c) r
    unfold pD at ih ⊢
    simp [PyData.canLayAll0, PyData.canLay0, ih]
theorem pD_depth {c : Crs} : ∀ ss : List (Int × Int), PyData.depthAll (pD c ss) ≤ 1
  | [] => by simp [pD, PyData.depthAll]
  | z :: r => by
    have ih := pD_depth (c := c) r
    unfold pD at ih ⊢
    simp only [List.map_cons, PyData.depthAll, PyData.depth]
    omega
theorem pD_shaped (c : Crs) (ss : List (Int × Int)) : SeqAt.shaped (.list (pD c ss)) = true := by
  unfold SeqAt.shaped
  rw [Bool.and_eq_true]
  refine ⟨by simp only [PyData.canLay0]; exact pD_lay ss, decide_eq_true ?_⟩
  have h := pD_depth (c := c) ss
  simp only [PyData.depth]
  omega
def spLaw (K : PySem.W.Frag) : Sp := fun vs H Q _ => ∃ (a : Addr) (ns : List Int), vs = [.ref a] ∧ SqL K H a (ns.map V.int) ∧ ns.length ≤ 63 ∧ (∀ z ∈ ns, Builtin.Int.intBits z ≤ 1048576) ∧ Only H ∧ ∀ H', Q (.bl true) H'

theorem ok_law (T : Txt K mg) : ∃ fd, FnOk P w K mg base CX0 6 (He.fAd K ("law", none)) fd ["_law_script"] (spLaw K) ∧ FunD K "law" "law" (defArgs s_law) (defBody s_law) (defScope s_law) [] [] (He.fAd K ("law", none)) fd := by
  obtain ⟨fd, F⟩ := T.c.def_ 17 (d := d_law) rfl
  obtain ⟨fd_l_cell_at, G_l_cell_at, F_l_cell_at⟩ := ok_l_cell_at (P := P) (w := w) (base := base) T
  have kp_l_cell_at := F_l_cell_at.kp
  have b_l_cell_at : Binds K fd_l_cell_at ["_law_script", "_law_k"] [] := FunD.bindsN F_l_cell_at (fun _ _ _ _ _ _ us hl => match us, hl with | [_, _], _ => rfl)
  obtain ⟨fd_Course_init, G_Course_init, F_Course_init⟩ := ok_Course_init (P := P) (w := w) (base := base) T
  have kp_Course_init := F_Course_init.kp
  obtain ⟨d0_Course_init, v0_Course_init, b0_Course_init⟩ : ∃ ds, Vals ([V.int 0].drop 1) ds ∧ Binds K fd_Course_init ["self", "worth"] ds := F_Course_init.binds1 2 1 (by decide) rfl (fun _ _ _ _ _ _ _ us its h1 h2 => match us, its, h1, h2 with | [_, _], [_], _, _ => ⟨_, rfl, rfl⟩)
  obtain ⟨d1_Course_init, v1_Course_init, b1_Course_init⟩ : ∃ ds, Vals ([V.int 0].drop 0) ds ∧ Binds K fd_Course_init ["self", "worth"] ds := F_Course_init.binds1 1 0 (by decide) rfl (fun _ _ _ _ _ _ _ us its h1 h2 => match us, its, h1, h2 with | [_], [_], _, _ => ⟨_, rfl, rfl⟩)
  obtain ⟨fd_l_fade, G_l_fade, F_l_fade⟩ := ok_l_fade (P := P) (w := w) (base := base) T
  have kp_l_fade := F_l_fade.kp
  have b_l_fade : Binds K fd_l_fade ["_law_cell", "_law_last", "_law_wide", "_law_rising"] [] := FunD.bindsN F_l_fade (fun _ _ _ _ _ _ us hl => match us, hl with | [_, _, _, _], _ => rfl)
  obtain ⟨fd_l_spots, G_l_spots, F_l_spots⟩ := ok_l_spots (P := P) (w := w) (base := base) T
  have kp_l_spots := F_l_spots.kp
  have b_l_spots : Binds K fd_l_spots ["_law_cell", "_law_fade_here"] [] := FunD.bindsN F_l_spots (fun _ _ _ _ _ _ us hl => match us, hl with | [_, _], _ => rfl)
  obtain ⟨fd_l_answers, G_l_answers, F_l_answers⟩ := ok_l_answers (P := P) (w := w) (base := base) T
  have kp_l_answers := F_l_answers.kp
  have b_l_answers : Binds K fd_l_answers ["_law_course", "_law_spots_here"] [] := FunD.bindsN F_l_answers (fun _ _ _ _ _ _ us hl => match us, hl with | [_, _], _ => rfl)
  obtain ⟨fd_Course_at, G_Course_at, F_Course_at⟩ := ok_Course_at (P := P) (w := w) (base := base) T
  have kp_Course_at := F_Course_at.kp
  obtain ⟨d1_Course_at, v1_Course_at, b1_Course_at⟩ : ∃ ds, Vals ([V.int 1].drop 0) ds ∧ Binds K fd_Course_at ["self", "top", "bottom"] ds := F_Course_at.binds1 2 0 (by decide) rfl (fun _ _ _ _ _ _ _ us its h1 h2 => match us, its, h1, h2 with | [_, _], [_], _, _ => ⟨_, rfl, rfl⟩)
  obtain ⟨fd_l_draw, G_l_draw, F_l_draw⟩ := ok_l_draw (P := P) (w := w) (base := base) T
  have kp_l_draw := F_l_draw.kp
  have b_l_draw : Binds K fd_l_draw ["_law_cell", "_law_place"] [] := FunD.bindsN F_l_draw (fun _ _ _ _ _ _ us hl => match us, hl with | [_, _], _ => rfl)
  obtain ⟨fd_l_told, G_l_told, F_l_told⟩ := ok_l_told (P := P) (w := w) (base := base) T
  have kp_l_told := F_l_told.kp
  have b_l_told : Binds K fd_l_told ["_law_course", "_law_left", "_law_fade_here", "_law_spots_here"] [] := FunD.bindsN F_l_told (fun _ _ _ _ _ _ us hl => match us, hl with | [_, _, _, _], _ => rfl)
  refine ⟨fd, F.ok sc_law (by walk_at "g94len") (fun cdv A outer st H vs Q E hr h => ?_), F⟩
  · obtain ⟨a, ns, rfl, hS, hlen, hbits, hO, k⟩ := h
    refine ⟨_, PSs.nox (pss_cons (ps_set (i := 0) sc_law.nd rfl (Or.inr rfl) (pe_lc (own := [("_law_cell", 7)]) (g := gName 7) rfl sc_law.nd (pi_list (pv 0)) (blkOk_by (own := [("_law_cell", 7)]) (N := ["_law_script", "_law_wide", "_law_rising", "_law_first", "_law_courses", "_law_left", "_law_last", "_law_cell", "_law_k", "_law_fade_here", "_law_spots_here", "_law_beside"]) (sc := defScope s_law) (by decide +kernel)) (fun _ _ _ _ _ => pg_name (i := 7) sc_law.nd rfl (Or.inl rfl)) (fun _ _ _ _ _ => pts_nil) (fun _ _ _ _ _ => (pe_op op_add (pe_op op_mul pe_int (pv 7)) (pe_op op_mod (pe_callB (show CallR _ (.builtin "sum") (rSum K) from cr_sum rfl) (by rfl) (free_sum T) (by decide +kernel) (pa_cons (pe_slice (show SlR _ (rSlL K) from sl_list) (pv 0) po_none (po_some pe_int)) pa_nil)) pe_int)))))
        (pss_cons (ps_set (i := 1) sc_law.nd rfl (Or.inl rfl) (pe_op op_mod (pe_op op_fdiv (pe_call G_l_cell_at (hr.mono (by decide)) rfl (glo__law_cell_at T) kp_l_cell_at b_l_cell_at .nil pass0 (pa_cons (pv 0) (pa_cons pe_int pa_nil))) pe_int) pe_int))
        (pss_cons (ps_set (i := 2) sc_law.nd rfl (Or.inl rfl) (pe_cmpR op_eq (pe_op op_mod (pe_op op_fdiv (pe_call G_l_cell_at (hr.mono (by decide)) rfl (glo__law_cell_at T) kp_l_cell_at b_l_cell_at .nil pass0 (pa_cons (pv 0) (pa_cons pe_int pa_nil))) pe_int) pe_int) pe_int (nomark _)))
        (pss_cons (ps_set (i := 3) sc_law.nd rfl (Or.inl rfl) (pe_op op_mod (pe_call G_l_cell_at (hr.mono (by decide)) rfl (glo__law_cell_at T) kp_l_cell_at b_l_cell_at .nil pass0 (pa_cons (pv 0) (pa_cons pe_int pa_nil))) (pe_op op_add (pe_powC (v := 1000000000) (by rfl) (by decide +kernel)) pe_int)))
        (pss_cons (ps_set (i := 4) sc_law.nd rfl (Or.inl rfl) (pe_lst (pa_cons (pe_make0 (mk_Course T) G_Course_init (hr.mono (by decide)) rfl (glo_Course T) b1_Course_init v1_Course_init pass0) (pa_cons (pe_make (mk_Course T) G_Course_init (hr.mono (by decide)) rfl (glo_Course T) b0_Course_init v0_Course_init pass0 (pa_cons (pv 3) pa_nil)) pa_nil))))
        (pss_cons (ps_if (PW.pt (pw_or (pt_cmpR op_ne (pe_meth (pe_ix ix_list (pv 4) pe_int (fun _ _ => rfl)) (cls_Course T) (m_Course_at T) G_Course_at (hr.mono (by decide)) b1_Course_at v1_Course_at pass0 (pa_cons pe_int pa_nil)) pe_int (nomark _)) (pw_or1 (pt_cmpR op_ne (pe_meth (pe_ix ix_list (pv 4) pe_int (fun _ _ => rfl)) (cls_Course T) (m_Course_at T) G_Course_at (hr.mono (by decide)) b1_Course_at v1_Course_at pass0 (pa_cons pe_int pa_nil)) (pv 3) (nomark _))))) (pss_one (ps_ret pe_bl)) pss_nil)
        (pss_cons (ps_set (i := 5) sc_law.nd rfl (Or.inl rfl) (pe_lst (pa_cons (pe_lst pa_nil) (pa_cons (pe_lst pa_nil) pa_nil))))
        (pss_cons (ps_set (i := 6) sc_law.nd rfl (Or.inl rfl) pe_int)
        (pss_cons (ps_for PassesOwn.never rfl (pi_list (pe_slice sl_list (pv 0) po_none (po_some pe_int))) (pg_name (i := 7) sc_law.nd rfl (Or.inl rfl)) (pss_cons (ps_set (i := 8) sc_law.nd rfl (Or.inl rfl) (pe_op op_mod (pe_call G_l_draw (hr.mono (by decide)) rfl (glo__law_draw T) kp_l_draw b_l_draw .nil pass0 (pa_cons (pv 7) (pa_cons pe_int pa_nil))) pe_int))
        (pss_cons (ps_set (i := 9) sc_law.nd rfl (Or.inl rfl) (pe_call G_l_fade (hr.mono (by decide)) rfl (glo__law_fade T) kp_l_fade b_l_fade .nil pass0 (pa_cons (pv 7) (pa_cons (pv 6) (pa_cons (pv 1) (pa_cons (pv 2) pa_nil))))))
        (pss_cons (ps_set (i := 6) sc_law.nd rfl (Or.inl rfl) (pe_ix ix_list (pv 9) pe_int (fun _ _ => rfl)))
        (pss_cons (ps_set (i := 10) sc_law.nd rfl (Or.inl rfl) (pe_call G_l_spots (hr.mono (by decide)) rfl (glo__law_spots T) kp_l_spots b_l_spots .nil pass0 (pa_cons (pv 7) (pa_cons (pv 9) pa_nil))))
        (pss_cons (ps_set (i := 11) sc_law.nd rfl (Or.inl rfl) (pe_call G_l_answers (hr.mono (by decide)) rfl (glo__law_answers T) kp_l_answers b_l_answers .nil pass0 (pa_cons (pe_ix ix_list (pv 4) (pe_op op_sub pe_int (pv 8)) (fun _ _ => rfl)) (pa_cons (pv 10) pa_nil))))
        (pss_cons (ps_if (pt_not (pt_val (pe_call G_l_told (hr.mono (by decide)) rfl (glo__law_told T) kp_l_told b_l_told .nil pass0 (pa_cons (pe_ix ix_list (pv 4) (pv 8) (fun _ _ => rfl)) (pa_cons (pe_ix ix_list (pv 5) (pv 8) (fun _ _ => rfl)) (pa_cons (pv 9) (pa_cons (pv 10) pa_nil))))))) (pss_one (ps_ret pe_bl)) pss_nil)
        (pss_one (ps_if (PW.pt (pw_or (pt_cmpR op_isN (pv 11) pe_non (nomark _)) (pw_or1 (pt_cmpR (op_neD hr.units) (pe_call G_l_answers (hr.mono (by decide)) rfl (glo__law_answers T) kp_l_answers b_l_answers .nil pass0 (pa_cons (pe_ix ix_list (pv 4) (pe_op op_sub pe_int (pv 8)) (fun _ _ => rfl)) (pa_cons (pv 10) pa_nil))) (pv 11) (nomark _))))) (pss_one (ps_ret pe_bl)) pss_nil)))))))))
        (pss_one (ps_ret pe_bl))))))))))), ?_⟩
    walk_at "rds"
    refine fun D hD => lc_list (K := K) (a := a) (xs := ns.map V.int) (fun i H' => ∃ acc : List Int, H' D = some (.lst (acc.map V.int)) ∧ acc.length = i ∧ Same H H') ⟨[], upd_same, rfl, (Same.refl H).new hD⟩ (fun i H' _ ⟨_, _, _, s⟩ => s.seq hS) ?_ ?_
    · rintro i y H' hi ⟨acc, hacc, hl, s⟩
      obtain ⟨z, rfl, hz, hlt⟩ := int_at hi
      refine ⟨rfl, ?_⟩
      walk_at "rds"
      refine ⟨_, _, rfl, s.seq hS, fun p hp => ?_⟩
      obtain ⟨ms, e1, _, _⟩ := cut_ints ns none (some 1)
      rw [e1]
      refine ⟨_, ms, rfl, SqL.of upd_same, ?_⟩
      walk_at "rds"
      refine ⟨acc.map V.int, ?_, ?_, acc ++ [2 * z + ms.sum % 2], ?_, ?_, ?_⟩
      · rw [upd_ne (ne_of_none hacc hp)]
        exact hacc
      · rw [List.length_map]
        exact Nat.lt_of_lt_of_le (show acc.length < 100000 by omega) (by decide)
      · rw [upd_same, List.map_append]
        rfl
      · rw [List.length_append]
        show acc.length + 1 = i + 1
        omega
      · exact (s.new hp).mut hD
    rintro H1 ⟨ns1, hD1, hl1, s1⟩
    rw [List.length_map] at hl1

    clear s1 hS hO hbits
    have hS1 : SqL K H1 D (ns1.map V.int) := SqL.of hD1
    walk_at "rz"
    rename_i w0 u0 z0
    walk_at "nf"
    have hw : 0 ≤ w0 / 4 % 2 ∧ w0 / 4 % 2 < 2 := by omega
    generalize w0 / 4 % 2 = wide at hw ⊢
    walk_at "nf"
    generalize (decide (V.int (u0 / 8 % 2) = V.int 1)) = rs
    have hz : 0 ≤ z0 % (1000000000 + 1) ∧ z0 % (1000000000 + 1) ≤ 1000000000 := by omega
    generalize z0 % (1000000000 + 1) = z at hz ⊢
    intro x0 dx0 hx0 hdx0 ne0
    refine ⟨x0, dx0, 0, rfl, upd_same, fun H2 l0 hl0 nl0 hc0 kp0 => ⟨rfl, ?_⟩⟩
    have s2 := made_same hx0 hdx0 kp0
    refine ⟨_, rfl, fun x1 dx1 hx1 hdx1 ne1 => ⟨x1, dx1, z, rfl, upd_same, fun H3 l1 hl1 nl1 hc1 kp1 => ⟨rfl, ?_⟩⟩⟩
    have s3 := made_same hx1 hdx1 kp1
    obtain ⟨d0, t0, o0, o0l, _⟩ := hc0.ob
    have nx : x0 ≠ x1 := ne_of_none o0 hx1
    have hc0 := hc0.same s3
    have hD3 := s3 _ _ (s2 _ _ hD1)
    refine ⟨small_size (Nat.le_of_ble_eq_true rfl), fun pc hpc => ?_⟩
    have s4 := (Same.refl H3).new (o := HO.lst [.ref x0, .ref x1]) hpc
    have hpc4 : upd H3 pc (HO.lst [.ref x0, .ref x1]) pc = some (HO.lst [.ref x0, .ref x1]) := upd_same
    have hc0 := hc0.same s4
    have hc1 := hc1.same s4
    have hD4 := s4 _ _ hD3
    generalize upd H3 pc (HO.lst [.ref x0, .ref x1]) = H4 at hc0 hc1 hpc4 hD4 ⊢
    clear s2 s3 s4 hpc hD3 hD1 hS1 hl0 hl1 kp0 kp1 o0 o0l nl0 nl1
    have g0 : Crs.Good ⟨0, []⟩ := ⟨⟨by decide, by decide⟩, fun f hf => by cases hf⟩
    have g1 : Crs.Good ⟨z, []⟩ := ⟨⟨hz.1, Int.le_trans hz.2 (by decide)⟩, fun f hf => by cases hf⟩
    obtain ⟨d0, t0, o0, o0l, _⟩ := hc0.ob
    obtain ⟨d1, t1, o1, o1l, _⟩ := hc1.ob
    refine ⟨_, rfl, pc, _, _, _, rfl, rfl, .of hpc4, rfl, x0, _, _, rfl, o0, cf_no _ _ (by decide +kernel) (by decide +kernel), x0, _, 0, 1, rfl, hc0.crs, g0, by decide, by decide, ?_⟩
    refine ⟨rfl, _, rfl, iteNVF rfl ?_⟩
    refine ⟨_, rfl, pc, _, _, _, rfl, rfl, .of hpc4, rfl, x1, _, _, rfl, o1, cf_no _ _ (by decide +kernel) (by decide +kernel), x1, _, 0, 1, rfl, hc1.crs, g1, by decide, by decide, ?_⟩
    refine ⟨_, rfl, rfl, _, rfl, iteNVF rfl ?_⟩
    walk_at "rds"
    intro q0 hq0
    walk_at "rds"
    intro q1 hq1
    walk_at "rds"
    intro pl hpl
    have n01 : q0 ≠ q1 := by walk_at "ne"
    have n02 : pl ≠ q0 := by walk_at "ne"
    have n03 : pl ≠ q1 := by walk_at "ne"
    have n04 : pc ≠ q0 := by walk_at "ne"
    have n05 : pc ≠ q1 := by walk_at "ne"
    have n06 : q0 ≠ l0 := by walk_at "ne"
    have n07 : q0 ≠ l1 := by walk_at "ne"
    have n08 : q1 ≠ l0 := by walk_at "ne"
    have n09 : q1 ≠ l1 := by walk_at "ne"
    have s5 : Same H4 (upd (upd (upd H4 q0 (HO.lst [])) q1 (HO.lst [])) pl (HO.lst [.ref q0, .ref q1])) := by walk_at "sm"
    have h0 : upd (upd (upd H4 q0 (HO.lst [])) q1 (HO.lst [])) pl (HO.lst [.ref q0, .ref q1]) q0 = some (HO.lst []) := by walk_at "hp"
    have h1 : upd (upd (upd H4 q0 (HO.lst [])) q1 (HO.lst [])) pl (HO.lst [.ref q0, .ref q1]) q1 = some (HO.lst []) := by walk_at "hp"
    have h2 : upd (upd (upd H4 q0 (HO.lst [])) q1 (HO.lst [])) pl (HO.lst [.ref q0, .ref q1]) pl = some (HO.lst [.ref q0, .ref q1]) := by walk_at "hp"
    generalize upd (upd (upd H4 q0 (HO.lst [])) q1 (HO.lst [])) pl (HO.lst [.ref q0, .ref q1]) = H5 at s5 h0 h1 h2 ⊢
    clear hq0 hq1 hpl
    have hP : Pair K H5 x0 q0 x1 q1 0 := ⟨⟨l0, _, [], ⟨hc0.same s5, n06, g0, WF.new 0, ⟨h0, rfl, fun i u z a => by cases a⟩⟩, Nat.le_refl _, n08⟩, ⟨l1, _, [], ⟨hc1.same s5, n09, g1, WF.new z, ⟨h1, rfl, fun i u z a => by cases a⟩⟩, Nat.le_refl _, n07⟩, nx, n01⟩
    refine ⟨_, rfl, _, rfl, D, _, rfl, SqL.of (s5 _ _ hD4), fun ps hps => ?_⟩
    obtain ⟨ms, em, hms, _⟩ := cut_ints ns1 none (some 30)
    rw [em]
    have n10 : ps ≠ q0 := by walk_at "ne"
    have n11 : ps ≠ q1 := by walk_at "ne"
    have s6 := (Same.refl H5).new (o := HO.lst (ms.map V.int)) hps
    have h3 : upd H5 ps (HO.lst (ms.map V.int)) ps = some (HO.lst (ms.map V.int)) := upd_same
    have hP := hP.same s6
    have hpc6 := s6 _ _ (s5 _ _ hpc4)
    have h2 := s6 _ _ h2
    refine ⟨ps, rfl, ⟨_, SqL.of upd_same⟩, ?_⟩
    generalize upd H5 ps (HO.lst (ms.map V.int)) = H6 at hP hpc6 h2 h3 ⊢
    clear s5 s6 h0 h1 hps hD4 hpc4 hc0 hc1 o0 o1 o0l o1l em
    have hml : ms.length ≤ 63 := by omega
    refine for_list (K := K) (a := ps) (xs := ms.map V.int) (fun i σ' H' => ∃ (last : Int) (v1 v2 v3 v4 v5 : Option V), σ' = [some (.ref D), some (.int wide), some (.bl rs), some (.int z), some (.ref pc), some (.ref pl), some (.int last), v1, v2, v3, v4, v5] ∧
        0 ≤ last ∧ last ≤ 2147483648 * (i : Int) ∧ Pair K H' x0 q0 x1 q1 i ∧ H' pc = some (.lst [.ref x0, .ref x1]) ∧ H' pl = some (.lst [.ref q0, .ref q1]) ∧ H' ps = some (.lst (ms.map V.int)))
      ⟨0, _, _, _, _, _, rfl, Int.le_refl _, Int.le_refl _, hP, hpc6, h2, h3⟩ (fun i σ' H' _ ⟨_, _, _, _, _, _, _, _, _, _, _, _, q⟩ => SqL.of q) ?_ ?_
    · clear hP hpc6 h2 h3
      rintro i y σ' H' hi ⟨last, v1, v2, v3, v4, v5, rfl, hl0, hl1, P, hpc, hpl, hps⟩
      obtain ⟨cell, rfl, _, hlt⟩ := int_at hi
      have hi63 : i < 63 := by omega
      walk_at "rds"
      intro r r0 r1
      walk_at "nf"
      have hk : 0 ≤ r % 2 ∧ r % 2 < 2 := by omega
      refine ⟨_, _, rfl, rfl, (by show (0 : Int) < 2; decide), ?_⟩
      walk_at "nf"
      generalize r % 2 = kk at hk ⊢
      obtain ⟨xa, qa, xb, qb, a1, a2, a3, P, bk, nqa⟩ := pick hk.1 hk.2 P
      walk_at "rds"
      intro p now w r' f e H1 s1 hpn hp1 m0 m1 hw' hr' hf' he'
      refine ⟨_, rfl, p, _, _, _, rfl, rfl, .of hp1, rfl, ?_⟩
      refine ⟨_, rfl, _, rfl, cell, p, now, w, r', f, e, rfl, .of hp1, m0, by omega, hw', hr', hf', fun p2 us2 ss H2 s2 hp2 hs2 hsl hok => ?_⟩
      have P2 := (P.same s1).same s2
      obtain ⟨la, ca, ua, Sa, lca, nba⟩ := P2.a
      obtain ⟨lb, cb, ub, Sb, lcb, nab⟩ := P2.b
      obtain ⟨la', ca', ua', Sa', _, _⟩ := P.a
      have npa : p ≠ qa := (ne_of_none Sa'.sp.l hpn).symm
      have np2 : p2 ≠ qa := (ne_of_none (s1 _ _ Sa'.sp.l) hp2).symm
      clear Sa'
      refine ⟨_, rfl, _, rfl, _, _, rfl, rfl, pc, _, _, _, rfl, rfl, .of (s2 _ _ (s1 _ _ hpc)), a3, _, rfl, xb, p2, cb, us2, ss, rfl, Sb.crs.crs, Sb.good, hs2, hsl, hok, fun D1 H3 s3 hD1 hq1 => ?_⟩
      have Sa3 := Sa.same s3
      have Sb3 := Sb.same s3
      refine ⟨_, rfl, _, rfl, pc, _, _, _, rfl, rfl, .of (s3 _ _ (s2 _ _ (s1 _ _ hpc))), a1, _, rfl, _, rfl, pl, _, _, _, rfl, rfl, .of (s3 _ _ (s2 _ _ (s1 _ _ hpl))), a2, _, rfl, _, rfl, xa, qa, p, p2, rfl, ca, ua, us2, ss, la, now, w, r', f, e, Sa3.crs, Sa3.ne, npa, np2, Sa3.good, Sa3.wf, by omega, Sa3.sp, s3 _ _ (s2 _ _ hp1), hs2.same s3, hsl, hok, m0, by omega, hw', hr', hf', he', fun l3 us3 H4 hc4 nl hsp4 kp4 => ?_⟩
      refine ⟨_, rfl, iteF ?_⟩
      obtain ⟨da, ta, oa, _, _⟩ := Sa3.crs.ob
      have nD1 : D1 ≠ qa := (ne_of_none Sa.sp.l hD1).symm
      have Sb4 := Sb3.keep oa Sa3.sp.l P2.nx.symm P2.nq.symm (fun e0 => nab e0.symm) kp4
      have kl : ∀ (b : Addr) (xs : List V), H3 b = some (.lst xs) → b ≠ qa → H4 b = some (.lst xs) := fun b xs z n => kp4 _ _ z n (ne_of z oa (by intro y; cases y))
      have hpc4 := kl _ _ (s3 _ _ (s2 _ _ (s1 _ _ hpc))) (nqa _ n04 n05)
      have hpl4 := kl _ _ (s3 _ _ (s2 _ _ (s1 _ _ hpl))) (nqa _ n02 n03)
      have hps4 := kl _ _ (s3 _ _ (s2 _ _ (s1 _ _ hps))) (nqa _ n10 n11)
      have hD4 := kl _ _ hq1 nD1
      have hs4 : Spots H4 p2 us2 ss := (hs2.same s3).mono (fun xs z => kl _ _ z np2) (fun t xs z => kp4 _ _ z (ne_of z Sa3.sp.l (by intro y; cases y)) (ne_of z oa (by intro y; cases y)))
      walk_at "rds"
      refine ⟨pc, _, _, _, rfl, rfl, .of hpc4, a3, _, rfl, xb, p2, cb, us2, ss, rfl, Sb4.crs.crs, Sb4.good, hs4, hsl, hok, fun D2 H5 s5 hD2 hq2 => ?_⟩
      refine ⟨_, rfl, .list (pD cb ss), .list (pD cb ss), .lst (.of hq2) (pD_dp ss), .lst (.of (s5 _ _ hD4)) (pD_dp ss), pD_shaped cb ss, pD_shaped cb ss, ?_⟩
      rw [SeqAt.eqv_refl _ (SeqAt.canLay_of_shaped (pD_shaped cb ss))]
      refine ⟨_, rfl, iteF ?_⟩
      have hlen := Crs.tell_len ca now w r' f e
      exact ⟨now, _, _, _, _, _, rfl, m0, by omega, bk _ _ ⟨⟨l3, _, us3, ⟨hc4.same s5, nl _ _ Sa3.sp.l, Sa3.good.tell ⟨hr'.1, Int.le_trans hr'.2 (by decide)⟩ ⟨hf'.1, Int.le_trans hf'.2 (by decide)⟩ ⟨he'.1, Int.le_trans he'.2 (by decide)⟩, Sa3.wf.tell, hsp4.same s5⟩, by omega, nl _ _ Sb3.sp.l⟩,
        ⟨lb, cb, ub, Sb4.same s5, by omega, nab⟩, P2.nx, P2.nq⟩, s5 _ _ hpc4, s5 _ _ hpl4, s5 _ _ hps4⟩
    · rintro σ' H' ⟨last, v1, v2, v3, v4, v5, rfl, _⟩
      exact k _
theorem law_facts {fa : Addr} (T : Txt K mg) (hfa : mg "law" = some (.ref fa)) :
    ∃ fd : FuncData, (∀ (s : Shared) (v : Value), BindsTo s fd ⟨[v], []⟩ [("_law_script", v)]) ∧ ∀ base : Heap, K.In base → base.Ns mainGlobals mg → FnOk P w K mg base CX0 6 fa fd ["_law_script"] (spLaw K) := by
  have e := hfa.symm.trans (glo_law T)
  cases e
  obtain ⟨fd, _, F⟩ := ok_law (P := P) (w := w) (base := default) T
  refine ⟨fd, fun s v => FunD.bindsA (ps := ["_law_script"]) F (fun _ _ _ _ _ _ us hl => match us, hl with | [_], _ => rfl) s [v] rfl, fun base _ _ => ?_⟩
  obtain ⟨fd', G, F'⟩ := ok_law (P := P) (w := w) (base := base) T
  have q : fd' = fd := F'.fd_eq F
  rw [← q]
  exact G


end

abbrev R : PySem.W.OpenRow := PySem.W.OpenLaw.row PySem.Challenge.rw_lampcues_k06_whole_course
abbrev hk : PySem.W.Hook := He.hookD 6 fa fn
def ob (s : PySem.W.SharedT) : He.AlD := He.obsDG 6 fa fn (HandSHeadRun.getT s)
theorem ob_eq (s : PySem.W.SharedT) : ob s = hk.obs s.abs := He.obsDG_eq (HandSHeadRun.getT_eq s)
def loose0 : List PySem.Str := ["stand", "Course", "_law_cell_at", "_law_whole", "_law_draw", "_law_far", "_law_gone", "_law_time", "_law_fade", "_law_spots", "_law_answers", "_law_start", "_law_told"]
def loose : List PySem.Str := loose0
theorem run (w : World) : HandSHeadRun.RunEq R (PySem.W.view R.prog [15]) hk ob 4000 loose w := by
  intro os
  kernel_rfl
end G94
open PySem PySem.W PySem.Calls PyProof.Rows
theorem PySem.Challenge.cw_lampcues_k06_whole_course_holds : PySem.Challenge.rw_lampcues_k06_whole_course.Holds := by
  w_on; o_law
  refine HandSHeadRun.head_any (r := OpenLaw.row PySem.Challenge.rw_lampcues_k06_whole_course) (q := view (OpenLaw.row PySem.Challenge.rw_lampcues_k06_whole_course).prog [15]) (H := G94.hk) (ob := G94.ob) (M := 4000) (loose := G94.loose) (d := HandSHeadRun.topDef (OpenLaw.row PySem.Challenge.rw_lampcues_k06_whole_course).prog 15) (kwd := []) G94.ob_eq
    (by kernel_rfl) (fun s => by kernel_rfl) G94.run (by kernel_rfl) (by kernel_rfl) (by kernel_rfl) (by rfl) (by first | assumption | decide +kernel) (by decide +kernel) ⟨rfl, rfl, rfl, rfl, rfl, by decide +kernel⟩ ?hw ?hc
  case hw => w_witness2
  case hc =>
    refine L2.walk_ofEB (l := PySem.Challenge.rw_lampcues_k06_whole_course) (n := 63) (k := 6) (x := "_law_script") (CX := L2.CX0) rfl (by decide) (by kernel_rfl) ⟨rfl, by decide, by decide⟩ ?F (fun _ _ _ _ z => z)
    intro w mg fa h Y G hmg0
    obtain ⟨K, KX, c⟩ := Y
    have hmg : mg ("law" : PySem.Str) = some (.ref fa) := by
      have e : (HandSHeadRun.topDef (OpenLaw.row PySem.Challenge.rw_lampcues_k06_whole_course).prog 15).name = ("law" : PySem.Str) := by kernel_rfl
      rw [← e]
      exact hmg0
    obtain ⟨fd, hb, hF⟩ := G94.law_facts (P := (PySem.Challenge.rw_lampcues_k06_whole_course).prog) (w := w) ⟨c, h, KX, G⟩ hmg
    exact ⟨K, fd, G94.spLaw K, KX, hb, fun H a ns hl hb hH hS => ⟨a, ns, rfl, hS, hl, hb, hH, fun _ => rfl⟩, hF⟩
