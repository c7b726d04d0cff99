import PyProof.Rows.All
import Wide.All
import OpenK.AllK
import Wide.FinOn
import PyProof.EqAt
import PyProof.EqKinds
import PyProof.NeKinds
import PyProof.TupleCall
import PyProof.ListStr
import PyProof.ReprRoads
import KE.SortData
import HandS.ForMost
import HandS.ForExc
import HandS.Star
import HandS.Property
import HandS.Wide
import KE.KSuper
import HandS.IsInst
import HandS.SortKw
import HandS.Zip
import KE.SortKeyHeap
import PySem.Challenge.RW_growfences_k81_whole_full_farms
set_option Elab.async false
set_option linter.all false
section
set_option maxRecDepth 100000
set_option maxHeartbeats 4000000
namespace Gf
open PySem PySem.Spec PyProof.Rows L2

/-! ### powers of great numbers -/
def CPowG (i j : Int) : Prop := 0 ≤ j ∧ j ≤ 100000 ∧ i.natAbs < 2 ^ 1000
theorem bits_g {a n : Int} (ha : a.natAbs < 2 ^ 1000) (h0 : 0 ≤ n) (hn : n ≤ 100000) : (Builtin.Int.intBits a : Int) * n ≤ 2 ^ 27 := by
  have hb : Builtin.Int.intBits a ≤ 1000 := intBits_le ha
  have h1 : (Builtin.Int.intBits a : Int) * n ≤ 1000 * n := Int.mul_le_mul_of_nonneg_right (by omega) h0
  omega
theorem op_powG {X : Cx} : OpR X (binaryOp .Pow) (rI CPowG fun i j => .int (i ^ j.toNat)) :=
  opI fun _ _ _ _ _ _ _ hc q => pow_int hc.1 (bits_g hc.2.2 hc.1 hc.2.1) q

/-! ### xs != ys of lists of unlike lengths -/
theorem op_neLen {X : Cx} (hu : X.A.units + 1 < cLine) : OpR X (compareOp .NotEq) (fun x y H Q => ∃ a b xs ys, x = .ref a ∧ y = .ref b ∧ SqL X.K H a xs ∧ SqL X.K H b ys ∧ xs.length ≠ ys.length ∧ Q (.bl true) H) := by
  intro pins s σ H x y v u Q I rx ry h
  obtain ⟨a, b, xs, ys, rfl, rfl, ha, hb, hl, q⟩ := h
  obtain rfl : v = Value.ref a := rx
  obtain rfl : u = Value.ref b := ry
  obtain ⟨it, r1, ⟨o1, n1, e1, c1, d1, t1⟩, _⟩ := I.list ha
  obtain ⟨jt, r2, ⟨o2, n2, e2, c2, d2, t2⟩, _⟩ := I.list hb
  have hs : (it.toArray.size != jt.toArray.size) = true := by
    have h1 := r1.length
    have h2 := r2.length
    simp only [List.size_toArray, bne_iff_ne, ne_eq]
    omega
  exact SeqAt.RcNeAt.lists_lengths ⟨o1, e1, c1, n1, t1⟩ ⟨o2, e2, c2, n2, t2⟩ hs (by omega) _ _ _ _ ⟨.bl true, H, I, rfl, q⟩

/-! ### repr of nested data -/
theorem cr_repr {X : Cx} (hg : X.A.guards = some []) (hu : X.A.units + 64 < cLine) : CallR X (.builtin "repr") (fun xs H Q => ∃ (a : Addr) (d : PyData), xs = [.ref a] ∧ Dp X.K H (.ref a) d ∧ d.showable = true ∧ d.hasDict = false ∧ d.depth ≤ 60 ∧ d.shown.length ≤ sizeLine ∧ Q (.str d.shown) H) := by
  intro pins s σ H xs us Q I r h
  obtain ⟨a, d, rfl, hd, hs, hn, hdp, hz, q⟩ := h
  obtain ⟨u, rfl, ru⟩ := vals1 r
  obtain rfl : u = Value.ref a := ru
  obtain ⟨as, hr⟩ := Dp.reads I d _ (Value.ref a) hd rfl
  refine repr_of_reads' hr hs (PyData.noDict_hsm hn) hg (by omega) (fun _ _ e => e) (fun h' u tk k => ?_) hz
  exact ⟨.str d.shown, H, I.kept k, ⟨u, rfl⟩, q⟩

/-! ### a text times a number -/
theorem mulOk_small {z : Str} {n : Int} (h1 : 1 ≤ n) (h2 : n ≤ 1000) (hz : z.length = 1) : MulOk z n := by
  refine ⟨by simp; omega, fun _ _ => ?_, fun _ _ => ?_⟩
  · rw [hz]
    have : (1 : Int) ≤ (2 ^ 63 - 1) / n := by
      rw [Int.le_ediv_iff_mul_le (by omega)]; omega
    omega
  · rw [hz]
    have : 1 * n.toNat ≤ 1000 := by omega
    show decide _ = false
    rw [decide_eq_false_iff_not, sizeLine_eq]
    omega
theorem op_mulStr {X : Cx} : OpR X (binaryOp .Mult) (fun x y H Q => ∃ (z : Str) (n : Int), x = .str z ∧ y = .int n ∧ 1 ≤ n ∧ n ≤ 1000 ∧ z.length = 1 ∧ Q (.str (Txt.mul z n)) H) := by
  intro pins s σ H x y v u Q I rx ry h
  obtain ⟨z, n, rfl, rfl, h1, h2, hz, q⟩ := h
  obtain ⟨t, rfl⟩ := rx
  obtain ⟨t', rfl⟩ := ry
  exact SB.mul (mulOk_small h1 h2 hz) fun t k => ⟨.str _, H, I.tok _, ⟨_, rfl⟩, q⟩
end Gf
namespace Gf
open PySem PySem.Spec PyProof.Rows L2

/-! ### list(text) -/
def signsV (z : Str) : List V := z.cps.toList.map fun c => V.str ⟨#[c]⟩
theorem vals_signs {z : Str} {acc : Array Value} (h : ItemsOf (SignAt z) acc z.cps.size) : Vals (signsV z) acc.toList := by
  obtain ⟨hs, hp⟩ := h
  have key : ∀ (l : List Nat) (us : List Value), l.length = us.length → (∀ (j : Nat) (u : Value), us[j]? = some u → ∃ (c : Nat) (t : Tok), l[j]? = some c ∧ u = Value.str ⟨#[c]⟩ t) → Vals (l.map fun c => V.str ⟨#[c]⟩) us := by
    intro l
    induction l with
    | nil =>
      intro us hl _
      cases us with
      | nil => exact .nil
      | cons => simp at hl
    | cons c l ih =>
      intro us hl hj
      cases us with
      | nil => simp at hl
      | cons u us =>
        obtain ⟨c', t, e1, e2⟩ := hj 0 u rfl
        cases e1
        exact .cons ⟨t, e2⟩ (ih us (by simpa using hl) fun j u hu => hj (j + 1) u hu)
  refine key z.cps.toList acc.toList (by simpa using hs.symm) fun j u hu => ?_
  obtain ⟨c, t, e1, e2⟩ := hp j u (by simpa using hu)
  exact ⟨c, t, by simpa using e1, e2⟩
theorem call_listStr {X : Cx} (hc : X.calm = true) : CallR X (.type "list") (fun xs H Q => ∃ z : Str, xs = [.str z] ∧ z.length ≤ sizeLine ∧ ∀ p, H p = none → Q (.ref p) (upd H p (.lst (signsV z)))) := by
  intro pins s σ H xs us Q I r h
  obtain ⟨z, rfl, hz, q⟩ := h
  obtain ⟨u, rfl, ru⟩ := vals1 r
  obtain ⟨t, rfl⟩ := ru
  refine call_list_str (I.ok.hd hc) z t (fun h' tk acc c k hS hi => ?_) hz
  refine ⟨.ref _, upd H s.heap.objs.size (.lst (signsV z)), I.laid k (Nat.le_refl _) ⟨?_, acc.toList, c, vals_signs hi, by simpa using hS⟩, rfl, q _ (I.hok.fresh (Nat.le_refl _))⟩
  show (z.cps.toList.map _).length ≤ _
  rw [List.length_map, Array.length_toList]
  exact hz

/-! ### o.f as a target -/
def gFld (K : PySem.W.Frag) (ta : TE) (f : Str) : TG := fun v σ H Q => ta σ H fun x H1 => ∃ a C dx fs, x = .ref a ∧ H1 a = some (.ins C dx fs) ∧ Cls K C ∧ NoAttr K C f ∧ fs.length < 1000 ∧ Q σ (upd H1 a (.ins C dx (putF f v fs)))
theorem pg_fld {X : Cx} {o : Expr} {f : Str} {pos : Pos} {ta : TE} (ho : PE X o ta) : PG X (.Attribute o f pos) (gFld X.K ta f) := by
  refine ⟨fun pins s σ H v u Q I r h => ?_⟩
  have e : assign (.Attribute o f pos) X.env u = (do
    let ov ← holding [u] (eval o X.env)
    standAt pos.atName
    holding [u, ov] (setAttr ov f u)
    release [u, ov] []) := rfl
  rw [e]
  refine wpAny_bind (wpAny_holding (thn (ho.run pins s σ H _ I h) fun ov s1 ⟨x, H1, I1, r1, a, C, dx, fs, ex, ea, c, n, l, q⟩ => ?_))
  subst ex
  obtain rfl : ov = Value.ref a := r1
  refine wpAny_bind (wpAny_standAt (wpAny_bind (wpAny_holding (setattr_ok I1 ea c n l r fun s3 I3 => ?_))))
  exact wpAny_release ⟨σ, _, I3, q⟩

/-! ### a method that may raise, what is raised wished for at the slots -/
section
variable {X : Cx} {CX : CXT} {k : Nat} {f C : Addr} {fd : FuncData} {ps : List Str} {sp : Sp} {E : L2.St → XK} {m : Str} {pos apos : Pos} {e o : Expr} {es : List Expr} {ta : TE} {t : TA}
def tMethX (C : Addr) (m : Str) (sp : Sp) (E : L2.St → XK) (ta : TE) (t : TA) : TE := fun σ H Q => ta σ H fun x H1 => ∃ a dx fs, x = .ref a ∧ H1 a = some (.ins C dx fs) ∧ fs.lookup m = none ∧
  t σ H1 fun vs H2 => sp (x :: vs) H2 Q (E σ)
theorem pe_methX {pl : Sem Bool} (he : PE X o ta) (c : Cls X.K C) (hm : Meth X.K C m f) (F : FnOk X.prog X.w X.K X.mg X.base CX k f fd ps sp) (hr : Room k X.A) (hb : Binds X.K fd ps []) (hx : ∀ σ, PassesAt CX X σ (E σ)) (ha : PA X (e :: es) t)
    (hst : starEach (e :: es) X.env = (false, eval e X.env) :: starEach es X.env := by rfl) (hpl : (backTo pos (starEach es X.env)).any (·.1) = false := by rfl)
    (ht : eval (.Call (.Attribute o m apos) (e :: es) [] pos) X.env = (do
      let ov ← eval o X.env
      standAt apos.atName
      let (f, first) ← holding [ov] (getMethod ov m pl)
      callWith pos f first (backTo pos (starEach (e :: es) X.env)) (backToKw pos (keywordEach [] X.env))) := by rfl) :
    PE X (.Call (.Attribute o m apos) (e :: es) [] pos) (tMethX C m sp E ta t) := by
  refine ⟨fun pins s σ H Q I h => ?_⟩
  refine PySem.W.methodCall_KW (pl := pl) (thn (he.run pins s σ H _ I h) fun u s1 hh => ?_) ht
  obtain ⟨x, H1, I1, rx, a, dx, fs, ex, ea, l, q⟩ := hh
  subst ex
  obtain rfl : u = Value.ref a := rx
  refine getmeth_ok I1 ea c hm l ?_
  refine PySem.W.callWith_K (first := [.ref a]) (h₀ := X.base) I.ok.mod.kin hm.kp (thn (ha.run pos pins s1 σ H1 _ I1 q) fun us s2 hh2 => ?_) hst hpl
  obtain ⟨vs, H2, I2, r, q2⟩ := hh2
  exact ⟨I2.kIn, run_fnS (us := .ref a :: us) (vs := .ref a :: vs) F hr hb (hx σ) I2 (.cons rfl r) q2⟩
end

/-! ### sorted of data -/
def sortD (xs : List V) (ds : List PyData) : List V := ((xs.zip ds).mergeSort fun p q => !PySem.W.dataLt q.2 p.2).map (·.1)
theorem each_zip {R : Value → V × PyData → Prop} : ∀ {xs : List V} {ds : List PyData} {us : List Value}, xs.length = us.length → ds.length = us.length → (∀ (i : Nat) (x : V) (d : PyData) (u : Value), xs[i]? = some x → ds[i]? = some d → us[i]? = some u → R u (x, d)) → PySem.W.EachIs R us (xs.zip ds)
  | [], [], [], _, _, _ => .nil
  | x :: xs, d :: ds, u :: us, h1, h2, h => .cons (h 0 x d u rfl rfl rfl) (each_zip (by simpa using h1) (by simpa using h2) fun i x d u a b c => h (i + 1) x d u a b c)
  | [], _, _ :: _, h1, _, _ => by simp at h1
  | [], _ :: _, [], _, h2, _ => by simp at h2
  | _ :: _, _, [], h1, _, _ => by simp at h1
  | _ :: _, [], _ :: _, _, h2, _ => by simp at h2
theorem DpAll.len {K : PySem.W.Frag} {H : Hp} : ∀ {xs : List V} {ds : List PyData}, DpAll K H xs ds → xs.length = ds.length
  | _, _, .nil => rfl
  | _, _, .cons _ h => by rw [List.length_cons, List.length_cons, DpAll.len h]
theorem DpAll.get {K : PySem.W.Frag} {H : Hp} : ∀ {xs : List V} {ds : List PyData} {i : Nat} {x : V} {d : PyData}, DpAll K H xs ds → xs[i]? = some x → ds[i]? = some d → Dp K H x d
  | _, _, 0, _, _, .cons h _, e1, e2 => by cases e1; cases e2; exact h
  | _, _, i + 1, _, _, .cons _ h, e1, e2 => DpAll.get (i := i) h e1 e2
theorem vals_each : ∀ {l : List (V × PyData)} {us : List Value}, PySem.W.EachIs (fun u b => RelV b.1 u) us l → Vals (l.map (·.1)) us
  | _, _, .nil => .nil
  | _, _, .cons h t => .cons h (vals_each t)
theorem cr_sortD {X : Cx} (hu : X.A.units + 64 < cLine) : CallR X (.builtin "sorted") (fun vs H Q => ∃ (a : Addr) (xs : List V) (ds : List PyData), vs = [V.ref a] ∧ SqL X.K H a xs ∧ DpAll X.K H xs ds ∧ PySem.W.AllAlike ds ∧ PySem.W.Sortable ds ∧ (∀ d ∈ ds, d.depth ≤ 60) ∧
    ∀ p, H p = none → Q (.ref p) (upd H p (.lst (sortD xs ds)))) := by
  intro pins s σ H vs us Q I r h
  obtain ⟨a, xs, ds, rfl, hs, hd, ha, hk, hdp, q⟩ := h
  obtain ⟨its, rv, hl, hz⟩ := I.list hs
  rw [Vals.ref1 r]
  have l1 := rv.length
  have l2 := DpAll.len hd
  have hmem : ∀ b ∈ xs.zip ds, b.2 ∈ ds := fun b hb => (List.of_mem_zip (a := b.1) (b := b.2) hb).2
  have hmap : (xs.zip ds).map Prod.snd = ds := List.map_snd_zip (by omega)
  refine PySem.W.sorted_data (R := fun u b => RelV b.1 u) (enc := Prod.snd) (bs := xs.zip ds) hl.isList (each_zip l1 (by omega) fun i x d u e1 e2 e3 => ?_) (each_zip l1 (by omega) fun i x d u e1 e2 e3 => ?_) (by rw [hmap]; exact ha) (by rw [hmap]; exact hk) ?_ (fun b hb => ?_) fun out ho eo => ?_
  · obtain ⟨u', e4, r4⟩ := Vals.get rv e1
    rw [e3] at e4
    cases e4
    exact r4
  · obtain ⟨u', e4, r4⟩ := Vals.get rv e1
    rw [e3] at e4
    cases e4
    exact Dp.reads I d x u (DpAll.get hd e1 e2) r4
  · rw [List.length_zip]; omega
  · have := hdp _ (hmem b hb); omega
  · obtain ⟨ep, he'⟩ := PyProof.Rows.sortedAll_at s.heap its out.toArray
    rw [PySem.W.dataLe_eq] at eo
    have rv' : Vals (sortD xs ds) out := vals_each eo
    refine ⟨.ref _, upd H (s.heap.objs.size + 1) (.lst (sortD xs ds)), I.laid (t' := s.toks) (fun _ _ => PyProof.Rows.sortedAll_old) (Nat.le_succ _) ⟨?_, out, ep, rv', by simpa using he'⟩, rfl, q _ (I.hok.fresh (Nat.le_succ _))⟩
    rw [rv'.length, ho, List.length_zip]
    omega
end Gf
namespace Gf
open PySem PySem.Spec PyProof.Rows L2

/-! ### len(o) by an own __len__ -/
theorem call_lenOwn {X : Cx} {C f : Addr} {k : Nat} {fd : FuncData} {sp : Sp} (hm : Meth X.K C "__len__" f) (F : FnOk X.prog X.w X.K X.mg X.base CX0 k f fd ["self"] sp) (hr : Room (k + 1) X.A) (hb : Binds X.K fd ["self"] []) :
    CallR X (.builtin "len") (fun xs H Q => ∃ a dx fs, xs = [.ref a] ∧ H a = some (.ins C dx fs) ∧ sp [.ref a] H (fun v H' => ∃ n : Int, v = .int n ∧ 0 ≤ n ∧ n < 2 ^ 63 ∧ Q (.int n) H') E0) := by
  intro pins s σ H xs us Q I r h
  obtain ⟨a, dx, fs, rfl, ea, q⟩ := h
  obtain ⟨u, rfl, ru⟩ := vals1 r
  obtain rfl : u = Value.ref a := ru
  obtain ⟨mA, O, _, _, _, _⟩ := ins_get I.hok ea
  obtain ⟨od, J, _⟩ := O.look
  obtain ⟨m, F0⟩ := I.fr
  have b := hb s [.ref a] I.kIn rfl
  refine PySem.W.len_K F0 I.ok.mod.kin J hm.at_ hm.fn (wpAny_call (codeAny_mono (F.run X.A.in1 X.stack s H ⟨[.ref a], []⟩ [.ref a] [.ref a] _ E0 hr.in1 I.env0.in1 b (.cons rfl .nil) q) fun r s' hq => ?_))
  cases r with
  | error e => exact False.elim hq
  | ok fl =>
    cases fl with
    | ret u =>
      obtain ⟨v, H', I3, rv, n, rfl, h0, h1, q3⟩ := I.after hq
      obtain ⟨t, rfl⟩ := rv
      exact ⟨⟨h0, h1⟩, .int n, H', I3.tok _, ⟨_, rfl⟩, q3⟩
    | next => exact False.elim hq
    | brk => exact False.elim hq
    | cont => exact False.elim hq

/-! ### defs that lean on what repr is under way -/
structure FnG (P : Program) (w : World) (K : PySem.W.Frag) (mg : Str → Option Value) (base : Heap) (CX : CXT) (k : Nat) (f : Addr) (fd : FuncData) (ps : List Str) (sp : Sp) : Prop where
  len : ∀ vs H Q E, sp vs H Q E → vs.length = ps.length
  run : ∀ (A : Around) (outer : List Env) (s : Shared) (H : Hp) (args : Args) (us : List Value) (vs : List V) (Q : VK) (E : XK), A.guards = some [] → Room k A → Env0 P w K mg base A outer s H → BindsTo s fd args (ps.zip us) → Vals vs us → sp vs H Q E →
    codeAny (model P w) A (.call (.ref f) args) (CR CX outer P w H s Q E) s
theorem guards_deeper {A : Around} {env : Env} (h : A.guards = some []) : (A.deeper env).guards = some [] := h
section
variable {P : Program} {w : World} {K : PySem.W.Frag} {mg : Str → Option Value} {base : Heap}
theorem okG {x qual : Str} {st : Stmt} {f : Addr} {fd : FuncData} {N ps : List Str} {k : Nat} {sp : Sp} (F : Fun K x qual st f fd) (S : FnScope N ps (defScope st)) (len : ∀ vs H Q E, sp vs H Q E → vs.length = ps.length)
    (hbody : ∀ (cdv : Value) (A : Around) (outer : List Env) (s : Shared) (H : Hp) (vs : List V) (Q : VK) (E : XK), A.guards = some [] → Room k (A.deeper (envOfC qual (defScope st) s.heap.objs.size f cdv)) → sp vs H Q E →
      ∃ t, PSs (cxOf CX0 P w K mg base N qual (defScope st) f cdv A outer s H E).nox (defBody st) t ∧ t { nx := fun _ H' => Q .non H', rt := Q } (start N vs) H) : FnG P w K mg base CX0 (k + 1) f fd ps sp := by
  refine ⟨len, fun A outer s H args us vs Q E hg hr e0 hb r hsp => ?_⟩
  -- over this A alone the promise is one that any A keeps
  let sp' : Sp := fun vs H Q E => sp vs H Q E
  obtain ⟨oc, od, kV, doc, pm, an, cdv, ct, osl, rfl, lk, hcd⟩ := F.ex
  have hl := len _ _ _ _ hsp
  have KX : K.In s.heap := e0.mod.kin.keeps fun b o e => (e0.bs b o e).1
  have lim : s.heap.NoLimit := e0.mod.nolimit.keeps fun b o e => (e0.bs b o e).1
  have hkind : ∀ y ∈ ps.zip us, (defScope st).names.lookup y.1 = some .local ∨ ((defScope st).names.lookup y.1 = some .cell ∧ ((cellsFrom (s.heap.objs.size + 1) (defScope st).names []).lookup y.1).isSome = true) := by
    rintro ⟨n, v⟩ hy
    rcases S.par n (List.of_mem_zip hy).1 with q | q
    · exact .inl q
    · exact .inr ⟨q, PySem.W.cellsFrom_some _ _ _ (.inl q)⟩
  refine codeAny_call_function hr.depth (KX _ _ lk) rfl S.co S.gen rfl (PySem.W.codeRec_of KX hcd) (hb _ _ _ _ ?_)
  refine wpAny_newFunctionEnv_cells S.kind hkind fun env he s1 x => ?_
  subst he
  refine ⟨lim.keeps x.toInCall.keep, codeAny_func ?_⟩
  obtain ⟨t, ht', hq⟩ := hbody cdv A outer s H vs Q E hg (hr.deeper _) hsp
  have ht := ht'.nox
  have I : Inv (cxOf CX0 P w K mg base N qual (defScope st) f cdv A outer s H E) [] (start N vs) H s1 := inv_start S hr.hd e0 hl r x
  refine wpAny_mono (ht.run [] s1 (start N vs) H _ I hq) (fun fl s' hs => ?_) (fun e s' hs => hs)
  have fin : ∀ {σ' : L2.St} {H' : Hp} {v : V} {u : Value}, Inv (cxOf CX0 P w K mg base N qual (defScope st) f cdv A outer s H E) [] σ' H' s' → RelV v u → Q v H' → CE outer P w H s Q u s' := by
    intro σ' H' v u J rv q
    exact ⟨v, H', J.os, J.bare, J.base, J.hok, rv, q⟩
  cases fl with
  | ret u =>
    obtain ⟨v, σ', H', J, rv, q⟩ := hs
    exact fin J rv q
  | next =>
    obtain ⟨σ', H', J, q⟩ := hs
    exact fin (v := V.non) (u := Value.none) J rfl q
  | brk =>
    obtain ⟨_, _, _, q⟩ := hs
    exact q.elim
  | cont =>
    obtain ⟨_, _, _, q⟩ := hs
    exact q.elim
end
section
variable {X : Cx} {k : Nat} {f : Addr} {fd : FuncData} {ps : List Str} {sp : Sp} {x : Str} {p pos : Pos} {e : Expr} {es : List Expr} {t : TA}
theorem pe_callG (F : FnG X.prog X.w X.K X.mg X.base CX0 k f fd ps sp) (hgd : X.A.guards = some []) (hr : Room k X.A) (hg : Gl X x) (hm : X.mg x = some (.ref f)) (hk : PySem.W.keepIn X.K (.ref f) = true) (hb : Binds X.K fd ps []) (ha : PA X (e :: es) t)
    (hdb : (x == ("__debug__" : Str)) = false := by decide) (he : starEach (e :: es) X.env = (false, eval e X.env) :: starEach es X.env := by rfl) (hpl : (backTo pos (starEach es X.env)).any (·.1) = false := by rfl) :
    PE X (.Call (.Name x p) (e :: es) [] pos) (tCall sp [] E0 t) := by
  refine ⟨fun pins s σ H Q I h => ?_⟩
  refine wpAny_Call_Name_kw (ld_glob I hg hm ?_ hdb)
  refine PySem.W.callWith_K (h₀ := X.base) I.ok.mod.kin hk (thn (ha.run pos pins s σ H _ I h) fun us s1 hh => ?_) he hpl
  obtain ⟨vs, H1, I1, r, q⟩ := hh
  refine ⟨I1.kIn, ?_⟩
  have q' : sp (vs ++ []) H1 Q E0 := q
  rw [List.append_nil] at q'
  have hl : us.length = ps.length := by rw [← r.length]; exact F.len _ _ _ _ q'
  have b := hb s1 us I1.kIn (by rw [List.append_nil]; exact hl)
  rw [List.append_nil] at b
  refine wpAny_call (codeAny_mono (F.run X.A X.stack s1 H1 ⟨us, []⟩ us vs Q E0 hgd hr I1.env0 b r q') fun r s' hq => ?_)
  cases r with
  | error e => exact False.elim hq
  | ok fl =>
    cases fl with
    | ret u => exact I1.after hq
    | next => exact False.elim hq
    | brk => exact False.elim hq
    | cont => exact False.elim hq
end
theorem FnOk.toG {P : Program} {w : World} {K : PySem.W.Frag} {mg : Str → Option Value} {base : Heap} {CX : CXT} {k : Nat} {f : Addr} {fd : FuncData} {ps : List Str} {sp : Sp} (F : FnOk P w K mg base CX k f fd ps sp) : FnG P w K mg base CX k f fd ps sp :=
  ⟨F.len, fun A outer s H args us vs Q E _ hr e0 hb r h => F.run A outer s H args us vs Q E hr e0 hb r h⟩
end Gf
namespace Gf
open PySem PySem.Spec PyProof.Rows L2

/-! ### a method whose first statement is super().__init__(..) -/
/-- the names of such a method: self is captured by a block, __class__ comes from outside, all else is its own or the module's -/
structure SupScope (N : List Str) (sc : Scope) : Prop where
  kind : sc.kind = .function
  co : sc.isCoroutine = false
  gen : sc.isGenerator = false
  nd : N.Nodup
  n0 : N[0]? = some ("self" : Str)
  n1 : N[1]? = some ("fence" : Str)
  n2 : N[2]? = some ("size" : Str)
  cells : ∀ (n cc : Addr), cellsFrom n sc.names [(("__class__" : Str), cc)] = [(("self" : Str), n), ("__class__", cc)]
  cells0 : ∀ (n : Nat), cellsFrom n sc.names [] = [(("self" : Str), n)]
  kself : sc.names.lookup ("self" : Str) = some .cell
  kf : sc.names.lookup ("fence" : Str) = some .local
  ks : sc.names.lookup ("size" : Str) = some .local
  kc : sc.names.lookup ("__class__" : Str) = some .free
  ksup : sc.names.lookup ("super" : Str) = some .globalImplicit
  only : ∀ y ∈ sc.names, (y.2 = .cell → y.1 = "self") ∧ (y.2 = .free → y.1 = "__class__")
structure Sup (P : Program) (K : PySem.W.Frag) (mg : Str → Option Value) (qual : Str) (st : Stmt) (f D f2 cda cc : Addr) (fd : FuncData) : Prop where
  ex : ∃ (oc : Value) (od : Option Addr) (kV doc pm : Value) (an : Option Addr) (ct : Value) (osl : Array (Option Value)),
    fd = PySem.W.fnX "__init__" qual (defArgs st) (defBody st) (defScope st) [(("__class__" : Str), cc)] .none kV doc pm an (.ref cda) ct ∧ K.lookup f = some ⟨oc, od, .func fd, osl⟩
  rec_ : PySem.W.codeIn K (.ref cda) qual = true
  code : ∃ ccl cdd vs ccs file tf, K.lookup cda = some ⟨ccl, cdd, .fields vs, ccs⟩ ∧ vs[2]? = some (.str file tf) ∧ ((P.main.file : Str) == file) = true
  cell : ∃ cl cld csl, K.lookup cc = some ⟨cl, cld, .cell (some (.ref D)), csl⟩
  sub : PySem.W.mroIn K D (.ref D) = some true
  cls : ∃ cd, PySem.W.clsIn K D = some cd
  nosup : mg "super" = none
  stat : PySem.W.nsIn K cStatics "thirdparty.any" = some none
  sup : PySem.W.ks_superIn K D D "__init__" = some (some (.ref f2))
  ty2 : PySem.W.typeIn K (.ref f2) = some (.type "function")
  fn2 : PySem.W.fnIn K f2 = true
  kp : PySem.W.keepIn K (.ref f) = true
abbrev envS (qual : Str) (sc : Scope) (L f cda cc : Addr) : Env := PySem.W.envX qual sc L f (.ref cda) [(("self" : Str), L + 1), ("__class__", cc)]
def sxOf (P : Program) (w : World) (K : PySem.W.Frag) (mg : Str → Option Value) (base : Heap) (N : List Str) (qual : Str) (sc : Scope) (f cda cc : Addr) (A : Around) (outer : List Env) (s : Shared) (H : Hp) (E : XK) : Cx where
  prog := P
  w := w
  K := K
  mg := mg
  base := base
  A := A.deeper (envS qual sc s.heap.objs.size f cda cc)
  N := N
  s_0 := s
  H_0 := H
  env := envS qual sc s.heap.objs.size f cda cc
  outer := outer
  stack := envS qual sc s.heap.objs.size f cda cc :: outer
  ex := []
  calm := true
  fn := fun x => x != "__class__"
  pn := []
  xe := fun e s' => wpAny (model P w) (A.deeper (envS qual sc s.heap.objs.size f cda cc)) (leaving (envS qual sc s.heap.objs.size f cda cc) e) (fun _ s'' => CX0 outer H s E e s'') (fun e' s'' => CX0 outer H s E e' s'') s'
section
variable {P : Program} {w : World} {K : PySem.W.Frag} {mg : Str → Option Value} {base : Heap} {N : List Str} {qual : Str} {st : Stmt} {f D f2 cda cc : Addr} {fd : FuncData} {A : Around} {outer : List Env} {s : Shared} {H : Hp} {E : XK}
theorem cells_look {L cc : Addr} {y : Str} {c : Addr} (h : ([(("self" : Str), L), ("__class__", cc)] : List (Str × Addr)).lookup y = some c) : (y = "self" ∧ c = L) ∨ (y = "__class__" ∧ c = cc) := by
  rw [List.lookup_cons] at h
  by_cases h1 : y = "self"
  · subst h1
    simp at h
    exact .inl ⟨rfl, h.symm⟩
  · have e : (y == ("self" : Str)) = false := by simpa using h1
    rw [e] at h
    simp only [List.lookup_cons, List.lookup_nil] at h
    by_cases h2 : y = "__class__"
    · subst h2
      simp at h
      exact .inr ⟨rfl, h.symm⟩
    · have e : (y == ("__class__" : Str)) = false := by simpa using h2
      rw [e] at h
      simp at h
theorem look_self {L cc : Addr} : ([(("self" : Str), L), ("__class__", cc)] : List (Str × Addr)).lookup ("self" : Str) = some L := by simp [List.lookup]
theorem self_ne_class : ¬ (("__class__" : Str) = "self") := by decide +kernel
theorem look_class {L cc : Addr} : ([(("self" : Str), L), ("__class__", cc)] : List (Str × Addr)).lookup ("__class__" : Str) = some cc := by
  rw [List.lookup_cons]
  have e : (("__class__" : Str) == ("self" : Str)) = false := by simpa using self_ne_class
  rw [e]
  simp [List.lookup]
theorem addr_ne {a b : Nat} (h : a < b) (e : b + 1 = a) : False := by omega
theorem inv_sup (S : SupScope N (defScope st)) (T : Sup P K mg qual st f D f2 cda cc fd) (hd : A.handled = none) (e0 : Env0 P w K mg base A outer s H) {v0 v1 v2 : V} {u0 u1 u2 : Value} (r0 : RelV v0 u0) (r1 : RelV v1 u1) (r2 : RelV v2 u2)
    {h' : Heap} {tk : Nat} {m : Str → Option Value} (hns : h'.Ns s.heap.objs.size m) (m1 : m "fence" = some u1) (m2 : m "size" = some u2) (hc0 : h'.IsCell (s.heap.objs.size + 1) (some u0)) (kp : ∀ b o, s.heap.get? b = some o → h'.get? b = some o) (hN : 3 ≤ N.length) :
    Inv (sxOf P w K mg base N qual (defScope st) f cda cc A outer s H E) [] (L2.start N [v0, v1, v2]) H { s with heap := h', toks := tk } := by
  obtain ⟨cl, cld, csl, hcell⟩ := T.cell
  have KB := e0.mod.kin
  have hccB : base.get? cc = some ⟨cl, cld, .cell (some (.ref D)), csl⟩ := KB _ _ hcell
  have hcc : s.heap.get? cc = some ⟨cl, cld, .cell (some (.ref D)), csl⟩ := (e0.bs _ _ hccB).1
  have hccH : H cc = none := (e0.bs _ _ hccB).2
  have hlt : cc < s.heap.objs.size := Heap.lt_size hcc
  have noA : ∀ b : Addr, b ∉ (sxOf P w K mg base N qual (defScope st) f cda cc A outer s H E).ex := fun b z => absurd (show b ∈ ([] : List Addr) from z) (by simp)
  have cellsEq : (sxOf P w K mg base N qual (defScope st) f cda cc A outer s H E).env.cells = [(("self" : Str), s.heap.objs.size + 1), ("__class__", cc)] := rfl
  refine ⟨⟨e0.mod, S.kind, rfl, rfl, Nat.le_refl _, fun y z c h1 h2 => ?_, fun y hy => ?_, fun y c hf h => ?_, fun _ => hd, Around.frames_deeper e0.frames, .inr ⟨rfl, rfl⟩, fun b z => absurd z (noA b), e0.bs, e0.bsz, fun b _ _ => noA b,
      fun b z => absurd z (noA b), e0.funs, e0.frf⟩,
    rfl, e0.bare, Un.kept kp, ⟨m, hns, fun i y v e1 e2 e3 => ?_⟩, fun y c e => ?_, e0.hok.fresh (Nat.le_refl _), fun y c e => ?_, fun q hq => absurd (show q ∈ ([] : List (Addr × Obj)) ++ [] from hq) (by simp), e0.hok.kept kp, ?_⟩
  · rw [cellsEq] at h1 h2
    rcases cells_look h1 with ⟨e1, e2⟩ | ⟨e1, e2⟩ <;> rcases cells_look h2 with ⟨e3, e4⟩ | ⟨e3, e4⟩
    · rw [e1, e3]
    · exact (addr_ne hlt (e2.symm.trans e4)).elim
    · exact (addr_ne hlt (e4.symm.trans e2)).elim
    · rw [e1, e3]
  · have hy : (defScope st).names.lookup y = some .cell ∨ (defScope st).names.lookup y = some .free := hy
    rcases hy with hy | hy
    · have q : y = _ := (S.only _ (PySem.mem_of_lookup hy)).1 rfl
      rw [q]
      exact ⟨_, look_self⟩
    · have q : y = _ := (S.only _ (PySem.mem_of_lookup hy)).2 rfl
      rw [q]
      exact ⟨_, look_class⟩
  · rw [cellsEq] at h
    rcases cells_look h with ⟨_, e⟩ | ⟨e, _⟩
    · rw [e]; exact Nat.le_succ _
    · have hf : (y != ("__class__" : Str)) = true := hf
      rw [e] at hf
      simp at hf
  · have hi3 : i < 3 := by
      by_cases hi : i < 3
      · exact hi
      · unfold L2.start at e2
        rw [List.getElem?_append_right (by simp; omega), List.getElem?_replicate] at e2
        split at e2 <;> cases e2
    have e1 : N[i]? = some y := e1
    match i, hi3 with
    | 0, _ =>
      rw [S.n0] at e1; cases e1
      have ev : v = v0 := by
        have e2 : some (some v0) = some (some v) := e2
        cases e2; rfl
      subst ev
      exact ⟨u0, r0, .inr ⟨.inl S.kself, _, look_self, hc0⟩⟩
    | 1, _ =>
      rw [S.n1] at e1; cases e1
      have ev : v = v1 := by
        have e2 : some (some v1) = some (some v) := e2
        cases e2; rfl
      subst ev
      exact ⟨u1, r1, .inl ⟨S.kf, m1⟩⟩
    | 2, _ =>
      rw [S.n2] at e1; cases e1
      have ev : v = v2 := by
        have e2 : some (some v2) = some (some v) := e2
        cases e2; rfl
      subst ev
      exact ⟨u2, r2, .inl ⟨S.ks, m2⟩⟩
  · rw [cellsEq] at e
    rcases cells_look e with ⟨_, e⟩ | ⟨_, e⟩
    · rw [e]; exact ⟨_, hc0⟩
    · rw [e]; exact ⟨_, _, kp _ _ hcc, rfl⟩
  · rw [cellsEq] at e
    rcases cells_look e with ⟨_, e⟩ | ⟨_, e⟩
    · rw [e]; exact e0.hok.fresh (Nat.le_succ _)
    · rw [e]; exact hccH
  · unfold L2.start
    show _ = N.length
    rw [List.length_append, List.length_map, List.length_replicate]
    simp
    omega
theorem env_sup {M : Model} {A : Around} {E : Value → Shared → Prop} {sc : Scope} (S : SupScope N sc) {u0 u1 u2 : Value} {Q : Env → Shared → Prop}
    (h : ∀ h' tk m, h'.Ns s.heap.objs.size m → m "fence" = some u1 → m "size" = some u2 → h'.IsCell (s.heap.objs.size + 1) (some u0) → (∀ b o, s.heap.get? b = some o → h'.get? b = some o) → Q (envS qual sc s.heap.objs.size f cda cc) { s with heap := h', toks := tk }) :
    wpAny M A (newFunctionEnv sc mainGlobals [(("__class__" : Str), cc)] [(("self" : Str), u0), ("fence", u1), ("size", u2)] (qual ++ ".<locals>.") (some f) (.ref cda) none builtinsNs) Q E s := by
  simp only [newFunctionEnv, Option.isSome_none, Bool.false_eq_true, if_false]
  refine wpAny_bind (wpAny_alloc ?_)
  refine wpAny_bind (wpAny_layCells _ (fun name kind cells => by cases hkc : kind == NameKind.cell <;> simp [hkc]) _ _ _ _ ?_)
  have ok := cellsFrom_ok sc.names (s.heap.push { cls := .type "frame", data := .dict #[] }) (s.heap.objs.size + 1) [] ⟨fun _ _ hm => (nomatch hm), List.Pairwise.nil⟩ (by rw [Heap.size_push]; exact Nat.le_refl _)
  rw [Heap.size_push] at ok
  rw [show ({ s with heap := s.heap.push { cls := .type "frame", data := .dict #[] } } : Shared).heap.objs.size = s.heap.objs.size + 1 from Heap.size_push ..]
  rw [S.cells0] at ok
  rw [S.cells]
  have hcell := (ok.empty "self" (s.heap.objs.size + 1) List.mem_cons_self).1
  have hns : (pushCells (s.heap.push { cls := .type "frame", data := .dict #[] }) sc.names).Ns s.heap.objs.size (fun _ => none) := (Heap.Ns.new s.heap (.type "frame")).keeps (pushCells_keeps _ _)
  have kp : ∀ b o, s.heap.get? b = some o → (pushCells (s.heap.push { cls := .type "frame", data := .dict #[] }) sc.names).get? b = some o := fun b o e => pushCells_keeps _ _ b o (Heap.get?_push_of_some _ e)
  have n1 : s.heap.objs.size ≠ s.heap.objs.size + 1 := Nat.ne_of_lt (Nat.lt_succ_self _)
  refine wpAny_bind ?_
  rw [List.forIn_cons]
  refine wpAny_bind (wpAny_bind (wpAny_storeName_cell (env := envS qual sc s.heap.objs.size f cda cc) S.kind S.kself look_self hcell fun h1 c1 b1 => wpAny_pure ?_))
  have ns1 := hns.sameBut b1 n1
  show wpAny M A (forIn [(("fence" : Str), u1), ("size", u2)] _ _) _ _ _
  rw [List.forIn_cons]
  refine wpAny_bind (wpAny_bind (wpAny_storeName_local (env := envS qual sc s.heap.objs.size f cda cc) S.kf ns1 (fun h2 ns2 b2 => wpAny_pure ?_) (by show (sc.kind == _ || _) = false; rw [S.kind]; rfl)))
  show wpAny M A (forIn [(("size" : Str), u2)] _ _) _ _ _
  rw [List.forIn_cons]
  refine wpAny_bind (wpAny_bind (wpAny_storeName_local (env := envS qual sc s.heap.objs.size f cda cc) S.ks ns2 (fun h3 ns3 b3 => wpAny_pure ?_) (by show (sc.kind == _ || _) = false; rw [S.kind]; rfl)))
  show wpAny M A (forIn ([] : List (Str × Value)) _ _) _ _ _
  rw [List.forIn_nil]
  refine wpAny_pure (wpAny_pure (h h3 _ _ ns3 ?_ ?_ ?_ fun b o e => ?_))
  · have q : ¬ (("fence" : Str) = "size") := by decide +kernel
    show (if ("fence" : Str) = "size" then some u2 else if ("fence" : Str) = "fence" then some u1 else none) = some u1
    rw [if_neg q, if_pos rfl]
  · show (if ("size" : Str) = "size" then some u2 else _) = some u2
    rw [if_pos rfl]
  · exact (c1.sameBut b2 (Ne.symm n1)).sameBut b3 (Ne.symm n1)
  · have hb : b < s.heap.objs.size := Heap.lt_size e
    have e1 := b1.extBut b o (Nat.ne_of_lt (Nat.lt_succ_of_lt hb)) (kp b o e)
    have e2 := b2.extBut b o (Nat.ne_of_lt hb) e1
    exact b3.extBut b o (Nat.ne_of_lt hb) e2
theorem vals3 {x y z : V} {us : List Value} (r : Vals [x, y, z] us) : ∃ u v w', us = [u, v, w'] ∧ RelV x u ∧ RelV y v ∧ RelV z w' := by
  cases r with
  | cons a r =>
    obtain ⟨u, w', rfl, b, c⟩ := vals2 r
    exact ⟨_, u, w', rfl, a, b, c⟩
/-- THE RULE: behind super().__init__(e1, e2) the rest of the body -/
theorem ok_super {k j : Nat} {fd2 : FuncData} {spO spG : Sp} {p0 p1 apos pos pos2 : Pos} {e1 e2 : Expr} {rest : List Stmt}
    (S : SupScope N (defScope st)) (T : Sup P K mg qual st f D f2 cda cc fd) (hN : 3 ≤ N.length) (cD : Cls K D)
    (hargs : ∃ ar, ((defArgs st).posonlyargs ++ (defArgs st).args).head? = some ar ∧ ar.arg = "self")
    (FO : FnOk P w K mg base CX0 j f2 fd2 ["self", "fence", "size"] spO) (bO : Binds K fd2 ["self", "fence", "size"] []) (hj : j ≤ k)
    (hb : defBody st = .Expr (.Call (.Attribute (.Call (.Name "super" p0) [] [] p1) "__init__" apos) [e1, e2] [] pos) pos2 :: rest)
    (he : ∀ L : Addr, ∃ pl : Sem Bool, eval (.Call (.Attribute (.Call (.Name "super" p0) [] [] p1) "__init__" apos) [e1, e2] [] pos) (envS qual (defScope st) L f cda cc) = (do
      let ov ← attributeBase (.Call (.Name "super" p0) [] [] p1) "__init__" (envS qual (defScope st) L f cda cc) (eval (.Call (.Name "super" p0) [] [] p1) (envS qual (defScope st) L f cda cc))
      standAt apos.atName
      let (g, first) ← holding [ov] (getMethod ov "__init__" pl)
      callWith pos g first (backTo pos (starEach [e1, e2] (envS qual (defScope st) L f cda cc))) []))
    (hline : ∀ env : Env, swapsWith (.Call (.Attribute (.Call (.Name "super" p0) [] [] p1) "__init__" apos) [e1, e2] [] pos) none pos2.line env = pure false)
    (htop : (P.main.scope.names.lookup ("super" : Str)).isSome = false)
    (len : ∀ vs H Q E, spG vs H Q E → vs.length = 3)
    (hrest : ∀ (A : Around) (outer : List Env) (s : Shared) (H : Hp) (vs : List V) (Q : VK) (E : XK), Room k (A.deeper (envS qual (defScope st) s.heap.objs.size f cda cc)) → spG vs H Q E →
      ∃ (x dx : Addr) (fs : List (Str × V)) (a b : V) (t : TS), vs = [.ref x, a, b] ∧ H x = some (.ins D dx fs) ∧
        PA (sxOf P w K mg base N qual (defScope st) f cda cc A outer s H E) [e1, e2] (tCons (tVar 1) (tCons (tVar 2) tNil)) ∧
        starEach [e1, e2] (envS qual (defScope st) s.heap.objs.size f cda cc) = (false, eval e1 (envS qual (defScope st) s.heap.objs.size f cda cc)) :: starEach [e2] (envS qual (defScope st) s.heap.objs.size f cda cc) ∧
        (backTo pos (starEach [e2] (envS qual (defScope st) s.heap.objs.size f cda cc))).any (·.1) = false ∧
        PSs (sxOf P w K mg base N qual (defScope st) f cda cc A outer s H E).nox rest t ∧ spO [.ref x, a, b] H (fun _ H1 => t { nx := fun _ H' => Q .non H', rt := Q } (L2.start N vs) H1) E0) :
    FnOk P w K mg base CX0 (k + 1) f fd ["self", "fence", "size"] spG := by
  refine ⟨len, fun A outer s H args us vs Q E hr e0 hbind r hsp => ?_⟩
  obtain ⟨oc, od, kV, doc, pm, an, ct, osl, rfl, lk⟩ := T.ex
  have KX : K.In s.heap := e0.mod.kin.keeps fun b o e => (e0.bs b o e).1
  have lim : s.heap.NoLimit := e0.mod.nolimit.keeps fun b o e => (e0.bs b o e).1
  obtain ⟨x, dx, fs, a, b, t, rfl, ex, hPA, hse, hpl, hPS, hO⟩ := hrest A outer s H vs Q E (hr.deeper _) hsp
  obtain ⟨u0, u1, u2, rfl, r0, r1, r2⟩ := vals3 r
  obtain rfl : u0 = Value.ref x := r0
  refine codeAny_call_function hr.depth (KX _ _ lk) rfl S.co S.gen rfl (PySem.W.codeRec_of KX T.rec_) (hbind _ _ _ _ ?_)
  refine env_sup (N := N) S fun h1 tk m hns m1 m2 hc kp => ⟨lim.keeps kp, ?_⟩
  have I := inv_sup (E := E) S T hr.hd e0 (v0 := .ref x) (u0 := .ref x) rfl r1 r2 (tk := tk) hns m1 m2 hc kp hN
  show codeAny _ _ (.func (defBody st) (envS qual (defScope st) s.heap.objs.size f cda cc)) _ _
  rw [hb]
  refine ks_codeAny_funcAt ?_
  obtain ⟨pl, hpl0⟩ := he s.heap.objs.size
  obtain ⟨mA, O, _, _, _, _⟩ := ins_get I.hok ex
  obtain ⟨odx, J, _⟩ := O.look
  obtain ⟨cdD, hcd⟩ := T.cls
  obtain ⟨cl, cld, csl, hcell⟩ := T.cell
  obtain ⟨ccl, cdd, cvs, ccs, file, tf, hcode, hvs, hfile⟩ := T.code
  obtain ⟨ar, har, hself⟩ := hargs
  have KI : K.In h1 := I.kIn
  obtain ⟨oD, hD1, hD2⟩ : ∃ oD, h1.get? D = some oD ∧ oD.data = .cls cdD := by
    unfold PySem.W.clsIn at hcd
    split at hcd
    · rename_i c d cd' sl ho
      cases hcd
      exact ⟨_, KI _ _ ho, rfl⟩
    · cases hcd
  have glob := (I.mod.glob).keeps I.bk
  obtain ⟨mb, hmb, hbb⟩ := I.mod.blt
  have hxc : ∀ c, (PySem.W.instObj D dx).data ≠ .cls c := fun c e => by
    have := J.no
    unfold PySem.W.notCls at this
    rw [e] at this
    exact Bool.noConfusion this
  refine ks_wpAt_execs_cons (ks_wpAt_Expr_any (ks_wpAt_MethodCall (ks_wpAt_super_base S.ksup S.kc (by decide +kernel) rfl (KI _ _ lk) rfl har rfl (KI _ _ hcode) rfl hvs hfile htop ?_) hpl0) (by show interactive _ = false; exact I.quiet) (hline _))
  refine PySem.W.ks_loadName_global S.kind S.ksup (PySem.Calls.loadGlobal_builtin (env := envS qual (defScope st) s.heap.objs.size f cda cc) glob T.nosup (hmb.keeps I.bk) ((hbb _ (by decide +kernel)).trans (by first | boot_by_name | rfl | kernel_rfl)) ⟨rfl, ?_⟩)
  refine wpAny_loadName_free S.kind S.kc look_class ⟨_, KI _ _ hcell, rfl⟩ ?_
  rw [hself]
  refine wpAny_loadName_cell S.kind S.kself look_self hc ?_
  refine ks_wpAny_isType_cls hD1 hD2 ⟨rfl, ?_⟩
  refine ks_wpAny_call_super hD1 hD2 J.at_ J.cls hxc (PySem.W.looks_mroIn KI T.sub) (fun h2 hso k2 => ?_)
  have I2 : Inv (sxOf P w K mg base N qual (defScope st) f cda cc A outer s H E) [] (L2.start N [.ref x, a, b]) H { s with heap := h2, toks := tk } := I.kept (h' := h2) (t' := tk) k2
  have KI2 : K.In h2 := I2.kIn
  obtain ⟨of, hof, hofc⟩ : ∃ of, h2.get? f2 = some of ∧ of.cls = .type "function" := by
    have ht' : (K.lookup f2).map (·.cls) = some (.type "function") := T.ty2
    cases z : K.lookup f2 with
    | none => rw [z] at ht'; cases ht'
    | some of => rw [z] at ht'; exact ⟨of, KI2 _ _ z, Option.some.inj ht'⟩
  have hsup := T.sup
  unfold PySem.W.ks_superIn at hsup
  rw [hcd] at hsup
  refine ks_wpAny_getMethod_super hso (PySem.W.looks_opaque KI2 T.stat) (l₀ := cdD.mro) (fun A Q E s k q => wpAny_bind ((PySem.W.looks_clsIn KI2 hcd) A _ E s k (wpAny_pure q))) rfl KI2 hsup hof hofc (PySem.W.ks_ne KI J hcd) (by decide +kernel) ?_
  have k3 : ∀ b o, h2.get? b = some o → (h2.push { cls := .type "method", data := .fields #[.ref f2, .ref x] }).get? b = some o := fun b o e => Heap.get?_push_of_some _ e
  have I3 := I2.kept (t' := tk + 1) k3
  have hq : (h2.push { cls := .type "method", data := .fields #[.ref f2, .ref x] }).get? h2.objs.size = some (PySem.W.methodObj (.ref f2) (.ref x)) := Heap.get?_push_at rfl rfl
  have hqH : H h2.objs.size = none := I2.hok.fresh (Nat.le_refl _)
  have hX : PySem.W.MethP K h2.objs.size f2 (.ref x) (h2.push { cls := .type "method", data := .fields #[.ref f2, .ref x] }) := ⟨hq, I3.kIn⟩
  rw [hse]
  refine PySem.W.callWith_of (P := PySem.W.MethP K h2.objs.size f2 (.ref x)) (by show ((false || (backTo pos (starEach [e2] _)).any (·.1)) || false) = false; rw [hpl]; rfl) (PySem.W.keeps_M T.fn2) (PySem.Calls.evalArgs_plain ?_)
  have hrun := hPA.run pos [(h2.objs.size, PySem.W.methodObj (.ref f2) (.ref x))] _ (L2.start N [.ref x, a, b]) H (fun vs H1 => vs = [a, b] ∧ H1 = H) (I3.pins_of ?_) ?_
  · have hse' : starEach [e1, e2] (sxOf P w K mg base N qual (defScope st) f cda cc A outer s H E).env = _ := hse
    rw [hse'] at hrun
    refine wpAny_mono hrun (fun us s4 hh => ?_) (fun _ _ z => z)
    obtain ⟨vs, H4, I4, r4, ev, eH⟩ := hh
    subst ev
    subst eH
    have hp := (I4.pin _ (List.mem_append_right _ (List.mem_singleton.mpr rfl))).1
    refine ⟨⟨hp, I4.kIn⟩, ?_⟩
    have I5 := I4.pins_of (pins' := []) (fun p hp => absurd (show p ∈ ([] : List (Addr × Obj)) from hp) (by simp))
    show wpAny _ _ (call (.ref h2.objs.size) us) _ _ _
    refine wpAny_call (PySem.W.method_call hp ?_)
    have bb := bO s4 (.ref x :: us) I5.kIn (by rw [List.append_nil, List.length_cons, ← r4.length]; rfl)
    rw [List.append_nil] at bb
    refine codeAny_mono (FO.run _ _ s4 H4 ⟨.ref x :: us, []⟩ (.ref x :: us) [.ref x, a, b] _ E0 ((hr.deeper _).mono hj) I5.env0 bb (.cons rfl r4) hO) fun rr s5 hq5 => ?_
    cases rr with
    | error er => exact False.elim hq5
    | ok fl =>
      cases fl with
      | ret u =>
        obtain ⟨v, H6, I6, rv, q6⟩ := I5.after hq5
        refine wpAt_of_wpAny (wpAny_mono (hPS.nox.run [] s5 _ H6 _ I6 q6) (fun fl s' hs => ?_) (fun e s' hs => hs))
        have fin : ∀ {σ' : L2.St} {H' : Hp} {v : V} {u : Value}, Inv (sxOf P w K mg base N qual (defScope st) f cda cc A outer s H4 E) [] σ' H' s' → RelV v u → Q v H' → CE outer P w H4 s Q u s' := by
          intro σ' H' v u J rv q
          exact ⟨v, H', J.os, J.bare, J.base, J.hok, rv, q⟩
        cases fl with
        | ret u =>
          obtain ⟨v, σ', H', J, rv, q⟩ := hs
          exact fin J rv q
        | next =>
          obtain ⟨σ', H', J, q⟩ := hs
          exact fin (v := V.non) (u := Value.none) J rfl q
        | brk =>
          obtain ⟨_, _, _, q⟩ := hs
          exact q.elim
        | cont =>
          obtain ⟨_, _, _, q⟩ := hs
          exact q.elim
      | next => exact False.elim hq5
      | brk => exact False.elim hq5
      | cont => exact False.elim hq5
  · intro p hp
    obtain rfl : p = _ := List.mem_singleton.mp hp
    have hsz : s.heap.objs.size < h2.objs.size := by
      have := I2.lt
      exact this
    refine ⟨hq, hqH, fun e => ?_, I2.nofs (Nat.le_refl _), fun v => by intro z; cases z⟩
    exact absurd e (Nat.ne_of_gt hsz)
  · refine ⟨a, rfl, b, rfl, rfl, rfl⟩
end
end Gf
namespace Gf
open PySem PySem.Spec PyProof.Rows L2

/-! ### the end of a row whose law leans on what repr is under way -/
section
variable {P : Program} {w : World} {K : PySem.W.Frag} {mg mb : Str → Option Value} {k : Nat} {fa a : Addr} {fd : FuncData} {x : Str} {sp : Sp} {s₁ : Shared} {vs : List Value} {ns : List Int}
abbrev LawEnd (s₁ : Shared) : Result → Shared → Prop := fun r s' => r = .ok (.ret (.bool true)) ∧ OldK s₁.heap s'.heap ∧ s'.os = s₁.os ∧ AllBare s'.gens
/-- H tracks nothing but the script -/
structure Alone (P : Program) (w : World) (K : PySem.W.Frag) (H : Hp) (h : Heap) (a : Addr) (xs : List V) : Prop where
  only : Only H
  sq : SqL K H a xs
  ok : HOk P w H h
  at_ : ∀ b, H b ≠ none → b = a
  out : H a ≠ none → K.lookup a = none
theorem from_alone {H : Hp} (KX : K.In s₁.heap) (hns : s₁.heap.Ns mainGlobals mg) (hb : s₁.heap.Ns builtinsNs mb) (hbb : ∀ y : Str, y ≠ "__name__" → mb y = bootBuiltins y) (hlim : s₁.heap.NoLimit) (hg : s₁.gens = #[])
    (ha : s₁.heap.get? a = some { cls := .type "list", data := .seq vs.toArray }) (hr : Room k callerA) (hgd : callerA.guards = some [])
    (F : ∀ base : Heap, K.In base → base.Ns mainGlobals mg → FnG P w K mg base CX0 k fa fd [x] sp) (hbind : ∀ (s : Shared) (u : Value), BindsTo s fd ⟨[u], []⟩ [(x, u)])
    (hsp : ∀ H : Hp, Only H → SqL K H a (ns.map V.int) → sp [.ref a] H (fun v _ => v = .bl true) E0) (Z : Alone P w K H s₁.heap a (ns.map V.int)) :
    codeAny (model P w) callerA (.call (.ref fa) ⟨[.ref a], []⟩) (LawEnd s₁) s₁ := by
  have eqA : ∀ {b : Addr} {u : HO}, H b = some u → b = a := fun {b u} q => Z.at_ b (by rw [q]; exact fun z => by cases z)
  -- a namespace, an object of the written part are no lists at a: they stay in sight
  have nsK : ∀ {b : Addr} {m : Str → Option Value}, s₁.heap.Ns b m → (hidT s₁.heap H).Ns b m := by
    rintro b m ⟨o, es, ep, e, d, r⟩
    refine ⟨o, es, ep, hidT_get e ?_, d, r⟩
    cases q : H b with
    | none => rfl
    | some u =>
      obtain rfl := eqA q
      rw [ha] at e
      cases e
      cases d
  have hKb : K.In (hidT s₁.heap H) := by
    intro b o e
    refine hidT_get (KX b o e) ?_
    cases q : H b with
    | none => rfl
    | some u =>
      obtain rfl := eqA q
      rw [Z.out (by rw [q]; exact fun z => by cases z)] at e
      cases e
  obtain ⟨mc, l1, l2⟩ := hlim
  have e0 : Env0 P w K mg (hidT s₁.heap H) callerA [] s₁ H :=
    { frames := rfl, mod := ⟨hKb, nsK hns, ⟨mb, nsK hb, hbb⟩, ⟨mc, nsK l1, l2⟩⟩, bs := fun b o e => of_hidT e, bsz := Nat.le_of_eq (hidT_size _ _), funs := trivial,
      frf := fun b hb => absurd (show b ∈ ([] : List Addr) from hb) (by simp), hok := Z.ok, bare := .of_eq hg }
  refine codeAny_mono ((F _ hKb (nsK hns)).run callerA [] s₁ H ⟨[.ref a], []⟩ [.ref a] [.ref a] _ E0 hgd hr e0 (hbind s₁ (.ref a)) (.cons rfl .nil) (hsp H Z.only Z.sq)) fun r s' h => ?_
  match r, h with
  | .error e, h => exact False.elim h
  | .ok .next, h => exact False.elim h
  | .ok .brk, h => exact False.elim h
  | .ok .cont, h => exact False.elim h
  | .ok (.ret u), h =>
    obtain ⟨v, H', os, bare, un, hok', r', q'⟩ := h
    have q' : v = .bl true := q'
    subst q'
    obtain rfl : u = Value.bool true := r'
    refine ⟨rfl, OldK.of_keep fun b o e => ?_, os, bare⟩
    cases q : H b with
    | none => exact un.keep b o e q (fun z => absurd (show b ∈ ([] : List Addr) from z) (by simp)) (by simp)
    | some u =>
      rcases Z.only b with z | ⟨ob, xs, z⟩
      · rw [q] at z; cases z
      · obtain ⟨e1, _⟩ := Z.ok b _ z
        obtain ⟨e2, _⟩ := hok' b _ (un.frzs b ob _ z)
        rw [e] at e1
        cases e1
        exact e2
theorem law_callG (KX : K.In s₁.heap) (hns : s₁.heap.Ns mainGlobals mg) (hb : s₁.heap.Ns builtinsNs mb) (hbb : ∀ y : Str, y ≠ "__name__" → mb y = bootBuiltins y) (hlim : s₁.heap.NoLimit) (hg : s₁.gens = #[])
    (ha : s₁.heap.get? a = some { cls := .type "list", data := .seq vs.toArray }) (hi : IntsAre vs ns) (hl : ns.length ≤ sizeLine) (hr : Room k callerA) (hgd : callerA.guards = some [])
    (F : ∀ base : Heap, K.In base → base.Ns mainGlobals mg → FnG P w K mg base CX0 k fa fd [x] sp) (hbind : ∀ (s : Shared) (u : Value), BindsTo s fd ⟨[u], []⟩ [(x, u)])
    (hsp : ∀ H : Hp, Only H → SqL K H a (ns.map V.int) → sp [.ref a] H (fun v _ => v = .bl true) E0) :
    codeAny (model P w) callerA (.call (.ref fa) ⟨[.ref a], []⟩) (LawEnd s₁) s₁ := by
  have rv := vals_ints hi
  have hlv := hi.length
  by_cases hK : ∃ o, K.lookup a = some o
  · obtain ⟨o, ho⟩ := hK
    have e := KX a o ho
    rw [ha] at e
    obtain rfl := Option.some.inj e
    refine from_alone (H := fun _ => none) KX hns hb hbb hlim hg ha hr hgd F hbind hsp ⟨fun _ => .inl rfl, .inr ⟨_, vs.toArray, _, ho, rfl, rfl, rfl, ?_, ?_⟩, fun b u z => (by cases z), fun b z => absurd rfl z, fun z => absurd rfl z⟩
    · rw [List.size_toArray, hlv]; exact hl
    · simpa using rv
  · have hn : K.lookup a = none := by
      cases q : K.lookup a with
      | none => rfl
      | some o => exact absurd ⟨o, q⟩ hK
    let so : Obj := { cls := .type "list", data := .seq vs.toArray }
    let H : Hp := fun b => if b = a then some (.frz so (.lst (ns.map V.int))) else none
    have hHa : H a = some (.frz so (.lst (ns.map V.int))) := if_pos rfl
    have hHn : ∀ b, b ≠ a → H b = none := fun b hb => if_neg hb
    refine from_alone (H := H) KX hns hb hbb hlim hg ha hr hgd F hbind hsp ⟨fun b => ?_, .inl (.inr ⟨so, hHa⟩), fun b u z => ?_, fun b z => ?_, fun _ => hn⟩
    · by_cases q : b = a
      · rw [q]; exact .inr ⟨_, _, hHa⟩
      · exact .inl (hHn b q)
    · by_cases q : b = a
      · rw [q, hHa] at z
        obtain rfl := Option.some.inj z
        rw [q]
        exact ⟨ha, by rw [List.length_map]; exact hl, vs, _, rv, ha⟩
      · rw [hHn b q] at z
        cases z
    · by_cases q : b = a
      · exact q
      · exact absurd (hHn b q) z
end
theorem walk_ofG {l : PySem.W.OpenLaw} {n k : Nat} {q : Program} {loose : List Str} {XP : (Str → Option Value) → Heap → Prop} {YP : World → Heap → Prop} {d : DefRec} {K : Params → PySem.W.Frag} {sp : PySem.W.Frag → Sp} {x : Str}
    (hn : l.most = some n) (hn2 : n ≤ sizeLine) (hdf : d.params.defaults = []) (hr : Room k callerA) (hgd : callerA.guards = some [])
    (hY : ∀ (w : World) (h : Heap), YP w h → (K w.params).In h)
    (F : ∀ (w : World) (mg : Str → Option Value) (fa : Addr) (h : Heap), (K w.params).In h → h.Ns mainGlobals mg → mg d.name = some (.ref fa) →
      ∃ fd : FuncData, (∀ (s : Shared) (u : Value), BindsTo s fd ⟨[u], []⟩ [(x, u)]) ∧
        ∀ base : Heap, (K w.params).In base → base.Ns mainGlobals mg → FnG l.prog w (K w.params) mg base CX0 k fa fd [x] (sp (K w.params)))
    (hsp : ∀ (K : PySem.W.Frag) (H : Hp) (a : Addr) (ns : List Int), ns.length ≤ n → Only H → SqL K H a (ns.map V.int) → sp K [.ref a] H (fun v _ => v = .bl true) E0) :
    PySem.W.WalkO q loose XP YP l.row.toRowW d [] (fun f vs => PySem.call f vs) := by
  refine Att.attach_call hn hdf fun w s₀ s₁ mg mb fa o pm cd doc a vs ns G Y ho hd hcd hmg hobj hints hlen hg => ?_
  obtain ⟨fd, hb, hF⟩ := F w mg fa _ (hY w _ Y) G.T.g hmg
  exact law_callG (hY w _ Y) G.T.g G.T.b G.T.builtins G.T.nolimit hg hobj hints (Nat.le_trans hlen hn2) hr hgd hF hb fun H hO hS => hsp _ H a ns hlen hO hS
example : callerA.guards = some [] := rfl
end Gf
namespace Gf
open PySem PySem.Spec PyProof.Rows L2

/-! ### a part that is not reached -/
def tNo : TE := fun _ _ _ => False
theorem pe_no {X : Cx} {e : Expr} : PE X e tNo := ⟨fun _ _ _ _ _ _ h => h.elim⟩

/-! ### a def, a method, a property as one fact -/
section
variable (P : Program) (w : World) (K : PySem.W.Frag) (mg : Str → Option Value) (base : Heap)
structure DG (x : Str) (k : Nat) (ps : List Str) (sp : Sp) : Prop where
  ex : ∃ f fd, FnOk P w K mg base CX0 k f fd ps sp ∧ mg x = some (.ref f) ∧ PySem.W.keepIn K (.ref f) = true ∧ Binds K fd ps []
structure DGg (x : Str) (k : Nat) (ps : List Str) (sp : Sp) : Prop where
  ex : ∃ f fd, FnG P w K mg base CX0 k f fd ps sp ∧ mg x = some (.ref f) ∧ PySem.W.keepIn K (.ref f) = true ∧ Binds K fd ps []
structure DM (C : Addr) (m : Str) (k : Nat) (ps : List Str) (sp : Sp) : Prop where
  ex : ∃ f fd, FnOk P w K mg base CX0 k f fd ps sp ∧ Meth K C m f ∧ Binds K fd ps []
structure DP (C : Addr) (m : Str) (k : Nat) (sp : Sp) : Prop where
  ex : ∃ p f fd, FnOk P w K mg base CX0 k f fd ["self"] sp ∧ PropOf K C m p f ∧ Binds K fd ["self"] []
structure DC (x : Str) (C : Addr) (k : Nat) (ps : List Str) (sp : Sp) : Prop where
  ex : ∃ f fd, FnOk P w K mg base CX0 k f fd ps sp ∧ Mk K C f ∧ mg x = some (.ref C) ∧ Binds K fd ps []
end
section
variable {X : Cx} {x m : Str} {j k : Nat} {ps : List Str} {sp : Sp} {C : Addr} {p pos apos : Pos} {e o : Expr} {es : List Expr} {ta : TE} {t : TA}
def tG (sp : Sp) (t : TA) : TE := fun σ H Q => t σ H fun vs H1 => sp vs H1 Q E0
theorem pe_g (D : DG X.prog X.w X.K X.mg X.base x k ps sp) (hr : Room j X.A) (hg : Gl X x) (ha : PA X (e :: es) t) (hj : k ≤ j := by decide)
    (hdb : (x == ("__debug__" : Str)) = false := by decide) (he : starEach (e :: es) X.env = (false, eval e X.env) :: starEach es X.env := by rfl) (hpl : (backTo pos (starEach es X.env)).any (·.1) = false := by rfl) :
    PE X (.Call (.Name x p) (e :: es) [] pos) (tG sp t) := by
  obtain ⟨f, fd, F, hm, hk, hb⟩ := D.ex
  refine ⟨fun pins s σ H Q I h => ?_⟩
  refine (pe_call F (hr.mono hj) hg hm hk hb (dvs := []) .nil pass0 ha hdb he hpl).run pins s σ H Q I ?_
  show t σ H fun vs H1 => sp (vs ++ []) H1 Q E0
  simp only [List.append_nil]
  exact h
theorem pe_gg (D : DGg X.prog X.w X.K X.mg X.base x k ps sp) (hgd : X.A.guards = some []) (hr : Room j X.A) (hg : Gl X x) (ha : PA X (e :: es) t) (hj : k ≤ j := by decide)
    (hdb : (x == ("__debug__" : Str)) = false := by decide) (he : starEach (e :: es) X.env = (false, eval e X.env) :: starEach es X.env := by rfl) (hpl : (backTo pos (starEach es X.env)).any (·.1) = false := by rfl) :
    PE X (.Call (.Name x p) (e :: es) [] pos) (tG sp t) := by
  obtain ⟨f, fd, F, hm, hk, hb⟩ := D.ex
  refine ⟨fun pins s σ H Q I h => ?_⟩
  refine (pe_callG F hgd (hr.mono hj) hg hm hk hb ha hdb he hpl).run pins s σ H Q I ?_
  show t σ H fun vs H1 => sp (vs ++ []) H1 Q E0
  simp only [List.append_nil]
  exact h
def tM (C : Addr) (m : Str) (sp : Sp) (ta : TE) (t : TA) : TE := fun σ H Q => ta σ H fun x H1 => ∃ a dx fs, x = .ref a ∧ H1 a = some (.ins C dx fs) ∧ fs.lookup m = none ∧
  t σ H1 fun vs H2 => sp (.ref a :: vs) H2 Q E0
theorem pe_m {pl : Sem Bool} (c : Cls X.K C) (D : DM X.prog X.w X.K X.mg X.base C m k ps sp) (hr : Room j X.A) (he : PE X o ta) (ha : PA X (e :: es) t) (hj : k ≤ j := by decide)
    (hst : starEach (e :: es) X.env = (false, eval e X.env) :: starEach es X.env := by rfl) (hpl : (backTo pos (starEach es X.env)).any (·.1) = false := by rfl)
    (ht : eval (.Call (.Attribute o m apos) (e :: es) [] pos) X.env = (do
      let ov ← eval o X.env
      standAt apos.atName
      let (f, first) ← holding [ov] (getMethod ov m pl)
      callWith pos f first (backTo pos (starEach (e :: es) X.env)) (backToKw pos (keywordEach [] X.env))) := by rfl) :
    PE X (.Call (.Attribute o m apos) (e :: es) [] pos) (tM C m sp ta t) := by
  obtain ⟨f, fd, F, hm, hb⟩ := D.ex
  refine ⟨fun pins s σ H Q I h => ?_⟩
  refine (pe_meth he c hm F (hr.mono hj) hb (dvs := []) .nil pass0 ha hst hpl ht).run pins s σ H Q I ?_
  refine Eq.mpr ?_ h
  unfold tMeth tM
  congr 1
  funext x H1
  refine propext ⟨?_, ?_⟩
  · rintro ⟨a, dx, fs, rfl, h1, h2, h3⟩
    exact ⟨a, dx, fs, rfl, h1, h2, by simpa only [List.append_nil] using h3⟩
  · rintro ⟨a, dx, fs, rfl, h1, h2, h3⟩
    exact ⟨a, dx, fs, rfl, h1, h2, by simpa only [List.append_nil] using h3⟩
theorem pe_m0 {pl : Sem Bool} (c : Cls X.K C) (D : DM X.prog X.w X.K X.mg X.base C m k ps sp) (hr : Room j X.A) (he : PE X o ta) (hj : k ≤ j := by decide)
    (ht : eval (.Call (.Attribute o m apos) [] [] pos) X.env = (do
      let ov ← eval o X.env
      standAt apos.atName
      let (f, first) ← holding [ov] (getMethod ov m pl)
      callWith pos f first (backTo pos (starEach [] X.env)) (backToKw pos (keywordEach [] X.env))) := by rfl) :
    PE X (.Call (.Attribute o m apos) [] [] pos) (tM C m sp ta tNil) := by
  obtain ⟨f, fd, F, hm, hb⟩ := D.ex
  refine ⟨fun pins s σ H Q I h => ?_⟩
  refine (pe_meth0 he c hm F (hr.mono hj) hb (dvs := []) .nil pass0 ht).run pins s σ H Q I ?_
  refine Eq.mpr ?_ h
  unfold tMeth tM
  congr 1
  funext x H1
  refine propext ⟨?_, ?_⟩
  · rintro ⟨a, dx, fs, rfl, h1, h2, h3⟩
    exact ⟨a, dx, fs, rfl, h1, h2, h3⟩
  · rintro ⟨a, dx, fs, rfl, h1, h2, h3⟩
    exact ⟨a, dx, fs, rfl, h1, h2, h3⟩
def tP (C : Addr) (sp : Sp) (ta : TE) : TE := fun σ H Q => ta σ H fun x H1 => ∃ a dx fs, x = .ref a ∧ H1 a = some (.ins C dx fs) ∧ sp [.ref a] H1 Q E0
theorem pe_p (c : Cls X.K C) (D : DP X.prog X.w X.K X.mg X.base C m k sp) (hr : Room j X.A) (he : PE X o ta) (hj : k + 1 ≤ j := by decide) (hab : attributeBase o m X.env (eval o X.env) = eval o X.env := by rfl) :
    PE X (.Attribute o m pos) (tP C sp ta) := by
  obtain ⟨p, f, fd, F, hm, hb⟩ := D.ex
  exact pe_prop he c hm F (hr.mono hj) hb (dvs := []) .nil pass0 hab
def tC (sp : Sp) (C : Addr) (t : TA) : TE := fun σ H Q => t σ H fun vs H1 => ∀ x dx, H1 x = none → H1 dx = none → dx ≠ x →
  sp (.ref x :: vs) (upd (upd H1 dx (.own x)) x (.ins C dx [])) (fun v H2 => v = .non ∧ Q (.ref x) H2) E0
theorem pe_c (D : DC X.prog X.w X.K X.mg X.base x C k ps sp) (hr : Room j X.A) (hg : Gl X x) (ha : PA X (e :: es) t) (hj : k + 1 ≤ j := by decide)
    (hdb : (x == ("__debug__" : Str)) = false := by decide) (he : starEach (e :: es) X.env = (false, eval e X.env) :: starEach es X.env := by rfl) (hpl : (backTo pos (starEach es X.env)).any (·.1) = false := by rfl) :
    PE X (.Call (.Name x p) (e :: es) [] pos) (tC sp C t) := by
  obtain ⟨f, fd, F, M, hm, hb⟩ := D.ex
  refine ⟨fun pins s σ H Q I h => ?_⟩
  refine (pe_make M F (hr.mono hj) hg hm hb (dvs := []) .nil pass0 ha hdb he hpl).run pins s σ H Q I ?_
  unfold tMake
  simp only [List.append_nil]
  exact h
theorem pe_c0 (D : DC X.prog X.w X.K X.mg X.base x C k ps sp) (hr : Room j X.A) (hg : Gl X x) (hj : k + 1 ≤ j := by decide) (hdb : (x == ("__debug__" : Str)) = false := by decide) :
    PE X (.Call (.Name x p) [] [] pos) (tC sp C tNil) := by
  obtain ⟨f, fd, F, M, hm, hb⟩ := D.ex
  refine ⟨fun pins s σ H Q I h => ?_⟩
  exact (pe_make0 M F (hr.mono hj) hg hm hb (dvs := []) .nil pass0 hdb).run pins s σ H Q I h
end
end Gf
namespace Gf
open PySem PySem.Spec PyProof.Rows L2

/-! ### sorted([], key=f) -/
theorem cr_sortKeyNil {X : Cx} (hu : X.A.units + 64 < cLine) : CallRK X (.builtin "sorted") [Str.ofString "key"] (fun vs zs H Q => ∃ l f : Addr, vs = [V.ref l] ∧ zs = [V.ref f] ∧ SqL X.K H l [] ∧ ∀ p, H p = none → Q (.ref p) (upd H p (.lst []))) := by
  intro pins s σ H vs zs us ws Q I r rz h
  obtain ⟨l, f, rfl, rfl, hs, q⟩ := h
  obtain rfl := Vals.ref1 r
  obtain ⟨w1, rfl, e1⟩ := vals1 rz
  obtain rfl : w1 = Value.ref f := e1
  obtain ⟨its, rv, hl, _⟩ := I.list hs
  cases rv
  refine PySem.W.sorted_key_data (β := Unit) (R := fun _ _ => True) (bs := []) (b := false) (fun _ => PyData.none) hl.isList .nil (fun d hd => absurd hd (by simp)) (.inl fun d hd => absurd hd (by simp)) (Nat.zero_le _) (fun x hx => absurd hx (by simp))
    (PyProof.Rows.ksk_s1 _ _) (fun _ => PyProof.Rows.ksk_l1 _ _) (fun x => PyProof.Rows.ksk_t1 f x) (fun v x _ hx => absurd hx (by simp)) fun out c h' tk k hn hat ho _ => ?_
  have eo : out = [] := List.length_eq_zero_iff.mp ho
  subst eo
  exact ⟨.ref _, upd H (s.heap.objs.size + 1) (.lst []), I.laid k (Nat.le_succ _) ⟨Nat.zero_le _, [], c, .nil, hat⟩, rfl, q _ (I.hok.fresh (Nat.le_succ _))⟩

/-! ### how heaps follow one another -/
/-- what may change: an instance, the three numbers of the draws -/
def Var : HO → Prop
  | .ins _ _ _ => True
  | .lst xs => ∃ a b c, xs = [V.int a, V.int b, V.int c]
  | _ => False
/-- all that may not change is as it was -/
def Kp (H H' : Hp) : Prop := ∀ b o, H b = some o → ¬ Var o → H' b = some o
/-- all but p is as it was, and p is a thing that may change -/
structure Fx (p : Addr) (H H' : Hp) : Prop where
  keep : ∀ b o, b ≠ p → H b = some o → H' b = some o
  var : ∃ o, H p = some o ∧ Var o
theorem Kp.refl (H : Hp) : Kp H H := fun _ _ h _ => h
theorem Kp.trans {H H1 H2 : Hp} (a : Kp H H1) (b : Kp H1 H2) : Kp H H2 := fun c o h n => b c o (a c o h n) n
theorem kp_same {H H' : Hp} (s : Same H H') : Kp H H' := fun b o h _ => s b o h
theorem kp_fx {p : Addr} {H H' : Hp} (f : Fx p H H') : Kp H H' := fun b o h n => f.keep b o (fun e => by
  obtain ⟨o', h', v⟩ := f.var
  rw [← e, h] at h'
  cases h'
  exact n v) h
theorem same_new {H : Hp} {p : Addr} {o : HO} (n : H p = none) : Same H (upd H p o) := fun b u e => by
  rw [upd_ne (ne_of_none e n)]
  exact e
theorem Fx.refl {p : Addr} {H : Hp} {o : HO} (h : H p = some o) (v : Var o) : Fx p H H := ⟨fun _ _ _ e => e, o, h, v⟩
/-- something is done to p, then what is tracked stays -/
theorem Fx.same {p : Addr} {H H1 H2 : Hp} (a : Fx p H H1) (b : Same H1 H2) : Fx p H H2 := ⟨fun c o n h => b c o (a.keep c o n h), a.var⟩
theorem Fx.after {p : Addr} {H H1 H2 : Hp} (a : Same H H1) (b : Fx p H1 H2) (hp : ∃ o, H p = some o ∧ Var o) : Fx p H H2 := ⟨fun c o n h => b.keep c o n (a c o h), hp⟩
theorem Fx.trans {p : Addr} {H H1 H2 : Hp} (a : Fx p H H1) (b : Fx p H1 H2) : Fx p H H2 := ⟨fun c o n h => b.keep c o n (a.keep c o n h), a.var⟩
theorem Fx.put {p : Addr} {H : Hp} {o u : HO} (h : H p = some o) (v : Var o) : Fx p H (upd H p u) := ⟨fun c w n e => by rw [upd_ne n]; exact e, o, h, v⟩
theorem nv_tup {xs : List V} : ¬ Var (.tup xs) := fun h => h
theorem nv_refs {rs : List Addr} : ¬ Var (.lst (rs.map V.ref)) := by
  rintro ⟨a, b, c, e⟩
  cases rs with
  | nil => cases e
  | cons r rs =>
    rw [List.map_cons] at e
    injection e with e1 _
    cases e1
theorem nv_nil : ¬ Var (.lst []) := by
  rintro ⟨a, b, c, e⟩
  cases e
theorem v_ins {C dx : Addr} {fs : List (Str × V)} : Var (.ins C dx fs) := trivial

/-! ### the data -/
/-- the corners of a level stretch of length s, of the origin for 0 -/
def CornersAt (H : Hp) (c : Addr) (s : Int) : Prop :=
  (0 < s ∧ ∃ p q : Addr, H c = some (.lst ([p, q].map V.ref)) ∧ H p = some (.tup [.int 0, .int 0]) ∧ H q = some (.tup [.int s, .int 0])) ∨
  (s = 0 ∧ ∃ p : Addr, H c = some (.lst ([p].map V.ref)) ∧ H p = some (.tup [.int 0, .int 0]))
def FenceAt (H : Hp) (f : Addr) (s : Int) : Prop := ∃ c z : Addr, H f = some (.tup [.int 1, .ref c, .ref z]) ∧ CornersAt H c s ∧ H z = some (.lst [])
theorem CornersAt.kp {H H' : Hp} {c : Addr} {s : Int} (k : Kp H H') (h : CornersAt H c s) : CornersAt H' c s := by
  rcases h with ⟨h, p, q, h1, h2, h3⟩ | ⟨h, p, h1, h2⟩
  · exact .inl ⟨h, p, q, k _ _ h1 nv_refs, k _ _ h2 nv_tup, k _ _ h3 nv_tup⟩
  · exact .inr ⟨h, p, k _ _ h1 nv_refs, k _ _ h2 nv_tup⟩
theorem CornersAt.nn {H : Hp} {c : Addr} {s : Int} (h : CornersAt H c s) : 0 ≤ s := by
  rcases h with ⟨h, _⟩ | ⟨h, _⟩ <;> omega
theorem FenceAt.kp {H H' : Hp} {f : Addr} {s : Int} (k : Kp H H') (h : FenceAt H f s) : FenceAt H' f s := by
  obtain ⟨c, z, h1, h2, h3⟩ := h
  exact ⟨c, z, k _ _ h1 nv_tup, h2.kp k, k _ _ h3 nv_nil⟩
/-- names and lengths -/
abbrev Rows := List (Str × Int)
/-- item by item -/
inductive All2 {α β : Type} (R : α → β → Prop) : List α → List β → Prop
  | nil : All2 R [] []
  | cons {a : α} {b : β} {l : List α} {m : List β} : R a b → All2 R l m → All2 R (a :: l) (b :: m)
theorem All2.mono {α β : Type} {R S : α → β → Prop} (f : ∀ a b, R a b → S a b) : ∀ {l : List α} {m : List β}, All2 R l m → All2 S l m
  | _, _, .nil => .nil
  | _, _, .cons h t => .cons (f _ _ h) (t.mono f)
theorem All2.len {α β : Type} {R : α → β → Prop} : ∀ {l : List α} {m : List β}, All2 R l m → l.length = m.length
  | _, _, .nil => rfl
  | _, _, .cons _ t => by rw [List.length_cons, List.length_cons, t.len]
theorem All2.get {α β : Type} {R : α → β → Prop} : ∀ {l : List α} {m : List β} {i : Nat} {a : α}, All2 R l m → l[i]? = some a → ∃ b, m[i]? = some b ∧ R a b
  | _, _, _, _, .nil, e => by simp at e
  | _, _, 0, _, .cons h _, e => by cases e; exact ⟨_, rfl, h⟩
  | _, _, i + 1, _, .cons _ t, e => All2.get (i := i) t e
theorem All2.get' {α β : Type} {R : α → β → Prop} : ∀ {l : List α} {m : List β} {i : Nat} {b : β}, All2 R l m → m[i]? = some b → ∃ a, l[i]? = some a ∧ R a b
  | _, _, _, _, .nil, e => by simp at e
  | _, _, 0, _, .cons h _, e => by cases e; exact ⟨_, rfl, h⟩
  | _, _, i + 1, _, .cons _ t, e => All2.get' (i := i) t e
theorem All2.app {α β : Type} {R : α → β → Prop} : ∀ {l l2 : List α} {m m2 : List β}, All2 R l m → All2 R l2 m2 → All2 R (l ++ l2) (m ++ m2)
  | _, _, _, _, .nil, h => h
  | _, _, _, _, .cons a t, h => .cons a (t.app h)
theorem All2.take {α β : Type} {R : α → β → Prop} : ∀ {l : List α} {m : List β} (n : Nat), All2 R l m → All2 R (l.take n) (m.take n)
  | _, _, 0, _ => .nil
  | _, _, _ + 1, .nil => .nil
  | _, _, n + 1, .cons h t => .cons h (t.take n)
theorem All2.drop {α β : Type} {R : α → β → Prop} : ∀ {l : List α} {m : List β} (n : Nat), All2 R l m → All2 R (l.drop n) (m.drop n)
  | _, _, 0, h => h
  | _, _, _ + 1, .nil => .nil
  | _, _, n + 1, .cons _ t => t.drop n
/-- a farm's row: a name and its fence -/
def RowAt (H : Hp) (a : Addr) (e : Str × Int) : Prop := ∃ f : Addr, H a = some (.tup [.str e.1, .ref f]) ∧ FenceAt H f e.2
/-- a row of the law: a name and a length -/
def LRowAt (H : Hp) (a : Addr) (e : Str × Int) : Prop := H a = some (.tup [.str e.1, .int e.2])
def RowsAt (H : Hp) (l : Addr) (F : Rows) : Prop := ∃ rs : List Addr, H l = some (.lst (rs.map V.ref)) ∧ All2 (RowAt H) rs F
def LRowsAt (H : Hp) (l : Addr) (F : Rows) : Prop := ∃ rs : List Addr, H l = some (.lst (rs.map V.ref)) ∧ All2 (LRowAt H) rs F
theorem RowAt.kp {H H' : Hp} (k : Kp H H') {a : Addr} {e : Str × Int} (h : RowAt H a e) : RowAt H' a e := by
  obtain ⟨f, h1, h2⟩ := h
  exact ⟨f, k _ _ h1 nv_tup, h2.kp k⟩
theorem RowsAt.kp {H H' : Hp} (k : Kp H H') {l : Addr} {F : Rows} (h : RowsAt H l F) : RowsAt H' l F := by
  obtain ⟨rs, h1, h2⟩ := h
  exact ⟨rs, k _ _ h1 nv_refs, h2.mono fun _ _ => RowAt.kp k⟩
theorem LRowAt.kp {H H' : Hp} (k : Kp H H') {a : Addr} {e : Str × Int} (h : LRowAt H a e) : LRowAt H' a e := k _ _ h nv_tup
theorem LRowsAt.kp {H H' : Hp} (k : Kp H H') {l : Addr} {F : Rows} (h : LRowsAt H l F) : LRowsAt H' l F := by
  obtain ⟨rs, h1, h2⟩ := h
  exact ⟨rs, k _ _ h1 nv_refs, h2.mono fun _ _ => LRowAt.kp k⟩
/-- all stakes of some rows at a size -/
def tot (F : Rows) (n : Int) : Int := (F.map fun e => e.2 * n + 1).sum
abbrev Call := Int × Rows
/-- a call that a farm keeps: (call, size, rows, total) -/
def CallAt (H : Hp) (a : Addr) (c : Call) : Prop := ∃ (w : V) (l : Addr), H a = some (.tup [w, .int c.1, .ref l, .int (tot c.2 c.1)]) ∧ RowsAt H l c.2
def CallsAt (H : Hp) (l : Addr) (cs : List Call) : Prop := ∃ rs : List Addr, H l = some (.lst (rs.map V.ref)) ∧ All2 (CallAt H) rs cs
theorem CallAt.kp {H H' : Hp} (k : Kp H H') {a : Addr} {c : Call} (h : CallAt H a c) : CallAt H' a c := by
  obtain ⟨w, l, h1, h2⟩ := h
  exact ⟨w, l, k _ _ h1 nv_tup, h2.kp k⟩
theorem CallsAt.kp {H H' : Hp} (k : Kp H H') {l : Addr} {cs : List Call} (h : CallsAt H l cs) : CallsAt H' l cs := by
  obtain ⟨rs, h1, h2⟩ := h
  exact ⟨rs, k _ _ h1 nv_refs, h2.mono fun _ _ => CallAt.kp k⟩
def oc : Str := "own_calls"
def FarmAt (CF : Addr) (H : Hp) (p : Addr) (cs : List Call) : Prop := ∃ dx l : Addr, H p = some (.ins CF dx [(oc, .ref l)]) ∧ CallsAt H l cs
theorem FarmAt.same {CF : Addr} {H H' : Hp} {p : Addr} {cs : List Call} (h : FarmAt CF H p cs) (s : Same H H') : FarmAt CF H' p cs := by
  obtain ⟨dx, l, h1, h2⟩ := h
  exact ⟨dx, l, s _ _ h1, h2.kp (kp_same s)⟩
theorem FarmAt.fx {CF : Addr} {H H' : Hp} {p q : Addr} {cs : List Call} (h : FarmAt CF H p cs) (f : Fx q H H') (n : p ≠ q) : FarmAt CF H' p cs := by
  obtain ⟨dx, l, h1, h2⟩ := h
  exact ⟨dx, l, f.keep _ _ n h1, h2.kp (kp_fx f)⟩
theorem FarmAt.var {CF : Addr} {H : Hp} {p : Addr} {cs : List Call} (h : FarmAt CF H p cs) : ∃ o, H p = some o ∧ Var o := by
  obtain ⟨dx, l, h1, h2⟩ := h
  exact ⟨_, h1, trivial⟩
/-- a farm's size and rows -/
def stOf (cs : List Call) : Call := (cs.getLast?).getD (1, [])
end Gf
namespace Gf
open PySem PySem.Spec PyProof.Rows L2

def top (i : Nat) : Stmt := PySem.Challenge.pw_growfences_k81_whole_full_farms.main.body.getD i (.Pass ⟨0, 0, 0, 0⟩)
abbrev s_is_integer : Stmt := top 14
abbrev N_is_integer : List Str := ["value"]
theorem sc_is_integer : FnScope N_is_integer ["value"] (defScope s_is_integer) := ⟨rfl, rfl, rfl, by decide +kernel, rfl, by decide +kernel, by decide +kernel⟩
abbrev s_is_between : Stmt := top 15
abbrev N_is_between : List Str := ["value", "least", "most"]
theorem sc_is_between : FnScope N_is_between ["value", "least", "most"] (defScope s_is_between) := ⟨rfl, rfl, rfl, by decide +kernel, rfl, by decide +kernel, by decide +kernel⟩
abbrev s_are_integers : Stmt := top 16
abbrev N_are_integers : List Str := ["value", "many", "item"]
theorem sc_are_integers : FnScope N_are_integers ["value", "many"] (defScope s_are_integers) := ⟨rfl, rfl, rfl, by decide +kernel, rfl, by decide +kernel, by decide +kernel⟩
abbrev s_common_divisor : Stmt := top 17
abbrev N_common_divisor : List Str := ["one", "other"]
theorem sc_common_divisor : FnScope N_common_divisor ["one", "other"] (defScope s_common_divisor) := ⟨rfl, rfl, rfl, by decide +kernel, rfl, by decide +kernel, by decide +kernel⟩
abbrev s_is_place : Stmt := top 19
abbrev N_is_place : List Str := ["value", "item"]
theorem sc_is_place : FnScope N_is_place ["value"] (defScope s_is_place) := ⟨rfl, rfl, rfl, by decide +kernel, rfl, by decide +kernel, by decide +kernel⟩
abbrev s_are_corners : Stmt := top 21
abbrev N_are_corners : List Str := ["value", "item"]
theorem sc_are_corners : FnScope N_are_corners ["value"] (defScope s_are_corners) := ⟨rfl, rfl, rfl, by decide +kernel, rfl, by decide +kernel, by decide +kernel⟩
abbrev s_sides_of : Stmt := top 22
abbrev N_sides_of : List Str := ["corners"]
theorem sc_sides_of : FnScope N_sides_of ["corners"] (defScope s_sides_of) := ⟨rfl, rfl, rfl, by decide +kernel, rfl, by decide +kernel, by decide +kernel⟩
abbrev s_are_sides : Stmt := top 23
abbrev N_are_sides : List Str := ["value", "many", "item", "one", "other"]
theorem sc_are_sides : FnScope N_are_sides ["value", "many"] (defScope s_are_sides) := ⟨rfl, rfl, rfl, by decide +kernel, rfl, by decide +kernel, by decide +kernel⟩
abbrev s_fence_fault : Stmt := top 24
abbrev N_fence_fault : List Str := ["value"]
theorem sc_fence_fault : FnScope N_fence_fault ["value"] (defScope s_fence_fault) := ⟨rfl, rfl, rfl, by decide +kernel, rfl, by decide +kernel, by decide +kernel⟩
abbrev s_is_plain_name : Stmt := top 25
abbrev N_is_plain_name : List Str := ["value", "sign"]
theorem sc_is_plain_name : FnScope N_is_plain_name ["value"] (defScope s_is_plain_name) := ⟨rfl, rfl, rfl, by decide +kernel, rfl, by decide +kernel, by decide +kernel⟩
abbrev s_require_fence : Stmt := top 26
abbrev N_require_fence : List Str := ["fence", "fault"]
theorem sc_require_fence : FnScope N_require_fence ["fence"] (defScope s_require_fence) := ⟨rfl, rfl, rfl, by decide +kernel, rfl, by decide +kernel, by decide +kernel⟩
abbrev s_require_size : Stmt := top 27
abbrev N_require_size : List Str := ["size"]
theorem sc_require_size : FnScope N_require_size ["size"] (defScope s_require_size) := ⟨rfl, rfl, rfl, by decide +kernel, rfl, by decide +kernel, by decide +kernel⟩
abbrev s_require_name : Stmt := top 28
abbrev N_require_name : List Str := ["name"]
theorem sc_require_name : FnScope N_require_name ["name"] (defScope s_require_name) := ⟨rfl, rfl, rfl, by decide +kernel, rfl, by decide +kernel, by decide +kernel⟩
abbrev s_round_up : Stmt := top 31
abbrev N_round_up : List Str := ["top", "bottom"]
theorem sc_round_up : FnScope N_round_up ["top", "bottom"] (defScope s_round_up) := ⟨rfl, rfl, rfl, by decide +kernel, rfl, by decide +kernel, by decide +kernel⟩
abbrev s_bezout : Stmt := top 32
abbrev N_bezout : List Str := ["one", "other", "here", "later", "times", "sign"]
theorem sc_bezout : FnScope N_bezout ["one", "other"] (defScope s_bezout) := ⟨rfl, rfl, rfl, by decide +kernel, rfl, by decide +kernel, by decide +kernel⟩
abbrev s_pairs_around : Stmt := top 34
abbrev N_pairs_around : List Str := ["corners"]
theorem sc_pairs_around : FnScope N_pairs_around ["corners"] (defScope s_pairs_around) := ⟨rfl, rfl, rfl, by decide +kernel, rfl, by decide +kernel, by decide +kernel⟩
abbrev s_span_of : Stmt := top 35
abbrev N_span_of : List Str := ["bottom", "one", "other", "wide", "up", "part", "beside", "left", "right", "low", "high"]
theorem sc_span_of : FnScope N_span_of ["bottom", "one", "other"] (defScope s_span_of) := ⟨rfl, rfl, rfl, by decide +kernel, rfl, by decide +kernel, by decide +kernel⟩
abbrev s_span_count : Stmt := top 36
abbrev N_span_count : List Str := ["span", "row", "low", "high", "rise", "base"]
theorem sc_span_count : FnScope N_span_count ["span", "row"] (defScope s_span_count) := ⟨rfl, rfl, rfl, by decide +kernel, rfl, by decide +kernel, by decide +kernel⟩
abbrev s_edges_of : Stmt := top 38
abbrev N_edges_of : List Str := ["bottom", "pairs", "found", "first", "low", "high", "wide", "up"]
theorem sc_edges_of : FnScope N_edges_of ["bottom", "pairs"] (defScope s_edges_of) := ⟨rfl, rfl, rfl, by decide +kernel, rfl, by decide +kernel, by decide +kernel⟩
abbrev s_Outline_init : Stmt := inClass (top 40) 0
abbrev N_Outline_init : List Str := ["self", "fence", "size", "x", "y"]
theorem sc_Outline_init : FnScope N_Outline_init ["self", "fence", "size"] (defScope s_Outline_init) := ⟨rfl, rfl, rfl, by decide +kernel, rfl, by decide +kernel, by decide +kernel⟩
abbrev s_Outline_is_corner_stake : Stmt := inClass (top 40) 1
abbrev N_Outline_is_corner_stake : List Str := ["self", "spot", "row", "x", "y"]
theorem sc_Outline_is_corner_stake : FnScope N_Outline_is_corner_stake ["self", "spot", "row"] (defScope s_Outline_is_corner_stake) := ⟨rfl, rfl, rfl, by decide +kernel, rfl, by decide +kernel, by decide +kernel⟩
abbrev s_Outline_side_span : Stmt := inClass (top 40) 2
abbrev N_Outline_side_span : List Str := ["self", "side", "one", "other"]
theorem sc_Outline_side_span : FnScope N_Outline_side_span ["self", "side"] (defScope s_Outline_side_span) := ⟨rfl, rfl, rfl, by decide +kernel, rfl, by decide +kernel, by decide +kernel⟩
abbrev s_Grown_init : Stmt := inClass (top 41) 0
abbrev N_Grown_init : List Str := ["self", "fence", "size", "heights", "x", "y", "field", "pair", "one", "two", "side"]
abbrev s_Grown_closed_below : Stmt := inClass (top 41) 1
abbrev N_Grown_closed_below : List Str := ["self", "row", "last", "found", "edge"]
theorem sc_Grown_closed_below : FnScope N_Grown_closed_below ["self", "row"] (defScope s_Grown_closed_below) := ⟨rfl, rfl, rfl, by decide +kernel, rfl, by decide +kernel, by decide +kernel⟩
abbrev s_Grown_shut_below : Stmt := inClass (top 41) 2
abbrev N_Grown_shut_below : List Str := ["self", "row", "end", "found", "span", "twice", "side"]
theorem sc_Grown_shut_below : FnScope N_Grown_shut_below ["self", "row"] (defScope s_Grown_shut_below) := ⟨rfl, rfl, rfl, by decide +kernel, rfl, by decide +kernel, by decide +kernel⟩
abbrev s_Grown_below : Stmt := inClass (top 41) 3
abbrev N_Grown_below : List Str := ["self", "row"]
theorem sc_Grown_below : FnScope N_Grown_below ["self", "row"] (defScope s_Grown_below) := ⟨rfl, rfl, rfl, by decide +kernel, rfl, by decide +kernel, by decide +kernel⟩
abbrev s_count_of : Stmt := top 42
abbrev N_count_of : List Str := ["fence", "size"]
theorem sc_count_of : FnScope N_count_of ["fence", "size"] (defScope s_count_of) := ⟨rfl, rfl, rfl, by decide +kernel, rfl, by decide +kernel, by decide +kernel⟩
abbrev s_own_fence : Stmt := top 45
abbrev N_own_fence : List Str := ["fence"]
theorem sc_own_fence : FnScope N_own_fence ["fence"] (defScope s_own_fence) := ⟨rfl, rfl, rfl, by decide +kernel, rfl, by decide +kernel, by decide +kernel⟩
abbrev s_farm_total : Stmt := top 46
abbrev N_farm_total : List Str := ["fences", "size", "name", "fence"]
theorem sc_farm_total : FnScope N_farm_total ["fences", "size"] (defScope s_farm_total) := ⟨rfl, rfl, rfl, by decide +kernel, rfl, by decide +kernel, by decide +kernel⟩
abbrev s_LiveFarm_init : Stmt := inClass (top 47) 0
abbrev N_LiveFarm_init : List Str := ["self"]
theorem sc_LiveFarm_init : FnScope N_LiveFarm_init ["self"] (defScope s_LiveFarm_init) := ⟨rfl, rfl, rfl, by decide +kernel, rfl, by decide +kernel, by decide +kernel⟩
abbrev s_LiveFarm_state_now : Stmt := inClass (top 47) 1
abbrev N_LiveFarm_state_now : List Str := ["self"]
theorem sc_LiveFarm_state_now : FnScope N_LiveFarm_state_now ["self"] (defScope s_LiveFarm_state_now) := ⟨rfl, rfl, rfl, by decide +kernel, rfl, by decide +kernel, by decide +kernel⟩
abbrev s_LiveFarm_keep_call : Stmt := inClass (top 47) 2
abbrev N_LiveFarm_keep_call : List Str := ["self", "call", "size", "fences"]
theorem sc_LiveFarm_keep_call : FnScope N_LiveFarm_keep_call ["self", "call", "size", "fences"] (defScope s_LiveFarm_keep_call) := ⟨rfl, rfl, rfl, by decide +kernel, rfl, by decide +kernel, by decide +kernel⟩
abbrev s_LiveFarm_fence_there : Stmt := inClass (top 47) 3
abbrev N_LiveFarm_fence_there : List Str := ["self", "name", "other", "fence"]
theorem sc_LiveFarm_fence_there : FnScope N_LiveFarm_fence_there ["self", "name"] (defScope s_LiveFarm_fence_there) := ⟨rfl, rfl, rfl, by decide +kernel, rfl, by decide +kernel, by decide +kernel⟩
abbrev s_LiveFarm_put_fence : Stmt := inClass (top 47) 4
abbrev N_LiveFarm_put_fence : List Str := ["self", "name", "fence", "size", "fences", "total", "other", "known", "own"]
theorem sc_LiveFarm_put_fence : FnScope N_LiveFarm_put_fence ["self", "name", "fence"] (defScope s_LiveFarm_put_fence) := ⟨rfl, rfl, rfl, by decide +kernel, rfl, by decide +kernel, by decide +kernel⟩
abbrev s_LiveFarm_take_fence : Stmt := inClass (top 47) 5
abbrev N_LiveFarm_take_fence : List Str := ["self", "name", "size", "fences", "total", "row"]
theorem sc_LiveFarm_take_fence : FnScope N_LiveFarm_take_fence ["self", "name"] (defScope s_LiveFarm_take_fence) := ⟨rfl, rfl, rfl, by decide +kernel, rfl, by decide +kernel, by decide +kernel⟩
abbrev s_LiveFarm_set_size : Stmt := inClass (top 47) 6
abbrev N_LiveFarm_set_size : List Str := ["self", "size"]
theorem sc_LiveFarm_set_size : FnScope N_LiveFarm_set_size ["self", "size"] (defScope s_LiveFarm_set_size) := ⟨rfl, rfl, rfl, by decide +kernel, rfl, by decide +kernel, by decide +kernel⟩
abbrev s_LiveFarm_undo : Stmt := inClass (top 47) 8
abbrev N_LiveFarm_undo : List Str := ["self"]
theorem sc_LiveFarm_undo : FnScope N_LiveFarm_undo ["self"] (defScope s_LiveFarm_undo) := ⟨rfl, rfl, rfl, by decide +kernel, rfl, by decide +kernel, by decide +kernel⟩
abbrev s_LiveFarm_fork : Stmt := inClass (top 47) 9
abbrev N_LiveFarm_fork : List Str := ["self", "two"]
theorem sc_LiveFarm_fork : FnScope N_LiveFarm_fork ["self"] (defScope s_LiveFarm_fork) := ⟨rfl, rfl, rfl, by decide +kernel, rfl, by decide +kernel, by decide +kernel⟩
abbrev s_LiveFarm_fence_named : Stmt := inClass (top 47) 10
abbrev N_LiveFarm_fence_named : List Str := ["self", "name"]
theorem sc_LiveFarm_fence_named : FnScope N_LiveFarm_fence_named ["self", "name"] (defScope s_LiveFarm_fence_named) := ⟨rfl, rfl, rfl, by decide +kernel, rfl, by decide +kernel, by decide +kernel⟩
abbrev s_LiveFarm_count_named : Stmt := inClass (top 47) 11
abbrev N_LiveFarm_count_named : List Str := ["self", "name"]
theorem sc_LiveFarm_count_named : FnScope N_LiveFarm_count_named ["self", "name"] (defScope s_LiveFarm_count_named) := ⟨rfl, rfl, rfl, by decide +kernel, rfl, by decide +kernel, by decide +kernel⟩
abbrev s_LiveFarm_size : Stmt := inClass (top 47) 12
abbrev N_LiveFarm_size : List Str := ["self"]
theorem sc_LiveFarm_size : FnScope N_LiveFarm_size ["self"] (defScope s_LiveFarm_size) := ⟨rfl, rfl, rfl, by decide +kernel, rfl, by decide +kernel, by decide +kernel⟩
abbrev s_LiveFarm_names : Stmt := inClass (top 47) 13
abbrev N_LiveFarm_names : List Str := ["self", "name", "fence"]
theorem sc_LiveFarm_names : FnScope N_LiveFarm_names ["self"] (defScope s_LiveFarm_names) := ⟨rfl, rfl, rfl, by decide +kernel, rfl, by decide +kernel, by decide +kernel⟩
abbrev s_LiveFarm_total : Stmt := inClass (top 47) 14
abbrev N_LiveFarm_total : List Str := ["self"]
theorem sc_LiveFarm_total : FnScope N_LiveFarm_total ["self"] (defScope s_LiveFarm_total) := ⟨rfl, rfl, rfl, by decide +kernel, rfl, by decide +kernel, by decide +kernel⟩
abbrev s_LiveFarm_log : Stmt := inClass (top 47) 15
abbrev N_LiveFarm_log : List Str := ["self", "calls", "row", "call"]
theorem sc_LiveFarm_log : FnScope N_LiveFarm_log ["self"] (defScope s_LiveFarm_log) := ⟨rfl, rfl, rfl, by decide +kernel, rfl, by decide +kernel, by decide +kernel⟩
abbrev s_LiveFarm_len : Stmt := inClass (top 47) 16
abbrev N_LiveFarm_len : List Str := ["self"]
theorem sc_LiveFarm_len : FnScope N_LiveFarm_len ["self"] (defScope s_LiveFarm_len) := ⟨rfl, rfl, rfl, by decide +kernel, rfl, by decide +kernel, by decide +kernel⟩
abbrev s_law_stock : Stmt := top 49
abbrev N_law_stock : List Str := ["_law_script", "_law_digits", "_law_mixed", "_law_cell", "_law_grown"]
theorem sc_law_stock : FnScope N_law_stock ["_law_script"] (defScope s_law_stock) := ⟨rfl, rfl, rfl, by decide +kernel, rfl, by decide +kernel, by decide +kernel⟩
abbrev s_law_draw : Stmt := top 50
abbrev N_law_draw : List Str := ["_law_stock_here", "_law_wide", "_law_found", "_law_grown"]
theorem sc_law_draw : FnScope N_law_draw ["_law_stock_here", "_law_wide"] (defScope s_law_draw) := ⟨rfl, rfl, rfl, by decide +kernel, rfl, by decide +kernel, by decide +kernel⟩
abbrev s_law_bar : Stmt := top 51
abbrev N_law_bar : List Str := ["_law_spot"]
theorem sc_law_bar : FnScope N_law_bar ["_law_spot"] (defScope s_law_bar) := ⟨rfl, rfl, rfl, by decide +kernel, rfl, by decide +kernel, by decide +kernel⟩
abbrev s_law_is_put : Stmt := top 52
abbrev N_law_is_put : List Str := ["_law_farm", "_law_word", "_law_spot", "_law_found"]
theorem sc_law_is_put : FnScope N_law_is_put ["_law_farm", "_law_word", "_law_spot"] (defScope s_law_is_put) := ⟨rfl, rfl, rfl, by decide +kernel, rfl, by decide +kernel, by decide +kernel⟩
abbrev s_law_is_right : Stmt := top 53
abbrev N_law_is_right : List Str := ["_law_farm", "_law_rows_here", "_law_scale", "_law_words", "_law_due", "_law_row", "_law_told"]
theorem sc_law_is_right : FnScope N_law_is_right ["_law_farm", "_law_rows_here", "_law_scale"] (defScope s_law_is_right) := ⟨rfl, rfl, rfl, by decide +kernel, rfl, by decide +kernel, by decide +kernel⟩
abbrev s_law_rows : Stmt := top 54
abbrev N_law_rows : List Str := ["_law_stock_here", "_law_many", "_law_words", "_law_found", "_law_turn", "_law_word"]
theorem sc_law_rows : FnScope N_law_rows ["_law_stock_here", "_law_many"] (defScope s_law_rows) := ⟨rfl, rfl, rfl, by decide +kernel, rfl, by decide +kernel, by decide +kernel⟩
abbrev s_law_bound_right : Stmt := top 55
abbrev N_law_bound_right : List Str := ["_law_stock_here", "_law_farm", "_law_rows_here", "_law_rank", "_law_scale", "_law_others"]
theorem sc_law_bound_right : FnScope N_law_bound_right ["_law_stock_here", "_law_farm", "_law_rows_here"] (defScope s_law_bound_right) := ⟨rfl, rfl, rfl, by decide +kernel, rfl, by decide +kernel, by decide +kernel⟩
abbrev s_law_full_right : Stmt := top 56
abbrev N_law_full_right : List Str := ["_law_stock_here", "_law_farm", "_law_rows_here", "_law_rank", "_law_word", "_law_spot", "_law_two", "_law_one"]
theorem sc_law_full_right : FnScope N_law_full_right ["_law_stock_here"] (defScope s_law_full_right) := ⟨rfl, rfl, rfl, by decide +kernel, rfl, by decide +kernel, by decide +kernel⟩
abbrev s_law_tried_right : Stmt := top 57
abbrev N_law_tried_right : List Str := ["_law_stock_here", "_law_often", "_law_farm", "_law_rows_here", "_law_turn", "_law_row"]
theorem sc_law_tried_right : FnScope N_law_tried_right ["_law_stock_here", "_law_often"] (defScope s_law_tried_right) := ⟨rfl, rfl, rfl, by decide +kernel, rfl, by decide +kernel, by decide +kernel⟩
abbrev s_law : Stmt := top 58
abbrev N_law : List Str := ["_law_script", "_law_stock_here"]
theorem sc_law : FnScope N_law ["_law_script"] (defScope s_law) := ⟨rfl, rfl, rfl, by decide +kernel, rfl, by decide +kernel, by decide +kernel⟩

/-! ### what stands behind the top -/
section
variable (K : PySem.W.Frag) (mg : Str → Option Value)
structure FD (x : Str) (st : Stmt) : Prop where
  ex : ∃ f fd, Fun K x x st f fd ∧ mg x = some (.ref f)
structure FMt (C : Addr) (m qual : Str) (st : Stmt) : Prop where
  ex : ∃ f fd, Fun K m qual st f fd ∧ Meth K C m f
structure FPr (C : Addr) (m qual : Str) (st : Stmt) : Prop where
  ex : ∃ p f fd, Fun K m qual st f fd ∧ PropOf K C m p f
structure FCl (x : Str) (C : Addr) (qual : Str) (st : Stmt) : Prop where
  ex : ∃ f fd, Fun K "__init__" qual st f fd ∧ Mk K C f ∧ mg x = some (.ref C)
end
/-- all that the walk asks of the written part -/
structure Txt (P : Program) (K : PySem.W.Frag) (mg : Str → Option Value) (CF CG CI : Addr) : Prop where
  f_is_integer : FD K mg "is_integer" s_is_integer
  f_is_between : FD K mg "is_between" s_is_between
  f_are_integers : FD K mg "are_integers" s_are_integers
  f_common_divisor : FD K mg "common_divisor" s_common_divisor
  f_is_place : FD K mg "is_place" s_is_place
  f_are_corners : FD K mg "are_corners" s_are_corners
  f_sides_of : FD K mg "sides_of" s_sides_of
  f_are_sides : FD K mg "are_sides" s_are_sides
  f_fence_fault : FD K mg "fence_fault" s_fence_fault
  f_is_plain_name : FD K mg "is_plain_name" s_is_plain_name
  f_require_fence : FD K mg "require_fence" s_require_fence
  f_require_size : FD K mg "require_size" s_require_size
  f_require_name : FD K mg "require_name" s_require_name
  f_round_up : FD K mg "round_up" s_round_up
  f_bezout : FD K mg "bezout" s_bezout
  f_pairs_around : FD K mg "pairs_around" s_pairs_around
  f_span_of : FD K mg "span_of" s_span_of
  f_span_count : FD K mg "span_count" s_span_count
  f_edges_of : FD K mg "edges_of" s_edges_of
  f_count_of : FD K mg "count_of" s_count_of
  f_own_fence : FD K mg "own_fence" s_own_fence
  f_farm_total : FD K mg "farm_total" s_farm_total
  f_law_stock : FD K mg "_law_stock" s_law_stock
  f_law_draw : FD K mg "_law_draw" s_law_draw
  f_law_bar : FD K mg "_law_bar" s_law_bar
  f_law_is_put : FD K mg "_law_is_put" s_law_is_put
  f_law_is_right : FD K mg "_law_is_right" s_law_is_right
  f_law_rows : FD K mg "_law_rows" s_law_rows
  f_law_bound_right : FD K mg "_law_bound_right" s_law_bound_right
  f_law_full_right : FD K mg "_law_full_right" s_law_full_right
  f_law_tried_right : FD K mg "_law_tried_right" s_law_tried_right
  f_law : FD K mg "law" s_law
  m_Outline_is_corner_stake : FMt K CG "is_corner_stake" "Outline.is_corner_stake" s_Outline_is_corner_stake
  m_Outline_side_span : FMt K CG "side_span" "Outline.side_span" s_Outline_side_span
  m_Grown_closed_below : FMt K CG "closed_below" "Grown.closed_below" s_Grown_closed_below
  m_Grown_shut_below : FMt K CG "shut_below" "Grown.shut_below" s_Grown_shut_below
  m_Grown_below : FMt K CG "below" "Grown.below" s_Grown_below
  m_LiveFarm_state_now : FMt K CF "state_now" "LiveFarm.state_now" s_LiveFarm_state_now
  m_LiveFarm_keep_call : FMt K CF "keep_call" "LiveFarm.keep_call" s_LiveFarm_keep_call
  m_LiveFarm_fence_there : FMt K CF "fence_there" "LiveFarm.fence_there" s_LiveFarm_fence_there
  m_LiveFarm_put_fence : FMt K CF "put_fence" "LiveFarm.put_fence" s_LiveFarm_put_fence
  m_LiveFarm_take_fence : FMt K CF "take_fence" "LiveFarm.take_fence" s_LiveFarm_take_fence
  m_LiveFarm_set_size : FMt K CF "set_size" "LiveFarm.set_size" s_LiveFarm_set_size
  m_LiveFarm_undo : FMt K CF "undo" "LiveFarm.undo" s_LiveFarm_undo
  m_LiveFarm_fork : FMt K CF "fork" "LiveFarm.fork" s_LiveFarm_fork
  m_LiveFarm_fence_named : FMt K CF "fence_named" "LiveFarm.fence_named" s_LiveFarm_fence_named
  m_LiveFarm_count_named : FMt K CF "count_named" "LiveFarm.count_named" s_LiveFarm_count_named
  p_LiveFarm_size : FPr K CF "size" "LiveFarm.size" s_LiveFarm_size
  p_LiveFarm_names : FPr K CF "names" "LiveFarm.names" s_LiveFarm_names
  p_LiveFarm_total : FPr K CF "total" "LiveFarm.total" s_LiveFarm_total
  p_LiveFarm_log : FPr K CF "log" "LiveFarm.log" s_LiveFarm_log
  m_LiveFarm_len : FMt K CF "__len__" "LiveFarm.__len__" s_LiveFarm_len
  k_LiveFarm : FCl K mg "LiveFarm" CF "LiveFarm.__init__" s_LiveFarm_init
  k_Grown : ∃ f f2 fd2 cda cc fd, Sup P K mg "Grown.__init__" s_Grown_init f CG f2 cda cc fd ∧ Fun K "__init__" "Outline.__init__" s_Outline_init f2 fd2 ∧ Mk K CG f ∧ mg "Grown" = some (.ref CG)
  c_MOST_AROUND : ∃ u, mg "MOST_AROUND" = some u ∧ RelV (.int 10) u
  c_MOST_FENCES : ∃ u, mg "MOST_FENCES" = some u ∧ RelV (.int 20) u
  c_MOST_LETTERS : ∃ u, mg "MOST_LETTERS" = some u ∧ RelV (.int 8) u
  c_MOST_PARTS : ∃ u, mg "MOST_PARTS" = some u ∧ RelV (.int 30) u
  c_MOST_PLACE : ∃ u, mg "MOST_PLACE" = some u ∧ RelV (.int 1000000000000000000000000000000) u
  c_MOST_SIZE : ∃ u, mg "MOST_SIZE" = some u ∧ RelV (.int 1000000000000000000000000000000) u
  g_low_height : ∃ f, mg "low_height" = some (.ref f)
  z_isinstance : mg "isinstance" = none
  z_len : mg "len" = none
  z_all : mg "all" = none
  z_sum : mg "sum" = none
  z_abs : mg "abs" = none
  z_repr : mg "repr" = none
  z_sorted : mg "sorted" = none
  z_max : mg "max" = none
  z_min : mg "min" = none
  z_int : mg "int" = none
  z_list : mg "list" = none
  z_str : mg "str" = none
  z_bool : mg "bool" = none
  z_tuple : mg "tuple" = none
  z_range : mg "range" = none
  z_enumerate : mg "enumerate" = none
  z_zip : mg "zip" = none
  cF : Cls K CF
  cG : Cls K CG
  noSuper : (P.main.scope.names.lookup ("super" : Str)).isSome = false
  n_own : NoAttr K CF "own_calls"
  n_bottom : NoAttr K CG "bottom"
  n_corners : NoAttr K CG "corners"
  n_shut : NoAttr K CG "shut"
  n_pairs : NoAttr K CG "pairs"
  n_lowest : NoAttr K CG "lowest"
  n_highest : NoAttr K CG "highest"
  n_rights : NoAttr K CG "rights"
  n_lefts : NoAttr K CG "lefts"
  n_whole : NoAttr K CG "whole"
  n_spans : NoAttr K CG "spans"
  g_Impossible : mg "Impossible" = some (.ref CI)
  x_I : PySem.W.excIn K CI [.type "ValueError", .type "Exception", .type "BaseException", .type "object"] "ValueError.__new__" = true
  k_I : PySem.W.keepIn K (.ref CI) = true
  b_I : PySem.W.subIn K (.ref CI) (.type "BaseException") = some true
  t_I : PySem.W.typeIn K (.ref CI) = some (.type "type")
  i_I : PySem.W.isClsIn K CI = true
  s_I : PySem.W.subIn K (.ref CI) (.ref CI) = some true
end Gf
namespace Gf
open PySem PySem.Spec PyProof.Rows L2

section
variable {P : Program} {w : World} {K : PySem.W.Frag} {mg : Str → Option Value} {base : Heap} {x m qual : Str} {st : Stmt} {N ps : List Str} {k : Nat} {sp : Sp} {C : Addr}
theorem FD.ok (F : FD K mg x st) (S : FnScope N ps (defScope st))
    (hb : ∀ (kV doc pm : Value) (an : Option Addr) (cdv ct : Value) (us : List Value), us.length = ps.length → bindArgs (PySem.W.fnOf x x (defArgs st) (defBody st) (defScope st) .none kV doc pm an cdv ct) ⟨us, []⟩ = pure (ps.zip us))
    (len : ∀ vs H Q E, sp vs H Q E → vs.length = ps.length)
    (hbody : ∀ (f : Addr) (cdv : Value) (A : Around) (outer : List Env) (s : Shared) (H : Hp) (vs : List V) (Q : VK) (E : XK), Room k (A.deeper (envOfC x (defScope st) s.heap.objs.size f cdv)) → sp vs H Q E →
      ∃ t, PSs (cxOf CX0 P w K mg base N x (defScope st) f cdv A outer s H E).nox (defBody st) t ∧ t { nx := fun _ H' => Q .non H', rt := Q } (L2.start N vs) H) : DG P w K mg base x (k + 1) ps sp := by
  obtain ⟨f, fd, G, hm⟩ := F.ex
  exact ⟨f, fd, G.ok S len (fun cdv A outer s H vs Q E hr h => hbody f cdv A outer s H vs Q E hr h), hm, G.kp, G.binds hb⟩
theorem FD.okG (F : FD K mg x st) (S : FnScope N ps (defScope st))
    (hb : ∀ (kV doc pm : Value) (an : Option Addr) (cdv ct : Value) (us : List Value), us.length = ps.length → bindArgs (PySem.W.fnOf x x (defArgs st) (defBody st) (defScope st) .none kV doc pm an cdv ct) ⟨us, []⟩ = pure (ps.zip us))
    (len : ∀ vs H Q E, sp vs H Q E → vs.length = ps.length)
    (hbody : ∀ (f : Addr) (cdv : Value) (A : Around) (outer : List Env) (s : Shared) (H : Hp) (vs : List V) (Q : VK) (E : XK), A.guards = some [] → Room k (A.deeper (envOfC x (defScope st) s.heap.objs.size f cdv)) → sp vs H Q E →
      ∃ t, PSs (cxOf CX0 P w K mg base N x (defScope st) f cdv A outer s H E).nox (defBody st) t ∧ t { nx := fun _ H' => Q .non H', rt := Q } (L2.start N vs) H) : DGg P w K mg base x (k + 1) ps sp := by
  obtain ⟨f, fd, G, hm⟩ := F.ex
  exact ⟨f, fd, Gf.okG G S len (fun cdv A outer s H vs Q E hg hr h => hbody f cdv A outer s H vs Q E hg hr h), hm, G.kp, G.binds hb⟩
theorem FMt.ok (F : FMt K C m qual st) (S : FnScope N ps (defScope st))
    (hb : ∀ (kV doc pm : Value) (an : Option Addr) (cdv ct : Value) (us : List Value), us.length = ps.length → bindArgs (PySem.W.fnOf m qual (defArgs st) (defBody st) (defScope st) .none kV doc pm an cdv ct) ⟨us, []⟩ = pure (ps.zip us))
    (len : ∀ vs H Q E, sp vs H Q E → vs.length = ps.length)
    (hbody : ∀ (f : Addr) (cdv : Value) (A : Around) (outer : List Env) (s : Shared) (H : Hp) (vs : List V) (Q : VK) (E : XK), Room k (A.deeper (envOfC qual (defScope st) s.heap.objs.size f cdv)) → sp vs H Q E →
      ∃ t, PSs (cxOf CX0 P w K mg base N qual (defScope st) f cdv A outer s H E).nox (defBody st) t ∧ t { nx := fun _ H' => Q .non H', rt := Q } (L2.start N vs) H) : DM P w K mg base C m (k + 1) ps sp := by
  obtain ⟨f, fd, G, hm⟩ := F.ex
  exact ⟨f, fd, G.ok S len (fun cdv A outer s H vs Q E hr h => hbody f cdv A outer s H vs Q E hr h), hm, G.binds hb⟩
theorem FPr.ok (F : FPr K C m qual st) (S : FnScope N ["self"] (defScope st))
    (hb : ∀ (kV doc pm : Value) (an : Option Addr) (cdv ct : Value) (us : List Value), us.length = 1 → bindArgs (PySem.W.fnOf m qual (defArgs st) (defBody st) (defScope st) .none kV doc pm an cdv ct) ⟨us, []⟩ = pure ((["self"] : List Str).zip us))
    (len : ∀ vs H Q E, sp vs H Q E → vs.length = 1)
    (hbody : ∀ (f : Addr) (cdv : Value) (A : Around) (outer : List Env) (s : Shared) (H : Hp) (vs : List V) (Q : VK) (E : XK), Room k (A.deeper (envOfC qual (defScope st) s.heap.objs.size f cdv)) → sp vs H Q E →
      ∃ t, PSs (cxOf CX0 P w K mg base N qual (defScope st) f cdv A outer s H E).nox (defBody st) t ∧ t { nx := fun _ H' => Q .non H', rt := Q } (L2.start N vs) H) : DP P w K mg base C m (k + 1) sp := by
  obtain ⟨p, f, fd, G, hm⟩ := F.ex
  exact ⟨p, f, fd, G.ok S len (fun cdv A outer s H vs Q E hr h => hbody f cdv A outer s H vs Q E hr h), hm, G.binds hb⟩
theorem FCl.ok (F : FCl K mg x C qual st) (S : FnScope N ps (defScope st))
    (hb : ∀ (kV doc pm : Value) (an : Option Addr) (cdv ct : Value) (us : List Value), us.length = ps.length → bindArgs (PySem.W.fnOf "__init__" qual (defArgs st) (defBody st) (defScope st) .none kV doc pm an cdv ct) ⟨us, []⟩ = pure (ps.zip us))
    (len : ∀ vs H Q E, sp vs H Q E → vs.length = ps.length)
    (hbody : ∀ (f : Addr) (cdv : Value) (A : Around) (outer : List Env) (s : Shared) (H : Hp) (vs : List V) (Q : VK) (E : XK), Room k (A.deeper (envOfC qual (defScope st) s.heap.objs.size f cdv)) → sp vs H Q E →
      ∃ t, PSs (cxOf CX0 P w K mg base N qual (defScope st) f cdv A outer s H E).nox (defBody st) t ∧ t { nx := fun _ H' => Q .non H', rt := Q } (L2.start N vs) H) : DC P w K mg base x C (k + 1) ps sp := by
  obtain ⟨f, fd, G, hm, hx⟩ := F.ex
  exact ⟨f, fd, G.ok S len (fun cdv A outer s H vs Q E hr h => hbody f cdv A outer s H vs Q E hr h), hm, hx, G.binds hb⟩
end
section
variable {X : Cx} {x : Str} {pos : Pos}
theorem pe_gc {v : V} (hg : Gl X x) (h : ∃ u, X.mg x = some u ∧ RelV v u) (hd : (x == ("__debug__" : Str)) = false := by decide) : PE X (.Name x pos) (fun _ H Q => Q v H) := by
  obtain ⟨u, hm, r⟩ := h
  exact pe_glob hg hm r hd
theorem pe_gf (hg : Gl X x) (h : ∃ f, X.mg x = some (.ref f)) (hd : (x == ("__debug__" : Str)) = false := by decide) : PE X (.Name x pos) (fun _ H Q => ∀ f : Addr, Q (.ref f) H) := by
  obtain ⟨f, hm⟩ := h
  refine ⟨fun pins s σ H Q I q => ?_⟩
  exact (pe_glob (v := .ref f) hg hm rfl hd).run pins s σ H Q I (q f)
end
/-! ### names -/
def nm (c n : Nat) : Str := ⟨(List.replicate n c).toArray⟩
def NameOk (x : Str) : Prop := ∃ c n : Nat, 97 ≤ c ∧ c ≤ 122 ∧ 1 ≤ n ∧ n ≤ 8 ∧ x = nm c n
def big : Int := 1000000000000000000000000000000
end Gf
namespace Gf
open PySem PySem.Spec PyProof.Rows L2

theorem iteD {c A B : Prop} [Decidable c] (hc : c) (h : A) : if decide c = true then A else B := by
  rw [decide_eq_true hc]; exact iteT h
theorem iteDn {c A B : Prop} [Decidable c] (hc : ¬ c) (h : B) : if decide c = true then A else B := by
  rw [decide_eq_false hc]; exact iteF h
theorem iteN {c A B : Prop} [Decidable c] (hc : c) (h : B) : if (!decide c) = true then A else B := iteNS hc h
theorem iteNn {c A B : Prop} [Decidable c] (hc : ¬ c) (h : A) : if (!decide c) = true then A else B := by
  rw [decide_eq_false hc]; exact iteT h

/-! ### a comprehension whose turns leave what is tracked -/
abbrev LcEnd (J : It) (g : TG) (tt : TT) (te : TE) (vs : List Nat) (σ : L2.St) (H1 : Hp) (D : Addr) (Qd : Hp → Prop) : Prop :=
  ∃ W : Nat → Nat → Hp → Prop, (∃ m, W 0 m (upd H1 D (.lst []))) ∧ ∀ i m H, W i m H →
      (J.stop i H ∧ Qd H) ∨ (J.go i H ∧ ∃ Nx : Hp → Prop, (∀ H', Nx H' → ∃ m', m' < m ∧ W (i + 1) m' H') ∧ ∀ x H', J.yld i H x H' → g x (wipe σ vs) H' fun σ2 H2 => wipe σ2 vs = wipe σ vs ∧ tt σ2 H2 fun b H3 =>
        if b = true then te σ2 H3 fun y H4 => ∃ acc, H4 D = some (.lst acc) ∧ acc.length < sizeLine ∧ Nx (upd H4 D (.lst (acc ++ [y]))) else Nx H3)
theorem lcQ {J : It} {g : TG} {tt : TT} {te : TE} {vs : List Nat} {σ : L2.St} {H1 : Hp} {D : Addr} {Qd : Hp → Prop} {n : Nat} (os : List (Option V)) (hD : H1 D = none) (hn : os.length = n) (hz : n ≤ 1000)
    (hgo : ∀ i H, i < n → Same H1 H → J.go i H) (hstop : ∀ H, Same H1 H → J.stop n H)
    (hs : ∀ i o x H H' (R : V → Hp → Prop) (R' : Hp → Prop), os[i]? = some o → Same H1 H → J.yld i H x H' → (∀ y H4, o = some y → Same H H4 → R y H4) → (∀ H4, o = none → Same H H4 → R' H4) →
      g x (wipe σ vs) H' fun σ2 H2 => wipe σ2 vs = wipe σ vs ∧ tt σ2 H2 fun b H3 => if b = true then te σ2 H3 R else R' H3)
    (hd : ∀ H, Same H1 H → H D = some (.lst (os.filterMap id)) → Qd H) : LcEnd J g tt te vs σ H1 D Qd := by
  have sL : (1000 : Nat) < sizeLine := by rw [sizeLine_eq]; decide
  have keepD : ∀ {H : Hp} {o : HO}, Same H1 H → Same H1 (upd H D o) := fun {H o} s b u e => by
    rw [upd_ne (ne_of_none e hD)]
    exact s b u e
  have acc : ∀ {i : Nat} {o : Option V}, os[i]? = some o → (os.take (i + 1)).filterMap id = (os.take i).filterMap id ++ (o.toList) := fun {i o} e => by
    rw [List.take_add_one, e, List.filterMap_append]
    cases o <;> rfl
  refine ⟨fun i m H => m = n - i ∧ i ≤ n ∧ Same H1 H ∧ H D = some (.lst ((os.take i).filterMap id)), ⟨n, rfl, Nat.zero_le _, keepD (Same.refl _), by rw [upd_same]; rfl⟩, ?_⟩
  rintro i m H ⟨rfl, hi, s, hDL⟩
  by_cases hlt : i < n
  · obtain ⟨o, ho⟩ : ∃ o, os[i]? = some o := ⟨_, List.getElem?_eq_getElem (by omega)⟩
    refine .inr ⟨hgo i H hlt s, fun H' => Same H1 H' ∧ H' D = some (.lst ((os.take (i + 1)).filterMap id)), fun H' p => ⟨n - (i + 1), by omega, rfl, hlt, p.1, p.2⟩, fun x H' y => ?_⟩
    refine hs i o x H H' _ _ ho s y (fun y H4 e s4 => ?_) (fun H4 e s4 => ?_)
    · refine ⟨_, s4 _ _ hDL, Nat.lt_of_le_of_lt ?_ sL, keepD (s.trans s4), ?_⟩
      · refine Nat.le_trans (List.length_filterMap_le ..) ?_
        rw [List.length_take]
        omega
      · rw [upd_same, acc ho, e]
        rfl
    · refine ⟨s.trans s4, ?_⟩
      rw [acc ho, e, Option.toList_none, List.append_nil]
      exact s4 _ _ hDL
  · have e : i = n := by omega
    subst e
    refine .inl ⟨hstop H s, hd H s ?_⟩
    rw [hDL, List.take_of_length_le (by omega)]
theorem fm_some (ys : List V) : (ys.map some).filterMap id = ys := by
  induction ys with
  | nil => rfl
  | cons y ys ih => rw [List.map_cons, List.filterMap_cons]; simp [ih]
theorem lcP {J : It} {g : TG} {te : TE} {vs : List Nat} {σ : L2.St} {H1 : Hp} {D : Addr} {Qd : Hp → Prop} {n : Nat} (ys : List V) (hD : H1 D = none) (hn : ys.length = n) (hz : n ≤ 1000)
    (hgo : ∀ i H, i < n → Same H1 H → J.go i H) (hstop : ∀ H, Same H1 H → J.stop n H)
    (hs : ∀ i y x H H' (R : V → Hp → Prop), ys[i]? = some y → Same H1 H → J.yld i H x H' → (∀ H4, Same H H4 → R y H4) → g x (wipe σ vs) H' fun σ2 H2 => wipe σ2 vs = wipe σ vs ∧ te σ2 H2 R)
    (hd : ∀ H, Same H1 H → H D = some (.lst ys) → Qd H) : LcEnd J g tYes te vs σ H1 D Qd := by
  refine lcQ (ys.map some) hD (by rw [List.length_map]; exact hn) hz hgo hstop (fun i o x H H' R R' ho s y k1 k2 => ?_) (fun H s h => hd H s (by rw [h, fm_some]))
  rw [List.getElem?_map] at ho
  cases e : ys[i]? with
  | none => rw [e] at ho; cases ho
  | some z =>
    rw [e] at ho
    cases ho
    have q := hs i z x H H' R e s y fun H4 s4 => k1 z H4 rfl s4
    have f : (fun (σ2 : L2.St) (H2 : Hp) => wipe σ2 vs = wipe σ vs ∧ tYes σ2 H2 fun b H3 => if b = true then te σ2 H3 R else R' H3) = fun σ2 H2 => wipe σ2 vs = wipe σ vs ∧ te σ2 H2 R := by
      funext σ2 H2
      show (wipe σ2 vs = wipe σ vs ∧ if true = true then te σ2 H2 R else R' H2) = _
      rw [if_pos rfl]
    rw [f]
    exact q
/-- over a list -/
theorem lcL {K : PySem.W.Frag} {a : Addr} {xs : List V} {g : TG} {te : TE} {vs : List Nat} {σ : L2.St} {H1 : Hp} {D : Addr} {Qd : Hp → Prop} (ys : List V) (hD : H1 D = none) (ha : H1 a = some (.lst xs)) (hn : ys.length = xs.length) (hz : xs.length ≤ 1000)
    (hs : ∀ (i : Nat) (y x : V) (H : Hp) (R : V → Hp → Prop), xs[i]? = some x → ys[i]? = some y → Same H1 H → (∀ H4, Same H H4 → R y H4) → g x (wipe σ vs) H fun σ2 H2 => wipe σ2 vs = wipe σ vs ∧ te σ2 H2 R)
    (hd : ∀ H, Same H1 H → H D = some (.lst ys) → Qd H) : LcEnd (Itl K a) g tYes te vs σ H1 D Qd :=
  lcP ys hD hn hz (fun i H hi s => ⟨xs, xs[i], .of (s _ _ ha), by simp [hi]⟩) (fun H s => ⟨xs, .of (s _ _ ha), Nat.le_refl _⟩)
    (fun i y x H H' R hy s q k => by
      obtain ⟨e, q⟩ := q
      subst e
      exact hs i y x _ R (q xs (.of (s _ _ ha))) hy s k) hd
/-- over a tuple -/
theorem lcT {K : PySem.W.Frag} {a : Addr} {xs : List V} {g : TG} {te : TE} {vs : List Nat} {σ : L2.St} {H1 : Hp} {D : Addr} {Qd : Hp → Prop} (ys : List V) (hD : H1 D = none) (ha : H1 a = some (.tup xs)) (hn : ys.length = xs.length) (hz : xs.length ≤ 1000)
    (hs : ∀ (i : Nat) (y x : V) (H : Hp) (R : V → Hp → Prop), xs[i]? = some x → ys[i]? = some y → Same H1 H → (∀ H4, Same H H4 → R y H4) → g x (wipe σ vs) H fun σ2 H2 => wipe σ2 vs = wipe σ vs ∧ te σ2 H2 R)
    (hd : ∀ H, Same H1 H → H D = some (.lst ys) → Qd H) : LcEnd (Itt K a) g tYes te vs σ H1 D Qd :=
  lcP ys hD hn hz (fun i H hi s => ⟨xs, xs[i], .of (s _ _ ha), by simp [hi]⟩) (fun H s => ⟨xs, .of (s _ _ ha), Nat.le_refl _⟩)
    (fun i y x H H' R hy s q k => by
      obtain ⟨e, q⟩ := q
      subst e
      exact hs i y x _ R (q xs (.of (s _ _ ha))) hy s k) hd
/-- over a text -/
theorem lcS {z : Str} {g : TG} {te : TE} {vs : List Nat} {σ : L2.St} {H1 : Hp} {D : Addr} {Qd : Hp → Prop} (ys : List V) (hD : H1 D = none) (hn : ys.length = z.cps.size) (hz : z.cps.size ≤ 1000)
    (hs : ∀ (i : Nat) (y : V) (c : Nat) (H : Hp) (R : V → Hp → Prop), z.cps[i]? = some c → ys[i]? = some y → Same H1 H → (∀ H4, Same H H4 → R y H4) → g (.str ⟨#[c]⟩) (wipe σ vs) H fun σ2 H2 => wipe σ2 vs = wipe σ vs ∧ te σ2 H2 R)
    (hd : ∀ H, Same H1 H → H D = some (.lst ys) → Qd H) : LcEnd (Its z) g tYes te vs σ H1 D Qd :=
  lcP ys hD hn hz (fun i H hi s => hi) (fun H s => Nat.le_refl _)
    (fun i y x H H' R hy s q k => by
      obtain ⟨e, c, hc, ex⟩ := q
      subst e
      subst ex
      exact hs i y c _ R hc hy s k) hd
/-- nothing is walked -/
theorem lcNil {J : It} {g : TG} {tt : TT} {te : TE} {vs : List Nat} {σ : L2.St} {H1 : Hp} {D : Addr} {Qd : Hp → Prop} (hD : H1 D = none) (hstop : ∀ H, Same H1 H → J.stop 0 H) (hd : ∀ H, Same H1 H → H D = some (.lst []) → Qd H) : LcEnd J g tt te vs σ H1 D Qd :=
  lcQ (n := 0) [] hD rfl (Nat.zero_le _) (fun i H hi => absurd hi (Nat.not_lt_zero _)) hstop (fun i o x H H' R R' ho => by simp at ho) hd
/-- a comprehension that makes things: what is true of the i-th -/
theorem lcR {J : It} {g : TG} {te : TE} {vs : List Nat} {σ : L2.St} {H1 : Hp} {D : Addr} {Qd : Hp → Prop} {n : Nat} (Rel : Hp → Nat → V → Prop) (hst : ∀ (H H' : Hp) (i : Nat) (y : V), (∃ l, H D = some (.lst l)) → (∀ b o, b ≠ D → H b = some o → H' b = some o) → Rel H i y → Rel H' i y) (hD : H1 D = none) (hz : n ≤ 1000)
    (hgo : ∀ i H, i < n → Same H1 H → J.go i H) (hstop : ∀ H, Same H1 H → J.stop n H)
    (hs : ∀ (i : Nat) (x : V) (H H' : Hp) (R : V → Hp → Prop), i < n → Same H1 H → (∃ l, H D = some (.lst l)) → J.yld i H x H' → (∀ y H4, Same H H4 → Rel H4 i y → R y H4) → g x (wipe σ vs) H' fun σ2 H2 => wipe σ2 vs = wipe σ vs ∧ te σ2 H2 R)
    (hd : ∀ (H : Hp) (ys : List V), Same H1 H → H D = some (.lst ys) → ys.length = n → (∀ (i : Nat) (y : V), ys[i]? = some y → Rel H i y) → Qd H) : LcEnd J g tYes te vs σ H1 D Qd := by
  have sL : (1000 : Nat) < sizeLine := by rw [sizeLine_eq]; decide
  have keepD : ∀ {H : Hp} {o : HO}, Same H1 H → Same H1 (upd H D o) := fun {H o} s b u e => by
    rw [upd_ne (ne_of_none e hD)]
    exact s b u e
  refine ⟨fun i m H => m = n - i ∧ i ≤ n ∧ Same H1 H ∧ ∃ ys : List V, H D = some (.lst ys) ∧ ys.length = i ∧ ∀ (j : Nat) (y : V), ys[j]? = some y → Rel H j y, ⟨n, rfl, Nat.zero_le _, keepD (Same.refl _), [], upd_same, rfl, fun j y e => by simp at e⟩, ?_⟩
  rintro i m H ⟨rfl, hi, s, ys, hDL, hl, hr⟩
  by_cases hlt : i < n
  · refine .inr ⟨hgo i _ hlt s, fun H' => Same H1 H' ∧ ∃ ys : List V, H' D = some (.lst ys) ∧ ys.length = i + 1 ∧ ∀ (j : Nat) (y : V), ys[j]? = some y → Rel H' j y, fun H' p => ⟨n - (i + 1), by omega, rfl, hlt, p⟩, fun x H' yl => ?_⟩
    have f : ∀ (A : V → Hp → Prop) (B : Hp → Prop), (fun (σ2 : L2.St) (H2 : Hp) => wipe σ2 vs = wipe σ vs ∧ tYes σ2 H2 fun b H3 => if b = true then te σ2 H3 A else B H3) = fun σ2 H2 => wipe σ2 vs = wipe σ vs ∧ te σ2 H2 A := by
      intro A B
      funext σ2 H2
      show (wipe σ2 vs = wipe σ vs ∧ if true = true then te σ2 H2 A else B H2) = _
      rw [if_pos rfl]
    rw [f]
    refine hs i x _ H' _ hlt s ⟨_, hDL⟩ yl fun y H4 s4 ry => ?_
    have hD4 : H4 D = some (.lst ys) := s4 _ _ hDL
    have k4 : ∀ b o, b ≠ D → H4 b = some o → upd H4 D (.lst (ys ++ [y])) b = some o := fun b o n e => by rw [upd_ne n]; exact e
    refine ⟨ys, hD4, Nat.lt_of_le_of_lt (by omega) sL, keepD (s.trans s4), ys ++ [y], upd_same, by rw [List.length_append, hl]; rfl, fun j y' e => ?_⟩
    by_cases hj : j < ys.length
    · rw [List.getElem?_append_left hj] at e
      exact hst _ _ j y' ⟨_, hD4⟩ k4 (hst _ _ j y' ⟨_, hDL⟩ (fun b o _ e => s4 b o e) (hr j y' e))
    · rw [List.getElem?_append_right (by omega)] at e
      have ej : j = i := by
        by_cases q : j - ys.length = 0
        · omega
        · rw [List.getElem?_eq_none (by simp; omega)] at e
          cases e
      subst ej
      rw [hl, Nat.sub_self] at e
      cases e
      exact hst _ _ _ y ⟨_, hD4⟩ k4 ry
  · have e : i = n := by omega
    subst e
    exact .inl ⟨hstop _ s, hd _ ys s hDL hl hr⟩
theorem lcRL {K : PySem.W.Frag} {a : Addr} {xs : List V} {g : TG} {te : TE} {vs : List Nat} {σ : L2.St} {H1 : Hp} {D : Addr} {Qd : Hp → Prop} (Rel : Hp → Nat → V → Prop) (hst : ∀ (H H' : Hp) (i : Nat) (y : V), (∃ l, H D = some (.lst l)) → (∀ b o, b ≠ D → H b = some o → H' b = some o) → Rel H i y → Rel H' i y) (hD : H1 D = none) (ha : H1 a = some (.lst xs)) (hz : xs.length ≤ 1000)
    (hs : ∀ (i : Nat) (x : V) (H : Hp) (R : V → Hp → Prop), xs[i]? = some x → Same H1 H → (∃ l, H D = some (.lst l)) → (∀ y H4, Same H H4 → Rel H4 i y → R y H4) → g x (wipe σ vs) H fun σ2 H2 => wipe σ2 vs = wipe σ vs ∧ te σ2 H2 R)
    (hd : ∀ (H : Hp) (ys : List V), Same H1 H → H D = some (.lst ys) → ys.length = xs.length → (∀ (i : Nat) (y : V), ys[i]? = some y → Rel H i y) → Qd H) : LcEnd (Itl K a) g tYes te vs σ H1 D Qd :=
  lcR Rel hst hD hz (fun i H hi s => ⟨xs, xs[i], .of (s _ _ ha), by simp [hi]⟩) (fun H s => ⟨xs, .of (s _ _ ha), Nat.le_refl _⟩)
    (fun i x H H' R hi s hl q k => by
      obtain ⟨e, q⟩ := q
      subst e
      exact hs i x _ R (q xs (.of (s _ _ ha))) s hl k) hd
end Gf
namespace Gf
open PySem PySem.Spec PyProof.Rows L2
section
variable {P : Program} {w : World} {K : PySem.W.Frag} {mg : Str → Option Value} {base : Heap} {CF CG CI : Addr}

/-! ### values.py -/
def sp_is_integer : Sp := fun vs H Q _ => ∃ i : Int, vs = [.int i] ∧ Q (.bl true) H
theorem d_is_integer (T : Txt P K mg CF CG CI) : DG P w K mg base "is_integer" 1 ["value"] sp_is_integer := by
  refine T.f_is_integer.ok sc_is_integer (fun _ _ _ _ _ _ us hl => match us, hl with | [_], _ => rfl) ?_ (fun f cdv A outer s H vs Q E hr h => ?_)
  · rintro vs H Q E ⟨i, rfl, _⟩; rfl
  · obtain ⟨i, rfl, k⟩ := h
    refine ⟨_, (pss_one (ps_ret (pe_and (pe_callB call_isi (by rfl) T.z_isinstance (by decide +kernel) (pa_cons (pv 0) (pa_cons (pe_bltn (v := .ty "int") (by rfl) T.z_int (by decide +kernel) rfl) pa_nil))) (pe_one (pe_not (pe_callB call_isi (by rfl) T.z_isinstance (by decide +kernel) (pa_cons (pv 0) (pa_cons (pe_bltn (v := .ty "bool") (by rfl) T.z_bool (by decide +kernel) rfl) pa_nil)))))))), ?_⟩
    refine ⟨_, rfl, _, _, _, _, true, rfl, .ty "int", .base (.int i), kit_ty (by decide +kernel), true, rfl, iteT ?_⟩
    refine ⟨_, rfl, _, _, _, _, false, rfl, .ty "bool", .base (.int i), kit_ty (by decide +kernel), false, rfl, ?_⟩
    exact k
def sp_is_between : Sp := fun vs H Q _ => ∃ v lo hi : Int, vs = [.int v, .int lo, .int hi] ∧ Q (.bl (decide (lo ≤ v) && decide (v ≤ hi))) H
theorem d_is_between (T : Txt P K mg CF CG CI) : DG P w K mg base "is_between" 2 ["value", "least", "most"] sp_is_between := by
  refine T.f_is_between.ok sc_is_between (fun _ _ _ _ _ _ us hl => match us, hl with | [_, _, _], _ => rfl) ?_ (fun f cdv A outer s H vs Q E hr h => ?_)
  · rintro vs H Q E ⟨v, lo, hi, rfl, _⟩; rfl
  · obtain ⟨v, lo, hi, rfl, k⟩ := h
    refine ⟨_, (pss_one (ps_ret (pe_and (pe_g (d_is_integer T) hr (by rfl) (pa_cons (pv 0) pa_nil)) (pe_one (pe_chain op_le op_le (pv 1) (pv 0) (pv 2)))))), ?_⟩
    refine ⟨_, rfl, v, rfl, true, rfl, iteT ?_⟩
    refine ⟨_, rfl, _, rfl, lo, v, rfl, rfl, _, rfl, ?_⟩
    by_cases h1 : lo ≤ v
    · rw [decide_eq_true h1] at k ⊢
      exact iteT ⟨_, rfl, v, hi, rfl, rfl, k⟩
    · rw [decide_eq_false h1] at k ⊢
      exact iteF k
def sp_are_integers : Sp := fun vs H Q _ => ∃ (a : Addr) (x y : Int), vs = [.ref a, .int 2] ∧ H a = some (.tup [.int x, .int y]) ∧ ∀ H', Same H H' → Q (.bl true) H'
theorem d_are_integers (T : Txt P K mg CF CG CI) : DG P w K mg base "are_integers" 2 ["value", "many"] sp_are_integers := by
  refine T.f_are_integers.ok sc_are_integers (fun _ _ _ _ _ _ us hl => match us, hl with | [_, _], _ => rfl) ?_ (fun f cdv A outer s H vs Q E hr h => ?_)
  · rintro vs H Q E ⟨a, x, y, rfl, _⟩; rfl
  · obtain ⟨a, x, y, rfl, ha, k⟩ := h
    refine ⟨_, (pss_one (ps_ret (pe_and (pe_callB call_isi (by rfl) T.z_isinstance (by decide +kernel) (pa_cons (pv 0) (pa_cons (pe_bltn (v := .ty "tuple") (by rfl) T.z_tuple (by decide +kernel) rfl) pa_nil))) (pe_and (pe_cmpR op_eq (pe_callB call_len_seq (by rfl) T.z_len (by decide +kernel) (pa_cons (pv 0) pa_nil)) (pv 1) (nomark _)) (pe_one (pe_callB (cr_all rfl) (by rfl) T.z_all (by decide +kernel) (pa_cons (pe_lc (own := [("item", 2)]) (g := (gName 2)) rfl sc_are_integers.nd (pi_tup (pv 0)) (blkOk_by (own := [("item", 2)]) (N := N_are_integers) (sc := defScope s_are_integers) (by decide +kernel)) (fun _ _ _ _ _ => by exact (pg_name (i := 2) sc_are_integers.nd rfl (Or.inl rfl))) (fun _ _ _ _ _ => by exact pts_nil) (fun _ _ _ _ _ => by exact (pe_g (d_is_integer T) hr (by rfl) (pa_cons (pv 2) pa_nil)))) pa_nil))))))), ?_⟩
    refine ⟨_, rfl, _, _, _, _, true, rfl, .ty "tuple", .base (.tup ha), kit_ty (by decide +kernel), true, rfl, iteT ?_⟩
    refine ⟨_, rfl, a, _, rfl, .inr (SqT.of ha), _, rfl, rfl, _, rfl, iteD rfl ?_⟩
    refine ⟨_, rfl, a, rfl, ⟨_, SqT.of ha⟩, fun D hD => lcT (xs := [.int x, .int y]) [.bl true, .bl true] hD ha rfl (by show 2 ≤ 1000; decide) (fun i y' x' H' R hx hy s k => ?_) fun H' s' hD' => ?_⟩
    · refine ⟨rfl, _, rfl, ?_⟩
      match i, hx, hy with
      | 0, hx, hy => cases hx; cases hy; exact ⟨_, rfl, k _ (Same.refl _)⟩
      | 1, hx, hy => cases hx; cases hy; exact ⟨_, rfl, k _ (Same.refl _)⟩
      | i + 2, hx, hy => cases hx
    · exact ⟨D, [true, true], rfl, SqL.of hD', k _ s'⟩
def sp_common_divisor : Sp := fun vs H Q _ => ∃ S : Int, vs = [.int S, .int 0] ∧ 0 ≤ S ∧ Q (.int S) H
theorem d_common_divisor (T : Txt P K mg CF CG CI) : DG P w K mg base "common_divisor" 1 ["one", "other"] sp_common_divisor := by
  refine T.f_common_divisor.ok sc_common_divisor (fun _ _ _ _ _ _ us hl => match us, hl with | [_, _], _ => rfl) ?_ (fun f cdv A outer s H vs Q E hr h => ?_)
  · rintro vs H Q E ⟨S, rfl, _⟩; rfl
  · obtain ⟨S, rfl, h0, k⟩ := h
    refine ⟨_, (pss_cons (ps_par (i := 0) (j := 1) (by rfl) sc_common_divisor.nd rfl rfl (by decide) rfl rfl (pa_cons (pe_callB call_abs (by rfl) T.z_abs (by decide +kernel) (pa_cons (pv 0) pa_nil)) (pa_cons (pe_callB call_abs (by rfl) T.z_abs (by decide +kernel) (pa_cons (pv 1) pa_nil)) pa_nil)) (by rfl))
      (pss_cons (ps_while PassesOwn.never (pt_cmpR op_gt (pv 1) pe_int (nomark _)) (pss_one (ps_par (i := 0) (j := 1) (by rfl) sc_common_divisor.nd rfl rfl (by decide) rfl rfl (pa_cons (pv 1) (pa_cons (pe_op op_mod (pv 0) (pv 1)) pa_nil)) (by rfl))))
      (pss_one (ps_ret (pv 0))))), ?_⟩
    refine ⟨_, rfl, S, rfl, _, rfl, 0, rfl, _, _, rfl, ?_⟩
    refine ⟨fun _ σ H' => σ = [some (.int S), some (.int 0)] ∧ H' = H, ⟨0, ?_, rfl⟩, ?_⟩
    · rw [if_neg (by omega)]; rfl
    · rintro m σ H' ⟨rfl, rfl⟩
      refine ⟨_, rfl, 0, 0, rfl, rfl, _, rfl, iteDn (by decide) ?_⟩
      exact ⟨_, rfl, k⟩
def sp_is_place : Sp := fun vs H Q _ => ∃ (a : Addr) (x y : Int), vs = [.ref a] ∧ H a = some (.tup [.int x, .int y]) ∧ 0 ≤ x ∧ x ≤ big ∧ 0 ≤ y ∧ y ≤ big ∧ ∀ H', Same H H' → Q (.bl true) H'
theorem d_is_place (T : Txt P K mg CF CG CI) : DG P w K mg base "is_place" 3 ["value"] sp_is_place := by
  refine T.f_is_place.ok sc_is_place (fun _ _ _ _ _ _ us hl => match us, hl with | [_], _ => rfl) ?_ (fun f cdv A outer s H vs Q E hr h => ?_)
  · rintro vs H Q E ⟨a, x, y, rfl, _⟩; rfl
  · obtain ⟨a, x, y, rfl, ha, x0, x1, y0, y1, k⟩ := h
    refine ⟨_, (pss_one (ps_ret (pe_and (pe_g (d_are_integers T) hr (by rfl) (pa_cons (pv 0) (pa_cons pe_int pa_nil))) (pe_one (pe_callB (cr_all rfl) (by rfl) T.z_all (by decide +kernel) (pa_cons (pe_lc (own := [("item", 1)]) (g := (gName 1)) rfl sc_is_place.nd (pi_tup (pv 0)) (blkOk_by (own := [("item", 1)]) (N := N_is_place) (sc := defScope s_is_place) (by decide +kernel)) (fun _ _ _ _ _ => by exact (pg_name (i := 1) sc_is_place.nd rfl (Or.inl rfl))) (fun _ _ _ _ _ => by exact pts_nil) (fun _ _ _ _ _ => by exact (pe_cmpR op_le (pe_callB call_abs (by rfl) T.z_abs (by decide +kernel) (pa_cons (pv 1) pa_nil)) (pe_gc rfl T.c_MOST_PLACE) (nomark _)))) pa_nil)))))), ?_⟩
    refine ⟨_, rfl, a, x, y, rfl, ha, fun H1 s1 => ⟨true, rfl, iteT ?_⟩⟩
    have ha1 := s1 _ _ ha
    refine ⟨_, rfl, a, rfl, ⟨_, SqT.of ha1⟩, fun D hD => lcT (xs := [.int x, .int y]) [.bl true, .bl true] hD ha1 rfl (by show 2 ≤ 1000; decide) (fun i y' x' H' R hx hy s k => ?_) fun H' s' hD' => ?_⟩
    · refine ⟨rfl, _, rfl, ?_⟩
      have one : ∀ z : Int, 0 ≤ z → z ≤ big → decide ((if z < 0 then -z else z) ≤ big) = true := fun z h0 h1 => by rw [if_neg (by omega)]; exact decide_eq_true h1
      match i, hx, hy with
      | 0, hx, hy =>
        cases hx; cases hy
        refine ⟨_, rfl, _, big, rfl, rfl, ?_⟩
        show R (.bl (decide ((if x < 0 then -x else x) ≤ big))) H'
        rw [one x x0 x1]
        exact k _ (Same.refl _)
      | 1, hx, hy =>
        cases hx; cases hy
        refine ⟨_, rfl, _, big, rfl, rfl, ?_⟩
        show R (.bl (decide ((if y < 0 then -y else y) ≤ big))) H'
        rw [one y y0 y1]
        exact k _ (Same.refl _)
      | i + 2, hx, hy => cases hx
    · exact ⟨D, [true, true], rfl, SqL.of hD', k _ (s1.trans s')⟩
def sp_are_corners : Sp := fun vs H Q _ => ∃ (c : Addr) (S : Int), vs = [.ref c] ∧ CornersAt H c S ∧ S ≤ big ∧ ∀ H', Same H H' → Q (.bl true) H'
theorem d_are_corners (T : Txt P K mg CF CG CI) : DG P w K mg base "are_corners" 4 ["value"] sp_are_corners := by
  refine T.f_are_corners.ok sc_are_corners (fun _ _ _ _ _ _ us hl => match us, hl with | [_], _ => rfl) ?_ (fun f cdv A outer s H vs Q E hr h => ?_)
  · rintro vs H Q E ⟨a, S, rfl, _⟩; rfl
  · obtain ⟨c, S, rfl, hc, hS, k⟩ := h
    refine ⟨_, (pss_cons (ps_if (PW.pt (pw_or (pt_not (pt_val (pe_callB call_isi (by rfl) T.z_isinstance (by decide +kernel) (pa_cons (pv 0) (pa_cons (pe_bltn (v := .ty "list") (by rfl) T.z_list (by decide +kernel) rfl) pa_nil))))) (pw_or (pt_not (pt_chain op_le op_le pe_int (pe_callB call_len_seq (by rfl) T.z_len (by decide +kernel) (pa_cons (pv 0) pa_nil)) (pe_gc rfl T.c_MOST_AROUND))) (pw_or1 (pt_not (pt_val (pe_callB (cr_all rfl) (by rfl) T.z_all (by decide +kernel) (pa_cons (pe_lc (own := [("item", 1)]) (g := (gName 1)) rfl sc_are_corners.nd (pi_list (pv 0)) (blkOk_by (own := [("item", 1)]) (N := N_are_corners) (sc := defScope s_are_corners) (by decide +kernel)) (fun _ _ _ _ _ => by exact (pg_name (i := 1) sc_are_corners.nd rfl (Or.inl rfl))) (fun _ _ _ _ _ => by exact pts_nil) (fun _ _ _ _ _ => by exact (pe_g (d_is_place T) hr (by rfl) (pa_cons (pv 1) pa_nil)))) pa_nil)))))))) (pss_one (ps_ret pe_bl)) pss_nil)
      (pss_cons (ps_if (pt_cmpR op_lt (pe_callB call_len_seq (by rfl) T.z_len (by decide +kernel) (pa_cons (pv 0) pa_nil)) pe_int (nomark _)) (pss_one (ps_ret (pe_or (pe_cmpR op_eq (pe_callB call_len_seq (by rfl) T.z_len (by decide +kernel) (pa_cons (pv 0) pa_nil)) pe_int (nomark _)) (pe_one (pe_cmpR (op_ltT hr.units0) (pe_ix (r := rIxL K) ix_list (pv 0) pe_int (fun _ _ => rfl)) (pe_ix (r := rIxL K) ix_list (pv 0) pe_int (fun _ _ => rfl)) (nomark _)))))) pss_nil)
      (pss_one (ps_ret pe_no)))), ?_⟩
    have b0 : (0 : Int) ≤ big := by decide
    rcases hc with ⟨h0, p, q, h1, h2, h3⟩ | ⟨h0, p, h1, h2⟩
    · refine ⟨_, rfl, _, _, _, _, true, rfl, .ty "list", .base (.lst h1), kit_ty (by decide +kernel), true, rfl, iteF ?_⟩
      refine ⟨_, rfl, c, _, rfl, .inl (SqL.of h1), _, _, rfl, rfl, _, rfl, iteD (by simp) ?_⟩
      refine ⟨_, _, rfl, rfl, _, rfl, iteNS (by simp) ?_⟩
      refine ⟨_, rfl, c, rfl, ⟨_, SqL.of h1⟩, fun D hD => lcL (xs := [p, q].map V.ref) [.bl true, .bl true] hD h1 rfl (by show 2 ≤ 1000; decide) (fun i y' x' H' R hx hy s k => ?_) fun H' s' hD' => ?_⟩
      · refine ⟨rfl, _, rfl, ?_⟩
        match i, hx, hy with
        | 0, hx, hy => cases hx; cases hy; exact ⟨p, 0, 0, rfl, s _ _ h2, by decide, b0, by decide, b0, fun H4 s4 => k _ s4⟩
        | 1, hx, hy => cases hx; cases hy; exact ⟨q, S, 0, rfl, s _ _ h3, by omega, hS, by decide, b0, fun H4 s4 => k _ s4⟩
        | i + 2, hx, hy => cases hx
      · refine ⟨D, [true, true], rfl, SqL.of hD', true, rfl, iteF ?_⟩
        refine ⟨_, rfl, c, _, rfl, .inl (SqL.of (s' _ _ h1)), _, _, rfl, rfl, _, rfl, iteD (by simp) ?_⟩
        refine ⟨_, rfl, c, _, rfl, .inl (SqL.of (s' _ _ h1)), rfl, _, rfl, iteDn (by simp) ?_⟩
        refine ⟨_, rfl, c, _, 0, _, rfl, rfl, SqL.of (s' _ _ h1), atI_nat (j := 0) rfl, _, rfl, c, _, 1, _, rfl, rfl, SqL.of (s' _ _ h1), atI_nat (j := 1) rfl, p, q, [0, 0], [S, 0], rfl, rfl, SqT.of (s' _ _ h2), SqT.of (s' _ _ h3), ?_⟩
        have e : HT.lexLt [0, 0] [S, 0] = true := by
          show (if (0 : Int) = S then _ else decide ((0 : Int) < S)) = true
          rw [if_neg (by omega)]
          exact decide_eq_true h0
        rw [e]
        exact k _ s'
    · refine ⟨_, rfl, _, _, _, _, true, rfl, .ty "list", .base (.lst h1), kit_ty (by decide +kernel), true, rfl, iteF ?_⟩
      refine ⟨_, rfl, c, _, rfl, .inl (SqL.of h1), _, _, rfl, rfl, _, rfl, iteD (by simp) ?_⟩
      refine ⟨_, _, rfl, rfl, _, rfl, iteNS (by simp) ?_⟩
      refine ⟨_, rfl, c, rfl, ⟨_, SqL.of h1⟩, fun D hD => lcL (xs := [p].map V.ref) [.bl true] hD h1 rfl (by show 1 ≤ 1000; decide) (fun i y' x' H' R hx hy s k => ?_) fun H' s' hD' => ?_⟩
      · refine ⟨rfl, _, rfl, ?_⟩
        match i, hx, hy with
        | 0, hx, hy => cases hx; cases hy; exact ⟨p, 0, 0, rfl, s _ _ h2, by decide, b0, by decide, b0, fun H4 s4 => k _ s4⟩
        | i + 1, hx, hy => cases hx
      · refine ⟨D, [true], rfl, SqL.of hD', true, rfl, iteF ?_⟩
        refine ⟨_, rfl, c, _, rfl, .inl (SqL.of (s' _ _ h1)), _, _, rfl, rfl, _, rfl, iteD (by simp) ?_⟩
        refine ⟨_, rfl, c, _, rfl, .inl (SqL.of (s' _ _ h1)), rfl, _, rfl, iteD (by simp) ?_⟩
        exact k _ s'
def sp_sides_of : Sp := fun vs H Q _ => ∃ (c : Addr) (S : Int), vs = [.ref c] ∧ CornersAt H c S ∧ ∀ n : Int, Q (.int n) H
theorem d_sides_of (T : Txt P K mg CF CG CI) : DG P w K mg base "sides_of" 1 ["corners"] sp_sides_of := by
  refine T.f_sides_of.ok sc_sides_of (fun _ _ _ _ _ _ us hl => match us, hl with | [_], _ => rfl) ?_ (fun f cdv A outer s H vs Q E hr h => ?_)
  · rintro vs H Q E ⟨a, S, rfl, _⟩; rfl
  · obtain ⟨c, S, rfl, hc, k⟩ := h
    refine ⟨_, (pss_one (ps_ret (pe_ifExp (pt_cmpR op_gt (pe_callB call_len_seq (by rfl) T.z_len (by decide +kernel) (pa_cons (pv 0) pa_nil)) pe_int (nomark _)) (pe_callB call_len_seq (by rfl) T.z_len (by decide +kernel) (pa_cons (pv 0) pa_nil)) pe_int))), ?_⟩
    rcases hc with ⟨h0, p, q, h1, h2, h3⟩ | ⟨h0, p, h1, h2⟩
    · refine ⟨_, rfl, c, _, rfl, .inl (SqL.of h1), _, _, rfl, rfl, _, rfl, iteD (by simp) ?_⟩
      exact ⟨_, rfl, c, _, rfl, .inl (SqL.of h1), k _⟩
    · refine ⟨_, rfl, c, _, rfl, .inl (SqL.of h1), _, _, rfl, rfl, _, rfl, iteDn (by simp) ?_⟩
      exact k _
def sp_are_sides : Sp := fun vs H Q _ => ∃ (z : Addr) (n : Int), vs = [.ref z, .int n] ∧ H z = some (.lst []) ∧ ∀ H', Same H H' → Q (.bl true) H'
theorem d_are_sides (T : Txt P K mg CF CG CI) : DG P w K mg base "are_sides" 1 ["value", "many"] sp_are_sides := by
  refine T.f_are_sides.ok sc_are_sides (fun _ _ _ _ _ _ us hl => match us, hl with | [_, _], _ => rfl) ?_ (fun f cdv A outer s H vs Q E hr h => ?_)
  · rintro vs H Q E ⟨a, n, rfl, _⟩; rfl
  · obtain ⟨z, n, rfl, hz, k⟩ := h
    refine ⟨_, (pss_cons (ps_if (PW.pt (pw_or (pt_not (pt_val (pe_callB call_isi (by rfl) T.z_isinstance (by decide +kernel) (pa_cons (pv 0) (pa_cons (pe_bltn (v := .ty "list") (by rfl) T.z_list (by decide +kernel) rfl) pa_nil))))) (pw_or1 (pt_not (pt_val (pe_callB (cr_all rfl) (by rfl) T.z_all (by decide +kernel) (pa_cons (pe_lc (own := [("item", 2)]) (g := (gName 2)) rfl sc_are_sides.nd (pi_list (pv 0)) (blkOk_by (own := [("item", 2)]) (N := N_are_sides) (sc := defScope s_are_sides) (by decide +kernel)) (fun _ _ _ _ _ => by exact (pg_name (i := 2) sc_are_sides.nd rfl (Or.inl rfl))) (fun _ _ _ _ _ => by exact pts_nil) (fun _ _ _ _ _ => by exact pe_no)) pa_nil))))))) (pss_one (ps_ret pe_bl)) pss_nil)
      (pss_one (ps_ret (pe_callB (cr_all rfl) (by rfl) T.z_all (by decide +kernel) (pa_cons (pe_lc (own := [("one", 3), ("other", 4)]) (g := (gTup K 2 (gCons (gName 3) (gCons (gName 4) gNil)))) rfl sc_are_sides.nd (pi_zip (by rfl) T.z_zip (pa_cons (pv 0) (pa_cons (pe_slice sl_list (pv 0) (po_some pe_int) po_none) pa_nil))) (blkOk_by (own := [("one", 3), ("other", 4)]) (N := N_are_sides) (sc := defScope s_are_sides) (by decide +kernel)) (fun _ _ _ _ _ => by exact (pg_tup rfl (pgs_cons (pg_name (i := 3) sc_are_sides.nd rfl (Or.inl rfl)) (pgs_cons (pg_name (i := 4) sc_are_sides.nd rfl (Or.inl rfl)) pgs_nil)))) (fun _ _ _ _ _ => by exact pts_nil) (fun _ _ _ _ _ => by exact pe_no)) pa_nil))))), ?_⟩
    refine ⟨_, rfl, _, _, _, _, true, rfl, .ty "list", .base (.lst hz), kit_ty (by decide +kernel), true, rfl, iteF ?_⟩
    refine ⟨_, rfl, z, rfl, ⟨_, SqL.of hz⟩, fun D hD => lcNil hD (fun H' s' => ⟨[], SqL.of (s' _ _ hz), Nat.le_refl _⟩) fun H1 s1 hD1 => ?_⟩
    refine ⟨D, [], rfl, SqL.of hD1, true, rfl, iteF ?_⟩
    refine ⟨_, rfl, _, rfl, 1, rfl, z, _, rfl, SqL.of (s1 _ _ hz), fun p hp => ?_⟩
    have s2 : Same H (upd H1 p (.lst [])) := s1.trans (same_new hp)
    refine ⟨z, p, [], [], rfl, SqL.of (s2 _ _ hz), SqL.of upd_same, fun D' hD' => lcNil hD' (fun H' s' => ⟨[], [], SqL.of (s' _ _ (s2 _ _ hz)), SqL.of (s' _ _ upd_same), .inl (Nat.le_refl _)⟩) fun H3 s3 hD3 => ?_⟩
    exact ⟨D', [], rfl, SqL.of hD3, k _ (s2.trans s3)⟩
def sp_fence_fault : Sp := fun vs H Q _ => ∃ (f : Addr) (S : Int), vs = [.ref f] ∧ FenceAt H f S ∧ S ≤ big ∧ ∀ p H', Same H H' → H' p = some (.tup []) → Q (.ref p) H'
theorem d_fence_fault (T : Txt P K mg CF CG CI) : DG P w K mg base "fence_fault" 5 ["value"] sp_fence_fault := by
  refine T.f_fence_fault.ok sc_fence_fault (fun _ _ _ _ _ _ us hl => match us, hl with | [_], _ => rfl) ?_ (fun f cdv A outer s H vs Q E hr h => ?_)
  · rintro vs H Q E ⟨a, S, rfl, _⟩; rfl
  · obtain ⟨a, S, rfl, ⟨c, z, hf, hc, hz⟩, hS, k⟩ := h
    refine ⟨_, (pss_cons (ps_if (PW.pt (pw_or (pt_not (pt_val (pe_callB call_isi (by rfl) T.z_isinstance (by decide +kernel) (pa_cons (pv 0) (pa_cons (pe_bltn (v := .ty "tuple") (by rfl) T.z_tuple (by decide +kernel) rfl) pa_nil))))) (pw_or1 (pt_cmpR op_ne (pe_callB call_len_seq (by rfl) T.z_len (by decide +kernel) (pa_cons (pv 0) pa_nil)) pe_int (nomark _))))) (pss_one ps_never) pss_nil)
      (pss_cons (ps_if (pt_not (pt_val (pe_g (d_is_between T) hr (by rfl) (pa_cons (pe_ix (r := rIxT K) ix_tup (pv 0) pe_int (fun _ _ => rfl)) (pa_cons pe_int (pa_cons (pe_gc rfl T.c_MOST_PARTS) pa_nil)))))) (pss_one ps_never) pss_nil)
      (pss_cons (ps_if (pt_not (pt_val (pe_g (d_are_corners T) hr (by rfl) (pa_cons (pe_ix (r := rIxT K) ix_tup (pv 0) pe_int (fun _ _ => rfl)) pa_nil)))) (pss_one ps_never) pss_nil)
      (pss_one (ps_ret (pe_ifExp (pt_val (pe_g (d_are_sides T) hr (by rfl) (pa_cons (pe_ix (r := rIxT K) ix_tup (pv 0) pe_int (fun _ _ => rfl)) (pa_cons (pe_g (d_sides_of T) hr (by rfl) (pa_cons (pe_ix (r := rIxT K) ix_tup (pv 0) pe_int (fun _ _ => rfl)) pa_nil)) pa_nil)))) (pe_tup pa_nil) pe_no)))))), ?_⟩
    refine ⟨_, rfl, _, _, _, _, true, rfl, .ty "tuple", .base (.tup hf), kit_ty (by decide +kernel), true, rfl, iteF ?_⟩
    refine ⟨_, rfl, a, _, rfl, .inr (SqT.of hf), rfl, _, rfl, iteN (by simp) ?_⟩
    refine ⟨_, rfl, a, _, 0, _, rfl, rfl, SqT.of hf, atI_nat (j := 0) rfl, 1, 1, 30, rfl, true, rfl, iteF ?_⟩
    refine ⟨_, rfl, a, _, 1, _, rfl, rfl, SqT.of hf, atI_nat (j := 1) rfl, c, S, rfl, hc, hS, fun H1 s1 => ⟨true, rfl, iteF ?_⟩⟩
    refine ⟨_, rfl, a, _, 2, _, rfl, rfl, SqT.of (s1 _ _ hf), atI_nat (j := 2) rfl, _, rfl, a, _, 1, _, rfl, rfl, SqT.of (s1 _ _ hf), atI_nat (j := 1) rfl, c, S, rfl, hc.kp (kp_same s1), fun n => ?_⟩
    refine ⟨z, n, rfl, s1 _ _ hz, fun H2 s2 => ⟨true, rfl, iteT ⟨Nat.zero_le _, fun p hp => ?_⟩⟩⟩
    exact k p _ ((s1.trans s2).trans (same_new hp)) upd_same
def sp_require_fence : Sp := fun vs H Q _ => ∃ (f : Addr) (S : Int), vs = [.ref f] ∧ FenceAt H f S ∧ S ≤ big ∧ ∀ H', Same H H' → Q .non H'
theorem d_require_fence (T : Txt P K mg CF CG CI) : DG P w K mg base "require_fence" 6 ["fence"] sp_require_fence := by
  refine T.f_require_fence.ok sc_require_fence (fun _ _ _ _ _ _ us hl => match us, hl with | [_], _ => rfl) ?_ (fun f cdv A outer s H vs Q E hr h => ?_)
  · rintro vs H Q E ⟨a, S, rfl, _⟩; rfl
  · obtain ⟨a, S, rfl, hf, hS, k⟩ := h
    refine ⟨_, (pss_cons (ps_set (i := 1) sc_require_fence.nd rfl (Or.inl rfl) (pe_g (d_fence_fault T) hr (by rfl) (pa_cons (pv 0) pa_nil)))
      (pss_one (ps_if (pt_cmpR (op_neD hr.units) (pv 1) (pe_tup pa_nil) (nomark _)) (pss_one ps_never) pss_nil))), ?_⟩
    refine ⟨_, rfl, a, S, rfl, hf, hS, fun p H1 s1 hp => ?_⟩
    refine ⟨_, rfl, Nat.zero_le _, fun q hq => ?_⟩
    have s2 := same_new (o := .tup []) hq
    refine ⟨.tuple [], .tuple [], .tup (SqT.of (s2 _ _ hp)) .nil, .tup (SqT.of upd_same) .nil, rfl, rfl, _, rfl, ?_⟩
    have e : (!PyData.eqv (.tuple []) (.tuple [])) = false := by simp [PyData.eqv, PyData.eqvAll]
    rw [e]
    exact iteF (k _ (s1.trans s2))
def sp_require_size : Sp := fun vs H Q _ => ∃ n : Int, vs = [.int n] ∧ 1 ≤ n ∧ n ≤ big ∧ Q .non H
theorem d_require_size (T : Txt P K mg CF CG CI) : DG P w K mg base "require_size" 3 ["size"] sp_require_size := by
  refine T.f_require_size.ok sc_require_size (fun _ _ _ _ _ _ us hl => match us, hl with | [_], _ => rfl) ?_ (fun f cdv A outer s H vs Q E hr h => ?_)
  · rintro vs H Q E ⟨a, rfl, _⟩; rfl
  · obtain ⟨n, rfl, h1, h2, k⟩ := h
    refine ⟨_, (pss_one (ps_if (pt_not (pt_val (pe_g (d_is_between T) hr (by rfl) (pa_cons (pv 0) (pa_cons pe_int (pa_cons (pe_gc rfl T.c_MOST_SIZE) pa_nil)))))) (pss_one ps_never) pss_nil)), ?_⟩
    refine ⟨_, rfl, n, 1, big, rfl, _, rfl, ?_⟩
    rw [decide_eq_true h1, decide_eq_true h2]
    exact iteF k
theorem nm_len (c n : Nat) : (nm c n).length = n := by
  show ((List.replicate n c).toArray).size = n
  rw [List.size_toArray, List.length_replicate]
theorem nm_at {c n i d : Nat} (h : (nm c n).cps[i]? = some d) : d = c := by
  have h : (List.replicate n c).toArray[i]? = some d := h
  rw [List.getElem?_toArray, List.getElem?_replicate] at h
  split at h
  · exact (Option.some.inj h).symm
  · cases h
theorem one_lt (a b : Nat) : ([a] < [b]) ↔ a < b := by
  simp [List.cons_lt_cons_iff]
theorem sign_ok {c : Nat} (h1 : 97 ≤ c) (h2 : c ≤ 122) : (!decide ((⟨#[c]⟩ : Str).cps.toList < ("a" : Str).cps.toList)) = true ∧ (!decide (("z" : Str).cps.toList < (⟨#[c]⟩ : Str).cps.toList)) = true := by
  have ea : ("a" : Str).cps.toList = [97] := by decide +kernel
  have ez : ("z" : Str).cps.toList = [122] := by decide +kernel
  rw [ea, ez]
  have e1 : ¬ ([c] < [97]) := by rw [one_lt]; omega
  have e2 : ¬ ([122] < [c]) := by rw [one_lt]; omega
  refine ⟨?_, ?_⟩
  · show (!decide ([c] < [97])) = true
    rw [decide_eq_false e1]; rfl
  · show (!decide ([122] < [c])) = true
    rw [decide_eq_false e2]; rfl
def sp_is_plain_name : Sp := fun vs H Q _ => ∃ x : Str, vs = [.str x] ∧ NameOk x ∧ ∀ H', Same H H' → Q (.bl true) H'
theorem d_is_plain_name (T : Txt P K mg CF CG CI) : DG P w K mg base "is_plain_name" 1 ["value"] sp_is_plain_name := by
  refine T.f_is_plain_name.ok sc_is_plain_name (fun _ _ _ _ _ _ us hl => match us, hl with | [_], _ => rfl) ?_ (fun f cdv A outer s H vs Q E hr h => ?_)
  · rintro vs H Q E ⟨a, rfl, _⟩; rfl
  · obtain ⟨x, rfl, ⟨c, n, hc1, hc2, hn1, hn2, rfl⟩, k⟩ := h
    refine ⟨_, (pss_cons (ps_if (PW.pt (pw_or (pt_not (pt_val (pe_callB call_isi (by rfl) T.z_isinstance (by decide +kernel) (pa_cons (pv 0) (pa_cons (pe_bltn (v := .ty "str") (by rfl) T.z_str (by decide +kernel) rfl) pa_nil))))) (pw_or1 (pt_not (pt_chain op_le op_le pe_int (pe_callB call_len_str (by rfl) T.z_len (by decide +kernel) (pa_cons (pv 0) pa_nil)) (pe_gc rfl T.c_MOST_LETTERS)))))) (pss_one (ps_ret pe_bl)) pss_nil)
      (pss_one (ps_ret (pe_callB (cr_all rfl) (by rfl) T.z_all (by decide +kernel) (pa_cons (pe_lc (own := [("sign", 1)]) (g := (gName 1)) rfl sc_is_plain_name.nd (pi_str (pv 0)) (blkOk_by (own := [("sign", 1)]) (N := N_is_plain_name) (sc := defScope s_is_plain_name) (by decide +kernel)) (fun _ _ _ _ _ => by exact (pg_name (i := 1) sc_is_plain_name.nd rfl (Or.inl rfl))) (fun _ _ _ _ _ => by exact pts_nil) (fun _ _ _ _ _ => by exact (pe_chain op_le_str op_le_str pe_str (pv 1) pe_str))) pa_nil))))), ?_⟩
    have hl := nm_len c n
    have sL : (nm c n).length ≤ sizeLine := by rw [hl, sizeLine_eq]; omega
    refine ⟨_, rfl, _, _, _, _, true, rfl, .ty "str", .base (.str _), kit_ty (by decide +kernel), true, rfl, iteF ?_⟩
    refine ⟨_, rfl, _, rfl, sL, 1, _, rfl, rfl, _, rfl, iteD (by rw [hl]; omega) ?_⟩
    refine ⟨_, 8, rfl, rfl, _, rfl, iteNS (by rw [hl]; omega) ?_⟩
    have hsz : (nm c n).cps.size = n := hl
    refine ⟨_, rfl, _, rfl, fun D hD => lcS (List.replicate n (.bl true)) hD (by rw [List.length_replicate, hsz]) (by rw [hsz]; omega) (fun i y d H' R hx hy s k => ?_) fun H' s' hD' => ?_⟩
    · obtain rfl := nm_at hx
      obtain ⟨s1, s2⟩ := sign_ok hc1 hc2
      have ey : y = .bl true := by
        rw [List.getElem?_replicate] at hy
        split at hy
        · exact (Option.some.inj hy).symm
        · cases hy
      subst ey
      refine ⟨rfl, _, rfl, _, _, rfl, rfl, true, ?_, iteT ?_⟩
      · rw [s1]
      · refine ⟨_, _, rfl, rfl, ?_⟩
        rw [s2]
        exact k _ (Same.refl _)
    · refine ⟨D, List.replicate n true, rfl, SqL.of ?_, ?_⟩
      · rw [hD', List.map_replicate]
      · have e : (List.replicate n true).all id = true := by simp
        rw [e]
        exact k _ s'
def sp_require_name : Sp := fun vs H Q _ => ∃ x : Str, vs = [.str x] ∧ NameOk x ∧ ∀ H', Same H H' → Q .non H'
theorem d_require_name (T : Txt P K mg CF CG CI) : DG P w K mg base "require_name" 2 ["name"] sp_require_name := by
  refine T.f_require_name.ok sc_require_name (fun _ _ _ _ _ _ us hl => match us, hl with | [_], _ => rfl) ?_ (fun f cdv A outer s H vs Q E hr h => ?_)
  · rintro vs H Q E ⟨a, rfl, _⟩; rfl
  · obtain ⟨x, rfl, hx, k⟩ := h
    refine ⟨_, (pss_one (ps_if (pt_not (pt_val (pe_g (d_is_plain_name T) hr (by rfl) (pa_cons (pv 0) pa_nil)))) (pss_one ps_never) pss_nil)), ?_⟩
    refine ⟨_, rfl, x, rfl, hx, fun H1 s1 => ⟨true, rfl, iteF ?_⟩⟩
    exact k _ s1
end
end Gf
namespace Gf
open PySem PySem.Spec PyProof.Rows L2
section
variable {P : Program} {w : World} {K : PySem.W.Frag} {mg : Str → Option Value} {base : Heap} {CF CG CI : Addr}

def far : Int := 1000000000000000000000000000000000000000000000000000000000000
theorem abs_lt {i : Int} {n : Nat} (h0 : 0 ≤ i) (h : i < (2 : Int) ^ n) : i.natAbs < 2 ^ n := by
  have e : (i.natAbs : Int) = i := Int.natAbs_of_nonneg h0
  have h2 : ((i.natAbs : Nat) : Int) < ((2 ^ n : Nat) : Int) := by rw [e]; simpa using h
  exact Int.ofNat_lt.mp h2
theorem far_abs {i : Int} (h0 : 0 ≤ i) (h : i ≤ far) : i.natAbs < 2 ^ 250 := by
  have : far < (2 : Int) ^ 250 := by decide
  exact abs_lt h0 (by omega)
theorem far_mul {i j : Int} (h0 : 0 ≤ i) (h : i ≤ far) (h1 : 0 ≤ j) (h2 : j ≤ far) : CMulW i j := wide_mul (far_abs h0 h) (far_abs h1 h2) (by decide) (by decide) (by decide)
theorem far_div {i j : Int} (h1 : 0 < j) (h2 : j ≤ far) : CDivW i j := wide_div h1 (far_abs (by omega) h2) (by decide) (by decide)
theorem far_nn : (0 : Int) ≤ far := by decide
theorem far_one : (1 : Int) ≤ far := by decide
theorem mw11 : CMulW 1 1 := far_mul (by decide) far_one (by decide) far_one
theorem mw10 : CMulW 1 0 := far_mul (by decide) far_one (by decide) far_nn
theorem mw00 : CMulW 0 0 := far_mul (by decide) far_nn (by decide) far_nn
/-! ### floors.py -/
def sp_round_up : Sp := fun vs H Q _ => ∃ t b : Int, vs = [.int t, .int b] ∧ b = 1 ∧ Q (.int t) H
theorem d_round_up (T : Txt P K mg CF CG CI) : DG P w K mg base "round_up" 1 ["top", "bottom"] sp_round_up := by
  refine T.f_round_up.ok sc_round_up (fun _ _ _ _ _ _ us hl => match us, hl with | [_, _], _ => rfl) ?_ (fun f cdv A outer s H vs Q E hr h => ?_)
  · rintro vs H Q E ⟨a, b, rfl, _⟩; rfl
  · obtain ⟨t, b, rfl, rfl, k⟩ := h
    refine ⟨_, (pss_one (ps_ret (pe_un un_neg (pe_op op_fdivW (pe_un un_neg (pv 0)) (pv 1))))), ?_⟩
    refine ⟨_, rfl, t, rfl, _, rfl, -t, 1, rfl, rfl, ⟨by decide, by decide⟩, _, rfl, ?_⟩
    have e : -(-t / 1) = t := by simp
    show Q (.int (-(-t / 1))) H
    rw [e]
    exact k
def sp_bezout : Sp := fun vs H Q _ => ∃ a b : Int, vs = [.int a, .int b] ∧ a = 1 ∧ b = 0 ∧ ∀ p H', Same H H' → H' p = some (.tup [.int 1, .int 0]) → Q (.ref p) H'
theorem two_line : 2 ≤ sizeLine := by rw [sizeLine_eq]; decide
theorem three_line : 3 ≤ sizeLine := by rw [sizeLine_eq]; decide
theorem four_line : 4 ≤ sizeLine := by rw [sizeLine_eq]; decide
theorem one_line : 1 ≤ sizeLine := by rw [sizeLine_eq]; decide
theorem d_bezout (T : Txt P K mg CF CG CI) : DG P w K mg base "bezout" 1 ["one", "other"] sp_bezout := by
  refine T.f_bezout.ok sc_bezout (fun _ _ _ _ _ _ us hl => match us, hl with | [_, _], _ => rfl) ?_ (fun f cdv A outer s H vs Q E hr h => ?_)
  · rintro vs H Q E ⟨a, b, rfl, _⟩; rfl
  · obtain ⟨a, b, rfl, rfl, rfl, k⟩ := h
    refine ⟨_, (pss_cons (ps_par (i := 2) (j := 3) (by rfl) sc_bezout.nd rfl rfl (by decide) rfl rfl (pa_cons (pe_tup (pa_cons (pv 0) (pa_cons pe_int (pa_cons pe_int pa_nil)))) (pa_cons (pe_tup (pa_cons (pv 1) (pa_cons pe_int (pa_cons pe_int pa_nil)))) pa_nil)) (by rfl))
      (pss_cons (ps_while PassesOwn.never (pt_cmpR op_ne (pe_ix (r := rIxT K) ix_tup (pv 3) pe_int (fun _ _ => rfl)) pe_int (nomark _)) (pss_cons (ps_set (i := 4) sc_bezout.nd rfl (Or.inl rfl) (pe_op op_fdivW (pe_ix (r := rIxT K) ix_tup (pv 2) pe_int (fun _ _ => rfl)) (pe_ix (r := rIxT K) ix_tup (pv 3) pe_int (fun _ _ => rfl))))
      (pss_one (ps_par (i := 2) (j := 3) (by rfl) sc_bezout.nd rfl rfl (by decide) rfl rfl (pa_cons (pv 3) (pa_cons (pe_tup (pa_cons (pe_op op_sub (pe_ix (r := rIxT K) ix_tup (pv 2) pe_int (fun _ _ => rfl)) (pe_op op_mulW (pv 4) (pe_ix (r := rIxT K) ix_tup (pv 3) pe_int (fun _ _ => rfl)))) (pa_cons (pe_op op_sub (pe_ix (r := rIxT K) ix_tup (pv 2) pe_int (fun _ _ => rfl)) (pe_op op_mulW (pv 4) (pe_ix (r := rIxT K) ix_tup (pv 3) pe_int (fun _ _ => rfl)))) (pa_cons (pe_op op_sub (pe_ix (r := rIxT K) ix_tup (pv 2) pe_int (fun _ _ => rfl)) (pe_op op_mulW (pv 4) (pe_ix (r := rIxT K) ix_tup (pv 3) pe_int (fun _ _ => rfl)))) pa_nil)))) pa_nil)) (by rfl)))))
      (pss_cons (ps_set (i := 5) sc_bezout.nd rfl (Or.inl rfl) (pe_ifExp (pt_cmpR op_ge (pe_ix (r := rIxT K) ix_tup (pv 2) pe_int (fun _ _ => rfl)) pe_int (nomark _)) pe_int (pe_un un_neg pe_int)))
      (pss_one (ps_ret (pe_tup (pa_cons (pe_op op_mulW (pv 5) (pe_ix (r := rIxT K) ix_tup (pv 2) pe_int (fun _ _ => rfl))) (pa_cons (pe_op op_mulW (pv 5) (pe_ix (r := rIxT K) ix_tup (pv 2) pe_int (fun _ _ => rfl))) pa_nil)))))))), ?_⟩
    refine ⟨_, rfl, three_line, fun t ht => ?_⟩
    refine ⟨_, rfl, three_line, fun u hu => ⟨_, _, rfl, ?_⟩⟩
    have s1 : Same H (upd H t (.tup [.int 1, .int 1, .int 0])) := same_new ht
    have s2 := same_new (o := .tup [.int 0, .int 0, .int 1]) hu
    have h1 := s2 _ _ (upd_same (H := H) (a := t) (o := .tup [.int 1, .int 1, .int 0]))
    have s3 := s1.trans s2
    refine ⟨fun _ σ H' => σ = [some (.int 1), some (.int 0), some (.ref t), some (.ref u), none, none] ∧ H' = _, ⟨0, rfl, rfl⟩, ?_⟩
    rintro m σ H' ⟨rfl, rfl⟩
    refine ⟨_, rfl, u, _, 0, _, rfl, rfl, SqT.of upd_same, atI_nat (j := 0) rfl, rfl, _, rfl, iteN rfl ?_⟩
    refine ⟨_, rfl, t, _, 0, _, rfl, rfl, SqT.of h1, atI_nat (j := 0) rfl, _, _, rfl, rfl, _, rfl, iteD (by decide) ?_⟩
    refine ⟨_, rfl, _, rfl, t, _, 1, _, rfl, rfl, SqT.of h1, atI_nat (j := 1) rfl, 1, 1, rfl, rfl, mw11, ?_⟩
    refine ⟨_, rfl, _, rfl, t, _, 2, _, rfl, rfl, SqT.of h1, atI_nat (j := 2) rfl, 1, 0, rfl, rfl, mw10, ?_⟩
    exact ⟨two_line, fun p hp => k p _ (s3.trans (same_new hp)) upd_same⟩
/-! ### shapes.py -/
def PairsAt (H : Hp) (l : Addr) (S : Int) : Prop := ∃ t p q : Addr, H l = some (.lst ([t].map V.ref)) ∧ H t = some (.tup [.ref p, .ref q]) ∧ H p = some (.tup [.int 0, .int 0]) ∧ H q = some (.tup [.int S, .int 0])
def sp_pairs_around : Sp := fun vs H Q _ => ∃ (c : Addr) (S : Int), vs = [.ref c] ∧ CornersAt H c S ∧ ∀ l H', Same H H' → PairsAt H' l S → Q (.ref l) H'
theorem d_pairs_around (T : Txt P K mg CF CG CI) : DG P w K mg base "pairs_around" 1 ["corners"] sp_pairs_around := by
  refine T.f_pairs_around.ok sc_pairs_around (fun _ _ _ _ _ _ us hl => match us, hl with | [_], _ => rfl) ?_ (fun f cdv A outer s H vs Q E hr h => ?_)
  · rintro vs H Q E ⟨a, S, rfl, _⟩; rfl
  · obtain ⟨c, S, rfl, hc, k⟩ := h
    refine ⟨_, (pss_cons (ps_if (pt_cmpR op_lt (pe_callB call_len_seq (by rfl) T.z_len (by decide +kernel) (pa_cons (pv 0) pa_nil)) pe_int (nomark _)) (pss_one (ps_ret (pe_lst (pa_cons (pe_tup (pa_cons (pe_ix (r := rIxL K) ix_list (pv 0) pe_int (fun _ _ => rfl)) (pa_cons (pe_ix (r := rIxL K) ix_list (pv 0) (pe_un un_neg pe_int) (fun _ _ => rfl)) pa_nil))) pa_nil)))) pss_nil)
      (pss_one ps_never)), ?_⟩
    rcases hc with ⟨h0, p, q, h1, h2, h3⟩ | ⟨h0, p, h1, h2⟩
    · refine ⟨_, rfl, c, _, rfl, .inl (SqL.of h1), _, _, rfl, rfl, _, rfl, iteD (by simp) ?_⟩
      refine ⟨_, rfl, c, _, 0, _, rfl, rfl, SqL.of h1, atI_nat (j := 0) rfl, ?_⟩
      refine ⟨_, rfl, _, rfl, c, _, -1, _, rfl, rfl, SqL.of h1, atI_last [V.ref p] (V.ref q), ?_⟩
      refine ⟨two_line, fun t ht => ⟨one_line, fun l hl => ?_⟩⟩
      have s1 := same_new (o := .tup [.ref p, .ref q]) ht
      have s2 := same_new (o := .lst [.ref t]) hl
      have s3 := s1.trans s2
      exact k l _ s3 ⟨t, p, q, upd_same, s2 _ _ upd_same, s3 _ _ h2, s3 _ _ h3⟩
    · subst h0
      refine ⟨_, rfl, c, _, rfl, .inl (SqL.of h1), _, _, rfl, rfl, _, rfl, iteD (by simp) ?_⟩
      refine ⟨_, rfl, c, _, 0, _, rfl, rfl, SqL.of h1, atI_nat (j := 0) rfl, ?_⟩
      refine ⟨_, rfl, _, rfl, c, _, -1, _, rfl, rfl, SqL.of h1, atI_last [] (V.ref p), ?_⟩
      refine ⟨two_line, fun t ht => ⟨one_line, fun l hl => ?_⟩⟩
      have s1 := same_new (o := .tup [.ref p, .ref p]) ht
      have s2 := same_new (o := .lst [.ref t]) hl
      have s3 := s1.trans s2
      exact k l _ s3 ⟨t, p, p, upd_same, s2 _ _ upd_same, s3 _ _ h2, s3 _ _ h2⟩
def sp_span_of : Sp := fun vs H Q _ => ∃ (p q : Addr) (S : Int), vs = [.int 1, .ref p, .ref q] ∧ H p = some (.tup [.int 0, .int 0]) ∧ H q = some (.tup [.int S, .int 0]) ∧ 0 < S ∧ S ≤ far ∧ ∀ t H', Same H H' → H' t = some (.tup [.int 0, .int S, .int 0, .int 0]) → Q (.ref t) H'
theorem d_span_of (T : Txt P K mg CF CG CI) : DG P w K mg base "span_of" 2 ["bottom", "one", "other"] sp_span_of := by
  refine T.f_span_of.ok sc_span_of (fun _ _ _ _ _ _ us hl => match us, hl with | [_, _, _], _ => rfl) ?_ (fun f cdv A outer s H vs Q E hr h => ?_)
  · rintro vs H Q E ⟨p, q, S, rfl, _⟩; rfl
  · obtain ⟨p, q, S, rfl, hp, hq, h0, h1, k⟩ := h
    refine ⟨_, (pss_cons (ps_par (i := 3) (j := 4) (by rfl) sc_span_of.nd rfl rfl (by decide) rfl rfl (pa_cons (pe_op op_sub (pe_ix (r := rIxT K) ix_tup (pv 2) pe_int (fun _ _ => rfl)) (pe_ix (r := rIxT K) ix_tup (pv 1) pe_int (fun _ _ => rfl))) (pa_cons (pe_op op_sub (pe_ix (r := rIxT K) ix_tup (pv 2) pe_int (fun _ _ => rfl)) (pe_ix (r := rIxT K) ix_tup (pv 1) pe_int (fun _ _ => rfl))) pa_nil)) (by rfl))
      (pss_cons (ps_set (i := 5) sc_span_of.nd rfl (Or.inl rfl) (pe_g (d_common_divisor T) hr (by rfl) (pa_cons (pv 3) (pa_cons (pv 4) pa_nil))))
      (pss_cons (ps_par (i := 3) (j := 4) (by rfl) sc_span_of.nd rfl rfl (by decide) rfl rfl (pa_cons (pe_op op_fdivW (pv 3) (pv 5)) (pa_cons (pe_op op_fdivW (pv 4) (pv 5)) pa_nil)) (by rfl))
      (pss_cons (ps_set (i := 6) sc_span_of.nd rfl (Or.inl rfl) (pe_op op_sub (pe_op op_mulW (pv 3) (pe_ix (r := rIxT K) ix_tup (pv 1) pe_int (fun _ _ => rfl))) (pe_op op_mulW (pv 4) (pe_ix (r := rIxT K) ix_tup (pv 1) pe_int (fun _ _ => rfl)))))
      (pss_cons (ps_if (pt_cmpR op_ne (pe_op op_mod (pv 6) (pv 0)) pe_int (nomark _)) (pss_one ps_never) pss_nil)
      (pss_cons (ps_asg (pe_g (d_bezout T) hr (by rfl) (pa_cons (pv 3) (pa_cons (pv 4) pa_nil))) (pg_tup rfl (pgs_cons (pg_name (i := 7) sc_span_of.nd rfl (Or.inl rfl)) (pgs_cons (pg_name (i := 8) sc_span_of.nd rfl (Or.inl rfl)) pgs_nil))))
      (pss_cons (ps_par (i := 9) (j := 10) (by rfl) sc_span_of.nd rfl rfl (by decide) rfl rfl (pa_cons (pe_op op_add (pe_op op_mulW (pv 7) (pe_ix (r := rIxT K) ix_tup (pv 1) pe_int (fun _ _ => rfl))) (pe_op op_mulW (pv 8) (pe_ix (r := rIxT K) ix_tup (pv 1) pe_int (fun _ _ => rfl)))) (pa_cons (pe_op op_add (pe_op op_mulW (pv 7) (pe_ix (r := rIxT K) ix_tup (pv 2) pe_int (fun _ _ => rfl))) (pe_op op_mulW (pv 8) (pe_ix (r := rIxT K) ix_tup (pv 2) pe_int (fun _ _ => rfl)))) pa_nil)) (by rfl))
      (pss_one (ps_ret (pe_tup (pa_cons (pe_g (d_round_up T) hr (by rfl) (pa_cons (pv 9) (pa_cons (pv 0) pa_nil))) (pa_cons (pe_op op_fdivW (pv 10) (pv 0)) (pa_cons (pv 4) (pa_cons (pe_op op_mulW (pv 7) (pe_op op_fdivW (pv 6) (pv 0))) pa_nil)))))))))))))), ?_⟩
    have z0 := atI_nat (xs := [V.int 0, V.int 0]) (j := 0) rfl
    have z1 := atI_nat (xs := [V.int 0, V.int 0]) (j := 1) rfl
    have y0 := atI_nat (xs := [V.int S, V.int 0]) (j := 0) rfl
    have y1 := atI_nat (xs := [V.int S, V.int 0]) (j := 1) rfl
    -- wide, up
    refine ⟨_, rfl, q, _, 0, _, rfl, rfl, SqT.of hq, y0, _, rfl, p, _, 0, _, rfl, rfl, SqT.of hp, z0, _, _, rfl, rfl, ?_⟩
    refine ⟨_, rfl, q, _, 1, _, rfl, rfl, SqT.of hq, y1, _, rfl, p, _, 1, _, rfl, rfl, SqT.of hp, z1, _, _, rfl, rfl, _, _, rfl, ?_⟩
    -- part
    refine ⟨_, rfl, _, rfl, S - 0, rfl, by omega, ?_⟩
    have e1 : (S - 0) / (S - 0) = 1 := by rw [Int.sub_zero]; exact Int.ediv_self (by omega)
    have e2 : ((0 : Int) - 0) / (S - 0) = 0 := by simp
    refine ⟨_, rfl, _, rfl, S - 0, S - 0, rfl, rfl, far_div (by omega) (by omega), _, rfl, _, rfl, 0 - 0, S - 0, rfl, rfl, far_div (by omega) (by omega), _, _, rfl, ?_⟩
    -- beside
    refine ⟨_, rfl, _, rfl, p, _, 1, _, rfl, rfl, SqT.of hp, z1, (S - 0) / (S - 0), 0, rfl, rfl, (by rw [e1]; exact far_mul (by decide) far_one (by decide) far_nn), ?_⟩
    refine ⟨_, rfl, _, rfl, p, _, 0, _, rfl, rfl, SqT.of hp, z0, (0 - 0) / (S - 0), 0, rfl, rfl, (by rw [e2]; exact far_mul (by decide) far_nn (by decide) far_nn), _, _, rfl, rfl, ?_⟩
    -- if beside % bottom != 0
    have e3 : ((S - 0) / (S - 0) * 0 - (0 - 0) / (S - 0) * 0 : Int) = 0 := by simp
    refine ⟨_, rfl, _, rfl, (S - 0) / (S - 0) * 0 - (0 - 0) / (S - 0) * 0, 1, rfl, rfl, (by show (0 : Int) < 1; decide), rfl, _, rfl, iteN (by rw [e3]; rfl) ?_⟩
    -- left, right
    refine ⟨_, rfl, _, rfl, _, _, rfl, e1, e2, fun t H1 s1 ht => ⟨t, _, rfl, SqT.of ht, rfl, _, _, rfl, _, _, rfl, rfl, ?_⟩⟩
    have hp1 := s1 _ _ hp
    have hq1 := s1 _ _ hq
    -- low, high
    refine ⟨_, rfl, _, rfl, p, _, 0, _, rfl, rfl, SqT.of hp1, z0, 1, 0, rfl, rfl, mw10, ?_⟩
    refine ⟨_, rfl, _, rfl, p, _, 1, _, rfl, rfl, SqT.of hp1, z1, 0, 0, rfl, rfl, mw00, _, _, rfl, rfl, ?_⟩
    refine ⟨_, rfl, _, rfl, q, _, 0, _, rfl, rfl, SqT.of hq1, y0, 1, S, rfl, rfl, far_mul (by decide) far_one (by omega) h1, ?_⟩
    refine ⟨_, rfl, _, rfl, q, _, 1, _, rfl, rfl, SqT.of hq1, y1, 0, 0, rfl, rfl, mw00, _, _, rfl, rfl, _, _, rfl, ?_⟩
    -- the tuple
    refine ⟨_, rfl, _, rfl, _, 1, rfl, rfl, ?_⟩
    refine ⟨_, rfl, _, rfl, 1 * S + 0 * 0, 1, rfl, rfl, far_div (by decide) far_one, ?_⟩
    refine ⟨_, rfl, _, rfl, _, rfl, _, rfl, (S - 0) / (S - 0) * 0 - (0 - 0) / (S - 0) * 0, 1, rfl, rfl, far_div (by decide) far_one, 1, ((S - 0) / (S - 0) * 0 - (0 - 0) / (S - 0) * 0) / 1, rfl, rfl, (by rw [e3]; exact mw10), four_line, fun u hu => ?_⟩
    have e4 : ([.int (1 * 0 + 0 * 0), .int ((1 * S + 0 * 0) / 1), .int ((0 - 0) / (S - 0)), .int (1 * (((S - 0) / (S - 0) * 0 - (0 - 0) / (S - 0) * 0) / 1))] : List V) = [.int 0, .int S, .int 0, .int 0] := by
      rw [e3, e2]
      simp
    refine k u _ (s1.trans (same_new hu)) ?_
    rw [upd_same]
    exact congrArg (fun l => some (HO.tup l)) e4
end
end Gf
namespace Gf
open PySem PySem.Spec PyProof.Rows L2
section
variable {P : Program} {w : World} {K : PySem.W.Frag} {mg : Str → Option Value} {base : Heap} {CF CG CI : Addr}

def sp_span_count : Sp := fun vs H Q _ => ∃ (t : Addr) (S : Int), vs = [.ref t, .non] ∧ H t = some (.tup [.int 0, .int S, .int 0, .int 0]) ∧ 0 ≤ S ∧ Q (.int (S + 1)) H
theorem d_span_count (T : Txt P K mg CF CG CI) : DG P w K mg base "span_count" 1 ["span", "row"] sp_span_count := by
  refine T.f_span_count.ok sc_span_count (fun _ _ _ _ _ _ us hl => match us, hl with | [_, _], _ => rfl) ?_ (fun f cdv A outer s H vs Q E hr h => ?_)
  · rintro vs H Q E ⟨t, S, rfl, _⟩; rfl
  · obtain ⟨t, S, rfl, ht, h0, k⟩ := h
    refine ⟨_, (pss_cons (ps_if (pt_cmpR op_isN (pv 0) pe_non (nomark _)) (pss_one (ps_ret pe_int)) pss_nil)
      (pss_cons (ps_asg (pv 0) (pg_tup rfl (pgs_cons (pg_name (i := 2) sc_span_count.nd rfl (Or.inl rfl)) (pgs_cons (pg_name (i := 3) sc_span_count.nd rfl (Or.inl rfl)) (pgs_cons (pg_name (i := 4) sc_span_count.nd rfl (Or.inl rfl)) (pgs_cons (pg_name (i := 5) sc_span_count.nd rfl (Or.inl rfl)) pgs_nil))))))
      (pss_cons (ps_if (pt_cmpR op_notN (pv 1) pe_non (nomark _)) (pss_one ps_never) pss_nil)
      (pss_one (ps_ret (pe_callB (call_max2 rfl) (by rfl) T.z_max (by decide +kernel) (pa_cons pe_int (pa_cons (pe_op op_add (pe_op op_sub (pv 3) (pv 2)) pe_int) pa_nil)))))))), ?_⟩
    refine ⟨_, rfl, rfl, _, rfl, iteDn (by simp) ?_⟩
    refine ⟨_, rfl, t, _, rfl, SqT.of ht, rfl, _, _, rfl, _, _, rfl, _, _, rfl, _, _, rfl, rfl, ?_⟩
    refine ⟨_, rfl, rfl, _, rfl, iteN rfl ?_⟩
    refine ⟨_, rfl, _, rfl, S, 0, rfl, rfl, _, _, rfl, rfl, 0, S - 0 + 1, rfl, ?_⟩
    have e : (if S - 0 + 1 > 0 then S - 0 + 1 else 0) = S + 1 := by rw [if_pos (by omega)]; omega
    show Q (.int (if S - 0 + 1 > 0 then S - 0 + 1 else 0)) H
    rw [e]
    exact k
def sp_edges_of : Sp := fun vs H Q _ => ∃ (l : Addr) (b : Int), vs = [.int b, .ref l] ∧ H l = some (.lst []) ∧ ∀ p H', Same H H' → H' p = some (.lst []) → Q (.ref p) H'
theorem d_edges_of (T : Txt P K mg CF CG CI) : DG P w K mg base "edges_of" 1 ["bottom", "pairs"] sp_edges_of := by
  refine T.f_edges_of.ok sc_edges_of (fun _ _ _ _ _ _ us hl => match us, hl with | [_, _], _ => rfl) ?_ (fun f cdv A outer s H vs Q E hr h => ?_)
  · rintro vs H Q E ⟨l, b, rfl, _⟩; rfl
  · obtain ⟨l, b, rfl, hl, k⟩ := h
    refine ⟨_, (pss_cons (ps_par (i := 2) (j := 3) (by rfl) sc_edges_of.nd rfl rfl (by decide) rfl rfl (pa_cons (pe_lst pa_nil) (pa_cons pe_non pa_nil)) (by rfl))
      (pss_cons (ps_for PassesOwn.never rfl (pi_list (pe_callBK (cr_sortKeyNil hr.units) (by rfl) T.z_sorted (by decide +kernel) (pa_cons (pv 1) pa_nil) (pk_cons (pe_gf rfl T.g_low_height) pk_nil))) (pg_tup rfl (pgs_cons (pg_name (i := 4) sc_edges_of.nd rfl (Or.inl rfl)) (pgs_cons (pg_name (i := 5) sc_edges_of.nd rfl (Or.inl rfl)) pgs_nil))) (pss_cons ps_never
      (pss_cons ps_never
      (pss_cons ps_never
      (pss_one ps_never)))))
      (pss_one (ps_ret (pv 2))))), ?_⟩
    refine ⟨Nat.zero_le _, fun p hp => ⟨_, _, rfl, ?_⟩⟩
    have s1 := same_new (o := .lst []) hp
    refine ⟨_, rfl, fun g => ⟨l, g, rfl, rfl, SqL.of (s1 _ _ hl), fun q hq => ?_⟩⟩
    have s2 := same_new (o := .lst []) hq
    refine ⟨q, rfl, ⟨_, SqL.of upd_same⟩, for_list (K := K) (a := q) (xs := []) (fun i σ H' => σ = [some (.int b), some (.ref l), some (.ref p), some .non, none, none, none, none] ∧ H' = _) ⟨rfl, rfl⟩ (fun i σ H' _ ⟨_, e⟩ => by rw [e]; exact SqL.of upd_same) ?_ ?_⟩
    · intro i x σ H' hi
      simp at hi
    · rintro σ H' ⟨rfl, rfl⟩
      exact ⟨_, rfl, k p _ (s1.trans s2) (s2 _ _ upd_same)⟩
/-! the fields of a grown fence, as they are put -/
def of1 : List (Str × V) := [("bottom", .int 1)]
def of2 (c : Addr) : List (Str × V) := [("bottom", .int 1), ("corners", .ref c)]
def of3 (c z : Addr) : List (Str × V) := [("bottom", .int 1), ("corners", .ref c), ("shut", .ref z)]
def ofs (c z l : Addr) : List (Str × V) := [("bottom", .int 1), ("corners", .ref c), ("shut", .ref z), ("pairs", .ref l)]
theorem of_1 : putF "bottom" (.int 1) [] = of1 := rfl
theorem of_2 (c : Addr) : putF "corners" (.ref c) of1 = of2 c := by kernel_rfl
theorem of_3 (c z : Addr) : putF "shut" (.ref z) (of2 c) = of3 c z := by kernel_rfl
theorem of_4 (c z l : Addr) : putF "pairs" (.ref l) (of3 c z) = ofs c z l := by kernel_rfl
theorem of3_c (c z : Addr) : (of3 c z).lookup ("corners" : Str) = some (.ref c) := by kernel_rfl
theorem of_put {H : Hp} {x C dx : Addr} {f : Str} {v : V} {fs gs : List (Str × V)} (e : putF f v fs = gs) : upd H x (.ins C dx (putF f v fs)) = upd H x (.ins C dx gs) := by rw [e]
def sp_outline (CG : Addr) : Sp := fun vs H Q _ => ∃ (x dx f : Addr) (S n : Int), vs = [.ref x, .ref f, .int n] ∧ H x = some (.ins CG dx []) ∧ FenceAt H f S ∧ S ≤ big ∧ 1 ≤ n ∧ n ≤ big ∧
  ∀ c z l H', Fx x H H' → H' x = some (.ins CG dx (ofs c z l)) → CornersAt H' c (S * n) → H' z = some (.lst []) → PairsAt H' l (S * n) → Q .non H'
theorem big_far {i : Int} (h : i ≤ big) : i ≤ far := by
  have : big ≤ far := by decide
  omega
theorem two_list {ys : List V} (h : ys.length = 2) : ∃ a b, ys = [a, b] := match ys, h with | [a, b], _ => ⟨a, b, rfl⟩
theorem one_list {ys : List V} (h : ys.length = 1) : ∃ a, ys = [a] := match ys, h with | [a], _ => ⟨a, rfl⟩
/-- what is known of the i-th grown corner -/
def CRel (D : Addr) (ss : List Int) (H : Hp) (i : Nat) (y : V) : Prop := ∃ (a : Addr) (s : Int), y = .ref a ∧ a ≠ D ∧ ss[i]? = some s ∧ H a = some (.tup [.int s, .int 0])
theorem CRel.st {D : Addr} {ss : List Int} (H H' : Hp) (i : Nat) (y : V) (hl : ∃ l, H D = some (.lst l)) (k : ∀ b o, b ≠ D → H b = some o → H' b = some o) (h : CRel D ss H i y) : CRel D ss H' i y := by
  obtain ⟨a, s, e1, n, e2, e3⟩ := h
  exact ⟨a, s, e1, n, e2, k _ _ n e3⟩
theorem corners_pts {H : Hp} {c : Addr} {S n : Int} (h : CornersAt H c S) (hS : S ≤ big) (hn : 1 ≤ n) : ∃ (pts : List Addr) (ts : List Int), H c = some (.lst (pts.map V.ref)) ∧ pts.length ≤ 2 ∧ pts.length = ts.length ∧
    (∀ (i : Nat) (a : Addr) (t : Int), pts[i]? = some a → ts[i]? = some t → 0 ≤ t ∧ t ≤ big ∧ H a = some (.tup [.int t, .int 0])) ∧
    (∀ (H' : Hp) (D : Addr) (ys : List V), H' D = some (.lst ys) → ys.length = pts.length → (∀ (i : Nat) (y : V), ys[i]? = some y → CRel D (ts.map fun t => t * n) H' i y) → CornersAt H' D (S * n)) := by
  have b0 : (0 : Int) ≤ big := by decide
  rcases h with ⟨h0, p, q, h1, h2, h3⟩ | ⟨h0, p, h1, h2⟩
  · refine ⟨[p, q], [0, S], h1, Nat.le_refl _, rfl, fun i a t e1 e2 => ?_, fun H' D ys hD hl hr => ?_⟩
    · match i, e1, e2 with
      | 0, e1, e2 => cases e1; cases e2; exact ⟨by decide, b0, h2⟩
      | 1, e1, e2 => cases e1; cases e2; exact ⟨by omega, hS, h3⟩
    · obtain ⟨y0, y1, rfl⟩ := two_list hl
      obtain ⟨a0, s0, rfl, _, e0, g0⟩ := hr 0 y0 rfl
      obtain ⟨a1, s1, rfl, _, e1, g1⟩ := hr 1 y1 rfl
      cases e0
      cases e1
      have z : (0 : Int) * n = 0 := by simp
      have g0 : H' a0 = some (.tup [.int (0 * n), .int 0]) := g0
      rw [z] at g0
      exact .inl ⟨Int.mul_pos h0 (by omega), a0, a1, hD, g0, g1⟩
  · subst h0
    refine ⟨[p], [0], h1, by show 1 ≤ 2; decide, rfl, fun i a t e1 e2 => ?_, fun H' D ys hD hl hr => ?_⟩
    · match i, e1, e2 with
      | 0, e1, e2 => cases e1; cases e2; exact ⟨by decide, b0, h2⟩
    · obtain ⟨y0, rfl⟩ := one_list hl
      obtain ⟨a0, s0, rfl, _, e0, g0⟩ := hr 0 y0 rfl
      cases e0
      have z : (0 : Int) * n = 0 := by simp
      have g0 : H' a0 = some (.tup [.int (0 * n), .int 0]) := g0
      rw [z] at g0
      exact .inr ⟨z, a0, hD, g0⟩
theorem fn_outline (T : Txt P K mg CF CG CI) {f2 : Addr} {fd2 : FuncData} (F : Fun K "__init__" "Outline.__init__" s_Outline_init f2 fd2) : FnOk P w K mg base CX0 2 f2 fd2 ["self", "fence", "size"] (sp_outline CG) := by
  refine F.ok sc_Outline_init ?_ (fun cdv A outer s H vs Q E hr h => ?_)
  · rintro vs H Q E ⟨x, dx, f, S, n, rfl, _⟩; rfl
  · obtain ⟨x, dx, f, S, n, rfl, hx, ⟨c, z, hf, hc, hz⟩, hS, hn1, hn2, k⟩ := h
    refine ⟨_, (pss_cons (ps_fld (pv 0) (pe_ix (r := rIxT K) ix_tup (pv 1) pe_int (fun _ _ => rfl)) rfl)
      (pss_cons (ps_fld (pv 0) (pe_lc (own := [("x", 3), ("y", 4)]) (g := (gTup K 2 (gCons (gName 3) (gCons (gName 4) gNil)))) rfl sc_Outline_init.nd (pi_list (pe_ix (r := rIxT K) ix_tup (pv 1) pe_int (fun _ _ => rfl))) (blkOk_by (own := [("x", 3), ("y", 4)]) (N := N_Outline_init) (sc := defScope s_Outline_init) (by decide +kernel)) (fun _ _ _ _ _ => by exact (pg_tup rfl (pgs_cons (pg_name (i := 3) sc_Outline_init.nd rfl (Or.inl rfl)) (pgs_cons (pg_name (i := 4) sc_Outline_init.nd rfl (Or.inl rfl)) pgs_nil)))) (fun _ _ _ _ _ => by exact pts_nil) (fun _ _ _ _ _ => by exact (pe_tup (pa_cons (pe_op op_mulW (pv 3) (pv 2)) (pa_cons (pe_op op_mulW (pv 4) (pv 2)) pa_nil))))) rfl)
      (pss_cons (ps_fld (pv 0) (pe_ix (r := rIxT K) ix_tup (pv 1) pe_int (fun _ _ => rfl)) rfl)
      (pss_one (ps_fld (pv 0) (pe_g (d_pairs_around T) hr (by rfl) (pa_cons (pe_fld (pv 0) rfl) pa_nil)) rfl))))), ?_⟩
    -- self.bottom = fence[0]
    refine ⟨_, rfl, f, _, 0, _, rfl, rfl, SqT.of hf, atI_nat (j := 0) rfl, _, rfl, x, CG, dx, [], rfl, hx, T.cG, T.n_bottom, (by simp), ?_⟩
    have v0 : ∃ o, H x = some o ∧ Var o := ⟨_, hx, trivial⟩
    have F1 : Fx x H (upd H x (.ins CG dx of1)) := Fx.put hx trivial
    show _
    have k1 := kp_fx F1
    have hf1 := k1 _ _ hf nv_tup
    have hc1 := hc.kp k1
    have hS0 := hc.nn
    have hm : ∀ a : Int, 0 ≤ a → a ≤ big → CMulW a n := fun a h0 h1 => far_mul h0 (big_far h1) (by omega) (big_far hn2)
    -- self.corners = [..]
    obtain ⟨pts, ts, hp1, hp2, hp3, hp4, hp5⟩ := corners_pts hc1 hS hn1
    refine ⟨_, rfl, f, _, 1, _, rfl, rfl, SqT.of hf1, atI_nat (j := 1) rfl, c, rfl, ⟨_, SqL.of hp1⟩, fun D hD => lcRL (xs := pts.map V.ref) (CRel D (ts.map fun t => t * n)) CRel.st hD hp1 (by rw [List.length_map]; omega) (fun i x' H' R hx' s' hl' kR => ?_) fun H2 ys s2 hD2 hl2 hr2 => ?_⟩
    · rw [List.getElem?_map] at hx'
      obtain ⟨a, ea, ex⟩ := Option.map_eq_some_iff.mp hx'
      subst ex
      obtain ⟨t, et⟩ : ∃ t, ts[i]? = some t := ⟨_, List.getElem?_eq_getElem (by have := (List.getElem?_eq_some_iff.mp ea).1; omega)⟩
      obtain ⟨t0, t1, ha⟩ := hp4 i a t ea et
      refine ⟨a, _, rfl, SqT.of (s' _ _ ha), rfl, _, _, rfl, _, _, rfl, rfl, rfl, ?_⟩
      refine ⟨_, rfl, _, rfl, t, n, rfl, rfl, hm t t0 t1, _, rfl, _, rfl, 0, n, rfl, rfl, hm 0 (by decide) (by decide), two_line, fun q hq => ?_⟩
      refine kR _ _ (same_new hq) ⟨q, t * n, rfl, ?_, by rw [List.getElem?_map, et]; rfl, ?_⟩
      · rintro rfl
        obtain ⟨l, hl⟩ := hl'
        rw [hq] at hl
        cases hl
      · rw [upd_same]
        show some (HO.tup [.int (t * n), .int (0 * n)]) = _
        rw [Int.zero_mul]
    · have hC2 := hp5 H2 D ys hD2 (by rw [hl2, List.length_map]) hr2
      have hx2 := s2 _ _ (upd_same (H := H) (a := x) (o := .ins CG dx of1))
      refine ⟨_, rfl, x, CG, dx, of1, rfl, hx2, T.cG, T.n_corners, (by decide), ?_⟩
      rw [of_put (of_2 D)]
      have F2 : Fx x H (upd H2 x (.ins CG dx (of2 D))) := (F1.same s2).trans (Fx.put hx2 trivial)
      have F23 : Fx x H2 (upd H2 x (.ins CG dx (of2 D))) := Fx.put hx2 trivial
      have hf3 := (kp_fx F2) _ _ hf nv_tup
      have hC3 := hC2.kp (kp_fx F23)
      -- self.shut = fence[2]
      refine ⟨_, rfl, f, _, 2, _, rfl, rfl, SqT.of hf3, atI_nat (j := 2) rfl, _, rfl, x, CG, dx, of2 D, rfl, upd_same, T.cG, T.n_shut, (by show 2 < 1000; decide), ?_⟩
      rw [of_put (of_3 D z)]
      have F34 : Fx x (upd H2 x (.ins CG dx (of2 D))) (upd (upd H2 x (.ins CG dx (of2 D))) x (.ins CG dx (of3 D z))) := Fx.put upd_same trivial
      have hC4 := hC3.kp (kp_fx F34)
      -- self.pairs = pairs_around(self.corners)
      refine ⟨_, rfl, x, CG, dx, of3 D z, _, rfl, upd_same, T.cG, T.n_corners, of3_c D z, D, S * n, rfl, hC4, fun l H5 s5 hP5 => ?_⟩
      have hx5 := s5 _ _ upd_same
      refine ⟨_, rfl, x, CG, dx, of3 D z, rfl, hx5, T.cG, T.n_pairs, (by show 3 < 1000; decide), ?_⟩
      rw [of_put (of_4 D z l)]
      have F5 : Fx x H5 (upd H5 x (.ins CG dx (ofs D z l))) := Fx.put hx5 trivial
      have FF : Fx x H (upd H5 x (.ins CG dx (ofs D z l))) := (((F2.trans F34).same s5)).trans F5
      refine k D z l _ FF upd_same ((hC4.kp (kp_same s5)).kp (kp_fx F5)) ((kp_fx FF) _ _ hz nv_nil) ?_
      obtain ⟨t, p, q, g1, g2, g3, g4⟩ := hP5
      have kk := kp_fx F5
      exact ⟨t, p, q, kk _ _ g1 nv_refs, kk _ _ g2 nv_tup, kk _ _ g3 nv_tup, kk _ _ g4 nv_tup⟩
/-! ### the methods of a grown fence -/
def sp_corner (CG : Addr) : Sp := fun vs H Q _ => ∃ (x dx c : Addr) (fs : List (Str × V)), vs = [.ref x, .int 0, .non] ∧ H x = some (.ins CG dx fs) ∧ fs.lookup ("corners" : Str) = some (.ref c) ∧ fs.lookup ("bottom" : Str) = some (.int 1) ∧ CornersAt H c 0 ∧ Q (.bl true) H
theorem corner0 {H : Hp} {c : Addr} (h : CornersAt H c 0) : ∃ p : Addr, H c = some (.lst ([p].map V.ref)) ∧ H p = some (.tup [.int 0, .int 0]) := by
  rcases h with ⟨h, _⟩ | ⟨_, p, h1, h2⟩
  · omega
  · exact ⟨p, h1, h2⟩
theorem d_Outline_is_corner_stake (T : Txt P K mg CF CG CI) : DM P w K mg base CG "is_corner_stake" 1 ["self", "spot", "row"] (sp_corner CG) := by
  refine T.m_Outline_is_corner_stake.ok sc_Outline_is_corner_stake (fun _ _ _ _ _ _ us hl => match us, hl with | [_, _, _], _ => rfl) ?_ (fun f cdv A outer s H vs Q E hr h => ?_)
  · rintro vs H Q E ⟨x, dx, c, fs, rfl, _⟩; rfl
  · obtain ⟨x, dx, c, fs, rfl, hx, l1, l2, hc, k⟩ := h
    refine ⟨_, (pss_cons (ps_asg (pe_ix (r := rIxL K) ix_list (pe_fld (pv 0) rfl) (pv 1) (fun _ _ => rfl)) (pg_tup rfl (pgs_cons (pg_name (i := 3) sc_Outline_is_corner_stake.nd rfl (Or.inl rfl)) (pgs_cons (pg_name (i := 4) sc_Outline_is_corner_stake.nd rfl (Or.inl rfl)) pgs_nil))))
      (pss_one (ps_ret (pe_and (pe_chain op_eq op_eq (pe_op op_mod (pv 3) (pe_fld (pv 0) rfl)) pe_int (pe_op op_mod (pv 4) (pe_fld (pv 0) rfl))) (pe_one (pe_or (pe_cmpR op_isN (pv 2) pe_non (nomark _)) (pe_one pe_no))))))), ?_⟩
    obtain ⟨p, h1, h2⟩ := corner0 hc
    refine ⟨_, rfl, x, CG, dx, fs, _, rfl, hx, T.cG, T.n_corners, l1, _, rfl, c, _, 0, _, rfl, rfl, SqL.of h1, atI_nat (j := 0) rfl, p, _, rfl, SqT.of h2, rfl, _, _, rfl, _, _, rfl, rfl, ?_⟩
    refine ⟨_, rfl, _, rfl, x, CG, dx, fs, _, rfl, hx, T.cG, T.n_bottom, l2, 0, 1, rfl, rfl, (by show (0 : Int) < 1; decide), rfl, true, rfl, iteT ?_⟩
    refine ⟨_, rfl, _, rfl, x, CG, dx, fs, _, rfl, hx, T.cG, T.n_bottom, l2, 0, 1, rfl, rfl, (by show (0 : Int) < 1; decide), rfl, true, rfl, iteT ?_⟩
    refine ⟨_, rfl, rfl, true, rfl, iteT ?_⟩
    exact k
def sp_side_span (CG : Addr) : Sp := fun vs H Q _ => ∃ (x dx l : Addr) (fs : List (Str × V)) (S : Int), vs = [.ref x, .int 0] ∧ H x = some (.ins CG dx fs) ∧ fs.lookup ("pairs" : Str) = some (.ref l) ∧ fs.lookup ("bottom" : Str) = some (.int 1) ∧ PairsAt H l S ∧ 0 < S ∧ S ≤ far ∧
  ∀ t H', Same H H' → H' t = some (.tup [.int 0, .int S, .int 0, .int 0]) → Q (.ref t) H'
theorem d_Outline_side_span (T : Txt P K mg CF CG CI) : DM P w K mg base CG "side_span" 3 ["self", "side"] (sp_side_span CG) := by
  refine T.m_Outline_side_span.ok sc_Outline_side_span (fun _ _ _ _ _ _ us hl => match us, hl with | [_, _], _ => rfl) ?_ (fun f cdv A outer s H vs Q E hr h => ?_)
  · rintro vs H Q E ⟨x, dx, c, fs, S, rfl, _⟩; rfl
  · obtain ⟨x, dx, l, fs, S, rfl, hx, l1, l2, ⟨t, p, q, g1, g2, g3, g4⟩, hS, hS2, k⟩ := h
    refine ⟨_, (pss_cons (ps_asg (pe_ix (r := rIxL K) ix_list (pe_fld (pv 0) rfl) (pv 1) (fun _ _ => rfl)) (pg_tup rfl (pgs_cons (pg_name (i := 2) sc_Outline_side_span.nd rfl (Or.inl rfl)) (pgs_cons (pg_name (i := 3) sc_Outline_side_span.nd rfl (Or.inl rfl)) pgs_nil))))
      (pss_one (ps_ret (pe_g (d_span_of T) hr (by rfl) (pa_cons (pe_fld (pv 0) rfl) (pa_cons (pv 2) (pa_cons (pv 3) pa_nil))))))), ?_⟩
    refine ⟨_, rfl, x, CG, dx, fs, _, rfl, hx, T.cG, T.n_pairs, l1, _, rfl, l, _, 0, _, rfl, rfl, SqL.of g1, atI_nat (j := 0) rfl, t, _, rfl, SqT.of g2, rfl, _, _, rfl, _, _, rfl, rfl, ?_⟩
    refine ⟨_, rfl, x, CG, dx, fs, _, rfl, hx, T.cG, T.n_bottom, l2, _, rfl, _, rfl, ?_⟩
    exact ⟨p, q, S, rfl, g3, g4, hS, hS2, k⟩
end
end Gf
namespace Gf
open PySem PySem.Spec PyProof.Rows L2
section
variable {P : Program} {w : World} {K : PySem.W.Frag} {mg : Str → Option Value} {base : Heap} {CF CG CI : Addr}

/-! ### Grown.__init__ -/
theorem sc_Grown_init : SupScope N_Grown_init (defScope s_Grown_init) where
  kind := rfl
  co := rfl
  gen := rfl
  nd := by decide +kernel
  n0 := rfl
  n1 := rfl
  n2 := rfl
  cells := fun _ _ => rfl
  cells0 := fun _ => rfl
  kself := by kernel_rfl
  kf := by kernel_rfl
  ks := by kernel_rfl
  kc := by kernel_rfl
  ksup := by kernel_rfl
  only := by decide +kernel
def gf5 (c z l : Addr) (a : Int) : List (Str × V) := [("bottom", .int 1), ("corners", .ref c), ("shut", .ref z), ("pairs", .ref l), ("lowest", .int a)]
def gf6 (c z l : Addr) (a b : Int) : List (Str × V) := [("bottom", .int 1), ("corners", .ref c), ("shut", .ref z), ("pairs", .ref l), ("lowest", .int a), ("highest", .int b)]
def gf7 (c z l : Addr) (a b : Int) (r : Addr) : List (Str × V) := [("bottom", .int 1), ("corners", .ref c), ("shut", .ref z), ("pairs", .ref l), ("lowest", .int a), ("highest", .int b), ("rights", .ref r)]
def gf8 (c z l : Addr) (a b : Int) (r m : Addr) : List (Str × V) := [("bottom", .int 1), ("corners", .ref c), ("shut", .ref z), ("pairs", .ref l), ("lowest", .int a), ("highest", .int b), ("rights", .ref r), ("lefts", .ref m)]
def gf9 (c z l : Addr) (a b : Int) (r m : Addr) (v : V) : List (Str × V) := [("bottom", .int 1), ("corners", .ref c), ("shut", .ref z), ("pairs", .ref l), ("lowest", .int a), ("highest", .int b), ("rights", .ref r), ("lefts", .ref m), ("whole", v)]
def gfs (c z l : Addr) (a b : Int) (r m : Addr) (v : V) (sp : Addr) : List (Str × V) := [("bottom", .int 1), ("corners", .ref c), ("shut", .ref z), ("pairs", .ref l), ("lowest", .int a), ("highest", .int b), ("rights", .ref r), ("lefts", .ref m), ("whole", v), ("spans", .ref sp)]
theorem gf_5 (c z l : Addr) (a : Int) : putF "lowest" (.int a) (ofs c z l) = gf5 c z l a := by kernel_rfl
theorem gf_6 (c z l : Addr) (a b : Int) : putF "highest" (.int b) (gf5 c z l a) = gf6 c z l a b := by kernel_rfl
theorem gf_7 (c z l : Addr) (a b : Int) (r : Addr) : putF "rights" (.ref r) (gf6 c z l a b) = gf7 c z l a b r := by kernel_rfl
theorem gf_8 (c z l : Addr) (a b : Int) (r m : Addr) : putF "lefts" (.ref m) (gf7 c z l a b r) = gf8 c z l a b r m := by kernel_rfl
theorem gf_9 (c z l : Addr) (a b : Int) (r m : Addr) (v : V) : putF "whole" v (gf8 c z l a b r m) = gf9 c z l a b r m v := by kernel_rfl
theorem gf_10 (c z l : Addr) (a b : Int) (r m : Addr) (v : V) (sp : Addr) : putF "spans" (.ref sp) (gf9 c z l a b r m v) = gfs c z l a b r m v sp := by kernel_rfl
theorem ofs_c (c z l : Addr) : (ofs c z l).lookup ("corners" : Str) = some (.ref c) := by kernel_rfl
theorem ofs_b (c z l : Addr) : (ofs c z l).lookup ("bottom" : Str) = some (.int 1) := by kernel_rfl
theorem gf6_c (c z l : Addr) (a b : Int) : (gf6 c z l a b).lookup ("corners" : Str) = some (.ref c) := by kernel_rfl
theorem gf6_b (c z l : Addr) (a b : Int) : (gf6 c z l a b).lookup ("bottom" : Str) = some (.int 1) := by kernel_rfl
theorem gf7_b (c z l : Addr) (a b : Int) (r : Addr) : (gf7 c z l a b r).lookup ("bottom" : Str) = some (.int 1) := by kernel_rfl
theorem gf8_b (c z l : Addr) (a b : Int) (r m : Addr) : (gf8 c z l a b r m).lookup ("bottom" : Str) = some (.int 1) := by kernel_rfl
theorem gf8_c (c z l : Addr) (a b : Int) (r m : Addr) : (gf8 c z l a b r m).lookup ("corners" : Str) = some (.ref c) := by kernel_rfl
theorem gf8_p (c z l : Addr) (a b : Int) (r m : Addr) : (gf8 c z l a b r m).lookup ("pairs" : Str) = some (.ref l) := by kernel_rfl
theorem gf8_s (c z l : Addr) (a b : Int) (r m : Addr) : (gf8 c z l a b r m).lookup ("side_span" : Str) = none := by kernel_rfl
def GrownAt (CG : Addr) (H : Hp) (x : Addr) (S : Int) : Prop := ∃ (dx c z l : Addr) (a b : Int) (r m : Addr) (v : V) (sp : Addr), H x = some (.ins CG dx (gfs c z l a b r m v sp)) ∧ CornersAt H c S ∧ H z = some (.lst []) ∧ (0 < S → ∃ t : Addr, v = .ref t ∧ H t = some (.tup [.int 0, .int S, .int 0, .int 0]))
def sp_grown (CG : Addr) : Sp := fun vs H Q _ => ∃ (x dx f : Addr) (S n : Int), vs = [.ref x, .ref f, .int n] ∧ H x = some (.ins CG dx []) ∧ FenceAt H f S ∧ S ≤ big ∧ 1 ≤ n ∧ n ≤ big ∧ ∀ H', Fx x H H' → GrownAt CG H' x (S * n) → Q .non H'
/-- the heights of the corners -/
theorem corners_hs {H : Hp} {c : Addr} {S : Int} (h : CornersAt H c S) : ∃ (pts : List Addr) (ts : List Int), H c = some (.lst (pts.map V.ref)) ∧ 1 ≤ pts.length ∧ pts.length ≤ 2 ∧ pts.length = ts.length ∧ (0 < S → pts.length = 2) ∧ (S = 0 → pts.length = 1) ∧
    (∀ (i : Nat) (a : Addr), pts[i]? = some a → ∃ t : Int, ts[i]? = some t ∧ H a = some (.tup [.int t, .int 0])) := by
  rcases h with ⟨h0, p, q, h1, h2, h3⟩ | ⟨h0, p, h1, h2⟩
  · refine ⟨[p, q], [0, S], h1, by show 1 ≤ 2; decide, Nat.le_refl _, rfl, fun _ => rfl, fun e => by omega, fun i a e1 => ?_⟩
    match i, e1 with
    | 0, e1 => cases e1; exact ⟨_, rfl, h2⟩
    | 1, e1 => cases e1; exact ⟨_, rfl, h3⟩
  · refine ⟨[p], [0], h1, Nat.le_refl _, by show 1 ≤ 2; decide, rfl, fun e => by omega, fun _ => rfl, fun i a e1 => ?_⟩
    match i, e1 with
    | 0, e1 => cases e1; exact ⟨_, rfl, h2⟩
theorem rep_get {α : Type} {n i : Nat} {a y : α} (h : (List.replicate n a)[i]? = some y) : y = a := by
  rw [List.getElem?_replicate] at h
  split at h
  · exact (Option.some.inj h).symm
  · cases h
theorem in_rep {n : Nat} {m : Int} (h : m ∈ List.replicate n (0 : Int)) : m = 0 := (List.mem_replicate.mp h).2
def tNoT : TT := fun _ _ _ => False
theorem pt_no {X : Cx} {e : Expr} : PT X e tNoT := ⟨fun _ _ _ _ _ _ h => h.elim⟩
theorem d_Grown_init (T : Txt P K mg CF CG CI) : DC P w K mg base "Grown" CG 4 ["self", "fence", "size"] (sp_grown CG) := by
  obtain ⟨f, f2, fd2, cda, cc, fd, U, FO, M, hmg⟩ := T.k_Grown
  have bO : Binds K fd2 ["self", "fence", "size"] [] := FO.binds fun _ _ _ _ _ _ us hl => match us, hl with | [_, _, _], _ => rfl
  have bG : Binds K fd ["self", "fence", "size"] [] := by
    obtain ⟨oc, od, kV, doc, pm, an, ct, osl, rfl, _⟩ := U.ex
    exact .all fun us hl => match us, hl with | [_, _, _], _ => rfl
  refine ⟨f, fd, ?_, M, hmg, bG⟩
  refine ok_super (k := 3) (N := N_Grown_init) (spO := sp_outline CG) sc_Grown_init U (by decide) T.cG ⟨_, rfl, rfl⟩ (fn_outline T FO) bO (by decide) rfl (fun L => ⟨_, rfl⟩) (fun env => rfl) T.noSuper ?_ (fun A outer s H vs Q E hr h => ?_)
  · rintro vs H Q E ⟨x, dx, f, S, n, rfl, _⟩; rfl
  · obtain ⟨x, dx, fe, S, n, rfl, hx, hf, hS, hn1, hn2, k⟩ := h
    refine ⟨x, dx, [], .ref fe, .int n, _, rfl, hx, pa_cons (pv 1) (pa_cons (pv 2) pa_nil), rfl, rfl, (pss_cons (ps_setLc (i := 3) (own := [("x", 4), ("y", 5)]) (g := (gTup K 2 (gCons (gName 4) (gCons (gName 5) gNil)))) rfl sc_Grown_init.nd rfl rfl (sw_true rfl rfl rfl (by decide +kernel)) (pi_list (pe_fld (pv 0) rfl)) (blkOk_by (own := [("x", 4), ("y", 5)]) (N := N_Grown_init) (sc := defScope s_Grown_init) (by decide +kernel)) (fun _ _ _ _ _ => by exact (pg_tup rfl (pgs_cons (pg_name (i := 4) sc_Grown_init.nd rfl (Or.inl rfl)) (pgs_cons (pg_name (i := 5) sc_Grown_init.nd rfl (Or.inl rfl)) pgs_nil)))) (fun _ _ _ _ _ => by exact pts_nil) (fun _ _ _ _ _ => by exact (pv 5)))
      (pss_cons (ps_asg (pe_tup (pa_cons (pe_g (d_round_up T) hr (by rfl) (pa_cons (pe_callB (cr_min rfl) (by rfl) T.z_min (by decide +kernel) (pa_cons (pv 3) pa_nil)) (pa_cons (pe_fld (pv 0) rfl) pa_nil))) (pa_cons (pe_op op_fdivW (pe_callB (cr_max rfl) (by rfl) T.z_max (by decide +kernel) (pa_cons (pv 3) pa_nil)) (pe_fld (pv 0) rfl)) pa_nil))) (pg_tup rfl (pgs_cons (pg_fld (pv 0)) (pgs_cons (pg_fld (pv 0)) pgs_nil))))
      (pss_cons (ps_set (i := 6) sc_Grown_init.nd rfl (Or.inl rfl) (pe_ifExp (pt_cmpR op_gt (pe_callB call_len_seq (by rfl) T.z_len (by decide +kernel) (pa_cons (pe_fld (pv 0) rfl) pa_nil)) pe_int (nomark _)) pe_no (pe_lst pa_nil)))
      (pss_cons (ps_fld (pv 0) (pe_g (d_edges_of T) hr (by rfl) (pa_cons (pe_fld (pv 0) rfl) (pa_cons (pe_lc (own := [("pair", 7)]) (g := (gName 7)) rfl sc_Grown_init.nd (pi_list (pv 6)) (blkOk_by (own := [("pair", 7)]) (N := N_Grown_init) (sc := defScope s_Grown_init) (by decide +kernel)) (fun _ _ _ _ _ => by exact (pg_name (i := 7) sc_Grown_init.nd rfl (Or.inl rfl))) (fun _ _ _ _ _ => by exact (pts_one pt_no)) (fun _ _ _ _ _ => by exact pe_no)) pa_nil))) rfl)
      (pss_cons (ps_fld (pv 0) (pe_g (d_edges_of T) hr (by rfl) (pa_cons (pe_fld (pv 0) rfl) (pa_cons (pe_lc (own := [("one", 8), ("two", 9)]) (g := (gTup K 2 (gCons (gName 8) (gCons (gName 9) gNil)))) rfl sc_Grown_init.nd (pi_list (pv 6)) (blkOk_by (own := [("one", 8), ("two", 9)]) (N := N_Grown_init) (sc := defScope s_Grown_init) (by decide +kernel)) (fun _ _ _ _ _ => by exact (pg_tup rfl (pgs_cons (pg_name (i := 8) sc_Grown_init.nd rfl (Or.inl rfl)) (pgs_cons (pg_name (i := 9) sc_Grown_init.nd rfl (Or.inl rfl)) pgs_nil)))) (fun _ _ _ _ _ => by exact (pts_one pt_no)) (fun _ _ _ _ _ => by exact pe_no)) pa_nil))) rfl)
      (pss_cons (ps_fld (pv 0) (pe_ifExp (pt_cmpR op_eq (pe_callB call_len_seq (by rfl) T.z_len (by decide +kernel) (pa_cons (pe_fld (pv 0) rfl) pa_nil)) pe_int (nomark _)) (pe_m T.cG (d_Outline_side_span T) hr (pv 0) (pa_cons pe_int pa_nil)) pe_non) rfl)
      (pss_one (ps_fld (pv 0) (pe_ifExp (pt_cmpR (op_neD hr.units) (pv 6) (pe_lst pa_nil) (nomark _)) pe_no (pe_lst pa_nil)) rfl)))))))), ?_⟩
    refine ⟨x, dx, fe, S, n, rfl, hx, hf, hS, hn1, hn2, fun c z l H1 F1 hx1 hc1 hz1 hp1 => ?_⟩
    have vx : ∃ o, H x = some o ∧ Var o := ⟨_, hx, trivial⟩
    obtain ⟨pts, ts, q1, q2, q3, q4, q5, q6, q7⟩ := corners_hs hc1
    -- heights
    refine ⟨_, rfl, x, CG, dx, ofs c z l, _, rfl, hx1, T.cG, T.n_corners, ofs_c c z l, c, rfl, ⟨_, SqL.of q1⟩, fun D hD => lcL (xs := pts.map V.ref) (List.replicate pts.length (.int 0)) hD q1 (by rw [List.length_replicate, List.length_map]) (by rw [List.length_map]; omega) (fun i y x' H' R hx' hy s' kR => ?_) fun H2 s2 hD2 => ?_⟩
    · obtain rfl := rep_get hy
      rw [List.getElem?_map] at hx'
      obtain ⟨a, ea, ex⟩ := Option.map_eq_some_iff.mp hx'
      subst ex
      obtain ⟨t, et, ha⟩ := q7 i a ea
      refine ⟨a, _, rfl, SqT.of (s' _ _ ha), rfl, _, _, rfl, _, _, rfl, rfl, rfl, ?_⟩
      exact ⟨_, rfl, kR _ (Same.refl _)⟩
    · have hDi : H2 D = some (.lst ((List.replicate pts.length (0 : Int)).map V.int)) := by rw [hD2, List.map_replicate]
      have lenD : 0 < (List.replicate pts.length (0 : Int)).length := by rw [List.length_replicate]; omega
      have hx2 := s2 _ _ hx1
      -- lowest, highest
      refine ⟨_, rfl, D, _, rfl, SqL.of hDi, lenD, fun m hm _ => ?_⟩
      obtain rfl := in_rep hm
      refine ⟨_, rfl, x, CG, dx, ofs c z l, _, rfl, hx2, T.cG, T.n_bottom, ofs_b c z l, 0, 1, rfl, rfl, ?_⟩
      refine ⟨_, rfl, D, _, rfl, SqL.of hDi, lenD, fun m hm _ => ?_⟩
      obtain rfl := in_rep hm
      refine ⟨_, rfl, x, CG, dx, ofs c z l, _, rfl, hx2, T.cG, T.n_bottom, ofs_b c z l, 0, 1, rfl, rfl, far_div (by decide) far_one, two_line, fun t ht => ?_⟩
      have s3 := same_new (o := .tup [.int 0, .int (0 / 1)]) ht
      have hx3 := s3 _ _ hx2
      refine ⟨t, _, rfl, SqT.of upd_same, rfl, _, _, rfl, _, rfl, x, CG, dx, ofs c z l, rfl, hx3, T.cG, T.n_lowest, (by show 4 < 1000; decide), ?_⟩
      rw [of_put (gf_5 c z l 0)]
      refine ⟨_, _, rfl, _, rfl, x, CG, dx, gf5 c z l 0, rfl, upd_same, T.cG, T.n_highest, (by show 5 < 1000; decide), rfl, ?_⟩
      rw [of_put (gf_6 c z l 0 (0 / 1))]
      rw [upd_upd]
      have F3 : Fx x H (upd (upd H2 t (.tup [.int 0, .int (0 / 1)])) x (.ins CG dx (gf6 c z l 0 (0 / 1)))) := ((F1.same s2).same s3).trans (Fx.put hx3 trivial)
      have F13 : Kp H1 (upd (upd H2 t (.tup [.int 0, .int (0 / 1)])) x (.ins CG dx (gf6 c z l 0 (0 / 1)))) := ((kp_same s2).trans (kp_same s3)).trans (kp_fx (Fx.put hx3 trivial))
      have g1 := F13 _ _ q1 nv_refs
      have hl : ((pts.map V.ref).length : Int) = pts.length := by rw [List.length_map]
      -- field
      refine ⟨_, rfl, x, CG, dx, gf6 c z l 0 (0 / 1), _, rfl, upd_same, T.cG, T.n_corners, gf6_c .., c, _, rfl, .inl (SqL.of g1), _, _, rfl, rfl, _, rfl, iteDn (by rw [hl]; omega) ⟨Nat.zero_le _, fun q hq => ?_⟩⟩
      have s4 := same_new (o := .lst []) hq
      have hx4 := s4 _ _ upd_same
      have F4 := F3.same s4
      have F14 := F13.trans (kp_same s4)
      -- rights
      refine ⟨_, rfl, x, CG, dx, gf6 c z l 0 (0 / 1), _, rfl, hx4, T.cG, T.n_bottom, gf6_b .., _, rfl, q, rfl, ⟨_, SqL.of upd_same⟩, fun D5 hD5 => lcNil (J := Itl K q) hD5 (fun H' s' => ⟨[], SqL.of (s' _ _ upd_same), Nat.le_refl _⟩) fun H5 s5 hN5 => ?_⟩
      refine ⟨D5, 1, rfl, hN5, fun r H6 s6 hr6 => ?_⟩
      have hx6 := s6 _ _ (s5 _ _ hx4)
      refine ⟨_, rfl, x, CG, dx, gf6 c z l 0 (0 / 1), rfl, hx6, T.cG, T.n_rights, (by show 6 < 1000; decide), ?_⟩
      rw [of_put (gf_7 c z l 0 (0 / 1) r)]
      have P6 : Fx x H6 (upd H6 x (.ins CG dx (gf7 c z l 0 (0 / 1) r))) := Fx.put hx6 trivial
      have F7 := ((F4.same s5).same s6).trans P6
      have F17 := ((F14.trans (kp_same s5)).trans (kp_same s6)).trans (kp_fx P6)
      have hq7 := kp_fx P6 _ _ (s6 _ _ (s5 _ _ (upd_same (H := upd (upd H2 t (.tup [.int 0, .int (0 / 1)])) x (.ins CG dx (gf6 c z l 0 (0 / 1)))) (a := q) (o := .lst [])))) nv_nil
      -- lefts
      refine ⟨_, rfl, x, CG, dx, gf7 c z l 0 (0 / 1) r, _, rfl, upd_same, T.cG, T.n_bottom, gf7_b .., _, rfl, q, rfl, ⟨_, SqL.of hq7⟩, fun D8 hD8 => lcNil (J := Itl K q) hD8 (fun H' s' => ⟨[], SqL.of (s' _ _ hq7), Nat.le_refl _⟩) fun H8 s8 hN8 => ?_⟩
      refine ⟨D8, 1, rfl, hN8, fun m H9 s9 hm9 => ?_⟩
      have hx9 := s9 _ _ (s8 _ _ upd_same)
      refine ⟨_, rfl, x, CG, dx, gf7 c z l 0 (0 / 1) r, rfl, hx9, T.cG, T.n_lefts, (by show 7 < 1000; decide), ?_⟩
      rw [of_put (gf_8 c z l 0 (0 / 1) r m)]
      have P9 : Fx x H9 (upd H9 x (.ins CG dx (gf8 c z l 0 (0 / 1) r m))) := Fx.put hx9 trivial
      have F10 := ((F7.same s8).same s9).trans P9
      have F110 := ((F17.trans (kp_same s8)).trans (kp_same s9)).trans (kp_fx P9)
      have hq10 := kp_fx P9 _ _ (s9 _ _ (s8 _ _ hq7)) nv_nil
      have g10 := F110 _ _ q1 nv_refs
      have hS0 := hc1.nn
      have fin : ∀ (v : V) (H11 : Hp), Fx x H H11 → Kp H1 H11 → H11 x = some (.ins CG dx (gf8 c z l 0 (0 / 1) r m)) → (0 < S * n → ∃ t : Addr, v = .ref t ∧ H11 t = some (.tup [.int 0, .int (S * n), .int 0, .int 0])) → H11 q = some (.lst []) →
          ∀ sp H13, Same (upd H11 x (.ins CG dx (gf9 c z l 0 (0 / 1) r m v))) H13 → Q .non (upd H13 x (.ins CG dx (gfs c z l 0 (0 / 1) r m v sp))) := by
        intro v H11 f11 k11 x11 w11 q11 sp H13 s13
        have p11 : Fx x H11 (upd H11 x (.ins CG dx (gf9 c z l 0 (0 / 1) r m v))) := Fx.put x11 trivial
        have p13 : Fx x H13 (upd H13 x (.ins CG dx (gfs c z l 0 (0 / 1) r m v sp))) := Fx.put (s13 _ _ upd_same) trivial
        have kk := ((kp_fx p11).trans (kp_same s13)).trans (kp_fx p13)
        refine k _ (((f11.trans p11).same s13).trans p13) ⟨dx, c, z, l, 0, 0 / 1, r, m, v, sp, upd_same, hc1.kp (k11.trans kk), (k11.trans kk) _ _ hz1 nv_nil, fun h => ?_⟩
        obtain ⟨t, e, ht⟩ := w11 h
        exact ⟨t, e, kk _ _ ht nv_tup⟩
      -- whole
      refine ⟨_, rfl, x, CG, dx, gf8 c z l 0 (0 / 1) r m, _, rfl, upd_same, T.cG, T.n_corners, gf8_c .., c, _, rfl, .inl (SqL.of g10), rfl, _, rfl, ?_⟩
      have last : ∀ (v : V) (H11 : Hp) (y : H11 x = some (.ins CG dx (gf8 c z l 0 (0 / 1) r m))) (q11 : H11 q = some (.lst [])),
          (upd H11 x (.ins CG dx (gf9 c z l 0 (0 / 1) r m v))) q = some (.lst []) := fun v H11 y q11 => kp_fx (Fx.put y trivial) _ _ q11 nv_nil
      rcases Int.lt_or_eq_of_le hS0 with h | h
      · have e2 : pts.length = 2 := q5 h
        refine iteD (by show V.int ((pts.map V.ref).length : Int) = V.int 2; rw [hl, e2]; rfl) ?_
        have hp10 : PairsAt (upd H9 x (.ins CG dx (gf8 c z l 0 (0 / 1) r m))) l (S * n) := by
          obtain ⟨t1, p1, p2, a1, a2, a3, a4⟩ := hp1
          exact ⟨t1, p1, p2, F110 _ _ a1 nv_refs, F110 _ _ a2 nv_tup, F110 _ _ a3 nv_tup, F110 _ _ a4 nv_tup⟩
        have hfar : S * n ≤ far := by
          have b1 : S * n ≤ big * n := Int.mul_le_mul_of_nonneg_right hS (by omega)
          have b2 : big * n ≤ big * big := Int.mul_le_mul_of_nonneg_left hn2 (by decide)
          have b3 : big * big = far := by decide
          omega
        refine ⟨_, rfl, x, dx, _, rfl, upd_same, gf8_s .., x, dx, l, _, S * n, rfl, upd_same, gf8_p .., gf8_b .., hp10, h, hfar, fun t11 H11 s11 ht11 => ?_⟩
        have x11 := s11 _ _ upd_same
        have q11 := s11 _ _ hq10
        refine ⟨_, rfl, x, CG, dx, gf8 c z l 0 (0 / 1) r m, rfl, x11, T.cG, T.n_whole, (by show 8 < 1000; decide), ?_⟩
        rw [of_put (gf_9 c z l 0 (0 / 1) r m (.ref t11))]
        have q12 := last (.ref t11) H11 x11 q11
        refine ⟨_, rfl, Nat.zero_le _, fun e he => ?_⟩
        have se := same_new (o := .lst []) he
        refine ⟨.list [], .list [], .lst (SqL.of (se _ _ q12)) .nil, .lst (SqL.of upd_same) .nil, rfl, rfl, _, rfl, iteF ⟨Nat.zero_le _, fun sp hsp => ?_⟩⟩
        have ss := same_new (o := .lst []) hsp
        refine ⟨_, rfl, x, CG, dx, gf9 c z l 0 (0 / 1) r m (.ref t11), rfl, ss _ _ (se _ _ upd_same), T.cG, T.n_spans, (by show 9 < 1000; decide), ?_⟩
        rw [of_put (gf_10 c z l 0 (0 / 1) r m (.ref t11) sp)]
        exact fin (.ref t11) H11 (F10.same s11) (F110.trans (kp_same s11)) x11 (fun _ => ⟨t11, rfl, ht11⟩) q11 sp _ (se.trans ss)
      · have e2 : pts.length = 1 := q6 h.symm
        refine iteDn (by show ¬ V.int ((pts.map V.ref).length : Int) = V.int 2; rw [hl, e2]; intro q; cases q) ?_
        have x11 := upd_same (H := H9) (a := x) (o := .ins CG dx (gf8 c z l 0 (0 / 1) r m))
        refine ⟨_, rfl, x, CG, dx, gf8 c z l 0 (0 / 1) r m, rfl, upd_same, T.cG, T.n_whole, (by show 8 < 1000; decide), ?_⟩
        rw [of_put (gf_9 c z l 0 (0 / 1) r m .non)]
        have q12 := last .non _ x11 hq10
        refine ⟨_, rfl, Nat.zero_le _, fun e he => ?_⟩
        have se := same_new (o := .lst []) he
        refine ⟨.list [], .list [], .lst (SqL.of (se _ _ q12)) .nil, .lst (SqL.of upd_same) .nil, rfl, rfl, _, rfl, iteF ⟨Nat.zero_le _, fun sp hsp => ?_⟩⟩
        have ss := same_new (o := .lst []) hsp
        refine ⟨_, rfl, x, CG, dx, gf9 c z l 0 (0 / 1) r m .non, rfl, ss _ _ (se _ _ upd_same), T.cG, T.n_spans, (by show 9 < 1000; decide), ?_⟩
        rw [of_put (gf_10 c z l 0 (0 / 1) r m .non sp)]
        exact fin .non _ F10 F110 x11 (fun h' => by omega) hq10 sp _ (se.trans ss)
end
end Gf
namespace Gf
open PySem PySem.Spec PyProof.Rows L2
section
variable {P : Program} {w : World} {K : PySem.W.Frag} {mg : Str → Option Value} {base : Heap} {CF CG CI : Addr}

theorem gfs_c (c z l : Addr) (a b : Int) (r m : Addr) (v : V) (sp : Addr) : (gfs c z l a b r m v sp).lookup ("corners" : Str) = some (.ref c) := by kernel_rfl
theorem gfs_b (c z l : Addr) (a b : Int) (r m : Addr) (v : V) (sp : Addr) : (gfs c z l a b r m v sp).lookup ("bottom" : Str) = some (.int 1) := by kernel_rfl
theorem gfs_z (c z l : Addr) (a b : Int) (r m : Addr) (v : V) (sp : Addr) : (gfs c z l a b r m v sp).lookup ("shut" : Str) = some (.ref z) := by kernel_rfl
theorem gfs_w (c z l : Addr) (a b : Int) (r m : Addr) (v : V) (sp : Addr) : (gfs c z l a b r m v sp).lookup ("whole" : Str) = some v := by kernel_rfl
theorem gfs_1 (c z l : Addr) (a b : Int) (r m : Addr) (v : V) (sp : Addr) : (gfs c z l a b r m v sp).lookup ("closed_below" : Str) = none := by kernel_rfl
theorem gfs_2 (c z l : Addr) (a b : Int) (r m : Addr) (v : V) (sp : Addr) : (gfs c z l a b r m v sp).lookup ("shut_below" : Str) = none := by kernel_rfl
theorem gfs_3 (c z l : Addr) (a b : Int) (r m : Addr) (v : V) (sp : Addr) : (gfs c z l a b r m v sp).lookup ("is_corner_stake" : Str) = none := by kernel_rfl
theorem gfs_4 (c z l : Addr) (a b : Int) (r m : Addr) (v : V) (sp : Addr) : (gfs c z l a b r m v sp).lookup ("below" : Str) = none := by kernel_rfl
theorem GrownAt.same {H H' : Hp} {x : Addr} {S : Int} (s : Same H H') (h : GrownAt CG H x S) : GrownAt CG H' x S := by
  obtain ⟨dx, c, z, l, a, b, r, m, v, sp, hx, hc, hz, hw⟩ := h
  refine ⟨dx, c, z, l, a, b, r, m, v, sp, s _ _ hx, hc.kp (kp_same s), s _ _ hz, fun h => ?_⟩
  obtain ⟨t, e, ht⟩ := hw h
  exact ⟨t, e, s _ _ ht⟩
def sp_closed (CG : Addr) : Sp := fun vs H Q _ => ∃ (x : Addr) (S : Int), vs = [.ref x, .non] ∧ GrownAt CG H x S ∧ Q (.int (S + 1)) H
theorem d_Grown_closed_below (T : Txt P K mg CF CG CI) : DM P w K mg base CG "closed_below" 2 ["self", "row"] (sp_closed CG) := by
  refine T.m_Grown_closed_below.ok sc_Grown_closed_below (fun _ _ _ _ _ _ us hl => match us, hl with | [_, _], _ => rfl) ?_ (fun f cdv A outer s H vs Q E hr h => ?_)
  · rintro vs H Q E ⟨x, S, rfl, _⟩; rfl
  · obtain ⟨x, S, rfl, ⟨dx, c, z, l, a, b, r, m, v, sp, hx, hc, hz, hw⟩, k⟩ := h
    refine ⟨_, (pss_cons (ps_if (pt_cmpR op_eq (pe_callB call_len_seq (by rfl) T.z_len (by decide +kernel) (pa_cons (pe_fld (pv 0) rfl) pa_nil)) pe_int (nomark _)) (pss_one (ps_ret (pe_callTy call_int1 (by rfl) T.z_int (by decide +kernel) (pa_cons (pe_m T.cG (d_Outline_is_corner_stake T) hr (pv 0) (pa_cons pe_int (pa_cons (pv 1) pa_nil))) pa_nil)))) pss_nil)
      (pss_cons (ps_if (pt_cmpR op_eq (pe_callB call_len_seq (by rfl) T.z_len (by decide +kernel) (pa_cons (pe_fld (pv 0) rfl) pa_nil)) pe_int (nomark _)) (pss_one (ps_ret (pe_g (d_span_count T) hr (by rfl) (pa_cons (pe_fld (pv 0) rfl) (pa_cons (pv 1) pa_nil))))) pss_nil)
      pss_never)), ?_⟩
    obtain ⟨pts, ts, q1, q2, q3, q4, q5, q6, q7⟩ := corners_hs hc
    have hl : ((pts.map V.ref).length : Int) = pts.length := by rw [List.length_map]
    refine ⟨_, rfl, x, CG, dx, _, _, rfl, hx, T.cG, T.n_corners, gfs_c .., c, _, rfl, .inl (SqL.of q1), rfl, _, rfl, ?_⟩
    rcases Int.lt_or_eq_of_le hc.nn with h | h
    · have e2 : pts.length = 2 := q5 h
      refine iteDn (by show ¬ V.int ((pts.map V.ref).length : Int) = V.int 1; rw [hl, e2]; intro q; cases q) ?_
      refine ⟨_, rfl, x, CG, dx, _, _, rfl, hx, T.cG, T.n_corners, gfs_c .., c, _, rfl, .inl (SqL.of q1), rfl, _, rfl, iteD (by show V.int ((pts.map V.ref).length : Int) = V.int 2; rw [hl, e2]; rfl) ?_⟩
      obtain ⟨t, rfl, ht⟩ := hw h
      exact ⟨_, rfl, x, CG, dx, _, _, rfl, hx, T.cG, T.n_whole, gfs_w .., _, rfl, t, S, rfl, ht, hc.nn, k⟩
    · subst h
      have e2 : pts.length = 1 := q6 rfl
      refine iteD (by show V.int ((pts.map V.ref).length : Int) = V.int 1; rw [hl, e2]; rfl) ?_
      exact ⟨_, rfl, x, dx, _, rfl, hx, gfs_3 .., _, rfl, x, dx, c, _, rfl, hx, gfs_c .., gfs_b .., hc, .inr ⟨true, rfl, k⟩⟩
def sp_shut (CG : Addr) : Sp := fun vs H Q _ => ∃ (x : Addr) (S : Int), vs = [.ref x, .non] ∧ GrownAt CG H x S ∧ ∀ H', Same H H' → Q (.int 0) H'
theorem d_Grown_shut_below (T : Txt P K mg CF CG CI) : DM P w K mg base CG "shut_below" 1 ["self", "row"] (sp_shut CG) := by
  refine T.m_Grown_shut_below.ok sc_Grown_shut_below (fun _ _ _ _ _ _ us hl => match us, hl with | [_, _], _ => rfl) ?_ (fun f cdv A outer s H vs Q E hr h => ?_)
  · rintro vs H Q E ⟨x, S, rfl, _⟩; rfl
  · obtain ⟨x, S, rfl, ⟨dx, c, z, l, a, b, r, m, v, sp, hx, hc, hz, hw⟩, k⟩ := h
    refine ⟨_, (pss_cons (ps_if (pt_cmpR op_lt (pe_callB call_len_seq (by rfl) T.z_len (by decide +kernel) (pa_cons (pe_fld (pv 0) rfl) pa_nil)) pe_int (nomark _)) (pss_one (ps_ret (pe_callB call_len_seq (by rfl) T.z_len (by decide +kernel) (pa_cons (pe_lc (own := [("end", 2)]) (g := (gName 2)) rfl sc_Grown_shut_below.nd (pi_list (pe_fld (pv 0) rfl)) (blkOk_by (own := [("end", 2)]) (N := N_Grown_shut_below) (sc := defScope s_Grown_shut_below) (by decide +kernel)) (fun _ _ _ _ _ => by exact (pg_name (i := 2) sc_Grown_shut_below.nd rfl (Or.inl rfl))) (fun _ _ _ _ _ => by exact (pts_one pt_no)) (fun _ _ _ _ _ => by exact pe_no)) pa_nil)))) pss_nil)
      pss_never), ?_⟩
    obtain ⟨pts, ts, q1, q2, q3, q4, q5, q6, q7⟩ := corners_hs hc
    have hl : ((pts.map V.ref).length : Int) = pts.length := by rw [List.length_map]
    refine ⟨_, rfl, x, CG, dx, _, _, rfl, hx, T.cG, T.n_corners, gfs_c .., c, _, rfl, .inl (SqL.of q1), _, _, rfl, rfl, _, rfl, iteD (by rw [hl]; omega) ?_⟩
    refine ⟨_, rfl, x, CG, dx, _, _, rfl, hx, T.cG, T.n_shut, gfs_z .., z, rfl, ⟨_, SqL.of hz⟩, fun D hD => lcNil (J := Itl K z) hD (fun H' s' => ⟨[], SqL.of (s' _ _ hz), Nat.le_refl _⟩) fun H2 s2 hD2 => ?_⟩
    exact ⟨D, _, rfl, .inl (SqL.of hD2), k _ s2⟩
def sp_below (CG : Addr) : Sp := fun vs H Q _ => ∃ (x : Addr) (S : Int), vs = [.ref x, .non] ∧ GrownAt CG H x S ∧ ∀ H', Same H H' → Q (.int (S + 1)) H'
theorem d_Grown_below (T : Txt P K mg CF CG CI) : DM P w K mg base CG "below" 3 ["self", "row"] (sp_below CG) := by
  refine T.m_Grown_below.ok sc_Grown_below (fun _ _ _ _ _ _ us hl => match us, hl with | [_, _], _ => rfl) ?_ (fun f cdv A outer s H vs Q E hr h => ?_)
  · rintro vs H Q E ⟨x, S, rfl, _⟩; rfl
  · obtain ⟨x, S, rfl, hg, k⟩ := h
    refine ⟨_, (pss_one (ps_ret (pe_op op_sub (pe_m T.cG (d_Grown_closed_below T) hr (pv 0) (pa_cons (pv 1) pa_nil)) (pe_m T.cG (d_Grown_shut_below T) hr (pv 0) (pa_cons (pv 1) pa_nil))))), ?_⟩
    have hg' := hg
    obtain ⟨dx, c, z, l, a, b, r, m, v, sp, hx, _⟩ := hg'
    refine ⟨_, rfl, x, dx, _, rfl, hx, gfs_1 .., _, rfl, x, S, rfl, hg, ?_⟩
    refine ⟨_, rfl, x, dx, _, rfl, hx, gfs_2 .., _, rfl, x, S, rfl, hg, fun H' s' => ⟨_, _, rfl, rfl, ?_⟩⟩
    have e : S + 1 - 0 = S + 1 := by omega
    show Q (.int (S + 1 - 0)) H'
    rw [e]
    exact k _ s'
def sp_count_of : Sp := fun vs H Q _ => ∃ (f : Addr) (S n : Int), vs = [.ref f, .int n] ∧ FenceAt H f S ∧ S ≤ big ∧ 1 ≤ n ∧ n ≤ big ∧ ∀ H', Same H H' → Q (.int (S * n + 1)) H'
theorem d_count_of (T : Txt P K mg CF CG CI) : DG P w K mg base "count_of" 6 ["fence", "size"] sp_count_of := by
  refine T.f_count_of.ok sc_count_of (fun _ _ _ _ _ _ us hl => match us, hl with | [_, _], _ => rfl) ?_ (fun f cdv A outer s H vs Q E hr h => ?_)
  · rintro vs H Q E ⟨x, S, n, rfl, _⟩; rfl
  · obtain ⟨f, S, n, rfl, hf, h1, h2, h3, k⟩ := h
    refine ⟨_, (pss_one (ps_ret (pe_m T.cG (d_Grown_below T) hr (pe_c (d_Grown_init T) hr (by rfl) (pa_cons (pv 0) (pa_cons (pv 1) pa_nil))) (pa_cons pe_non pa_nil)))), ?_⟩
    refine ⟨_, rfl, _, rfl, fun x dx hx hdx hne => ?_⟩
    have s1 : Same H (upd (upd H dx (.own x)) x (.ins CG dx [])) := (same_new hdx).trans (same_new (by rw [upd_ne hne.symm]; exact hx))
    refine ⟨x, dx, f, S, n, rfl, upd_same, hf.kp (kp_same s1), h1, h2, h3, fun H2 fx hg => ⟨rfl, ?_⟩⟩
    have hg' := hg
    obtain ⟨dx', c, z, l, a, b, r, m, v, sp, hx2, _⟩ := hg'
    refine ⟨x, dx', _, rfl, hx2, gfs_4 .., x, S * n, rfl, hg, fun H' s' => k _ ?_⟩
    intro b o e
    exact s' _ _ (fx.keep _ _ (ne_of_none e hx) (s1 _ _ e))
end
end Gf
namespace Gf
open PySem PySem.Spec PyProof.Rows L2

/-! ### the data of a farm -/
def cornersD (s : Int) : List PyData := if 0 < s then [.tuple [.int 0, .int 0], .tuple [.int s, .int 0]] else [.tuple [.int 0, .int 0]]
def fenceD (s : Int) : PyData := .tuple [.int 1, .list (cornersD s), .list []]
def enc (e : Str × Int) : PyData := .tuple [.str e.1, fenceD e.2]
theorem place_dp {K : PySem.W.Frag} {H : Hp} {p : Addr} {i j : Int} (h : H p = some (.tup [.int i, .int j])) : Dp K H (.ref p) (.tuple [.int i, .int j]) := .tup (SqT.of h) (.cons (.int _) (.cons (.int _) .nil))
theorem fence_dp {K : PySem.W.Frag} {H : Hp} {f : Addr} {s : Int} (h : FenceAt H f s) : Dp K H (.ref f) (fenceD s) := by
  obtain ⟨c, z, h1, h2, h3⟩ := h
  refine .tup (SqT.of h1) (.cons (.int _) (.cons ?_ (.cons (.lst (SqL.of h3) .nil) .nil)))
  rcases h2 with ⟨h0, p, q, g1, g2, g3⟩ | ⟨h0, p, g1, g2⟩
  · unfold cornersD
    rw [if_pos h0]
    exact .lst (SqL.of g1) (.cons (place_dp g2) (.cons (place_dp g3) .nil))
  · unfold cornersD
    rw [if_neg (by omega)]
    exact .lst (SqL.of g1) (.cons (place_dp g2) .nil)
theorem row_dp {K : PySem.W.Frag} {H : Hp} {a : Addr} {e : Str × Int} (h : RowAt H a e) : Dp K H (.ref a) (enc e) := by
  obtain ⟨f, h1, h2⟩ := h
  exact .tup (SqT.of h1) (.cons (.str _) (.cons (fence_dp h2) .nil))
theorem rows_dp {K : PySem.W.Frag} {H : Hp} : ∀ {rs : List Addr} {F : Rows}, All2 (RowAt H) rs F → DpAll K H (rs.map V.ref) (F.map enc)
  | _, _, .nil => .nil
  | _, _, .cons h t => .cons (row_dp h) (rows_dp t)
theorem corners_cases (s : Int) : cornersD s = [.tuple [.int 0, .int 0], .tuple [.int s, .int 0]] ∨ cornersD s = [.tuple [.int 0, .int 0]] := by
  unfold cornersD
  split
  · exact .inl rfl
  · exact .inr rfl
theorem fence_alike (s t : Int) : PySem.W.alike (fenceD s) (fenceD t) = true := by
  unfold fenceD
  rcases corners_cases s with e | e <;> rcases corners_cases t with e' | e' <;> rw [e, e'] <;> simp [PySem.W.alike, PySem.W.alikeAll]
theorem enc_alike (a b : Str × Int) : PySem.W.alike (enc a) (enc b) = true := by
  have h := fence_alike a.2 b.2
  simp [enc, PySem.W.alike, PySem.W.alikeAll, h]
theorem encs_alike (F : Rows) : PySem.W.AllAlike (F.map enc) := by
  intro d hd d' hd'
  obtain ⟨a, _, rfl⟩ := List.mem_map.mp hd
  obtain ⟨b, _, rfl⟩ := List.mem_map.mp hd'
  exact enc_alike a b
theorem encs_sortable (F : Rows) : PySem.W.Sortable (F.map enc) := .inl fun d hd => by
  obtain ⟨a, _, rfl⟩ := List.mem_map.mp hd
  exact ⟨_, _, rfl⟩
theorem fence_depth (s : Int) : (fenceD s).depth ≤ 10 := by
  unfold fenceD
  rcases corners_cases s with e | e <;> rw [e] <;> simp [PyData.depth, PyData.depthAll]
theorem enc_depth (e : Str × Int) : (enc e).depth ≤ 60 := by
  have h := fence_depth e.2
  simp only [enc, PyData.depth, PyData.depthAll]
  omega
theorem encs_depth (F : Rows) : ∀ d ∈ F.map enc, d.depth ≤ 60 := fun d hd => by
  obtain ⟨a, _, rfl⟩ := List.mem_map.mp hd
  exact enc_depth a
/-! ### sorted rows -/
def msort (F : Rows) : Rows := F.mergeSort (PySem.W.dataLe false enc)
theorem le_tot : PySem.W.TotalLe (PySem.W.dataLe false enc) := PySem.W.sortLe_total _ _ _
theorem msort_perm (F : Rows) : (msort F).Perm F := List.mergeSort_perm _ _
theorem msort_pw (F : Rows) : (msort F).Pairwise fun a b => PySem.W.dataLe false enc a b = true :=
  List.pairwise_mergeSort le_tot.trans (fun a b => by rcases le_tot.total a b with h | h <;> rw [h] <;> simp) F
theorem le_name {a b : Str × Int} (h : PySem.W.dataLe false enc a b = true) : ltCps b.1.cps.toList a.1.cps.toList = false := by
  have h : (!PySem.W.dataLt (enc b) (enc a)) = true := h
  unfold enc at h
  rw [PySem.W.dataLt_tuple, PySem.W.dataLt_cons (by simp [PySem.W.alike])] at h
  rw [ltCps_eq]
  by_cases q : (PyData.str b.1).eqv (PyData.str a.1) = true
  · have e : b.1 = a.1 := by simpa [PyData.eqv] using q
    rw [e]
    exact decide_eq_false (List.lt_irrefl _)
  · rw [if_neg q, PySem.W.dataLt_str] at h
    simpa using h
theorem msort_sorted (F : Rows) : sortedS ((msort F).map (·.1)) = true := by
  refine sortedS_of_pairwise _ ?_
  rw [List.pairwise_map]
  exact (msort_pw F).imp le_name
theorem rising_all : ∀ (l : List Str) (p : Str), risingS p l = true → ∀ x ∈ l, ltCps x.cps.toList p.cps.toList = false
  | [], _, _, x, hx => by simp at hx
  | y :: r, p, h, x, hx => by
    rw [risingS, Bool.and_eq_true] at h
    have h1 : ltCps y.cps.toList p.cps.toList = false := by simpa using h.1
    rcases List.mem_cons.mp hx with rfl | hx
    · exact h1
    · have h2 := rising_all r y h.2 x hx
      rw [ltCps_eq, decide_eq_false_iff_not] at h1 h2 ⊢
      exact List.not_lt.mpr (List.le_trans (List.not_lt.mp h1) (List.not_lt.mp h2))
theorem rising_pw : ∀ (l : List Str) (p : Str), risingS p l = true → (p :: l).Pairwise fun a b => ltCps b.cps.toList a.cps.toList = false
  | [], p, _ => by simp
  | y :: r, p, h => by
    have h' := h
    rw [risingS, Bool.and_eq_true] at h
    exact List.pairwise_cons.mpr ⟨rising_all _ _ h', rising_pw r y h.2⟩
theorem sorted_pw : ∀ (l : List Str), sortedS l = true → l.Pairwise fun a b => ltCps b.cps.toList a.cps.toList = false
  | [], _ => .nil
  | y :: r, h => rising_pw r y h
/-- there is one order -/
theorem sorted_one {xs ys : List Str} (hp : xs.Perm ys) (h1 : sortedS xs = true) (h2 : sortedS ys = true) : xs = ys := by
  refine hp.eq_of_pairwise (fun a b _ _ p q => ?_) (sorted_pw _ h1) (sorted_pw _ h2)
  rw [ltCps_eq, decide_eq_false_iff_not] at p q
  exact PySem.W.str_of_cps (List.le_antisymm (List.not_lt.mp p) (List.not_lt.mp q))
/-- the list that sorted makes of rows -/
theorem all2_zip {α β : Type} {R : α → β → Prop} : ∀ {l : List α} {m : List β}, All2 R l m → (∀ z ∈ l.zip m, R z.1 z.2) ∧ (l.zip m).map (·.1) = l ∧ (l.zip m).map (·.2) = m
  | _, _, .nil => ⟨fun z hz => by simp at hz, rfl, rfl⟩
  | _, _, .cons (a := a) (b := b) (l := l) (m := m) h t => by
    obtain ⟨q1, q2, q3⟩ := all2_zip t
    rw [List.zip_cons_cons, List.map_cons, List.map_cons, q2, q3]
    refine ⟨fun z hz => ?_, rfl, rfl⟩
    rcases List.mem_cons.mp hz with rfl | hz
    · exact h
    · exact q1 z hz
theorem all2_maps {α β : Type} {R : α → β → Prop} : ∀ (Z : List (α × β)), (∀ z ∈ Z, R z.1 z.2) → All2 R (Z.map (·.1)) (Z.map (·.2))
  | [], _ => .nil
  | z :: Z, h => .cons (h z List.mem_cons_self) (all2_maps Z fun y hy => h y (List.mem_cons_of_mem _ hy))
theorem sorted_rows {R : Addr → Str × Int → Prop} {rs : List Addr} {F : Rows} (h : All2 R rs F) : ∃ rs', sortD (rs.map V.ref) (F.map enc) = rs'.map V.ref ∧ All2 R rs' (msort F) := by
  obtain ⟨q1, q2, q3⟩ := all2_zip h
  let le : Addr × (Str × Int) → Addr × (Str × Int) → Bool := fun a b => PySem.W.dataLe false enc a.2 b.2
  have e1 : ((rs.zip F).mergeSort le).map (·.2) = msort F := by
    rw [List.map_mergeSort (s := PySem.W.dataLe false enc) (fun a _ b _ => rfl), q3]
    rfl
  have e2 : ((rs.zip F).mergeSort le).map (fun a => (V.ref a.1, enc a.2)) = ((rs.map V.ref).zip (F.map enc)).mergeSort fun p q => !PySem.W.dataLt q.2 p.2 := by
    refine (List.map_mergeSort (r := le) (f := fun a : Addr × (Str × Int) => (V.ref a.1, enc a.2)) (s := fun p q : V × PyData => !PySem.W.dataLt q.2 p.2) (fun a _ b _ => rfl)).trans ?_
    congr 1
    rw [List.zip_map]
    rfl
  refine ⟨((rs.zip F).mergeSort le).map (·.1), ?_, ?_⟩
  · unfold sortD
    show _ = _
    rw [← e2, List.map_map, List.map_map]
    rfl
  · rw [← e1]
    refine all2_maps _ fun z hz => q1 z ?_
    exact (List.mergeSort_perm _ _).mem_iff.mp hz
theorem tot_perm {F G : Rows} (h : F.Perm G) (n : Int) : tot F n = tot G n := by
  unfold tot
  induction h with
  | nil => rfl
  | cons x _ ih => rw [List.map_cons, List.map_cons, List.sum_cons, List.sum_cons, ih]
  | swap x y l => rw [List.map_cons, List.map_cons, List.map_cons, List.map_cons, List.sum_cons, List.sum_cons, List.sum_cons, List.sum_cons]; omega
  | trans _ _ a b => exact a.trans b
end Gf
namespace Gf
open PySem PySem.Spec PyProof.Rows L2

/-! ### a list beside the empty list -/
def rEmp (K : PySem.W.Frag) (neg : Bool) : R2 := fun x y H Q => ∃ a b xs, x = .ref a ∧ y = .ref b ∧ SqL K H a xs ∧ SqL K H b [] ∧ Q (.bl (if neg then !xs.isEmpty else xs.isEmpty)) H
theorem op_neE {X : Cx} (hu : X.A.units + 64 < cLine) : OpR X (compareOp .NotEq) (rEmp X.K true) := by
  intro pins s σ H x y v u Q I rx ry h
  obtain ⟨a, b, xs, rfl, rfl, ha, hb, q⟩ := h
  obtain rfl : v = Value.ref a := rx
  obtain rfl : u = Value.ref b := ry
  obtain ⟨it, r1, ⟨o1, n1, e1, c1, d1, t1⟩, _⟩ := I.list ha
  obtain ⟨jt, r2, ⟨o2, n2, e2, c2, d2, t2⟩, _⟩ := I.list hb
  cases r2
  cases xs with
  | nil =>
    cases r1
    exact SeqAt.RcNeAt.lists (e := fun _ => true) ⟨o1, e1, c1, n1, t1⟩ ⟨o2, e2, c2, n2, t2⟩ rfl (by omega) (fun j h1 => absurd h1 (Nat.not_lt_zero _)) _ _ _ _ ⟨.bl false, H, I, rfl, q⟩
  | cons z zs =>
    have h1 := r1.length
    refine SeqAt.RcNeAt.lists_lengths ⟨o1, e1, c1, n1, t1⟩ ⟨o2, e2, c2, n2, t2⟩ ?_ (by omega) _ _ _ _ ⟨.bl true, H, I, rfl, q⟩
    simp only [List.size_toArray, bne_iff_ne, ne_eq, List.length_nil]
    rw [List.length_cons] at h1
    omega
theorem op_eqE {X : Cx} (hu : X.A.units + 64 < cLine) : OpR X (compareOp .Eq) (rEmp X.K false) := by
  intro pins s σ H x y v u Q I rx ry h
  obtain ⟨a, b, xs, rfl, rfl, ha, hb, q⟩ := h
  obtain rfl : v = Value.ref a := rx
  obtain rfl : u = Value.ref b := ry
  obtain ⟨it, r1, ⟨o1, n1, e1, c1, d1, t1⟩, _⟩ := I.list ha
  obtain ⟨jt, r2, ⟨o2, n2, e2, c2, d2, t2⟩, _⟩ := I.list hb
  cases r2
  cases xs with
  | nil =>
    cases r1
    exact SeqAt.RcAt.lists (e := fun _ => true) ⟨o1, e1, c1, n1, t1⟩ ⟨o2, e2, c2, n2, t2⟩ rfl (by omega) (fun j h1 => absurd h1 (Nat.not_lt_zero _)) _ _ _ _ ⟨.bl true, H, I, rfl, q⟩
  | cons z zs =>
    have h1 := r1.length
    refine SeqAt.RcAt.lists_lengths ⟨o1, e1, c1, n1, t1⟩ ⟨o2, e2, c2, n2, t2⟩ ?_ (by omega) _ _ _ _ ⟨.bl false, H, I, rfl, q⟩
    simp only [List.size_toArray, bne_iff_ne, ne_eq, List.length_nil]
    rw [List.length_cons] at h1
    omega
/-! ### what is asked of a farm -/
def Bnd (F : Rows) : Prop := F.length ≤ 20 ∧ ∀ e ∈ F, NameOk e.1 ∧ e.2 ≤ big
def COk (c : Call) : Prop := 1 ≤ c.1 ∧ c.1 ≤ big ∧ Bnd c.2
def Ok (cs : List Call) : Prop := cs.length ≤ 500 ∧ ∀ c ∈ cs, COk c
theorem st_nil : stOf [] = (1, []) := rfl
theorem st_app (cs : List Call) (c : Call) : stOf (cs ++ [c]) = c := by
  unfold stOf
  rw [List.getLast?_append]
  rfl
theorem bnd_nil : Bnd [] := ⟨Nat.zero_le _, fun e he => by simp at he⟩
theorem cok_nil : COk (1, []) := ⟨Int.le_refl _, by show (1 : Int) ≤ big; decide, bnd_nil⟩
theorem Ok.st {cs : List Call} (h : Ok cs) : COk (stOf cs) := by
  unfold stOf
  cases e : cs.getLast? with
  | none => exact cok_nil
  | some c => exact h.2 c (List.mem_of_getLast? e)
theorem ok_nil : Ok [] := ⟨Nat.zero_le _, fun c hc => by simp at hc⟩
theorem Ok.app {cs : List Call} {c : Call} (h : Ok cs) (hl : cs.length < 500) (hc : COk c) : Ok (cs ++ [c]) := by
  refine ⟨by rw [List.length_append]; exact hl, fun d hd => ?_⟩
  rcases List.mem_append.mp hd with hd | hd
  · exact h.2 d hd
  · rw [List.mem_singleton.mp hd]
    exact hc
theorem Ok.pre {cs : List Call} {c : Call} (h : Ok (cs ++ [c])) : Ok cs := ⟨by have := h.1; rw [List.length_append] at this; omega, fun d hd => h.2 d (List.mem_append_left _ hd)⟩
theorem Bnd.sort {F : Rows} {e : Str × Int} (h : Bnd F) (hl : F.length < 20) (h1 : NameOk e.1) (h2 : e.2 ≤ big) : Bnd (msort (F ++ [e])) := by
  refine ⟨by rw [(msort_perm _).length_eq, List.length_append]; exact hl, fun d hd => ?_⟩
  rw [(msort_perm _).mem_iff] at hd
  rcases List.mem_append.mp hd with hd | hd
  · exact h.2 d hd
  · rw [List.mem_singleton.mp hd]
    exact ⟨h1, h2⟩
theorem Bnd.sub {F G : Rows} (h : Bnd F) (s : List.Sublist G F) : Bnd G := ⟨Nat.le_trans s.length_le h.1, fun e he => h.2 e (s.subset he)⟩
/-- a fence with lists of its own -/
def FenceNew (H H' : Hp) (f : Addr) (s : Int) : Prop := ∃ c z : Addr, H' f = some (.tup [.int 1, .ref c, .ref z]) ∧ H c = none ∧ H z = none ∧ CornersAt H' c s ∧ H' z = some (.lst [])
theorem FenceNew.at {H H' : Hp} {f : Addr} {s : Int} (h : FenceNew H H' f s) : FenceAt H' f s := by
  obtain ⟨c, z, h1, _, _, h2, h3⟩ := h
  exact ⟨c, z, h1, h2, h3⟩
theorem FenceNew.old {H0 H H' : Hp} {f : Addr} {s : Int} (k : Same H0 H) (h : FenceNew H H' f s) : FenceNew H0 H' f s := by
  obtain ⟨c, z, h1, h2, h3, h4, h5⟩ := h
  refine ⟨c, z, h1, ?_, ?_, h4, h5⟩
  · cases e : H0 c with
    | none => rfl
    | some o => rw [k _ _ e] at h2; cases h2
  · cases e : H0 z with
    | none => rfl
    | some o => rw [k _ _ e] at h3; cases h3
theorem lookup_all2 {H : Hp} : ∀ {rs : List Addr} {F : Rows} {i : Nat} {a : Addr}, All2 (RowAt H) rs F → rs[i]? = some a → ∃ e, F[i]? = some e ∧ RowAt H a e := fun h e => h.get e
end Gf
namespace Gf
open PySem PySem.Spec PyProof.Rows L2
section
variable {P : Program} {w : World} {K : PySem.W.Frag} {mg : Str → Option Value} {base : Heap} {CF CG CI : Addr}

theorem oc_l (v : V) : ([(oc, v)] : List (Str × V)).lookup ("own_calls" : Str) = some v := by kernel_rfl
theorem oc_n {v : V} {m : Str} (h : (m == oc) = false := by decide) : ([(oc, v)] : List (Str × V)).lookup m = none := by
  rw [List.lookup_cons, h]
  rfl
theorem oc_put (v u : V) : putF "own_calls" u [(oc, v)] = [(oc, u)] := by kernel_rfl
theorem oc_new (u : V) : putF "own_calls" u [] = [(oc, u)] := rfl
theorem all2_last {α β : Type} {R : α → β → Prop} : ∀ {l : List α} {m : List β} {b : β}, All2 R l (m ++ [b]) → ∃ l0 a, l = l0 ++ [a] ∧ All2 R l0 m ∧ R a b
  | _, [], _, .cons h .nil => ⟨[], _, rfl, .nil, h⟩
  | _, _ :: _, _, .cons h t => by
    obtain ⟨l0, a, rfl, t', h'⟩ := all2_last t
    exact ⟨_ :: l0, a, rfl, .cons h t', h'⟩
theorem row_get {α : Type} {rs : List Addr} {i : Nat} {x : V} {R : Addr → α → Prop} {F : List α} (h : All2 R rs F) (hx : (rs.map V.ref)[i]? = some x) : ∃ a e, x = .ref a ∧ rs[i]? = some a ∧ F[i]? = some e ∧ R a e := by
  rw [List.getElem?_map] at hx
  obtain ⟨a, ea, ex⟩ := Option.map_eq_some_iff.mp hx
  obtain ⟨e, ee, re⟩ := h.get ea
  exact ⟨a, e, ex.symm, ea, ee, re⟩
theorem corners_copy {H : Hp} {c : Addr} {s : Int} (h : CornersAt H c s) : ∃ ys, H c = some (.lst ys) ∧ ∀ H' c', Same H H' → H' c' = some (.lst ys) → CornersAt H' c' s := by
  rcases h with ⟨h, p, q, h1, h2, h3⟩ | ⟨h, p, h1, h2⟩
  · exact ⟨_, h1, fun H' c' k e => .inl ⟨h, p, q, e, k _ _ h2, k _ _ h3⟩⟩
  · exact ⟨_, h1, fun H' c' k e => .inr ⟨h, p, e, k _ _ h2⟩⟩
theorem line_of {n : Nat} (h : n ≤ 1000) : n ≤ sizeLine := by rw [sizeLine_eq]; omega
def sp_own_fence : Sp := fun vs H Q _ => ∃ (f : Addr) (s : Int), vs = [.ref f] ∧ FenceAt H f s ∧ ∀ t H', Same H H' → FenceNew H H' t s → Q (.ref t) H'
theorem d_own_fence (T : Txt P K mg CF CG CI) : DG P w K mg base "own_fence" 1 ["fence"] sp_own_fence := by
  refine T.f_own_fence.ok sc_own_fence (fun _ _ _ _ _ _ us hl => match us, hl with | [_], _ => rfl) ?_ (fun f cdv A outer s H vs Q E hr h => ?_)
  · rintro vs H Q E ⟨x, S, rfl, _⟩; rfl
  · obtain ⟨f, S, rfl, ⟨c, z, hf, hc, hz⟩, k⟩ := h
    obtain ⟨ys, hcy, hcp⟩ := corners_copy hc
    refine ⟨_, (pss_one (ps_ret (pe_tup (pa_cons (pe_ix (r := rIxT K) ix_tup (pv 0) pe_int (fun _ _ => rfl)) (pa_cons (pe_callTy call_list_of (by rfl) T.z_list (by decide +kernel) (pa_cons (pe_ix (r := rIxT K) ix_tup (pv 0) pe_int (fun _ _ => rfl)) pa_nil)) (pa_cons (pe_callTy call_list_of (by rfl) T.z_list (by decide +kernel) (pa_cons (pe_ix (r := rIxT K) ix_tup (pv 0) pe_int (fun _ _ => rfl)) pa_nil)) pa_nil)))))), ?_⟩
    refine ⟨_, rfl, f, _, 0, _, rfl, rfl, SqT.of hf, atI_nat (j := 0) rfl, ?_⟩
    refine ⟨_, rfl, f, _, 1, _, rfl, rfl, SqT.of hf, atI_nat (j := 1) rfl, c, ys, rfl, .inl (SqL.of hcy), fun c' hc' => ?_⟩
    have s1 := same_new (o := .lst ys) hc'
    refine ⟨_, rfl, f, _, 2, _, rfl, rfl, SqT.of (s1 _ _ hf), atI_nat (j := 2) rfl, z, [], rfl, .inl (SqL.of (s1 _ _ hz)), fun z' hz' => ?_⟩
    have s2 := same_new (o := .lst []) hz'
    refine ⟨three_line, fun t ht => ?_⟩
    have s3 := same_new (o := .tup [.int 1, .ref c', .ref z']) ht
    refine k t _ ((s1.trans s2).trans s3) ⟨c', z', upd_same, hc', ?_, ?_, s3 _ _ upd_same⟩
    · cases e : H z' with
      | none => rfl
      | some o => rw [s1 _ _ e] at hz'; cases hz'
    · exact hcp _ _ ((s1.trans s2).trans s3) (s3 _ _ (s2 _ _ upd_same))
def sp_farm_total : Sp := fun vs H Q _ => ∃ (l : Addr) (F : Rows) (n : Int), vs = [.ref l, .int n] ∧ RowsAt H l F ∧ Bnd F ∧ 1 ≤ n ∧ n ≤ big ∧ ∀ H', Same H H' → Q (.int (tot F n)) H'
theorem d_farm_total (T : Txt P K mg CF CG CI) : DG P w K mg base "farm_total" 7 ["fences", "size"] sp_farm_total := by
  refine T.f_farm_total.ok sc_farm_total (fun _ _ _ _ _ _ us hl => match us, hl with | [_, _], _ => rfl) ?_ (fun f cdv A outer s H vs Q E hr h => ?_)
  · rintro vs H Q E ⟨x, S, n, rfl, _⟩; rfl
  · obtain ⟨l, F, n, rfl, ⟨rs, hl, hr2⟩, hb, h1, h2, k⟩ := h
    refine ⟨_, (pss_one (ps_ret (pe_callB (cr_sum rfl) (by rfl) T.z_sum (by decide +kernel) (pa_cons (pe_lc (own := [("name", 2), ("fence", 3)]) (g := (gTup K 2 (gCons (gName 2) (gCons (gName 3) gNil)))) rfl sc_farm_total.nd (pi_list (pv 0)) (blkOk_by (own := [("name", 2), ("fence", 3)]) (N := N_farm_total) (sc := defScope s_farm_total) (by decide +kernel)) (fun _ _ _ _ _ => by exact (pg_tup rfl (pgs_cons (pg_name (i := 2) sc_farm_total.nd rfl (Or.inl rfl)) (pgs_cons (pg_name (i := 3) sc_farm_total.nd rfl (Or.inl rfl)) pgs_nil)))) (fun _ _ _ _ _ => by exact pts_nil) (fun _ _ _ _ _ => by exact (pe_g (d_count_of T) hr (by rfl) (pa_cons (pv 3) (pa_cons (pv 1) pa_nil))))) pa_nil)))), ?_⟩
    refine ⟨_, rfl, l, rfl, ⟨_, SqL.of hl⟩, fun D hD => lcL (xs := rs.map V.ref) (F.map fun e => V.int (e.2 * n + 1)) hD hl (by rw [List.length_map, List.length_map, hr2.len]) (by rw [List.length_map, hr2.len]; have := hb.1; omega) (fun i y x' H' R hx' hy s' kR => ?_) fun H2 s2 hD2 => ?_⟩
    · obtain ⟨a, e, rfl, ea, ee, f, ha, hf⟩ := row_get hr2 hx'
      rw [List.getElem?_map, ee] at hy
      cases hy
      refine ⟨a, _, rfl, SqT.of (s' _ _ ha), rfl, _, _, rfl, _, _, rfl, rfl, rfl, ?_⟩
      exact ⟨_, rfl, _, rfl, f, e.2, n, rfl, hf.kp (kp_same s'), (hb.2 e (List.mem_of_getElem? ee)).2, h1, h2, fun H3 s3 => kR _ s3⟩
    · refine ⟨D, F.map fun e => e.2 * n + 1, rfl, SqL.of ?_, ?_⟩
      · rw [hD2, List.map_map]
        rfl
      · exact k _ s2
def sp_farm_init (CF : Addr) : Sp := fun vs H Q _ => ∃ (x dx : Addr), vs = [.ref x] ∧ H x = some (.ins CF dx []) ∧ ∀ H', Fx x H H' → FarmAt CF H' x [] → Q .non H'
theorem d_LiveFarm_init (T : Txt P K mg CF CG CI) : DC P w K mg base "LiveFarm" CF 1 ["self"] (sp_farm_init CF) := by
  refine T.k_LiveFarm.ok sc_LiveFarm_init (fun _ _ _ _ _ _ us hl => match us, hl with | [_], _ => rfl) ?_ (fun f cdv A outer s H vs Q E hr h => ?_)
  · rintro vs H Q E ⟨x, dx, rfl, _⟩; rfl
  · obtain ⟨x, dx, rfl, hx, k⟩ := h
    refine ⟨_, (pss_one (ps_fld (pv 0) (pe_lst pa_nil) rfl)), ?_⟩
    refine ⟨Nat.zero_le _, fun l hl => ?_⟩
    have s1 := same_new (o := .lst []) hl
    refine ⟨_, rfl, x, CF, dx, [], rfl, s1 _ _ hx, T.cF, T.n_own, (by simp), ?_⟩
    have p1 : Fx x (upd H l (.lst [])) (upd (upd H l (.lst [])) x (.ins CF dx [(oc, .ref l)])) := Fx.put (s1 _ _ hx) trivial
    exact k _ (Fx.after s1 p1 ⟨_, hx, trivial⟩) ⟨dx, l, upd_same, [], (kp_fx p1) _ _ upd_same nv_nil, .nil⟩
def sp_state_now (CF : Addr) : Sp := fun vs H Q _ => ∃ (x : Addr) (cs : List Call), vs = [.ref x] ∧ FarmAt CF H x cs ∧ ∀ t l H', Same H H' → H' t = some (.tup [.int (stOf cs).1, .ref l, .int (tot (stOf cs).2 (stOf cs).1)]) → RowsAt H' l (stOf cs).2 → Q (.ref t) H'
theorem d_LiveFarm_state_now (T : Txt P K mg CF CG CI) : DM P w K mg base CF "state_now" 1 ["self"] (sp_state_now CF) := by
  refine T.m_LiveFarm_state_now.ok sc_LiveFarm_state_now (fun _ _ _ _ _ _ us hl => match us, hl with | [_], _ => rfl) ?_ (fun f cdv A outer s H vs Q E hr h => ?_)
  · rintro vs H Q E ⟨x, cs, rfl, _⟩; rfl
  · obtain ⟨x, cs, rfl, ⟨dx, l, hx, rs, hl, hc⟩, k⟩ := h
    refine ⟨_, (pss_one (ps_ret (pe_ifExp (pt_cmpR (op_neE hr.units) (pe_fld (pv 0) rfl) (pe_lst pa_nil) (nomark _)) (pe_slice sl_tup (pe_ix (r := rIxL K) ix_list (pe_fld (pv 0) rfl) (pe_un un_neg pe_int) (fun _ _ => rfl)) (po_some pe_int) po_none) (pe_tup (pa_cons pe_int (pa_cons (pe_lst pa_nil) (pa_cons pe_int pa_nil))))))), ?_⟩
    refine ⟨_, rfl, x, CF, dx, _, _, rfl, hx, T.cF, T.n_own, oc_l _, Nat.zero_le _, fun e he => ?_⟩
    have se := same_new (o := .lst []) he
    refine ⟨l, e, _, rfl, rfl, SqL.of (se _ _ hl), SqL.of upd_same, _, rfl, ?_⟩
    rcases List.eq_nil_or_concat cs with rfl | ⟨cs0, c, rfl⟩
    · cases hc
      show if false = true then _ else _
      refine iteF ?_
      refine ⟨Nat.zero_le _, fun q hq => ⟨three_line, fun t ht => ?_⟩⟩
      have s2 := same_new (o := .lst []) hq
      have s3 := same_new (o := .tup [.int 1, .ref q, .int 0]) ht
      exact k t q _ ((se.trans s2).trans s3) upd_same ⟨[], s3 _ _ upd_same, .nil⟩
    · rw [List.concat_eq_append] at hc k
      obtain ⟨rs0, a, rfl, hc0, w', lr, ha, hrows⟩ := all2_last hc
      rw [st_app] at k
      have e1 : (List.map V.ref (rs0 ++ [a])).isEmpty = false := by rw [List.map_append]; cases rs0 <;> rfl
      rw [e1]
      show if true = true then _ else _
      refine iteT ?_
      refine ⟨_, rfl, x, CF, dx, _, _, rfl, se _ _ hx, T.cF, T.n_own, oc_l _, 1, rfl, l, _, -1, .ref a, rfl, rfl, SqL.of (se _ _ hl), (by rw [List.map_append]; exact atI_last _ _), ?_⟩
      refine ⟨1, rfl, a, _, rfl, SqT.of (se _ _ ha), (fun h => absurd (show (1 : Nat) = 0 from h.1) (by decide)), fun t ht => ?_⟩
      have s2 := same_new (o := .tup [.int c.1, .ref lr, .int (tot c.2 c.1)]) ht
      exact k t lr _ (se.trans s2) upd_same (hrows.kp (kp_same (se.trans s2)))
def sp_keep_call (CF : Addr) : Sp := fun vs H Q _ => ∃ (x l : Addr) (v : V) (n : Int) (F : Rows) (cs : List Call), vs = [.ref x, v, .int n, .ref l] ∧ FarmAt CF H x cs ∧ RowsAt H l F ∧ COk (n, F) ∧ cs.length < 500 ∧ ∀ H', Fx x H H' → FarmAt CF H' x (cs ++ [(n, F)]) → Q .non H'
theorem d_LiveFarm_keep_call (T : Txt P K mg CF CG CI) : DM P w K mg base CF "keep_call" 8 ["self", "call", "size", "fences"] (sp_keep_call CF) := by
  refine T.m_LiveFarm_keep_call.ok sc_LiveFarm_keep_call (fun _ _ _ _ _ _ us hl => match us, hl with | [_, _, _, _], _ => rfl) ?_ (fun f cdv A outer s H vs Q E hr h => ?_)
  · rintro vs H Q E ⟨x, l, v, n, F, cs, rfl, _⟩; rfl
  · obtain ⟨x, l, v, n, F, cs, rfl, ⟨dx, lc, hx, rs, hl, hc⟩, hF, ⟨hn1, hn2, hb⟩, hlen, k⟩ := h
    refine ⟨_, (pss_one (ps_fld (pv 0) (pe_lst (StX.pa_star (pe_fld (pv 0) rfl) (pa_cons (pe_tup (pa_cons (pv 1) (pa_cons (pv 2) (pa_cons (pv 3) (pa_cons (pe_g (d_farm_total T) hr (by rfl) (pa_cons (pv 3) (pa_cons (pv 2) pa_nil))) pa_nil))))) pa_nil))) rfl)), ?_⟩
    refine ⟨_, rfl, x, CF, dx, _, _, rfl, hx, T.cF, T.n_own, oc_l _, lc, _, rfl, .inr (SqL.of hl), ?_⟩
    refine ⟨_, rfl, _, rfl, _, rfl, _, rfl, _, rfl, l, F, n, rfl, hF, hb, hn1, hn2, fun H1 s1 => ⟨four_line, fun t ht => ?_⟩⟩
    have s2 := same_new (o := .tup [v, .int n, .ref l, .int (tot F n)]) ht
    refine ⟨line_of ?_, fun q hq => ?_⟩
    · have := hc.len
      rw [List.length_append, List.length_map]
      show rs.length + 1 ≤ 1000
      omega
    have s3 := same_new (o := .lst (rs.map V.ref ++ [.ref t])) hq
    have s4 := (s1.trans s2).trans s3
    have hx4 := s4 _ _ hx
    refine ⟨_, rfl, x, CF, dx, _, rfl, hx4, T.cF, T.n_own, (by show 1 < 1000; decide), ?_⟩
    rw [of_put (oc_put (.ref lc) (.ref q))]
    have p5 := Fx.put (u := .ins CF dx [(oc, .ref q)]) hx4 trivial
    refine k _ (Fx.after s4 p5 ⟨_, hx, trivial⟩) ⟨dx, q, upd_same, rs ++ [t], ?_, ?_⟩
    · rw [List.map_append]
      have hq5 := kp_fx p5 q _ upd_same (by
        rw [show rs.map V.ref ++ [V.ref t] = (rs ++ [t]).map V.ref by rw [List.map_append]; rfl]
        exact nv_refs)
      exact hq5
    · have kk := (kp_same s4).trans (kp_fx p5)
      refine (hc.mono fun _ _ h => h.kp kk).app (.cons ⟨v, l, ?_, hF.kp kk⟩ .nil)
      exact ((kp_same s3).trans (kp_fx p5)) _ _ upd_same nv_tup
end
end Gf
namespace Gf
open PySem PySem.Spec PyProof.Rows L2
section
variable {P : Program} {w : World} {K : PySem.W.Frag} {mg : Str → Option Value} {base : Heap} {CF CG CI : Addr}

/-- the row of a name, the only one -/
def Has (F : Rows) (name : Str) (s : Int) : Prop := (name, s) ∈ F ∧ ∀ s', (name, s') ∈ F → s' = s
def names (F : Rows) : List Str := F.map (·.1)
theorem FarmAt.ins {H : Hp} {x : Addr} {cs : List Call} (h : FarmAt CF H x cs) : ∃ dx v, H x = some (.ins CF dx [(oc, v)]) := by
  obtain ⟨dx, l, h, _⟩ := h
  exact ⟨dx, _, h⟩
def sp_fence_there (CF : Addr) : Sp := fun vs H Q _ => ∃ (x : Addr) (cs : List Call) (name : Str) (s : Int), vs = [.ref x, .str name] ∧ FarmAt CF H x cs ∧ NameOk name ∧ Has (stOf cs).2 name s ∧ ∀ f H', Same H H' → FenceAt H' f s → Q (.ref f) H'
theorem d_LiveFarm_fence_there (T : Txt P K mg CF CG CI) : DM P w K mg base CF "fence_there" 3 ["self", "name"] (sp_fence_there CF) := by
  refine T.m_LiveFarm_fence_there.ok sc_LiveFarm_fence_there (fun _ _ _ _ _ _ us hl => match us, hl with | [_, _], _ => rfl) ?_ (fun f cdv A outer s H vs Q E hr h => ?_)
  · rintro vs H Q E ⟨x, cs, n, s, rfl, _⟩; rfl
  · obtain ⟨x, cs, name, S, rfl, hx, hn, ⟨hm, hu⟩, k⟩ := h
    refine ⟨_, (pss_cons (ps_expr (pe_g (d_require_name T) hr (by rfl) (pa_cons (pv 1) pa_nil)))
      (pss_cons (ps_for PassesOwn.never rfl (pi_list (pe_ix (r := rIxT K) ix_tup (pe_m0 T.cF (d_LiveFarm_state_now T) hr (pv 0)) pe_int (fun _ _ => rfl))) (pg_tup rfl (pgs_cons (pg_name (i := 2) sc_LiveFarm_fence_there.nd rfl (Or.inl rfl)) (pgs_cons (pg_name (i := 3) sc_LiveFarm_fence_there.nd rfl (Or.inl rfl)) pgs_nil))) (pss_one (ps_if (pt_cmpR op_eq (pv 2) (pv 1) (nomark _)) (pss_one (ps_ret (pv 3))) pss_nil)))
      (pss_one ps_never))), ?_⟩
    refine ⟨_, rfl, name, rfl, hn, fun H1 s1 => ?_⟩
    have hx1 := hx.same s1
    obtain ⟨dx, v, hi⟩ := hx1.ins
    refine ⟨_, rfl, x, dx, _, rfl, hi, oc_n, x, cs, rfl, hx1, fun t l H2 s2 ht hrows => ?_⟩
    obtain ⟨rs, hl, hr2⟩ := hrows
    refine ⟨t, _, 1, _, rfl, rfl, SqT.of ht, atI_nat (j := 1) rfl, l, rfl, ⟨_, SqL.of hl⟩, for_list (K := K) (a := l) (xs := rs.map V.ref) (fun i σ H' => (∃ o g, σ = [some (.ref x), some (.str name), o, g]) ∧ H' = H2 ∧ ∀ j e, j < i → (stOf cs).2[j]? = some e → e.1 ≠ name) ⟨⟨none, none, rfl⟩, rfl, fun j e h => absurd h (Nat.not_lt_zero _)⟩ (fun i σ H' _ h => by rw [h.2.1]; exact SqL.of hl) ?_ ?_⟩
    · rintro i x' σ H' hx' ⟨⟨o, g, rfl⟩, rfl, hne⟩
      obtain ⟨a, e, rfl, ea, ee, fa, ha, hf⟩ := row_get hr2 hx'
      refine ⟨a, _, rfl, SqT.of ha, rfl, _, _, rfl, _, _, rfl, rfl, ?_⟩
      refine ⟨_, rfl, _, rfl, rfl, _, rfl, ?_⟩
      by_cases h : e.1 = name
      · refine iteD (by rw [h]) ?_
        refine ⟨_, rfl, ?_⟩
        have hs : e.2 = S := hu e.2 (by rw [← h]; exact List.mem_of_getElem? ee)
        rw [hs] at hf
        exact k fa _ (s1.trans s2) hf
      · refine iteDn (by intro q; cases q; exact h rfl) ?_
        refine ⟨⟨_, _, rfl⟩, rfl, fun j e' hj he' => ?_⟩
        by_cases hji : j = i
        · subst hji
          rw [ee] at he'
          cases he'
          exact h
        · exact hne j e' (by omega) he'
    · rintro σ H' ⟨_, _, hne⟩
      obtain ⟨j, hj⟩ := List.mem_iff_getElem?.mp hm
      have hjl : j < (rs.map V.ref).length := by
        rw [List.length_map, hr2.len]
        exact (List.getElem?_eq_some_iff.mp hj).1
      exact absurd rfl (hne j _ hjl hj)
theorem inV_not {name : Str} {F : Rows} (h : name ∉ names F) : inV (.str name) ((names F).map V.str) = false := by
  unfold inV
  rw [List.any_eq_false]
  intro y hy
  obtain ⟨z, hz, rfl⟩ := List.mem_map.mp hy
  show ¬ (z == name) = true
  rw [beq_iff_eq]
  rintro rfl
  exact h hz
theorem flat_strs : ∀ (l : List Str), (l.map V.str).all flatV = true
  | [] => rfl
  | _ :: l => by rw [List.map_cons, List.all_cons, flat_strs l]; rfl
def sp_put (CF CI : Addr) : Sp := fun vs H Q E => ∃ (x : Addr) (cs : List Call) (name : Str) (f : Addr) (s : Int), vs = [.ref x, .str name, .ref f] ∧ FarmAt CF H x cs ∧ Ok cs ∧ cs.length < 500 ∧ NameOk name ∧ FenceAt H f s ∧ s ≤ big ∧ name ∉ names (stOf cs).2 ∧
  ((stOf cs).2.length < 20 → ∀ H', Fx x H H' → FarmAt CF H' x (cs ++ [((stOf cs).1, msort ((stOf cs).2 ++ [(name, s)]))]) → Q .non H') ∧ ((stOf cs).2.length = 20 → ∀ H', Same H H' → E (.ref CI) none H')
theorem d_LiveFarm_put_fence (T : Txt P K mg CF CG CI) : ∃ f fd, FnOk P w K mg base (L2.CX P w) 10 f fd ["self", "name", "fence"] (sp_put CF CI) ∧ Meth K CF "put_fence" f ∧ Binds K fd ["self", "name", "fence"] [] := by
  obtain ⟨f, fd, G, hm⟩ := T.m_LiveFarm_put_fence.ex
  refine ⟨f, fd, G.okX (k := 9) sc_LiveFarm_put_fence ?_ (fun cdv A outer s H vs Q E hr h => ?_), hm, G.binds (fun _ _ _ _ _ _ us hl => match us, hl with | [_, _, _], _ => rfl)⟩
  · rintro vs H Q E ⟨x, cs, n, f, s, rfl, _⟩; rfl
  · obtain ⟨x, cs, name, fa, S, rfl, hx, hok, hlen, hn, hf, hS, hnot, k1, k2⟩ := h
    refine ⟨_, (pss_cons (ps_expr (pe_g (d_require_name T) hr (by rfl) (pa_cons (pv 1) pa_nil)))
      (pss_cons (ps_asg (pe_m0 T.cF (d_LiveFarm_state_now T) hr (pv 0)) (pg_tup rfl (pgs_cons (pg_name (i := 3) sc_LiveFarm_put_fence.nd rfl (Or.inl rfl)) (pgs_cons (pg_name (i := 4) sc_LiveFarm_put_fence.nd rfl (Or.inl rfl)) (pgs_cons (pg_name (i := 5) sc_LiveFarm_put_fence.nd rfl (Or.inl rfl)) pgs_nil)))))
      (pss_cons (ps_if (pt_cmpR op_in_seq (pv 1) (pe_lc (own := [("other", 6), ("known", 7)]) (g := (gTup K 2 (gCons (gName 6) (gCons (gName 7) gNil)))) rfl sc_LiveFarm_put_fence.nd (pi_list (pv 4)) (blkOk_by (own := [("other", 6), ("known", 7)]) (N := N_LiveFarm_put_fence) (sc := defScope s_LiveFarm_put_fence) (by decide +kernel)) (fun _ _ _ _ _ => by exact (pg_tup rfl (pgs_cons (pg_name (i := 6) sc_LiveFarm_put_fence.nd rfl (Or.inl rfl)) (pgs_cons (pg_name (i := 7) sc_LiveFarm_put_fence.nd rfl (Or.inl rfl)) pgs_nil)))) (fun _ _ _ _ _ => by exact pts_nil) (fun _ _ _ _ _ => by exact (pv 6))) (by rfl)) (pss_one ps_never) pss_nil)
      (pss_cons (ps_expr (pe_g (d_require_fence T) hr (by rfl) (pa_cons (pv 2) pa_nil)))
      (pss_cons (ps_if (pt_cmpR op_eq (pe_callB call_len_seq (by rfl) T.z_len (by decide +kernel) (pa_cons (pv 4) pa_nil)) (pe_gc rfl T.c_MOST_FENCES) (nomark _)) (pss_one (ps_raise rfl (takes_of rfl rfl rfl rfl) (pmk_own PySem.F.excBase_ValueError T.x_I T.g_Impossible T.k_I (raises_own T.b_I T.t_I) rfl))) pss_nil)
      (pss_cons (ps_set (i := 8) sc_LiveFarm_put_fence.nd rfl (Or.inl rfl) (pe_g (d_own_fence T) hr (by rfl) (pa_cons (pv 2) pa_nil)))
      (pss_one (ps_expr (pe_m T.cF (d_LiveFarm_keep_call T) hr (pv 0) (pa_cons (pe_tup (pa_cons pe_str (pa_cons (pv 1) (pa_cons (pv 8) pa_nil)))) (pa_cons (pv 3) (pa_cons (pe_callB (cr_sortD hr.units) (by rfl) T.z_sorted (by decide +kernel) (pa_cons (pe_lst (StX.pa_star (pv 4) (pa_cons (pe_tup (pa_cons (pv 1) (pa_cons (pv 8) pa_nil))) pa_nil))) pa_nil)) pa_nil)))))))))))), ?_⟩
    refine ⟨_, rfl, name, rfl, hn, fun H1 s1 => ?_⟩
    have hx1 := hx.same s1
    obtain ⟨dx, v, hi⟩ := hx1.ins
    refine ⟨_, rfl, x, dx, _, rfl, hi, oc_n, x, cs, rfl, hx1, fun t l H2 s2 ht hrows => ?_⟩
    obtain ⟨rs, hl, hr2⟩ := hrows
    refine ⟨t, _, rfl, SqT.of ht, rfl, _, _, rfl, _, _, rfl, _, _, rfl, rfl, ?_⟩
    -- the names
    refine ⟨_, rfl, _, rfl, l, rfl, ⟨_, SqL.of hl⟩, fun D hD => lcL (xs := rs.map V.ref) ((names (stOf cs).2).map V.str) hD hl (by unfold names; rw [List.length_map, List.length_map, List.length_map, hr2.len]) (by rw [List.length_map, hr2.len]; have := hok.st.2.2.1; omega) (fun i y x' H' R hx' hy s' kR => ?_) fun H3 s3 hD3 => ?_⟩
    · obtain ⟨a, e, rfl, ea, ee, f', ha, hf'⟩ := row_get hr2 hx'
      unfold names at hy
      rw [List.map_map, List.getElem?_map, ee] at hy
      cases hy
      refine ⟨a, _, rfl, SqT.of (s' _ _ ha), rfl, _, _, rfl, _, _, rfl, rfl, rfl, ?_⟩
      exact ⟨_, rfl, kR _ (Same.refl _)⟩
    · refine ⟨D, _, rfl, .inl (SqL.of hD3), rfl, flat_strs _, _, rfl, ?_⟩
      rw [inV_not hnot]
      show if false = true then _ else _
      refine iteF ?_
      have s13 := (s1.trans s2).trans s3
      refine ⟨_, rfl, fa, S, rfl, hf.kp (kp_same s13), hS, fun H4 s4 => ?_⟩
      have hl4 := s4 _ _ (s3 _ _ hl)
      have hr4 := hr2.mono fun _ _ h => h.kp (kp_same (s3.trans s4))
      have s14 := s13.trans s4
      refine ⟨_, rfl, l, _, rfl, .inl (SqL.of hl4), rfl, _, rfl, ?_⟩
      have hlr : (rs.map V.ref).length = (stOf cs).2.length := by rw [List.length_map, hr2.len]
      by_cases h20 : (stOf cs).2.length = 20
      · refine iteD (by rw [hlr, h20]; rfl) ?_
        exact k2 h20 _ s14
      · have hlt : (stOf cs).2.length < 20 := by have := hok.st.2.2.1; omega
        refine iteDn (by rw [hlr]; intro q; injection q with q; omega) ?_
        refine ⟨_, rfl, fa, S, rfl, hf.kp (kp_same s14), fun t5 H5 s5 hf5 => ?_⟩
        have s15 := s14.trans s5
        have hx5 := hx.same s15
        obtain ⟨dx5, v5, hi5⟩ := hx5.ins
        refine ⟨_, rfl, x, dx5, _, rfl, hi5, oc_n, _, rfl, _, rfl, three_line, fun t6 ht6 => ?_⟩
        have s6 := same_new (o := .tup [.str "put", .str name, .ref t5]) ht6
        have hl6 := s6 _ _ (s5 _ _ hl4)
        have hr6 := hr4.mono fun _ _ h => h.kp (kp_same (s5.trans s6))
        refine ⟨_, rfl, _, rfl, l, _, rfl, .inr (SqL.of hl6), _, rfl, _, rfl, two_line, fun t7 ht7 => ⟨line_of ?_, fun q hq => ?_⟩⟩
        · show (rs.map V.ref ++ [V.ref t7]).length ≤ 1000
          rw [List.length_append, hlr]
          show _ + 1 ≤ 1000
          omega
        have s7 := same_new (o := .tup [.str name, .ref t5]) ht7
        have s8 := same_new (o := .lst (rs.map V.ref ++ [.ref t7])) hq
        have e8 : rs.map V.ref ++ [V.ref t7] = (rs ++ [t7]).map V.ref := by rw [List.map_append]; rfl
        have s58 := (s6.trans s7).trans s8
        have hr8 : All2 (RowAt (upd (upd (upd H5 t6 (.tup [.str "put", .str name, .ref t5])) t7 (.tup [.str name, .ref t5])) q (.lst (rs.map V.ref ++ [.ref t7])))) (rs ++ [t7]) ((stOf cs).2 ++ [(name, S)]) :=
          (hr6.mono fun _ _ h => h.kp (kp_same (s7.trans s8))).app (.cons ⟨t5, s8 _ _ upd_same, hf5.at.kp (kp_same s58)⟩ .nil)
        obtain ⟨rs', es, hr'⟩ := sorted_rows hr8
        refine ⟨q, (rs ++ [t7]).map V.ref, ((stOf cs).2 ++ [(name, S)]).map enc, rfl, SqL.of (by rw [← e8]; exact upd_same), rows_dp hr8, encs_alike _, encs_sortable _, encs_depth _, fun p hp => ?_⟩
        rw [es]
        have s9 := same_new (o := .lst (rs'.map V.ref)) hp
        have s19 := (s15.trans s58).trans s9
        have hst := hok.st
        refine ⟨x, p, _, (stOf cs).1, msort ((stOf cs).2 ++ [(name, S)]), cs, rfl, hx.same s19, ⟨rs', upd_same, hr'.mono fun _ _ h => h.kp (kp_same s9)⟩, ⟨hst.1, hst.2.1, hst.2.2.sort hlt hn hS⟩, hlen, fun H' fx hF => ?_⟩
        exact k1 hlt _ (Fx.after s19 fx hx.var) hF
end
end Gf
namespace Gf
open PySem PySem.Spec PyProof.Rows L2
section
variable {P : Program} {w : World} {K : PySem.W.Frag} {mg : Str → Option Value} {base : Heap} {CF CG CI : Addr}

def without (F : Rows) (name : Str) : Rows := F.filter fun e => !decide (V.str e.1 = V.str name)
def keepR (name : Str) (p : Addr × (Str × Int)) : Option V := if (!decide (V.str p.2.1 = V.str name)) = true then some (V.ref p.1) else none
theorem keep_all {R : Addr → Str × Int → Prop} (name : Str) : ∀ {rs : List Addr} {F : Rows}, All2 R rs F → ∃ rs', ((rs.zip F).map (keepR name)).filterMap id = rs'.map V.ref ∧ All2 R rs' (without F name)
  | _, _, .nil => ⟨[], rfl, .nil⟩
  | _, _, .cons (a := a) (b := b) (l := l) (m := m) h t => by
    obtain ⟨rs', e, h'⟩ := keep_all name t
    rw [List.zip_cons_cons, List.map_cons]
    unfold without
    by_cases q : (!decide (V.str b.1 = V.str name)) = true
    · refine ⟨a :: rs', ?_, ?_⟩
      · have : keepR name (a, b) = some (.ref a) := if_pos q
        rw [this, List.filterMap_cons]
        show V.ref a :: List.filterMap id _ = _
        rw [e]
        rfl
      · rw [List.filter_cons, if_pos q]
        exact .cons h h'
    · refine ⟨rs', ?_, ?_⟩
      · have : keepR name (a, b) = none := if_neg q
        rw [this, List.filterMap_cons]
        exact e
      · rw [List.filter_cons, if_neg q]
        exact h'
def sp_take (CF : Addr) : Sp := fun vs H Q _ => ∃ (x : Addr) (cs : List Call) (name : Str) (s : Int), vs = [.ref x, .str name] ∧ FarmAt CF H x cs ∧ Ok cs ∧ cs.length < 500 ∧ NameOk name ∧ Has (stOf cs).2 name s ∧
  ∀ H', Fx x H H' → FarmAt CF H' x (cs ++ [((stOf cs).1, without (stOf cs).2 name)]) → Q .non H'
theorem d_LiveFarm_take_fence (T : Txt P K mg CF CG CI) : DM P w K mg base CF "take_fence" 9 ["self", "name"] (sp_take CF) := by
  refine T.m_LiveFarm_take_fence.ok sc_LiveFarm_take_fence (fun _ _ _ _ _ _ us hl => match us, hl with | [_, _], _ => rfl) ?_ (fun f cdv A outer s H vs Q E hr h => ?_)
  · rintro vs H Q E ⟨x, cs, n, s, rfl, _⟩; rfl
  · obtain ⟨x, cs, name, S, rfl, hx, hok, hlen, hn, hh, k⟩ := h
    refine ⟨_, (pss_cons (ps_expr (pe_m T.cF (d_LiveFarm_fence_there T) hr (pv 0) (pa_cons (pv 1) pa_nil)))
      (pss_cons (ps_asg (pe_m0 T.cF (d_LiveFarm_state_now T) hr (pv 0)) (pg_tup rfl (pgs_cons (pg_name (i := 2) sc_LiveFarm_take_fence.nd rfl (Or.inl rfl)) (pgs_cons (pg_name (i := 3) sc_LiveFarm_take_fence.nd rfl (Or.inl rfl)) (pgs_cons (pg_name (i := 4) sc_LiveFarm_take_fence.nd rfl (Or.inl rfl)) pgs_nil)))))
      (pss_one (ps_expr (pe_m T.cF (d_LiveFarm_keep_call T) hr (pv 0) (pa_cons (pe_tup (pa_cons pe_str (pa_cons (pv 1) pa_nil))) (pa_cons (pv 2) (pa_cons (pe_lc (own := [("row", 5)]) (g := (gName 5)) rfl sc_LiveFarm_take_fence.nd (pi_list (pv 3)) (blkOk_by (own := [("row", 5)]) (N := N_LiveFarm_take_fence) (sc := defScope s_LiveFarm_take_fence) (by decide +kernel)) (fun _ _ _ _ _ => by exact (pg_name (i := 5) sc_LiveFarm_take_fence.nd rfl (Or.inl rfl))) (fun _ _ _ _ _ => by exact (pts_one (pt_cmpR op_ne (pe_ix (r := rIxT K) ix_tup (pv 5) pe_int (fun _ _ => rfl)) (pv 1) (nomark _)))) (fun _ _ _ _ _ => by exact (pv 5))) pa_nil)))))))), ?_⟩
    obtain ⟨dx0, v0, hi0⟩ := hx.ins
    refine ⟨_, rfl, x, dx0, _, rfl, hi0, oc_n, _, rfl, x, cs, name, S, rfl, hx, hn, hh, fun f0 H1 s1 _ => ?_⟩
    have hx1 := hx.same s1
    obtain ⟨dx, v, hi⟩ := hx1.ins
    refine ⟨_, rfl, x, dx, _, rfl, hi, oc_n, x, cs, rfl, hx1, fun t l H2 s2 ht hrows => ?_⟩
    obtain ⟨rs, hl, hr2⟩ := hrows
    refine ⟨t, _, rfl, SqT.of ht, rfl, _, _, rfl, _, _, rfl, _, _, rfl, rfl, ?_⟩
    have hx2 := hx1.same s2
    obtain ⟨dx2, v2, hi2⟩ := hx2.ins
    refine ⟨_, rfl, x, dx2, _, rfl, hi2, oc_n, _, rfl, two_line, fun t3 ht3 => ?_⟩
    have s3 := same_new (o := .tup [.str "take", .str name]) ht3
    have hl3 := s3 _ _ hl
    obtain ⟨rs', ek, hk⟩ := keep_all name hr2
    have hlz : ((rs.zip (stOf cs).2).map (keepR name)).length = (rs.map V.ref).length := by rw [List.length_map, List.length_map, List.length_zip, hr2.len, Nat.min_self]
    refine ⟨_, rfl, _, rfl, l, rfl, ⟨_, SqL.of hl3⟩, fun D hD => lcQ (n := (rs.map V.ref).length) ((rs.zip (stOf cs).2).map (keepR name)) hD hlz (by rw [List.length_map, hr2.len]; have := hok.st.2.2.1; omega) (fun i H' hi' s' => ⟨rs.map V.ref, (rs.map V.ref)[i], SqL.of (s' _ _ hl3), by simp [hi']⟩) (fun H' s' => ⟨rs.map V.ref, SqL.of (s' _ _ hl3), Nat.le_refl _⟩) (fun i o x' H0 H' R R' ho s' yl y1 y2 => ?_) fun H4 s4 hD4 => ?_⟩
    · obtain ⟨e, yl⟩ := yl
      subst e
      have hx' := yl _ (SqL.of (s' _ _ hl3))
      obtain ⟨a, e, rfl, ea, ee, f', ha, hf'⟩ := row_get hr2 hx'
      have ez : (rs.zip (stOf cs).2)[i]? = some (a, e) := by
        rw [List.getElem?_zip_eq_some]
        exact ⟨ea, ee⟩
      rw [List.getElem?_map, ez] at ho
      have ho : some (keepR name (a, e)) = some o := ho
      injection ho with ho
      refine ⟨rfl, ?_⟩
      refine ⟨_, rfl, a, _, 0, _, rfl, rfl, SqT.of ((s3.trans s') _ _ ha), atI_nat (j := 0) rfl, _, rfl, rfl, _, rfl, ?_⟩
      by_cases q : (!decide (V.str e.1 = V.str name)) = true
      · have eo : keepR name (a, e) = some (.ref a) := if_pos q
        show if (!decide (V.str e.1 = V.str name)) = true then _ else _
        rw [q]
        refine iteT ?_
        exact ⟨_, rfl, y1 _ _ (by rw [← ho, eo]) (Same.refl _)⟩
      · have eo : keepR name (a, e) = none := if_neg q
        show if (!decide (V.str e.1 = V.str name)) = true then _ else _
        rw [Bool.not_eq_true] at q
        rw [q]
        refine iteF ?_
        exact y2 _ (by rw [← ho, eo]) (Same.refl _)
    · rw [ek] at hD4
      have s24 := (s1.trans s2).trans (s3.trans s4)
      have hst := hok.st
      refine ⟨x, D, _, (stOf cs).1, without (stOf cs).2 name, cs, rfl, hx.same s24, ⟨rs', hD4, hk.mono fun _ _ h => h.kp (kp_same (s3.trans s4))⟩, ⟨hst.1, hst.2.1, hst.2.2.sub List.filter_sublist⟩, hlen, fun H' fx hF => ?_⟩
      exact k _ (Fx.after s24 fx hx.var) hF
def sp_set_size (CF : Addr) : Sp := fun vs H Q _ => ∃ (x : Addr) (cs : List Call) (n : Int), vs = [.ref x, .int n] ∧ FarmAt CF H x cs ∧ Ok cs ∧ cs.length < 500 ∧ 1 ≤ n ∧ n ≤ big ∧ ∀ H', Fx x H H' → FarmAt CF H' x (cs ++ [(n, (stOf cs).2)]) → Q .non H'
theorem d_LiveFarm_set_size (T : Txt P K mg CF CG CI) : DM P w K mg base CF "set_size" 9 ["self", "size"] (sp_set_size CF) := by
  refine T.m_LiveFarm_set_size.ok sc_LiveFarm_set_size (fun _ _ _ _ _ _ us hl => match us, hl with | [_, _], _ => rfl) ?_ (fun f cdv A outer s H vs Q E hr h => ?_)
  · rintro vs H Q E ⟨x, cs, n, rfl, _⟩; rfl
  · obtain ⟨x, cs, n, rfl, hx, hok, hlen, hn1, hn2, k⟩ := h
    refine ⟨_, (pss_cons (ps_expr (pe_g (d_require_size T) hr (by rfl) (pa_cons (pv 1) pa_nil)))
      (pss_one (ps_expr (pe_m T.cF (d_LiveFarm_keep_call T) hr (pv 0) (pa_cons (pe_tup (pa_cons pe_str (pa_cons (pv 1) pa_nil))) (pa_cons (pv 1) (pa_cons (pe_ix (r := rIxT K) ix_tup (pe_m0 T.cF (d_LiveFarm_state_now T) hr (pv 0)) pe_int (fun _ _ => rfl)) pa_nil))))))), ?_⟩
    refine ⟨_, rfl, n, rfl, hn1, hn2, ?_⟩
    obtain ⟨dx0, v0, hi0⟩ := hx.ins
    refine ⟨_, rfl, x, dx0, _, rfl, hi0, oc_n, _, rfl, two_line, fun t1 ht1 => ?_⟩
    have s1 := same_new (o := .tup [.str "size", .int n]) ht1
    have hx1 := hx.same s1
    obtain ⟨dx, v, hi⟩ := hx1.ins
    refine ⟨_, rfl, _, rfl, x, dx, _, rfl, hi, oc_n, x, cs, rfl, hx1, fun t l H2 s2 ht hrows => ?_⟩
    have s12 := s1.trans s2
    have hst := hok.st
    refine ⟨t, _, 1, _, rfl, rfl, SqT.of ht, atI_nat (j := 1) rfl, x, l, _, n, (stOf cs).2, cs, rfl, hx.same s12, hrows, ⟨hn1, hn2, hst.2.2⟩, hlen, fun H' fx hF => ?_⟩
    exact k _ (Fx.after s12 fx hx.var) hF
def sp_undo (CF : Addr) : Sp := fun vs H Q _ => ∃ (x : Addr) (cs : List Call) (c : Call), vs = [.ref x] ∧ FarmAt CF H x (cs ++ [c]) ∧ ∀ H', Fx x H H' → FarmAt CF H' x cs → Q .non H'
theorem cut_last (xs : List V) (v : V) : cutV (xs ++ [v]) none (some (-1)) = xs := by
  unfold cutV
  have e1 : HT.sIx (xs ++ [v]).length 0 none = 0 := rfl
  have e2 : HT.sIx (xs ++ [v]).length (xs ++ [v]).length (some (-1)) = xs.length := by
    unfold HT.sIx
    show (if (-1 : Int) < 0 then _ else _) = _
    rw [if_pos (by decide), List.length_append]
    show ((-1 : Int) + ((xs.length + 1 : Nat) : Int)).toNat = _
    omega
  rw [e1, e2, List.drop_zero, Nat.sub_zero, List.take_left]
theorem d_LiveFarm_undo (T : Txt P K mg CF CG CI) : DM P w K mg base CF "undo" 1 ["self"] (sp_undo CF) := by
  refine T.m_LiveFarm_undo.ok sc_LiveFarm_undo (fun _ _ _ _ _ _ us hl => match us, hl with | [_], _ => rfl) ?_ (fun f cdv A outer s H vs Q E hr h => ?_)
  · rintro vs H Q E ⟨x, cs, c, rfl, _⟩; rfl
  · obtain ⟨x, cs, c, rfl, ⟨dx, l, hx, rs, hl, hc⟩, k⟩ := h
    refine ⟨_, (pss_cons (ps_if (pt_cmpR (op_eqE hr.units) (pe_fld (pv 0) rfl) (pe_lst pa_nil) (nomark _)) (pss_one ps_never) pss_nil)
      (pss_one (ps_fld (pv 0) (pe_slice sl_list (pe_fld (pv 0) rfl) po_none (po_some (pe_un un_neg pe_int))) rfl))), ?_⟩
    obtain ⟨rs0, a, rfl, hc0, ha⟩ := all2_last hc
    refine ⟨_, rfl, x, CF, dx, _, _, rfl, hx, T.cF, T.n_own, oc_l _, Nat.zero_le _, fun e he => ?_⟩
    have se := same_new (o := .lst []) he
    refine ⟨l, e, _, rfl, rfl, SqL.of (se _ _ hl), SqL.of upd_same, _, rfl, ?_⟩
    have e1 : (List.map V.ref (rs0 ++ [a])).isEmpty = false := by rw [List.map_append]; cases rs0 <;> rfl
    rw [e1]
    show if false = true then _ else _
    refine iteF ?_
    refine ⟨_, rfl, x, CF, dx, _, _, rfl, se _ _ hx, T.cF, T.n_own, oc_l _, 1, rfl, _, rfl, l, _, rfl, SqL.of (se _ _ hl), fun p hp => ?_⟩
    rw [List.map_append, List.map_singleton]
    show _
    have e2 := cut_last (rs0.map V.ref) (V.ref a)
    rw [show (some (-1 : Int)) = some (-1) from rfl] at e2
    rw [e2]
    have s2 := same_new (o := .lst (rs0.map V.ref)) hp
    have hx2 := s2 _ _ (se _ _ hx)
    refine ⟨_, rfl, x, CF, dx, _, rfl, hx2, T.cF, T.n_own, (by show 1 < 1000; decide), ?_⟩
    rw [of_put (oc_put (.ref l) (.ref p))]
    have p3 := Fx.put (u := .ins CF dx [(oc, .ref p)]) hx2 trivial
    exact k _ (Fx.after (se.trans s2) p3 ⟨_, hx, trivial⟩) ⟨dx, p, upd_same, rs0, (kp_fx p3) _ _ upd_same nv_refs, hc0.mono fun _ _ h => h.kp ((kp_same (se.trans s2)).trans (kp_fx p3))⟩
def sp_fork (CF : Addr) : Sp := fun vs H Q _ => ∃ (x : Addr) (cs : List Call), vs = [.ref x] ∧ FarmAt CF H x cs ∧ ∀ q H', Same H H' → H q = none → FarmAt CF H' q cs → Q (.ref q) H'
theorem d_LiveFarm_fork (T : Txt P K mg CF CG CI) : DM P w K mg base CF "fork" 3 ["self"] (sp_fork CF) := by
  refine T.m_LiveFarm_fork.ok sc_LiveFarm_fork (fun _ _ _ _ _ _ us hl => match us, hl with | [_], _ => rfl) ?_ (fun f cdv A outer s H vs Q E hr h => ?_)
  · rintro vs H Q E ⟨x, cs, rfl, _⟩; rfl
  · obtain ⟨x, cs, rfl, ⟨dx, l, hx, rs, hl, hc⟩, k⟩ := h
    refine ⟨_, (pss_cons (ps_set (i := 1) sc_LiveFarm_fork.nd rfl (Or.inl rfl) (pe_c0 (d_LiveFarm_init T) hr (by rfl)))
      (pss_cons (ps_fld (pv 1) (pe_callTy call_list_of (by rfl) T.z_list (by decide +kernel) (pa_cons (pe_fld (pv 0) rfl) pa_nil)) rfl)
      (pss_one (ps_ret (pv 1))))), ?_⟩
    refine fun y dy hy hdy hne => ?_
    have s1 : Same H (upd (upd H dy (.own y)) y (.ins CF dy [])) := (same_new hdy).trans (same_new (by rw [upd_ne hne.symm]; exact hy))
    refine ⟨y, dy, rfl, upd_same, fun H2 f2 hF2 => ⟨rfl, ?_⟩⟩
    have s2 : Same H H2 := fun b o e => f2.keep _ _ (ne_of_none e hy) (s1 _ _ e)
    have hx2 := s2 _ _ hx
    refine ⟨_, rfl, x, CF, dx, _, _, rfl, hx2, T.cF, T.n_own, oc_l _, l, _, rfl, .inl (SqL.of (s2 _ _ hl)), fun p hp => ?_⟩
    have s3 := same_new (o := .lst (rs.map V.ref)) hp
    obtain ⟨dx', l', hy2, _⟩ := hF2
    have hy3 := s3 _ _ hy2
    refine ⟨_, rfl, y, CF, dx', _, rfl, hy3, T.cF, T.n_own, (by show 1 < 1000; decide), ?_⟩
    rw [of_put (oc_put (.ref l') (.ref p))]
    have p4 := Fx.put (u := .ins CF dx' [(oc, .ref p)]) hy3 trivial
    have s4 : Same H (upd (upd H2 p (.lst (rs.map V.ref))) y (.ins CF dx' [(oc, .ref p)])) := fun b o e => p4.keep _ _ (ne_of_none e hy) ((s2.trans s3) _ _ e)
    exact ⟨_, rfl, k y _ s4 hy ⟨dx', p, upd_same, rs, (kp_fx p4) _ _ upd_same nv_refs, hc.mono fun _ _ h => h.kp (kp_same s4)⟩⟩
def sp_fence_named (CF : Addr) : Sp := fun vs H Q _ => ∃ (x : Addr) (cs : List Call) (name : Str) (s : Int), vs = [.ref x, .str name] ∧ FarmAt CF H x cs ∧ NameOk name ∧ Has (stOf cs).2 name s ∧ ∀ t H', Same H H' → FenceNew H H' t s → Q (.ref t) H'
theorem d_LiveFarm_fence_named (T : Txt P K mg CF CG CI) : DM P w K mg base CF "fence_named" 4 ["self", "name"] (sp_fence_named CF) := by
  refine T.m_LiveFarm_fence_named.ok sc_LiveFarm_fence_named (fun _ _ _ _ _ _ us hl => match us, hl with | [_, _], _ => rfl) ?_ (fun f cdv A outer s H vs Q E hr h => ?_)
  · rintro vs H Q E ⟨x, cs, n, s, rfl, _⟩; rfl
  · obtain ⟨x, cs, name, S, rfl, hx, hn, hh, k⟩ := h
    refine ⟨_, (pss_one (ps_ret (pe_g (d_own_fence T) hr (by rfl) (pa_cons (pe_m T.cF (d_LiveFarm_fence_there T) hr (pv 0) (pa_cons (pv 1) pa_nil)) pa_nil)))), ?_⟩
    obtain ⟨dx0, v0, hi0⟩ := hx.ins
    refine ⟨_, rfl, x, dx0, _, rfl, hi0, oc_n, _, rfl, x, cs, name, S, rfl, hx, hn, hh, fun f0 H1 s1 hf => ?_⟩
    exact ⟨f0, S, rfl, hf, fun t H' s2 hF => k t _ (s1.trans s2) (hF.old s1)⟩
def sp_pSize (CF : Addr) : Sp := fun vs H Q _ => ∃ (x : Addr) (cs : List Call), vs = [.ref x] ∧ FarmAt CF H x cs ∧ ∀ H', Same H H' → Q (.int (stOf cs).1) H'
theorem d_LiveFarm_size (T : Txt P K mg CF CG CI) : DP P w K mg base CF "size" 2 (sp_pSize CF) := by
  refine T.p_LiveFarm_size.ok sc_LiveFarm_size (fun _ _ _ _ _ _ us hl => match us, hl with | [_], _ => rfl) ?_ (fun f cdv A outer s H vs Q E hr h => ?_)
  · rintro vs H Q E ⟨x, cs, rfl, _⟩; rfl
  · obtain ⟨x, cs, rfl, hx, k⟩ := h
    refine ⟨_, (pss_one (ps_ret (pe_ix (r := rIxT K) ix_tup (pe_m0 T.cF (d_LiveFarm_state_now T) hr (pv 0)) pe_int (fun _ _ => rfl)))), ?_⟩
    obtain ⟨dx0, v0, hi0⟩ := hx.ins
    refine ⟨_, rfl, x, dx0, _, rfl, hi0, oc_n, x, cs, rfl, hx, fun t l H2 s2 ht hrows => ?_⟩
    exact ⟨t, _, 0, _, rfl, rfl, SqT.of ht, atI_nat (j := 0) rfl, k _ s2⟩
def sp_pTotal (CF : Addr) : Sp := fun vs H Q _ => ∃ (x : Addr) (cs : List Call), vs = [.ref x] ∧ FarmAt CF H x cs ∧ ∀ H', Same H H' → Q (.int (tot (stOf cs).2 (stOf cs).1)) H'
theorem d_LiveFarm_total (T : Txt P K mg CF CG CI) : DP P w K mg base CF "total" 2 (sp_pTotal CF) := by
  refine T.p_LiveFarm_total.ok sc_LiveFarm_total (fun _ _ _ _ _ _ us hl => match us, hl with | [_], _ => rfl) ?_ (fun f cdv A outer s H vs Q E hr h => ?_)
  · rintro vs H Q E ⟨x, cs, rfl, _⟩; rfl
  · obtain ⟨x, cs, rfl, hx, k⟩ := h
    refine ⟨_, (pss_one (ps_ret (pe_ix (r := rIxT K) ix_tup (pe_m0 T.cF (d_LiveFarm_state_now T) hr (pv 0)) pe_int (fun _ _ => rfl)))), ?_⟩
    obtain ⟨dx0, v0, hi0⟩ := hx.ins
    refine ⟨_, rfl, x, dx0, _, rfl, hi0, oc_n, x, cs, rfl, hx, fun t l H2 s2 ht hrows => ?_⟩
    exact ⟨t, _, 2, _, rfl, rfl, SqT.of ht, atI_nat (j := 2) rfl, k _ s2⟩
def sp_pNames (CF : Addr) : Sp := fun vs H Q _ => ∃ (x : Addr) (cs : List Call), vs = [.ref x] ∧ FarmAt CF H x cs ∧ Ok cs ∧ ∀ p H', Same H H' → H' p = some (.lst ((names (stOf cs).2).map V.str)) → Q (.ref p) H'
theorem d_LiveFarm_names (T : Txt P K mg CF CG CI) : DP P w K mg base CF "names" 2 (sp_pNames CF) := by
  refine T.p_LiveFarm_names.ok sc_LiveFarm_names (fun _ _ _ _ _ _ us hl => match us, hl with | [_], _ => rfl) ?_ (fun f cdv A outer s H vs Q E hr h => ?_)
  · rintro vs H Q E ⟨x, cs, rfl, _⟩; rfl
  · obtain ⟨x, cs, rfl, hx, hok, k⟩ := h
    refine ⟨_, (pss_one (ps_ret (pe_lc (own := [("name", 1), ("fence", 2)]) (g := (gTup K 2 (gCons (gName 1) (gCons (gName 2) gNil)))) rfl sc_LiveFarm_names.nd (pi_list (pe_ix (r := rIxT K) ix_tup (pe_m0 T.cF (d_LiveFarm_state_now T) hr (pv 0)) pe_int (fun _ _ => rfl))) (blkOk_by (own := [("name", 1), ("fence", 2)]) (N := N_LiveFarm_names) (sc := defScope s_LiveFarm_names) (by decide +kernel)) (fun _ _ _ _ _ => by exact (pg_tup rfl (pgs_cons (pg_name (i := 1) sc_LiveFarm_names.nd rfl (Or.inl rfl)) (pgs_cons (pg_name (i := 2) sc_LiveFarm_names.nd rfl (Or.inl rfl)) pgs_nil)))) (fun _ _ _ _ _ => by exact pts_nil) (fun _ _ _ _ _ => by exact (pv 1))))), ?_⟩
    obtain ⟨dx0, v0, hi0⟩ := hx.ins
    refine ⟨_, rfl, x, dx0, _, rfl, hi0, oc_n, x, cs, rfl, hx, fun t l H2 s2 ht hrows => ?_⟩
    obtain ⟨rs, hl, hr2⟩ := hrows
    refine ⟨t, _, 1, _, rfl, rfl, SqT.of ht, atI_nat (j := 1) rfl, l, rfl, ⟨_, SqL.of hl⟩, fun D hD => lcL (xs := rs.map V.ref) ((names (stOf cs).2).map V.str) hD hl (by unfold names; rw [List.length_map, List.length_map, List.length_map, hr2.len]) (by rw [List.length_map, hr2.len]; have := hok.st.2.2.1; omega) (fun i y x' H' R hx' hy s' kR => ?_) fun H3 s3 hD3 => ?_⟩
    · obtain ⟨a, e, rfl, ea, ee, f', ha, hf'⟩ := row_get hr2 hx'
      unfold names at hy
      rw [List.map_map, List.getElem?_map, ee] at hy
      cases hy
      refine ⟨a, _, rfl, SqT.of (s' _ _ ha), rfl, _, _, rfl, _, _, rfl, rfl, rfl, ?_⟩
      exact ⟨_, rfl, kR _ (Same.refl _)⟩
    · exact k D _ (s2.trans s3) hD3
def sp_pLog (CF : Addr) : Sp := fun vs H Q _ => ∃ x : Addr, vs = [.ref x] ∧ FarmAt CF H x [] ∧ ∀ p H', Same H H' → H' p = some (.lst []) → Q (.ref p) H'
theorem d_LiveFarm_log (T : Txt P K mg CF CG CI) : DP P w K mg base CF "log" 1 (sp_pLog CF) := by
  refine T.p_LiveFarm_log.ok sc_LiveFarm_log (fun _ _ _ _ _ _ us hl => match us, hl with | [_], _ => rfl) ?_ (fun f cdv A outer s H vs Q E hr h => ?_)
  · rintro vs H Q E ⟨x, rfl, _⟩; rfl
  · obtain ⟨x, rfl, ⟨dx, l, hx, rs, hl, hc⟩, k⟩ := h
    cases hc
    refine ⟨_, (pss_cons (ps_setLc (i := 1) (own := [("row", 2)]) (g := (gName 2)) rfl sc_LiveFarm_log.nd rfl rfl (sw_true rfl rfl rfl (by decide +kernel)) (pi_list (pe_fld (pv 0) rfl)) (blkOk_by (own := [("row", 2)]) (N := N_LiveFarm_log) (sc := defScope s_LiveFarm_log) (by decide +kernel)) (fun _ _ _ _ _ => by exact (pg_name (i := 2) sc_LiveFarm_log.nd rfl (Or.inl rfl))) (fun _ _ _ _ _ => by exact pts_nil) (fun _ _ _ _ _ => by exact pe_no))
      (pss_one (ps_ret (pe_lc (own := [("call", 3)]) (g := (gName 3)) rfl sc_LiveFarm_log.nd (pi_list (pv 1)) (blkOk_by (own := [("call", 3)]) (N := N_LiveFarm_log) (sc := defScope s_LiveFarm_log) (by decide +kernel)) (fun _ _ _ _ _ => by exact (pg_name (i := 3) sc_LiveFarm_log.nd rfl (Or.inl rfl))) (fun _ _ _ _ _ => by exact pts_nil) (fun _ _ _ _ _ => by exact pe_no))))), ?_⟩
    refine ⟨_, rfl, x, CF, dx, _, _, rfl, hx, T.cF, T.n_own, oc_l _, l, rfl, ⟨_, SqL.of hl⟩, fun D hD => lcNil (J := Itl K l) hD (fun H' s' => ⟨[], SqL.of (s' _ _ hl), Nat.le_refl _⟩) fun H2 s2 hD2 => ?_⟩
    refine ⟨_, rfl, D, rfl, ⟨_, SqL.of hD2⟩, fun D' hD' => lcNil (J := Itl K D) hD' (fun H' s' => ⟨[], SqL.of (s' _ _ hD2), Nat.le_refl _⟩) fun H3 s3 hD3 => ?_⟩
    exact k D' _ (s2.trans s3) hD3
def sp_len (CF : Addr) : Sp := fun vs H Q _ => ∃ (x : Addr) (cs : List Call), vs = [.ref x] ∧ FarmAt CF H x cs ∧ ∀ H', Same H H' → Q (.int (((stOf cs).2.length : Nat) : Int)) H'
theorem d_LiveFarm_len (T : Txt P K mg CF CG CI) : DM P w K mg base CF "__len__" 2 ["self"] (sp_len CF) := by
  refine T.m_LiveFarm_len.ok sc_LiveFarm_len (fun _ _ _ _ _ _ us hl => match us, hl with | [_], _ => rfl) ?_ (fun f cdv A outer s H vs Q E hr h => ?_)
  · rintro vs H Q E ⟨x, cs, rfl, _⟩; rfl
  · obtain ⟨x, cs, rfl, hx, k⟩ := h
    refine ⟨_, (pss_one (ps_ret (pe_callB call_len_seq (by rfl) T.z_len (by decide +kernel) (pa_cons (pe_ix (r := rIxT K) ix_tup (pe_m0 T.cF (d_LiveFarm_state_now T) hr (pv 0)) pe_int (fun _ _ => rfl)) pa_nil)))), ?_⟩
    obtain ⟨dx0, v0, hi0⟩ := hx.ins
    refine ⟨_, rfl, x, dx0, _, rfl, hi0, oc_n, x, cs, rfl, hx, fun t l H2 s2 ht hrows => ?_⟩
    obtain ⟨rs, hl, hr2⟩ := hrows
    refine ⟨t, _, 1, _, rfl, rfl, SqT.of ht, atI_nat (j := 1) rfl, l, _, rfl, .inl (SqL.of hl), ?_⟩
    rw [List.length_map, hr2.len]
    exact k _ s2
def sp_count_named (CF : Addr) : Sp := fun vs H Q _ => ∃ (x : Addr) (cs : List Call) (name : Str) (s : Int), vs = [.ref x, .str name] ∧ FarmAt CF H x cs ∧ Ok cs ∧ NameOk name ∧ Has (stOf cs).2 name s ∧ ∀ H', Same H H' → Q (.int (s * (stOf cs).1 + 1)) H'
theorem d_LiveFarm_count_named (T : Txt P K mg CF CG CI) : DM P w K mg base CF "count_named" 7 ["self", "name"] (sp_count_named CF) := by
  refine T.m_LiveFarm_count_named.ok sc_LiveFarm_count_named (fun _ _ _ _ _ _ us hl => match us, hl with | [_, _], _ => rfl) ?_ (fun f cdv A outer s H vs Q E hr h => ?_)
  · rintro vs H Q E ⟨x, cs, n, s, rfl, _⟩; rfl
  · obtain ⟨x, cs, name, S, rfl, hx, hok, hn, hh, k⟩ := h
    refine ⟨_, (pss_one (ps_ret (pe_g (d_count_of T) hr (by rfl) (pa_cons (pe_m T.cF (d_LiveFarm_fence_there T) hr (pv 0) (pa_cons (pv 1) pa_nil)) (pa_cons (pe_p T.cF (d_LiveFarm_size T) hr (pv 0)) pa_nil))))), ?_⟩
    obtain ⟨dx0, v0, hi0⟩ := hx.ins
    refine ⟨_, rfl, x, dx0, _, rfl, hi0, oc_n, _, rfl, x, cs, name, S, rfl, hx, hn, hh, fun f0 H1 s1 hf => ?_⟩
    have hx1 := hx.same s1
    obtain ⟨dx, v, hi⟩ := hx1.ins
    refine ⟨_, rfl, x, dx, _, rfl, hi, x, cs, rfl, hx1, fun H2 s2 => ?_⟩
    have hst := hok.st
    exact ⟨f0, S, (stOf cs).1, rfl, hf.kp (kp_same s2), (hst.2.2.2 _ hh.1).2, hst.1, hst.2.1, fun H3 s3 => k _ ((s1.trans s2).trans s3)⟩
end
end Gf
namespace Gf
open PySem PySem.Spec PyProof.Rows L2
section
variable {P : Program} {w : World} {K : PySem.W.Frag} {mg : Str → Option Value} {base : Heap} {CF CG CI : Addr}

/-! ### the stock of numbers -/
def StockAt (H : Hp) (a : Addr) (N : Nat) : Prop := ∃ d m k : Int, H a = some (.lst [.int d, .int m, .int k]) ∧ 0 ≤ d ∧ 0 ≤ m ∧ m < 170141183460469231731687303715884105727 ∧ 0 ≤ k ∧ k ≤ N
theorem StockAt.var {H : Hp} {a : Addr} {N : Nat} (h : StockAt H a N) : ∃ o, H a = some o ∧ Var o := by
  obtain ⟨d, m, k, h, _⟩ := h
  exact ⟨_, h, d, m, k, rfl⟩
theorem StockAt.same {H H' : Hp} {a : Addr} {N : Nat} (h : StockAt H a N) (s : Same H H') : StockAt H' a N := by
  obtain ⟨d, m, k, h, r⟩ := h
  exact ⟨d, m, k, s _ _ h, r⟩
theorem StockAt.fx {H H' : Hp} {a p : Addr} {N : Nat} (h : StockAt H a N) (s : Fx p H H') (n : a ≠ p) : StockAt H' a N := by
  obtain ⟨d, m, k, h, r⟩ := h
  exact ⟨d, m, k, s.keep _ _ n h, r⟩
theorem far_eq : far = 1000000000000000000000000000000000000000000000000000000000000 := rfl
theorem big_eq : big = 1000000000000000000000000000000 := rfl
theorem cpow {i j : Int} (h0 : 0 ≤ i) (h : i ≤ far) (j0 : 0 ≤ j) (j1 : j ≤ 100000) : CPowG i j :=
  ⟨j0, j1, Nat.lt_of_lt_of_le (far_abs h0 h) (Nat.pow_le_pow_right (by decide) (by decide))⟩
def sp_draw : Sp := fun vs H Q _ => ∃ (a : Addr) (N : Nat) (wide : Int), vs = [.ref a, .int wide] ∧ StockAt H a N ∧ N ≤ 1000 ∧ 1 ≤ wide ∧ wide ≤ big ∧ ∀ r H', 0 ≤ r → r < wide → Fx a H H' → StockAt H' a (N + 1) → Q (.int r) H'
theorem d_law_draw (T : Txt P K mg CF CG CI) : DG P w K mg base "_law_draw" 1 ["_law_stock_here", "_law_wide"] sp_draw := by
  refine T.f_law_draw.ok sc_law_draw (fun _ _ _ _ _ _ us hl => match us, hl with | [_, _], _ => rfl) ?_ (fun f cdv A outer s H vs Q E hr h => ?_)
  · rintro vs H Q E ⟨a, N, wd, rfl, _⟩; rfl
  · obtain ⟨a, N, wd, rfl, ⟨d, m, n, ha, hd, hm, hm2, hn, hn2⟩, hN, hw1, hw2, k⟩ := h
    have hN' : (N : Int) ≤ 1000 := by omega
    have ef := far_eq
    have eb := big_eq
    refine ⟨_, (pss_cons (ps_if (pt_cmpR op_gt (pe_ix (r := rIxL K) ix_list (pv 0) pe_int (fun _ _ => rfl)) pe_int (nomark _)) (pss_cons (ps_set (i := 2) sc_law_draw.nd rfl (Or.inl rfl) (pe_op op_mod (pe_callTy call_int1 (by rfl) T.z_int (by decide +kernel) (pa_cons (pe_ix (r := rIxL K) ix_list (pv 0) pe_int (fun _ _ => rfl)) pa_nil)) (pv 1)))
      (pss_cons (ps_asg (pe_op op_fdivW (pe_ix (r := rIxL K) ix_list (pv 0) pe_int (fun _ _ => rfl)) (pv 1)) (pg_sub (pv 0) pe_int set_list))
      (pss_one (ps_ret (pv 2))))) pss_nil)
      (pss_cons (ps_asg (pe_op op_add (pe_ix (r := rIxL K) ix_list (pv 0) pe_int (fun _ _ => rfl)) pe_int) (pg_sub (pv 0) pe_int set_list))
      (pss_cons (ps_set (i := 3) sc_law_draw.nd rfl (Or.inl rfl) (pe_op op_add (pe_ix (r := rIxL K) ix_list (pv 0) pe_int (fun _ _ => rfl)) (pe_op op_mulW pe_int (pe_ix (r := rIxL K) ix_list (pv 0) pe_int (fun _ _ => rfl)))))
      (pss_cons (ps_set (i := 3) sc_law_draw.nd rfl (Or.inl rfl) (pe_op op_add (pe_op op_mod (pe_callTy call_int1 (by rfl) T.z_int (by decide +kernel) (pa_cons (pe_op op_powG (pv 3) pe_int) pa_nil)) pe_int) (pe_op op_mulW pe_int (pe_ix (r := rIxL K) ix_list (pv 0) pe_int (fun _ _ => rfl)))))
      (pss_cons (ps_set (i := 3) sc_law_draw.nd rfl (Or.inl rfl) (pe_op op_mod (pe_callTy call_int1 (by rfl) T.z_int (by decide +kernel) (pa_cons (pe_op op_powG (pv 3) pe_int) pa_nil)) pe_int))
      (pss_one (ps_ret (pe_op op_mod (pe_callTy call_int1 (by rfl) T.z_int (by decide +kernel) (pa_cons (pe_op op_fdivW (pv 3) pe_int) pa_nil)) (pv 1))))))))), ?_⟩
    refine ⟨_, rfl, a, _, 0, _, rfl, rfl, SqL.of ha, atI_nat (j := 0) rfl, d, 0, rfl, rfl, _, rfl, ?_⟩
    by_cases h0 : 0 < d
    · refine iteD h0 ?_
      refine ⟨_, rfl, a, _, 0, _, rfl, rfl, SqL.of ha, atI_nat (j := 0) rfl, .inl ⟨d, rfl, _, rfl, d, wd, rfl, rfl, (by omega), ?_⟩⟩
      refine ⟨_, rfl, a, _, 0, _, rfl, rfl, SqL.of ha, atI_nat (j := 0) rfl, _, rfl, d, wd, rfl, rfl, far_div (by omega) (by omega), ?_⟩
      refine ⟨_, rfl, a, _, 0, 0, rfl, rfl, ha, rfl, ?_⟩
      refine ⟨_, rfl, ?_⟩
      refine k _ _ (Int.emod_nonneg _ (by omega)) (Int.emod_lt_of_pos _ (by omega)) (Fx.put ha ⟨d, m, n, rfl⟩) ⟨d / wd, m, n, upd_same, Int.ediv_nonneg hd (by omega), hm, hm2, hn, by omega⟩
    · refine iteDn h0 ?_
      refine ⟨_, rfl, a, _, 2, _, rfl, rfl, SqL.of ha, atI_nat (j := 2) rfl, n, 1, rfl, rfl, ?_⟩
      refine ⟨_, rfl, a, _, 2, 2, rfl, rfl, ha, rfl, ?_⟩
      have P1 := Fx.put (u := .lst [V.int d, V.int m, V.int (n + 1)]) ha ⟨d, m, n, rfl⟩
      have h1 := upd_same (H := H) (a := a) (o := .lst [V.int d, V.int m, V.int (n + 1)])
      refine ⟨_, rfl, a, _, 1, _, rfl, rfl, SqL.of h1, atI_nat (j := 1) rfl, _, rfl, a, _, 2, _, rfl, rfl, SqL.of h1, atI_nat (j := 2) rfl, _, n + 1, rfl, rfl, far_mul (by decide) (by decide) (by omega) (by omega), m, _, rfl, rfl, ?_⟩
      have g1 : 0 ≤ m + 1000000000000000003 * (n + 1) := by omega
      have g2 : m + 1000000000000000003 * (n + 1) ≤ far := by omega
      refine ⟨_, rfl, _, 2, rfl, rfl, cpow g1 g2 (by decide) (by decide), .inl ⟨_, rfl, _, _, rfl, rfl, (by show (0 : Int) < _; decide), ?_⟩⟩
      have r1 := Int.emod_nonneg ((m + 1000000000000000003 * (n + 1)) ^ (2 : Int).toNat) (show (170141183460469231731687303715884105727 : Int) ≠ 0 by decide)
      have r2 := Int.emod_lt_of_pos ((m + 1000000000000000003 * (n + 1)) ^ (2 : Int).toNat) (show (0 : Int) < 170141183460469231731687303715884105727 by decide)
      refine ⟨_, rfl, a, _, 2, _, rfl, rfl, SqL.of h1, atI_nat (j := 2) rfl, _, n + 1, rfl, rfl, far_mul (by decide) (by decide) (by omega) (by omega), _, _, rfl, rfl, ?_⟩
      refine ⟨_, rfl, _, 3, rfl, rfl, cpow (by omega) (by omega) (by decide) (by decide), .inl ⟨_, rfl, _, _, rfl, rfl, (by show (0 : Int) < _; decide), ?_⟩⟩
      refine ⟨_, rfl, _, _, rfl, rfl, far_div (by decide) (by decide), .inl ⟨_, rfl, _, rfl, _, wd, rfl, rfl, (by omega), ?_⟩⟩
      exact k _ _ (Int.emod_nonneg _ (by omega)) (Int.emod_lt_of_pos _ (by omega)) P1 ⟨d, m, n + 1, h1, hd, hm, hm2, by omega, by omega⟩
theorem sqL_same {H H' : Hp} {a : Addr} {xs : List V} (s : Same H H') (h : SqL K H a xs) : SqL K H' a xs := by
  rcases h with (h | ⟨o, h⟩) | h
  · exact .inl (.inl (s _ _ h))
  · exact .inl (.inr ⟨o, s _ _ h⟩)
  · exact .inr h
def sp_stock : Sp := fun vs H Q _ => ∃ (a : Addr) (ns : List Int), vs = [.ref a] ∧ SqL K H a (ns.map V.int) ∧ ns.length ≤ 63 ∧ ∀ p H', StockAt H' p 0 → Q (.ref p) H'
theorem pow_step {d r : Int} {i : Nat} (hd0 : 0 ≤ d) (hd : d < (2 : Int) ^ (200 * i)) (hr : r < 10 ^ (60 : Int).toNat) : d * 10 ^ (60 : Int).toNat + r < (2 : Int) ^ (200 * (i + 1)) := by
  have e1 : (10 : Int) ^ (60 : Int).toNat ≤ 2 ^ 200 := by decide
  have e2 : (2 : Int) ^ (200 * (i + 1)) = 2 ^ (200 * i) * 2 ^ 200 := by rw [Nat.mul_add, Int.pow_add]
  have h1 : d * 10 ^ (60 : Int).toNat + r < (d + 1) * 10 ^ (60 : Int).toNat := by rw [Int.add_mul]; omega
  have h2 : (d + 1) * 10 ^ (60 : Int).toNat ≤ (2 : Int) ^ (200 * i) * 10 ^ (60 : Int).toNat := Int.mul_le_mul_of_nonneg_right (by omega) (by decide)
  have h3 : (2 : Int) ^ (200 * i) * 10 ^ (60 : Int).toNat ≤ (2 : Int) ^ (200 * i) * 2 ^ 200 := Int.mul_le_mul_of_nonneg_left e1 (two_pow_nn _)
  omega
theorem d_law_stock (T : Txt P K mg CF CG CI) : DG P w K mg base "_law_stock" 1 ["_law_script"] (sp_stock (K := K)) := by
  refine T.f_law_stock.ok sc_law_stock (fun _ _ _ _ _ _ us hl => match us, hl with | [_], _ => rfl) ?_ (fun f cdv A outer s H vs Q E hr h => ?_)
  · rintro vs H Q E ⟨a, ns, rfl, _⟩; rfl
  · obtain ⟨a, ns, rfl, ha, hns, k⟩ := h
    refine ⟨_, (pss_cons (ps_asg (pe_tup (pa_cons pe_int (pa_cons pe_int pa_nil))) (pg_tup rfl (pgs_cons (pg_name (i := 1) sc_law_stock.nd rfl (Or.inl rfl)) (pgs_cons (pg_name (i := 2) sc_law_stock.nd rfl (Or.inl rfl)) pgs_nil))))
      (pss_cons (ps_for PassesOwn.never rfl (pi_list (pe_slice sl_list (pv 0) po_none (po_some pe_int))) (pg_name (i := 3) sc_law_stock.nd rfl (Or.inl rfl)) (pss_cons (ps_if (pt_cmpR op_ge (pe_callB call_abs (by rfl) T.z_abs (by decide +kernel) (pa_cons (pv 3) pa_nil)) (pe_op op_powG pe_int pe_int) (nomark _)) (pss_one (ps_set (i := 1) sc_law_stock.nd rfl (Or.inl rfl) (pe_op op_add (pe_op op_mulW (pv 1) (pe_op op_powG pe_int pe_int)) (pe_op op_mod (pe_callTy call_int1 (by rfl) T.z_int (by decide +kernel) (pa_cons (pe_callB call_abs (by rfl) T.z_abs (by decide +kernel) (pa_cons (pv 3) pa_nil)) pa_nil)) (pe_op op_powG pe_int pe_int))))) pss_nil)
      (pss_cons (ps_set (i := 4) sc_law_stock.nd rfl (Or.inl rfl) (pe_op op_add (pe_op op_add (pe_op op_mulW (pv 2) pe_int) (pe_op op_mod (pe_callTy call_int1 (by rfl) T.z_int (by decide +kernel) (pa_cons (pv 3) pa_nil)) pe_int)) pe_int))
      (pss_one (ps_set (i := 2) sc_law_stock.nd rfl (Or.inl rfl) (pe_op op_mod (pe_callTy call_int1 (by rfl) T.z_int (by decide +kernel) (pa_cons (pv 4) pa_nil)) pe_int))))))
      (pss_one (ps_ret (pe_lst (pa_cons (pv 1) (pa_cons (pv 2) (pa_cons pe_int pa_nil)))))))), ?_⟩
    refine ⟨two_line, fun t ht => ?_⟩
    have s1 := same_new (o := .tup [.int 0, .int 27644437]) ht
    refine ⟨t, _, rfl, SqT.of upd_same, rfl, _, _, rfl, _, _, rfl, rfl, ?_⟩
    refine ⟨_, rfl, _, rfl, a, _, rfl, sqL_same s1 ha, fun p hp => ?_⟩
    have hlen : (cutV (ns.map V.int) none (some 63)).length ≤ 63 := by
      refine Nat.le_trans (cutV_length _ _ _) ?_
      rw [List.length_map]
      exact hns
    have hints : ∀ x ∈ cutV (ns.map V.int) none (some 63), ∃ i : Int, x = .int i := fun x hx => by
      unfold cutV at hx
      have h1 := List.mem_of_mem_drop (List.mem_of_mem_take hx)
      obtain ⟨i, _, rfl⟩ := List.mem_map.mp h1
      exact ⟨i, rfl⟩
    refine ⟨p, rfl, ⟨_, SqL.of upd_same⟩, for_list (K := K) (a := p) (xs := cutV (ns.map V.int) none (some 63)) (fun i σ H' => (∃ (d m : Int) (o1 o2 : Option V), σ = [some (.ref a), some (.int d), some (.int m), o1, o2] ∧ 0 ≤ d ∧ d < (2 : Int) ^ (200 * i) ∧ 0 ≤ m ∧ m < 170141183460469231731687303715884105727) ∧ H' = _) ⟨⟨0, 27644437, none, none, rfl, by decide, by decide, by decide, by decide⟩, rfl⟩ (fun i σ H' _ h => by rw [h.2]; exact SqL.of upd_same) ?_ ?_⟩
    · rintro i x σ H' hx ⟨⟨d, m, o1, o2, rfl, hd, hd2, hm, hm2⟩, rfl⟩
      obtain ⟨c, rfl⟩ := hints x (List.mem_of_getElem? hx)
      have hi : i < 63 := Nat.lt_of_lt_of_le (List.getElem?_eq_some_iff.mp hx).1 hlen
      have p10 : CPowG 10 18 := cpow (by decide) (by decide) (by decide) (by decide)
      have p60 : CPowG 10 60 := cpow (by decide) (by decide) (by decide) (by decide)
      have ef := far_eq
      have rest : ∀ (d' : Int) (H' : Hp), 0 ≤ d' → d' < (2 : Int) ^ (200 * (i + 1)) → ∀ (Z : L2.St → Hp → Prop), Z [some (.ref a), some (.int d'), some (.int (m * 48271 + c % 2305843009213693951 + 101) ), some (.int c), o2] H' → True := fun _ _ _ _ _ _ => trivial
      refine ⟨_, rfl, c, rfl, 10, 18, rfl, rfl, p10, _, _, rfl, rfl, _, rfl, ?_⟩
      have q1 := Int.emod_nonneg (if c < 0 then -c else c) (show (10 ^ (60 : Int).toNat : Int) ≠ 0 by decide)
      have q2 := Int.emod_lt_of_pos (if c < 0 then -c else c) (show (0 : Int) < 10 ^ (60 : Int).toNat by decide)
      have c1 := Int.emod_nonneg c (show (2305843009213693951 : Int) ≠ 0 by decide)
      have c2 := Int.emod_lt_of_pos c (show (0 : Int) < 2305843009213693951 by decide)
      have g1 := Int.emod_nonneg (m * 48271 + c % 2305843009213693951 + 101) (show (170141183460469231731687303715884105727 : Int) ≠ 0 by decide)
      have g2 := Int.emod_lt_of_pos (m * 48271 + c % 2305843009213693951 + 101) (show (0 : Int) < 170141183460469231731687303715884105727 by decide)
      by_cases h18 : (10 : Int) ^ (18 : Int).toNat ≤ (if c < 0 then -c else c)
      · refine iteD h18 ?_
        have cm : CMulW d (10 ^ (60 : Int).toNat) := wide_mul (a := 200 * 63) (b := 200) (Nat.lt_of_lt_of_le (abs_lt hd hd2) (Nat.pow_le_pow_right (by decide) (by omega))) (by decide) (by decide) (by decide) (by decide)
        refine ⟨_, rfl, 10, 60, rfl, rfl, p60, d, _, rfl, rfl, cm, ?_⟩
        refine ⟨_, rfl, c, rfl, .inl ⟨_, rfl, 10, 60, rfl, rfl, p60, _, _, rfl, rfl, (by show (0 : Int) < _; decide), _, _, rfl, rfl, ?_⟩⟩
        refine ⟨_, rfl, _, _, rfl, rfl, far_mul hm (by omega) (by decide) (by decide), _, rfl, .inl ⟨_, rfl, _, _, rfl, rfl, (by show (0 : Int) < _; decide), _, _, rfl, rfl, _, _, rfl, rfl, ?_⟩⟩
        refine ⟨_, rfl, .inl ⟨_, rfl, _, _, rfl, rfl, (by show (0 : Int) < _; decide), ?_⟩⟩
        refine ⟨⟨_, _, _, _, rfl, ?_, pow_step hd hd2 q2, g1, g2⟩, rfl⟩
        exact Int.add_nonneg (Int.mul_nonneg hd (by decide)) q1
      · refine iteDn h18 ?_
        refine ⟨_, rfl, _, _, rfl, rfl, far_mul hm (by omega) (by decide) (by decide), _, rfl, .inl ⟨_, rfl, _, _, rfl, rfl, (by show (0 : Int) < _; decide), _, _, rfl, rfl, _, _, rfl, rfl, ?_⟩⟩
        refine ⟨_, rfl, .inl ⟨_, rfl, _, _, rfl, rfl, (by show (0 : Int) < _; decide), ?_⟩⟩
        refine ⟨⟨_, _, _, _, rfl, hd, ?_, g1, g2⟩, rfl⟩
        have e2 : (2 : Int) ^ (200 * (i + 1)) = 2 ^ (200 * i) * 2 ^ 200 := by rw [Nat.mul_add, Int.pow_add]
        have e3 : (2 : Int) ^ (200 * i) * 1 ≤ 2 ^ (200 * i) * 2 ^ 200 := Int.mul_le_mul_of_nonneg_left (by decide) (two_pow_nn _)
        omega
    · rintro σ H' ⟨⟨d, m, o1, o2, rfl, hd, hd2, hm, hm2⟩, rfl⟩
      refine ⟨_, rfl, _, rfl, three_line, fun q hq => ?_⟩
      exact k q _ ⟨d, m, 0, upd_same, hd, hm, hm2, Int.le_refl _, Int.le_refl _⟩
def sp_bar : Sp := fun vs H Q _ => ∃ s : Int, vs = [.int s] ∧ 0 ≤ s ∧ ∀ t H', Same H H' → FenceNew H H' t s → Q (.ref t) H'
theorem none_back {H H' : Hp} {a : Addr} (s : Same H H') (h : H' a = none) : H a = none := by
  cases e : H a with
  | none => rfl
  | some o => rw [s _ _ e] at h; cases h
theorem d_law_bar (T : Txt P K mg CF CG CI) : DG P w K mg base "_law_bar" 1 ["_law_spot"] sp_bar := by
  refine T.f_law_bar.ok sc_law_bar (fun _ _ _ _ _ _ us hl => match us, hl with | [_], _ => rfl) ?_ (fun f cdv A outer s H vs Q E hr h => ?_)
  · rintro vs H Q E ⟨a, rfl, _⟩; rfl
  · obtain ⟨S, rfl, hS, k⟩ := h
    refine ⟨_, (pss_one (ps_ret (pe_tup (pa_cons pe_int (pa_cons (pe_ifExp (pt_cmpR op_gt (pv 0) pe_int (nomark _)) (pe_lst (pa_cons (pe_tup (pa_cons pe_int (pa_cons pe_int pa_nil))) (pa_cons (pe_tup (pa_cons (pv 0) (pa_cons pe_int pa_nil))) pa_nil))) (pe_lst (pa_cons (pe_tup (pa_cons pe_int (pa_cons pe_int pa_nil))) pa_nil))) (pa_cons (pe_lst pa_nil) pa_nil)))))), ?_⟩
    refine ⟨_, rfl, S, 0, rfl, rfl, _, rfl, ?_⟩
    by_cases h0 : 0 < S
    · refine iteD h0 ?_
      refine ⟨two_line, fun p hp => ⟨_, rfl, two_line, fun q hq => ⟨two_line, fun c hc => ⟨Nat.zero_le _, fun z hz => ⟨three_line, fun t ht => ?_⟩⟩⟩⟩⟩
      have s1 := same_new (o := .tup [.int 0, .int 0]) hp
      have s2 := same_new (o := .tup [.int S, .int 0]) hq
      have s3 := same_new (o := .lst [.ref p, .ref q]) hc
      have s4 := same_new (o := .lst []) hz
      have s5 := same_new (o := .tup [.int 1, .ref c, .ref z]) ht
      refine k t _ ((((s1.trans s2).trans s3).trans s4).trans s5) ⟨c, z, upd_same, none_back (s1.trans s2) hc, none_back ((s1.trans s2).trans s3) hz, .inl ⟨h0, p, q, ?_, ?_, ?_⟩, s5 _ _ upd_same⟩
      · exact s5 _ _ (s4 _ _ upd_same)
      · exact s5 _ _ (s4 _ _ (s3 _ _ (s2 _ _ upd_same)))
      · exact s5 _ _ (s4 _ _ (s3 _ _ upd_same))
    · refine iteDn h0 ?_
      refine ⟨two_line, fun p hp => ⟨one_line, fun c hc => ⟨Nat.zero_le _, fun z hz => ⟨three_line, fun t ht => ?_⟩⟩⟩⟩
      have s1 := same_new (o := .tup [.int 0, .int 0]) hp
      have s3 := same_new (o := .lst [.ref p]) hc
      have s4 := same_new (o := .lst []) hz
      have s5 := same_new (o := .tup [.int 1, .ref c, .ref z]) ht
      refine k t _ (((s1.trans s3).trans s4).trans s5) ⟨c, z, upd_same, none_back s1 hc, none_back (s1.trans s3) hz, .inr ⟨by omega, p, ?_, ?_⟩, s5 _ _ upd_same⟩
      · exact s5 _ _ (s4 _ _ upd_same)
      · exact s5 _ _ (s4 _ _ (s3 _ _ upd_same))
end
end Gf
namespace Gf
open PySem PySem.Spec PyProof.Rows L2
theorem exm_own {K : PySem.W.Frag} {C : Addr} (h1 : PySem.W.subIn K (.ref C) (.type "BaseException") = some true) (hc : PySem.W.isClsIn K C = true) (ht : PySem.W.typeIn K (.ref C) = some (.type "type")) (h4 : PySem.W.subIn K (.ref C) (.ref C) = some true) : PySem.W.exmOne K (.ref C) (.ref C) = some true := by
  have e1 : (PySem.W.subIn K (.ref C) (.type "BaseException") == some true) = true := by rw [h1] <;> rfl
  have hc : (PySem.W.clsIn K C).isSome = true := hc
  have e2 : ((PySem.W.clsIn K C).isSome && PySem.W.typeIn K (.ref C) == some (.type "type")) = true := by rw [hc, ht] <;> rfl
  show (if (PySem.W.subIn K (.ref C) (.type "BaseException") == some true) = true then (if ((PySem.W.clsIn K C).isSome && PySem.W.typeIn K (.ref C) == some (.type "type")) = true then PySem.W.subIn K (.ref C) (.ref C) else none) else none) = some true
  rw [if_pos e1, if_pos e2]
  exact h4
section
variable {P : Program} {w : World} {K : PySem.W.Frag} {mg : Str → Option Value} {base : Heap} {CF CG CI : Addr}
def sp_is_put (CF : Addr) : Sp := fun vs H Q _ => ∃ (x : Addr) (cs : List Call) (name : Str) (s : Int), vs = [.ref x, .str name, .int s] ∧ FarmAt CF H x cs ∧ Ok cs ∧ cs.length < 500 ∧ NameOk name ∧ 0 ≤ s ∧ s ≤ big ∧ name ∉ names (stOf cs).2 ∧
  ((stOf cs).2.length < 20 → ∀ H', Fx x H H' → FarmAt CF H' x (cs ++ [((stOf cs).1, msort ((stOf cs).2 ++ [(name, s)]))]) → Q (.bl true) H') ∧ ((stOf cs).2.length = 20 → ∀ H', Same H H' → Q (.bl false) H')
theorem d_law_is_put (T : Txt P K mg CF CG CI) : DG P w K mg base "_law_is_put" 11 ["_law_farm", "_law_word", "_law_spot"] (sp_is_put CF) := by
  refine T.f_law_is_put.ok sc_law_is_put (fun _ _ _ _ _ _ us hl => match us, hl with | [_, _, _], _ => rfl) ?_ (fun f cdv A outer s H vs Q E hr h => ?_)
  · rintro vs H Q E ⟨x, cs, n, s, rfl, _⟩; rfl
  · obtain ⟨x, cs, name, S, rfl, hx, hok, hlen, hn, hS0, hS, hnot, k1, k2⟩ := h
    obtain ⟨fP, fdP, hPf, hPm, hPb⟩ := d_LiveFarm_put_fence (w := w) (base := base) T
    have hr1 := hr
    refine ⟨_, (pss_cons (ps_set (i := 3) sc_law_is_put.nd rfl (Or.inl rfl) pe_bl)
      (pss_cons (ps_try_only (Wout := fun _ _ _ _ => False) rfl rfl ⟨rfl, by decide, Or.inl T.g_Impossible⟩ takes0 (fun W pn xe tk _ => (pss_one (ps_expr (pe_methX (pv 0) T.cF hPm hPf hr1 hPb (fun σ => passAt tk σ) (pa_cons (pv 1) (pa_cons (pe_g (d_law_bar T) hr (by rfl) (pa_cons (pv 2) pa_nil)) pa_nil)))))) (fun a oe cls d pn _ _ => (pss_one (ps_set (i := 3) sc_law_is_put.nd rfl (Or.inl rfl) pe_bl))))
      (pss_one (ps_ret (pv 3))))), ?_⟩
    obtain ⟨dx0, v0, hi0⟩ := hx.ins
    refine ⟨_, rfl, x, dx0, _, rfl, hi0, oc_n, _, rfl, _, rfl, S, rfl, hS0, fun t H1 s1 hf => ?_⟩
    refine ⟨x, cs, name, t, S, rfl, hx.same s1, hok, hlen, hn, hf.at, hS, hnot, fun hl H' fx hF => ?_, fun hl H' s2 => ?_⟩
    · exact ⟨_, rfl, k1 hl _ (Fx.after s1 fx hx.var) hF⟩
    · refine ⟨true, exm_own T.b_I T.i_I T.t_I T.s_I, fun _ a _ => ?_, fun e => by cases e⟩
      exact ⟨_, rfl, k2 hl _ (s1.trans s2)⟩
/-! ### the drawn rows -/
def LawRows (R : Rows) : Prop := R.length = 20 ∧ (names R).Nodup ∧ ∀ e ∈ R, (∃ c n : Nat, 97 ≤ c ∧ c ≤ 116 ∧ 1 ≤ n ∧ n ≤ 8 ∧ e.1 = nm c n) ∧ 0 ≤ e.2 ∧ e.2 ≤ big
def rowOf (z : Nat × Nat × Int) : Str × Int := (nm z.1 z.2.1, z.2.2)
def letters : List Nat := [97, 98, 99, 100, 101, 102, 103, 104, 105, 106, 107, 108, 109, 110, 111, 112, 113, 114, 115, 116]
theorem signs_letters : signsV ("abcdefghijklmnopqrst" : Str) = letters.map fun c => V.str ⟨#[c]⟩ := by kernel_rfl
theorem mul_nm (c : Nat) {n : Int} (h1 : 1 ≤ n) (h2 : n ≤ 8) : Txt.mul ⟨#[c]⟩ n = nm c n.toNat := by
  have h : n = 1 ∨ n = 2 ∨ n = 3 ∨ n = 4 ∨ n = 5 ∨ n = 6 ∨ n = 7 ∨ n = 8 := by omega
  rcases h with rfl | rfl | rfl | rfl | rfl | rfl | rfl | rfl <;> rfl
theorem nm_inj {c c' n n' : Nat} (h : 1 ≤ n) (e : nm c n = nm c' n') : c = c' := by
  have e1 : (List.replicate n c).toArray = (List.replicate n' c').toArray := congrArg Str.cps e
  have e2 : List.replicate n c = List.replicate n' c' := by
    have := congrArg Array.toList e1
    simpa using this
  cases n with
  | zero => omega
  | succ n =>
    cases n' with
    | zero => simp at e2
    | succ n' =>
      rw [List.replicate_succ, List.replicate_succ] at e2
      injection e2
theorem Fx.upd {p q : Addr} {H H1 : Hp} {u : HO} (f : Fx p H H1) (n : H q = none) : Fx p H (upd H1 q u) := ⟨fun b o nb e => by rw [upd_ne (ne_of_none e n)]; exact f.keep b o nb e, f.var⟩
def sp_rows : Sp := fun vs H Q _ => ∃ (a : Addr) (N : Nat), vs = [.ref a, .int 20] ∧ StockAt H a N ∧ N + 100 ≤ 1000 ∧ ∀ l R H', Fx a H H' → StockAt H' a (N + 80) → LawRows R → LRowsAt H' l R → Q (.ref l) H'
structure RowsI (H0 H : Hp) (a wl fl : Addr) (N i : Nat) (L : List (Nat × Nat × Int)) (W : List Nat) (rs : List Addr) : Prop where
  fx : Fx a H0 H
  st : StockAt H a (N + 4 * i)
  w0 : H0 wl = none
  f0 : H0 fl = none
  wf : wl ≠ fl
  hw : H wl = some (.lst (W.map fun c => V.str ⟨#[c]⟩))
  hf : H fl = some (.lst (rs.map V.ref))
  al : All2 (LRowAt H) rs (L.map rowOf)
  len : L.length = i
  pm : (L.map (·.1) ++ W).Perm letters
  ok : ∀ z ∈ L, 1 ≤ z.2.1 ∧ z.2.1 ≤ 8 ∧ 0 ≤ z.2.2 ∧ z.2.2 ≤ big
theorem letters_ok : letters.Nodup ∧ ∀ c ∈ letters, 97 ≤ c ∧ c ≤ 116 := by decide
theorem erase_perm {α : Type} : ∀ (l : List α) (k : Nat) (y : α), l[k]? = some y → l.Perm (y :: l.eraseIdx k)
  | [], k, y, h => by simp at h
  | x :: l, 0, y, h => by cases h; exact List.Perm.refl _
  | x :: l, k + 1, y, h => by
    have h' : l[k]? = some y := by simpa using h
    show (x :: l).Perm (y :: x :: l.eraseIdx k)
    exact ((erase_perm l k y h').cons x).trans (List.Perm.swap _ _ _)
theorem erase_map {α β : Type} (f : α → β) : ∀ (l : List α) (k : Nat), (l.map f).eraseIdx k = (l.eraseIdx k).map f
  | [], k => rfl
  | x :: l, 0 => rfl
  | x :: l, k + 1 => by
    show f x :: (l.map f).eraseIdx k = f x :: (l.eraseIdx k).map f
    rw [erase_map f l k]
theorem seq_nat {r : Int} {n : Nat} (h0 : 0 ≤ r) (h : r < n) : seqIndex? r n = some r.toNat := by
  unfold seqIndex?
  have e : (if r < 0 then r + (n : Int) else r) = r := if_neg (by omega)
  simp only [e]
  rw [if_pos (by simp; omega)]
theorem law_rows_of {L : List (Nat × Nat × Int)} (hl : L.length = 20) (hp : (L.map (·.1)).Perm letters) (ok : ∀ z ∈ L, 1 ≤ z.2.1 ∧ z.2.1 ≤ 8 ∧ 0 ≤ z.2.2 ∧ z.2.2 ≤ big) : LawRows (L.map rowOf) := by
  refine ⟨by rw [List.length_map, hl], ?_, fun e he => ?_⟩
  · have hn : (L.map (·.1)).Nodup := hp.nodup_iff.mpr letters_ok.1
    unfold names
    rw [List.map_map]
    rw [List.nodup_iff_pairwise_ne, List.pairwise_map] at hn ⊢
    refine hn.imp_of_mem fun {a b} ha hb n e => n ?_
    exact nm_inj (ok a ha).1 e
  · obtain ⟨z, hz, rfl⟩ := List.mem_map.mp he
    obtain ⟨h1, h2, h3, h4⟩ := ok z hz
    have hc := letters_ok.2 z.1 (hp.mem_iff.mp (List.mem_map.mpr ⟨z, hz, rfl⟩))
    exact ⟨⟨z.1, z.2.1, hc.1, hc.2, h1, h2, rfl⟩, h3, h4⟩
theorem d_law_rows (T : Txt P K mg CF CG CI) : DG P w K mg base "_law_rows" 2 ["_law_stock_here", "_law_many"] sp_rows := by
  refine T.f_law_rows.ok sc_law_rows (fun _ _ _ _ _ _ us hl => match us, hl with | [_, _], _ => rfl) ?_ (fun f cdv A outer s H vs Q E hr h => ?_)
  · rintro vs H Q E ⟨a, N, rfl, _⟩; rfl
  · obtain ⟨a, N, rfl, hst, hN, k⟩ := h
    refine ⟨_, (pss_cons (ps_par (i := 2) (j := 3) (by rfl) sc_law_rows.nd rfl rfl (by decide) rfl rfl (pa_cons (pe_callTy (call_listStr rfl) (by rfl) T.z_list (by decide +kernel) (pa_cons pe_str pa_nil)) (pa_cons (pe_lst pa_nil) pa_nil)) (by rfl))
      (pss_cons (ps_for PassesOwn.never rfl (pi_range1 rfl T.z_range (pa_cons (pv 1) pa_nil)) (pg_name (i := 4) sc_law_rows.nd rfl (Or.inl rfl)) (pss_cons (ps_set (i := 5) sc_law_rows.nd rfl (Or.inl rfl) (pe_bm PySem.F.plainAttrs_list PySem.F.slot_list_pop PySem.F.type_list_pop mt_popAt (pv 2) (pa_cons (pe_g (d_law_draw T) hr (by rfl) (pa_cons (pv 0) (pa_cons (pe_callB call_len_seq (by rfl) T.z_len (by decide +kernel) (pa_cons (pv 2) pa_nil)) pa_nil))) pa_nil)))
      (pss_one (ps_expr (pe_bm PySem.F.plainAttrs_list PySem.F.slot_list_append PySem.F.type_list_append mt_append (pv 3) (pa_cons (pe_tup (pa_cons (pe_op op_mulStr (pv 5) (pe_op op_add pe_int (pe_g (d_law_draw T) hr (by rfl) (pa_cons (pv 0) (pa_cons pe_int pa_nil))))) (pa_cons (pe_g (d_law_draw T) hr (by rfl) (pa_cons (pv 0) (pa_cons (pe_ix (r := rIxL K) ix_list (pe_lst (pa_cons pe_int (pa_cons (pe_op op_powG pe_int pe_int) pa_nil))) (pe_g (d_law_draw T) hr (by rfl) (pa_cons (pv 0) (pa_cons pe_int pa_nil))) (fun _ _ => rfl)) pa_nil))) pa_nil))) pa_nil))))))
      (pss_one (ps_ret (pv 3))))), ?_⟩
    refine ⟨_, rfl, line_of (by decide +kernel), fun wl hwl => ⟨Nat.zero_le _, fun fl hfl => ⟨_, _, rfl, ?_⟩⟩⟩
    rw [signs_letters] at hfl ⊢
    have s1 := same_new (o := .lst (letters.map fun c => V.str ⟨#[c]⟩)) hwl
    have s2 := same_new (o := .lst []) hfl
    have hwf : wl ≠ fl := ne_of_none upd_same hfl
    have hN' : N + 100 ≤ 1000 := hN
    refine ⟨_, rfl, 20, rfl, by decide, by decide, for_range (lo := 0) (n := 20) (fun i σ H' => ∃ L W rs o1 o2, σ = [some (.ref a), some (.int 20), some (.ref wl), some (.ref fl), o1, o2] ∧ RowsI H H' a wl fl N i L W rs)
      ⟨[], letters, [], none, none, rfl, ⟨⟨fun b o _ e => s2 _ _ (s1 _ _ e), hst.var⟩, hst.same (s1.trans s2), hwl, none_back s1 hfl, hwf, s2 _ _ upd_same, upd_same, .nil, rfl, List.Perm.refl _, fun z hz => by simp at hz⟩⟩ ?_ ?_⟩
    · rintro i σ H1 hi ⟨L, W, rs, o1, o2, rfl, I⟩
      have hWl : W.length = 20 - i := by
        have h1 := I.pm.length_eq
        rw [List.length_append, List.length_map, I.len] at h1
        have h2 : letters.length = 20 := rfl
        omega
      have hwa : wl ≠ a := fun e => by
        obtain ⟨o, ho, _⟩ := I.fx.var
        rw [← e, I.w0] at ho
        cases ho
      have hfa : fl ≠ a := fun e => by
        obtain ⟨o, ho, _⟩ := I.fx.var
        rw [← e, I.f0] at ho
        cases ho
      have eb := big_eq
      -- the letter
      refine ⟨_, rfl, .inl ⟨rfl, _, SqL.of I.hw⟩, _, rfl, _, rfl, wl, _, rfl, .inl (SqL.of I.hw), a, N + 4 * i, _, rfl, I.st, by omega, ?_, ?_, fun r H2 hr0 hr1 fx2 st2 => ?_⟩
      · rw [List.length_map]; omega
      · rw [List.length_map]; omega
      rw [List.length_map] at hr1
      obtain ⟨c, hc⟩ : ∃ c, W[r.toNat]? = some c := ⟨_, List.getElem?_eq_getElem (by omega)⟩
      have hw2 := fx2.keep _ _ hwa I.hw
      refine ⟨wl, _, r, r.toNat, .str ⟨#[c]⟩, rfl, rfl, hw2, by omega, by omega, seq_nat hr0 (by rw [List.length_map]; exact hr1), by rw [List.getElem?_map, hc]; rfl, ?_⟩
      rw [erase_map]
      have F2 : Fx a H (upd H2 wl (.lst ((W.eraseIdx r.toNat).map fun c => V.str ⟨#[c]⟩))) := (I.fx.trans fx2).upd I.w0
      have st2' : StockAt (upd H2 wl (.lst ((W.eraseIdx r.toNat).map fun c => V.str ⟨#[c]⟩))) a (N + 4 * i + 1) := by
        obtain ⟨d, m, n, h, rr⟩ := st2
        exact ⟨d, m, n, by rw [upd_ne hwa.symm]; exact h, rr⟩
      have hf2 : (upd H2 wl (.lst ((W.eraseIdx r.toNat).map fun c => V.str ⟨#[c]⟩))) fl = some (.lst (rs.map V.ref)) := by
        rw [upd_ne (Ne.symm I.wf)]
        exact fx2.keep _ _ hfa I.hf
      have al2 : All2 (LRowAt (upd H2 wl (.lst ((W.eraseIdx r.toNat).map fun c => V.str ⟨#[c]⟩)))) rs (L.map rowOf) := I.al.mono fun x y h => by
        show upd H2 wl _ x = _
        have h' : H2 x = some (.tup [.str y.1, .int y.2]) := kp_fx fx2 _ _ h nv_tup
        rw [upd_ne (ne_of h' hw2 (by intro q; cases q))]
        exact h'
      have hw2' := upd_same (H := H2) (a := wl) (o := .lst ((W.eraseIdx r.toNat).map fun c => V.str ⟨#[c]⟩))
      generalize upd H2 wl (.lst ((W.eraseIdx r.toNat).map fun c => V.str ⟨#[c]⟩)) = H3 at F2 st2' hf2 al2 hw2' ⊢
      -- the name
      refine ⟨_, rfl, .inl ⟨rfl, _, SqL.of hf2⟩, _, rfl, _, rfl, a, N + 4 * i + 1, 8, rfl, st2', by omega, by decide, by decide, fun r4 H4 h40 h41 fx4 st4 => ?_⟩
      refine ⟨1, r4, rfl, rfl, ⟨#[c]⟩, 1 + r4, rfl, rfl, by omega, by omega, rfl, ?_⟩
      rw [mul_nm c (by omega) (by omega)]
      -- the length
      refine ⟨_, rfl, 10, 30, rfl, rfl, cpow (by decide) (by decide) (by decide) (by decide), two_line, fun p5 hp5 => ?_⟩
      have s5 := same_new (o := .lst [.int 9, .int (10 ^ (30 : Int).toNat)]) hp5
      refine ⟨_, rfl, a, N + 4 * i + 1 + 1, 2, rfl, st4.same s5, by omega, by decide, by decide, fun r6 H6 h60 h61 fx6 st6 => ?_⟩
      have hp5a : p5 ≠ a := fun e => by
        obtain ⟨o, ho, _⟩ := (st4.var)
        rw [← e, hp5] at ho
        cases ho
      have hp6 := fx6.keep _ _ hp5a upd_same
      obtain ⟨wd, hwd, hwd1, hwd2⟩ : ∃ wd : Int, atI [V.int 9, V.int (10 ^ (30 : Int).toNat)] r6 = some (.int wd) ∧ 1 ≤ wd ∧ wd ≤ big := by
        have h : r6 = 0 ∨ r6 = 1 := by omega
        rcases h with rfl | rfl
        · exact ⟨9, rfl, by decide, by decide⟩
        · exact ⟨_, rfl, by decide, by decide⟩
      refine ⟨p5, _, r6, _, rfl, rfl, SqL.of hp6, hwd, a, N + 4 * i + 1 + 1 + 1, wd, rfl, st6, by omega, hwd1, hwd2, fun r7 H7 h70 h71 fx7 st7 => ⟨two_line, fun t ht => ?_⟩⟩
      have k37 : Kp H3 H7 := (((kp_fx fx4).trans (kp_same s5)).trans (kp_fx fx6)).trans (kp_fx fx7)
      have k3 : ∀ b o, b ≠ a → H3 b = some o → H7 b = some o := fun b o n e => fx7.keep _ _ n (fx6.keep _ _ n (s5 _ _ (fx4.keep _ _ n e)))
      have s8 := same_new (o := .tup [.str (nm c (1 + r4).toNat), .int r7]) ht
      have hf8 := s8 _ _ (k3 _ _ hfa hf2)
      have hw8 := s8 _ _ (k3 _ _ hwa hw2')
      have al8 := al2.mono fun _ _ h => (h.kp k37).kp (kp_same s8)
      have hrl : rs.length = i := by rw [I.al.len, List.length_map, I.len]
      refine ⟨fl, _, _, rfl, rfl, hf8, Nat.lt_of_lt_of_le (m := 21) (by rw [List.length_map]; omega) (line_of (by decide)), ?_⟩
      refine ⟨L ++ [(c, (1 + r4).toNat, r7)], W.eraseIdx r.toNat, rs ++ [t], _, _, rfl, ?_⟩
      have hFf : Fx a H H7 := ((((F2.trans fx4).same s5).trans fx6).trans fx7)
      refine ⟨(hFf.same s8).upd I.f0, ?_, I.w0, I.f0, I.wf, ?_, ?_, ?_, ?_, ?_, ?_⟩
      · obtain ⟨d, m, n, h, h1, h2, h3, h4, h5⟩ := st7
        refine ⟨d, m, n, ?_, h1, h2, h3, h4, by omega⟩
        rw [upd_ne hfa.symm]
        exact s8 _ _ h
      · rw [upd_ne I.wf]
        exact hw8
      · rw [upd_same, List.map_append]
        rfl
      · rw [List.map_append]
        refine All2.app (al8.mono fun x y h => ?_) (.cons ?_ .nil)
        · show upd _ fl _ x = _
          have h' := h
          unfold LRowAt at h'
          rw [upd_ne (ne_of h' hf8 (by intro q; cases q))]
          exact h'
        · show upd _ fl _ t = _
          have h' := upd_same (H := H7) (a := t) (o := .tup [.str (nm c (1 + r4).toNat), .int r7])
          rw [upd_ne (ne_of h' hf8 (by intro q; cases q))]
          exact h'
      · rw [List.length_append, I.len]
        rfl
      · rw [List.map_append, List.append_assoc]
        exact (((erase_perm W r.toNat c hc).symm.append_left _)).trans I.pm
      · intro z hz
        rcases List.mem_append.mp hz with hz | hz
        · exact I.ok z hz
        · rw [List.mem_singleton.mp hz]
          exact ⟨by show 1 ≤ (1 + r4).toNat; omega, by show (1 + r4).toNat ≤ 8; omega, h70, by show r7 ≤ big; omega⟩
    · rintro σ H1 ⟨L, W, rs, o1, o2, rfl, I⟩
      have hW : W = [] := by
        have h1 := I.pm.length_eq
        rw [List.length_append, List.length_map, I.len] at h1
        have h2 : letters.length = 20 := rfl
        exact List.length_eq_zero_iff.mp (by omega)
      subst hW
      have pm := I.pm
      rw [List.append_nil] at pm
      exact ⟨_, rfl, k fl _ H1 I.fx I.st (law_rows_of I.len pm I.ok) ⟨rs, I.hf, I.al⟩⟩
end
end Gf
namespace Gf
open PySem PySem.Spec PyProof.Rows L2
/-! ### how great the texts are -/
def toldD (ws : List Str) (t k n : Int) : PyData := .list [.list (ws.map .str), .int t, .int k, .int n]
theorem strs_all (ws : List Str) (h : ∀ x ∈ ws, NameOk x) : PyData.showableAll (ws.map .str) = true ∧ PyData.hasDictAll (ws.map .str) = false ∧ PyData.depthAll (ws.map .str) = 0 ∧ PyData.leavesShortAll 100 (ws.map .str) = true ∧ PyData.weightAll (ws.map .str) ≤ 9 * ws.length := by
  induction ws with
  | nil => exact ⟨rfl, rfl, rfl, rfl, Nat.le_refl _⟩
  | cons x ws ih =>
    obtain ⟨h1, h2, h3, h4, h5⟩ := ih fun y hy => h y (List.mem_cons_of_mem _ hy)
    obtain ⟨c, n, c1, c2, n1, n2, rfl⟩ := h x List.mem_cons_self
    have hl : (nm c n).cps.size = n := nm_len c n
    have hc : ((nm c n).cps.toList.all fun c => decide (c < 16 ^ 8)) = true := by
      rw [List.all_eq_true]
      intro y hy
      have e : (nm c n).cps.toList = List.replicate n c := by simp [nm]
      rw [e] at hy
      rw [(List.mem_replicate.mp hy).2]
      have : (16 : Nat) ^ 8 = 4294967296 := by decide
      exact decide_eq_true (by omega)
    refine ⟨by simp [PyData.showableAll, PyData.showable, h1], by simp [PyData.hasDictAll, PyData.hasDict, h2], by simp [PyData.depthAll, PyData.depth, h3], by simp only [List.map_cons, PyData.leavesShortAll, PyData.leavesShort, hc, h4, Bool.and_self], ?_⟩
    simp only [List.map_cons, PyData.weightAll, PyData.weight, hl, List.length_cons]
    omega
theorem int_small {i : Int} (h : i.natAbs < 10 ^ 80) : PyData.showable (.int i) = true ∧ PyData.leavesShort 100 (.int i) = true ∧ PyData.weight (.int i) ≤ 301 := by
  have h2 : i.natAbs < 2 ^ 300 := Nat.lt_of_lt_of_le h (by decide)
  have h3 := PySem.Flt.log2_lt_of (by decide) h2
  refine ⟨by rw [PyData.showable]; exact decide_eq_true (by omega), ?_, ?_⟩
  · rw [PyData.leavesShort]
    refine decide_eq_true ?_
    have e := int_text_length_le10 (k := 80) (by decide) h
    show (Str.ofString (toString i)).length ≤ 100
    rw [PySem.ofString_length]
    omega
  · rw [PyData.weight]
    split <;> omega
theorem told_ok {ws : List Str} {t k n : Int} (h : ∀ x ∈ ws, NameOk x) (hl : ws.length ≤ 20) (ht : t.natAbs < 10 ^ 80) (hk : k.natAbs < 10 ^ 80) (hn : n.natAbs < 10 ^ 80) :
    (toldD ws t k n).showable = true ∧ (toldD ws t k n).hasDict = false ∧ (toldD ws t k n).depth ≤ 60 ∧ (toldD ws t k n).shown.length ≤ sizeLine := by
  obtain ⟨s1, s2, s3, s4, s5⟩ := strs_all ws h
  obtain ⟨t1, t2, t3⟩ := int_small ht
  obtain ⟨k1, k2, k3⟩ := int_small hk
  obtain ⟨n1, n2, n3⟩ := int_small hn
  have hleaf : (toldD ws t k n).leavesShort 100 = true := by simp only [toldD, PyData.leavesShort, PyData.leavesShortAll] at *; simp only [s4, t2, k2, n2, Bool.and_self]
  refine ⟨by simp only [toldD, PyData.showable, PyData.showableAll] at *; simp only [s1, t1, k1, n1, Bool.and_self], by simp [toldD, PyData.hasDict, PyData.hasDictAll, s2], by simp [toldD, PyData.depth, PyData.depthAll, s3], ?_⟩
  have h := PyData.shown_le 100 (by decide) _ hleaf
  have hw : (toldD ws t k n).weight ≤ 2000 := by
    simp only [toldD, PyData.weightAll] at *
    have e : ∀ l : List PyData, (PyData.list l).weight = PyData.weightAll l := fun l => by rw [PyData.weight]
    rw [e]
    simp only [PyData.weightAll]
    rw [e]
    omega
  have h2 : (100 + 2) * (toldD ws t k n).weight ≤ 102 * 2000 := Nat.mul_le_mul (Nat.le_refl _) hw
  rw [sizeLine_eq]
  omega
theorem tot_le {n : Int} (h1 : 1 ≤ n) (h2 : n ≤ big) : ∀ (F : Rows), (∀ e ∈ F, 0 ≤ e.2 ∧ e.2 ≤ big) → 0 ≤ tot F n ∧ tot F n ≤ F.length * (far + 1)
  | [], _ => ⟨Int.le_refl _, by simp [tot]⟩
  | e :: F, h => by
    obtain ⟨a, b⟩ := tot_le h1 h2 F fun x hx => h x (List.mem_cons_of_mem _ hx)
    obtain ⟨c, d⟩ := h e List.mem_cons_self
    have m1 : 0 ≤ e.2 * n := Int.mul_nonneg c (by omega)
    have m2 : e.2 * n ≤ big * n := Int.mul_le_mul_of_nonneg_right d (by omega)
    have m3 : big * n ≤ big * big := Int.mul_le_mul_of_nonneg_left h2 (by decide)
    have m4 : big * big = far := by decide
    have e1 : tot (e :: F) n = e.2 * n + 1 + tot F n := rfl
    rw [e1, List.length_cons]
    have e2 : ((F.length + 1 : Nat) : Int) * (far + 1) = F.length * (far + 1) + (far + 1) := by
      rw [Int.natCast_add, Int.add_mul]
      simp
    rw [e2]
    omega
theorem abs_small {i : Int} (h0 : 0 ≤ i) (h : i ≤ 10 ^ 79) : i.natAbs < 10 ^ 80 := by
  have h1 : ((i.natAbs : Nat) : Int) = i := Int.natAbs_of_nonneg h0
  have h2 : ((i.natAbs : Nat) : Int) < ((10 ^ 80 : Nat) : Int) := by
    rw [h1]
    have : (10 : Int) ^ 79 < ((10 ^ 80 : Nat) : Int) := by decide
    omega
  exact Int.ofNat_lt.mp h2
/-- a made fence that has nothing to do with D -/
def OffAt (D : Addr) (R : Rows) (H : Hp) (i : Nat) (y : V) : Prop := ∃ (t c z : Addr) (e : Str × Int), y = .ref t ∧ R[i]? = some e ∧ c ≠ D ∧ z ≠ D ∧ H t = some (.tup [.int 1, .ref c, .ref z]) ∧ CornersAt H c e.2 ∧ H z = some (.lst [])
theorem off_st {D : Addr} {R : Rows} (H H' : Hp) (i : Nat) (y : V) (hl : ∃ l, H D = some (.lst l)) (k : ∀ b o, b ≠ D → H b = some o → H' b = some o) (h : OffAt D R H i y) : OffAt D R H' i y := by
  obtain ⟨l, hl⟩ := hl
  obtain ⟨t, c, z, e, rfl, he, hc, hz, ht, hcc, hzz⟩ := h
  have nt : ∀ {q : Addr} {xs : List V}, H q = some (.tup xs) → q ≠ D := fun hq => ne_of hq hl (by intro q; cases q)
  refine ⟨t, c, z, e, rfl, he, hc, hz, k _ _ (nt ht) ht, ?_, k _ _ hz hzz⟩
  rcases hcc with ⟨h0, p, q, h1, h2, h3⟩ | ⟨h0, p, h1, h2⟩
  · exact .inl ⟨h0, p, q, k _ _ hc h1, k _ _ (nt h2) h2, k _ _ (nt h3) h3⟩
  · exact .inr ⟨h0, p, k _ _ hc h1, k _ _ (nt h2) h2⟩
theorem off_new {D : Addr} {R : Rows} {H H' : Hp} {i : Nat} {t : Addr} {e : Str × Int} (hl : ∃ l, H D = some (.lst l)) (he : R[i]? = some e) (h : FenceNew H H' t e.2) : OffAt D R H' i (.ref t) := by
  obtain ⟨l, hl⟩ := hl
  obtain ⟨c, z, h1, h2, h3, h4, h5⟩ := h
  exact ⟨t, c, z, e, rfl, he, (ne_of_none hl h2).symm, (ne_of_none hl h3).symm, h1, h4, h5⟩
theorem dp_list {K : PySem.W.Frag} {H : Hp} {f : Str × Int → PyData} : ∀ {ys : List V} {R : Rows}, ys.length = R.length → (∀ (i : Nat) (y : V) (e : Str × Int), ys[i]? = some y → R[i]? = some e → Dp K H y (f e)) → DpAll K H ys (R.map f)
  | [], [], _, _ => .nil
  | y :: ys, e :: R, hl, h => .cons (h 0 y e rfl rfl) (dp_list (by simpa using hl) fun i y e a b => h (i + 1) y e a b)
  | [], _ :: _, hl, _ => by simp at hl
  | _ :: _, [], hl, _ => by simp at hl
theorem offs_dp {K : PySem.W.Frag} {H : Hp} {D : Addr} {R : Rows} {ys : List V} (hl : ys.length = R.length) (h : ∀ (i : Nat) (y : V), ys[i]? = some y → OffAt D R H i y) : DpAll K H ys (R.map fun e => fenceD e.2) :=
  dp_list hl fun i y e ey ee => by
    obtain ⟨t, c, z, e', rfl, he', _, _, ht, hc, hz⟩ := h i y ey
    rw [ee] at he'
    cases he'
    exact fence_dp ⟨c, z, ht, hc, hz⟩
theorem fences_shaped : ∀ (R : Rows), SeqAt.shaped (.list (R.map fun e => fenceD e.2)) = true := by
  intro R
  have h : PyData.canLayAll0 (R.map fun e => fenceD e.2) = true ∧ PyData.depthAll (R.map fun e => fenceD e.2) ≤ 10 := by
    induction R with
    | nil => exact ⟨rfl, Nat.zero_le _⟩
    | cons e R ih =>
      have h1 : (fenceD e.2).canLay0 = true := by
        unfold fenceD
        rcases corners_cases e.2 with q | q <;> rw [q] <;> simp [PyData.canLay0, PyData.canLayAll0]
      have h2 := fence_depth e.2
      refine ⟨by rw [List.map_cons, PyData.canLayAll0, h1, ih.1]; rfl, ?_⟩
      rw [List.map_cons, PyData.depthAll]
      exact Nat.max_le.mpr ⟨h2, ih.2⟩
  unfold SeqAt.shaped
  rw [Bool.and_eq_true, PyData.canLay0]
  refine ⟨h.1, decide_eq_true ?_⟩
  rw [PyData.depth]
  omega
theorem ints_shaped : ∀ (l : List Int), SeqAt.shaped (.list (l.map .int)) = true := by
  intro l
  have h : PyData.canLayAll0 (l.map .int) = true ∧ PyData.depthAll (l.map .int) = 0 := by
    induction l with
    | nil => exact ⟨rfl, rfl⟩
    | cons e R ih =>
      refine ⟨by rw [List.map_cons, PyData.canLayAll0, PyData.canLay0, ih.1]; rfl, ?_⟩
      rw [List.map_cons, PyData.depthAll, ih.2, PyData.depth]
      rfl
  unfold SeqAt.shaped
  rw [Bool.and_eq_true, PyData.canLay0]
  refine ⟨h.1, decide_eq_true ?_⟩
  rw [PyData.depth, h.2]
  decide
theorem eqv_shaped {d : PyData} (h : SeqAt.shaped d = true) : PyData.eqv d d = true := SeqAt.eqv_refl d (SeqAt.canLay_of_shaped h)
theorem ints_dp {K : PySem.W.Frag} {H : Hp} : ∀ (l : List Int), DpAll K H (l.map V.int) (l.map .int)
  | [] => .nil
  | i :: l => .cons (.int i) (ints_dp l)
theorem strs_dp {K : PySem.W.Frag} {H : Hp} : ∀ (l : List Str), DpAll K H (l.map V.str) (l.map .str)
  | [] => .nil
  | i :: l => .cons (.str i) (strs_dp l)
theorem has_of {F R : Rows} {e : Str × Int} (hp : F.Perm R) (hn : (names R).Nodup) (he : e ∈ R) : Has F e.1 e.2 := by
  refine ⟨hp.mem_iff.mpr he, fun s' hs' => ?_⟩
  have h1 := hp.mem_iff.mp hs'
  unfold names at hn
  rw [List.nodup_iff_pairwise_ne, List.pairwise_map] at hn
  have key : ∀ (R : Rows), R.Pairwise (fun a b => a.1 ≠ b.1) → e ∈ R → (e.1, s') ∈ R → s' = e.2 := by
    intro R
    induction R with
    | nil => intro _ h; simp at h
    | cons r R ih =>
      intro hp he hs
      obtain ⟨a, b⟩ := List.pairwise_cons.mp hp
      rcases List.mem_cons.mp he with q1 | he1
      · rcases List.mem_cons.mp hs with q2 | hs1
        · rw [← q1] at q2
          rw [← q2]
        · exact (a (e.1, s') hs1 (by rw [← q1])).elim
      · rcases List.mem_cons.mp hs with q2 | hs1
        · exact (a e he1 (by rw [← q2])).elim
        · exact ih b he1 hs1
  exact key R hn he h1
section
variable {P : Program} {w : World} {K : PySem.W.Frag} {mg : Str → Option Value} {base : Heap} {CF CG CI : Addr}
/-- the farm's rows and size are these -/
structure Good (cs : List Call) (R : Rows) (n : Int) : Prop where
  ok : Ok cs
  n : (stOf cs).1 = n
  p : (stOf cs).2.Perm R
  s : sortedS (names (stOf cs).2) = true
  d : (names R).Nodup
  nn : ∀ e ∈ R, 0 ≤ e.2
def sp_is_right (CF : Addr) : Sp := fun vs H Q _ => ∃ (x l : Addr) (cs : List Call) (R : Rows) (n : Int), vs = [.ref x, .ref l, .int n] ∧ FarmAt CF H x cs ∧ LRowsAt H l R ∧ Good cs R n ∧ ∀ H', Same H H' → Q (.bl true) H'
theorem d_law_is_right (T : Txt P K mg CF CG CI) : DGg P w K mg base "_law_is_right" 9 ["_law_farm", "_law_rows_here", "_law_scale"] (sp_is_right CF) := by
  refine T.f_law_is_right.okG sc_law_is_right (fun _ _ _ _ _ _ us hl => match us, hl with | [_, _, _], _ => rfl) ?_ (fun f cdv A outer s H vs Q E hg hr h => ?_)
  · rintro vs H Q E ⟨x, l, cs, R, n, rfl, _⟩; rfl
  · obtain ⟨x, l, cs, R, n, rfl, hx, ⟨rs, hl, hrs⟩, ⟨hok, hn, hp, hso, hnd, hnn⟩, k⟩ := h
    obtain ⟨fL, fdL, hLf, hLm, hLb⟩ := (d_LiveFarm_len (w := w) (base := base) T).ex
    have hrL := hr.mono (show 3 ≤ 8 by decide)
    have hst := hok.st
    have hn1 : 1 ≤ n := by rw [← hn]; exact hst.1
    have hn2 : n ≤ big := by rw [← hn]; exact hst.2.1
    have hb : ∀ e ∈ R, NameOk e.1 ∧ 0 ≤ e.2 ∧ e.2 ≤ big := fun e he => ⟨(hst.2.2.2 e (hp.mem_iff.mpr he)).1, hnn e he, (hst.2.2.2 e (hp.mem_iff.mpr he)).2⟩
    have hlR : R.length ≤ 20 := by rw [← hp.length_eq]; exact hst.2.2.1
    have hlrs : (rs.map V.ref).length = R.length := by rw [List.length_map, hrs.len]
    refine ⟨_, (pss_cons (ps_par (i := 3) (j := 4) (by rfl) sc_law_is_right.nd rfl rfl (by decide) rfl rfl (pa_cons (pe_callB cr_sortedS (by rfl) T.z_sorted (by decide +kernel) (pa_cons (pe_lc (own := [("_law_row", 5)]) (g := (gName 5)) rfl sc_law_is_right.nd (pi_list (pv 1)) (blkOk_by (own := [("_law_row", 5)]) (N := N_law_is_right) (sc := defScope s_law_is_right) (by decide +kernel)) (fun _ _ _ _ _ => by exact (pg_name (i := 5) sc_law_is_right.nd rfl (Or.inl rfl))) (fun _ _ _ _ _ => by exact pts_nil) (fun _ _ _ _ _ => by exact (pe_ix (r := rIxT K) ix_tup (pv 5) pe_int (fun _ _ => rfl)))) pa_nil)) (pa_cons (pe_lc (own := [("_law_row", 5)]) (g := (gName 5)) rfl sc_law_is_right.nd (pi_list (pv 1)) (blkOk_by (own := [("_law_row", 5)]) (N := N_law_is_right) (sc := defScope s_law_is_right) (by decide +kernel)) (fun _ _ _ _ _ => by exact (pg_name (i := 5) sc_law_is_right.nd rfl (Or.inl rfl))) (fun _ _ _ _ _ => by exact pts_nil) (fun _ _ _ _ _ => by exact (pe_op op_add (pe_op op_mulW (pe_ix (r := rIxT K) ix_tup (pv 5) pe_int (fun _ _ => rfl)) (pv 2)) pe_int))) pa_nil)) (by rfl))
      (pss_cons (ps_set (i := 6) sc_law_is_right.nd rfl (Or.inl rfl) (pe_lst (pa_cons (pe_p T.cF (d_LiveFarm_names T) hr (pv 0)) (pa_cons (pe_p T.cF (d_LiveFarm_total T) hr (pv 0)) (pa_cons (pe_callB (call_lenOwn hLm hLf hrL hLb) (by rfl) T.z_len (by decide +kernel) (pa_cons (pv 0) pa_nil)) (pa_cons (pe_p T.cF (d_LiveFarm_size T) hr (pv 0)) pa_nil))))))
      (pss_cons (ps_if (pt_cmpR op_ne (pe_callB (cr_repr hg hr.units) (by rfl) T.z_repr (by decide +kernel) (pa_cons (pv 6) pa_nil)) (pe_callB (cr_repr hg hr.units) (by rfl) T.z_repr (by decide +kernel) (pa_cons (pe_lst (pa_cons (pv 3) (pa_cons (pe_callB (cr_sum rfl) (by rfl) T.z_sum (by decide +kernel) (pa_cons (pv 4) pa_nil)) (pa_cons (pe_callB call_len_seq (by rfl) T.z_len (by decide +kernel) (pa_cons (pv 1) pa_nil)) (pa_cons (pv 2) pa_nil))))) pa_nil)) (nomark _)) (pss_one (ps_ret pe_bl)) pss_nil)
      (pss_cons (ps_if (pt_cmpR (op_neD hr.units) (pe_lc (own := [("_law_row", 5)]) (g := (gName 5)) rfl sc_law_is_right.nd (pi_list (pv 1)) (blkOk_by (own := [("_law_row", 5)]) (N := N_law_is_right) (sc := defScope s_law_is_right) (by decide +kernel)) (fun _ _ _ _ _ => by exact (pg_name (i := 5) sc_law_is_right.nd rfl (Or.inl rfl))) (fun _ _ _ _ _ => by exact pts_nil) (fun _ _ _ _ _ => by exact (pe_m T.cF (d_LiveFarm_count_named T) hr (pv 0) (pa_cons (pe_ix (r := rIxT K) ix_tup (pv 5) pe_int (fun _ _ => rfl)) pa_nil)))) (pv 4) (nomark _)) (pss_one (ps_ret pe_bl)) pss_nil)
      (pss_one (ps_ret (pe_cmpR (op_eqD hr.units) (pe_lc (own := [("_law_row", 5)]) (g := (gName 5)) rfl sc_law_is_right.nd (pi_list (pv 1)) (blkOk_by (own := [("_law_row", 5)]) (N := N_law_is_right) (sc := defScope s_law_is_right) (by decide +kernel)) (fun _ _ _ _ _ => by exact (pg_name (i := 5) sc_law_is_right.nd rfl (Or.inl rfl))) (fun _ _ _ _ _ => by exact pts_nil) (fun _ _ _ _ _ => by exact (pe_m T.cF (d_LiveFarm_fence_named T) hr (pv 0) (pa_cons (pe_ix (r := rIxT K) ix_tup (pv 5) pe_int (fun _ _ => rfl)) pa_nil)))) (pe_lc (own := [("_law_row", 5)]) (g := (gName 5)) rfl sc_law_is_right.nd (pi_list (pv 1)) (blkOk_by (own := [("_law_row", 5)]) (N := N_law_is_right) (sc := defScope s_law_is_right) (by decide +kernel)) (fun _ _ _ _ _ => by exact (pg_name (i := 5) sc_law_is_right.nd rfl (Or.inl rfl))) (fun _ _ _ _ _ => by exact pts_nil) (fun _ _ _ _ _ => by exact (pe_g (d_law_bar T) hr (by rfl) (pa_cons (pe_ix (r := rIxT K) ix_tup (pv 5) pe_int (fun _ _ => rfl)) pa_nil)))) (nomark _)))))))), ?_⟩
    have hx0 := hx
    -- the words, what is due
    refine ⟨_, rfl, l, rfl, ⟨_, SqL.of hl⟩, fun D hD => lcL (xs := rs.map V.ref) ((names R).map V.str) hD hl (by unfold names; rw [List.length_map, List.length_map, hlrs]) (by rw [hlrs]; omega) (fun i y x' H' R' hx' hy s' kR => ?_) fun H1 s1 hD1 => ?_⟩
    · obtain ⟨a, e, rfl, ea, ee, ha⟩ := row_get hrs hx'
      unfold names at hy
      rw [List.map_map, List.getElem?_map, ee] at hy
      cases hy
      refine ⟨rfl, ?_⟩
      exact ⟨_, rfl, a, _, 0, _, rfl, rfl, SqT.of (s' _ _ ha), atI_nat (j := 0) rfl, kR _ (Same.refl _)⟩
    refine ⟨D, names R, rfl, SqL.of hD1, (by unfold names; rw [List.length_map]; omega), fun ys p hyp hys hpn => ?_⟩
    have eys : ys = names (stOf cs).2 := sorted_one (hyp.trans (hp.map _).symm) hys hso
    subst eys
    have s2 := s1.trans (same_new (o := .lst ((names (stOf cs).2).map V.str)) hpn)
    have hpw := upd_same (H := H1) (a := p) (o := .lst ((names (stOf cs).2).map V.str))
    generalize upd H1 p (.lst ((names (stOf cs).2).map V.str)) = H2 at s2 hpw ⊢
    have hl2 := s2 _ _ hl
    have hrs2 := hrs.mono fun _ _ h => h.kp (kp_same s2)
    refine ⟨_, rfl, l, rfl, ⟨_, SqL.of hl2⟩, fun D3 hD3 => lcL (xs := rs.map V.ref) (R.map fun e => V.int (e.2 * n + 1)) hD3 hl2 (by rw [List.length_map, hlrs]) (by rw [hlrs]; omega) (fun i y x' H' R' hx' hy s' kR => ?_) fun H3 s3 hD3' => ?_⟩
    · obtain ⟨a, e, rfl, ea, ee, ha⟩ := row_get hrs2 hx'
      rw [List.getElem?_map, ee] at hy
      cases hy
      obtain ⟨_, b1, b2⟩ := hb e (List.mem_of_getElem? ee)
      refine ⟨rfl, ?_⟩
      refine ⟨_, rfl, a, _, 1, _, rfl, rfl, SqT.of (s' _ _ ha), atI_nat (j := 1) rfl, _, rfl, e.2, n, rfl, rfl, far_mul b1 (big_far b2) (by omega) (big_far hn2), _, 1, rfl, rfl, kR _ (Same.refl _)⟩
    have hdue : H3 D3 = some (.lst ((R.map fun e => e.2 * n + 1).map V.int)) := by rw [hD3', List.map_map]; rfl
    refine ⟨_, _, rfl, ?_⟩
    have s23 := s2.trans s3
    -- told
    have hx3 := hx.same s23
    obtain ⟨dx3, v3, hi3⟩ := hx3.ins
    refine ⟨_, rfl, x, dx3, _, rfl, hi3, x, cs, rfl, hx3, hok, fun pn H4 s4 hpn4 => ?_⟩
    have hx4 := hx3.same s4
    obtain ⟨dx4, v4, hi4⟩ := hx4.ins
    refine ⟨_, rfl, x, dx4, _, rfl, hi4, x, cs, rfl, hx4, fun H5 s5 => ?_⟩
    have hx5 := hx4.same s5
    obtain ⟨dx5, v5, hi5⟩ := hx5.ins
    refine ⟨_, rfl, x, dx5, _, rfl, hi5, x, cs, rfl, hx5, fun H6 s6 => ⟨_, rfl, by omega, by have := hst.2.2.1; omega, ?_⟩⟩
    have hx6 := hx5.same s6
    obtain ⟨dx6, v6, hi6⟩ := hx6.ins
    refine ⟨_, rfl, x, dx6, _, rfl, hi6, x, cs, rfl, hx6, fun H7 s7 => ⟨four_line, fun q hq => ?_⟩⟩
    have s8 := same_new (o := .lst [.ref pn, .int (tot (stOf cs).2 (stOf cs).1), .int (((stOf cs).2.length : Nat) : Int), .int (stOf cs).1]) hq
    have hq8 := upd_same (H := H7) (a := q) (o := .lst [.ref pn, .int (tot (stOf cs).2 (stOf cs).1), .int (((stOf cs).2.length : Nat) : Int), .int (stOf cs).1])
    have s38 := (((s4.trans s5).trans s6).trans s7).trans s8
    have hpn8 := s8 _ _ (s7 _ _ (s6 _ _ (s5 _ _ hpn4)))
    generalize upd H7 q (.lst [.ref pn, .int (tot (stOf cs).2 (stOf cs).1), .int (((stOf cs).2.length : Nat) : Int), .int (stOf cs).1]) = H8 at s8 hq8 s38 hpn8 ⊢
    have s08 := s23.trans s38
    have hw8 := s38 _ _ (s3 _ _ hpw)
    have hdue8 := s38 _ _ hdue
    have hl8 := s08 _ _ hl
    -- repr
    have hnm : ∀ y ∈ names (stOf cs).2, NameOk y := fun y hy => by
      obtain ⟨e, he, rfl⟩ := List.mem_map.mp hy
      exact (hst.2.2.2 e he).1
    have htot := tot_le hn1 hn2 R fun e he => (hb e he).2
    have etot : tot (stOf cs).2 (stOf cs).1 = tot R n := by rw [tot_perm hp, hn]
    have ef := far_eq
    have htb : tot R n ≤ 10 ^ 79 := by
      have h1 : (R.length : Int) * (far + 1) ≤ 20 * (far + 1) := Int.mul_le_mul_of_nonneg_right (by omega) (by rw [ef]; decide)
      have h2 : 20 * (far + 1) ≤ (10 : Int) ^ 79 := by rw [ef]; decide
      omega
    have hlen8 : (((stOf cs).2.length : Nat) : Int) = ((R.length : Nat) : Int) := by rw [hp.length_eq]
    have twenty : (20 : Int) ≤ 10 ^ 79 := by decide
    have big79 : big ≤ (10 : Int) ^ 79 := by decide
    obtain ⟨o1, o2, o3, o4⟩ := told_ok (ws := names (stOf cs).2) (t := tot R n) (k := ((R.length : Nat) : Int)) (n := n) hnm (by unfold names; rw [List.length_map]; exact hst.2.2.1) (abs_small htot.1 htb) (abs_small (by omega) (by omega)) (abs_small (by omega) (by omega))
    have hd1 : Dp K H8 (.ref q) (toldD (names (stOf cs).2) (tot R n) ((R.length : Nat) : Int) n) := by
      rw [etot, hlen8, hn] at hq8
      exact .lst (SqL.of hq8) (.cons (.lst (SqL.of hpn8) (strs_dp _)) (.cons (.int _) (.cons (.int _) (.cons (.int _) .nil))))
    refine ⟨_, rfl, q, _, rfl, hd1, o1, o2, o3, o4, ?_⟩
    refine ⟨_, rfl, _, rfl, D3, R.map (fun e => e.2 * n + 1), rfl, SqL.of hdue8, _, rfl, l, _, rfl, .inl (SqL.of hl8), _, rfl, four_line, fun q2 hq2 => ?_⟩
    have s9 := same_new (o := .lst [.ref p, .int (R.map fun e => e.2 * n + 1).sum, .int (((rs.map V.ref).length : Nat) : Int), .int n]) hq2
    have hq9 := upd_same (H := H8) (a := q2) (o := .lst [.ref p, .int (R.map fun e => e.2 * n + 1).sum, .int (((rs.map V.ref).length : Nat) : Int), .int n])
    have hd2 : Dp K (upd H8 q2 (.lst [.ref p, .int (R.map fun e => e.2 * n + 1).sum, .int (((rs.map V.ref).length : Nat) : Int), .int n])) (.ref q2) (toldD (names (stOf cs).2) (tot R n) ((R.length : Nat) : Int) n) := by
      have e1 : (((rs.map V.ref).length : Nat) : Int) = ((R.length : Nat) : Int) := by rw [hlrs]
      have hw9 := s9 _ _ hw8
      rw [e1] at hq9 hw9 ⊢
      exact .lst (SqL.of hq9) (.cons (.lst (SqL.of hw9) (strs_dp _)) (.cons (.int _) (.cons (.int _) (.cons (.int _) .nil))))
    refine ⟨q2, _, rfl, hd2, o1, o2, o3, o4, rfl, _, rfl, iteN rfl ?_⟩
    generalize upd H8 q2 (.lst [.ref p, .int (R.map fun e => e.2 * n + 1).sum, .int (((rs.map V.ref).length : Nat) : Int), .int n]) = H9 at s9 ⊢
    have s09 := s08.trans s9
    have hx9 := hx.same s09
    have hl9 := s09 _ _ hl
    have hdue9 := s9 _ _ hdue8
    have hrs9 := hrs.mono fun _ _ h => h.kp (kp_same s09)
    -- the counts
    refine ⟨_, rfl, l, rfl, ⟨_, SqL.of hl9⟩, fun D10 hD10 => lcL (xs := rs.map V.ref) (R.map fun e => V.int (e.2 * n + 1)) hD10 hl9 (by rw [List.length_map, hlrs]) (by rw [hlrs]; omega) (fun i y x' H' R' hx' hy s' kR => ?_) fun H10 s10 hD10' => ?_⟩
    · obtain ⟨a, e, rfl, ea, ee, ha⟩ := row_get hrs9 hx'
      rw [List.getElem?_map, ee] at hy
      cases hy
      have he := List.mem_of_getElem? ee
      have hx' := hx9.same s'
      obtain ⟨dx', v', hi'⟩ := hx'.ins
      refine ⟨rfl, ?_⟩
      refine ⟨_, rfl, x, dx', _, rfl, hi', oc_n, _, rfl, a, _, 0, _, rfl, rfl, SqT.of (s' _ _ ha), atI_nat (j := 0) rfl, x, cs, e.1, e.2, rfl, hx', hok, (hb e he).1, has_of hp hnd he, fun H'' s'' => ?_⟩
      rw [hn]
      exact kR _ s''
    have hc10 : H10 D10 = some (.lst ((R.map fun e => e.2 * n + 1).map V.int)) := by rw [hD10', List.map_map]; rfl
    have sh := ints_shaped (R.map fun e => e.2 * n + 1)
    refine ⟨_, rfl, _, _, .lst (SqL.of hc10) (ints_dp _), .lst (SqL.of (s10 _ _ hdue9)) (ints_dp _), sh, sh, _, rfl, ?_⟩
    rw [eqv_shaped sh]
    show if false = true then _ else _
    refine iteF ?_
    -- the fences
    have s010 := s09.trans s10
    have hx10 := hx.same s010
    have hl10 := s010 _ _ hl
    have hrs10 := hrs.mono fun _ _ h => h.kp (kp_same s010)
    refine ⟨_, rfl, l, rfl, ⟨_, SqL.of hl10⟩, fun D11 hD11 => lcRL (xs := rs.map V.ref) (OffAt D11 R) off_st hD11 hl10 (by rw [hlrs]; omega) (fun i x' H' R' hx' s' hl' kR => ?_) fun H11 ys11 s11 hD11' hl11 hr11 => ?_⟩
    · obtain ⟨a, e, rfl, ea, ee, ha⟩ := row_get hrs10 hx'
      have he := List.mem_of_getElem? ee
      have hx' := hx10.same s'
      obtain ⟨dx', v', hi'⟩ := hx'.ins
      refine ⟨rfl, ?_⟩
      refine ⟨_, rfl, x, dx', _, rfl, hi', oc_n, _, rfl, a, _, 0, _, rfl, rfl, SqT.of (s' _ _ ha), atI_nat (j := 0) rfl, x, cs, e.1, e.2, rfl, hx', (hb e he).1, has_of hp hnd he, fun t H'' s'' hf => ?_⟩
      exact kR _ _ s'' (off_new hl' ee hf)
    have hl11' := s11 _ _ hl10
    have hrs11 := hrs10.mono fun _ _ h => h.kp (kp_same s11)
    refine ⟨_, rfl, l, rfl, ⟨_, SqL.of hl11'⟩, fun D12 hD12 => lcRL (xs := rs.map V.ref) (OffAt D12 R) off_st hD12 hl11' (by rw [hlrs]; omega) (fun i x' H' R' hx' s' hl' kR => ?_) fun H12 ys12 s12 hD12' hl12 hr12 => ?_⟩
    · obtain ⟨a, e, rfl, ea, ee, ha⟩ := row_get hrs11 hx'
      have he := List.mem_of_getElem? ee
      refine ⟨rfl, ?_⟩
      refine ⟨_, rfl, a, _, 1, _, rfl, rfl, SqT.of (s' _ _ ha), atI_nat (j := 1) rfl, e.2, rfl, (hb e he).2.1, fun t H'' s'' hf => ?_⟩
      exact kR _ _ s'' (off_new hl' ee hf)
    have fs := fences_shaped R
    have hr11' : ∀ (i : Nat) (y : V), ys11[i]? = some y → OffAt D11 R H12 i y := fun i y ey => off_st H11 H12 i y ⟨_, hD11'⟩ (fun b o _ e => s12 b o e) (hr11 i y ey)
    refine ⟨_, _, .lst (SqL.of (s12 _ _ hD11')) (offs_dp (by rw [hl11, hlrs]) hr11'), .lst (SqL.of hD12') (offs_dp (by rw [hl12, hlrs]) hr12), fs, fs, ?_⟩
    rw [eqv_shaped fs]
    exact k _ ((s010.trans s11).trans s12)
end
end Gf
namespace Gf
open PySem PySem.Spec PyProof.Rows L2
/-! ### how the state goes on -/
theorem names_app (F G : Rows) : names (F ++ G) = names F ++ names G := by unfold names; rw [List.map_append]
theorem names_perm {F G : Rows} (h : F.Perm G) : (names F).Perm (names G) := h.map _
theorem without_sorted {F : Rows} {name : Str} (h : sortedS (names F) = true) : sortedS (names (without F name)) = true :=
  sortedS_of_pairwise _ ((sorted_pw _ h).sublist (List.Sublist.map _ List.filter_sublist))
theorem without_not {F : Rows} {name : Str} (h : name ∉ names F) : without F name = F := by
  unfold without
  rw [List.filter_eq_self]
  intro e he
  rw [decide_eq_false (fun q => ?_)]
  · rfl
  · injection q with q
    exact h (q ▸ List.mem_map.mpr ⟨e, he, rfl⟩)
theorem without_at : ∀ {R : Rows} {r : Nat} {e : Str × Int}, (names R).Nodup → R[r]? = some e → without R e.1 = R.take r ++ R.drop (r + 1)
  | [], r, e, _, h => by simp at h
  | x :: R, 0, e, hn, h => by
    have h' : x = e := by simpa using h
    subst h'
    have hn' : x.1 ∉ names R := (List.nodup_cons.mp hn).1
    show without (x :: R) x.1 = R
    unfold without
    rw [List.filter_cons, if_neg (by simp)]
    exact without_not hn'
  | x :: R, r + 1, e, hn, h => by
    have h' : R[r]? = some e := by simpa using h
    have hx : x.1 ≠ e.1 := fun q => (List.nodup_cons.mp hn).1 (by show x.1 ∈ _; rw [show x.1 = e.1 from q]; exact List.mem_map.mpr ⟨e, List.mem_of_getElem? h', rfl⟩)
    have ih := without_at (List.nodup_cons.mp hn).2 h'
    show without (x :: R) e.1 = x :: (R.take r ++ R.drop (r + 1))
    unfold without at ih ⊢
    rw [List.filter_cons, if_pos (by rw [decide_eq_false (fun q => by injection q with q; exact hx q)]; rfl), ih]
theorem Good.len {cs : List Call} {R : Rows} {n : Int} (g : Good cs R n) : (stOf cs).2.length = R.length := g.p.length_eq
theorem Good.notin {cs : List Call} {R : Rows} {n : Int} {name : Str} (g : Good cs R n) (h : name ∉ names R) : name ∉ names (stOf cs).2 := fun q => h ((names_perm g.p).mem_iff.mp q)
theorem Good.put {cs : List Call} {R : Rows} {n s : Int} {name : Str} (g : Good cs R n) (hl : R.length < 20) (hc : cs.length < 500) (h : name ∉ names R) (hk : NameOk name) (h0 : 0 ≤ s) (h1 : s ≤ big) :
    Good (cs ++ [((stOf cs).1, msort ((stOf cs).2 ++ [(name, s)]))]) (R ++ [(name, s)]) n := by
  have hst := g.ok.st
  refine ⟨g.ok.app hc ⟨hst.1, hst.2.1, hst.2.2.sort (by rw [g.len]; exact hl) hk h1⟩, by rw [st_app]; exact g.n, by rw [st_app]; exact (msort_perm _).trans (g.p.append_right _), by rw [st_app]; exact msort_sorted _, ?_, fun e he => ?_⟩
  · rw [names_app]
    refine List.nodup_append.mpr ⟨g.d, by simp [names], fun a ha b hb q => ?_⟩
    have hb : b = name := by simpa [names] using hb
    subst hb
    exact h (q ▸ ha)
  · rcases List.mem_append.mp he with he | he
    · exact g.nn e he
    · rw [List.mem_singleton.mp he]
      exact h0
theorem Good.take {cs : List Call} {R : Rows} {n : Int} {r : Nat} {e : Str × Int} (g : Good cs R n) (hc : cs.length < 500) (h : R[r]? = some e) : Good (cs ++ [((stOf cs).1, without (stOf cs).2 e.1)]) (R.take r ++ R.drop (r + 1)) n := by
  have hst := g.ok.st
  refine ⟨g.ok.app hc ⟨hst.1, hst.2.1, hst.2.2.sub List.filter_sublist⟩, by rw [st_app]; exact g.n, ?_, by rw [st_app]; exact without_sorted g.s, ?_, fun x hx => ?_⟩
  · rw [st_app, ← without_at g.d h]
    exact g.p.filter _
  · rw [← without_at g.d h]
    exact List.Sublist.nodup (List.Sublist.map _ List.filter_sublist) g.d
  · rw [← without_at g.d h] at hx
    exact g.nn x (List.filter_sublist.subset hx)
theorem Good.size {cs : List Call} {R : Rows} {n m : Int} (g : Good cs R n) (hc : cs.length < 500) (h1 : 1 ≤ m) (h2 : m ≤ big) : Good (cs ++ [(m, (stOf cs).2)]) R m := by
  have hst := g.ok.st
  exact ⟨g.ok.app hc ⟨h1, h2, hst.2.2⟩, by rw [st_app], by rw [st_app]; exact g.p, by rw [st_app]; exact g.s, g.d, g.nn⟩
theorem good_nil : Good [] [] 1 := ⟨ok_nil, rfl, List.Perm.refl _, rfl, List.nodup_nil, fun e he => by simp at he⟩
/-! ### the law's names -/
theorem zz_eq : ("zz" : Str) = nm 122 2 := by kernel_rfl
theorem yy_eq : ("yy" : Str) = nm 121 2 := by kernel_rfl
theorem a_eq : ("a" : Str) = nm 97 1 := by kernel_rfl
theorem zz_ok : NameOk "zz" := ⟨122, 2, by decide, by decide, by decide, by decide, zz_eq⟩
theorem yy_ok : NameOk "yy" := ⟨121, 2, by decide, by decide, by decide, by decide, yy_eq⟩
theorem a_ok : NameOk "a" := ⟨97, 1, by decide, by decide, by decide, by decide, a_eq⟩
theorem yz_ne : ("yy" : Str) ≠ "zz" := fun e => by
  rw [yy_eq, zz_eq] at e
  exact absurd (nm_inj (by decide) e) (by decide)
theorem LawRows.zz {R : Rows} (h : LawRows R) : ("zz" : Str) ∉ names R := fun q => by
  obtain ⟨e, he, q⟩ := List.mem_map.mp q
  obtain ⟨⟨c, n, c1, c2, n1, n2, en⟩, _⟩ := h.2.2 e he
  rw [en, zz_eq] at q
  have := nm_inj n1 q
  omega
theorem LawRows.yy {R : Rows} (h : LawRows R) : ("yy" : Str) ∉ names R := fun q => by
  obtain ⟨e, he, q⟩ := List.mem_map.mp q
  obtain ⟨⟨c, n, c1, c2, n1, n2, en⟩, _⟩ := h.2.2 e he
  rw [en, yy_eq] at q
  have := nm_inj n1 q
  omega
theorem LawRows.ok {R : Rows} (h : LawRows R) {e : Str × Int} (he : e ∈ R) : NameOk e.1 ∧ 0 ≤ e.2 ∧ e.2 ≤ big := by
  obtain ⟨⟨c, n, c1, c2, n1, n2, en⟩, h1, h2⟩ := h.2.2 e he
  exact ⟨⟨c, n, c1, by omega, n1, n2, en⟩, h1, h2⟩
theorem names_take {R : Rows} {k : Nat} {x : Str} (h : x ∉ names R) : x ∉ names (R.take k) := fun q => h ((List.Sublist.map _ (List.take_sublist k R)).subset q)
/-- the next row is a new one -/
theorem next_not {R : Rows} {i : Nat} {e : Str × Int} (hn : (names R).Nodup) (h : R[i]? = some e) : e.1 ∉ names (R.take i) := by
  have e1 : R.take (i + 1) = R.take i ++ [e] := by rw [List.take_add_one, h]; rfl
  have h1 : (names (R.take (i + 1))).Nodup := List.Sublist.nodup (List.Sublist.map _ (List.take_sublist _ _)) hn
  rw [e1, names_app] at h1
  intro q
  exact (List.nodup_append.mp h1).2.2 _ q _ (by simp [names]) rfl
/-! ### what may change, named -/
structure Ch (S : Addr → Prop) (H H' : Hp) : Prop where
  keep : ∀ b o, ¬ S b → H b = some o → H' b = some o
  kp : Kp H H'
theorem Ch.refl (S : Addr → Prop) (H : Hp) : Ch S H H := ⟨fun _ _ _ h => h, Kp.refl H⟩
theorem Ch.same {S : Addr → Prop} {H H1 H2 : Hp} (c : Ch S H H1) (s : Same H1 H2) : Ch S H H2 := ⟨fun b o n h => s _ _ (c.keep b o n h), c.kp.trans (kp_same s)⟩
theorem Ch.fx {S : Addr → Prop} {H H1 H2 : Hp} {p : Addr} (c : Ch S H H1) (f : Fx p H1 H2) (hp : S p) : Ch S H H2 := ⟨fun b o n h => f.keep _ _ (fun e => n (e ▸ hp)) (c.keep b o n h), c.kp.trans (kp_fx f)⟩
theorem Ch.trans {S S' : Addr → Prop} {H H1 H2 : Hp} (c : Ch S H H1) (d : Ch S' H1 H2) (h : ∀ b, S' b → S b) : Ch S H H2 := ⟨fun b o n e => d.keep _ _ (fun q => n (h _ q)) (c.keep b o n e), c.kp.trans d.kp⟩
theorem cut_take (xs : List V) (k : Nat) : cutV xs none (some (k : Int)) = xs.take k := by
  unfold cutV
  rw [HT.sIx_none, HT.sIx_nat, List.drop_zero, Nat.sub_zero]
  by_cases h : k ≤ xs.length
  · rw [Nat.min_eq_left h]
  · rw [Nat.min_eq_right (by omega), List.take_of_length_le (Nat.le_refl _), List.take_of_length_le (by omega)]
theorem cut_drop (xs : List V) (k : Nat) : cutV xs (some (k : Int)) none = xs.drop k := by
  unfold cutV
  rw [HT.sIx_none, HT.sIx_nat]
  by_cases h : k ≤ xs.length
  · rw [Nat.min_eq_left h, List.take_of_length_le (by rw [List.length_drop]; exact Nat.le_refl _)]
  · rw [Nat.min_eq_right (by omega), Nat.sub_self, List.take_zero, List.drop_of_length_le (by omega)]
theorem all2_take {H H' : Hp} {rs : List Addr} {R : Rows} (k : Kp H H') (h : All2 (LRowAt H) rs R) (n : Nat) : All2 (LRowAt H') (rs.take n) (R.take n) := (h.take n).mono fun _ _ h => h.kp k
/-- the farm with nineteen rows behind its last call, with all twenty after it -/
def Twin (CF : Addr) (H : Hp) (x : Addr) (R : Rows) : Prop := ∃ (cs0 : List Call) (c : Call), FarmAt CF H x (cs0 ++ [c]) ∧ cs0.length ≤ 100 ∧ Good cs0 (R.take 19) 1 ∧ Good (cs0 ++ [c]) R 1
theorem take_19 {R : Rows} {e : Str × Int} (hl : R.length = 20) (h : R[19]? = some e) : R.take 19 ++ [e] = R := by
  have e1 : R.take (19 + 1) = R.take 19 ++ [e] := by rw [List.take_add_one, h]; rfl
  rw [← e1]
  exact List.take_of_length_le (by omega)
theorem Twin.same {CF : Addr} {H H' : Hp} {x : Addr} {R : Rows} (h : Twin CF H x R) (s : Same H H') : Twin CF H' x R := by
  obtain ⟨cs0, c, h1, h2⟩ := h
  exact ⟨cs0, c, h1.same s, h2⟩
theorem Twin.ch {CF : Addr} {S : Addr → Prop} {H H' : Hp} {x : Addr} {R : Rows} (h : Twin CF H x R) (s : Ch S H H') (n : ¬ S x) : Twin CF H' x R := by
  obtain ⟨cs0, c, ⟨dx, l, h1, h3⟩, h2⟩ := h
  exact ⟨cs0, c, ⟨dx, l, s.keep _ _ n h1, h3.kp s.kp⟩, h2⟩
end Gf
namespace Gf
open PySem PySem.Spec PyProof.Rows L2
section
variable {P : Program} {w : World} {K : PySem.W.Frag} {mg : Str → Option Value} {base : Heap} {CF CG CI : Addr}
def sp_bound (CF : Addr) : Sp := fun vs H Q _ => ∃ (a x l : Addr) (N : Nat) (R : Rows), vs = [.ref a, .ref x, .ref l] ∧ StockAt H a N ∧ N + 2 ≤ 1000 ∧ Twin CF H x R ∧ LawRows R ∧ LRowsAt H l R ∧
  ∀ H', Ch (fun b => b = a ∨ b = x) H H' → StockAt H' a (N + 2) → Twin CF H' x R → Q (.bl true) H'
theorem rows_line {rs : List Addr} (h : rs.length ≤ 1000) : (rs.map V.ref).length ≤ sizeLine := by
  rw [List.length_map]
  exact line_of h
theorem d_law_bound_right (T : Txt P K mg CF CG CI) : DGg P w K mg base "_law_bound_right" 12 ["_law_stock_here", "_law_farm", "_law_rows_here"] (sp_bound CF) := by
  refine T.f_law_bound_right.okG sc_law_bound_right (fun _ _ _ _ _ _ us hl => match us, hl with | [_, _, _], _ => rfl) ?_ (fun f cdv A outer s H vs Q E hg hr h => ?_)
  · rintro vs H Q E ⟨a, x, l, N, R, rfl, _⟩; rfl
  · obtain ⟨a, x, l, N, R, rfl, hst, hN, ⟨cs0, c, hF, hc0, g0, g1⟩, hR, ⟨rs, hl, hrs⟩, k⟩ := h
    refine ⟨_, (pss_cons (ps_par (i := 3) (j := 4) (by rfl) sc_law_bound_right.nd rfl rfl (by decide) rfl rfl (pa_cons (pe_g (d_law_draw T) hr (by rfl) (pa_cons (pv 0) (pa_cons pe_int pa_nil))) (pa_cons (pe_op op_add pe_int (pe_g (d_law_draw T) hr (by rfl) (pa_cons (pv 0) (pa_cons (pe_op op_powG pe_int pe_int) pa_nil)))) pa_nil)) (by rfl))
      (pss_cons (ps_expr (pe_m T.cF (d_LiveFarm_take_fence T) hr (pv 1) (pa_cons (pe_ix (r := rIxT K) ix_tup (pe_ix (r := rIxL K) ix_list (pv 2) (pv 3) (fun _ _ => rfl)) pe_int (fun _ _ => rfl)) pa_nil)))
      (pss_cons (ps_if (pt_not (pt_val (pe_gg (d_law_is_right T) hg hr (by rfl) (pa_cons (pv 1) (pa_cons (pe_op op_cat (pe_slice sl_list (pv 2) po_none (po_some (pv 3))) (pe_slice sl_list (pv 2) (po_some (pe_op op_add (pv 3) pe_int)) po_none)) (pa_cons pe_int pa_nil)))))) (pss_one (ps_ret pe_bl)) pss_nil)
      (pss_cons (ps_expr (pe_m0 T.cF (d_LiveFarm_undo T) hr (pv 1)))
      (pss_cons (ps_if (PW.pt (pw_or (pt_val (pe_g (d_law_is_put T) hr (by rfl) (pa_cons (pv 1) (pa_cons pe_str (pa_cons pe_int pa_nil))))) (pw_or1 (pt_not (pt_val (pe_gg (d_law_is_right T) hg hr (by rfl) (pa_cons (pv 1) (pa_cons (pv 2) (pa_cons pe_int pa_nil))))))))) (pss_one (ps_ret pe_bl)) pss_nil)
      (pss_cons (ps_expr (pe_m0 T.cF (d_LiveFarm_undo T) hr (pv 1)))
      (pss_cons (ps_set (i := 5) sc_law_bound_right.nd rfl (Or.inl rfl) (pe_op op_cat (pe_slice sl_list (pv 2) po_none (po_some pe_int)) (pe_lst (pa_cons (pe_tup (pa_cons pe_str (pa_cons pe_int pa_nil))) pa_nil))))
      (pss_cons (ps_if (PW.pt (pw_or (pt_not (pt_val (pe_g (d_law_is_put T) hr (by rfl) (pa_cons (pv 1) (pa_cons pe_str (pa_cons pe_int pa_nil)))))) (pw_or (pt_val (pe_g (d_law_is_put T) hr (by rfl) (pa_cons (pv 1) (pa_cons pe_str (pa_cons pe_int pa_nil))))) (pw_or1 (pt_not (pt_val (pe_gg (d_law_is_right T) hg hr (by rfl) (pa_cons (pv 1) (pa_cons (pv 5) (pa_cons pe_int pa_nil)))))))))) (pss_one (ps_ret pe_bl)) pss_nil)
      (pss_cons (ps_expr (pe_m T.cF (d_LiveFarm_set_size T) hr (pv 1) (pa_cons (pv 4) pa_nil)))
      (pss_cons (ps_if (PW.pt (pw_or (pt_val (pe_g (d_law_is_put T) hr (by rfl) (pa_cons (pv 1) (pa_cons pe_str (pa_cons pe_int pa_nil))))) (pw_or1 (pt_not (pt_val (pe_gg (d_law_is_right T) hg hr (by rfl) (pa_cons (pv 1) (pa_cons (pv 5) (pa_cons (pv 4) pa_nil))))))))) (pss_one (ps_ret pe_bl)) pss_nil)
      (pss_cons (ps_expr (pe_m0 T.cF (d_LiveFarm_undo T) hr (pv 1)))
      (pss_cons (ps_expr (pe_m0 T.cF (d_LiveFarm_undo T) hr (pv 1)))
      (pss_one (ps_ret (pe_and (pe_g (d_law_is_put T) hr (by rfl) (pa_cons (pv 1) (pa_cons (pe_ix (r := rIxT K) ix_tup (pe_ix (r := rIxL K) ix_list (pv 2) pe_int (fun _ _ => rfl)) pe_int (fun _ _ => rfl)) (pa_cons (pe_ix (r := rIxT K) ix_tup (pe_ix (r := rIxL K) ix_list (pv 2) pe_int (fun _ _ => rfl)) pe_int (fun _ _ => rfl)) pa_nil)))) (pe_one (pe_gg (d_law_is_right T) hg hr (by rfl) (pa_cons (pv 1) (pa_cons (pv 2) (pa_cons pe_int pa_nil)))))))))))))))))))), ?_⟩
    have hax : a ≠ x := by
      obtain ⟨d, m, n, h, _⟩ := hst
      obtain ⟨dx, v, h'⟩ := hF.ins
      exact ne_of h h' (by intro q; cases q)
    have hlR := hR.1
    have hrl : rs.length = 20 := by rw [hrs.len, hlR]
    have hlenc : (cs0 ++ [c]).length ≤ 101 := by rw [List.length_append]; show cs0.length + 1 ≤ 101; omega
    have eb := big_eq
    obtain ⟨e19, he19⟩ : ∃ e, R[19]? = some e := ⟨_, List.getElem?_eq_getElem (by omega)⟩
    have h19 : R.take 19 ++ [e19] = R := take_19 hlR he19
    have l19 : (R.take 19).length = 19 := by rw [List.length_take]; omega
    -- the draws
    refine ⟨_, rfl, a, N, 20, rfl, hst, by omega, by decide, by decide, fun r H1 hr0 hr1 fx1 st1 => ?_⟩
    obtain ⟨i, rfl⟩ : ∃ i : Nat, r = i := ⟨r.toNat, by omega⟩
    have hi20 : i < 20 := by omega
    refine ⟨_, rfl, 10, 30, rfl, rfl, cpow (by decide) (by decide) (by decide) (by decide), a, N + 1, _, rfl, st1, by omega, by decide, by decide, fun r2 H2 hr20 hr21 fx2 st2 => ⟨1, r2, rfl, rfl, _, _, rfl, ?_⟩⟩
    have h10 : (10 : Int) ^ (30 : Int).toNat = big := by decide
    rw [h10] at hr21
    have C2 : Ch (fun b => b = a ∨ b = x) H H2 := ((Ch.refl _ H).fx fx1 (.inl rfl)).fx fx2 (.inl rfl)
    have F2 := (hF.fx fx1 hax.symm).fx fx2 hax.symm
    have hl2 := C2.kp _ _ hl nv_refs
    have hrs2 := hrs.mono fun _ _ h => h.kp C2.kp
    -- one is taken
    obtain ⟨dx2, v2, hi2⟩ := F2.ins
    obtain ⟨ri, eri⟩ : ∃ ri, rs[i]? = some ri := ⟨_, List.getElem?_eq_getElem (by omega)⟩
    obtain ⟨e, ee, hri⟩ := hrs2.get eri
    have heR := List.mem_of_getElem? ee
    refine ⟨_, rfl, x, dx2, _, rfl, hi2, oc_n, _, rfl, _, rfl, l, _, (i : Int), .ref ri, rfl, rfl, SqL.of hl2, atI_nat (by rw [List.getElem?_map, eri]; rfl), ri, _, 0, _, rfl, rfl, SqT.of hri, atI_nat (j := 0) rfl, x, _, e.1, e.2, rfl, F2, g1.ok, by omega, (hR.ok heR).1, has_of g1.p g1.d heR, fun H3 fx3 F3 => ?_⟩
    have C3 := C2.fx fx3 (.inr rfl)
    have st3 := st2.fx fx3 hax
    have hl3 := C3.kp _ _ hl nv_refs
    have hrs3 := hrs.mono fun _ _ h => h.kp C3.kp
    refine ⟨_, rfl, _, rfl, _, rfl, i, rfl, l, _, rfl, SqL.of hl3, fun p hp => ?_⟩
    have s4 := same_new (o := .lst (cutV (rs.map V.ref) none (some (i : Int)))) hp
    refine ⟨_, rfl, _, rfl, i, 1, rfl, rfl, _, rfl, l, _, rfl, SqL.of (s4 _ _ hl3), fun p2 hp2 => ?_⟩
    have s5 := same_new (o := .lst (cutV (rs.map V.ref) (some ((i : Int) + 1)) none)) hp2
    refine ⟨p, p2, _, _, rfl, rfl, s5 _ _ upd_same, upd_same, ?_, fun p3 hp3 => ?_⟩
    · have h1 := cutV_length (rs.map V.ref) none (some (i : Int))
      have h2 := cutV_length (rs.map V.ref) (some ((i : Int) + 1)) none
      rw [List.length_map] at h1 h2
      exact line_of (by omega)
    have e6 : cutV (rs.map V.ref) none (some (i : Int)) ++ cutV (rs.map V.ref) (some ((i : Int) + 1)) none = (rs.take i ++ rs.drop (i + 1)).map V.ref := by
      rw [cut_take, show ((i : Int) + 1) = ((i + 1 : Nat) : Int) by omega, cut_drop, List.map_append, List.map_take, List.map_drop]
    rw [e6]
    have s6 := same_new (o := .lst ((rs.take i ++ rs.drop (i + 1)).map V.ref)) hp3
    have s36 := (s4.trans s5).trans s6
    have hp6 := upd_same (H := upd (upd H3 p (.lst (cutV (rs.map V.ref) none (some (i : Int))))) p2 (.lst (cutV (rs.map V.ref) (some ((i : Int) + 1)) none))) (a := p3) (o := .lst ((rs.take i ++ rs.drop (i + 1)).map V.ref))
    have gT := g1.take (by omega) ee
    refine ⟨x, p3, _, _, 1, rfl, F3.same s36, ⟨_, hp6, ((hrs3.take i).app (hrs3.drop (i + 1))).mono fun _ _ h => h.kp (kp_same s36)⟩, gT, fun H7 s7 => ⟨true, rfl, iteF ?_⟩⟩
    have C7 := (C3.same s36).same s7
    have F7 := (F3.same s36).same s7
    have st7 := (st3.same s36).same s7
    -- back
    obtain ⟨dx7, v7, hi7⟩ := F7.ins
    refine ⟨_, rfl, x, dx7, _, rfl, hi7, oc_n, x, _, _, rfl, F7, fun H8 fx8 F8 => ?_⟩
    have C8 := C7.fx fx8 (.inr rfl)
    have st8 := st7.fx fx8 hax
    -- no 21st
    refine ⟨_, rfl, x, _, _, 7, rfl, F8, g1.ok, by omega, zz_ok, by decide, by decide, g1.notin hR.zz, fun h => absurd h (by rw [g1.len]; omega), fun _ H9 s9 => ⟨false, rfl, ?_⟩⟩
    have F9 := F8.same s9
    have C9 := C8.same s9
    have L9 : LRowsAt H9 l R := LRowsAt.kp C9.kp ⟨rs, hl, hrs⟩
    refine iteF ⟨_, rfl, _, rfl, x, l, _, R, 1, rfl, F9, L9, g1, fun H10 s10 => ⟨true, rfl, iteF ?_⟩⟩
    have F10 := F9.same s10
    have C10 := C9.same s10
    have st10 := (st8.same s9).same s10
    -- the last goes
    obtain ⟨dx10, v10, hi10⟩ := F10.ins
    refine ⟨_, rfl, x, dx10, _, rfl, hi10, oc_n, x, _, _, rfl, F10, fun H11 fx11 F11 => ?_⟩
    have C11 := C10.fx fx11 (.inr rfl)
    have st11 := st10.fx fx11 hax
    have hl11 := C11.kp _ _ hl nv_refs
    have hrs11 := hrs.mono fun _ _ h => h.kp C11.kp
    -- others
    refine ⟨_, rfl, 19, rfl, l, _, rfl, SqL.of hl11, fun p hp => ?_⟩
    have s12 := same_new (o := .lst (cutV (rs.map V.ref) none (some 19))) hp
    refine ⟨two_line, fun t ht => ⟨one_line, fun p2 hp2 => ?_⟩⟩
    have s13 := same_new (o := .tup [.str "zz", .int 7]) ht
    have s14 := same_new (o := .lst [.ref t]) hp2
    refine ⟨p, p2, _, _, rfl, rfl, s14 _ _ (s13 _ _ upd_same), upd_same, ?_, fun p3 hp3 => ?_⟩
    · have h1 := cutV_length (rs.map V.ref) none (some 19)
      rw [List.length_map] at h1
      exact line_of (show (cutV (rs.map V.ref) none (some 19)).length + 1 ≤ 1000 by omega)
    have e15 : cutV (rs.map V.ref) none (some (19 : Int)) ++ [V.ref t] = (rs.take 19 ++ [t]).map V.ref := by
      rw [show (19 : Int) = ((19 : Nat) : Int) from rfl, cut_take, List.map_append, List.map_take]
      rfl
    rw [e15]
    have s15 := same_new (o := .lst ((rs.take 19 ++ [t]).map V.ref)) hp3
    have s1115 := ((s12.trans s13).trans s14).trans s15
    have L15 : LRowsAt (upd (upd (upd (upd H11 p (.lst (cutV (rs.map V.ref) none (some 19)))) t (.tup [.str "zz", .int 7])) p2 (.lst [.ref t])) p3 (.lst ((rs.take 19 ++ [t]).map V.ref))) p3 (R.take 19 ++ [(("zz" : Str), (7 : Int))]) :=
      ⟨_, upd_same, ((hrs11.take 19).mono fun _ _ h => h.kp (kp_same s1115)).app (.cons (s15 _ _ (s14 _ _ upd_same)) .nil)⟩
    generalize upd (upd (upd (upd H11 p (.lst (cutV (rs.map V.ref) none (some 19)))) t (.tup [.str "zz", .int 7])) p2 (.lst [.ref t])) p3 (.lst ((rs.take 19 ++ [t]).map V.ref)) = H15 at s1115 L15 ⊢
    have F15 := F11.same s1115
    have C15 := C11.same s1115
    have st15 := st11.same s1115
    -- zz goes in
    refine ⟨_, rfl, x, cs0, "zz", 7, rfl, F15, g0.ok, by omega, zz_ok, by decide, by decide, g0.notin (names_take hR.zz), fun _ H16 fx16 F16 => ⟨true, rfl, iteF ?_⟩, fun h => absurd h (by rw [g0.len, l19]; decide)⟩
    have gZ := g0.put (name := "zz") (s := 7) (by rw [l19]; decide) (by omega) (names_take hR.zz) zz_ok (by decide) (by decide)
    have C16 := C15.fx fx16 (.inr rfl)
    have st16 := st15.fx fx16 hax
    have L16 := L15.kp (kp_fx fx16)
    have lZ : (R.take 19 ++ [(("zz" : Str), (7 : Int))]).length = 20 := by rw [List.length_append, l19]; rfl
    have nYZ : ("yy" : Str) ∉ names (R.take 19 ++ [(("zz" : Str), (7 : Int))]) := by
      rw [names_app]
      intro q
      rcases List.mem_append.mp q with q | q
      · exact names_take hR.yy q
      · exact yz_ne (by simpa [names] using q)
    have hlz : ∀ (d : Call), (cs0 ++ [d]).length ≤ 101 := fun d => by rw [List.length_append]; show cs0.length + 1 ≤ 101; omega
    refine ⟨_, rfl, x, _, "yy", 7, rfl, F16, gZ.ok, by have := hlz ((stOf cs0).1, msort ((stOf cs0).2 ++ [(("zz" : Str), (7 : Int))])); omega, yy_ok, by decide, by decide, gZ.notin nYZ, fun h => absurd h (by rw [gZ.len, lZ]; decide), fun _ H17 s17 => ⟨false, rfl, iteF ?_⟩⟩
    have F17 := F16.same s17
    have L17 := L16.kp (kp_same s17)
    refine ⟨_, rfl, _, rfl, x, p3, _, _, 1, rfl, F17, L17, gZ, fun H18 s18 => ⟨true, rfl, iteF ?_⟩⟩
    have F18 := F17.same s18
    have L18 := L17.kp (kp_same s18)
    have C18 := (C16.same s17).same s18
    have st18 := (st16.same s17).same s18
    -- the size
    obtain ⟨dx18, v18, hi18⟩ := F18.ins
    have hs1 : 1 ≤ 1 + r2 := by omega
    have hs2 : 1 + r2 ≤ big := by omega
    have hlz1 := hlz ((stOf cs0).1, msort ((stOf cs0).2 ++ [(("zz" : Str), (7 : Int))]))
    refine ⟨_, rfl, x, dx18, _, rfl, hi18, oc_n, _, rfl, x, _, 1 + r2, rfl, F18, gZ.ok, by omega, hs1, hs2, fun H19 fx19 F19 => ?_⟩
    have gS := gZ.size (by omega) hs1 hs2
    have C19 := C18.fx fx19 (.inr rfl)
    have st19 := st18.fx fx19 hax
    have L19 := L18.kp (kp_fx fx19)
    refine ⟨_, rfl, x, _, "yy", 7, rfl, F19, gS.ok, by rw [List.length_append]; show _ + 1 < 500; omega, yy_ok, by decide, by decide, gS.notin nYZ, fun h => absurd h (by rw [gS.len, lZ]; decide), fun _ H20 s20 => ⟨false, rfl, iteF ?_⟩⟩
    have F20 := F19.same s20
    have L20 := L19.kp (kp_same s20)
    refine ⟨_, rfl, _, rfl, _, rfl, x, p3, _, _, 1 + r2, rfl, F20, L20, gS, fun H21 s21 => ⟨true, rfl, iteF ?_⟩⟩
    have F21 := F20.same s21
    have C21 := (C19.same s20).same s21
    have st21 := (st19.same s20).same s21
    -- back, back
    obtain ⟨dx21, v21, hi21⟩ := F21.ins
    refine ⟨_, rfl, x, dx21, _, rfl, hi21, oc_n, x, _, _, rfl, F21, fun H22 fx22 F22 => ?_⟩
    have C22 := C21.fx fx22 (.inr rfl)
    have st22 := st21.fx fx22 hax
    obtain ⟨dx22, v22, hi22⟩ := F22.ins
    refine ⟨_, rfl, x, dx22, _, rfl, hi22, oc_n, x, cs0, _, rfl, F22, fun H23 fx23 F23 => ?_⟩
    have C23 := C22.fx fx23 (.inr rfl)
    have st23 := st22.fx fx23 hax
    have hl23 := C23.kp _ _ hl nv_refs
    have hrs23 := hrs.mono fun _ _ h => h.kp C23.kp
    -- the last again
    obtain ⟨r19, er19⟩ : ∃ ri, rs[19]? = some ri := ⟨_, List.getElem?_eq_getElem (by omega)⟩
    obtain ⟨e', ee', hr19⟩ := hrs23.get er19
    rw [he19] at ee'
    cases ee'
    have he19R := List.mem_of_getElem? he19
    obtain ⟨n1, n2, n3⟩ := hR.ok he19R
    have nn := next_not hR.2.1 he19
    have gB := g0.put (name := e19.1) (s := e19.2) (by rw [l19]; decide) (by omega) nn n1 n2 n3
    have gB' : Good (cs0 ++ [((stOf cs0).1, msort ((stOf cs0).2 ++ [(e19.1, e19.2)]))]) R 1 := by
      have h : R.take 19 ++ [(e19.1, e19.2)] = R := h19
      rw [h] at gB
      exact gB
    have hi19 : (rs.map V.ref)[19]? = some (.ref r19) := by rw [List.getElem?_map, er19]; rfl
    refine ⟨_, rfl, _, rfl, l, _, 19, .ref r19, rfl, rfl, SqL.of hl23, atI_nat (j := 19) hi19, r19, _, 0, _, rfl, rfl, SqT.of hr19, atI_nat (j := 0) rfl, _, rfl, l, _, 19, .ref r19, rfl, rfl, SqL.of hl23, atI_nat (j := 19) hi19, r19, _, 1, _, rfl, rfl, SqT.of hr19, atI_nat (j := 1) rfl, ?_⟩
    refine ⟨x, cs0, e19.1, e19.2, rfl, F23, g0.ok, by omega, n1, n2, n3, g0.notin nn, fun _ H24 fx24 F24 => ⟨true, rfl, iteT ?_⟩, fun h => absurd h (by rw [g0.len, l19]; decide)⟩
    have C24 := C23.fx fx24 (.inr rfl)
    have st24 := st23.fx fx24 hax
    refine ⟨_, rfl, _, rfl, x, l, _, R, 1, rfl, F24, LRowsAt.kp C24.kp ⟨rs, hl, hrs⟩, gB', fun H25 s25 => ?_⟩
    exact k _ (C24.same s25) (st24.same s25) ⟨cs0, _, F24.same s25, hc0, g0, gB'⟩
end
end Gf
namespace Gf
open PySem PySem.Spec PyProof.Rows L2
/-- a loop over enumerate(list) -/
theorem for_enum {K : PySem.W.Frag} {a : Addr} {xs : List V} {g : TG} {tb : TS} {D : Ends} {σ : L2.St} {H : Hp} (Pv : Nat → L2.St → Hp → Prop) (h0 : Pv 0 σ H) (hl : ∀ i σ H, i ≤ xs.length → Pv i σ H → SqL K H a xs)
    (hs : ∀ i x σ H T, xs[i]? = some x → Pv i σ H → H T = none → g (.ref T) σ (upd H T (.tup [.int (i : Nat), x])) fun σ2 H2 => tb { D with nx := Pv (i + 1), ct := Pv (i + 1), bk := D.nx } σ2 H2) (hd : ∀ σ H, Pv xs.length σ H → D.nx σ H) :
    ∃ W : Nat → Nat → L2.St → Hp → Prop, (∃ m, W 0 m σ H) ∧ ∀ i m σ H, W i m σ H →
      ((Ite K a).stop i H ∧ D.nx σ H) ∨ ((Ite K a).go i H ∧ ∃ N : L2.St → Hp → Prop, (∀ σ' H', N σ' H' → ∃ m', m' < m ∧ W (i + 1) m' σ' H') ∧ ∀ x H', (Ite K a).yld i H x H' → g x σ H' fun σ2 H2 => tb { D with nx := N, ct := N, bk := D.nx } σ2 H2) := by
  refine ⟨fun i m σ H => m = xs.length - i ∧ i ≤ xs.length ∧ Pv i σ H, ⟨xs.length, by simp, Nat.zero_le _, h0⟩, ?_⟩
  rintro i m σ H ⟨rfl, hi, p⟩
  have q := hl i σ H hi p
  by_cases hlt : i < xs.length
  · refine .inr ⟨⟨xs, xs[i], q, by simp [hlt]⟩, Pv (i + 1), fun σ' H' p' => ⟨xs.length - (i + 1), by omega, rfl, hlt, p'⟩, fun x H' y => ?_⟩
    obtain ⟨T, x', rfl, hT, rfl, hx⟩ := y
    exact hs i x' σ H T (hx _ q) p hT
  · have e : i = xs.length := by omega
    subst e
    exact .inl ⟨⟨xs, q, Nat.le_refl _⟩, hd σ H p⟩
theorem StockAt.mono {H : Hp} {a : Addr} {N M : Nat} (h : StockAt H a N) (le : N ≤ M) : StockAt H a M := by
  obtain ⟨d, m, k, h, h1, h2, h3, h4, h5⟩ := h
  exact ⟨d, m, k, h, h1, h2, h3, h4, by omega⟩
theorem ne_stock {CF : Addr} {H : Hp} {a x : Addr} {N : Nat} {cs : List Call} (h : StockAt H a N) (f : FarmAt CF H x cs) : x ≠ a := by
  obtain ⟨d, m, n, h, _⟩ := h
  obtain ⟨dx, v, h'⟩ := f.ins
  exact (ne_of h h' (by intro q; cases q)).symm
section
variable {P : Program} {w : World} {K : PySem.W.Frag} {mg : Str → Option Value} {base : Heap} {CF CG CI : Addr}
def sp_full : Sp := fun vs H Q _ => ∃ (a : Addr) (N : Nat), vs = [.ref a] ∧ StockAt H a N ∧ N + 200 ≤ 1000 ∧ ∀ H', StockAt H' a (N + 100) → Q (.bl true) H'
theorem d_law_full_right (T : Txt P K mg CF CG CI) : DGg P w K mg base "_law_full_right" 13 ["_law_stock_here"] sp_full := by
  refine T.f_law_full_right.okG sc_law_full_right (fun _ _ _ _ _ _ us hl => match us, hl with | [_], _ => rfl) ?_ (fun f cdv A outer s H vs Q E hg hr h => ?_)
  · rintro vs H Q E ⟨a, N, rfl, _⟩; rfl
  · obtain ⟨a, N, rfl, hst, hN, k⟩ := h
    refine ⟨_, (pss_cons (ps_par (i := 1) (j := 2) (by rfl) sc_law_full_right.nd rfl rfl (by decide) rfl rfl (pa_cons (pe_c0 (d_LiveFarm_init T) hr (by rfl)) (pa_cons (pe_g (d_law_rows T) hr (by rfl) (pa_cons (pv 0) (pa_cons pe_int pa_nil))) pa_nil)) (by rfl))
      (pss_cons (ps_for PassesOwn.never rfl (pi_enum (by rfl) T.z_enumerate (pa_cons (pv 2) pa_nil)) (pg_tup rfl (pgs_cons (pg_name (i := 3) sc_law_full_right.nd rfl (Or.inl rfl)) (pgs_cons (pg_tup rfl (pgs_cons (pg_name (i := 4) sc_law_full_right.nd rfl (Or.inl rfl)) (pgs_cons (pg_name (i := 5) sc_law_full_right.nd rfl (Or.inl rfl)) pgs_nil))) pgs_nil))) (pss_one (ps_if (PW.pt (pw_or (pt_not (pt_val (pe_g (d_law_is_put T) hr (by rfl) (pa_cons (pv 1) (pa_cons (pv 4) (pa_cons (pv 5) pa_nil)))))) (pw_or1 (pt_not (pt_val (pe_gg (d_law_is_right T) hg hr (by rfl) (pa_cons (pv 1) (pa_cons (pe_slice sl_list (pv 2) po_none (po_some (pe_op op_add (pv 3) pe_int))) (pa_cons pe_int pa_nil))))))))) (pss_one (ps_ret pe_bl)) pss_nil)))
      (pss_cons (ps_if (pt_val (pe_g (d_law_is_put T) hr (by rfl) (pa_cons (pv 1) (pa_cons pe_str (pa_cons pe_int pa_nil))))) (pss_one (ps_ret pe_bl)) pss_nil)
      (pss_cons (ps_set (i := 6) sc_law_full_right.nd rfl (Or.inl rfl) (pe_m0 T.cF (d_LiveFarm_fork T) hr (pv 1)))
      (pss_cons (ps_for PassesOwn.never rfl (pi_tup (pe_tup (pa_cons (pv 1) (pa_cons (pv 6) (pa_cons (pv 1) (pa_cons (pe_m0 T.cF (d_LiveFarm_fork T) hr (pv 6)) pa_nil)))))) (pg_name (i := 7) sc_law_full_right.nd rfl (Or.inl rfl)) (pss_one (ps_if (pt_not (pt_val (pe_gg (d_law_bound_right T) hg hr (by rfl) (pa_cons (pv 0) (pa_cons (pv 7) (pa_cons (pv 2) pa_nil)))))) (pss_one (ps_ret pe_bl)) pss_nil)))
      (pss_cons (ps_expr (pe_m0 T.cF (d_LiveFarm_undo T) hr (pv 6)))
      (pss_cons (ps_if (PW.pt (pw_or (pt_not (pt_val (pe_g (d_law_is_put T) hr (by rfl) (pa_cons (pv 6) (pa_cons pe_str (pa_cons pe_int pa_nil)))))) (pw_or1 (pt_val (pe_g (d_law_is_put T) hr (by rfl) (pa_cons (pv 1) (pa_cons pe_str (pa_cons pe_int pa_nil)))))))) (pss_one (ps_ret pe_bl)) pss_nil)
      (pss_one (ps_ret (pe_and (pe_gg (d_law_is_right T) hg hr (by rfl) (pa_cons (pv 6) (pa_cons (pe_op op_cat (pe_slice sl_list (pv 2) po_none (po_some pe_int)) (pe_lst (pa_cons (pe_tup (pa_cons pe_str (pa_cons pe_int pa_nil))) pa_nil))) (pa_cons pe_int pa_nil)))) (pe_one (pe_gg (d_law_is_right T) hg hr (by rfl) (pa_cons (pv 1) (pa_cons (pv 2) (pa_cons pe_int pa_nil))))))))))))))), ?_⟩
    refine fun x dx hx hdx hne => ?_
    have s1 : Same H (upd (upd H dx (.own x)) x (.ins CF dx [])) := (same_new hdx).trans (same_new (by rw [upd_ne hne.symm]; exact hx))
    refine ⟨x, dx, rfl, upd_same, fun H1 f1 F1 => ⟨rfl, ?_⟩⟩
    have s01 : Same H H1 := fun b o e => f1.keep _ _ (ne_of_none e hx) (s1 _ _ e)
    have st1 := hst.same s01
    refine ⟨_, rfl, a, N, rfl, st1, by omega, fun l R H2 fx2 st2 hR hL => ⟨_, _, rfl, ?_⟩⟩
    have hxa := ne_stock st1 F1
    have F2 := F1.fx fx2 hxa
    obtain ⟨rs, hl, hrs⟩ := hL
    have hlR := hR.1
    have hrl : rs.length = 20 := by rw [hrs.len, hlR]
    have hlrs : (rs.map V.ref).length = 20 := by rw [List.length_map, hrl]
    have eb := big_eq
    -- all twenty
    refine ⟨_, rfl, l, _, rfl, SqL.of hl, for_enum (K := K) (a := l) (xs := rs.map V.ref) (fun i σ H' => (∃ o3 o4 o5, σ = [some (.ref a), some (.ref x), some (.ref l), o3, o4, o5, none, none]) ∧ StockAt H' a (N + 80) ∧ H' l = some (.lst (rs.map V.ref)) ∧ All2 (LRowAt H') rs R ∧
      ∃ cs, FarmAt CF H' x cs ∧ Good cs (R.take i) 1 ∧ cs.length = i ∧ ∀ j, i = j + 1 → ∃ cs0 c, cs = cs0 ++ [c] ∧ Good cs0 (R.take j) 1) ⟨⟨none, none, none, rfl⟩, st2, hl, hrs, [], F2, good_nil, rfl, fun j e => by omega⟩ (fun i σ H' _ h => SqL.of h.2.2.1) ?_ ?_⟩
    · rintro i xi σ H3 t hxi ⟨⟨o3, o4, o5, rfl⟩, st3, hl3, hrs3, cs, F3, g3, hlen, _⟩ ht
      obtain ⟨ra, e, rfl, era, ee, hra⟩ := row_get hrs3 hxi
      have hi20 : i < 20 := by rw [← hrl]; exact (List.getElem?_eq_some_iff.mp era).1
      have s4 := same_new (o := .tup [.int (i : Nat), .ref ra]) ht
      refine ⟨t, _, rfl, SqT.of upd_same, rfl, _, _, rfl, _, _, rfl, ra, _, rfl, SqT.of (s4 _ _ hra), rfl, _, _, rfl, _, _, rfl, rfl, rfl, ?_⟩
      have heR := List.mem_of_getElem? ee
      obtain ⟨n1, n2, n3⟩ := hR.ok heR
      have nn := next_not hR.2.1 ee
      have li : (R.take i).length = i := by rw [List.length_take]; omega
      have gP := g3.put (name := e.1) (s := e.2) (by rw [li]; exact hi20) (by omega) nn n1 n2 n3
      have eT : R.take i ++ [(e.1, e.2)] = R.take (i + 1) := by rw [List.take_add_one, ee]; rfl
      rw [eT] at gP
      refine ⟨_, rfl, _, rfl, _, rfl, x, cs, e.1, e.2, rfl, F3.same s4, g3.ok, by omega, n1, n2, n3, g3.notin nn, fun _ H5 fx5 F5 => ⟨true, rfl, iteF ?_⟩, fun h => absurd h (by rw [g3.len, li]; omega)⟩
      have k5 := (kp_same s4).trans (kp_fx fx5)
      have hl5 := k5 _ _ hl3 nv_refs
      have hrs5 := hrs3.mono fun _ _ h => h.kp k5
      have st5 := (st3.same s4).fx fx5 hxa.symm
      refine ⟨_, rfl, _, rfl, _, rfl, (i : Int), 1, rfl, rfl, _, rfl, l, _, rfl, SqL.of hl5, fun p hp => ?_⟩
      rw [show ((i : Int) + 1) = ((i + 1 : Nat) : Int) by omega, cut_take, ← List.map_take]
      have s6 := same_new (o := .lst ((rs.take (i + 1)).map V.ref)) hp
      refine ⟨x, p, _, _, 1, rfl, F5.same s6, ⟨_, upd_same, (hrs5.take (i + 1)).mono fun _ _ h => h.kp (kp_same s6)⟩, gP, fun H7 s7 => ⟨true, rfl, iteF ?_⟩⟩
      have s67 := s6.trans s7
      refine ⟨⟨_, _, _, rfl⟩, st5.same s67, s67 _ _ hl5, hrs5.mono fun _ _ h => h.kp (kp_same s67), _, F5.same s67, gP, by rw [List.length_append, hlen]; rfl, fun j ej => ⟨cs, _, rfl, ?_⟩⟩
      have ej' : j = i := by omega
      rw [ej']
      exact g3
    rintro σ H3 ⟨⟨o3, o4, o5, rfl⟩, st3, hl3, hrs3, cs, F3, g3, hlen, hpre⟩
    rw [hlrs] at g3 hlen hpre
    obtain ⟨cs0, c, ecs, g0⟩ := hpre 19 rfl
    have gA : Good cs R 1 := by
      rw [List.take_of_length_le (by omega)] at g3
      exact g3
    have F3' := F3
    -- no more
    refine ⟨_, rfl, x, cs, _, 3, rfl, F3, gA.ok, by omega, zz_ok, by decide, by decide, gA.notin hR.zz, fun h => absurd h (by rw [gA.len]; omega), fun _ H4 s4 => ⟨false, rfl, iteF ?_⟩⟩
    have F4 := F3.same s4
    -- two
    obtain ⟨dx4, v4, hi4⟩ := F4.ins
    refine ⟨_, rfl, x, dx4, _, rfl, hi4, oc_n, x, cs, rfl, F4, fun y H5 s5 hy Fy => ?_⟩
    have hxy : x ≠ y := ne_of_none hi4 hy
    have F5 := F4.same s5
    obtain ⟨dy5, vy5, hiy5⟩ := Fy.ins
    refine ⟨_, rfl, _, rfl, _, rfl, _, rfl, y, dy5, _, rfl, hiy5, oc_n, y, cs, rfl, Fy, fun z H6 s6 hz Fz => ⟨four_line, fun t ht => ?_⟩⟩
    have s7 := same_new (o := .tup [.ref x, .ref y, .ref x, .ref z]) ht
    have s37 := ((s4.trans s5).trans s6).trans s7
    have tw : ∀ (q : Addr) (H' : Hp), FarmAt CF H' q cs → Twin CF H' q R := fun q H' h => ⟨cs0, c, by rw [← ecs]; exact h, by have := hlen; rw [ecs, List.length_append] at this; show cs0.length ≤ 100; omega, g0, by rw [← ecs]; exact gA⟩
    refine ⟨t, rfl, ⟨_, SqT.of upd_same⟩, for_tup (K := K) (a := t) (xs := [.ref x, .ref y, .ref x, .ref z]) (fun i σ H' => (∃ o7, σ = [some (.ref a), some (.ref x), some (.ref l), o3, o4, o5, some (.ref y), o7]) ∧ StockAt H' a (N + 80 + 2 * i) ∧ H' l = some (.lst (rs.map V.ref)) ∧ All2 (LRowAt H') rs R ∧
      H' t = some (.tup [.ref x, .ref y, .ref x, .ref z]) ∧ ∀ q ∈ [x, y, z], Twin CF H' q R) ⟨⟨none, rfl⟩, st3.same s37, s37 _ _ hl3, hrs3.mono fun _ _ h => h.kp (kp_same s37), upd_same, ?_⟩ (fun i σ H' _ h => SqT.of h.2.2.2.2.1) ?_ ?_⟩
    · intro q hq
      have hq : q = x ∨ q = y ∨ q = z := by simpa using hq
      rcases hq with rfl | rfl | rfl
      · exact tw _ _ ((F5.same s6).same s7)
      · exact tw _ _ ((Fy.same s6).same s7)
      · exact tw _ _ (Fz.same s7)
    · rintro i xi σ H8 hxi ⟨⟨o7, rfl⟩, st8, hl8, hrs8, ht8, tw8⟩
      obtain ⟨q, hq, rfl, hi4⟩ : ∃ q, q ∈ [x, y, z] ∧ xi = .ref q ∧ i < 4 := by
        match i, hxi with
        | 0, hxi => cases hxi; exact ⟨x, by simp, rfl, by decide⟩
        | 1, hxi => cases hxi; exact ⟨y, by simp, rfl, by decide⟩
        | 2, hxi => cases hxi; exact ⟨x, by simp, rfl, by decide⟩
        | 3, hxi => cases hxi; exact ⟨z, by simp, rfl, by decide⟩
        | n + 4, hxi => cases hxi
      have na : ∀ q ∈ [x, y, z], q ≠ a := fun q hq => by
        obtain ⟨_, _, h, _⟩ := tw8 q hq
        exact ne_stock st8 h
      refine ⟨_, rfl, _, rfl, _, rfl, a, q, l, N + 80 + 2 * i, R, rfl, st8, by omega, tw8 q hq, hR, ⟨rs, hl8, hrs8⟩, fun H9 ch st9 tw9 => ⟨true, rfl, iteF ?_⟩⟩
      refine ⟨⟨_, rfl⟩, st9, ch.kp _ _ hl8 nv_refs, hrs8.mono fun _ _ h => h.kp ch.kp, ch.kp _ _ ht8 nv_tup, fun q' hq' => ?_⟩
      by_cases e : q' = q
      · rw [e]; exact tw9
      · exact (tw8 q' hq').ch ch (fun h => h.elim (na q' hq') e)
    rintro σ H8 ⟨⟨o7, rfl⟩, st8, hl8, hrs8, ht8, tw8⟩
    have st8' : StockAt H8 a (N + 100) := st8.mono (by show N + 80 + 2 * 4 ≤ N + 100; omega)
    obtain ⟨csy, cy, Fy8, ly, gy0, gy1⟩ := tw8 y (by simp)
    obtain ⟨csx, cx, Fx8, lx, gx0, gx1⟩ := tw8 x (by simp)
    have hya := ne_stock st8 Fy8
    -- two goes back and on
    obtain ⟨dy8, vy8, hiy8⟩ := Fy8.ins
    refine ⟨_, rfl, y, dy8, _, rfl, hiy8, oc_n, y, csy, _, rfl, Fy8, fun H9 fx9 Fy9 => ?_⟩
    have l19 : (R.take 19).length = 19 := by rw [List.length_take]; omega
    refine ⟨_, rfl, y, csy, "zz", 5, rfl, Fy9, gy0.ok, by omega, zz_ok, by decide, by decide, gy0.notin (names_take hR.zz), fun _ H10 fx10 Fy10 => ⟨true, rfl, iteF ?_⟩, fun h => absurd h (by rw [gy0.len, l19]; decide)⟩
    have gZ := gy0.put (name := "zz") (s := 5) (by rw [l19]; decide) (by omega) (names_take hR.zz) zz_ok (by decide) (by decide)
    have Fx10 := (Fx8.fx fx9 hxy).fx fx10 hxy
    have k10 := (kp_fx fx9).trans (kp_fx fx10)
    have st10 := (st8'.fx fx9 hya.symm).fx fx10 hya.symm
    have lxx : (csx ++ [cx]).length ≤ 101 := by rw [List.length_append]; show csx.length + 1 ≤ 101; omega
    refine ⟨_, rfl, x, _, "zz", 5, rfl, Fx10, gx1.ok, by omega, zz_ok, by decide, by decide, gx1.notin hR.zz, fun h => absurd h (by rw [gx1.len]; omega), fun _ H11 s11 => ⟨false, rfl, iteF ?_⟩⟩
    have k11 := k10.trans (kp_same s11)
    have hl11 := k11 _ _ hl8 nv_refs
    have hrs11 := hrs8.mono fun _ _ h => h.kp k11
    -- both are right
    refine ⟨_, rfl, _, rfl, 19, rfl, l, _, rfl, SqL.of hl11, fun p hp => ?_⟩
    have s12 := same_new (o := .lst (cutV (rs.map V.ref) none (some 19))) hp
    refine ⟨two_line, fun t2 ht2 => ⟨one_line, fun p2 hp2 => ?_⟩⟩
    have s13 := same_new (o := .tup [.str "zz", .int 5]) ht2
    have s14 := same_new (o := .lst [.ref t2]) hp2
    refine ⟨p, p2, _, _, rfl, rfl, s14 _ _ (s13 _ _ upd_same), upd_same, ?_, fun p3 hp3 => ?_⟩
    · have h1 := cutV_length (rs.map V.ref) none (some 19)
      rw [List.length_map] at h1
      exact line_of (show (cutV (rs.map V.ref) none (some 19)).length + 1 ≤ 1000 by omega)
    have e15 : cutV (rs.map V.ref) none (some (19 : Int)) ++ [V.ref t2] = (rs.take 19 ++ [t2]).map V.ref := by
      rw [show (19 : Int) = ((19 : Nat) : Int) from rfl, cut_take, List.map_append, List.map_take]
      rfl
    rw [e15]
    have s15 := same_new (o := .lst ((rs.take 19 ++ [t2]).map V.ref)) hp3
    have s1115 := ((s12.trans s13).trans s14).trans s15
    have L15 : LRowsAt (upd (upd (upd (upd H11 p (.lst (cutV (rs.map V.ref) none (some 19)))) t2 (.tup [.str "zz", .int 5])) p2 (.lst [.ref t2])) p3 (.lst ((rs.take 19 ++ [t2]).map V.ref))) p3 (R.take 19 ++ [(("zz" : Str), (5 : Int))]) :=
      ⟨_, upd_same, ((hrs11.take 19).mono fun _ _ h => h.kp (kp_same s1115)).app (.cons (s15 _ _ (s14 _ _ upd_same)) .nil)⟩
    generalize upd (upd (upd (upd H11 p (.lst (cutV (rs.map V.ref) none (some 19)))) t2 (.tup [.str "zz", .int 5])) p2 (.lst [.ref t2])) p3 (.lst ((rs.take 19 ++ [t2]).map V.ref)) = H15 at s1115 L15 ⊢
    refine ⟨y, p3, _, _, 1, rfl, (Fy10.same s11).same s1115, L15, gZ, fun H16 s16 => ⟨true, rfl, iteT ?_⟩⟩
    have s1016 := (s11.trans s1115).trans s16
    refine ⟨_, rfl, _, rfl, x, l, _, R, 1, rfl, Fx10.same s1016, LRowsAt.kp (k10.trans (kp_same s1016)) ⟨rs, hl8, hrs8⟩, gx1, fun H17 s17 => ?_⟩
    exact k _ ((st10.same s1016).same s17)
end
end Gf
namespace Gf
open PySem PySem.Spec PyProof.Rows L2
section
variable {P : Program} {w : World} {K : PySem.W.Frag} {mg : Str → Option Value} {base : Heap} {CF CG CI : Addr}
def sp_tried : Sp := fun vs H Q _ => ∃ (a : Addr) (N : Nat) (n : Int), vs = [.ref a, .int n] ∧ StockAt H a N ∧ N + 200 ≤ 1000 ∧ 0 ≤ n ∧ n ≤ 100 ∧ ∀ H', Q (.bl true) H'
theorem d_law_tried_right (T : Txt P K mg CF CG CI) : DGg P w K mg base "_law_tried_right" 13 ["_law_stock_here", "_law_often"] sp_tried := by
  refine T.f_law_tried_right.okG sc_law_tried_right (fun _ _ _ _ _ _ us hl => match us, hl with | [_, _], _ => rfl) ?_ (fun f cdv A outer s H vs Q E hg hr h => ?_)
  · rintro vs H Q E ⟨a, N, n, rfl, _⟩; rfl
  · obtain ⟨a, N, n, rfl, hst, hN, hn0, hn1, k⟩ := h
    obtain ⟨fP, fdP, hPf, hPm, hPb⟩ := d_LiveFarm_put_fence (w := w) (base := base) T
    have hr1 := hr.mono (show 10 ≤ 12 by decide)
    refine ⟨_, (pss_cons (ps_asg (pe_tup (pa_cons (pe_c0 (d_LiveFarm_init T) hr (by rfl)) (pa_cons (pe_g (d_law_rows T) hr (by rfl) (pa_cons (pv 0) (pa_cons pe_int pa_nil))) pa_nil))) (pg_tup rfl (pgs_cons (pg_name (i := 2) sc_law_tried_right.nd rfl (Or.inr rfl)) (pgs_cons (pg_name (i := 3) sc_law_tried_right.nd rfl (Or.inl rfl)) pgs_nil))))
      (pss_cons (ps_for PassesOwn.never rfl (pi_range1 rfl T.z_range (pa_cons (pv 1) pa_nil)) (pg_name (i := 4) sc_law_tried_right.nd rfl (Or.inl rfl)) (pss_cons (ps_expr (pe_meth (pv 2) T.cF hPm hPf hr1 hPb (dvs := []) .nil passL (pa_cons pe_str (pa_cons (pe_g (d_law_bar T) hr (by rfl) (pa_cons (pv 4) pa_nil)) pa_nil))))
      (pss_cons (ps_if (pt_cmpR op_eq (pe_op op_mod (pe_callTy call_int1 (by rfl) T.z_int (by decide +kernel) (pa_cons (pv 4) pa_nil)) pe_int) pe_int (nomark _)) (pss_cons (ps_expr (pe_m T.cF (d_LiveFarm_take_fence T) hr (pv 2) (pa_cons pe_str pa_nil)))
      (pss_cons (ps_expr (pe_meth (pv 2) T.cF hPm hPf hr1 hPb (dvs := []) .nil passL (pa_cons pe_str (pa_cons (pe_g (d_law_bar T) hr (by rfl) (pa_cons (pe_op op_add (pv 4) pe_int) pa_nil)) pa_nil))))
      (pss_cons (ps_if (pt_not (pt_val (pe_gg (d_law_is_right T) hg hr (by rfl) (pa_cons (pv 2) (pa_cons (pe_lst (pa_cons (pe_tup (pa_cons pe_str (pa_cons (pe_op op_add (pv 4) pe_int) pa_nil))) pa_nil)) (pa_cons pe_int pa_nil)))))) (pss_one (ps_ret pe_bl)) pss_nil)
      (pss_cons (ps_expr (pe_m0 T.cF (d_LiveFarm_undo T) hr (pv 2)))
      (pss_one (ps_expr (pe_m0 T.cF (d_LiveFarm_undo T) hr (pv 2)))))))) pss_nil)
      (pss_cons (ps_if (pt_not (pt_val (pe_gg (d_law_is_right T) hg hr (by rfl) (pa_cons (pv 2) (pa_cons (pe_lst (pa_cons (pe_tup (pa_cons pe_str (pa_cons (pv 4) pa_nil))) pa_nil)) (pa_cons pe_int pa_nil)))))) (pss_one (ps_ret pe_bl)) pss_nil)
      (pss_cons (ps_expr (pe_m0 T.cF (d_LiveFarm_undo T) hr (pv 2)))
      (pss_one (ps_if (PW.pt (pw_or (pt_not (pt_val (pe_gg (d_law_is_right T) hg hr (by rfl) (pa_cons (pv 2) (pa_cons (pe_lst pa_nil) (pa_cons pe_int pa_nil)))))) (pw_or1 (pt_cmpR (op_neD hr.units) (pe_p T.cF (d_LiveFarm_log T) hr (pv 2)) (pe_lst pa_nil) (nomark _))))) (pss_one (ps_ret pe_bl)) pss_nil)))))))
      (pss_cons (ps_if (PW.pt (pw_or (pt_cmpR (op_neD hr.units) (pe_lc (own := [("_law_row", 5)]) (g := (gName 5)) rfl sc_law_tried_right.nd (pi_list (pv 3)) (blkOk_by (own := [("_law_row", 5)]) (N := N_law_tried_right) (sc := defScope s_law_tried_right) (by decide +kernel)) (fun _ _ _ _ _ => by exact (pg_name (i := 5) sc_law_tried_right.nd rfl (Or.inl rfl))) (fun _ _ _ _ _ => by exact (pts_one (pt_not (pt_val (pe_g (d_law_is_put T) hr (by rfl) (pa_cons (pv 2) (pa_cons (pe_ix (r := rIxT K) ix_tup (pv 5) pe_int (fun _ _ => rfl)) (pa_cons (pe_ix (r := rIxT K) ix_tup (pv 5) pe_int (fun _ _ => rfl)) pa_nil)))))))) (fun _ _ _ _ _ => by exact (pv 5))) (pe_lst pa_nil) (nomark _)) (pw_or1 (pt_val (pe_g (d_law_is_put T) hr (by rfl) (pa_cons (pv 2) (pa_cons pe_str (pa_cons pe_int pa_nil)))))))) (pss_one (ps_ret pe_bl)) pss_nil)
      (pss_one (ps_ret (pe_gg (d_law_is_right T) hg hr (by rfl) (pa_cons (pv 2) (pa_cons (pv 3) (pa_cons pe_int pa_nil))))))))), ?_⟩
    refine fun x dx hx hdx hne => ?_
    have s1 : Same H (upd (upd H dx (.own x)) x (.ins CF dx [])) := (same_new hdx).trans (same_new (by rw [upd_ne hne.symm]; exact hx))
    refine ⟨x, dx, rfl, upd_same, fun H1 f1 F1 => ⟨rfl, ?_⟩⟩
    have s01 : Same H H1 := fun b o e => f1.keep _ _ (ne_of_none e hx) (s1 _ _ e)
    have st1 := hst.same s01
    refine ⟨_, rfl, a, N, rfl, st1, by omega, fun l R H2a fx2 st2 hR hL => ⟨two_line, fun t0 ht0 => ?_⟩⟩
    have hxa := ne_stock st1 F1
    have s0 := same_new (o := .tup [.ref x, .ref l]) ht0
    have F2 := (F1.fx fx2 hxa).same s0
    obtain ⟨rs, hl, hrs⟩ := hL.kp (kp_same s0)
    refine ⟨t0, _, rfl, SqT.of upd_same, rfl, _, _, rfl, _, _, rfl, rfl, ?_⟩
    have hlR := hR.1
    have hrl : rs.length = 20 := by rw [hrs.len, hlR]
    have hlrs : (rs.map V.ref).length = 20 := by rw [List.length_map, hrl]
    have eb := big_eq
    refine ⟨_, rfl, n, rfl, by omega, by omega, for_range (lo := 0) (n := n.toNat) (fun i σ H' => (∃ o4, σ = [some (.ref a), some (.int n), some (.ref x), some (.ref l), o4, none]) ∧ FarmAt CF H' x [] ∧ H' l = some (.lst (rs.map V.ref)) ∧ All2 (LRowAt H') rs R) ⟨⟨none, rfl⟩, F2, hl, hrs⟩ ?_ ?_⟩
    · rintro i σ H3 hi ⟨⟨o4, rfl⟩, F3, hl3, hrs3⟩
      obtain ⟨dx3, v3, hi3⟩ := F3.ins
      have hi100 : (i : Int) < 100 := by omega
      refine ⟨_, rfl, x, dx3, _, rfl, hi3, oc_n, _, rfl, 0 + (i : Int), rfl, by omega, fun t H4 s4 hf4 => ?_⟩
      have nn : ("a" : Str) ∉ names [] := by simp [names]
      refine ⟨x, [], "a", t, 0 + (i : Int), rfl, F3.same s4, ok_nil, by decide, a_ok, hf4.at, by omega, nn, fun _ H5 fx5 F5 => ?_, fun h => absurd h (by decide)⟩
      have gP := good_nil.put (name := "a") (s := 0 + (i : Int)) (by decide) (by decide) nn a_ok (by omega) (by omega)
      have k5 := (kp_same s4).trans (kp_fx fx5)
      refine ⟨_, rfl, .inl ⟨_, rfl, _, 2, rfl, rfl, (by show (0 : Int) < 2; decide), rfl, _, rfl, ?_⟩⟩
      by_cases hodd : V.int ((0 + (i : Int)) % 2) = V.int 1
      · refine iteD hodd ?_
        obtain ⟨dx5, v5, hi5⟩ := F5.ins
        refine ⟨_, rfl, x, dx5, _, rfl, hi5, oc_n, x, _, "a", 0 + (i : Int), rfl, F5, gP.ok, (by show (1 : Nat) < 500; decide), a_ok, has_of (e := (("a" : Str), 0 + (i : Int))) gP.p gP.d (List.mem_singleton.mpr rfl), fun H6 fx6 F6 => ?_⟩
        have gT := gP.take (r := 0) (e := (("a" : Str), 0 + (i : Int))) (by show (1 : Nat) < 500; decide) rfl
        obtain ⟨dx6, v6, hi6⟩ := F6.ins
        refine ⟨_, rfl, x, dx6, _, rfl, hi6, oc_n, _, rfl, 0 + (i : Int), 1, rfl, rfl, 0 + (i : Int) + 1, rfl, by omega, fun t7 H7 s7 hf7 => ?_⟩
        refine ⟨x, _, "a", t7, 0 + (i : Int) + 1, rfl, F6.same s7, gT.ok, by show (2 : Nat) < 500; decide, a_ok, hf7.at, by omega, gT.notin nn, fun _ H8 fx8 F8 => ?_, fun h => absurd h (by rw [gT.len]; show ¬ (0 : Nat) = 20; decide)⟩
        have gU := gT.put (name := "a") (s := 0 + (i : Int) + 1) (by show (0 : Nat) < 20; decide) (by show (2 : Nat) < 500; decide) nn a_ok (by omega) (by omega)
        have k8 := ((k5.trans (kp_fx fx6)).trans (kp_same s7)).trans (kp_fx fx8)
        refine ⟨_, rfl, _, rfl, 0 + (i : Int), 1, rfl, rfl, two_line, fun t9 ht9 => ⟨one_line, fun p9 hp9 => ?_⟩⟩
        have s9 := (same_new (o := .tup [.str "a", .int (0 + (i : Int) + 1)]) ht9).trans (same_new (o := .lst [.ref t9]) hp9)
        have h9 : LRowsAt (upd (upd H8 t9 (.tup [.str "a", .int (0 + (i : Int) + 1)])) p9 (.lst [.ref t9])) p9 [(("a" : Str), (0 + (i : Int) + 1))] := ⟨[t9], upd_same, .cons ((same_new (o := .lst [.ref t9]) hp9) _ _ upd_same) .nil⟩
        generalize upd (upd H8 t9 (.tup [.str "a", .int (0 + (i : Int) + 1)])) p9 (.lst [.ref t9]) = H9 at s9 h9 ⊢
        refine ⟨x, p9, _, _, 1, rfl, F8.same s9, h9, gU, fun H10 s10 => ⟨true, rfl, iteF ?_⟩⟩
        have F10 := (F8.same s9).same s10
        obtain ⟨dx10, v10, hi10⟩ := F10.ins
        refine ⟨_, rfl, x, dx10, _, rfl, hi10, oc_n, x, _, _, rfl, F10, fun H11 fx11 F11 => ?_⟩
        obtain ⟨dx11, v11, hi11⟩ := F11.ins
        refine ⟨_, rfl, x, dx11, _, rfl, hi11, oc_n, x, _, _, rfl, F11, fun H12 fx12 F12 => ?_⟩
        have k12 := (((k8.trans (kp_same s9)).trans (kp_same s10)).trans (kp_fx fx11)).trans (kp_fx fx12)
        obtain ⟨dx12, v12, hi12⟩ := F12.ins
        refine ⟨_, rfl, _, rfl, two_line, fun tA htA => ⟨one_line, fun pA hpA => ?_⟩⟩
        have sA := (same_new (o := .tup [.str "a", .int (0 + (i : Int))]) htA).trans (same_new (o := .lst [.ref tA]) hpA)
        have hA : LRowsAt (upd (upd H12 tA (.tup [.str "a", .int (0 + (i : Int))])) pA (.lst [.ref tA])) pA [(("a" : Str), (0 + (i : Int)))] := ⟨[tA], upd_same, .cons ((same_new (o := .lst [.ref tA]) hpA) _ _ upd_same) .nil⟩
        generalize upd (upd H12 tA (.tup [.str "a", .int (0 + (i : Int))])) pA (.lst [.ref tA]) = HA at sA hA ⊢
        refine ⟨x, pA, _, _, 1, rfl, F12.same sA, hA, gP, fun HB sB => ⟨true, rfl, iteF ?_⟩⟩
        have FB := (F12.same sA).same sB
        obtain ⟨dxB, vB, hiB⟩ := FB.ins
        refine ⟨_, rfl, x, dxB, _, rfl, hiB, oc_n, x, [], _, rfl, FB, fun HC fxC FC => ?_⟩
        refine ⟨_, rfl, Nat.zero_le _, fun pD hpD => ?_⟩
        have sD := same_new (o := .lst []) hpD
        refine ⟨x, pD, [], [], 1, rfl, FC.same sD, ⟨[], upd_same, .nil⟩, good_nil, fun HE sE => ⟨true, rfl, iteF ?_⟩⟩
        have FE := (FC.same sD).same sE
        obtain ⟨dxE, vE, hiE⟩ := FE.ins
        refine ⟨_, rfl, x, dxE, _, rfl, hiE, x, rfl, FE, fun pF HF sF hpF => ⟨Nat.zero_le _, fun pG hpG => ?_⟩⟩
        have sG := same_new (o := .lst []) hpG
        refine ⟨.list [], .list [], .lst (SqL.of (sG _ _ hpF)) .nil, .lst (SqL.of upd_same) .nil, rfl, rfl, _, rfl, iteF ?_⟩
        have kk := ((((((k12.trans (kp_same sA)).trans (kp_same sB)).trans (kp_fx fxC)).trans (kp_same sD)).trans (kp_same sE)).trans (kp_same sF)).trans (kp_same sG)
        exact ⟨⟨_, rfl⟩, (FE.same sF).same sG, kk _ _ hl3 nv_refs, hrs3.mono fun _ _ h => h.kp kk⟩
      · refine iteDn hodd ?_
        obtain ⟨dx5, v5, hi5⟩ := F5.ins
        refine ⟨_, rfl, _, rfl, two_line, fun tA htA => ⟨one_line, fun pA hpA => ?_⟩⟩
        have sA := (same_new (o := .tup [.str "a", .int (0 + (i : Int))]) htA).trans (same_new (o := .lst [.ref tA]) hpA)
        have hA : LRowsAt (upd (upd H5 tA (.tup [.str "a", .int (0 + (i : Int))])) pA (.lst [.ref tA])) pA [(("a" : Str), (0 + (i : Int)))] := ⟨[tA], upd_same, .cons ((same_new (o := .lst [.ref tA]) hpA) _ _ upd_same) .nil⟩
        generalize upd (upd H5 tA (.tup [.str "a", .int (0 + (i : Int))])) pA (.lst [.ref tA]) = HA at sA hA ⊢
        refine ⟨x, pA, _, _, 1, rfl, F5.same sA, hA, gP, fun HB sB => ⟨true, rfl, iteF ?_⟩⟩
        have FB := (F5.same sA).same sB
        obtain ⟨dxB, vB, hiB⟩ := FB.ins
        refine ⟨_, rfl, x, dxB, _, rfl, hiB, oc_n, x, [], _, rfl, FB, fun HC fxC FC => ?_⟩
        refine ⟨_, rfl, Nat.zero_le _, fun pD hpD => ?_⟩
        have sD := same_new (o := .lst []) hpD
        refine ⟨x, pD, [], [], 1, rfl, FC.same sD, ⟨[], upd_same, .nil⟩, good_nil, fun HE sE => ⟨true, rfl, iteF ?_⟩⟩
        have FE := (FC.same sD).same sE
        obtain ⟨dxE, vE, hiE⟩ := FE.ins
        refine ⟨_, rfl, x, dxE, _, rfl, hiE, x, rfl, FE, fun pF HF sF hpF => ⟨Nat.zero_le _, fun pG hpG => ?_⟩⟩
        have sG := same_new (o := .lst []) hpG
        refine ⟨.list [], .list [], .lst (SqL.of (sG _ _ hpF)) .nil, .lst (SqL.of upd_same) .nil, rfl, rfl, _, rfl, iteF ?_⟩
        have kk := ((((((k5.trans (kp_same sA)).trans (kp_same sB)).trans (kp_fx fxC)).trans (kp_same sD)).trans (kp_same sE)).trans (kp_same sF)).trans (kp_same sG)
        exact ⟨⟨_, rfl⟩, (FE.same sF).same sG, kk _ _ hl3 nv_refs, hrs3.mono fun _ _ h => h.kp kk⟩
    rintro σ H3 ⟨⟨o4, rfl⟩, F3, hl3, hrs3⟩
    -- all rows go in
    refine ⟨_, rfl, l, rfl, ⟨_, SqL.of hl3⟩, fun D hD => lc_list (K := K) (a := l) (xs := rs.map V.ref) (fun i H' => H' D = some (.lst []) ∧ H' l = some (.lst (rs.map V.ref)) ∧ All2 (LRowAt H') rs R ∧ ∃ cs, FarmAt CF H' x cs ∧ Good cs (R.take i) 1 ∧ cs.length = i) ?_ (fun i H' _ h => SqL.of h.2.1) ?_ ?_⟩
    · have sD := same_new (o := .lst []) hD
      exact ⟨upd_same, sD _ _ hl3, hrs3.mono fun _ _ h => h.kp (kp_same sD), [], F3.same sD, good_nil, rfl⟩
    · rintro i xi H4 hxi ⟨hD4, hl4, hrs4, cs, F4, g4, hlen⟩
      obtain ⟨ra, e, rfl, era, ee, hra⟩ := row_get hrs4 hxi
      have hi20 : i < 20 := by rw [← hrl]; exact (List.getElem?_eq_some_iff.mp era).1
      have heR := List.mem_of_getElem? ee
      obtain ⟨n1, n2, n3⟩ := hR.ok heR
      have nn := next_not hR.2.1 ee
      have li : (R.take i).length = i := by rw [List.length_take]; omega
      have gP := g4.put (name := e.1) (s := e.2) (by rw [li]; exact hi20) (by omega) nn n1 n2 n3
      have eT : R.take i ++ [(e.1, e.2)] = R.take (i + 1) := by rw [List.take_add_one, ee]; rfl
      rw [eT] at gP
      refine ⟨rfl, ?_⟩
      refine ⟨_, rfl, _, rfl, ra, _, 0, _, rfl, rfl, SqT.of hra, atI_nat (j := 0) rfl, _, rfl, ra, _, 1, _, rfl, rfl, SqT.of hra, atI_nat (j := 1) rfl, ?_⟩
      refine ⟨x, cs, e.1, e.2, rfl, F4, g4.ok, by omega, n1, n2, n3, g4.notin nn, fun _ H5 fx5 F5 => ⟨true, rfl, iteF ?_⟩, fun h => absurd h (by rw [g4.len, li]; omega)⟩
      have hDx : D ≠ x := by
        obtain ⟨_, _, h'⟩ := F4.ins
        exact ne_of hD4 h' (by intro q; cases q)
      exact ⟨fx5.keep _ _ hDx hD4, kp_fx fx5 _ _ hl4 nv_refs, hrs4.mono fun _ _ h => h.kp (kp_fx fx5), _, F5, gP, by rw [List.length_append, hlen]; rfl⟩
    rintro H4 ⟨hD4, hl4, hrs4, cs, F4, g4, hlen⟩
    rw [hlrs] at g4 hlen
    have gA : Good cs R 1 := by
      rw [List.take_of_length_le (by omega)] at g4
      exact g4
    refine ⟨Nat.zero_le _, fun q hq => ?_⟩
    have sq := same_new (o := .lst []) hq
    refine ⟨.list [], .list [], .lst (SqL.of (sq _ _ hD4)) .nil, .lst (SqL.of upd_same) .nil, rfl, rfl, _, rfl, iteF ?_⟩
    have F5 := F4.same sq
    refine ⟨_, rfl, x, cs, _, 1, rfl, F5, gA.ok, by omega, zz_ok, by decide, by decide, gA.notin hR.zz, fun h => absurd h (by rw [gA.len]; omega), fun _ H6 s6 => ⟨false, rfl, iteF ?_⟩⟩
    have s46 := sq.trans s6
    exact ⟨_, rfl, _, rfl, x, l, cs, R, 1, rfl, F4.same s46, LRowsAt.kp (kp_same s46) ⟨rs, hl4, hrs4⟩, gA, fun H7 s7 => k _⟩
def sp_law : Sp := fun vs H Q _ => ∃ (a : Addr) (ns : List Int), vs = [.ref a] ∧ SqL K H a (ns.map V.int) ∧ ns.length ≤ 63 ∧ ∀ H', Q (.bl true) H'
theorem law_fn (T : Txt P K mg CF CG CI) : ∃ f fd, mg "law" = some (.ref f) ∧ (∀ (s : Shared) (u : Value), BindsTo s fd ⟨[u], []⟩ [("_law_script", u)]) ∧ ∀ base : Heap, FnG P w K mg base CX0 14 f fd ["_law_script"] (sp_law (K := K)) := by
  obtain ⟨f, fd, G, hm⟩ := T.f_law.ex
  have G' := G
  obtain ⟨oc, od, kV, doc, pm, an, cdv, ct, osl, rfl, _⟩ := G'.ex
  refine ⟨f, _, hm, fun s v => .of_eq rfl, fun base => Gf.okG G sc_law ?_ (fun cdv A outer s H vs Q E hg hr h => ?_)⟩
  · rintro vs H Q E ⟨a, ns, rfl, _⟩; rfl
  · obtain ⟨a, ns, rfl, ha, hns, k⟩ := h
    refine ⟨_, (pss_cons (ps_set (i := 1) sc_law.nd rfl (Or.inl rfl) (pe_g (d_law_stock T) hr (by rfl) (pa_cons (pv 0) pa_nil)))
      (pss_one (ps_ret (pe_and (pe_gg (d_law_full_right T) hg hr (by rfl) (pa_cons (pv 1) pa_nil)) (pe_one (pe_gg (d_law_tried_right T) hg hr (by rfl) (pa_cons (pv 1) (pa_cons (pe_op op_add pe_int (pe_g (d_law_draw T) hr (by rfl) (pa_cons (pv 1) (pa_cons pe_int pa_nil)))) pa_nil)))))))), ?_⟩
    refine ⟨_, rfl, a, ns, rfl, ha, hns, fun p H1 st1 => ?_⟩
    refine ⟨_, rfl, p, 0, rfl, st1, by decide, fun H2 st2 => ⟨true, rfl, iteT ?_⟩⟩
    refine ⟨_, rfl, _, rfl, p, _, 9, rfl, st2, by decide, by decide, by decide, fun r H3 h0 h1 fx3 st3 => ⟨21, r, rfl, rfl, ?_⟩⟩
    exact ⟨p, _, 21 + r, rfl, st3, by decide, by omega, by omega, fun H4 => k _⟩
end
/-! ### what the top has written -/
section
variable {P : Program} {K : PySem.W.Frag} {mg : Str → Option Value} {h : Heap}
theorem mkFD {x : Str} {st : Stmt} {f : Addr} {oc : Value} {od an : Option Addr} {osl : Array (Option Value)} {kV doc pm cdv ct : Value} (X : K.In h) (G : h.Ns mainGlobals mg)
    (a : PySem.W.nsIn K mainGlobals x = some (some (.ref f))) (l : K.lookup f = some ⟨oc, od, .func (PySem.W.fnOf x x (defArgs st) (defBody st) (defScope st) .none kV doc pm an cdv ct), osl⟩)
    (c : PySem.W.codeIn K cdv x = true) (k : PySem.W.keepIn K (.ref f) = true) : FD K mg x st := ⟨f, _, fun_mk l c k, PySem.W.mg_of X G a⟩
theorem mkFM {C : Addr} {m qual : Str} {st : Stmt} {f : Addr} {oc : Value} {od an : Option Addr} {osl : Array (Option Value)} {kV doc pm cdv ct : Value}
    (a : PySem.W.findIn K (.ref C) m = some (some (.ref f))) (i : PySem.W.isFn K (.ref f) = true) (l : K.lookup f = some ⟨oc, od, .func (PySem.W.fnOf m qual (defArgs st) (defBody st) (defScope st) .none kV doc pm an cdv ct), osl⟩)
    (c : PySem.W.codeIn K cdv qual = true) (k : PySem.W.keepIn K (.ref f) = true) : FMt K C m qual st := ⟨f, _, fun_mk l c k, a, i, k⟩
theorem mkFP {C p : Addr} {m qual : Str} {st : Stmt} {f : Addr} {rest : List Value} {oc : Value} {od an : Option Addr} {osl : Array (Option Value)} {kV doc pm cdv ct : Value}
    (a : PySem.W.findIn K (.ref C) m = some (some (.ref p))) (g : PySem.W.specialIn K (.ref p) "__get__" = some (some (.builtin "property.__get__"))) (t : PySem.W.takesIn K (.ref p) = some true) (r : PySem.W.recIn K p "property" = some (.ref f :: rest))
    (l : K.lookup f = some ⟨oc, od, .func (PySem.W.fnOf m qual (defArgs st) (defBody st) (defScope st) .none kV doc pm an cdv ct), osl⟩)
    (c : PySem.W.codeIn K cdv qual = true) (k : PySem.W.keepIn K (.ref f) = true) : FPr K C m qual st := ⟨p, f, _, fun_mk l c k, a, g, t, rest, r⟩
theorem mkFC {x : Str} {C : Addr} {qual : Str} {st : Stmt} {f : Addr} {oc : Value} {od an : Option Addr} {osl : Array (Option Value)} {kV doc pm cdv ct : Value} (X : K.In h) (G : h.Ns mainGlobals mg)
    (x1 : PySem.W.nsIn K mainGlobals x = some (some (.ref C))) (m : PySem.W.makesIn K C = true) (a : PySem.W.findIn K (.ref C) "__init__" = some (some (.ref f))) (i : PySem.W.isFn K (.ref f) = true) (kc : PySem.W.keepIn K (.ref C) = true)
    (l : K.lookup f = some ⟨oc, od, .func (PySem.W.fnOf "__init__" qual (defArgs st) (defBody st) (defScope st) .none kV doc pm an cdv ct), osl⟩)
    (c : PySem.W.codeIn K cdv qual = true) (k : PySem.W.keepIn K (.ref f) = true) : FCl K mg x C qual st := ⟨f, _, fun_mk l c k, ⟨m, a, i, kc⟩, PySem.W.mg_of X G x1⟩
theorem mkCon {x : Str} {i : Int} {t : Tok} (X : K.In h) (G : h.Ns mainGlobals mg) (a : PySem.W.nsIn K mainGlobals x = some (some (.int i t))) : ∃ u, mg x = some u ∧ RelV (.int i) u := ⟨_, PySem.W.mg_of X G a, t, rfl⟩
theorem mkRef {x : Str} {f : Addr} (X : K.In h) (G : h.Ns mainGlobals mg) (a : PySem.W.nsIn K mainGlobals x = some (some (.ref f))) : ∃ f, mg x = some (.ref f) := ⟨f, PySem.W.mg_of X G a⟩
theorem mkSup {C O : Addr} {f f2 cda cc : Addr} {oc : Value} {od an : Option Addr} {osl : Array (Option Value)} {kV doc pm ct : Value} {oc2 : Value} {od2 an2 : Option Addr} {osl2 : Array (Option Value)} {kV2 doc2 pm2 cdv2 ct2 : Value} {ccl cl : Value} {cdd cld : Option Addr} {vs : Array Value} {ccs csl : Array (Option Value)} {file : Str} {tf : Tok} {cd : ClassData}
    (X : K.In h) (G : h.Ns mainGlobals mg) (x1 : PySem.W.nsIn K mainGlobals "Grown" = some (some (.ref C))) (m : PySem.W.makesIn K C = true) (a : PySem.W.findIn K (.ref C) "__init__" = some (some (.ref f))) (i : PySem.W.isFn K (.ref f) = true) (kc : PySem.W.keepIn K (.ref C) = true)
    (l : K.lookup f = some ⟨oc, od, .func (PySem.W.fnX "__init__" "Grown.__init__" (defArgs s_Grown_init) (defBody s_Grown_init) (defScope s_Grown_init) [(("__class__" : Str), cc)] .none kV doc pm an (.ref cda) ct), osl⟩)
    (c : PySem.W.codeIn K (.ref cda) "Grown.__init__" = true) (co : K.lookup cda = some ⟨ccl, cdd, .fields vs, ccs⟩) (co2 : vs[2]? = some (.str file tf)) (co3 : ((P.main.file : Str) == file) = true) (ce : K.lookup cc = some ⟨cl, cld, .cell (some (.ref C)), csl⟩)
    (mr : PySem.W.mroIn K C (.ref C) = some true) (cls : PySem.W.clsIn K C = some cd) (ns : PySem.W.nsIn K mainGlobals "super" = some none) (st : PySem.W.nsIn K cStatics "thirdparty.any" = some none) (su : PySem.W.ks_superIn K C C "__init__" = some (some (.ref f2)))
    (ty2 : PySem.W.typeIn K (.ref f2) = some (.type "function")) (fn2 : PySem.W.fnIn K f2 = true) (kp : PySem.W.keepIn K (.ref f) = true)
    (l2 : K.lookup f2 = some ⟨oc2, od2, .func (PySem.W.fnOf "__init__" "Outline.__init__" (defArgs s_Outline_init) (defBody s_Outline_init) (defScope s_Outline_init) .none kV2 doc2 pm2 an2 cdv2 ct2), osl2⟩)
    (c2 : PySem.W.codeIn K cdv2 "Outline.__init__" = true) (k2 : PySem.W.keepIn K (.ref f2) = true) :
    ∃ f f2 fd2 cda cc fd, Sup P K mg "Grown.__init__" s_Grown_init f C f2 cda cc fd ∧ Fun K "__init__" "Outline.__init__" s_Outline_init f2 fd2 ∧ Mk K C f ∧ mg "Grown" = some (.ref C) :=
  ⟨f, f2, _, cda, cc, _, ⟨⟨oc, od, kV, doc, pm, an, ct, osl, rfl, l⟩, c, ⟨ccl, cdd, vs, ccs, file, tf, co, co2, co3⟩, ⟨cl, cld, csl, ce⟩, mr, ⟨cd, cls⟩, PySem.W.mg_none_of X G ns, st, su, ty2, fn2, kp⟩, fun_mk l2 c2 k2, ⟨m, a, i, kc⟩, PySem.W.mg_of X G x1⟩
theorem fin {l : PySem.W.OpenLaw} {w : World} {CF CG CI fa : Addr} (hfa : mg "law" = some (.ref fa)) (T : Txt l.prog K mg CF CG CI) :
    ∃ fd : FuncData, (∀ (s : Shared) (v : Value), BindsTo s fd ⟨[v], []⟩ [("_law_script", v)]) ∧ ∀ base : Heap, K.In base → base.Ns mainGlobals mg → FnG l.prog w K mg base CX0 14 fa fd ["_law_script"] (sp_law (K := K)) := by
  obtain ⟨f, fd, hm, hb, hF⟩ := law_fn (w := w) T
  have e := hfa.symm.trans hm
  cases e
  exact ⟨fd, hb, fun base _ _ => hF base⟩
end
theorem walk {l : PySem.W.OpenLaw} {q : Program} {loose : List Str} {XP : (Str → Option Value) → Heap → Prop} {YP : World → Heap → Prop} {d : DefRec} {K : Params → PySem.W.Frag} (hn : l.most = some 63) (hdf : d.params.defaults = [])
    (hY : ∀ (w : World) (h : Heap), YP w h → (K w.params).In h)
    (F : ∀ (w : World) (mg : Str → Option Value) (fa : Addr) (h : Heap), (K w.params).In h → h.Ns mainGlobals mg → mg d.name = some (.ref fa) →
      ∃ fd : FuncData, (∀ (s : Shared) (u : Value), BindsTo s fd ⟨[u], []⟩ [("_law_script", u)]) ∧ ∀ base : Heap, (K w.params).In base → base.Ns mainGlobals mg → FnG l.prog w (K w.params) mg base CX0 14 fa fd ["_law_script"] (sp_law (K := K w.params))) :
    PySem.W.WalkO q loose XP YP l.row.toRowW d [] (fun f vs => PySem.call f vs) :=
  walk_ofG (n := 63) (k := 14) (x := "_law_script") (sp := fun K => sp_law (K := K)) hn (by decide) hdf ⟨rfl, by decide, by decide⟩ rfl hY F (fun _ _ a ns hl _ hS => ⟨a, ns, rfl, hS, hl, fun _ => rfl⟩)
end Gf
end
section
open PySem PySem.W PyProof.Rows
set_option maxRecDepth 100000 in
set_option maxHeartbeats 0 in
open_top hd for PySem.Challenge.rw_growfences_k81_whole_full_farms
set_option maxRecDepth 100000 in
set_option maxHeartbeats 0 in
theorem PySem.Challenge.cw_growfences_k81_whole_full_farms_holds : PySem.Challenge.rw_growfences_k81_whole_full_farms.Holds := by
  refine hd ?_
  k_fill
  refine Gf.walk (l := PySem.Challenge.rw_growfences_k81_whole_full_farms) rfl rfl (fun w h Y => PySem.W.kIn_of Y) ?F
  case F =>
    intro w mg fa h KX G hmg
    refine' Gf.fin (l := PySem.Challenge.rw_growfences_k81_whole_full_farms) (CF := ?CF) (CG := ?CG) (CI := ?CI) hmg ⟨?f_is_integer, ?f_is_between, ?f_are_integers, ?f_common_divisor, ?f_is_place, ?f_are_corners, ?f_sides_of, ?f_are_sides, ?f_fence_fault, ?f_is_plain_name, ?f_require_fence, ?f_require_size, ?f_require_name, ?f_round_up, ?f_bezout, ?f_pairs_around, ?f_span_of, ?f_span_count, ?f_edges_of, ?f_count_of, ?f_own_fence, ?f_farm_total, ?f_law_stock, ?f_law_draw, ?f_law_bar, ?f_law_is_put, ?f_law_is_right, ?f_law_rows, ?f_law_bound_right, ?f_law_full_right, ?f_law_tried_right, ?f_law, ?m_Outline_is_corner_stake, ?m_Outline_side_span, ?m_Grown_closed_below, ?m_Grown_shut_below, ?m_Grown_below, ?m_LiveFarm_state_now, ?m_LiveFarm_keep_call, ?m_LiveFarm_fence_there, ?m_LiveFarm_put_fence, ?m_LiveFarm_take_fence, ?m_LiveFarm_set_size, ?m_LiveFarm_undo, ?m_LiveFarm_fork, ?m_LiveFarm_fence_named, ?m_LiveFarm_count_named, ?p_LiveFarm_size, ?p_LiveFarm_names, ?p_LiveFarm_total, ?p_LiveFarm_log, ?m_LiveFarm_len, ?k_LiveFarm, ?k_Grown, ?c_MOST_AROUND, ?c_MOST_FENCES, ?c_MOST_LETTERS, ?c_MOST_PARTS, ?c_MOST_PLACE, ?c_MOST_SIZE, ?g_low_height, ?z_isinstance, ?z_len, ?z_all, ?z_sum, ?z_abs, ?z_repr, ?z_sorted, ?z_max, ?z_min, ?z_int, ?z_list, ?z_str, ?z_bool, ?z_tuple, ?z_range, ?z_enumerate, ?z_zip, ?cF, ?cG, ?noSuper, ?n_own, ?n_bottom, ?n_corners, ?n_shut, ?n_pairs, ?n_lowest, ?n_highest, ?n_rights, ?n_lefts, ?n_whole, ?n_spans, ?g_Impossible, ?x_I, ?k_I, ?b_I, ?t_I, ?i_I, ?s_I⟩
    (case k_LiveFarm => refine' Gf.mkFC KX G ?x1 ?m ?a ?i ?kc ?l ?c ?k; (case x1 => k_is); (case m => k_is); (case a => k_is); (case i => k_is); (case kc => k_is); (case l => k_is); (case c => k_is); (case k => k_is))
    (case k_Grown => refine' Gf.mkSup (O := 0) KX G ?x1 ?m ?a ?i ?kc ?l ?c ?co ?co2 ?co3 ?ce ?mr ?cls ?ns ?st ?su ?ty2 ?fn2 ?kp ?l2 ?c2 ?k2; (case x1 => k_is); (case m => k_is); (case a => k_is); (case i => k_is); (case kc => k_is); (case l => k_is); (case c => k_is); (case co => k_is); (case co2 => rfl); (case co3 => kernel_rfl); (case ce => k_is); (case mr => k_is); (case cls => k_is); (case ns => k_is); (case st => k_is); (case su => ks_is); (case ty2 => k_is); (case fn2 => k_is); (case kp => k_is); (case l2 => k_is); (case c2 => k_is); (case k2 => k_is))
    (case g_Impossible => refine' PySem.W.mg_of KX G ?a; (case a => k_is))
    (case f_is_integer => refine' Gf.mkFD KX G ?a ?l ?c ?k; (case a => k_is); (case l => k_is); (case c => k_is); (case k => k_is))
    (case f_is_between => refine' Gf.mkFD KX G ?a ?l ?c ?k; (case a => k_is); (case l => k_is); (case c => k_is); (case k => k_is))
    (case f_are_integers => refine' Gf.mkFD KX G ?a ?l ?c ?k; (case a => k_is); (case l => k_is); (case c => k_is); (case k => k_is))
    (case f_common_divisor => refine' Gf.mkFD KX G ?a ?l ?c ?k; (case a => k_is); (case l => k_is); (case c => k_is); (case k => k_is))
    (case f_is_place => refine' Gf.mkFD KX G ?a ?l ?c ?k; (case a => k_is); (case l => k_is); (case c => k_is); (case k => k_is))
    (case f_are_corners => refine' Gf.mkFD KX G ?a ?l ?c ?k; (case a => k_is); (case l => k_is); (case c => k_is); (case k => k_is))
    (case f_sides_of => refine' Gf.mkFD KX G ?a ?l ?c ?k; (case a => k_is); (case l => k_is); (case c => k_is); (case k => k_is))
    (case f_are_sides => refine' Gf.mkFD KX G ?a ?l ?c ?k; (case a => k_is); (case l => k_is); (case c => k_is); (case k => k_is))
    (case f_fence_fault => refine' Gf.mkFD KX G ?a ?l ?c ?k; (case a => k_is); (case l => k_is); (case c => k_is); (case k => k_is))
    (case f_is_plain_name => refine' Gf.mkFD KX G ?a ?l ?c ?k; (case a => k_is); (case l => k_is); (case c => k_is); (case k => k_is))
    (case f_require_fence => refine' Gf.mkFD KX G ?a ?l ?c ?k; (case a => k_is); (case l => k_is); (case c => k_is); (case k => k_is))
    (case f_require_size => refine' Gf.mkFD KX G ?a ?l ?c ?k; (case a => k_is); (case l => k_is); (case c => k_is); (case k => k_is))
    (case f_require_name => refine' Gf.mkFD KX G ?a ?l ?c ?k; (case a => k_is); (case l => k_is); (case c => k_is); (case k => k_is))
    (case f_round_up => refine' Gf.mkFD KX G ?a ?l ?c ?k; (case a => k_is); (case l => k_is); (case c => k_is); (case k => k_is))
    (case f_bezout => refine' Gf.mkFD KX G ?a ?l ?c ?k; (case a => k_is); (case l => k_is); (case c => k_is); (case k => k_is))
    (case f_pairs_around => refine' Gf.mkFD KX G ?a ?l ?c ?k; (case a => k_is); (case l => k_is); (case c => k_is); (case k => k_is))
    (case f_span_of => refine' Gf.mkFD KX G ?a ?l ?c ?k; (case a => k_is); (case l => k_is); (case c => k_is); (case k => k_is))
    (case f_span_count => refine' Gf.mkFD KX G ?a ?l ?c ?k; (case a => k_is); (case l => k_is); (case c => k_is); (case k => k_is))
    (case f_edges_of => refine' Gf.mkFD KX G ?a ?l ?c ?k; (case a => k_is); (case l => k_is); (case c => k_is); (case k => k_is))
    (case f_count_of => refine' Gf.mkFD KX G ?a ?l ?c ?k; (case a => k_is); (case l => k_is); (case c => k_is); (case k => k_is))
    (case f_own_fence => refine' Gf.mkFD KX G ?a ?l ?c ?k; (case a => k_is); (case l => k_is); (case c => k_is); (case k => k_is))
    (case f_farm_total => refine' Gf.mkFD KX G ?a ?l ?c ?k; (case a => k_is); (case l => k_is); (case c => k_is); (case k => k_is))
    (case f_law_stock => refine' Gf.mkFD KX G ?a ?l ?c ?k; (case a => k_is); (case l => k_is); (case c => k_is); (case k => k_is))
    (case f_law_draw => refine' Gf.mkFD KX G ?a ?l ?c ?k; (case a => k_is); (case l => k_is); (case c => k_is); (case k => k_is))
    (case f_law_bar => refine' Gf.mkFD KX G ?a ?l ?c ?k; (case a => k_is); (case l => k_is); (case c => k_is); (case k => k_is))
    (case f_law_is_put => refine' Gf.mkFD KX G ?a ?l ?c ?k; (case a => k_is); (case l => k_is); (case c => k_is); (case k => k_is))
    (case f_law_is_right => refine' Gf.mkFD KX G ?a ?l ?c ?k; (case a => k_is); (case l => k_is); (case c => k_is); (case k => k_is))
    (case f_law_rows => refine' Gf.mkFD KX G ?a ?l ?c ?k; (case a => k_is); (case l => k_is); (case c => k_is); (case k => k_is))
    (case f_law_bound_right => refine' Gf.mkFD KX G ?a ?l ?c ?k; (case a => k_is); (case l => k_is); (case c => k_is); (case k => k_is))
    (case f_law_full_right => refine' Gf.mkFD KX G ?a ?l ?c ?k; (case a => k_is); (case l => k_is); (case c => k_is); (case k => k_is))
    (case f_law_tried_right => refine' Gf.mkFD KX G ?a ?l ?c ?k; (case a => k_is); (case l => k_is); (case c => k_is); (case k => k_is))
    (case f_law => refine' Gf.mkFD KX G ?a ?l ?c ?k; (case a => k_is); (case l => k_is); (case c => k_is); (case k => k_is))
    (case m_Outline_is_corner_stake => refine' Gf.mkFM ?a ?i ?l ?c ?k; (case a => k_is); (case i => k_is); (case l => k_is); (case c => k_is); (case k => k_is))
    (case m_Outline_side_span => refine' Gf.mkFM ?a ?i ?l ?c ?k; (case a => k_is); (case i => k_is); (case l => k_is); (case c => k_is); (case k => k_is))
    (case m_Grown_closed_below => refine' Gf.mkFM ?a ?i ?l ?c ?k; (case a => k_is); (case i => k_is); (case l => k_is); (case c => k_is); (case k => k_is))
    (case m_Grown_shut_below => refine' Gf.mkFM ?a ?i ?l ?c ?k; (case a => k_is); (case i => k_is); (case l => k_is); (case c => k_is); (case k => k_is))
    (case m_Grown_below => refine' Gf.mkFM ?a ?i ?l ?c ?k; (case a => k_is); (case i => k_is); (case l => k_is); (case c => k_is); (case k => k_is))
    (case m_LiveFarm_state_now => refine' Gf.mkFM ?a ?i ?l ?c ?k; (case a => k_is); (case i => k_is); (case l => k_is); (case c => k_is); (case k => k_is))
    (case m_LiveFarm_keep_call => refine' Gf.mkFM ?a ?i ?l ?c ?k; (case a => k_is); (case i => k_is); (case l => k_is); (case c => k_is); (case k => k_is))
    (case m_LiveFarm_fence_there => refine' Gf.mkFM ?a ?i ?l ?c ?k; (case a => k_is); (case i => k_is); (case l => k_is); (case c => k_is); (case k => k_is))
    (case m_LiveFarm_put_fence => refine' Gf.mkFM ?a ?i ?l ?c ?k; (case a => k_is); (case i => k_is); (case l => k_is); (case c => k_is); (case k => k_is))
    (case m_LiveFarm_take_fence => refine' Gf.mkFM ?a ?i ?l ?c ?k; (case a => k_is); (case i => k_is); (case l => k_is); (case c => k_is); (case k => k_is))
    (case m_LiveFarm_set_size => refine' Gf.mkFM ?a ?i ?l ?c ?k; (case a => k_is); (case i => k_is); (case l => k_is); (case c => k_is); (case k => k_is))
    (case m_LiveFarm_undo => refine' Gf.mkFM ?a ?i ?l ?c ?k; (case a => k_is); (case i => k_is); (case l => k_is); (case c => k_is); (case k => k_is))
    (case m_LiveFarm_fork => refine' Gf.mkFM ?a ?i ?l ?c ?k; (case a => k_is); (case i => k_is); (case l => k_is); (case c => k_is); (case k => k_is))
    (case m_LiveFarm_fence_named => refine' Gf.mkFM ?a ?i ?l ?c ?k; (case a => k_is); (case i => k_is); (case l => k_is); (case c => k_is); (case k => k_is))
    (case m_LiveFarm_count_named => refine' Gf.mkFM ?a ?i ?l ?c ?k; (case a => k_is); (case i => k_is); (case l => k_is); (case c => k_is); (case k => k_is))
    (case p_LiveFarm_size => refine' Gf.mkFP ?a ?g ?t ?r ?l ?c ?k; (case a => k_is); (case g => k_is); (case t => k_is); (case r => k_is); (case l => k_is); (case c => k_is); (case k => k_is))
    (case p_LiveFarm_names => refine' Gf.mkFP ?a ?g ?t ?r ?l ?c ?k; (case a => k_is); (case g => k_is); (case t => k_is); (case r => k_is); (case l => k_is); (case c => k_is); (case k => k_is))
    (case p_LiveFarm_total => refine' Gf.mkFP ?a ?g ?t ?r ?l ?c ?k; (case a => k_is); (case g => k_is); (case t => k_is); (case r => k_is); (case l => k_is); (case c => k_is); (case k => k_is))
    (case p_LiveFarm_log => refine' Gf.mkFP ?a ?g ?t ?r ?l ?c ?k; (case a => k_is); (case g => k_is); (case t => k_is); (case r => k_is); (case l => k_is); (case c => k_is); (case k => k_is))
    (case m_LiveFarm_len => refine' Gf.mkFM ?a ?i ?l ?c ?k; (case a => k_is); (case i => k_is); (case l => k_is); (case c => k_is); (case k => k_is))
    (case c_MOST_AROUND => refine' Gf.mkCon KX G ?a; (case a => k_is))
    (case c_MOST_FENCES => refine' Gf.mkCon KX G ?a; (case a => k_is))
    (case c_MOST_LETTERS => refine' Gf.mkCon KX G ?a; (case a => k_is))
    (case c_MOST_PARTS => refine' Gf.mkCon KX G ?a; (case a => k_is))
    (case c_MOST_PLACE => refine' Gf.mkCon KX G ?a; (case a => k_is))
    (case c_MOST_SIZE => refine' Gf.mkCon KX G ?a; (case a => k_is))
    (case g_low_height => refine' Gf.mkRef KX G ?a; (case a => k_is))
    (case z_isinstance => refine' PySem.W.mg_none_of KX G ?a; (case a => k_is))
    (case z_len => refine' PySem.W.mg_none_of KX G ?a; (case a => k_is))
    (case z_all => refine' PySem.W.mg_none_of KX G ?a; (case a => k_is))
    (case z_sum => refine' PySem.W.mg_none_of KX G ?a; (case a => k_is))
    (case z_abs => refine' PySem.W.mg_none_of KX G ?a; (case a => k_is))
    (case z_repr => refine' PySem.W.mg_none_of KX G ?a; (case a => k_is))
    (case z_sorted => refine' PySem.W.mg_none_of KX G ?a; (case a => k_is))
    (case z_max => refine' PySem.W.mg_none_of KX G ?a; (case a => k_is))
    (case z_min => refine' PySem.W.mg_none_of KX G ?a; (case a => k_is))
    (case z_int => refine' PySem.W.mg_none_of KX G ?a; (case a => k_is))
    (case z_list => refine' PySem.W.mg_none_of KX G ?a; (case a => k_is))
    (case z_str => refine' PySem.W.mg_none_of KX G ?a; (case a => k_is))
    (case z_bool => refine' PySem.W.mg_none_of KX G ?a; (case a => k_is))
    (case z_tuple => refine' PySem.W.mg_none_of KX G ?a; (case a => k_is))
    (case z_range => refine' PySem.W.mg_none_of KX G ?a; (case a => k_is))
    (case z_enumerate => refine' PySem.W.mg_none_of KX G ?a; (case a => k_is))
    (case z_zip => refine' PySem.W.mg_none_of KX G ?a; (case a => k_is))
    (case cF => refine' L2.Cls.mk ?pg ?hd ?po ?sa; (case pg => k_is); (case hd => k_is); (case po => k_is); (case sa => k_is))
    (case cG => refine' L2.Cls.mk ?pg ?hd ?po ?sa; (case pg => k_is); (case hd => k_is); (case po => k_is); (case sa => k_is))
    (case noSuper => kernel_rfl)
    (case n_own => (show PySem.W.findIn _ _ _ = some none); k_is)
    (case n_bottom => (show PySem.W.findIn _ _ _ = some none); k_is)
    (case n_corners => (show PySem.W.findIn _ _ _ = some none); k_is)
    (case n_shut => (show PySem.W.findIn _ _ _ = some none); k_is)
    (case n_pairs => (show PySem.W.findIn _ _ _ = some none); k_is)
    (case n_lowest => (show PySem.W.findIn _ _ _ = some none); k_is)
    (case n_highest => (show PySem.W.findIn _ _ _ = some none); k_is)
    (case n_rights => (show PySem.W.findIn _ _ _ = some none); k_is)
    (case n_lefts => (show PySem.W.findIn _ _ _ = some none); k_is)
    (case n_whole => (show PySem.W.findIn _ _ _ = some none); k_is)
    (case n_spans => (show PySem.W.findIn _ _ _ = some none); k_is)
    (case x_I => k_exc)
    (case k_I => k_is)
    (case b_I => k_is)
    (case t_I => k_is)
    (case i_I => k_is)
    (case s_I => k_is)
end
