import PyProof.Rows.All
import Wide.All
import OpenK.AllK
import Wide.FinOn
import HandS.ForMost
import HandS.Zip
import HandS.Deep
import HandS.Style
import HandS.IsInst
import HandS.Evl
import HandS.SortRule
import HandS.Walk
import HandS.More
import HandS.Defaults
import HandS.WordsDict
import HandS.OwnEq
import HandS.Property
import HandS.ClsMeth
import HandS.Gcd
import HandS.FStr
import HandS.MakeKw
import HandS.RaiseMore
import KE.KOpsOwn
import KE.KCallOwn
import KE.KFmtOwn
import HandS.Wide
import HandS.Codes
import PySem.Challenge.RW_shrunkrooms_k73_any_values_as_rooks_and
import PyProof.Rows.StrDigitsNeg
import PyProof.Rows.StrJoinMade
import HandS.MakeKwOnly
import PyProof.ReprDict
import HandS.Conv
import HandS.Ends
set_option Elab.async false
set_option maxRecDepth 100000
set_option maxHeartbeats 4000000
namespace B71
/-! ### lowest terms -/
def gI (a b : Int) : Int := if b < 0 then 0 - ((Nat.gcd a.natAbs b.natAbs : Nat) : Int) else ((Nat.gcd a.natAbs b.natAbs : Nat) : Int)
def low (a b : Int) : Int × Int := (a.fdiv (gI a b), b.fdiv (gI a b))
theorem gcd_pos {a b : Int} (h : b ≠ 0) : 0 < Nat.gcd a.natAbs b.natAbs := Nat.gcd_pos_of_pos_right _ (Int.natAbs_pos.mpr h)
theorem gI_ne {a b : Int} (h : b ≠ 0) : gI a b ≠ 0 := by
  have := gcd_pos (a := a) h
  unfold gI
  split <;> omega
theorem gI_abs (a b : Int) : (gI a b).natAbs = Nat.gcd a.natAbs b.natAbs := by
  unfold gI
  split <;> omega
theorem gI_le {a b : Int} (h : b ≠ 0) : (gI a b).natAbs ≤ b.natAbs := by
  rw [gI_abs]
  exact Nat.le_of_dvd (Int.natAbs_pos.mpr h) (Nat.gcd_dvd_right _ _)
theorem log_mono {a b : Nat} (h : a ≤ b) : a.log2 ≤ b.log2 := by
  by_cases h0 : a = 0
  · subst h0; simp
  · exact (Nat.le_log2 (by omega)).mpr (Nat.le_trans (Nat.log2_self_le h0) h)
theorem gI_dvd_l (a b : Int) : gI a b ∣ a := by
  rw [← Int.natAbs_dvd_natAbs, gI_abs]; exact Nat.gcd_dvd_left _ _
theorem gI_dvd_r (a b : Int) : gI a b ∣ b := by
  rw [← Int.natAbs_dvd_natAbs, gI_abs]; exact Nat.gcd_dvd_right _ _
theorem fdiv_abs {a g : Int} (h : g ∣ a) (g0 : g ≠ 0) : (a.fdiv g).natAbs ≤ a.natAbs := by
  obtain ⟨c, rfl⟩ := h
  rw [Int.mul_fdiv_cancel_left _ g0, Int.natAbs_mul]
  exact Nat.le_mul_of_pos_left _ (Int.natAbs_pos.mpr g0)
theorem low_top {a b : Int} (h : b ≠ 0) : (low a b).1.natAbs ≤ a.natAbs := fdiv_abs (gI_dvd_l a b) (gI_ne h)
theorem low_bot {a b : Int} (h : b ≠ 0) : (low a b).2.natAbs ≤ b.natAbs := fdiv_abs (gI_dvd_r a b) (gI_ne h)
theorem low_pos {a b : Int} (h : b ≠ 0) : 0 < (low a b).2 := by
  obtain ⟨c, hc⟩ := gI_dvd_r a b
  have g0 := gI_ne (a := a) h
  have e : (low a b).2 = c := by
    show b.fdiv (gI a b) = c
    have key : ∀ g : Int, g ≠ 0 → b = g * c → b.fdiv g = c := fun g h0 hb => by rw [hb, Int.mul_fdiv_cancel_left _ h0]
    exact key _ g0 hc
  rw [e]
  have gp := gcd_pos (a := a) h
  have hs : (b < 0 ∧ gI a b < 0) ∨ (0 < b ∧ 0 < gI a b) := by
    unfold gI
    split
    · left; omega
    · right; omega
  rcases hs with ⟨h1, h2⟩ | ⟨h1, h2⟩
  · refine Int.lt_of_not_ge fun q => ?_
    have := Int.mul_nonneg_of_nonpos_of_nonpos (Int.le_of_lt h2) q
    omega
  · refine Int.lt_of_not_ge fun q => ?_
    have := Int.mul_nonpos_of_nonneg_of_nonpos (Int.le_of_lt h2) q
    omega
/-- numbers of less than n bits -/
def Bt (n : Nat) (x : Int) : Prop := x.natAbs < 2 ^ n
theorem Bt.mono {n m : Nat} {x : Int} (h : Bt n x) (k : n ≤ m) : Bt m x := Nat.lt_of_lt_of_le h (Nat.pow_le_pow_right (by decide) k)
theorem Bt.mul {n m : Nat} {x y : Int} (h : Bt n x) (k : Bt m y) : Bt (n + m) (x * y) := by
  unfold Bt at *
  rw [Int.natAbs_mul, Nat.pow_add]
  exact Nat.mul_lt_mul'' h k
theorem Bt.add {n : Nat} {x y : Int} (h : Bt n x) (k : Bt n y) : Bt (n + 1) (x + y) := by
  unfold Bt at *
  rw [Nat.pow_succ]
  have := Int.natAbs_add_le x y
  omega
theorem Bt.sub {n : Nat} {x y : Int} (h : Bt n x) (k : Bt n y) : Bt (n + 1) (x - y) := by
  unfold Bt at *
  rw [Nat.pow_succ]
  have := Int.natAbs_sub_le x y
  omega
theorem Bt.le {n : Nat} {x y : Int} (h : Bt n x) (k : y.natAbs ≤ x.natAbs) : Bt n y := Nat.lt_of_le_of_lt k h
theorem Bt.log {n : Nat} {x : Int} (h : Bt n x) (h0 : 0 < n) : x.natAbs.log2 < n := by
  by_cases z : x.natAbs = 0
  · rw [z]; simpa using h0
  · exact (Nat.log2_lt z).mpr h
theorem low_bt {n m : Nat} {a b : Int} (ha : Bt n a) (hb : Bt m b) (h : b ≠ 0) : Bt n (low a b).1 ∧ Bt m (low a b).2 := ⟨ha.le (low_top h), hb.le (low_bot h)⟩
end B71

/-! ### promises where nothing is being shown (guards: none) -/
namespace B71
open PySem PySem.Spec PyProof.Rows L2
/-- a promise that is kept wherever no repr is under way -/
structure FnG (P : Program) (w : World) (K : PySem.W.Frag) (mg : Str → Option Value) (base : Heap) (k : Nat) (f : Addr) (fd : FuncData) (ps : List Str) (sp : Sp) : Prop where
  many : ∀ vs H Q E, sp vs H Q E → vs.length = ps.length
  go : ∀ (A : Around) (outer : List Env) (s : Shared) (H : Hp) (args : Args) (us : List Value) (vs : List V) (Q : VK), A.guards = some [] → Room k A →
    Env0 P w K mg base A outer s H → BindsTo s fd args (ps.zip us) → Vals vs us → sp vs H Q E0 → codeAny (model P w) A (.call (.ref f) args) (CR CX0 outer P w H s Q E0) s
section
variable {P : Program} {w : World} {K : PySem.W.Frag} {mg : Str → Option Value} {base : Heap}
theorem FnG.of {k : Nat} {f : Addr} {fd : FuncData} {ps : List Str} {sp : Sp} (F : FnOk P w K mg base CX0 k f fd ps sp) : FnG P w K mg base k f fd ps sp :=
  ⟨F.len, fun A outer s H args us vs Q _ => F.run A outer s H args us vs Q E0⟩
theorem FnG.up {j k : Nat} {f : Addr} {fd : FuncData} {ps : List Str} {sp : Sp} (F : FnG P w K mg base j f fd ps sp) (h : j ≤ k) : FnG P w K mg base k f fd ps sp :=
  ⟨F.many, fun A outer s H args us vs Q g hr => F.go A outer s H args us vs Q g (hr.mono h)⟩
theorem deeper_guards {A : Around} {env : Env} (h : A.guards = some []) : (A.deeper env).guards = some [] := by
  first
    | exact h
    | (unfold Around.deeper; exact h)
    | (simp [Around.deeper, h])
/-- .. by the body -/
theorem okG {x qual : Str} {st : Stmt} {f : Addr} {fd : FuncData} {N ps : List Str} {k : Nat} {sp : Sp} (F : Fun K x qual st f fd) (S : FnScope N ps (defScope st)) (many : ∀ vs H Q E, sp vs H Q E → vs.length = ps.length)
    (walk : ∀ (cdv : Value) (A : Around) (outer : List Env) (s : Shared) (H : Hp) (vs : List V) (Q : VK), A.guards = some [] → Room k (A.deeper (envOfC qual (defScope st) s.heap.objs.size f cdv)) → sp vs H Q E0 →
      ∃ t, PSs (cxOf CX0 P w K mg base N qual (defScope st) f cdv A outer s H E0).nox (defBody st) t ∧ t { nx := fun _ H' => Q .non H', rt := Q } (start N vs) H) : FnG P w K mg base (k + 1) f fd ps sp := by
  obtain ⟨oc, od, kV, doc, pm, an, cdv, ct, osl, rfl, lk, hcd⟩ := F.ex
  refine ⟨many, fun A outer s H args us vs Q g hr e0 hb r hsp => ?_⟩
  have back := fun b o e => (e0.bs b o e).1
  have KX := e0.mod.kin.keeps back
  have kinds : ∀ y ∈ ps.zip us, (defScope st).names.lookup y.1 = some .local ∨ ((defScope st).names.lookup y.1 = some .cell ∧ ((cellsFrom (s.heap.objs.size + 1) (defScope st).names []).lookup y.1).isSome = true) := by
    rintro ⟨n, v⟩ hy
    exact (S.par n (List.of_mem_zip hy).1).imp id fun q => ⟨q, PySem.W.cellsFrom_some _ _ _ (.inl q)⟩
  refine codeAny_call_function hr.depth (KX _ _ lk) rfl S.co S.gen rfl (PySem.W.codeRec_of KX hcd) (hb _ _ _ _ (wpAny_newFunctionEnv_cells S.kind kinds fun env he s1 inC => ?_))
  subst he
  refine ⟨(e0.mod.nolimit.keeps back).keeps inC.toInCall.keep, codeAny_func ?_⟩
  obtain ⟨t, ht, hq⟩ := walk cdv A outer s H vs Q g (hr.deeper _) hsp
  have J0 := inv_start (CX := CX0) (E := E0) S hr.hd e0 (many _ _ _ _ hsp) r inC
  refine wpAny_mono (ht.nox.run [] s1 (start N vs) H _ J0 hq) (fun fl s' hs => ?_) fun e s' hs => hs
  cases fl with
  | ret u =>
    obtain ⟨v, σ', H', J, rv, q⟩ := hs
    exact ⟨v, H', J.os, J.bare, J.base, J.hok, rv, q⟩
  | next =>
    obtain ⟨σ', H', J, q⟩ := hs
    exact ⟨V.non, H', J.os, J.bare, J.base, J.hok, rfl, q⟩
  | brk => exact hs.elim fun _ z => z.elim fun _ y => y.2.elim
  | cont => exact hs.elim fun _ z => z.elim fun _ y => y.2.elim
end
section
variable {X : Cx} {k : Nat} {f : Addr} {fd : FuncData} {ps : List Str} {sp : Sp} {x : Str} {p pos : Pos} {e : Expr} {es : List Expr} {t : TA}
theorem runG {pins : List (Addr × Obj)} {σ : L2.St} {H : Hp} {s : Shared} {Q : VK} {args : Args} {ws : List Value} {zs : List V} (F : FnG X.prog X.w X.K X.mg X.base k f fd ps sp) (hg : X.A.guards = some []) (hr : Room k X.A)
    (hb : (ws.length = ps.length) → BindsTo s fd args (ps.zip ws)) (I : Inv X pins σ H s) (r : Vals zs ws) (h : sp zs H Q E0) : codeAny (model X.prog X.w) X.A (.call (.ref f) args) (fun r s' => match r with | .ok (.ret u) => EP X pins σ Q u s' | _ => False) s := by
  have hl : ws.length = ps.length := by rw [← r.length]; exact F.many _ _ _ _ h
  refine codeAny_mono (F.go X.A X.stack s H args ws zs Q hg hr I.env0 (hb hl) r h) fun r s' hq => ?_
  cases r with
  | error e => exact False.elim hq
  | ok fl =>
    cases fl with
    | ret u => exact I.after hq
    | next => exact False.elim hq
    | brk => exact False.elim hq
    | cont => exact False.elim hq
theorem pe_callG (F : FnG X.prog X.w X.K X.mg X.base k f fd ps sp) (hgd : X.A.guards = some []) (hr : Room k X.A) (hm : X.mg x = some (.ref f)) (hk : PySem.W.keepIn X.K (.ref f) = true) (hb : Binds X.K fd ps [])
    (ha : PA X (e :: es) t) (hg : Gl X x := by rfl) (hdb : (x == ("__debug__" : Str)) = false := by decide) (he : starEach (e :: es) X.env = (false, eval e X.env) :: starEach es X.env := by rfl)
    (hpl : (backTo pos (starEach es X.env)).any (·.1) = false := by rfl) : PE X (.Call (.Name x p) (e :: es) [] pos) (fun σ H Q => t σ H fun vs H1 => sp vs H1 Q E0) := by
  refine ⟨fun pins s σ H Q I h => wpAny_Call_Name_kw (ld_glob I hg hm ?_ hdb)⟩
  refine PySem.W.callWith_K (h₀ := X.base) I.ok.mod.kin hk (thn (ha.run pos pins s σ H _ I h) fun us s1 ⟨vs, H1, I1, r, q⟩ => ⟨I1.kIn, ?_⟩) he hpl
  refine wpAny_call (codeAny_mono (runG F hgd hr (fun hl => by have z := hb s1 us I1.kIn (by rw [List.append_nil]; exact hl); rw [List.append_nil] at z; exact z) I1 r q) fun r s' hq => ?_)
  cases r with
  | error e => exact hq.elim
  | ok fl =>
    cases fl with
    | ret u => exact hq
    | next => exact hq.elim
    | brk => exact hq.elim
    | cont => exact hq.elim
end
/-! ### repr of data -/
section
variable {X : Cx}
def rReprD (K : PySem.W.Frag) : List V → Hp → VK → Prop := fun xs H Q => ∃ (a : Addr) (d : PyData), xs = [.ref a] ∧ Dp K H (.ref a) d ∧ d.showable = true ∧ d.hasDict = false ∧ d.depth ≤ 60 ∧ d.shown.length ≤ sizeLine ∧ Q (.str d.shown) H
theorem call_reprD (hg : X.A.guards = some []) (hu : X.A.units + 64 < cLine) : CallR X (.builtin "repr") (rReprD X.K) := by
  intro pins s σ H xs us Q I r h
  obtain ⟨a, d, rfl, hd, h1, h2, h3, h4, q⟩ := h
  obtain rfl := Vals.ref1 r
  obtain ⟨as, rd⟩ := Dp.reads I d _ _ hd rfl
  exact repr_of_reads' rd h1 (fun z => by rw [h2] at z; cases z) hg (by omega) (fun _ _ e => e) (fun h' u tk hk => ⟨.str d.shown, H, I.kept (t' := tk) hk, ⟨_, rfl⟩, q⟩) h4
end
/-! ### x not in d.values(): by going through -/
theorem plain_scan : plainId "proto.contains_iter" = true := by decide +kernel
theorem entry_scan : entryFor table "proto.contains_iter" = some Builtin.«proto.contains_iter» := entryFor_of_fast (by kernel_rfl)
theorem no_in_values : typeLookup (.type "dict_values") "__contains__" = pure none := by rw [typeLookup_type, builtinLookup_eq_fast]; kernel_rfl
section
variable {P : Program} {w : World} {A : Around}
theorem scan_ints {it d : Addr} {ep : Nat} {kvs : List (Key × Value)} {i : Int} {t : Tok} {R : Result → Shared → Prop} (hh : A.handled = none) (hints : ∀ p ∈ kvs, ∃ n u, p.2 = Value.int n u) :
    ∀ (m j : Nat) (s : Shared), kvs.length - j = m → j ≤ kvs.length → s.heap.IsValIter it d j kvs.length ep → s.heap.DictAt (mixKind P w) d kvs ep →
    (∀ h', (∀ b o, b ≠ it → s.heap.get? b = some o → h'.get? b = some o) → R (.ok (.ret (.bool ((kvs.drop j).any fun p => match p.2 with | .int n _ => n == i | _ => false)))) { s with heap := h' }) →
    codeAny (model P w) A (.builtin "proto.contains_iter" ⟨[.ref it, .int i t], []⟩) R s := by
  intro m
  induction m with
  | zero =>
    intro j s hk hj hit hd hR
    have e : kvs[j]? = none := List.getElem?_eq_none (by omega)
    refine codeAny_builtin entry_scan ?_
    rw [Around.under_plainId plain_scan _]
    show wpAny _ A.in1 (pyNext (.ref it) >>= _) _ _ s
    refine wpAny_bind (wpAny_pyNext_values_end (knd := mixKind P w) (kvs := kvs) hh hit hd e fun h' hb => ?_)
    have q := hR h' (fun b o hne ho => hb b o hne ho)
    rw [List.drop_of_length_le (by omega)] at q
    exact wpAny_bind (wpAny_rule (wpAny_pure q))
  | succ m ih =>
    intro j s hk hj hit hd hR
    have hlt : j < kvs.length := by omega
    have hg : kvs[j]? = some kvs[j] := List.getElem?_eq_getElem hlt
    obtain ⟨n, u, hn⟩ := hints kvs[j] (List.getElem_mem hlt)
    have hdrop : kvs.drop j = kvs[j] :: kvs.drop (j + 1) := List.drop_eq_getElem_cons hlt
    have ne : d ≠ it := fun z => by
      obtain ⟨o, ho, hc, hdat⟩ := hit
      obtain ⟨od, es, hod, _, hdd, _⟩ := hd
      rw [z, ho] at hod
      cases hod
      rw [hdd] at hdat
      cases hdat
    refine codeAny_builtin entry_scan ?_
    rw [Around.under_plainId plain_scan _]
    show wpAny _ A.in1 (pyNext (.ref it) >>= _) _ _ s
    refine wpAny_bind (wpAny_pyNext_values_item (knd := mixKind P w) (k := kvs[j].1) (v := kvs[j].2) hit hd hg fun h' hit' hs => ?_)
    rw [hn]
    show wpAny _ A.in1 (eqBool (.int n u) (.int i t) >>= _) _ _ _
    refine wpAny_bind (wpAny_eqBool_int ?_)
    by_cases e : n = i
    · have e' : (n == i) = true := by simpa using e
      have q := hR h' (fun b o hne ho => (hs.2 b hne).trans ho)
      rw [hdrop, List.any_cons, hn] at q
      simp only [e', Bool.true_or] at q
      rw [if_pos e']
      exact wpAny_bind (wpAny_rule (wpAny_pure q))
    · have e' : (n == i) = false := by simpa using e
      rw [if_neg (by rw [e']; exact Bool.false_ne_true)]
      refine wpAny_pure ⟨plainId_quiet plain_scan _, ih (j + 1) _ (by omega) (by omega) hit' (hd.at fun o ho => (hs.2 d ne).trans ho) fun h2 k2 => ?_⟩
      have q := hR h2 (fun b o hne ho => k2 b o hne ((hs.2 b hne).trans ho))
      rw [hdrop, List.any_cons, hn] at q
      simpa only [e', Bool.false_or] using q
end
section
variable {X : Cx} {a e : Expr} {ta td : TE} {apos cpos pos : Pos}
def tNotVals (ta td : TE) : TT := fun σ H Q => ta σ H fun x H1 => td σ H1 fun y H2 => ∃ (i : Int) (d : Addr) (kvs : List (Key × V)) (is : List Int), x = .int i ∧ y = .ref d ∧ H2 d = some (.dK kvs) ∧ kvs.map (·.2) = is.map V.int ∧ Q (!decide (i ∈ is)) H2
/-- x not in d.values(), ints -/
theorem pt_notVals (hc : X.calm = true) (ha : PE X a ta) (he : PE X e td) (hm : attributeBase e "values" X.env (eval e X.env) = eval e X.env := by rfl) (hline : (apos.endLine == cpos.line) = true := by rfl) :
    PT X (.Compare a [.NotIn] [.Call (.Attribute e "values" apos) [] [] cpos] pos) (tNotVals ta td) := by
  refine ⟨fun pins s σ H Q I hw => ?_⟩
  refine wpAny_isTrue_Compare1 (thn (ha.run pins s σ H _ I hw) fun v s1 ⟨x, H1, I1, rx, q1⟩ => ?_) (by first | rfl | exact nobehind _ (by decide) (by decide))
  refine wpAny_Call_method (T := "dict") (id := "dict.values") hm rfl hline F.plainAttrs_dict F.slot_dict_values F.type_dict_values (thn (he.run pins s1 σ H1 _ I1 q1) fun u s2 ⟨y, H2, I2, ry, i, d, kvs, is, ex, ey, hd, hi, q⟩ => ?_)
  subst ex ey
  obtain rfl : u = Value.ref d := ry
  obtain ⟨t, rfl⟩ := rx
  obtain ⟨z, hsys, vs, kv, o, es, ep, ho, hx, hdt, r⟩ := I2.hok d _ hd
  have hat : s2.heap.DictAt (mixKind X.prog X.w) d vs ep := ⟨o, es, ho, hx, hdt, r⟩
  refine ⟨hat.dictOf.typeIs, hat.dictOf.mapOf.noDict, ?_⟩
  have I3 : Inv X pins σ H2 { s2 with heap := s2.heap.push { cls := .type "dict_values", data := .fields #[.ref d] } } := I2.kept (t' := s2.toks) fun b ob q => Heap.get?_push_of_some _ q
  have hints : ∀ p ∈ vs, ∃ n u, p.2 = Value.int n u := by
    have key : ∀ {ks : List (Key × V)} {ws : List (Key × Value)} {js : List Int}, KV ks ws → ks.map (·.2) = js.map V.int → ∀ p ∈ ws, ∃ n u, p.2 = Value.int n u := by
      intro ks ws js k
      induction k generalizing js with
      | nil => intro _ p hp; cases hp
      | cons h _ ih =>
        intro hj p hp
        cases js with
        | nil => cases hj
        | cons j js =>
          simp only [List.map_cons, List.cons.injEq] at hj
          rcases List.mem_cons.mp hp with rfl | hp
          · have := h.2
            rw [hj.1] at this
            obtain ⟨u, hu⟩ := this
            exact ⟨j, u, hu⟩
          · exact ih hj.2 p hp
    exact key kv hi
  have hany : (vs.any fun p => match p.2 with | .int n _ => n == i | _ => false) = decide (i ∈ is) := by
    have key : ∀ {ks : List (Key × V)} {ws : List (Key × Value)} {js : List Int}, KV ks ws → ks.map (·.2) = js.map V.int → (ws.any fun p => match p.2 with | .int n _ => n == i | _ => false) = decide (i ∈ js) := by
      intro ks ws js k
      induction k generalizing js with
      | nil =>
        intro hj
        cases js with
        | nil => rfl
        | cons j js => cases hj
      | cons h _ ih =>
        intro hj
        cases js with
        | nil => cases hj
        | cons j js =>
          simp only [List.map_cons, List.cons.injEq] at hj
          have hv := h.2
          rw [hj.1] at hv
          obtain ⟨u, hu⟩ := hv
          rw [List.any_cons, ih hj.2, hu]
          by_cases e : j = i
          · simp [e]
          · have : (j == i) = false := by simpa using e
            simp [this, Ne.symm e]
    exact key kv hi
  have fin : ∀ {E : Value → Shared → Prop}, wpAny (model X.prog X.w) X.A (compareOp .NotIn (.int i t) (.ref s2.heap.objs.size)) (fun c s3 => wpAny (model X.prog X.w) X.A (truthy c) (TP X pins σ Q) X.xe s3) X.xe { s2 with heap := s2.heap.push { cls := .type "dict_values", data := .fields #[.ref d] } } := by
    intro E
    have hview : (s2.heap.push { cls := .type "dict_values", data := .fields #[.ref d] }).IsValuesView s2.heap.objs.size d := ⟨_, Heap.get?_push_size _ rfl, rfl, rfl⟩
    show wpAny _ _ (contains (.ref s2.heap.objs.size) (.int i t) >>= _) _ _ _
    refine wpAny_bind ?_
    unfold contains
    refine wpAny_holding ?_
    refine wpAny_bind (wpAny_specialOf (s := { s2 with heap := _ }) hview.typeIs no_in_values ?_)
    show wpAny _ _ (callSpecialUnlessNone? _ _ _ _ >>= _) _ _ _
    refine wpAny_bind ?_
    unfold callSpecialUnlessNone?
    refine wpAny_bind (wpAny_specialOf (s := { s2 with heap := _ }) hview.typeIs no_in_values (wpAny_pure ?_))
    refine wpAny_bind (wpAny_rule (wpAny_bind (wpAny_tryCatch (wpAny_pyIter_values (knd := mixKind X.prog X.w) (s := { s2 with heap := _ }) hview (hat.push _) ?_))))
    have hsz : (s2.heap.push { cls := .type "dict_values", data := .fields #[.ref d] }).objs.size = s2.heap.objs.size + 1 := by simp [Heap.size_push]
    refine wpAny_bind (wpAny_runValue (scan_ints (I2.ok.hd hc) hints _ 0 _ rfl (Nat.zero_le _) ⟨_, Heap.get?_push_size _ rfl, rfl, rfl⟩ ((hat.push _).push _) fun h' hk => ?_))
    rw [List.drop_zero, hany]
    refine wpAny_pure (wpAny_pure (wpAny_truthy_bool ⟨H2, I2.kept (t' := s2.toks) fun b ob q => hk b ob (fun z => ?_) (Heap.get?_push_of_some _ (Heap.get?_push_of_some _ q)), q⟩))
    have l1 := Heap.lt_size q
    have l2 : b = s2.heap.objs.size + 1 := z.trans hsz
    rw [l2] at l1
    exact absurd l1 (by simp)
  show wpAny _ _ (callWith cpos (.builtin "dict.values") [.ref d] [] []) _ X.xe s2
  exact method_meetsIn F.slot_dict_values F.entry_dict_values rfl (PySem.evalArgs_none ⟨rfl, hat.dictOf.typeIs, F.args_dict_values_1 _, _, meets_dict_values (mixKind X.prog X.w) d hsys, ⟨vs, hat.dictOf⟩, fin (E := X.xe)⟩)
end
end B71

namespace B71
open PySem PySem.Spec PyProof.Rows L2 Evl RZ SrtO
/-- a name that stands for a def that keeps a promise -/
structure Cl (P : Program) (w : World) (K : PySem.W.Frag) (mg : Str → Option Value) (base : Heap) (x : Str) (k : Nat) (ps : List Str) (sp : Sp) : Prop where
  ex : ∃ (f : Addr) (fd : FuncData), FnG P w K mg base k f fd ps sp ∧ Binds K fd ps [] ∧ PySem.W.keepIn K (.ref f) = true ∧ mg x = some (.ref f)
def tCl (sp : Sp) (t : TA) : TE := fun σ H Q => t σ H fun vs H1 => sp vs H1 Q E0
theorem pe_cl {X : Cx} {x : Str} {k : Nat} {ps : List Str} {sp : Sp} {p pos : Pos} {e : Expr} {es : List Expr} {t : TA} (C : Cl X.prog X.w X.K X.mg X.base x k ps sp) (gd : X.A.guards = some []) (hr : Room k X.A) (ha : PA X (e :: es) t)
    (hg : Gl X x := by rfl) (hdb : (x == ("__debug__" : Str)) = false := by decide) (he : starEach (e :: es) X.env = (false, eval e X.env) :: starEach es X.env := by rfl)
    (hpl : (backTo pos (starEach es X.env)).any (·.1) = false := by rfl) : PE X (.Call (.Name x p) (e :: es) [] pos) (tCl sp t) := by
  obtain ⟨f, fd, F, b, kp, m⟩ := C.ex
  exact pe_callG F gd hr m kp b ha hg hdb he hpl
/-- the built-in names are free; the constants -/
theorem u65 {k : Nat} {A : Around} (r : Room k A) : A.units + 65 < cLine := by have := r.un; omega
theorem u1 {k : Nat} {A : Around} (r : Room k A) : A.units + 1 < cLine := by have := r.un; omega
/-! ### heaps -/
theorem ex_upd {H H1 H' : Hp} {p : Addr} {o : HO} (h : H p = none) (e : Ex H H1) (e2 : Ex (upd H1 p o) H') : Ex H H' := (e.mut h).trans e2
/-- a walk over a dict's keys: the lock undone -/
theorem ex_lock {H H1 : Hp} {d : Addr} {u : HO} {od : Obj} (hd : H d = some u) (e : Ex (upd H d (.frz od u)) H1) : Ex H (upd H1 d u) := fun b o h => by
  by_cases z : b = d
  · subst z
    rw [hd] at h
    cases h
    exact upd_same
  · rw [upd_ne z]
    exact e b o (by rw [upd_ne z]; exact h)
/-- what a comprehension gives: from a walk -/
structure Stab {α : Type} (R : α → V → Hp → Prop) : Prop where
  up : ∀ y v H H', Ex H H' → R y v H → R y v H'
  ap : ∀ y v H D acc acc', H D = some (.lst acc) → R y v H → R y v (upd H D (.lst acc'))
theorem Stab.bl {α : Type} {g : α → Bool} : Stab (fun (y : α) v (_ : Hp) => v = .bl (g y)) := ⟨fun _ _ _ _ _ h => h, fun _ _ _ _ _ _ _ h => h⟩
theorem Stab.int {α : Type} {g : α → Int} : Stab (fun (y : α) v (_ : Hp) => v = .int (g y)) := ⟨fun _ _ _ _ _ h => h, fun _ _ _ _ _ _ _ h => h⟩
/-- a new tuple -/
def Tu {α : Type} (g : α → List V) (y : α) (v : V) (H : Hp) : Prop := ∃ r, v = .ref r ∧ H r = some (.tup (g y))
theorem Stab.tu {α : Type} {g : α → List V} : Stab (Tu g) := ⟨fun _ _ _ _ e ⟨r, h1, h2⟩ => ⟨r, h1, e _ _ h2⟩, fun _ _ _ D _ _ hD ⟨r, h1, h2⟩ => ⟨r, h1, by
  have : r ≠ D := fun z => by rw [z, hD] at h2; cases h2
  rw [upd_ne this]; exact h2⟩⟩
theorem paired_snoc {α β : Type} {F : α → β → Prop} : ∀ {as : List α} {bs : List β} {a : α} {b : β}, Paired F as bs → F a b → Paired F (as ++ [a]) (bs ++ [b])
  | _, _, _, _, .nil, h => .cons h .nil
  | _, _, _, _, .cons r t, h => .cons r (paired_snoc t h)
theorem lcW {α : Type} {J : It} {n : Nat} {Gd : Hp → Prop} {Y : Nat → Hp → V → Hp → Prop} (w : Walk J n Gd Y) {g : TG} {tt : TT} {te : TE} {vs : List Nat} {σ : L2.St} {H1 : Hp} {D : Addr} {Qd : Hp → Prop}
    (ys : List α) (hn : n = ys.length) (hz : n ≤ 1000) (f : α → Bool) (R : α → V → Hp → Prop) (st : Stab R) (hD : H1 D = none) (hG : ∀ H, Ex H1 H → Gd H)
    (hs : ∀ i y x H H' (N : Hp → Prop) (Gt : VK), ys[i]? = some y → Ex H1 H → Y i H x H' → (f y = false → ∀ H2, Ex H' H2 → N H2) → (f y = true → ∀ v H2, Ex H' H2 → R y v H2 → Gt v H2) →
      Ex H H' ∧ g x (wipe σ vs) H' fun σ2 H2 => wipe σ2 vs = wipe σ vs ∧ tt σ2 H2 fun b H3 => if b = true then te σ2 H3 Gt else N H3)
    (hd : ∀ acc H, Ex H1 H → H D = some (.lst acc) → Paired (fun y v => R y v H) (ys.filter f) acc → Qd H) :
    ∃ W : Nat → Nat → Hp → Prop, (∃ m, W 0 m (upd H1 D (.lst []))) ∧ ∀ i m H, W i m H →
      (J.stop i H ∧ Qd H) ∨ (J.go i H ∧ ∃ Nx : Hp → Prop, (∀ H', Nx H' → ∃ m', m' < m ∧ W (i + 1) m' H') ∧ ∀ x H', J.yld i H x H' → g x (wipe σ vs) H' fun σ2 H2 => wipe σ2 vs = wipe σ vs ∧ tt σ2 H2 fun b H3 =>
        if b = true then te σ2 H3 fun y H4 => ∃ acc, H4 D = some (.lst acc) ∧ acc.length < sizeLine ∧ Nx (upd H4 D (.lst (acc ++ [y]))) else Nx H3) := by
  have Rup : ∀ {l : List α} {acc : List V} {H H' : Hp}, Ex H H' → Paired (fun y v => R y v H) l acc → Paired (fun y v => R y v H') l acc := fun e p => Paired.mapP p fun _ _ h => st.up _ _ _ _ e h
  refine lc_it w (fun i H => Ex H1 H ∧ ∃ acc, H D = some (.lst acc) ∧ acc.length ≤ i ∧ Paired (fun y v => R y v H) ((ys.take i).filter f) acc) ⟨Ex.new hD, [], upd_same, Nat.le_refl _, .nil⟩ (fun i H _ p => hG H p.1) ?_ ?_
  · rintro i x H H' hi ⟨e1, acc, hacc, hl, hp⟩ hy
    have hi' : i < ys.length := hn ▸ hi
    have et : ys.take (i + 1) = ys.take i ++ [ys[i]] := by rw [List.take_add_one, List.getElem?_eq_getElem hi']; rfl
    refine (hs i ys[i] x H H' _ _ (List.getElem?_eq_getElem hi') e1 hy (fun hf H2 e2 => ?_) (fun hf v H2 e2 hR => ?_)).2
    · have e3 : Ex H H' := (hs i ys[i] x H H' (fun _ => True) (fun _ _ => True) (List.getElem?_eq_getElem hi') e1 hy (fun _ _ _ => trivial) (fun _ _ _ _ _ => trivial)).1
      refine ⟨e1.trans (e3.trans e2), acc, e2 _ _ (e3 _ _ hacc), by omega, ?_⟩
      rw [et, List.filter_append, List.filter_cons_of_neg (by rw [hf]; exact Bool.false_ne_true), List.filter_nil, List.append_nil]
      exact Rup (e3.trans e2) hp
    · have e3 : Ex H H' := (hs i ys[i] x H H' (fun _ => True) (fun _ _ => True) (List.getElem?_eq_getElem hi') e1 hy (fun _ _ _ => trivial) (fun _ _ _ _ _ => trivial)).1
      have h2 := e2 _ _ (e3 _ _ hacc)
      refine ⟨acc, h2, Nat.lt_of_le_of_lt hl (small1000 (by omega)), (e1.trans (e3.trans e2)).mut hD, acc ++ [v], upd_same, by simp; omega, ?_⟩
      rw [et, List.filter_append, List.filter_cons_of_pos hf, List.filter_nil]
      exact paired_snoc (Paired.mapP (Rup (e3.trans e2) hp) fun _ _ h => st.ap _ _ _ _ _ _ h2 h) (st.ap _ _ _ _ _ _ h2 hR)
  · rintro H ⟨e1, acc, hacc, _, hp⟩
    rw [hn, List.take_length] at hp
    exact hd acc H e1 hacc hp
theorem paired_bl {α : Type} {g : α → Bool} : ∀ {l : List α} {acc : List V}, Paired (fun y v => v = V.bl (g y)) l acc → acc = (l.map g).map V.bl
  | _, _, .nil => rfl
  | _, _, .cons r t => by rw [List.map_cons, List.map_cons, ← paired_bl t, r]
theorem paired_int {α : Type} {g : α → Int} : ∀ {l : List α} {acc : List V}, Paired (fun y v => v = V.int (g y)) l acc → acc = (l.map g).map V.int
  | _, _, .nil => rfl
  | _, _, .cons r t => by rw [List.map_cons, List.map_cons, ← paired_int t, r]
theorem filter_yes {α : Type} (l : List α) : l.filter (fun _ => true) = l := List.filter_eq_self.mpr fun _ _ => rfl
theorem bt_len : bootBuiltins "len" = some (.builtin "len") := by decide +kernel
theorem bt_abs : bootBuiltins "abs" = some (.builtin "abs") := by decide +kernel
theorem bt_max : bootBuiltins "max" = some (.builtin "max") := by decide +kernel
theorem bt_min : bootBuiltins "min" = some (.builtin "min") := by decide +kernel
theorem bt_repr : bootBuiltins "repr" = some (.builtin "repr") := by decide +kernel
theorem bt_divmod : bootBuiltins "divmod" = some (.builtin "divmod") := by decide +kernel
theorem bt_all : bootBuiltins "all" = some (.builtin "all") := by decide +kernel
theorem bt_isinstance : bootBuiltins "isinstance" = some (.builtin "isinstance") := by decide +kernel
theorem bt_sorted : bootBuiltins "sorted" = some (.builtin "sorted") := by decide +kernel
theorem bt_int : bootBuiltins "int" = some (.type "int") := by decide +kernel
theorem bt_bool : bootBuiltins "bool" = some (.type "bool") := by decide +kernel
theorem bt_list : bootBuiltins "list" = some (.type "list") := by decide +kernel
theorem bt_tuple : bootBuiltins "tuple" = some (.type "tuple") := by decide +kernel
theorem bt_dict : bootBuiltins "dict" = some (.type "dict") := by decide +kernel
theorem kt_int_int {K : PySem.W.Frag} : PySem.W.kitOne K (.type "int") (.type "int") = some true := kit_ty (by decide +kernel)
theorem kt_int_bool {K : PySem.W.Frag} : PySem.W.kitOne K (.type "int") (.type "bool") = some false := kit_ty (by decide +kernel)
theorem kt_tuple_tuple {K : PySem.W.Frag} : PySem.W.kitOne K (.type "tuple") (.type "tuple") = some true := kit_ty (by decide +kernel)
theorem kt_list_list {K : PySem.W.Frag} : PySem.W.kitOne K (.type "list") (.type "list") = some true := kit_ty (by decide +kernel)
end B71

namespace B71
open PySem PySem.Spec PyProof.Rows L2
/-! ### data: ints, pairs, rows of them -/
def iD (n : Nat) : PyData := .int (n : Int)
def pD (p : Nat × Nat) : PyData := .tuple [.int (p.1 : Int), .int (p.2 : Int)]
theorem iD_lay (n : Nat) : (iD n).canLay0 = true := by simp [iD, PyData.canLay0]
theorem pD_lay (p : Nat × Nat) : (pD p).canLay0 = true := by simp [pD, PyData.canLay0, PyData.canLayAll0]
theorem iD_depth (n : Nat) : (iD n).depth ≤ 1 := by simp [iD, PyData.depth]
theorem pD_depth (p : Nat × Nat) : (pD p).depth ≤ 1 := by simp [pD, PyData.depth, PyData.depthAll]
theorem all_lay {α : Type} {f : α → PyData} (h : ∀ x, (f x).canLay0 = true) : ∀ l : List α, PyData.canLayAll0 (l.map f) = true
  | [] => by simp [PyData.canLayAll0]
  | x :: l => by simp [PyData.canLayAll0, h x, all_lay h l]
theorem all_depth {α : Type} {f : α → PyData} (h : ∀ x, (f x).depth ≤ 1) : ∀ l : List α, PyData.depthAll (l.map f) ≤ 1
  | [] => by simp [PyData.depthAll]
  | x :: l => by
    have h1 := h x
    have h2 := all_depth h l
    simp only [List.map_cons, PyData.depthAll]
    omega
theorem sh_of {d : PyData} (h : d.canLay0 = true) (h2 : d.depth ≤ 64) : SeqAt.shaped d = true := by
  show (d.canLay0 && decide (d.depth ≤ 64)) = true
  rw [Bool.and_eq_true]
  exact ⟨h, decide_eq_true h2⟩
theorem list_sh {α : Type} {f : α → PyData} (h : ∀ x, (f x).canLay0 = true) (h1 : ∀ x, (f x).depth ≤ 1) (l : List α) : SeqAt.shaped (.list (l.map f)) = true :=
  sh_of (by simp only [PyData.canLay0]; exact all_lay h l) (by have := all_depth h1 l; simp only [PyData.depth]; omega)
theorem tup_sh {α : Type} {f : α → PyData} (h : ∀ x, (f x).canLay0 = true) (h1 : ∀ x, (f x).depth ≤ 1) (l : List α) : SeqAt.shaped (.tuple (l.map f)) = true :=
  sh_of (by simp only [PyData.canLay0]; exact all_lay h l) (by have := all_depth h1 l; simp only [PyData.depth]; omega)
theorem is_sh (l : List Nat) : SeqAt.shaped (.list (l.map iD)) = true := list_sh iD_lay iD_depth l
theorem ps_sh (l : List (Nat × Nat)) : SeqAt.shaped (.list (l.map pD)) = true := list_sh pD_lay pD_depth l
theorem p_sh (p : Nat × Nat) : SeqAt.shaped (pD p) = true := sh_of (pD_lay p) (by have := pD_depth p; omega)
theorem iD_eqv (a b : Nat) : PyData.eqv (iD a) (iD b) = decide (a = b) := by
  show ((a : Int) == (b : Int)) = _
  by_cases h : a = b
  · simp [h]
  · rw [decide_eq_false h]; exact beq_eq_false_iff_ne.mpr (by omega)
theorem pD_eqv (p q : Nat × Nat) : PyData.eqv (pD p) (pD q) = decide (p = q) := by
  obtain ⟨a, b⟩ := p
  obtain ⟨c, d⟩ := q
  have e : PyData.eqv (pD (a, b)) (pD (c, d)) = (((a : Int) == (c : Int)) && (((b : Int) == (d : Int)) && true)) := by simp only [pD, PyData.eqv, PyData.eqvAll]
  rw [e]
  by_cases h1 : a = c
  · by_cases h2 : b = d
    · simp [h1, h2]
    · have q : ((b : Int) == (d : Int)) = false := beq_eq_false_iff_ne.mpr (by omega)
      rw [q]; simp [h2]
  · have q : ((a : Int) == (c : Int)) = false := beq_eq_false_iff_ne.mpr (by omega)
    rw [q]; simp [h1]
theorem all_eqv {α : Type} [DecidableEq α] {f : α → PyData} (h : ∀ a b, PyData.eqv (f a) (f b) = decide (a = b)) : ∀ l m : List α, PyData.eqvAll (l.map f) (m.map f) = decide (l = m)
  | [], [] => by simp [PyData.eqvAll]
  | [], _ :: _ => by simp [PyData.eqvAll]
  | _ :: _, [] => by simp [PyData.eqvAll]
  | a :: l, b :: m => by
    simp only [List.map_cons, PyData.eqvAll, h a b, all_eqv h l m, List.cons.injEq]
    by_cases e : a = b <;> simp [e]
theorem is_eqv (l m : List Nat) : PyData.eqv (.list (l.map iD)) (.list (m.map iD)) = decide (l = m) := by
  show PyData.eqvAll _ _ = _
  exact all_eqv iD_eqv l m
theorem ps_eqv (l m : List (Nat × Nat)) : PyData.eqv (.list (l.map pD)) (.list (m.map pD)) = decide (l = m) := by
  show PyData.eqvAll _ _ = _
  exact all_eqv pD_eqv l m
section
variable {K : PySem.W.Frag} {H : Hp}
/-- a list of ints as values -/
def vI (l : List Nat) : List V := l.map fun (n : Nat) => V.int (n : Int)
theorem vI_len (l : List Nat) : (vI l).length = l.length := List.length_map _
theorem dp_is : ∀ l : List Nat, DpAll K H (vI l) (l.map iD)
  | [] => .nil
  | n :: l => .cons (.int _) (dp_is l)
theorem dp_il {a : Addr} {l : List Nat} (h : H a = some (.lst (vI l))) : Dp K H (.ref a) (.list (l.map iD)) := .lst (.inl (.inl h)) (dp_is l)
theorem dp_p {r : Addr} {p : Nat × Nat} (h : H r = some (.tup [.int (p.1 : Nat), .int (p.2 : Nat)])) : Dp K H (.ref r) (pD p) := .tup (.inl (.inl h)) (.cons (.int _) (.cons (.int _) .nil))
theorem dp_ps : ∀ {rs : List Addr} {l : List (Nat × Nat)}, Paired (fun (r : Addr) (p : Nat × Nat) => H r = some (.tup [.int (p.1 : Nat), .int (p.2 : Nat)])) rs l → DpAll K H (rs.map V.ref) (l.map pD)
  | _, _, .nil => .nil
  | _, _, .cons h t => .cons (dp_p h) (dp_ps t)
theorem dp_pl {a : Addr} {rs : List Addr} {l : List (Nat × Nat)} (h : H a = some (.lst (rs.map V.ref))) (hp : Paired (fun (r : Addr) (p : Nat × Nat) => H r = some (.tup [.int (p.1 : Nat), .int (p.2 : Nat)])) rs l) : Dp K H (.ref a) (.list (l.map pD)) := .lst (.inl (.inl h)) (dp_ps hp)
theorem dp_pt {a : Addr} {rs : List Addr} {l : List (Nat × Nat)} (h : H a = some (.tup (rs.map V.ref))) (hp : Paired (fun (r : Addr) (p : Nat × Nat) => H r = some (.tup [.int (p.1 : Nat), .int (p.2 : Nat)])) rs l) : Dp K H (.ref a) (.tuple (l.map pD)) := .tup (.inl (.inl h)) (dp_ps hp)
end
end B71

namespace B71
open PySem PySem.Spec PyProof.Rows L2
structure Rp (d : PyData) : Prop where
  lay : d.canLay0 = true
  dp : d.depth ≤ 3
  wt : d.weight ≤ 20
  sh : d.showable = true
  nd : d.hasDict = false
  ish : d.intsShort 13 = true
theorem rp_i {n : Nat} (h : n < 4) : Rp (iD n) := by
  have hs : ∀ m : Nat, m < 4 → (PyData.intsShort 13 (iD m)) = true ∧ (PyData.showable (iD m)) = true := by decide +kernel
  refine ⟨iD_lay n, Nat.le_trans (iD_depth n) (by decide), ?_, (hs n h).2, rfl, (hs n h).1⟩
  match n, h with
  | 0, _ => decide +kernel
  | 1, _ => decide +kernel
  | 2, _ => decide +kernel
  | 3, _ => decide +kernel
theorem rp_p {p : Nat × Nat} (h1 : p.1 < 4) (h2 : p.2 < 4) : Rp (pD p) := by
  have a := rp_i h1
  have b := rp_i h2
  have w : ∀ m : Nat, m < 4 → PyData.weight (iD m) ≤ 5 := by decide +kernel
  have w1 := w p.1 h1
  have w2 := w p.2 h2
  unfold iD at a b w1 w2
  refine ⟨pD_lay p, Nat.le_trans (pD_depth p) (by decide), ?_, ?_, rfl, ?_⟩
  · simp only [pD, PyData.weight, PyData.weightAll] at w1 w2 ⊢
    omega
  · have := a.sh
    have := b.sh
    simp only [pD, PyData.showable, PyData.showableAll] at *
    simp_all
  · have := a.ish
    have := b.ish
    simp only [pD, PyData.intsShort, PyData.intsShortAll] at *
    simp_all
section
variable {α : Type} {f : α → PyData}
theorem rp_all : ∀ l : List α, (∀ x ∈ l, Rp (f x)) → PyData.canLayAll0 (l.map f) = true ∧ PyData.depthAll (l.map f) ≤ 3 ∧ PyData.weightAll (l.map f) ≤ 21 * l.length ∧ PyData.showableAll (l.map f) = true ∧ PyData.hasDictAll (l.map f) = false ∧ PyData.intsShortAll 13 (l.map f) = true
  | [], _ => by simp [PyData.canLayAll0, PyData.depthAll, PyData.weightAll, PyData.showableAll, PyData.hasDictAll, PyData.intsShortAll]
  | x :: l, h => by
    have hx := h x (List.mem_cons_self ..)
    obtain ⟨h1, h2, h3, h4, h5, h6⟩ := rp_all l fun y hy => h y (List.mem_cons_of_mem _ hy)
    have hd := hx.dp
    have hw := hx.wt
    simp only [List.map_cons, PyData.canLayAll0, PyData.depthAll, PyData.weightAll, PyData.showableAll, PyData.hasDictAll, PyData.intsShortAll, hx.lay, hx.sh, hx.nd, hx.ish, h1, h4, h5, h6, List.length_cons, Bool.and_self, Bool.or_self, true_and, and_true]
    omega
structure Ro (d : PyData) : Prop where
  sh : d.showable = true
  nd : d.hasDict = false
  dp : d.depth ≤ 60
  ln : d.shown.length ≤ sizeLine
theorem ro_of {d : PyData} (lay : d.canLay0 = true) (dp : d.depth ≤ 60) (wt : d.weight ≤ 2 ^ 20) (sh : d.showable = true) (nd : d.hasDict = false) (ish : d.intsShort 13 = true) : Ro d := by
  refine ⟨sh, nd, dp, ?_⟩
  have hl : PyData.layable0 d = true := by
    show (PyData.canLay0 d && decide (PyData.depth d ≤ 64) && decide (PyData.weight d ≤ 2 ^ 20)) = true
    simp only [Bool.and_eq_true, decide_eq_true_eq]
    exact ⟨⟨lay, by omega⟩, wt⟩
  have := shown_le13 hl ish
  have := sizeLine_eq
  omega
theorem ro_list {l : List α} (h : ∀ x ∈ l, Rp (f x)) (hl : l.length ≤ 1000) : Ro (.list (l.map f)) := by
  obtain ⟨h1, h2, h3, h4, h5, h6⟩ := rp_all l h
  have e : (2 : Nat) ^ 20 = 1048576 := by decide
  refine ro_of ?_ ?_ ?_ ?_ ?_ ?_
  · simp only [PyData.canLay0]; exact h1
  · simp only [PyData.depth]; omega
  · simp only [PyData.weight]; omega
  · simp only [PyData.showable]; exact h4
  · simp only [PyData.hasDict]; exact h5
  · simp only [PyData.intsShort]; exact h6
theorem ro_tup {l : List α} (h : ∀ x ∈ l, Rp (f x)) (hl : l.length ≤ 1000) : Ro (.tuple (l.map f)) := by
  obtain ⟨h1, h2, h3, h4, h5, h6⟩ := rp_all l h
  have e : (2 : Nat) ^ 20 = 1048576 := by decide
  refine ro_of ?_ ?_ ?_ ?_ ?_ ?_
  · simp only [PyData.canLay0]; exact h1
  · simp only [PyData.depth]; omega
  · simp only [PyData.weight]; omega
  · simp only [PyData.showable]; exact h4
  · simp only [PyData.hasDict]; exact h5
  · simp only [PyData.intsShort]; exact h6
end
end B71

/-! ### own operators -/
namespace B71
open PySem PySem.Spec PyProof.Rows L2
/-- what an own method gives back: no NotImplemented -/
theorem back_of {X : Cx} {pins : List (Addr × Obj)} {σ : L2.St} {Q : VK} {u : Value} {s : Shared} (h : EP X pins σ Q u s) : PySem.W.CmpBack (EP X pins σ Q) u s := by
  obtain ⟨v, H', I, r, q⟩ := h
  cases u <;> first | exact ⟨v, H', I, r, q⟩ | (cases v <;> first | exact (nomatch r) | (obtain ⟨_, z⟩ := r; cases z))
section
variable {X : Cx} {n : Nat} {C f : Addr} {fd : FuncData} {sp : Sp}
/-- the call of an own method on values, at the place -/
theorem own_run {A : Around} {ps : List Str} {pins : List (Addr × Obj)} {σ : L2.St} {H : Hp} {s : Shared} {Q : VK} {us : List Value} {vs : List V} (F : FnOk X.prog X.w X.K X.mg X.base CX0 n f fd ps sp) (b : Binds X.K fd ps []) (hr : Room n A) (fr : A.frames = X.A.frames)
    (I : Inv X pins σ H s) (r : Vals vs us) (h : sp vs H Q E0) : wpAny (model X.prog X.w) A (call (.ref f) us) (EP X pins σ Q) X.xe s := by
  have hl := F.len _ _ _ _ h
  have e := I.env0
  have e0 : Env0 X.prog X.w X.K X.mg X.base A X.stack s H := ⟨fr.trans e.frames, e.mod, e.bs, e.bsz, e.funs, e.frf, e.hok, e.bare⟩
  refine wpAny_call (codeAny_mono (F.run A X.stack s H ⟨us, []⟩ us vs Q E0 hr e0 (by
    have z := b s us I.kIn (by rw [List.append_nil, ← r.length]; exact hl)
    rw [List.append_nil] at z
    exact z) r h) fun r s' hq => ?_)
  cases r with
  | error e => exact False.elim hq
  | ok fl =>
    cases fl with
    | ret w => exact I.after hq
    | next => exact False.elim hq
    | brk => exact False.elim hq
    | cont => exact False.elim hq
/-- what the class has for the operator named nm -/
structure OpF (K : PySem.W.Frag) (C f : Addr) (nm : String) : Prop where
  slf : PySem.W.selfFirst K C = true
  fi : PySem.W.findIn K (.ref C) (dunder nm) = some (some (.ref f))
  fn : PySem.W.isFn K (.ref f) = true
/-- .. beside ints -/
structure OpI (K : PySem.W.Frag) (C g : Addr) (nm : String) : Prop where
  rf : PySem.W.findIn K (.ref C) (dunderR nm) = some (some (.ref g))
  rfn : PySem.W.isFn K (.ref g) = true
  i1 : ∃ fo, PySem.W.findIn K (.type "int") (dunder nm) = some fo
  i2 : ∃ ro, PySem.W.findIn K (.type "int") (dunderR nm) = some ro
  sub : PySem.W.subIn K (.type "int") (.ref C) = some false
def IsOwn (C : Addr) (H : Hp) (x : V) : Prop := ∃ a dx fs, x = .ref a ∧ H a = some (.ins C dx fs)
def rOwn (C : Addr) (sp : Sp) : R2 := fun x y H Q => IsOwn C H x ∧ ((∃ i, y = .int i) ∨ IsOwn C H y) ∧ sp [x, y] H Q E0
theorem op_own {op : Operator} {g : Addr} (F : FnOk X.prog X.w X.K X.mg X.base CX0 n f fd ["self", "other"] sp) (o : OpF X.K C f op.info.2) (oi : OpI X.K C g op.info.2) (b : Binds X.K fd ["self", "other"] []) (hr : Room n X.A) : OpR X (binaryOp op) (rOwn C sp) := by
  intro pins s σ H x y v u Q I rx ry h
  obtain ⟨⟨a, dx, fs, rfl, ha⟩, hy, hs⟩ := h
  cases rx
  obtain ⟨mA, J, _⟩ := ins_get I.hok ha
  obtain ⟨od, J, _⟩ := J.look
  obtain ⟨m, hF⟩ := I.fr
  rcases hy with ⟨i, rfl⟩ | ⟨a2, dx2, fs2, rfl, ha2⟩
  · obtain ⟨t, rfl⟩ := ry
    obtain ⟨fo, h1⟩ := oi.i1
    obtain ⟨ro, h2⟩ := oi.i2
    refine PySem.W.ksp_binT (T := "int") hF I.ok.mod.kin J rfl o.slf o.fi o.fn oi.rf (.inr ⟨g, rfl⟩) h1 h2 oi.sub ?_
    exact wpAny_mono (own_run (vs := [.ref a, .int i]) F b hr rfl I (.cons rfl (.cons ⟨t, rfl⟩ .nil)) hs) (fun _ _ q => back_of q) fun _ _ z => z
  · cases ry
    obtain ⟨mB, J2, _⟩ := ins_get I.hok ha2
    obtain ⟨od2, J2, _⟩ := J2.look
    refine PySem.W.binop_K hF I.ok.mod.kin J J2.type o.slf o.fi o.fn ?_
    exact wpAny_mono (own_run (vs := [.ref a, .ref a2]) F b hr rfl I (.cons rfl (.cons rfl .nil)) hs) (fun _ _ q => back_of q) fun _ _ z => z
/-- - x -/
theorem op_ownNeg (F : FnOk X.prog X.w X.K X.mg X.base CX0 n f fd ["self"] sp) (fi : PySem.W.findIn X.K (.ref C) "__neg__" = some (some (.ref f))) (fn : PySem.W.isFn X.K (.ref f) = true) (b : Binds X.K fd ["self"] []) (hr : Room n X.A) :
    UnR X (unaryOp .USub) (fun x H Q => IsOwn C H x ∧ sp [x] H Q E0) := by
  intro pins s σ H x v Q I rx h
  obtain ⟨⟨a, dx, fs, rfl, ha⟩, hs⟩ := h
  cases rx
  obtain ⟨mA, J, _⟩ := ins_get I.hok ha
  obtain ⟨od, J, _⟩ := J.look
  obtain ⟨m, hF⟩ := I.fr
  exact PySem.W.ksp_neg hF I.ok.mod.kin J fi fn (own_run (vs := [.ref a]) F b hr rfl I (.cons rfl .nil) hs)
end
end B71

namespace B71
open PySem PySem.Spec PyProof.Rows L2
section
variable {prog : Program} {w : World} {A : Around} {E : Value → Shared → Prop} {s : Shared} {a C dx : Addr} {i : Int} {t : Tok} {Q : Value → Shared → Prop}
open AutoSeq1 (wpAny_loadPart') in
theorem no_add (ho : s.heap.get? a = some (PySem.W.instObj C dx)) (h : Q .notImplemented s) : wpAny (model prog w) A (call (.builtin "int.__add__") [.int i t, .ref a]) Q E s := by
  refine GQ.call_here PySem.F.slot_int_add (typeIs_int _ _ _) PySem.F.entry_int_add (PySem.F.args_int_add_2 _ _) ?_
  obtain ⟨hp, g, d, tk, os⟩ := s
  wp_walk using wpAny_loadPart' ho
  exact h
open AutoSeq1 (wpAny_loadPart') in
theorem no_sub (ho : s.heap.get? a = some (PySem.W.instObj C dx)) (h : Q .notImplemented s) : wpAny (model prog w) A (call (.builtin "int.__sub__") [.int i t, .ref a]) Q E s := by
  refine GQ.call_here PySem.F.slot_int_sub (typeIs_int _ _ _) PySem.F.entry_int_sub (PySem.F.args_int_sub_2 _ _) ?_
  obtain ⟨hp, g, d, tk, os⟩ := s
  wp_walk using wpAny_loadPart' ho
  exact h
open AutoSeq1 (wpAny_loadPart') in
theorem no_mul (ho : s.heap.get? a = some (PySem.W.instObj C dx)) (h : Q .notImplemented s) : wpAny (model prog w) A (call (.builtin "int.__mul__") [.int i t, .ref a]) Q E s := by
  refine GQ.call_here PySem.F.slot_int_mul (typeIs_int _ _ _) PySem.F.entry_int_mul (PySem.F.args_int_mul_2 _ _) ?_
  obtain ⟨hp, g, d, tk, os⟩ := s
  wp_walk using wpAny_loadPart' ho
  exact h
open AutoSeq1 (wpAny_loadPart') in
theorem no_eq (ho : s.heap.get? a = some (PySem.W.instObj C dx)) (h : Q .notImplemented s) : wpAny (model prog w) A (call (.builtin "int.__eq__") [.int i t, .ref a]) Q E s := by
  refine GQ.call_here PySem.F.slot_int_eq (typeIs_int _ _ _) PySem.F.entry_int_eq (PySem.F.args_int_eq_2 _ _) ?_
  obtain ⟨hp, g, d, tk, os⟩ := s
  wp_walk using wpAny_loadPart' ho
  exact h
/-- an int ahead of an own one: the right one's reflected method is asked -/
theorem refl_own {K : PySem.W.Frag} {op : Operator} {id : String} {f g : Addr} {ox : Obj} {od : Option Obj} (kin : K.In s.heap) (J : PySem.W.InstAt s.heap a ox C od) (sl : Slot "int" (dunder op.info.2) id) (fT : fillsNumberSlot (.type "int") op.info.2 = pure true)
    (slf : PySem.W.selfFirst K C = true) (fi : PySem.W.findIn K (.ref C) (dunder op.info.2) = some (some (.ref f))) (rf : PySem.W.findIn K (.ref C) (dunderR op.info.2) = some (some (.ref g))) (rfn : PySem.W.isFn K (.ref g) = true) (sub : PySem.W.subIn K (.ref C) (.type "int") = some false)
    (no : ∀ R : Value → Shared → Prop, R .notImplemented s → wpAny (model prog w) A (call (.builtin id) [.int i t, .ref a]) R E s)
    (h : wpAny (model prog w) A (call (.ref g) [.ref a, .int i t]) (PySem.W.CmpBack Q) E s) : wpAny (model prog w) A (binaryOp op (.int i t) (.ref a)) Q E s := by
  obtain ⟨cd, rest, hcd, hm⟩ := PySem.W.ksp_first slf
  have right := PySem.W.ksp_try kin J rf rfn h
  rcases ho : op.info with ⟨sg, nm⟩
  rw [ho] at sl fT fi right
  dsimp only at sl fT fi right
  have M1 : PySem.W.Looks (model prog w) s.heap (typeOf (.ref a)) (.ref C) := J.type
  have M2 : PySem.W.Looks (model prog w) s.heap (fillsNumberSlot (.ref C) nm) true := PySem.W.fills_K kin hcd hm fi
  have M3 : PySem.W.Looks (model prog w) s.heap (isSubtype (.ref C) (.type "int")) false := PySem.W.looks_subIn kin sub
  have unl : (Value.type "int" == Value.ref C) = false := Bool.eq_false_iff.mpr fun q => by cases beq_iff_eq.mp q
  have py : numberSlotInPython (.type "int") nm = pure false := rfl
  simp only [binaryOp, ho]
  refine wpAny_holding (wpAny_bind ?_)
  unfold binaryOp1
  refine wpAny_bind (wpAny_typeOf (typeIs_int _ _ _) (wpAny_bind (M1.here (wpAny_bind (wpAny_of_eq fT ?_)))))
  simp only [unl, Bool.false_eq_true, if_false]
  refine wpAny_bind (M2.here ?_)
  simp only [Bool.and_self, if_true]
  refine wpAny_bind (M3.here ?_)
  simp only [Bool.false_eq_true, if_false, pure_bind, Bool.not_false, Bool.and_self, if_true, py]
  refine wpAny_bind (wpAny_tryMethod_declines (typeIs_int _ _ _) sl (no _ ⟨rfl, ?_⟩))
  refine wpAny_bind (wpAny_mono right (fun r s' hr => ?_) fun _ _ e => e)
  obtain ⟨v, rfl, q⟩ := hr
  exact wpAny_bind (wpAny_rule (wpAny_pure (wpAny_pure q)))
end
section
variable {X : Cx} {n : Nat} {C g : Addr} {fd : FuncData} {sp : Sp}
def rOwnR (C : Addr) (sp : Sp) : R2 := fun x y H Q => (∃ i, x = .int i) ∧ IsOwn C H y ∧ sp [y, x] H Q E0
theorem op_ownR {op : Operator} {id : String} {f : Addr} (F : FnOk X.prog X.w X.K X.mg X.base CX0 n g fd ["self", "other"] sp) (o : OpF X.K C f op.info.2) (oi : OpI X.K C g op.info.2) (sub : PySem.W.subIn X.K (.ref C) (.type "int") = some false)
    (sl : Slot "int" (dunder op.info.2) id) (fT : fillsNumberSlot (.type "int") op.info.2 = pure true)
    (no : ∀ {prog : Program} {w : World} {A : Around} {E : Value → Shared → Prop} {s : Shared} {a C dx : Addr} {i : Int} {t : Tok} {Q : Value → Shared → Prop}, s.heap.get? a = some (PySem.W.instObj C dx) → Q .notImplemented s → wpAny (model prog w) A (call (.builtin id) [.int i t, .ref a]) Q E s)
    (b : Binds X.K fd ["self", "other"] []) (hr : Room n X.A) : OpR X (binaryOp op) (rOwnR C sp) := by
  intro pins s σ H x y v u Q I rx ry h
  obtain ⟨⟨i, rfl⟩, ⟨a, dx, fs, rfl, ha⟩, hs⟩ := h
  obtain ⟨t, rfl⟩ := rx
  cases ry
  have hob := (show ObjOk X.prog X.w H s.heap a (.ins C dx fs) from I.hok a _ ha).2.2.2.1
  obtain ⟨mA, J, _⟩ := ins_get I.hok ha
  obtain ⟨od, J, _⟩ := J.look
  refine refl_own I.kIn J sl fT o.slf o.fi oi.rf oi.rfn sub (fun R q => no hob q) ?_
  exact wpAny_mono (own_run (vs := [.ref a, .int i]) F b hr rfl I (.cons rfl (.cons ⟨t, rfl⟩ .nil)) hs) (fun _ _ q => back_of q) fun _ _ z => z
end
end B71

namespace B71
open PySem PySem.Spec PyProof.Rows L2
section
variable {X : Cx} {n : Nat} {C f : Addr} {fd : FuncData} {sp : Sp}
theorem op_eqOwn (F : FnOk X.prog X.w X.K X.mg X.base CX0 n f fd ["self", "other"] sp) (fe : PySem.W.findIn X.K (.ref C) "__eq__" = some (some (.ref f))) (fn : PySem.W.isFn X.K (.ref f) = true) (nf : PySem.W.notFirst X.K C (.type "int") = true) (b : Binds X.K fd ["self", "other"] []) (hr : Room n X.A) : OpR X (compareOp .Eq) (rOwn C sp) := by
  intro pins s σ H x y v u Q I rx ry h
  obtain ⟨⟨a, dx, fs, rfl, ha⟩, hy, hs⟩ := h
  cases rx
  obtain ⟨mA, J, _⟩ := ins_get I.hok ha
  obtain ⟨od, J, _⟩ := J.look
  obtain ⟨m, hF⟩ := I.fr
  rcases hy with ⟨i, rfl⟩ | ⟨a2, dx2, fs2, rfl, ha2⟩
  · obtain ⟨t, rfl⟩ := ry
    refine PySem.W.cmp_K (op := .Eq) (tb := .type "int") hr.units0 hF I.ok.mod.kin J (PySem.W.Looks.of_pure rfl) nf fe fn ?_
    exact wpAny_mono (own_run (vs := [.ref a, .int i]) F b hr rfl I (.cons rfl (.cons ⟨t, rfl⟩ .nil)) hs) (fun _ _ q => back_of q) fun _ _ z => z
  · cases ry
    obtain ⟨mB, J2, _⟩ := ins_get I.hok ha2
    obtain ⟨od2, J2, _⟩ := J2.look
    refine PySem.W.cmp_K (op := .Eq) (tb := .ref C) hr.units0 hF I.ok.mod.kin J J2.type (by simp [PySem.W.notFirst]) fe fn ?_
    exact wpAny_mono (own_run (vs := [.ref a, .ref a2]) F b hr rfl I (.cons rfl (.cons rfl .nil)) hs) (fun _ _ q => back_of q) fun _ _ z => z
/-- int == own -/
theorem op_eqRev (F : FnOk X.prog X.w X.K X.mg X.base CX0 n f fd ["self", "other"] sp) (fe : PySem.W.findIn X.K (.ref C) "__eq__" = some (some (.ref f))) (fn : PySem.W.isFn X.K (.ref f) = true) (sub : PySem.W.subIn X.K (.ref C) (.type "int") = some false) (b : Binds X.K fd ["self", "other"] []) (hr : Room n X.A) : OpR X (compareOp .Eq) (rOwnR C sp) := by
  intro pins s σ H x y v u Q I rx ry h
  obtain ⟨⟨i, rfl⟩, ⟨a, dx, fs, rfl, ha⟩, hs⟩ := h
  obtain ⟨t, rfl⟩ := rx
  cases ry
  have hob := (show ObjOk X.prog X.w H s.heap a (.ins C dx fs) from I.hok a _ ha).2.2.2.1
  obtain ⟨mA, J, _⟩ := ins_get I.hok ha
  obtain ⟨od, J, _⟩ := J.look
  have M1 : PySem.W.Looks (model X.prog X.w) s.heap (typeOf (.ref a)) (.ref C) := J.type
  have M3 : PySem.W.Looks (model X.prog X.w) s.heap (isSubtype (.ref C) (.type "int")) false := PySem.W.looks_subIn I.kIn sub
  have unl : (Value.type "int" != Value.ref C) = true := by
    rw [bne, Bool.not_eq_true']
    exact Bool.eq_false_iff.mpr fun q => by cases beq_iff_eq.mp q
  show wpAny _ _ (richCompare .Eq (.int i t) (.ref a)) _ _ _
  unfold richCompare
  have no1 : oneThing? .Eq (.int i t) (.ref a) = none := rfl
  simp only [no1]
  refine wpAny_holding (wpAny_bind (wpAny_cRoomFor hr.units0 ?_))
  refine wpAny_bind (wpAny_typeOf (typeIs_int _ _ _) (wpAny_bind (M1.here ?_)))
  simp only [unl, if_true]
  refine wpAny_bind (M3.here ?_)
  simp only [Bool.false_eq_true, if_false]
  refine wpAny_bind (wpAny_tryCompare_declines (typeIs_int _ _ _) PySem.F.slot_int_eq (no_eq hob ⟨rfl, ?_⟩))
  simp only [Bool.not_false, if_true]
  refine wpAny_bind (m := tryCompare (.ref a) _ (.int i t)) ?_
  unfold tryCompare
  refine wpAny_bind (PySem.W.ifBound_K I.kIn J fe fn (wpAny_mono (own_run (vs := [.ref a, .int i]) F b hr rfl I (.cons rfl (.cons ⟨t, rfl⟩ .nil)) hs) (fun v s' hv => ?_) fun _ _ z => z))
  have hb := back_of hv
  cases v <;> first | exact hb.elim | exact wpAny_pure (wpAny_pure hv)
/-- str(x) by the class's own __str__ -/
def StrP (Q : VK) : VK := fun v H => ∃ z : Str, v = .str z ∧ Q v H
theorem strBack {pins : List (Addr × Obj)} {σ : L2.St} {Q : VK} {u : Value} {s : Shared} (h : EP X pins σ (StrP Q) u s) : PySem.W.StrBack (EP X pins σ Q) u s := by
  obtain ⟨v, H', I, r, z, rfl, q⟩ := h
  obtain ⟨t, rfl⟩ := r
  exact ⟨.str z, H', I, ⟨t, rfl⟩, q⟩
theorem call_strOwn (F : FnOk X.prog X.w X.K X.mg X.base CX0 n f fd ["self"] sp) (fe : PySem.W.findIn X.K (.ref C) "__str__" = some (some (.ref f))) (fn : PySem.W.isFn X.K (.ref f) = true) (b : Binds X.K fd ["self"] []) (hr : Room (n + 2) X.A) :
    CallR X (.type "str") (fun xs H Q => ∃ a dx fs, xs = [.ref a] ∧ H a = some (.ins C dx fs) ∧ sp [.ref a] H (StrP Q) E0) := by
  intro pins s σ H xs us Q I r h
  obtain ⟨a, dx, fs, rfl, ha, hs⟩ := h
  obtain rfl := Vals.ref1 r
  obtain ⟨mA, J, _⟩ := ins_get I.hok ha
  obtain ⟨od, J, _⟩ := J.look
  have hr1 : Room (n + 1) X.A.in1 := hr.in1
  have hr2 : Room n X.A.in1.in1 := hr1.in1
  exact PySem.W.kso_call hr2.units0 I.kIn J fe fn (wpAny_mono (own_run (A := X.A.in1.in1) (vs := [.ref a]) F b hr2 rfl I (.cons rfl .nil) hs) (fun _ _ q => strBack q) fun _ _ z => z)
/-- repr(x) by the class's own __repr__ -/
theorem call_reprOwn (F : FnOk X.prog X.w X.K X.mg X.base CX0 n f fd ["self"] sp) (fe : PySem.W.findIn X.K (.ref C) "__repr__" = some (some (.ref f))) (fn : PySem.W.isFn X.K (.ref f) = true) (b : Binds X.K fd ["self"] []) (hr : Room (n + 1) X.A) :
    CallR X (.builtin "repr") (fun xs H Q => ∃ a dx fs, xs = [.ref a] ∧ H a = some (.ins C dx fs) ∧ sp [.ref a] H (StrP Q) E0) := by
  intro pins s σ H xs us Q I r h
  obtain ⟨a, dx, fs, rfl, ha, hs⟩ := h
  obtain rfl := Vals.ref1 r
  obtain ⟨mA, J, _⟩ := ins_get I.hok ha
  obtain ⟨od, J, _⟩ := J.look
  have hr1 : Room n X.A.in1 := hr.in1
  refine Calls.call_function_entry PySem.F.kind_repr PySem.F.plain_repr PySem.F.entry_repr (PySem.F.args_repr1 _) ?_
  unfold Builtin.«repr»
  refine wpAny_bind (m := oneArg "repr" _) (wpAny_pure ?_)
  refine wpAny_bind (m := cRoomFor _ _) (wpAny_cRoomFor hr1.units0 ?_)
  have M1 : PySem.W.Looks (model X.prog X.w) s.heap (typeOf (.ref a)) (.ref C) := J.type
  have M2 : PySem.W.Looks (model X.prog X.w) s.heap (typeLookup (.ref C) "__repr__") (some (.ref f)) := PySem.W.looks_findIn I.kIn fe
  refine wpAny_bind (m := specialOf (.ref a) _) ?_
  unfold specialOf
  refine wpAny_bind (M1.here (M2.here ?_))
  refine wpAny_bind (m := callSpecialIfBound? (.ref a) (Str.ofString "__repr__") _) (PySem.W.ifBound_K I.kIn J fe fn (wpAny_mono (own_run (A := X.A.in1) (vs := [.ref a]) F b hr1 rfl I (.cons rfl .nil) hs) (fun v s' hv => ?_) fun _ _ z => ?_))
  · obtain ⟨v', H', I', r', z, rfl, q⟩ := hv
    obtain ⟨t, rfl⟩ := r'
    refine wpAny_bind (wpAny_isInstance (T := "str") (b := true) (typeIs_str _ _ _) isSubtype_str_str ?_)
    exact wpAny_pure ⟨_, rfl, .str z, H', I', ⟨t, rfl⟩, q⟩
  · exact z
/-- x != y: object.__ne__ by the own == -/
theorem op_neOwn (F : FnOk X.prog X.w X.K X.mg X.base CX0 n f fd ["self", "other"] sp) (fe : PySem.W.findIn X.K (.ref C) "__eq__" = some (some (.ref f))) (fn : PySem.W.isFn X.K (.ref f) = true)
    (fne : PySem.W.findIn X.K (.ref C) "__ne__" = some (some (.builtin "object.__ne__"))) (obj : PySem.W.mroIn X.K C (.type "object") = some true) (b : Binds X.K fd ["self", "other"] []) (hr : Room (n + 1) X.A) :
    OpR X (compareOp .NotEq) (fun x y H Q => IsOwn C H x ∧ IsOwn C H y ∧ sp [x, y] H (fun v H' => ∃ k, v = .bl k ∧ Q (.bl (!k)) H') E0) := by
  intro pins s σ H x y v u Q I rx ry h
  obtain ⟨⟨a, dx, fs, rfl, ha⟩, ⟨a2, dx2, fs2, rfl, ha2⟩, hs⟩ := h
  cases rx
  cases ry
  obtain ⟨mA, J, _⟩ := ins_get I.hok ha
  obtain ⟨od, J, _⟩ := J.look
  obtain ⟨mB, J2, _⟩ := ins_get I.hok ha2
  obtain ⟨od2, J2, _⟩ := J2.look
  have hr1 : Room n X.A.in1 := hr.in1
  have M1 : PySem.W.Looks (model X.prog X.w) s.heap (typeOf (.ref a)) (.ref C) := J.type
  have M2 : PySem.W.Looks (model X.prog X.w) s.heap (typeOf (.ref a2)) (.ref C) := J2.type
  have M3 : PySem.W.Looks (model X.prog X.w) s.heap (typeLookup (.ref C) (cmpInfo .NotEq).2.1) (some (.builtin "object.__ne__")) := PySem.W.looks_findIn I.kIn fne
  have key : wpAny (model X.prog X.w) X.A (call (.builtin "object.__ne__") [.ref a, .ref a2]) (fun r s' => (∃ k, r = .bool k) ∧ EP X pins σ Q r s') X.xe s := by
    refine wpAny_call (codeAny_call_builtin PySem.F.slot_object_ne.plain PySem.F.entry_object_ne (PySem.W.check_slot (i := "object.__ne__") (owner := "object") (n := "__ne__") (by decide +kernel) (by decide +kernel) (J.type.andThen (PySem.W.looks_mroIn I.kIn obj)) (PySem.F.args_object_ne_2 _ _) ?_))
    unfold Builtin.«object.__ne__»
    refine wpAny_bind (m := slotArgs "__ne__" 1 _) (wpAny_pure ?_)
    refine wpAny_bind (m := cRoomFor _ _) (wpAny_cRoomFor hr1.units0 ?_)
    refine wpAny_bind (m := callSpecialIfBound? (.ref a) (Str.ofString "__eq__") _) (PySem.W.ifBound_K I.kIn J fe fn (wpAny_mono (own_run (A := X.A.in1) (vs := [.ref a, .ref a2]) F b hr1 rfl I (.cons rfl (.cons rfl .nil)) hs) (fun v s' hv => ?_) fun _ _ z => ?_))
    · obtain ⟨v', H', I', r', k, rfl, q⟩ := hv
      cases (show v = Value.bool k from r')
      refine wpAny_bind (wpAny_truthy_bool (wpAny_pure ⟨⟨_, rfl⟩, .bl (!k), H', I', rfl, q⟩))
    · exact z
  show wpAny _ _ (richCompare .NotEq (.ref a) (.ref a2)) _ _ _
  unfold richCompare
  simp only [oneThing_ref]
  refine wpAny_holding (wpAny_bind (wpAny_cRoomFor hr.units0 ?_))
  refine wpAny_bind (M1.here (wpAny_bind (M2.here ?_)))
  have same : (Value.ref C != Value.ref C) = false := by simp
  simp only [same, Bool.false_eq_true, if_false]
  refine wpAny_bind (wpAny_pure ?_)
  simp only [Bool.false_eq_true, if_false]
  refine wpAny_bind (m := tryCompare (.ref a) _ (.ref a2)) ?_
  unfold tryCompare
  refine wpAny_bind (m := callSpecialIfBound? (.ref a) _ _) ?_
  simp only [callSpecialIfBound?, bindSpecialIfBound?]
  refine wpAny_holding (wpAny_bind (wpAny_bind (wpAny_bind (M1.here (M3.here ?_)))))
  refine wpAny_bind (wpAny_askSetting (wpAny_ite ?_))
  have bd : PySem.W.Looks (model X.prog X.w) s.heap (bindSpecial (.builtin "object.__ne__") (.ref a)) (.builtin "object.__ne__", [.ref a]) := PySem.W.Looks.of_pure (PySem.F.slot_object_ne.bind _)
  have tail : wpAny (model X.prog X.w) X.A (call (.builtin "object.__ne__") ([.ref a] ++ [.ref a2]) >>= fun v => pure (some v)) (fun r s' => ∃ k, r = some (.bool k) ∧ EP X pins σ Q (.bool k) s') X.xe s :=
    wpAny_bind (wpAny_mono key (fun v s' hv => by obtain ⟨⟨k, rfl⟩, q⟩ := hv; exact wpAny_pure ⟨k, rfl, q⟩) fun _ _ z => z)
  have fin : ∀ {E' : Value → Shared → Prop} {R : Option Value → Shared → Prop}, (∀ k s', EP X pins σ Q (.bool k) s' → R (some (.bool k)) s') → (∀ e s', X.xe e s' → E' e s') → wpAny (model X.prog X.w) X.A (call (.builtin "object.__ne__") ([.ref a] ++ [.ref a2]) >>= fun v => pure (some v)) R E' s :=
    fun hR hE => wpAny_mono tail (fun r s' hv => by obtain ⟨k, rfl, q⟩ := hv; exact hR k s' q) hE
  split
  · exact wpAny_bind (bd.here (wpAny_pure (by exact fin (fun k s' q => wpAny_pure (wpAny_pure q)) fun _ _ z => z)))
  · exact wpAny_tryCatch (wpAny_bind (bd.here (wpAny_pure (by exact fin (fun k s' q => wpAny_pure (wpAny_pure q)) fun _ _ z => z))))
end
end B71

namespace B71
open PySem PySem.Spec PyProof.Rows L2 Evl RZ SrtO
def top (i : Nat) : Stmt := PySem.Challenge.pw_shrunkrooms_k73_any_values_as_rooks_and.main.body.getD i (.Pass ⟨0, 0, 0, 0⟩)
abbrev sm (i : Nat) : Stmt := inClass (top 16) i
/-- a name that stands for a def that keeps a promise whatever is under way -/
structure ClO (P : Program) (w : World) (K : PySem.W.Frag) (mg : Str → Option Value) (base : Heap) (x : Str) (k : Nat) (ps : List Str) (sp : Sp) : Prop where
  ex : ∃ (f : Addr) (fd : FuncData), FnOk P w K mg base CX0 k f fd ps sp ∧ Binds K fd ps [] ∧ PySem.W.keepIn K (.ref f) = true ∧ mg x = some (.ref f)
theorem pe_clo {X : Cx} {x : Str} {k : Nat} {ps : List Str} {sp : Sp} {p pos : Pos} {e : Expr} {es : List Expr} {t : TA} (C : ClO X.prog X.w X.K X.mg X.base x k ps sp) (hr : Room k X.A) (ha : PA X (e :: es) t)
    (hg : Gl X x := by rfl) (hdb : (x == ("__debug__" : Str)) = false := by decide) (he : starEach (e :: es) X.env = (false, eval e X.env) :: starEach es X.env := by rfl)
    (hpl : (backTo pos (starEach es X.env)).any (·.1) = false := by rfl) : PE X (.Call (.Name x p) (e :: es) [] pos) (tCl sp t) := by
  obtain ⟨f, fd, F, b, kp, m⟩ := C.ex
  refine ⟨fun pins s σ H Q I h => ?_⟩
  have z := (pe_call (X := X) (p := p) (pos := pos) (E := E0) F hr hg m kp b .nil pass0 ha hdb he hpl).run pins s σ H Q I
  refine z ?_
  show t σ H fun vs H1 => sp (vs ++ []) H1 Q E0
  simp only [List.append_nil]
  exact h
theorem op_fdivZ {X : Cx} : OpR X (binaryOp .FloorDiv) (rI (fun _ j => j ≠ 0 ∧ j.natAbs.log2 < 9000) fun i j => .int (i.fdiv j)) := opI fun _ _ _ _ _ _ _ hc q => floordiv_int hc.1 q (.inl (PyProof.noPylong_of_log2 hc.2))
theorem mulOk {n m : Nat} {x y : Int} (h : Bt n x) (k : Bt m y) (h0 : 0 < n) (h1 : 0 < m) (h2 : n + m ≤ 1000000) : CMulW x y := wide_mul h k h0 h1 h2
/-! ### the class -/
structure RCl (K : PySem.W.Frag) (mg : Str → Option Value) (C : Addr) : Prop where
  cl : Cls K C
  mgC : mg "Ratio" = some (.ref C)
  nT : NoAttr K C "own_top"
  nB : NoAttr K C "own_bottom"
  c1 : PySem.W.findIn K (.ref C) "__class__" = some (some (.builtin "object.__class__"))
  c2 : PySem.W.specialIn K (.builtin "object.__class__") "__get__" = some (some (.builtin "getset_descriptor.__get__"))
  c3 : PySem.W.takesIn K (.builtin "object.__class__") = some true
  c4 : PySem.W.mroIn K C (.type "object") = some true
  kI : PySem.W.kitOne K (.type "int") (.ref C) = some false
  kB : PySem.W.kitOne K (.type "bool") (.ref C) = some false
  kN : PySem.W.kitOne K (.type "NoneType") (.ref C) = some false
  kS : PySem.W.kitOne K (.type "str") (.ref C) = some false
  kL : PySem.W.kitOne K (.type "list") (.ref C) = some false
  kT : PySem.W.kitOne K (.type "tuple") (.ref C) = some false
  rI : PySem.W.kitOne K (.ref C) (.type "int") = some false
  rB : PySem.W.kitOne K (.ref C) (.type "bool") = some false
theorem kt_own {K : PySem.W.Frag} {C : Addr} : PySem.W.kitOne K (.ref C) (.ref C) = some true := by
  unfold PySem.W.kitOne
  rw [if_pos (by simp)]
/-- a Ratio of top t, bottom b at a -/
def rf (t b : Int) : List (Str × V) := [("own_top", .int t), ("own_bottom", .int b)]
def Rt (C : Addr) (H : Hp) (a : Addr) (t b : Int) : Prop := ∃ dx, H a = some (.ins C dx (rf t b))
theorem Rt.up {C : Addr} {H H' : Hp} {a : Addr} {t b : Int} (h : Rt C H a t b) (e : Ex H H') : Rt C H' a t b := h.imp fun _ q => e _ _ q
theorem tb_ne : ¬ (("own_top" : Str) = "own_bottom") := by decide +kernel
theorem rf_top {t b : Int} : (rf t b).lookup ("own_top" : Str) = some (.int t) := rfl
theorem rf_bot {t b : Int} : (rf t b).lookup ("own_bottom" : Str) = some (.int b) := by
  have e : (("own_bottom" : Str) == "own_top") = false := by decide +kernel
  unfold rf
  rw [List.lookup_cons, e]
  rfl
theorem put_rf {t b : Int} : putF "own_bottom" (.int b) (putF "own_top" (.int t) []) = rf t b := by
  show (if ("own_top" : Str) = "own_bottom" then [(("own_top" : Str), V.int b)] else (("own_top" : Str), V.int t) :: putF "own_bottom" (V.int b) []) = rf t b
  rw [if_neg tb_ne]
  rfl
theorem RCl.ty {K : PySem.W.Frag} {mg : Str → Option Value} {C : Addr} (R : RCl K mg C) {H : Hp} {a dx : Addr} {fs : List (Str × V)} (h : H a = some (.ins C dx fs)) : TyX K H (.ref a) (.ref C) := .base (.ins h R.cl R.c1 R.c2 R.c3 R.c4)
/-- an int or a Ratio, as a pair -/
def Num (C : Addr) (H : Hp) (v : V) (t b : Int) : Prop := (v = .int t ∧ b = 1) ∨ ∃ a, v = .ref a ∧ Rt C H a t b
theorem Num.up {C : Addr} {H H' : Hp} {v : V} {t b : Int} (h : Num C H v t b) (e : Ex H H') : Num C H' v t b := h.imp id fun ⟨a, h1, h2⟩ => ⟨a, h1, h2.up e⟩
/-- the promise to hand back a new Ratio -/
def RetR (C : Addr) (p : Int × Int) (H : Hp) (Q : VK) : Prop := ∀ x H', H x = none → Ex H H' → Rt C H' x p.1 p.2 → Q (.ref x) H'
structure Tx (mg : Str → Option Value) : Prop where
  b_len : mg "len" = none
  b_abs : mg "abs" = none
  b_max : mg "max" = none
  b_repr : mg "repr" = none
  b_divmod : mg "divmod" = none
  b_isinstance : mg "isinstance" = none
  b_int : mg "int" = none
  b_bool : mg "bool" = none
  b_list : mg "list" = none
  b_tuple : mg "tuple" = none
  b_str : mg "str" = none
  b_min : mg "min" = none
  b_sorted : mg "sorted" = none
  b_dict : mg "dict" = none
  b_zip : mg "zip" = none
  b_range : mg "range" = none
  b_all : mg "all" = none
  b_sum : mg "sum" = none
theorem bt_str : bootBuiltins "str" = some (.type "str") := by decide +kernel
end B71

namespace B71
open PySem PySem.Spec PyProof.Rows L2 Evl RZ SrtO
/-- a value's kind: is it an int, a bool, a Ratio -/
structure Kd (K : PySem.W.Frag) (C : Addr) (H : Hp) (v : V) (i b r : Bool) : Prop where
  ex : ∃ t, TyX K H v t ∧ PySem.W.kitOne K t (.type "int") = some i ∧ PySem.W.kitOne K t (.type "bool") = some b ∧ PySem.W.kitOne K t (.ref C) = some r
theorem kd_int {K : PySem.W.Frag} {mg : Str → Option Value} {C : Addr} (R : RCl K mg C) {H : Hp} (i : Int) : Kd K C H (.int i) true false false := ⟨_, .base (.int i), kt_int_int, kt_int_bool, R.kI⟩
theorem kd_own {K : PySem.W.Frag} {mg : Str → Option Value} {C : Addr} (R : RCl K mg C) {H : Hp} {a dx : Addr} {fs : List (Str × V)} (h : H a = some (.ins C dx fs)) : Kd K C H (.ref a) false false true := ⟨_, R.ty h, R.rI, R.rB, kt_own⟩
def spIsI (K : PySem.W.Frag) (C : Addr) : Sp := fun vs H Q _ => ∃ (v : V) (i b r : Bool), vs = [v] ∧ Kd K C H v i b r ∧ RetV (.bl (i && !b)) H Q
def spIsC (K : PySem.W.Frag) (C : Addr) : Sp := fun vs H Q _ => ∃ (v : V) (i b r : Bool) (k : Bool), vs = [v] ∧ Kd K C H v i b r ∧ (((i && !b) = false ∧ k = false) ∨ ((i && !b) = true ∧ ∃ n : Int, v = .int n ∧ k = decide (0 ≤ n))) ∧ RetV (.bl k) H Q
def spIsN (K : PySem.W.Frag) (C : Addr) : Sp := fun vs H Q _ => ∃ (v : V) (i b r : Bool), vs = [v] ∧ Kd K C H v i b r ∧ RetV (.bl ((i && !b) || r)) H Q
def SqH (H : Hp) (a : Addr) (xs : List V) : Prop := H a = some (.lst xs) ∨ H a = some (.tup xs)
theorem SqH.up {H H' : Hp} {a : Addr} {xs : List V} (h : SqH H a xs) (e : Ex H H') : SqH H' a xs := h.elim (fun h => .inl (e _ _ h)) (fun h => .inr (e _ _ h))
def spList : Sp := fun vs H Q _ => ∃ (a : Addr) (xs : List V), vs = [.ref a] ∧ SqH H a xs ∧ RetV (.bl true) H Q
def spCommon : Sp := fun vs H Q _ => ∃ a b : Int, vs = [.int a, .int b] ∧ RetV (.int ((Nat.gcd a.natAbs b.natAbs : Nat) : Int)) H Q
def spInit (C : Addr) : Sp := fun vs H Q _ => ∃ (x dx : Addr) (a b : Int), vs = [.ref x, .int a, .int b] ∧ H x = some (.ins C dx []) ∧ b ≠ 0 ∧ Bt 8000 a ∧ Bt 8000 b ∧ ∀ H', (∀ y o, y ≠ x → H y = some o → H' y = some o) → Rt C H' x (low a b).1 (low a b).2 → Q .non H'
section
variable {P : Program} {w : World} {K : PySem.W.Frag} {mg : Str → Option Value} {base : Heap} {f C : Addr} {fd : FuncData}
theorem sc_is_integer : FnScope ["value"] ["value"] (defScope (top 8)) := ⟨rfl, rfl, rfl, by decide +kernel, rfl, by decide +kernel, by decide +kernel⟩
theorem ok_is_integer (F : Fun K "is_integer" "is_integer" (top 8) f fd) (T : Tx mg) : FnOk P w K mg base CX0 1 f fd ["value"] (spIsI K C) := by
  have sc := sc_is_integer
  refine F.ok sc (fun vs H Q E h => ?_) (fun cdv A outer s H vs Q E hr h => ?_)
  · obtain ⟨v, _, _, _, rfl, _⟩ := h; rfl
  obtain ⟨v, i, b, r, rfl, ⟨t, ty, k1, k2, k3⟩, q⟩ := h
  refine ⟨_, (pss_one (ps_ret (pe_and (pe_callB call_isi rfl T.b_isinstance bt_isinstance (pa_cons (pv 0) (pa_cons (pe_bltn (v := .ty "int") rfl T.b_int bt_int rfl) pa_nil))) (pe_one (pe_not (pe_callB call_isi rfl T.b_isinstance bt_isinstance (pa_cons (pv 0) (pa_cons (pe_bltn (v := .ty "bool") rfl T.b_bool bt_bool rfl) pa_nil)))))))), ?_⟩
  refine ⟨_, rfl, _, _, _, _, _, rfl, .ty "int", ty, k1, _, rfl, ?_⟩
  cases i with
  | false => exact q _ (Ex.refl _)
  | true =>
    refine ⟨_, rfl, _, _, _, _, _, rfl, .ty "bool", ty, k2, _, rfl, ?_⟩
    exact q _ (Ex.refl _)
theorem sc_is_count : FnScope ["value"] ["value"] (defScope (top 9)) := ⟨rfl, rfl, rfl, by decide +kernel, rfl, by decide +kernel, by decide +kernel⟩
theorem ok_is_count (F : Fun K "is_count" "is_count" (top 9) f fd) (T : Tx mg) (C_is_integer : ClO P w K mg base "is_integer" 1 ["value"] (spIsI K C)) : FnOk P w K mg base CX0 2 f fd ["value"] (spIsC K C) := by
  have sc := sc_is_count
  refine F.ok sc (fun vs H Q E h => ?_) (fun cdv A outer s H vs Q E hr h => ?_)
  · obtain ⟨v, _, _, _, _, rfl, _⟩ := h; rfl
  obtain ⟨v, i, b, r, k, rfl, kd, hk, q⟩ := h
  refine ⟨_, (pss_one (ps_ret (pe_and (pe_clo C_is_integer (hr.mono (by first | decide | omega)) (pa_cons (pv 0) pa_nil)) (pe_one (pe_cmpR op_ge (pv 0) pe_int (nomark _)))))), ?_⟩
  refine ⟨_, rfl, v, i, b, r, rfl, kd, fun H1 e1 => ⟨_, rfl, ?_⟩⟩
  rcases hk with ⟨h1, rfl⟩ | ⟨h1, m, rfl, rfl⟩
  · rw [h1]
    exact q _ e1
  · rw [h1]
    refine ⟨_, rfl, _, _, rfl, rfl, ?_⟩
    exact q _ e1
theorem sc_is_list : FnScope ["value"] ["value"] (defScope (top 10)) := ⟨rfl, rfl, rfl, by decide +kernel, rfl, by decide +kernel, by decide +kernel⟩
theorem ok_is_list (F : Fun K "is_list" "is_list" (top 10) f fd) (T : Tx mg) : FnOk P w K mg base CX0 1 f fd ["value"] spList := by
  have sc := sc_is_list
  refine F.ok sc (fun vs H Q E h => ?_) (fun cdv A outer s H vs Q E hr h => ?_)
  · obtain ⟨i, _, rfl, _⟩ := h; rfl
  obtain ⟨a, xs, rfl, hs, q⟩ := h
  refine ⟨_, (pss_one (ps_ret (pe_callB call_isiT rfl T.b_isinstance bt_isinstance (pa_cons (pv 0) (pa_cons (pe_tup (pa_cons (pe_bltn (v := .ty "list") rfl T.b_list bt_list rfl) (pa_cons (pe_bltn (v := .ty "tuple") rfl T.b_tuple bt_tuple rfl) pa_nil))) pa_nil))))), ?_⟩
  refine ⟨_, rfl, (by show 2 ≤ sizeLine; decide), fun p hp => ?_⟩
  have e1 : Ex H (upd H p (.tup [.ty "list", .ty "tuple"])) := Ex.new hp
  rcases hs with hs | hs
  · exact ⟨_, p, _, _, _, true, rfl, upd_same, .cons (.ty "list") (.cons (.ty "tuple") .nil), .base (.lst (e1 _ _ hs)), rfl, q _ e1⟩
  · exact ⟨_, p, _, _, _, true, rfl, upd_same, .cons (.ty "list") (.cons (.ty "tuple") .nil), .base (.tup (e1 _ _ hs)), rfl, q _ e1⟩
theorem sc_common_part : FnScope ["one", "other"] ["one", "other"] (defScope (top 15)) := ⟨rfl, rfl, rfl, by decide +kernel, rfl, by decide +kernel, by decide +kernel⟩
theorem ok_common_part (F : Fun K "common_part" "common_part" (top 15) f fd) (mgG : mg "gcd" = some (.builtin "math.gcd")) : FnOk P w K mg base CX0 1 f fd ["one", "other"] spCommon := by
  have sc := sc_common_part
  refine F.ok sc (fun vs H Q E h => ?_) (fun cdv A outer s H vs Q E hr h => ?_)
  · obtain ⟨i, _, rfl, _⟩ := h; rfl
  obtain ⟨a, b, rfl, q⟩ := h
  refine ⟨_, (pss_one (ps_ret (pe_callBfun cr_gcd rfl mgG (pa_cons (pv 0) (pa_cons (pv 1) pa_nil))))), ?_⟩
  exact ⟨_, rfl, _, rfl, a, b, rfl, q _ (Ex.refl _)⟩
end
end B71

namespace B71
open PySem PySem.Spec PyProof.Rows L2 Evl RZ SrtO

/-- the class can be called -/
structure MkR (P : Program) (w : World) (K : PySem.W.Frag) (mg : Str → Option Value) (base : Heap) (C : Addr) : Prop where
  ex : ∃ (f : Addr) (fd : FuncData), Mk K C f ∧ FnOk P w K mg base CX0 2 f fd ["self", "top", "bottom"] (spInit C) ∧ Binds K fd ["self", "top", "bottom"] [] ∧ ∃ ds, Vals [V.int 1] ds ∧ Binds K fd ["self", "top", "bottom"] ds
  mgC : mg "Ratio" = some (.ref C)
theorem made_fits {C : Addr} {a b : Int} {H : Hp} {Q : VK} {x dx : Addr} (hx : H x = none) (hd : H dx = none) (ne : dx ≠ x) (hb : b ≠ 0) (ba : Bt 8000 a) (bb : Bt 8000 b) (q : RetR C (low a b) H Q) :
    spInit C [.ref x, .int a, .int b] (upd (upd H dx (.own x)) x (.ins C dx [])) (fun v H2 => v = .non ∧ Q (.ref x) H2) E0 := by
  refine ⟨x, dx, a, b, rfl, upd_same, hb, ba, bb, fun H' k r => ⟨rfl, q x H' hx (fun y o h => k y o (ne_of_none h hx) ?_) r⟩⟩
  rw [upd_ne (ne_of_none h hx), upd_ne (ne_of_none h hd)]
  exact h
theorem bt1 : Bt 8000 1 := Bt.mono (n := 1) (show (1 : Int).natAbs < 2 ^ 1 by decide) (by decide)
section
variable {X : Cx} {C : Addr} {p pos : Pos} {e e2 : Expr} {t : TA}
theorem pe_rat2 (M : MkR X.prog X.w X.K X.mg X.base C) (hr : Room 3 X.A) (ha : PA X [e, e2] t) (hg : Gl X "Ratio" := by rfl) (he : starEach [e, e2] X.env = (false, eval e X.env) :: starEach [e2] X.env := by rfl)
    (hpl : (backTo pos (starEach [e2] X.env)).any (·.1) = false := by rfl) : PE X (.Call (.Name "Ratio" p) [e, e2] [] pos) (tMake C (spInit C) [] E0 t) := by
  obtain ⟨f, fd, m, F, b, _⟩ := M.ex
  exact pe_make (E := E0) m F hr hg M.mgC b .nil pass0 ha (by decide) he hpl
theorem pe_rat1 (M : MkR X.prog X.w X.K X.mg X.base C) (hr : Room 3 X.A) (ha : PA X [e] t) (hg : Gl X "Ratio" := by rfl) (he : starEach [e] X.env = (false, eval e X.env) :: starEach [] X.env := by rfl)
    (hpl : (backTo pos (starEach [] X.env)).any (·.1) = false := by rfl) : PE X (.Call (.Name "Ratio" p) [e] [] pos) (tMake C (spInit C) [.int 1] E0 t) := by
  obtain ⟨f, fd, m, F, _, ds, v, b⟩ := M.ex
  exact pe_make (E := E0) m F hr hg M.mgC b v pass0 ha (by decide) he hpl
end
def spTold (C : Addr) : Sp := fun vs H Q _ => ∃ (v : V) (t b : Int), vs = [v] ∧ Num C H v t b ∧ ∀ p H', H p = none → Ex H H' → H' p = some (.tup [.int t, .int b]) → Q (.ref p) H'
/-- an operator's promise: g tells the pair ahead of the lowest terms -/
def spBin (C : Addr) (g : Int → Int → Int → Int → Int × Int) : Sp := fun vs H Q _ => ∃ (a : Addr) (w : V) (t b t2 b2 : Int), vs = [.ref a, w] ∧ Rt C H a t b ∧ Num C H w t2 b2 ∧ Bt 3000 t ∧ Bt 3000 b ∧ Bt 3000 t2 ∧ Bt 3000 b2 ∧ (g t b t2 b2).2 ≠ 0 ∧ RetR C (low (g t b t2 b2).1 (g t b t2 b2).2) H Q
def gAdd (t b t2 b2 : Int) : Int × Int := (t * b2 + t2 * b, b * b2)
def gSub (t b t2 b2 : Int) : Int × Int := (t * b2 - t2 * b, b * b2)
def gSubR (t b t2 b2 : Int) : Int × Int := (t2 * b - t * b2, b * b2)
def gMul (t b t2 b2 : Int) : Int × Int := (t * t2, b * b2)
def gOver (t b t2 b2 : Int) : Int × Int := (t * b2, b * t2)
section
variable {P : Program} {w : World} {K : PySem.W.Frag} {mg : Str → Option Value} {base : Heap} {f C : Addr} {fd : FuncData}
theorem sc_Ratio___init__ : FnScope ["self", "top", "bottom", "common"] ["self", "top", "bottom"] (defScope (sm 0)) := ⟨rfl, rfl, rfl, by decide +kernel, rfl, by decide +kernel, by decide +kernel⟩
theorem ok_init (F : FunD K "__init__" "Ratio.__init__" (defArgs (sm 0)) (defBody (sm 0)) (defScope (sm 0)) [.int 1] [] f fd) (R : RCl K mg C) (T : Tx mg) (C_is_integer : ClO P w K mg base "is_integer" 1 ["value"] (spIsI K C)) (C_common_part : ClO P w K mg base "common_part" 1 ["one", "other"] spCommon) : FnOk P w K mg base CX0 2 f fd ["self", "top", "bottom"] (spInit C) := by
  have sc := sc_Ratio___init__
  refine F.ok sc (fun vs H Q E h => ?_) (fun cdv A outer s H vs Q E hr h => ?_)
  · obtain ⟨_, _, _, _, rfl, _⟩ := h; rfl
  obtain ⟨x, dx, a, b, rfl, hx, hb, ba, bb, q⟩ := h
  refine ⟨_, (pss_cons (ps_if (pt_not (pt_val (pe_clo C_is_integer (hr.mono (by first | decide | omega)) (pa_cons (pv 1) pa_nil)))) (pss_one ps_never) pss_nil) (pss_cons (ps_if (PW.pt (pw_or (pt_not (pt_val (pe_clo C_is_integer (hr.mono (by first | decide | omega)) (pa_cons (pv 2) pa_nil)))) (pw_or1 (pt_cmpR op_eq (pv 2) pe_int (nomark _))))) (pss_one ps_never) pss_nil) (pss_cons (ps_set (i := 3) sc.nd rfl (Or.inl rfl) (pe_clo C_common_part (hr.mono (by first | decide | omega)) (pa_cons (pv 1) (pa_cons (pv 2) pa_nil)))) (pss_cons (ps_if (pt_cmpR op_lt (pv 2) pe_int (nomark _)) (pss_one (ps_set (i := 3) sc.nd rfl (Or.inl rfl) (pe_op op_sub pe_int (pv 3)))) pss_nil) (pss_cons (ps_fld (pv 0) (pe_op op_fdivZ (pv 1) (pv 3)) rfl) (pss_one (ps_fld (pv 0) (pe_op op_fdivZ (pv 2) (pv 3)) rfl))))))), ?_⟩
  refine ⟨_, rfl, .int a, true, false, false, rfl, kd_int R a, fun H1 e1 => ⟨_, rfl, ?_⟩⟩
  refine ⟨_, rfl, .int b, true, false, false, rfl, kd_int R b, fun H2 e2 => ⟨_, rfl, ?_⟩⟩
  refine ⟨_, rfl, rfl, _, rfl, ?_⟩
  rw [decide_eq_false (fun z => hb (by injection z))]
  refine ⟨_, rfl, _, rfl, a, b, rfl, fun H3 e3 => ?_⟩
  refine ⟨_, rfl, _, _, rfl, rfl, _, rfl, ?_⟩
  have e13 := e1.trans (e2.trans e3)
  have gl : (gI a b).natAbs.log2 < 9000 := Nat.lt_trans ((bb.le (gI_le (a := a) hb)).log (by decide)) (by decide)
  have hx3 := e13 _ _ hx
  have done : ∀ (H' : Hp), H' = upd (upd H3 x (.ins C dx (putF "own_top" (.int (a.fdiv (gI a b))) []))) x (.ins C dx (putF "own_bottom" (.int (b.fdiv (gI a b))) (putF "own_top" (.int (a.fdiv (gI a b))) []))) → Q .non H' := fun H' e => by
    subst e
    refine q _ (fun y o n h => by rw [upd_ne n, upd_ne n]; exact e13 y o h) ⟨dx, ?_⟩
    rw [upd_same, put_rf]
    rfl
  by_cases hn : b < 0
  · have eg : gI a b = 0 - ((Nat.gcd a.natAbs b.natAbs : Nat) : Int) := by unfold gI; rw [if_pos hn]
    rw [decide_eq_true hn]
    refine ⟨_, rfl, _, _, rfl, rfl, ?_⟩
    refine ⟨_, rfl, _, rfl, _, _, rfl, rfl, ⟨by rw [← eg]; exact gI_ne hb, by rw [← eg]; exact gl⟩, _, rfl, x, C, dx, [], rfl, hx3, R.cl, R.nT, (by show 0 < 1000; decide), ?_⟩
    refine ⟨_, rfl, _, rfl, _, _, rfl, rfl, ⟨by rw [← eg]; exact gI_ne hb, by rw [← eg]; exact gl⟩, _, rfl, x, C, dx, _, rfl, upd_same, R.cl, R.nB, (by show 1 < 1000; decide), ?_⟩
    refine done _ ?_
    rw [eg]
  · have eg : gI a b = ((Nat.gcd a.natAbs b.natAbs : Nat) : Int) := by unfold gI; rw [if_neg hn]
    rw [decide_eq_false hn]
    refine ⟨_, rfl, _, rfl, _, _, rfl, rfl, ⟨by rw [← eg]; exact gI_ne hb, by rw [← eg]; exact gl⟩, _, rfl, x, C, dx, [], rfl, hx3, R.cl, R.nT, (by show 0 < 1000; decide), ?_⟩
    refine ⟨_, rfl, _, rfl, _, _, rfl, rfl, ⟨by rw [← eg]; exact gI_ne hb, by rw [← eg]; exact gl⟩, _, rfl, x, C, dx, _, rfl, upd_same, R.cl, R.nB, (by show 1 < 1000; decide), ?_⟩
    refine done _ ?_
    rw [eg]
theorem sc_told_pair : FnScope ["value"] ["value"] (defScope (top 17)) := ⟨rfl, rfl, rfl, by decide +kernel, rfl, by decide +kernel, by decide +kernel⟩
theorem ok_told_pair (F : Fun K "told_pair" "told_pair" (top 17) f fd) (R : RCl K mg C) (T : Tx mg) (C_is_integer : ClO P w K mg base "is_integer" 1 ["value"] (spIsI K C)) : FnOk P w K mg base CX0 2 f fd ["value"] (spTold C) := by
  have sc := sc_told_pair
  refine F.ok sc (fun vs H Q E h => ?_) (fun cdv A outer s H vs Q E hr h => ?_)
  · obtain ⟨_, _, _, rfl, _⟩ := h; rfl
  obtain ⟨v, t, b, rfl, hv, q⟩ := h
  refine ⟨_, (pss_cons (ps_if (pt_val (pe_callB call_isi rfl T.b_isinstance bt_isinstance (pa_cons (pv 0) (pa_cons (pe_glob (v := .ref C) rfl R.mgC rfl) pa_nil)))) (pss_one (ps_ret (pe_tup (pa_cons (pe_fld (pv 0) rfl) (pa_cons (pe_fld (pv 0) rfl) pa_nil))))) pss_nil) (pss_cons (ps_if (pt_not (pt_val (pe_clo C_is_integer (hr.mono (by first | decide | omega)) (pa_cons (pv 0) pa_nil)))) (pss_one ps_never) pss_nil) (pss_one (ps_ret (pe_tup (pa_cons (pv 0) (pa_cons pe_int pa_nil))))))), ?_⟩
  rcases hv with ⟨rfl, rfl⟩ | ⟨a, rfl, dx, ha⟩
  · refine ⟨_, rfl, _, _, _, _, _, rfl, .own C, .base (.int t), R.kI, _, rfl, ?_⟩
    refine ⟨_, rfl, .int t, true, false, false, rfl, kd_int R t, fun H1 e1 => ⟨_, rfl, ?_⟩⟩
    refine ⟨_, rfl, (by show 2 ≤ sizeLine; decide), fun p hp => ?_⟩
    exact q p _ (fresh_back e1 hp) (e1.trans (Ex.new hp)) upd_same
  · refine ⟨_, rfl, _, _, _, _, _, rfl, .own C, R.ty ha, kt_own, _, rfl, ?_⟩
    refine ⟨_, rfl, a, C, dx, _, _, rfl, ha, R.cl, R.nT, rf_top, _, rfl, a, C, dx, _, _, rfl, ha, R.cl, R.nB, rf_bot, (by show 2 ≤ sizeLine; decide), fun p hp => ?_⟩
    exact q p _ hp (Ex.new hp) upd_same
end
end B71

namespace B71
open PySem PySem.Spec PyProof.Rows L2 Evl RZ SrtO

def spUn (C : Addr) (g : Int → Int) : Sp := fun vs H Q _ => ∃ (a : Addr) (t b : Int), vs = [.ref a] ∧ Rt C H a t b ∧ Bt 3000 t ∧ Bt 3000 b ∧ b ≠ 0 ∧ RetR C (low (g t) b) H Q
def spCmp (C : Addr) (g : Int → Int → Int → Int → Bool) : Sp := fun vs H Q _ => ∃ (a : Addr) (w : V) (t b t2 b2 : Int), vs = [.ref a, w] ∧ Rt C H a t b ∧ Num C H w t2 b2 ∧ Bt 3000 t ∧ Bt 3000 b ∧ Bt 3000 t2 ∧ Bt 3000 b2 ∧ RetV (.bl (g t b t2 b2)) H Q
def spEqR (C : Addr) : Sp := fun vs H Q _ => ∃ (a : Addr) (w : V) (t b : Int), vs = [.ref a, w] ∧ Rt C H a t b ∧ ((∃ i, w = .int i ∧ RetV (.bl false) H Q) ∨ ∃ a2 t2 b2, w = .ref a2 ∧ Rt C H a2 t2 b2 ∧ RetV (.bl (decide (t = t2 ∧ b = b2))) H Q)
def spGet (C : Addr) (g : Int → Int → V) : Sp := fun vs H Q _ => ∃ (a : Addr) (t b : Int), vs = [.ref a] ∧ Rt C H a t b ∧ RetV (g t b) H Q
section
variable {P : Program} {w : World} {K : PySem.W.Frag} {mg : Str → Option Value} {base : Heap} {f C : Addr} {fd : FuncData}

theorem sc_Ratio___add__ : FnScope ["self", "other", "top", "bottom"] ["self", "other"] (defScope (sm 6)) := ⟨rfl, rfl, rfl, by decide +kernel, rfl, by decide +kernel, by decide +kernel⟩
theorem ok_add (F : Fun K "__add__" "Ratio.__add__" (sm 6) f fd) (R : RCl K mg C) (T : Tx mg) (MR : MkR P w K mg base C) (C_told_pair : ClO P w K mg base "told_pair" 2 ["value"] (spTold C)) : FnOk P w K mg base CX0 4 f fd ["self", "other"] (spBin C gAdd) := by
  have sc := sc_Ratio___add__
  refine F.ok sc (fun vs H Q E h => ?_) (fun cdv A outer s H vs Q E hr h => ?_)
  · obtain ⟨_, _, _, _, _, _, rfl, _⟩ := h; rfl
  obtain ⟨a, w, t, b, t2, b2, rfl, ⟨dx, ha⟩, hw, bt, bb, bt2, bb2, hne, q⟩ := h
  refine ⟨_, (pss_cons (ps_asg (pe_clo C_told_pair (hr.mono (by first | decide | omega)) (pa_cons (pv 1) pa_nil)) (pg_tup rfl (pgs_cons (pg_name (i := 2) sc.nd rfl (Or.inl rfl)) (pgs_cons (pg_name (i := 3) sc.nd rfl (Or.inl rfl)) pgs_nil)))) (pss_one (ps_ret (pe_rat2 MR (hr.mono (by first | decide | omega)) (pa_cons (pe_op op_add (pe_op op_mulW (pe_fld (pv 0) rfl) (pv 3)) (pe_op op_mulW (pv 2) (pe_fld (pv 0) rfl))) (pa_cons (pe_op op_mulW (pe_fld (pv 0) rfl) (pv 3)) pa_nil)))))), ?_⟩
  refine ⟨_, rfl, w, t2, b2, rfl, hw, fun p H1 hp0 e1 hp1 => ?_⟩
  have ha1 := e1 _ _ ha
  refine ⟨p, _, rfl, st_of hp1, rfl, _, _, rfl, _, _, rfl, rfl, ?_⟩
  refine ⟨_, rfl, a, C, dx, _, _, rfl, ha1, R.cl, R.nT, rf_top, _, rfl, _, _, rfl, rfl, mulOk bt bb2 (by decide) (by decide) (by decide), _, rfl, _, rfl, a, C, dx, _, _, rfl, ha1, R.cl, R.nB, rf_bot, _, _, rfl, rfl, mulOk bt2 bb (by decide) (by decide) (by decide), _, _, rfl, rfl, _, rfl, a, C, dx, _, _, rfl, ha1, R.cl, R.nB, rf_bot, _, rfl, _, _, rfl, rfl, mulOk bb bb2 (by decide) (by decide) (by decide), fun x dx' hx hd ne => ?_⟩
  exact made_fits hx hd ne hne (Bt.mono (Bt.add (Bt.mul bt bb2) (Bt.mul bt2 bb)) (by decide)) (Bt.mono (Bt.mul bb bb2) (by decide)) fun x H' h0 e r => q x H' (fresh_back e1 h0) (e1.trans e) r

theorem sc_Ratio___radd__ : FnScope ["self", "other", "top", "bottom"] ["self", "other"] (defScope (sm 7)) := ⟨rfl, rfl, rfl, by decide +kernel, rfl, by decide +kernel, by decide +kernel⟩
theorem ok_radd (F : Fun K "__radd__" "Ratio.__radd__" (sm 7) f fd) (R : RCl K mg C) (T : Tx mg) (MR : MkR P w K mg base C) (C_told_pair : ClO P w K mg base "told_pair" 2 ["value"] (spTold C)) : FnOk P w K mg base CX0 4 f fd ["self", "other"] (spBin C gAdd) := by
  have sc := sc_Ratio___radd__
  refine F.ok sc (fun vs H Q E h => ?_) (fun cdv A outer s H vs Q E hr h => ?_)
  · obtain ⟨_, _, _, _, _, _, rfl, _⟩ := h; rfl
  obtain ⟨a, w, t, b, t2, b2, rfl, ⟨dx, ha⟩, hw, bt, bb, bt2, bb2, hne, q⟩ := h
  refine ⟨_, (pss_cons (ps_asg (pe_clo C_told_pair (hr.mono (by first | decide | omega)) (pa_cons (pv 1) pa_nil)) (pg_tup rfl (pgs_cons (pg_name (i := 2) sc.nd rfl (Or.inl rfl)) (pgs_cons (pg_name (i := 3) sc.nd rfl (Or.inl rfl)) pgs_nil)))) (pss_one (ps_ret (pe_rat2 MR (hr.mono (by first | decide | omega)) (pa_cons (pe_op op_add (pe_op op_mulW (pe_fld (pv 0) rfl) (pv 3)) (pe_op op_mulW (pv 2) (pe_fld (pv 0) rfl))) (pa_cons (pe_op op_mulW (pe_fld (pv 0) rfl) (pv 3)) pa_nil)))))), ?_⟩
  refine ⟨_, rfl, w, t2, b2, rfl, hw, fun p H1 hp0 e1 hp1 => ?_⟩
  have ha1 := e1 _ _ ha
  refine ⟨p, _, rfl, st_of hp1, rfl, _, _, rfl, _, _, rfl, rfl, ?_⟩
  refine ⟨_, rfl, a, C, dx, _, _, rfl, ha1, R.cl, R.nT, rf_top, _, rfl, _, _, rfl, rfl, mulOk bt bb2 (by decide) (by decide) (by decide), _, rfl, _, rfl, a, C, dx, _, _, rfl, ha1, R.cl, R.nB, rf_bot, _, _, rfl, rfl, mulOk bt2 bb (by decide) (by decide) (by decide), _, _, rfl, rfl, _, rfl, a, C, dx, _, _, rfl, ha1, R.cl, R.nB, rf_bot, _, rfl, _, _, rfl, rfl, mulOk bb bb2 (by decide) (by decide) (by decide), fun x dx' hx hd ne => ?_⟩
  exact made_fits hx hd ne hne (Bt.mono (Bt.add (Bt.mul bt bb2) (Bt.mul bt2 bb)) (by decide)) (Bt.mono (Bt.mul bb bb2) (by decide)) fun x H' h0 e r => q x H' (fresh_back e1 h0) (e1.trans e) r

theorem sc_Ratio___sub__ : FnScope ["self", "other", "top", "bottom"] ["self", "other"] (defScope (sm 8)) := ⟨rfl, rfl, rfl, by decide +kernel, rfl, by decide +kernel, by decide +kernel⟩
theorem ok_sub (F : Fun K "__sub__" "Ratio.__sub__" (sm 8) f fd) (R : RCl K mg C) (T : Tx mg) (MR : MkR P w K mg base C) (C_told_pair : ClO P w K mg base "told_pair" 2 ["value"] (spTold C)) : FnOk P w K mg base CX0 4 f fd ["self", "other"] (spBin C gSub) := by
  have sc := sc_Ratio___sub__
  refine F.ok sc (fun vs H Q E h => ?_) (fun cdv A outer s H vs Q E hr h => ?_)
  · obtain ⟨_, _, _, _, _, _, rfl, _⟩ := h; rfl
  obtain ⟨a, w, t, b, t2, b2, rfl, ⟨dx, ha⟩, hw, bt, bb, bt2, bb2, hne, q⟩ := h
  refine ⟨_, (pss_cons (ps_asg (pe_clo C_told_pair (hr.mono (by first | decide | omega)) (pa_cons (pv 1) pa_nil)) (pg_tup rfl (pgs_cons (pg_name (i := 2) sc.nd rfl (Or.inl rfl)) (pgs_cons (pg_name (i := 3) sc.nd rfl (Or.inl rfl)) pgs_nil)))) (pss_one (ps_ret (pe_rat2 MR (hr.mono (by first | decide | omega)) (pa_cons (pe_op op_sub (pe_op op_mulW (pe_fld (pv 0) rfl) (pv 3)) (pe_op op_mulW (pv 2) (pe_fld (pv 0) rfl))) (pa_cons (pe_op op_mulW (pe_fld (pv 0) rfl) (pv 3)) pa_nil)))))), ?_⟩
  refine ⟨_, rfl, w, t2, b2, rfl, hw, fun p H1 hp0 e1 hp1 => ?_⟩
  have ha1 := e1 _ _ ha
  refine ⟨p, _, rfl, st_of hp1, rfl, _, _, rfl, _, _, rfl, rfl, ?_⟩
  refine ⟨_, rfl, a, C, dx, _, _, rfl, ha1, R.cl, R.nT, rf_top, _, rfl, _, _, rfl, rfl, mulOk bt bb2 (by decide) (by decide) (by decide), _, rfl, _, rfl, a, C, dx, _, _, rfl, ha1, R.cl, R.nB, rf_bot, _, _, rfl, rfl, mulOk bt2 bb (by decide) (by decide) (by decide), _, _, rfl, rfl, _, rfl, a, C, dx, _, _, rfl, ha1, R.cl, R.nB, rf_bot, _, rfl, _, _, rfl, rfl, mulOk bb bb2 (by decide) (by decide) (by decide), fun x dx' hx hd ne => ?_⟩
  exact made_fits hx hd ne hne (Bt.mono (Bt.sub (Bt.mul bt bb2) (Bt.mul bt2 bb)) (by decide)) (Bt.mono (Bt.mul bb bb2) (by decide)) fun x H' h0 e r => q x H' (fresh_back e1 h0) (e1.trans e) r

theorem sc_Ratio___rsub__ : FnScope ["self", "other", "top", "bottom"] ["self", "other"] (defScope (sm 9)) := ⟨rfl, rfl, rfl, by decide +kernel, rfl, by decide +kernel, by decide +kernel⟩
theorem ok_rsub (F : Fun K "__rsub__" "Ratio.__rsub__" (sm 9) f fd) (R : RCl K mg C) (T : Tx mg) (MR : MkR P w K mg base C) (C_told_pair : ClO P w K mg base "told_pair" 2 ["value"] (spTold C)) : FnOk P w K mg base CX0 4 f fd ["self", "other"] (spBin C gSubR) := by
  have sc := sc_Ratio___rsub__
  refine F.ok sc (fun vs H Q E h => ?_) (fun cdv A outer s H vs Q E hr h => ?_)
  · obtain ⟨_, _, _, _, _, _, rfl, _⟩ := h; rfl
  obtain ⟨a, w, t, b, t2, b2, rfl, ⟨dx, ha⟩, hw, bt, bb, bt2, bb2, hne, q⟩ := h
  refine ⟨_, (pss_cons (ps_asg (pe_clo C_told_pair (hr.mono (by first | decide | omega)) (pa_cons (pv 1) pa_nil)) (pg_tup rfl (pgs_cons (pg_name (i := 2) sc.nd rfl (Or.inl rfl)) (pgs_cons (pg_name (i := 3) sc.nd rfl (Or.inl rfl)) pgs_nil)))) (pss_one (ps_ret (pe_rat2 MR (hr.mono (by first | decide | omega)) (pa_cons (pe_op op_sub (pe_op op_mulW (pv 2) (pe_fld (pv 0) rfl)) (pe_op op_mulW (pe_fld (pv 0) rfl) (pv 3))) (pa_cons (pe_op op_mulW (pe_fld (pv 0) rfl) (pv 3)) pa_nil)))))), ?_⟩
  refine ⟨_, rfl, w, t2, b2, rfl, hw, fun p H1 hp0 e1 hp1 => ?_⟩
  have ha1 := e1 _ _ ha
  refine ⟨p, _, rfl, st_of hp1, rfl, _, _, rfl, _, _, rfl, rfl, ?_⟩
  refine ⟨_, rfl, _, rfl, a, C, dx, _, _, rfl, ha1, R.cl, R.nB, rf_bot, _, _, rfl, rfl, mulOk bt2 bb (by decide) (by decide) (by decide), _, rfl, a, C, dx, _, _, rfl, ha1, R.cl, R.nT, rf_top, _, rfl, _, _, rfl, rfl, mulOk bt bb2 (by decide) (by decide) (by decide), _, _, rfl, rfl, _, rfl, a, C, dx, _, _, rfl, ha1, R.cl, R.nB, rf_bot, _, rfl, _, _, rfl, rfl, mulOk bb bb2 (by decide) (by decide) (by decide), fun x dx' hx hd ne => ?_⟩
  exact made_fits hx hd ne hne (Bt.mono (Bt.sub (Bt.mul bt2 bb) (Bt.mul bt bb2)) (by decide)) (Bt.mono (Bt.mul bb bb2) (by decide)) fun x H' h0 e r => q x H' (fresh_back e1 h0) (e1.trans e) r

theorem sc_Ratio___mul__ : FnScope ["self", "other", "top", "bottom"] ["self", "other"] (defScope (sm 10)) := ⟨rfl, rfl, rfl, by decide +kernel, rfl, by decide +kernel, by decide +kernel⟩
theorem ok_mul (F : Fun K "__mul__" "Ratio.__mul__" (sm 10) f fd) (R : RCl K mg C) (T : Tx mg) (MR : MkR P w K mg base C) (C_told_pair : ClO P w K mg base "told_pair" 2 ["value"] (spTold C)) : FnOk P w K mg base CX0 4 f fd ["self", "other"] (spBin C gMul) := by
  have sc := sc_Ratio___mul__
  refine F.ok sc (fun vs H Q E h => ?_) (fun cdv A outer s H vs Q E hr h => ?_)
  · obtain ⟨_, _, _, _, _, _, rfl, _⟩ := h; rfl
  obtain ⟨a, w, t, b, t2, b2, rfl, ⟨dx, ha⟩, hw, bt, bb, bt2, bb2, hne, q⟩ := h
  refine ⟨_, (pss_cons (ps_asg (pe_clo C_told_pair (hr.mono (by first | decide | omega)) (pa_cons (pv 1) pa_nil)) (pg_tup rfl (pgs_cons (pg_name (i := 2) sc.nd rfl (Or.inl rfl)) (pgs_cons (pg_name (i := 3) sc.nd rfl (Or.inl rfl)) pgs_nil)))) (pss_one (ps_ret (pe_rat2 MR (hr.mono (by first | decide | omega)) (pa_cons (pe_op op_mulW (pe_fld (pv 0) rfl) (pv 2)) (pa_cons (pe_op op_mulW (pe_fld (pv 0) rfl) (pv 3)) pa_nil)))))), ?_⟩
  refine ⟨_, rfl, w, t2, b2, rfl, hw, fun p H1 hp0 e1 hp1 => ?_⟩
  have ha1 := e1 _ _ ha
  refine ⟨p, _, rfl, st_of hp1, rfl, _, _, rfl, _, _, rfl, rfl, ?_⟩
  refine ⟨_, rfl, a, C, dx, _, _, rfl, ha1, R.cl, R.nT, rf_top, _, rfl, _, _, rfl, rfl, mulOk bt bt2 (by decide) (by decide) (by decide), _, rfl, a, C, dx, _, _, rfl, ha1, R.cl, R.nB, rf_bot, _, rfl, _, _, rfl, rfl, mulOk bb bb2 (by decide) (by decide) (by decide), fun x dx' hx hd ne => ?_⟩
  exact made_fits hx hd ne hne (Bt.mono (Bt.mul bt bt2) (by decide)) (Bt.mono (Bt.mul bb bb2) (by decide)) fun x H' h0 e r => q x H' (fresh_back e1 h0) (e1.trans e) r

theorem sc_Ratio___rmul__ : FnScope ["self", "other", "top", "bottom"] ["self", "other"] (defScope (sm 11)) := ⟨rfl, rfl, rfl, by decide +kernel, rfl, by decide +kernel, by decide +kernel⟩
theorem ok_rmul (F : Fun K "__rmul__" "Ratio.__rmul__" (sm 11) f fd) (R : RCl K mg C) (T : Tx mg) (MR : MkR P w K mg base C) (C_told_pair : ClO P w K mg base "told_pair" 2 ["value"] (spTold C)) : FnOk P w K mg base CX0 4 f fd ["self", "other"] (spBin C gMul) := by
  have sc := sc_Ratio___rmul__
  refine F.ok sc (fun vs H Q E h => ?_) (fun cdv A outer s H vs Q E hr h => ?_)
  · obtain ⟨_, _, _, _, _, _, rfl, _⟩ := h; rfl
  obtain ⟨a, w, t, b, t2, b2, rfl, ⟨dx, ha⟩, hw, bt, bb, bt2, bb2, hne, q⟩ := h
  refine ⟨_, (pss_cons (ps_asg (pe_clo C_told_pair (hr.mono (by first | decide | omega)) (pa_cons (pv 1) pa_nil)) (pg_tup rfl (pgs_cons (pg_name (i := 2) sc.nd rfl (Or.inl rfl)) (pgs_cons (pg_name (i := 3) sc.nd rfl (Or.inl rfl)) pgs_nil)))) (pss_one (ps_ret (pe_rat2 MR (hr.mono (by first | decide | omega)) (pa_cons (pe_op op_mulW (pe_fld (pv 0) rfl) (pv 2)) (pa_cons (pe_op op_mulW (pe_fld (pv 0) rfl) (pv 3)) pa_nil)))))), ?_⟩
  refine ⟨_, rfl, w, t2, b2, rfl, hw, fun p H1 hp0 e1 hp1 => ?_⟩
  have ha1 := e1 _ _ ha
  refine ⟨p, _, rfl, st_of hp1, rfl, _, _, rfl, _, _, rfl, rfl, ?_⟩
  refine ⟨_, rfl, a, C, dx, _, _, rfl, ha1, R.cl, R.nT, rf_top, _, rfl, _, _, rfl, rfl, mulOk bt bt2 (by decide) (by decide) (by decide), _, rfl, a, C, dx, _, _, rfl, ha1, R.cl, R.nB, rf_bot, _, rfl, _, _, rfl, rfl, mulOk bb bb2 (by decide) (by decide) (by decide), fun x dx' hx hd ne => ?_⟩
  exact made_fits hx hd ne hne (Bt.mono (Bt.mul bt bt2) (by decide)) (Bt.mono (Bt.mul bb bb2) (by decide)) fun x H' h0 e r => q x H' (fresh_back e1 h0) (e1.trans e) r

theorem sc_Ratio___neg__ : FnScope ["self"] ["self"] (defScope (sm 12)) := ⟨rfl, rfl, rfl, by decide +kernel, rfl, by decide +kernel, by decide +kernel⟩
theorem ok_neg (F : Fun K "__neg__" "Ratio.__neg__" (sm 12) f fd) (R : RCl K mg C) (T : Tx mg) (MR : MkR P w K mg base C) : FnOk P w K mg base CX0 4 f fd ["self"] (spUn C (fun t => 0 - t)) := by
  have sc := sc_Ratio___neg__
  refine F.ok sc (fun vs H Q E h => ?_) (fun cdv A outer s H vs Q E hr h => ?_)
  · obtain ⟨_, _, _, rfl, _⟩ := h; rfl
  obtain ⟨a, t, b, rfl, ⟨dx, ha1⟩, bt, bb, hne, q⟩ := h
  refine ⟨_, (pss_one (ps_ret (pe_rat2 MR (hr.mono (by first | decide | omega)) (pa_cons (pe_op op_sub pe_int (pe_fld (pv 0) rfl)) (pa_cons (pe_fld (pv 0) rfl) pa_nil))))), ?_⟩
  refine ⟨_, rfl, a, C, dx, _, _, rfl, ha1, R.cl, R.nT, rf_top, _, _, rfl, rfl, _, rfl, a, C, dx, _, _, rfl, ha1, R.cl, R.nB, rf_bot, fun x dx' hx hd ne => ?_⟩
  exact made_fits hx hd ne hne (Bt.mono (Bt.le bt (by show (0 - t).natAbs ≤ t.natAbs; omega)) (by decide)) (Bt.mono bb (by decide)) q

theorem sc_Ratio___eq__ : FnScope ["self", "other"] ["self", "other"] (defScope (sm 17)) := ⟨rfl, rfl, rfl, by decide +kernel, rfl, by decide +kernel, by decide +kernel⟩
theorem ok_eq (F : Fun K "__eq__" "Ratio.__eq__" (sm 17) f fd) (R : RCl K mg C) (T : Tx mg) : FnOk P w K mg base CX0 1 f fd ["self", "other"] (spEqR C) := by
  have sc := sc_Ratio___eq__
  refine F.ok sc (fun vs H Q E h => ?_) (fun cdv A outer s H vs Q E hr h => ?_)
  · obtain ⟨_, _, _, _, rfl, _⟩ := h; rfl
  obtain ⟨a, w, t, b, rfl, ⟨dx, ha1⟩, hw⟩ := h
  refine ⟨_, (pss_cons (ps_if (pt_not (pt_val (pe_callB call_isi rfl T.b_isinstance bt_isinstance (pa_cons (pv 1) (pa_cons (pe_glob (v := .ref C) rfl R.mgC rfl) pa_nil))))) (pss_one (ps_ret pe_bl)) pss_nil) (pss_one (ps_ret (pe_and (pe_cmpR op_eq (pe_fld (pv 0) rfl) (pe_fld (pv 1) rfl) (nomark _)) (pe_one (pe_cmpR op_eq (pe_fld (pv 0) rfl) (pe_fld (pv 1) rfl) (nomark _))))))), ?_⟩
  rcases hw with ⟨i, rfl, q⟩ | ⟨a2, t2, b2, rfl, ⟨dx2, ha2⟩, q⟩
  · refine ⟨_, rfl, _, _, _, _, _, rfl, .own C, .base (.int i), R.kI, _, rfl, ?_⟩
    exact q _ (Ex.refl _)
  · refine ⟨_, rfl, _, _, _, _, _, rfl, .own C, R.ty ha2, kt_own, _, rfl, ?_⟩
    refine ⟨_, rfl, a, C, dx, _, _, rfl, ha1, R.cl, R.nT, rf_top, _, rfl, a2, C, dx2, _, _, rfl, ha2, R.cl, R.nT, rf_top, rfl, _, rfl, ?_⟩
    refine ite2 (fun c => ?_) (fun c => ?_)
    · have c' : t = t2 := by
        have := of_decide_eq_true c
        injection this
      refine ⟨_, rfl, a, C, dx, _, _, rfl, ha1, R.cl, R.nB, rf_bot, _, rfl, a2, C, dx2, _, _, rfl, ha2, R.cl, R.nB, rf_bot, rfl, ?_⟩
      have e : decide (V.int b = V.int b2) = decide (t = t2 ∧ b = b2) := decide_eq_decide.mpr ⟨fun z => ⟨c', by injection z⟩, fun z => by rw [z.2]⟩
      show Q (.bl (decide (V.int b = V.int b2))) _
      rw [e]
      exact q _ (Ex.refl _)
    · have e : decide (t = t2 ∧ b = b2) = false := decide_eq_false fun z => c (by rw [z.1]; simp)
      rw [e] at q
      exact q _ (Ex.refl _)

theorem sc_Ratio_top : FnScope ["self"] ["self"] (defScope (sm 1)) := ⟨rfl, rfl, rfl, by decide +kernel, rfl, by decide +kernel, by decide +kernel⟩
theorem ok_topP (F : Fun K "top" "Ratio.top" (sm 1) f fd) (R : RCl K mg C) : FnOk P w K mg base CX0 1 f fd ["self"] (spGet C (fun t _ => .int t)) := by
  have sc := sc_Ratio_top
  refine F.ok sc (fun vs H Q E h => ?_) (fun cdv A outer s H vs Q E hr h => ?_)
  · obtain ⟨_, _, _, rfl, _⟩ := h; rfl
  obtain ⟨a, t, b, rfl, ⟨dx, ha1⟩, q⟩ := h
  refine ⟨_, (pss_one (ps_ret (pe_fld (pv 0) rfl))), ?_⟩
  exact ⟨_, rfl, a, C, dx, _, _, rfl, ha1, R.cl, R.nT, rf_top, q _ (Ex.refl _)⟩

theorem sc_Ratio_bottom : FnScope ["self"] ["self"] (defScope (sm 2)) := ⟨rfl, rfl, rfl, by decide +kernel, rfl, by decide +kernel, by decide +kernel⟩
theorem ok_bottomP (F : Fun K "bottom" "Ratio.bottom" (sm 2) f fd) (R : RCl K mg C) : FnOk P w K mg base CX0 1 f fd ["self"] (spGet C (fun _ b => .int b)) := by
  have sc := sc_Ratio_bottom
  refine F.ok sc (fun vs H Q E h => ?_) (fun cdv A outer s H vs Q E hr h => ?_)
  · obtain ⟨_, _, _, rfl, _⟩ := h; rfl
  obtain ⟨a, t, b, rfl, ⟨dx, ha1⟩, q⟩ := h
  refine ⟨_, (pss_one (ps_ret (pe_fld (pv 0) rfl))), ?_⟩
  exact ⟨_, rfl, a, C, dx, _, _, rfl, ha1, R.cl, R.nB, rf_bot, q _ (Ex.refl _)⟩

def sgI (t : Int) : Int := (if decide (t > 0) = true then 1 else 0) - (if decide (t < 0) = true then 1 else 0)
theorem sc_Ratio_sign : FnScope ["self"] ["self"] (defScope (sm 3)) := ⟨rfl, rfl, rfl, by decide +kernel, rfl, by decide +kernel, by decide +kernel⟩
theorem ok_sign (F : Fun K "sign" "Ratio.sign" (sm 3) f fd) (R : RCl K mg C) (T : Tx mg) : FnOk P w K mg base CX0 1 f fd ["self"] (spGet C fun t _ => .int (sgI t)) := by
  have sc := sc_Ratio_sign
  refine F.ok sc (fun vs H Q E h => ?_) (fun cdv A outer s H vs Q E hr h => ?_)
  · obtain ⟨_, _, _, rfl, _⟩ := h; rfl
  obtain ⟨a, t, b, rfl, ⟨dx, ha1⟩, q⟩ := h
  refine ⟨_, (pss_one (ps_ret (pe_op op_sub (pe_callTy call_int1 rfl T.b_int bt_int (pa_cons (pe_cmpR op_gt (pe_fld (pv 0) rfl) pe_int (nomark _)) pa_nil)) (pe_callTy call_int1 rfl T.b_int bt_int (pa_cons (pe_cmpR op_lt (pe_fld (pv 0) rfl) pe_int (nomark _)) pa_nil))))), ?_⟩
  refine ⟨_, rfl, a, C, dx, _, _, rfl, ha1, R.cl, R.nT, rf_top, _, _, rfl, rfl, .inr ⟨_, rfl, ?_⟩⟩
  refine ⟨_, rfl, a, C, dx, _, _, rfl, ha1, R.cl, R.nT, rf_top, _, _, rfl, rfl, .inr ⟨_, rfl, ?_⟩⟩
  exact ⟨_, _, rfl, rfl, q _ (Ex.refl _)⟩
end
end B71

namespace B71
open PySem PySem.Spec PyProof.Rows L2 Evl RZ SrtO

theorem ofS_app (a b : String) : Str.ofString (a ++ b) = Str.ofString a ++ Str.ofString b := by
  refine TL.ext_tl ?_
  rw [TL.tl_append, TL.tl_ofString, TL.tl_ofString, TL.tl_ofString, String.toList_append, List.map_append]
/-- a number's text -/
def tI (n : Int) : Str := Str.ofString (toString n)
theorem tI_len {n : Int} (h : n.natAbs < 10 ^ 60) : (tI n).length ≤ 61 := by
  unfold tI
  by_cases h0 : 0 ≤ n
  · have := toString_length_le h0 (k := 60) (by decide) (by omega)
    omega
  · rw [len_text_neg (by omega)]
    have := toString_length_le (v := 0 - n) (by omega) (k := 60) (by decide) (by omega)
    omega
theorem tI_neg {n : Int} (h : n < 0) : Str.ofString "-" ++ tI (0 - n) = tI n := by
  unfold tI
  rw [← ofS_app, ← toString_neg h]
def spDigits : Sp := fun vs H Q _ => ∃ n : Int, vs = [.int n] ∧ Bt 190 n ∧ RetV (.str (tI n)) H Q
def sS (t b : Int) : Str := if b = 1 then tI t else tI t ++ Str.ofString "/" ++ tI b
def sR (t b : Int) : Str := Str.ofString "Ratio(" ++ tI t ++ Str.ofString ", " ++ tI b ++ Str.ofString ")"
def spTxt (C : Addr) (g : Int → Int → Str) : Sp := fun vs H Q _ => ∃ (a : Addr) (t b : Int), vs = [.ref a] ∧ Rt C H a t b ∧ Bt 190 t ∧ Bt 190 b ∧ RetV (.str (g t b)) H Q
theorem bt190 {n : Int} (h : Bt 190 n) : n.natAbs < 10 ^ 60 := Nat.lt_of_lt_of_le h (by decide +kernel)
section
variable {P : Program} {w : World} {K : PySem.W.Frag} {mg : Str → Option Value} {base : Heap} {f C : Addr} {fd : FuncData}
theorem sc_digits_of : FnScope ["number", "left", "told", "part", "sign"] ["number"] (defScope (top 14)) := ⟨rfl, rfl, rfl, by decide +kernel, rfl, by decide +kernel, by decide +kernel⟩
theorem ok_digits_of (F : Fun K "digits_of" "digits_of" (top 14) f fd) (T : Tx mg) {tP : Tok} (mP : mg "PART" = some (.int (10 ^ 60) tP)) : FnOk P w K mg base CX0 1 f fd ["number"] spDigits := by
  have sc := sc_digits_of
  refine F.ok sc (fun vs H Q E h => ?_) (fun cdv A outer s H vs Q E hr h => ?_)
  · obtain ⟨_, rfl, _⟩ := h; rfl
  obtain ⟨n, rfl, bn, q⟩ := h
  have b60 := bt190 bn
  refine ⟨_, (pss_cons (ps_par (i := 1) (j := 2) rfl sc.nd rfl rfl (by decide) rfl rfl (pa_cons (pe_ifExp (pt_cmpR op_ge (pv 0) pe_int (nomark _)) (pv 0) (pe_op op_sub pe_int (pv 0))) (pa_cons pe_str pa_nil)) rfl) (pss_cons (ps_while PassesOwn.never (pt_cmpR op_ge (pv 1) (pe_glob (v := .int (10 ^ 60)) rfl mP ⟨_, rfl⟩) (nomark _)) pss_never) (pss_cons (ps_set (i := 4) sc.nd rfl (Or.inl rfl) (pe_ifExp (pt_cmpR op_lt (pv 0) pe_int (nomark _)) pe_str pe_str)) (pss_one (ps_ret (pe_joined (.cons (pe_fmt (pv 4)) (.cons (pe_fmt (pv 1)) (.cons (pe_fmt (pv 2)) .nil))))))))), ?_⟩
  have go : ∀ m : Int, 0 ≤ m → m.natAbs = n.natAbs → ∀ sg : Str, (if decide (n < 0) = true then Str.ofString "-" else Str.ofString "") = sg → sg ++ tI m = tI n := fun m h0 hm sg e => by
    subst e
    by_cases h : n < 0
    · rw [decide_eq_true h, if_pos rfl]
      have : m = 0 - n := by omega
      rw [this]
      exact tI_neg h
    · rw [decide_eq_false h, if_neg Bool.false_ne_true]
      have : m = n := by omega
      rw [this]
      exact Str.append_left_empty rfl
  have rest : ∀ m : Int, 0 ≤ m → m.natAbs = n.natAbs → (10 ^ 60 ≤ m) = False := fun m h0 hm => by
    refine eq_false fun z => ?_
    have : (10 : Int) ^ 60 = ((10 ^ 60 : Nat) : Int) := by decide +kernel
    omega
  have lens : ∀ m : Int, m.natAbs = n.natAbs → (tI m).length ≤ 61 := fun m hm => tI_len (by rw [hm]; exact b60)
  have logs : ∀ m : Int, m.natAbs = n.natAbs → m.natAbs.log2 < 1920 := fun m hm => by rw [hm]; exact Nat.lt_trans (bn.log (by decide)) (by decide)
  have sl : sizeLine = 16777216 := sizeLine_eq
  have fin : ∀ (sg : Str) (m : Int), sg.length ≤ 1 → 0 ≤ m → m.natAbs = n.natAbs → (if decide (n < 0) = true then Str.ofString "-" else Str.ofString "") = sg →
      sg.length ≤ sizeLine ∧ (Str.empty ++ sg).length ≤ sizeLine ∧ (Str.empty ++ sg ++ tI m).length ≤ sizeLine ∧ (Str.ofString "").length ≤ sizeLine ∧ (Str.empty ++ sg ++ tI m ++ Str.ofString "").length ≤ sizeLine ∧ Str.empty ++ sg ++ tI m ++ Str.ofString "" = tI n := fun sg m hl h0 hm e => by
    have l1 := lens m hm
    have e1 : Str.empty ++ sg = sg := Str.empty_append sg
    have e2 : sg ++ tI m ++ Str.ofString "" = sg ++ tI m := Str.append_right_empty rfl
    have e3 := go m h0 hm sg e
    rw [e1, e2, e3]
    have l2 := lens n rfl
    refine ⟨by omega, by omega, by omega, by rw [sl]; decide, by omega, rfl⟩
  refine ⟨_, rfl, _, _, rfl, rfl, _, rfl, ?_⟩
  refine ite2 (fun c => ?_) (fun c => ?_)
  · have c' : 0 ≤ n := of_decide_eq_true c
    refine ⟨_, rfl, _, _, rfl, ?_⟩
    refine ⟨fun _ σ' H' => σ' = [some (.int n), some (.int n), some (.str (Str.ofString "")), none, none] ∧ H' = H, ⟨0, rfl, rfl⟩, ?_⟩
    rintro m σ' H' ⟨rfl, rfl⟩
    refine ⟨_, rfl, _, _, rfl, rfl, _, rfl, ?_⟩
    have cf : decide ((10 : Int) ^ 60 ≤ n) = false := decide_eq_false (by rw [rest n c' rfl]; exact id)
    rw [cf]
    refine ⟨_, rfl, _, _, rfl, rfl, _, rfl, ?_⟩
    have nf : decide (n < 0) = false := decide_eq_false (by omega)
    rw [nf]
    obtain ⟨f1, f2, f3, f4, f5, f6⟩ := fin (Str.ofString "") n (by decide) c' rfl (by rw [nf]; rfl)
    refine ⟨_, rfl, .inl ⟨_, rfl, f1, _, rfl, f2, _, rfl, .inr ⟨n, rfl, logs n rfl, _, rfl, f3, _, rfl, .inl ⟨_, rfl, f4, _, rfl, f5, ?_⟩⟩⟩⟩
    have := q _ (Ex.refl _)
    rw [← f6] at this
    exact this
  · have c' : n < 0 := by
      have := of_decide_eq_false (Bool.eq_false_iff.mpr c)
      omega
    have hm : (0 - n).natAbs = n.natAbs := by omega
    have h0 : 0 ≤ 0 - n := by omega
    refine ⟨_, rfl, _, _, rfl, rfl, _, _, rfl, ?_⟩
    refine ⟨fun _ σ' H' => σ' = [some (.int n), some (.int (0 - n)), some (.str (Str.ofString "")), none, none] ∧ H' = H, ⟨0, rfl, rfl⟩, ?_⟩
    rintro m σ' H' ⟨rfl, rfl⟩
    refine ⟨_, rfl, _, _, rfl, rfl, _, rfl, ?_⟩
    have cf : decide ((10 : Int) ^ 60 ≤ 0 - n) = false := decide_eq_false (by rw [rest _ h0 hm]; exact id)
    rw [cf]
    refine ⟨_, rfl, _, _, rfl, rfl, _, rfl, ?_⟩
    have nf : decide (n < 0) = true := decide_eq_true c'
    rw [nf]
    obtain ⟨f1, f2, f3, f4, f5, f6⟩ := fin (Str.ofString "-") (0 - n) (by decide) h0 hm (by rw [nf]; rfl)
    refine ⟨_, rfl, .inl ⟨_, rfl, f1, _, rfl, f2, _, rfl, .inr ⟨_, rfl, logs _ hm, _, rfl, f3, _, rfl, .inl ⟨_, rfl, f4, _, rfl, f5, ?_⟩⟩⟩⟩
    have := q _ (Ex.refl _)
    rw [← f6] at this
    exact this
theorem sc_Ratio___str__ : FnScope ["self"] ["self"] (defScope (sm 18)) := ⟨rfl, rfl, rfl, by decide +kernel, rfl, by decide +kernel, by decide +kernel⟩
theorem ok_str (F : Fun K "__str__" "Ratio.__str__" (sm 18) f fd) (R : RCl K mg C) (T : Tx mg) (C_digits_of : ClO P w K mg base "digits_of" 1 ["number"] spDigits) : FnOk P w K mg base CX0 2 f fd ["self"] (spTxt C sS) := by
  have sc := sc_Ratio___str__
  refine F.ok sc (fun vs H Q E h => ?_) (fun cdv A outer s H vs Q E hr h => ?_)
  · obtain ⟨_, _, _, rfl, _⟩ := h; rfl
  obtain ⟨a, t, b, rfl, ⟨dx, ha⟩, bt, bb, q⟩ := h
  have sl : sizeLine = 16777216 := sizeLine_eq
  have l1 := tI_len (bt190 bt)
  have l2 := tI_len (bt190 bb)
  refine ⟨_, (pss_cons (ps_if (pt_cmpR op_eq (pe_fld (pv 0) rfl) pe_int (nomark _)) (pss_one (ps_ret (pe_joined1 (pe_fmt (pe_clo C_digits_of (hr.mono (by first | decide | omega)) (pa_cons (pe_fld (pv 0) rfl) pa_nil)))))) pss_nil) (pss_one (ps_ret (pe_joined (.cons (pe_fmt (pe_clo C_digits_of (hr.mono (by first | decide | omega)) (pa_cons (pe_fld (pv 0) rfl) pa_nil))) (.cons pe_str (.cons (pe_fmt (pe_clo C_digits_of (hr.mono (by first | decide | omega)) (pa_cons (pe_fld (pv 0) rfl) pa_nil))) .nil))))))), ?_⟩
  refine ⟨_, rfl, a, C, dx, _, _, rfl, ha, R.cl, R.nB, rf_bot, rfl, _, rfl, ?_⟩
  unfold sS at q
  by_cases c : b = 1
  · rw [if_pos c] at q
    rw [decide_eq_true (by rw [c])]
    refine ⟨_, rfl, a, C, dx, _, _, rfl, ha, R.cl, R.nT, rf_top, t, rfl, bt, fun H1 e1 => .inl ⟨_, rfl, by omega, q _ e1⟩⟩
  · rw [if_neg c] at q
    rw [decide_eq_false (fun z => c (by injection z))]
    refine ⟨_, rfl, a, C, dx, _, _, rfl, ha, R.cl, R.nT, rf_top, t, rfl, bt, fun H1 e1 => .inl ⟨_, rfl, by omega, _, rfl, ?_, _, rfl, ?_, _, rfl, a, C, dx, _, _, rfl, e1 _ _ ha, R.cl, R.nB, rf_bot, b, rfl, bb, fun H2 e2 => .inl ⟨_, rfl, by omega, _, rfl, ?_, ?_⟩⟩⟩
    · rw [Str.empty_append]; omega
    · rw [Str.empty_append, Str.length_append]
      have : (Str.ofString "/").length = 1 := rfl
      omega
    · rw [Str.empty_append, Str.length_append, Str.length_append]
      have : (Str.ofString "/").length = 1 := rfl
      omega
    · rw [Str.empty_append]
      exact q _ (e1.trans e2)
theorem sc_Ratio___repr__ : FnScope ["self"] ["self"] (defScope (sm 19)) := ⟨rfl, rfl, rfl, by decide +kernel, rfl, by decide +kernel, by decide +kernel⟩
theorem ok_repr (F : Fun K "__repr__" "Ratio.__repr__" (sm 19) f fd) (R : RCl K mg C) (T : Tx mg) (C_digits_of : ClO P w K mg base "digits_of" 1 ["number"] spDigits) : FnOk P w K mg base CX0 2 f fd ["self"] (spTxt C sR) := by
  have sc := sc_Ratio___repr__
  refine F.ok sc (fun vs H Q E h => ?_) (fun cdv A outer s H vs Q E hr h => ?_)
  · obtain ⟨_, _, _, rfl, _⟩ := h; rfl
  obtain ⟨a, t, b, rfl, ⟨dx, ha⟩, bt, bb, q⟩ := h
  have sl : sizeLine = 16777216 := sizeLine_eq
  have l1 := tI_len (bt190 bt)
  have l2 := tI_len (bt190 bb)
  have k1 : (Str.ofString "Ratio(").length = 6 := rfl
  have k2 : (Str.ofString ", ").length = 2 := rfl
  have k3 : (Str.ofString ")").length = 1 := rfl
  refine ⟨_, (pss_one (ps_ret (pe_joined (.cons pe_str (.cons (pe_fmt (pe_clo C_digits_of (hr.mono (by first | decide | omega)) (pa_cons (pe_fld (pv 0) rfl) pa_nil))) (.cons pe_str (.cons (pe_fmt (pe_clo C_digits_of (hr.mono (by first | decide | omega)) (pa_cons (pe_fld (pv 0) rfl) pa_nil))) (.cons pe_str .nil)))))))), ?_⟩
  refine ⟨_, rfl, ?_, _, rfl, a, C, dx, _, _, rfl, ha, R.cl, R.nT, rf_top, t, rfl, bt, fun H1 e1 => .inl ⟨_, rfl, by omega, _, rfl, ?_, _, rfl, ?_, _, rfl, a, C, dx, _, _, rfl, e1 _ _ ha, R.cl, R.nB, rf_bot, b, rfl, bb, fun H2 e2 => .inl ⟨_, rfl, by omega, _, rfl, ?_, _, rfl, ?_, ?_⟩⟩⟩
  · rw [Str.empty_append]; omega
  · rw [Str.empty_append, Str.length_append]; omega
  · rw [Str.empty_append, Str.length_append, Str.length_append]; omega
  · rw [Str.empty_append, Str.length_append, Str.length_append, Str.length_append]; omega
  · rw [Str.empty_append, Str.length_append, Str.length_append, Str.length_append, Str.length_append]; omega
  · rw [Str.empty_append]
    exact q _ (e1.trans e2)
end
end B71

namespace B71
open PySem PySem.Spec PyProof.Rows L2 Evl RZ SrtO

theorem low_one (t : Int) : low t 1 = (t, 1) := by
  have e : gI t 1 = 1 := by
    unfold gI
    rw [if_neg (by decide)]
    have : Nat.gcd t.natAbs (Int.natAbs 1) = 1 := Nat.gcd_one_right _
    rw [this]
    rfl
  unfold low
  rw [e, Int.fdiv_one, Int.fdiv_one]
theorem tyx_up {K : PySem.W.Frag} {H H' : Hp} {v : V} {t : Value} (e : Ex H H') (h : TyX K H v t) : TyX K H' v t := by
  cases h with
  | base b =>
    cases b with
    | non => exact .base .non
    | bl x => exact .base (.bl x)
    | int i => exact .base (.int i)
    | str x => exact .base (.str x)
    | flt x => exact .base (.flt x)
    | lst q => exact .base (.lst (e _ _ q))
    | frz q => exact .base (.frz (e _ _ q))
    | tup q => exact .base (.tup (e _ _ q))
    | dK q => exact .base (.dK (e _ _ q))
    | dT q => exact .base (.dT (e _ _ q))
    | ins q cl a b c d => exact .base (.ins (e _ _ q) cl a b c d)
  | byt b => exact .byt b
  | set q => exact .set (e _ _ q)
  | kList q c => exact .kList q c
  | kTuple q c => exact .kTuple q c
  | kDict q c => exact .kDict q c
  | fTuple q => exact .fTuple (e _ _ q)
  | fDict q => exact .fDict (e _ _ q)
theorem Kd.up {K : PySem.W.Frag} {C : Addr} {H H' : Hp} {v : V} {i b r : Bool} (k : Kd K C H v i b r) (e : Ex H H') : Kd K C H' v i b r := by
  obtain ⟨t, h, k⟩ := k
  exact ⟨t, tyx_up e h, k⟩
/-- an operator of the class -/
structure OpB (P : Program) (w : World) (K : PySem.W.Frag) (mg : Str → Option Value) (base : Heap) (C : Addr) (nm : String) (gL gR : Int → Int → Int → Int → Int × Int) : Prop where
  ex : ∃ (f g : Addr) (fd gd : FuncData), FnOk P w K mg base CX0 4 f fd ["self", "other"] (spBin C gL) ∧ Binds K fd ["self", "other"] [] ∧ FnOk P w K mg base CX0 4 g gd ["self", "other"] (spBin C gR) ∧ Binds K gd ["self", "other"] [] ∧ OpF K C f nm ∧ OpI K C g nm
  sub : PySem.W.subIn K (.ref C) (.type "int") = some false
section
variable {X : Cx} {C : Addr} {gL gR : Int → Int → Int → Int → Int × Int}
theorem opL_add (B : OpB X.prog X.w X.K X.mg X.base C "add" gL gR) (hr : Room 4 X.A) : OpR X (binaryOp .Add) (rOwn C (spBin C gL)) := by
  obtain ⟨f, g, fd, gd, F, b, G, c, o, oi⟩ := B.ex
  exact op_own (op := .Add) F o oi b hr
theorem opL_sub (B : OpB X.prog X.w X.K X.mg X.base C "sub" gL gR) (hr : Room 4 X.A) : OpR X (binaryOp .Sub) (rOwn C (spBin C gL)) := by
  obtain ⟨f, g, fd, gd, F, b, G, c, o, oi⟩ := B.ex
  exact op_own (op := .Sub) F o oi b hr
theorem opL_mul (B : OpB X.prog X.w X.K X.mg X.base C "mul" gL gR) (hr : Room 4 X.A) : OpR X (binaryOp .Mult) (rOwn C (spBin C gL)) := by
  obtain ⟨f, g, fd, gd, F, b, G, c, o, oi⟩ := B.ex
  exact op_own (op := .Mult) F o oi b hr
theorem opR_add (B : OpB X.prog X.w X.K X.mg X.base C "add" gL gR) (hr : Room 4 X.A) : OpR X (binaryOp .Add) (rOwnR C (spBin C gR)) := by
  obtain ⟨f, g, fd, gd, F, b, G, c, o, oi⟩ := B.ex
  exact op_ownR (op := .Add) G o oi B.sub PySem.F.slot_int_add PySem.F.fills_int_add no_add c hr
theorem opR_sub (B : OpB X.prog X.w X.K X.mg X.base C "sub" gL gR) (hr : Room 4 X.A) : OpR X (binaryOp .Sub) (rOwnR C (spBin C gR)) := by
  obtain ⟨f, g, fd, gd, F, b, G, c, o, oi⟩ := B.ex
  exact op_ownR (op := .Sub) G o oi B.sub PySem.F.slot_int_sub PySem.F.fills_int_sub no_sub c hr
theorem opR_mul (B : OpB X.prog X.w X.K X.mg X.base C "mul" gL gR) (hr : Room 4 X.A) : OpR X (binaryOp .Mult) (rOwnR C (spBin C gR)) := by
  obtain ⟨f, g, fd, gd, F, b, G, c, o, oi⟩ := B.ex
  exact op_ownR (op := .Mult) G o oi B.sub PySem.F.slot_int_mul PySem.F.fills_int_mul no_mul c hr
end
theorem made_z {C : Addr} {a b : Int} {H : Hp} {Z : VK} {x dx : Addr} (hx : H x = none) (hd : H dx = none) (ne : dx ≠ x) (hb : b ≠ 0) (ba : Bt 8000 a) (bb : Bt 8000 b) (q : ∀ H', Ex H H' → Rt C H' x (low a b).1 (low a b).2 → Z .non H') :
    spInit C [.ref x, .int a, .int b] (upd (upd H dx (.own x)) x (.ins C dx [])) Z E0 := by
  refine ⟨x, dx, a, b, rfl, upd_same, hb, ba, bb, fun H' k r => q H' (fun y o h => k y o (ne_of_none h hx) ?_) r⟩
  rw [upd_ne (ne_of_none h hx), upd_ne (ne_of_none h hd)]
  exact h
theorem bt0 : Bt 8000 0 := Bt.mono (n := 1) (show (0 : Int).natAbs < 2 ^ 1 by decide) (by decide)
/-- the sum of pairs, one by one -/
def sumP (f p : Int × Int) : Int × Int := low (f.1 * p.2 + p.1 * f.2) (f.2 * p.2)
def totalM (ps : List (Int × Int)) : Int × Int := ps.foldl sumP (0, 1)
structure Sm (ps : List (Int × Int)) : Prop where
  len : ps.length ≤ 10
  bt : ∀ p ∈ ps, Bt 140 p.1 ∧ Bt 140 p.2 ∧ 0 < p.2
theorem Sm.take {ps : List (Int × Int)} (h : Sm ps) : ∀ i, i ≤ ps.length → Bt (2 + 150 * i) (totalM (ps.take i)).1 ∧ Bt (2 + 150 * i) (totalM (ps.take i)).2 ∧ 0 < (totalM (ps.take i)).2
  | 0, _ => by
    rw [List.take_zero]
    exact ⟨show (0 : Int).natAbs < 2 ^ 2 by decide, show (1 : Int).natAbs < 2 ^ 2 by decide, by decide⟩
  | i + 1, hi => by
    obtain ⟨h1, h2, h3⟩ := h.take i (by omega)
    have hlt : i < ps.length := by omega
    obtain ⟨b1, b2, b3⟩ := h.bt ps[i] (List.getElem_mem hlt)
    have e : totalM (ps.take (i + 1)) = sumP (totalM (ps.take i)) ps[i] := by
      unfold totalM
      rw [List.take_add_one, List.getElem?_eq_getElem hlt, List.foldl_append]
      rfl
    rw [e]
    have pos : 0 < (totalM (ps.take i)).2 * ps[i].2 := Int.mul_pos h3 b3
    have k := low_bt (Bt.add (Bt.mul h1 b2) (Bt.mono (Bt.mul b1 h2) (show 140 + (2 + 150 * i) ≤ 2 + 150 * i + 140 by omega))) (Bt.mul h2 b2) (show (totalM (ps.take i)).2 * ps[i].2 ≠ 0 by omega)
    exact ⟨k.1.mono (by omega), k.2.mono (by omega), low_pos (by omega)⟩
/-- references to Ratios -/
def RtV (C : Addr) (p : Int × Int) (v : V) (H : Hp) : Prop := ∃ r, v = .ref r ∧ Rt C H r p.1 p.2
theorem Stab.rt {C : Addr} : Stab (RtV C) := ⟨fun _ _ _ _ e ⟨r, h1, h2⟩ => ⟨r, h1, h2.up e⟩, fun _ _ _ D _ _ hD ⟨r, h1, dx, h2⟩ => ⟨r, h1, dx, by
  have : r ≠ D := fun z => by rw [z, hD] at h2; cases h2
  rw [upd_ne this]; exact h2⟩⟩
theorem paired_at {α : Type} {F : α → V → Prop} : ∀ {ys : List α} {xs : List V}, Paired F ys xs → ∀ {i : Nat} {x : V}, xs[i]? = some x → ∃ y, ys[i]? = some y ∧ F y x
  | _, _, .nil, i, x, h => by simp at h
  | _, _, .cons (a := y) q t, 0, x, h => ⟨y, rfl, by simp at h; exact h ▸ q⟩
  | _, _, .cons q t, i + 1, x, h => by
    obtain ⟨y, h1, h2⟩ := paired_at t (i := i) (x := x) (by simpa using h)
    exact ⟨y, by simpa using h1, h2⟩
def RetO (C : Addr) (t b : Int) (H : Hp) (Q : VK) : Prop := ∀ x H', Ex H H' → Rt C H' x t b → Q (.ref x) H'
def spRatioOf (C : Addr) : Sp := fun vs H Q _ => ∃ (v : V) (t b : Int), vs = [v] ∧ Num C H v t b ∧ Bt 3000 t ∧ RetO C t b H Q
def spTotalOf (C : Addr) : Sp := fun vs H Q _ => ∃ (a : Addr) (xs : List V) (ps : List (Int × Int)), vs = [.ref a] ∧ H a = some (.lst xs) ∧ Paired (fun p v => RtV C p v H) ps xs ∧ Sm ps ∧ RetO C (totalM ps).1 (totalM ps).2 H Q
def spTotal (C : Addr) : Sp := fun vs H Q _ => ∃ (a : Addr) (xs : List V) (ps : List (Int × Int)), vs = [.ref C, .ref a] ∧ SqH H a xs ∧ Paired (fun (p : Int × Int) v => Num C H v p.1 p.2) ps xs ∧ Sm ps ∧ RetO C (totalM ps).1 (totalM ps).2 H Q
section
variable {P : Program} {w : World} {K : PySem.W.Frag} {mg : Str → Option Value} {base : Heap} {f C : Addr} {fd : FuncData}
end
end B71

namespace B71
open PySem PySem.Spec PyProof.Rows L2 Evl RZ SrtO
/-! ### data: pairs of ints, truth values -/
def pI (p : Int × Int) : PyData := .tuple [.int p.1, .int p.2]
theorem pI_lay (p : Int × Int) : (pI p).canLay0 = true := by simp [pI, PyData.canLay0, PyData.canLayAll0]
theorem pI_depth (p : Int × Int) : (pI p).depth ≤ 1 := by simp [pI, PyData.depth, PyData.depthAll]
theorem pI_sh (p : Int × Int) : SeqAt.shaped (pI p) = true := sh_of (pI_lay p) (by have := pI_depth p; omega)
theorem pI_eqv (p q : Int × Int) : PyData.eqv (pI p) (pI q) = decide (p = q) := by
  obtain ⟨a, b⟩ := p
  obtain ⟨c, d⟩ := q
  have e : PyData.eqv (pI (a, b)) (pI (c, d)) = ((a == c) && ((b == d) && true)) := by simp only [pI, PyData.eqv, PyData.eqvAll]
  rw [e]
  by_cases h1 : a = c
  · by_cases h2 : b = d
    · simp [h1, h2]
    · simp [h2]
  · simp [h1]
theorem psI_sh (l : List (Int × Int)) : SeqAt.shaped (.list (l.map pI)) = true := list_sh pI_lay pI_depth l
theorem psI_eqv (l m : List (Int × Int)) : PyData.eqv (.list (l.map pI)) (.list (m.map pI)) = decide (l = m) := by
  show PyData.eqvAll _ _ = _
  exact all_eqv pI_eqv l m
theorem bD_lay (b : Bool) : (PyData.bool b).canLay0 = true := by simp [PyData.canLay0]
theorem bD_depth (b : Bool) : (PyData.bool b).depth ≤ 1 := by simp [PyData.depth]
theorem bD_eqv (a b : Bool) : PyData.eqv (.bool a) (.bool b) = decide (a = b) := by
  show (a == b) = _
  cases a <;> cases b <;> rfl
theorem bs_sh (l : List Bool) : SeqAt.shaped (.list (l.map .bool)) = true := list_sh bD_lay bD_depth l
theorem bs_eqv (l m : List Bool) : PyData.eqv (.list (l.map .bool)) (.list (m.map .bool)) = decide (l = m) := by
  show PyData.eqvAll _ _ = _
  exact all_eqv bD_eqv l m
section
variable {K : PySem.W.Frag} {H : Hp}
theorem dp_b : ∀ l : List Bool, DpAll K H (l.map V.bl) (l.map .bool)
  | [] => .nil
  | b :: l => .cons (.bl b) (dp_b l)
theorem dp_bl {a : Addr} {l : List Bool} (h : H a = some (.lst (l.map V.bl))) : Dp K H (.ref a) (.list (l.map .bool)) := .lst (.inl (.inl h)) (dp_b l)
end
/-! ### lowest terms are lowest -/
theorem low_gcd {a b : Int} (h : b ≠ 0) : Nat.gcd (low a b).1.natAbs (low a b).2.natAbs = 1 := by
  obtain ⟨c, hc⟩ := gI_dvd_l a b
  obtain ⟨d, hd⟩ := gI_dvd_r a b
  have g0 := gI_ne (a := a) h
  have e1 : (low a b).1 = c := by
    have key : ∀ g : Int, g ≠ 0 → a = g * c → a.fdiv g = c := fun g h0 hb => by rw [hb, Int.mul_fdiv_cancel_left _ h0]
    exact key _ g0 hc
  have e2 : (low a b).2 = d := by
    have key : ∀ g : Int, g ≠ 0 → b = g * d → b.fdiv g = d := fun g h0 hb => by rw [hb, Int.mul_fdiv_cancel_left _ h0]
    exact key _ g0 hd
  rw [e1, e2]
  have hg := gI_abs a b
  have ha : a.natAbs = (gI a b).natAbs * c.natAbs := by
    have := congrArg Int.natAbs hc
    rwa [Int.natAbs_mul] at this
  have hb : b.natAbs = (gI a b).natAbs * d.natAbs := by
    have := congrArg Int.natAbs hd
    rwa [Int.natAbs_mul] at this
  rw [ha, hb, Nat.gcd_mul_left] at hg
  have gp : 0 < (gI a b).natAbs := Int.natAbs_pos.mpr g0
  exact Nat.eq_of_mul_eq_mul_left gp (by omega)
theorem low_same {t b : Int} (g : Nat.gcd t.natAbs b.natAbs = 1) (pb : 0 < b) : low t b = (t, b) := by
  have e : gI t b = 1 := by
    unfold gI
    rw [if_neg (by omega), g]
    rfl
  unfold low
  rw [e, Int.fdiv_one, Int.fdiv_one]
theorem low_like {t t' b : Int} (g : Nat.gcd t.natAbs b.natAbs = 1) (pb : 0 < b) (h : t'.natAbs = t.natAbs) : low t' b = (t', b) := low_same (by rw [h]; exact g) pb
/-! ### bundles -/
theorem rf_no {t b : Int} {m : Str} (h1 : (m == "own_top") = false) (h2 : (m == "own_bottom") = false) : (rf t b).lookup m = none := by
  unfold rf
  rw [List.lookup_cons, h1]
  show List.lookup m [(("own_bottom" : Str), V.int b)] = none
  rw [List.lookup_cons, h2]
  rfl
structure MeB (P : Program) (w : World) (K : PySem.W.Frag) (mg : Str → Option Value) (base : Heap) (C : Addr) (m : Str) (k : Nat) (ps : List Str) (sp : Sp) : Prop where
  ex : ∃ (f : Addr) (fd : FuncData), Meth K C m f ∧ FnOk P w K mg base CX0 k f fd ps sp ∧ Binds K fd ps []
structure TxB (P : Program) (w : World) (K : PySem.W.Frag) (mg : Str → Option Value) (base : Heap) (C : Addr) (m : Str) (g : Int → Int → Str) : Prop where
  ex : ∃ (f : Addr) (fd : FuncData), FnOk P w K mg base CX0 2 f fd ["self"] (spTxt C g) ∧ Binds K fd ["self"] [] ∧ PySem.W.findIn K (.ref C) m = some (some (.ref f)) ∧ PySem.W.isFn K (.ref f) = true
structure NeB (P : Program) (w : World) (K : PySem.W.Frag) (mg : Str → Option Value) (base : Heap) (C : Addr) : Prop where
  ex : ∃ (f : Addr) (fd : FuncData), FnOk P w K mg base CX0 4 f fd ["self"] (spUn C fun t => 0 - t) ∧ Binds K fd ["self"] [] ∧ PySem.W.findIn K (.ref C) "__neg__" = some (some (.ref f)) ∧ PySem.W.isFn K (.ref f) = true
structure EqB (P : Program) (w : World) (K : PySem.W.Frag) (mg : Str → Option Value) (base : Heap) (C : Addr) : Prop where
  ex : ∃ (f : Addr) (fd : FuncData), FnOk P w K mg base CX0 1 f fd ["self", "other"] (spEqR C) ∧ Binds K fd ["self", "other"] [] ∧ PySem.W.findIn K (.ref C) "__eq__" = some (some (.ref f)) ∧ PySem.W.isFn K (.ref f) = true
  nf : PySem.W.notFirst K C (.type "int") = true
  sub : PySem.W.subIn K (.ref C) (.type "int") = some false
  fne : PySem.W.findIn K (.ref C) "__ne__" = some (some (.builtin "object.__ne__"))
  obj : PySem.W.mroIn K C (.type "object") = some true
section
variable {X : Cx} {C : Addr} {g : Int → Int → Str}
theorem strO (B : TxB X.prog X.w X.K X.mg X.base C "__str__" g) (hr : Room 4 X.A) : CallR X (.type "str") (fun xs H Q => ∃ a dx fs, xs = [.ref a] ∧ H a = some (.ins C dx fs) ∧ spTxt C g [.ref a] H (StrP Q) E0) := by
  obtain ⟨f, fd, F, b, fe, fn⟩ := B.ex
  exact call_strOwn F fe fn b hr
theorem reprO (B : TxB X.prog X.w X.K X.mg X.base C "__repr__" g) (hr : Room 3 X.A) : CallR X (.builtin "repr") (fun xs H Q => ∃ a dx fs, xs = [.ref a] ∧ H a = some (.ins C dx fs) ∧ spTxt C g [.ref a] H (StrP Q) E0) := by
  obtain ⟨f, fd, F, b, fe, fn⟩ := B.ex
  exact call_reprOwn F fe fn b hr
theorem negO (B : NeB X.prog X.w X.K X.mg X.base C) (hr : Room 4 X.A) : UnR X (unaryOp .USub) (fun x H Q => IsOwn C H x ∧ spUn C (fun t => 0 - t) [x] H Q E0) := by
  obtain ⟨f, fd, F, b, fe, fn⟩ := B.ex
  exact op_ownNeg F fe fn b hr
theorem eqO (B : EqB X.prog X.w X.K X.mg X.base C) (hr : Room 1 X.A) : OpR X (compareOp .Eq) (rOwn C (spEqR C)) := by
  obtain ⟨f, fd, F, b, fe, fn⟩ := B.ex
  exact op_eqOwn F fe fn B.nf b hr
theorem eqRO (B : EqB X.prog X.w X.K X.mg X.base C) (hr : Room 1 X.A) : OpR X (compareOp .Eq) (rOwnR C (spEqR C)) := by
  obtain ⟨f, fd, F, b, fe, fn⟩ := B.ex
  exact op_eqRev F fe fn B.sub b hr
theorem neO (B : EqB X.prog X.w X.K X.mg X.base C) (hr : Room 2 X.A) : OpR X (compareOp .NotEq) (fun x y H Q => IsOwn C H x ∧ IsOwn C H y ∧ spEqR C [x, y] H (fun v H' => ∃ k, v = .bl k ∧ Q (.bl (!k)) H') E0) := by
  obtain ⟨f, fd, F, b, fe, fn⟩ := B.ex
  exact op_neOwn F fe fn B.fne B.obj b hr
end
/-- a property of the class -/
structure PrB (P : Program) (w : World) (K : PySem.W.Frag) (mg : Str → Option Value) (base : Heap) (C : Addr) (nm : Str) (g : Int → Int → V) : Prop where
  ex : ∃ (p fa : Addr) (fd : FuncData), PropOf K C nm p fa ∧ FnOk P w K mg base CX0 1 fa fd ["self"] (spGet C g) ∧ Binds K fd ["self"] []
theorem pe_prB {X : Cx} {C : Addr} {nm : Str} {g : Int → Int → V} {e : Expr} {te : TE} {pos : Pos} (B : PrB X.prog X.w X.K X.mg X.base C nm g) (cl : Cls X.K C) (hr : Room 2 X.A) (he : PE X e te) (hab : attributeBase e nm X.env (eval e X.env) = eval e X.env := by rfl) :
    PE X (.Attribute e nm pos) (tProp C (spGet C g) [] E0 te) := by
  obtain ⟨p, fa, fd, hp, F, b⟩ := B.ex
  exact pe_prop he cl hp F hr b .nil pass0 hab
/-! ### methods by position and by name -/
structure MeK (P : Program) (w : World) (K : PySem.W.Frag) (mg : Str → Option Value) (base : Heap) (C : Addr) (m kn : Str) (k : Nat) (ps : List Str) (sp : Sp) : Prop where
  ex : ∃ (f : Addr) (fd : FuncData), Meth K C m f ∧ FnOk P w K mg base CX0 k f fd ps sp ∧ ∀ s u v, BindsTo s fd ⟨[u], [(kn, v)]⟩ (ps.zip [u, v])
structure CmB (P : Program) (w : World) (K : PySem.W.Frag) (mg : Str → Option Value) (base : Heap) (C : Addr) (m : Str) (k : Nat) (ps : List Str) (sp : Sp) : Prop where
  ex : ∃ (mc : Value) (p g : Addr) (fd : FuncData), ClX.CRead K C mc ∧ ClX.CMet K C mc m p g ∧ FnOk P w K mg base CX0 k g fd ps sp ∧ Binds K fd ps []
structure CmK (P : Program) (w : World) (K : PySem.W.Frag) (mg : Str → Option Value) (base : Heap) (C : Addr) (m kn : Str) (k : Nat) (ps : List Str) (sp : Sp) : Prop where
  ex : ∃ (mc : Value) (p g : Addr) (fd : FuncData), ClX.CRead K C mc ∧ ClX.CMet K C mc m p g ∧ FnOk P w K mg base CX0 k g fd ps sp ∧ ∀ s u v, BindsTo s fd ⟨[u], [(kn, v)]⟩ (ps.zip [u, v])
structure MkK (P : Program) (w : World) (K : PySem.W.Frag) (mg : Str → Option Value) (base : Heap) (C : Addr) : Prop where
  ex : ∃ (f : Addr) (fd : FuncData) (g : List Value → List Value → List Value), Mk K C f ∧ FnOk P w K mg base CX0 2 f fd ["self", "top", "bottom"] (spInit C) ∧ KBn K fd ["self", "top", "bottom"] 1 ["top", "bottom"] g (fun vs zs => vs ++ zs)
  mgC : mg "Ratio" = some (.ref C)
section
variable {X : Cx} {C : Addr} {m kn : Str} {k : Nat} {ps : List Str} {sp : Sp} {o e : Expr} {es : List Expr} {kws : List Keyword} {ta : TE} {t tk : TA} {p apos pos : Pos} {pl : Sem Bool}
theorem pe_me (B : MeB X.prog X.w X.K X.mg X.base C m k ps sp) (cl : Cls X.K C) (hr : Room k X.A) (he : PE X o ta) (ha : PA X (e :: es) t)
    (hst : starEach (e :: es) X.env = (false, eval e X.env) :: starEach es X.env := by rfl) (hpl : (backTo pos (starEach es X.env)).any (·.1) = false := by rfl)
    (ht : eval (.Call (.Attribute o m apos) (e :: es) [] pos) X.env = (do
      let ov ← eval o X.env
      standAt apos.atName
      let (f, first) ← holding [ov] (getMethod ov m pl)
      callWith pos f first (backTo pos (starEach (e :: es) X.env)) (backToKw pos (keywordEach [] X.env))) := by rfl) :
    PE X (.Call (.Attribute o m apos) (e :: es) [] pos) (tMeth C m sp [] E0 ta t) := by
  obtain ⟨f, fd, mm, F, b⟩ := B.ex
  exact pe_meth he cl mm F hr b .nil pass0 ha hst hpl ht
theorem pe_me0 (B : MeB X.prog X.w X.K X.mg X.base C m k ps sp) (cl : Cls X.K C) (hr : Room k X.A) (he : PE X o ta)
    (ht : eval (.Call (.Attribute o m apos) [] [] pos) X.env = (do
      let ov ← eval o X.env
      standAt apos.atName
      let (f, first) ← holding [ov] (getMethod ov m pl)
      callWith pos f first (backTo pos (starEach [] X.env)) (backToKw pos (keywordEach [] X.env))) := by rfl) :
    PE X (.Call (.Attribute o m apos) [] [] pos) (tMeth C m sp [] E0 ta tNil) := by
  obtain ⟨f, fd, mm, F, b⟩ := B.ex
  exact pe_meth0 he cl mm F hr b .nil pass0 ht
def tMeK (C : Addr) (m : Str) (sp : Sp) (ta : TE) (tk : TA) : TE := fun σ H Q => ta σ H fun x H1 => ∃ a dx fs, x = .ref a ∧ H1 a = some (.ins C dx fs) ∧ fs.lookup m = none ∧ tk σ H1 fun zs H2 => ∃ z, zs = [z] ∧ sp [x, z] H2 Q E0
theorem pe_meK (B : MeK X.prog X.w X.K X.mg X.base C m kn k ps sp) (cl : Cls X.K C) (hr : Room k X.A) (he : PE X o ta) (hkw : PK X kws tk)
    (hall : (backToKw pos (keywordEach kws X.env)).all (·.1.isSome) = true := by rfl) (hks : (backToKw pos (keywordEach kws X.env)).filterMap (·.1) = [kn] := by rfl)
    (hpl : ((backTo pos (starEach [] X.env)).any (·.1) || (backToKw pos (keywordEach kws X.env)).any (·.1.isNone)) = false := by rfl)
    (ht : eval (.Call (.Attribute o m apos) [] kws pos) X.env = (do
      let ov ← eval o X.env
      standAt apos.atName
      let (f, first) ← holding [ov] (getMethod ov m pl)
      callWith pos f first (backTo pos (starEach [] X.env)) (backToKw pos (keywordEach kws X.env))) := by rfl) :
    PE X (.Call (.Attribute o m apos) [] kws pos) (tMeK C m sp ta tk) := by
  obtain ⟨f, fd, mm, F, b⟩ := B.ex
  refine ⟨fun pins s σ H Q I h => ?_⟩
  refine PySem.W.methodCall_KW (pl := pl) (thn (he.run pins s σ H _ I h) fun u s1 ⟨x, H1, I1, rx, a, dx, fs, ex, ea, l, q⟩ => ?_) ht
  subst ex
  obtain rfl : u = Value.ref a := rx
  refine getmeth_ok I1 ea cl mm l ?_
  refine PySem.W.callWith_KW0 (first := [.ref a]) (h₀ := X.base) I.ok.mod.kin mm.kp hall ?_ hpl
  refine thn (hkw.run pos pins s1 σ H1 _ I1 q) fun ws s2 ⟨zs, H2, I2, rz, z, e, q2⟩ => ⟨I2.kIn, ?_⟩
  rw [hks]
  subst e
  obtain ⟨u, rfl, ru⟩ := rz.one
  refine wpAny_call (codeAny_mono (F.run X.A X.stack s2 H2 ⟨[.ref a], [(kn, u)]⟩ [.ref a, u] [.ref a, z] Q E0 hr I2.env0 (b s2 (.ref a) u) (.cons rfl (.cons ru .nil)) q2) fun r s' hq => ?_)
  cases r with
  | error e => exact pass0 pins σ H2 s2 e s' I2 hq
  | ok fl =>
    cases fl with
    | ret u => exact I2.after hq
    | next => exact False.elim hq
    | brk => exact False.elim hq
    | cont => exact False.elim hq
theorem pe_cmB (B : CmB X.prog X.w X.K X.mg X.base C m k ps sp) (hr : Room k X.A) (he : PE X o ta) (ha : PA X (e :: es) t)
    (hst : starEach (e :: es) X.env = (false, eval e X.env) :: starEach es X.env := by rfl) (hpl : (backTo pos (starEach es X.env)).any (·.1) = false := by rfl)
    (ht : eval (.Call (.Attribute o m apos) (e :: es) [] pos) X.env = (do
      let ov ← eval o X.env
      standAt apos.atName
      let (f, first) ← holding [ov] (getMethod ov m pl)
      callWith pos f first (backTo pos (starEach (e :: es) X.env)) (backToKw pos (keywordEach [] X.env))) := by rfl) :
    PE X (.Call (.Attribute o m apos) (e :: es) [] pos) (fun σ H Q => ta σ H fun x H1 => x = .ref C ∧ t σ H1 fun vs H2 => sp (.ref C :: vs) H2 Q E0) := by
  obtain ⟨mc, p, g, fd, r, c, F, b⟩ := B.ex
  have F' : FnR X.prog X.w X.K X.mg X.base CX0 k g sp := FnR.imp (F.raw b .nil) fun vs H Q E h => by rw [List.append_nil]; exact h
  exact ClX.pe_cmeth he r c F' hr pass0 ha hst hpl ht
theorem pe_cmK (B : CmK X.prog X.w X.K X.mg X.base C m kn k ps sp) (hr : Room k X.A) (he : PE X o ta) (hkw : PK X kws tk)
    (hall : (backToKw pos (keywordEach kws X.env)).all (·.1.isSome) = true := by rfl) (hks : (backToKw pos (keywordEach kws X.env)).filterMap (·.1) = [kn] := by rfl)
    (hpl : ((backTo pos (starEach [] X.env)).any (·.1) || (backToKw pos (keywordEach kws X.env)).any (·.1.isNone)) = false := by rfl)
    (ht : eval (.Call (.Attribute o m apos) [] kws pos) X.env = (do
      let ov ← eval o X.env
      standAt apos.atName
      let (f, first) ← holding [ov] (getMethod ov m pl)
      callWith pos f first (backTo pos (starEach [] X.env)) (backToKw pos (keywordEach kws X.env))) := by rfl) :
    PE X (.Call (.Attribute o m apos) [] kws pos) (fun σ H Q => ta σ H fun x H1 => x = .ref C ∧ tk σ H1 fun zs H2 => ∃ z, zs = [z] ∧ sp [.ref C, z] H2 Q E0) := by
  obtain ⟨mc, p, g, fd, r, c, F, b⟩ := B.ex
  refine ⟨fun pins s σ H Q I h => ?_⟩
  refine PySem.W.methodCall_KW (pl := pl) (thn (he.run pins s σ H _ I h) fun u s1 ⟨x, H1, I1, rx, ex, q⟩ => ?_) ht
  subst ex
  obtain rfl : u = Value.ref C := rx
  refine ClX.getmethcm_ok I1 r c fun s2 I2 => ?_
  refine PySem.W.callWith_of (P := PySem.W.MethP X.K s1.heap.objs.size g (.ref C)) hpl (PySem.W.keeps_M c.fi) (evalArgs_kw2_nil hall (thn (hkw.run pos _ s2 σ H1 _ I2 q) fun ws s3 ⟨zs, H2, I3, rz, z, e, q2⟩ => ⟨⟨ClX.pin_at I3, I3.kIn⟩, ?_⟩))
  rw [hks]
  subst e
  obtain ⟨u, rfl, ru⟩ := rz.one
  have zz : wpAny (model X.prog X.w) X.A (call (.ref s1.heap.objs.size) [] [(kn, u)]) (EP X ((s1.heap.objs.size, PySem.W.methodObj (.ref g) (.ref C)) :: pins) σ Q) X.xe s3 := by
    refine wpAny_call (PySem.W.method_call (ClX.pin_at I3) (codeAny_mono (F.run X.A X.stack s3 H2 ⟨[.ref C], [(kn, u)]⟩ [.ref C, u] [.ref C, z] Q E0 hr I3.env0 (b s3 (.ref C) u) (.cons rfl (.cons ru .nil)) q2) fun r s' hq => ?_))
    cases r with
    | error e => exact pass0 _ σ H2 s3 e s' I3 hq
    | ok fl =>
      cases fl with
      | ret u => exact I3.after hq
      | next => exact False.elim hq
      | brk => exact False.elim hq
      | cont => exact False.elim hq
  exact thn zz fun _ _ y => ClX.unpinE y
theorem pe_ratK (M : MkK X.prog X.w X.K X.mg X.base C) (hr : Room 3 X.A) (hkw : PK X kws tk) (hg : Gl X "Ratio" := by rfl)
    (hall : (backToKw pos (keywordEach kws X.env)).all (·.1.isSome) = true := by rfl) (hks : (backToKw pos (keywordEach kws X.env)).filterMap (·.1) = (["top", "bottom"] : List Str) := by rfl)
    (hpl : ((backTo pos (starEach [] X.env)).any (·.1) || (backToKw pos (keywordEach kws X.env)).any (·.1.isNone)) = false := by rfl) :
    PE X (.Call (.Name "Ratio" p) [] kws pos) (tMakeK C 0 2 (spInit C) (fun vs zs => vs ++ zs) E0 tNil tk) := by
  obtain ⟨f, fd, g, m, F, b⟩ := M.ex
  exact pe_makeK0 (E := E0) m F hr hg M.mgC b pass0 hkw hall hks (by decide) hpl
end
end B71

namespace B71
open PySem PySem.Spec PyProof.Rows L2 Evl RZ SrtO
/-! ### nested values with Ratios at their leaves -/
inductive Tr where
  | non
  | bl (b : Bool)
  | int (i : Int)
  | str (x : Str)
  | rat (t b : Int)
  | lst (l : List Tr)
  | tup (l : List Tr)
  | dk (ks : List Nat)
  | dt (ps : List (Nat × Nat))
/-- dicts of Trues -/
def kB (ks : List Nat) : List (Key × V) := ks.map fun (c : Nat) => (.inl (c : Int), .bl true)
def kP (ps : List (Nat × Nat)) : List (List Key × V) := ps.map fun p => ([.inl (p.1 : Int), .inl (p.2 : Int)], .bl true)
theorem kB_inj : ∀ {a b : List Nat}, kB a = kB b → a = b
  | [], [], _ => rfl
  | [], y :: b, h => absurd (congrArg List.length h) (by simp [kB])
  | x :: a, [], h => absurd (congrArg List.length h) (by simp [kB])
  | x :: a, y :: b, h => by
    unfold kB at h
    rw [List.map_cons, List.map_cons] at h
    injection h with h1 h2
    injection h1 with h1 _
    injection h1 with h1
    rw [kB_inj h2, Int.ofNat.inj h1]
theorem kP_inj : ∀ {a b : List (Nat × Nat)}, kP a = kP b → a = b
  | [], [], _ => rfl
  | [], y :: b, h => absurd (congrArg List.length h) (by simp [kP])
  | x :: a, [], h => absurd (congrArg List.length h) (by simp [kP])
  | (x, x') :: a, (y, y') :: b, h => by
    unfold kP at h
    rw [List.map_cons, List.map_cons] at h
    injection h with h1 h2
    injection h1 with h1 _
    injection h1 with h1 h3
    injection h3 with h3 _
    injection h1 with h1
    injection h3 with h3
    have e1 : x = y := Int.ofNat.inj h1
    have e2 : x' = y' := Int.ofNat.inj h3
    rw [kP_inj h2, e1, e2]
mutual
inductive TrV (C : Addr) (H : Hp) : V → Tr → Prop
  | non : TrV C H .non .non
  | bl (b : Bool) : TrV C H (.bl b) (.bl b)
  | int (i : Int) : TrV C H (.int i) (.int i)
  | str (x : Str) : TrV C H (.str x) (.str x)
  | rat {a : Addr} {t b : Int} : Rt C H a t b → TrV C H (.ref a) (.rat t b)
  | lst {a : Addr} {xs : List V} {l : List Tr} : H a = some (.lst xs) → TrVs C H xs l → TrV C H (.ref a) (.lst l)
  | tup {a : Addr} {xs : List V} {l : List Tr} : H a = some (.tup xs) → TrVs C H xs l → TrV C H (.ref a) (.tup l)
  | dk {a : Addr} {ks : List Nat} : H a = some (.dK (kB ks)) → TrV C H (.ref a) (.dk ks)
  | dt {a : Addr} {ps : List (Nat × Nat)} : H a = some (.dT (kP ps)) → TrV C H (.ref a) (.dt ps)
inductive TrVs (C : Addr) (H : Hp) : List V → List Tr → Prop
  | nil : TrVs C H [] []
  | cons {v : V} {vs : List V} {t : Tr} {l : List Tr} : TrV C H v t → TrVs C H vs l → TrVs C H (v :: vs) (t :: l)
end
mutual
def Tr.text : Tr → Str
  | .non => "None"
  | .bl b => if b then "True" else "False"
  | .int i => toString i
  | .str x => reprText x
  | .rat t b => sR t b
  | .lst l => listText (textAll l)
  | .tup l => tupleText (textAll l)
  | .dk ks => dictText (ks.map fun (c : Nat) => toString (c : Int) ++ (": " : Str) ++ "True")
  | .dt ps => dictText (ps.map fun p => tupleText [toString (p.1 : Int), toString (p.2 : Int)] ++ (": " : Str) ++ "True")
def textAll : List Tr → List Str
  | [] => []
  | t :: l => t.text :: textAll l
end
mutual
def Tr.dep : Tr → Nat
  | .lst l => depAll l + 1
  | .tup l => depAll l + 1
  | .non => 0
  | .bl _ => 0
  | .int _ => 0
  | .str _ => 0
  | .rat _ _ => 0
  | .dk _ => 0
  | .dt _ => 2
def depAll : List Tr → Nat
  | [] => 0
  | t :: l => max t.dep (depAll l)
end
/-! leaves that can be shown -/
mutual
def Tr.Fit : Tr → Prop
  | .int i => i.natAbs.log2 < 1920
  | .str x => (reprText x).length ≤ sizeLine
  | .rat t b => Bt 190 t ∧ Bt 190 b
  | .lst l => FitAll l
  | .tup l => FitAll l
  | .non => True
  | .bl _ => True
  | .dk ks => ks.length ≤ 100 ∧ ∀ c ∈ ks, c < 100
  | .dt ps => ps.length ≤ 100 ∧ ∀ p ∈ ps, p.1 < 100 ∧ p.2 < 100
def FitAll : List Tr → Prop
  | [] => True
  | t :: l => t.Fit ∧ FitAll l
end
theorem text_len : ∀ l : List Tr, (textAll l).length = l.length
  | [] => rfl
  | _ :: l => by rw [textAll, List.length_cons, List.length_cons, text_len l]
theorem TrVs.len {C : Addr} {H : Hp} : ∀ {xs : List V} {l : List Tr}, TrVs C H xs l → l.length = xs.length
  | _, _, .nil => rfl
  | _, _, .cons _ q => by rw [List.length_cons, List.length_cons, q.len]
theorem TrVs.at_ {C : Addr} {H : Hp} : ∀ {xs : List V} {l : List Tr}, TrVs C H xs l → ∀ {i : Nat} {x : V}, xs[i]? = some x → ∃ t, l[i]? = some t ∧ TrV C H x t
  | _, _, .nil, i, x, h => by simp at h
  | _, _, .cons (t := t) q r, 0, x, h => ⟨t, rfl, by simp at h; exact h ▸ q⟩
  | _, _, .cons q r, i + 1, x, h => by
    obtain ⟨t, h1, h2⟩ := r.at_ (i := i) (x := x) (by simpa using h)
    exact ⟨t, by simpa using h1, h2⟩
theorem text_at : ∀ {l : List Tr} {i : Nat} {t : Tr}, l[i]? = some t → (textAll l)[i]? = some t.text
  | [], i, t, h => by simp at h
  | x :: l, 0, t, h => by simp at h; subst h; rfl
  | x :: l, i + 1, t, h => by
    rw [textAll]
    simpa using text_at (l := l) (i := i) (t := t) (by simpa using h)
theorem fit_at : ∀ {l : List Tr} {i : Nat} {t : Tr}, l[i]? = some t → FitAll l → t.Fit
  | [], i, t, h, _ => by simp at h
  | x :: l, 0, t, h, f => by
    simp at h; subst h
    rw [FitAll] at f
    exact f.1
  | x :: l, i + 1, t, h, f => by
    rw [FitAll] at f
    exact fit_at (l := l) (i := i) (by simpa using h) f.2
theorem dep_at : ∀ {l : List Tr} {i : Nat} {t : Tr}, l[i]? = some t → t.dep ≤ depAll l
  | [], i, t, h => by simp at h
  | x :: l, 0, t, h => by
    simp at h; subst h
    rw [depAll]
    exact Nat.le_max_left _ _
  | x :: l, i + 1, t, h => by
    rw [depAll]
    exact Nat.le_trans (dep_at (l := l) (i := i) (by simpa using h)) (Nat.le_max_right _ _)
section
variable {C : Addr} {H H' : Hp}
mutual
theorem TrV.up (e : Ex H H') : ∀ (t : Tr) (v : V), TrV C H v t → TrV C H' v t
  | .non, _, h => by cases h; exact .non
  | .bl b, _, h => by cases h; exact .bl b
  | .int i, _, h => by cases h; exact .int i
  | .str x, _, h => by cases h; exact .str x
  | .rat t b, _, h => by cases h with | rat h => exact .rat (h.up e)
  | .lst l, _, h => by cases h with | lst h q => exact .lst (e _ _ h) (TrVs.up e l _ q)
  | .tup l, _, h => by cases h with | tup h q => exact .tup (e _ _ h) (TrVs.up e l _ q)
  | .dk ks, _, h => by cases h with | dk h => exact .dk (e _ _ h)
  | .dt ps, _, h => by cases h with | dt h => exact .dt (e _ _ h)
theorem TrVs.up (e : Ex H H') : ∀ (l : List Tr) (vs : List V), TrVs C H vs l → TrVs C H' vs l
  | [], _, h => by cases h; exact .nil
  | t :: l, _, h => by cases h with | cons h q => exact .cons (TrV.up e t _ h) (TrVs.up e l _ q)
end
mutual
theorem TrV.uniq : ∀ (t t' : Tr) (v : V), TrV C H v t → TrV C H v t' → t = t'
  | .non, t', _, h, h' => by cases h; cases h'; rfl
  | .bl b, t', _, h, h' => by cases h; cases h'; rfl
  | .int i, t', _, h, h' => by cases h; cases h'; rfl
  | .str x, t', _, h, h' => by cases h; cases h'; rfl
  | .rat t b, t', _, h, h' => by
    cases h with
    | rat h =>
      obtain ⟨dx, h⟩ := h
      cases h' with
      | rat h2 =>
        obtain ⟨dx2, h2⟩ := h2
        rw [h] at h2
        have z := Option.some.inj h2
        injection z with _ _ z
        unfold rf at z
        injection z with z1 z2
        injection z1 with _ z1
        injection z1 with z1
        injection z2 with z2 _
        injection z2 with _ z2
        injection z2 with z2
        subst z1
        subst z2
        rfl
      | lst h2 => rw [h] at h2; cases h2
      | tup h2 => rw [h] at h2; cases h2
      | dk h2 => rw [h] at h2; cases h2
      | dt h2 => rw [h] at h2; cases h2
  | .lst l, t', _, h, h' => by
    cases h with
    | lst h q =>
      cases h' with
      | rat h2 => obtain ⟨dx2, h2⟩ := h2; rw [h] at h2; cases h2
      | lst h2 q2 =>
        rw [h] at h2
        cases h2
        rw [TrVs.uniq l _ _ q q2]
      | tup h2 => rw [h] at h2; cases h2
      | dk h2 => rw [h] at h2; cases h2
      | dt h2 => rw [h] at h2; cases h2
  | .tup l, t', _, h, h' => by
    cases h with
    | tup h q =>
      cases h' with
      | rat h2 => obtain ⟨dx2, h2⟩ := h2; rw [h] at h2; cases h2
      | lst h2 => rw [h] at h2; cases h2
      | tup h2 q2 =>
        rw [h] at h2
        cases h2
        rw [TrVs.uniq l _ _ q q2]
      | dk h2 => rw [h] at h2; cases h2
      | dt h2 => rw [h] at h2; cases h2
  | .dk ks, t', _, h, h' => by
    cases h with
    | dk h =>
      cases h' with
      | rat h2 => obtain ⟨dx2, h2⟩ := h2; rw [h] at h2; cases h2
      | lst h2 => rw [h] at h2; cases h2
      | tup h2 => rw [h] at h2; cases h2
      | dk h2 =>
        rw [h] at h2
        injection h2 with h2
        injection h2 with h2
        rw [kB_inj h2]
      | dt h2 => rw [h] at h2; cases h2
  | .dt ps, t', _, h, h' => by
    cases h with
    | dt h =>
      cases h' with
      | rat h2 => obtain ⟨dx2, h2⟩ := h2; rw [h] at h2; cases h2
      | lst h2 => rw [h] at h2; cases h2
      | tup h2 => rw [h] at h2; cases h2
      | dk h2 => rw [h] at h2; cases h2
      | dt h2 =>
        rw [h] at h2
        injection h2 with h2
        injection h2 with h2
        rw [kP_inj h2]
theorem TrVs.uniq : ∀ (l l' : List Tr) (vs : List V), TrVs C H vs l → TrVs C H vs l' → l = l'
  | [], _, _, h, h' => by cases h; cases h'; rfl
  | t :: l, _, _, h, h' => by
    cases h with
    | cons h q =>
      cases h' with
      | cons h' q' => rw [TrV.uniq t _ _ h h', TrVs.uniq l _ _ q q']
end
end
end B71

namespace B71
open PySem PySem.Spec PyProof.Rows L2 Evl RZ SrtO
/-! ### repr of nested values -/
theorem sub_under {X : Cx} {n : Nat} {A : Around} {id : String} {args : Args} (sb : Sub X (n + 1) A) (h1 : (Code.builtin id args).frames = 0) (h2 : (Code.builtin id args).isCreation = false) (h3 : (Code.builtin id args).isCaller = false) : Sub X n (A.under (.builtin id args)) := by
  have hw : (Code.builtin id args).weight ≤ 1 := by
    unfold Code.weight
    rw [h1, h2, h3]
    simp only [Bool.false_eq_true, if_false]
    split <;> omega
  have hu : (Code.builtin id args).cUnits = 1 := by
    show 1 + 3 * (Code.builtin id args).frames = 1
    rw [h1]
  refine ⟨⟨sb.room.hd, ?_, ?_⟩, sb.fr⟩
  · have := sb.room.dp
    show A.depth + (Code.builtin id args).weight + 3 * n + 5 < _
    omega
  · have := sb.room.un
    show A.units + (Code.builtin id args).cUnits + 16 * n + 200 < _
    omega
theorem sub_loop {X : Cx} {n : Nat} {A : Around} {args : Args} (sb : Sub X (n + 1) A) : Sub X n (A.under (.builtin "list.__repr__.loop" args)) := sub_under sb rfl rfl rfl
theorem sub_tup {X : Cx} {n : Nat} {A : Around} {args : Args} (sb : Sub X (n + 1) A) : Sub X n (A.under (.builtin "tuple.__repr__" args)) := sub_under sb rfl rfl rfl
theorem sub_tupU {X : Cx} {n : Nat} {A : Around} {args : Args} (sb : Sub X (n + 1) A) : Sub X n (A.under (.builtin "tuple.__repr__.under" args)) := sub_under sb rfl rfl rfl
/-- every repr under way is of a container deeper than n -/
def Clr (C : Addr) (H : Hp) (n : Nat) (g : List Code) : Prop := ∀ id v rest kw, Code.builtin id ⟨v :: rest, kw⟩ ∈ g → ∃ a t, v = .ref a ∧ TrV C H (.ref a) t ∧ n < t.dep
theorem Clr.clear {C : Addr} {H : Hp} {n : Nat} {g : List Code} {b : Addr} {t : Tr} (c : Clr C H n g) (h : TrV C H (.ref b) t) (hd : t.dep ≤ n) : Clear g b := by
  intro id v rest kw hm z
  obtain ⟨a, t', rfl, h', hn⟩ := c id v rest kw hm
  cases z
  rw [TrV.uniq _ _ _ h h'] at hd
  omega
theorem Clr.up {C : Addr} {H H' : Hp} {n : Nat} {g : List Code} (c : Clr C H n g) (e : Ex H H') : Clr C H' n g := fun id v rest kw hm => by
  obtain ⟨a, t, h1, h2, h3⟩ := c id v rest kw hm
  exact ⟨a, t, h1, TrV.up e _ _ h2, h3⟩
theorem Clr.push {C : Addr} {H : Hp} {n m : Nat} {g : List Code} {a : Addr} {t : Tr} {id : String} {rest : List Value} {kw : List (Str × Value)} (c : Clr C H m g) (h : TrV C H (.ref a) t) (hn : n < t.dep) (hm : n ≤ m) : Clr C H n (.builtin id ⟨.ref a :: rest, kw⟩ :: g) := by
  intro id' v rest' kw' hmem
  rcases List.mem_cons.mp hmem with e | hmem
  · cases e
    exact ⟨a, t, rfl, h, hn⟩
  · obtain ⟨b, u, h1, h2, h3⟩ := c id' v rest' kw' hmem
    exact ⟨b, u, h1, h2, by omega⟩
theorem strs_of : ∀ {l : List Str} {its : List Value}, Vals (l.map V.str) its → ∃ done : List (Str × Tok), its = strValues done ∧ done.map (·.1) = l
  | [], _, h => by cases h; exact ⟨[], rfl, rfl⟩
  | x :: l, _, h => by
    cases h with
    | cons r q =>
      obtain ⟨t, rfl⟩ := r
      obtain ⟨done, rfl, rfl⟩ := strs_of q
      exact ⟨(x, t) :: done, rfl, rfl⟩
/-- how v is shown wherever H0 holds, in n levels -/
def ShE (X : Cx) (C : Addr) (n : Nat) (H0 : Hp) (v : V) (d : Nat) (x : Str) : Prop :=
  ∀ (b : Nat) (A : Around) (g : List Code) (pins : List (Addr × Obj)) (s : Shared) (σ : L2.St) (H : Hp) (u : Value) (E : Value → Shared → Prop) (Q : Str → Shared → Prop), b + x.length ≤ sizeLine → Sub X n A → A.guards = some g → Clr C H d g → Ex H0 H → Inv X pins σ H s → RelV v u →
    (∀ H' s', Ex H H' → Inv X pins σ H' s' → Q x s') → wpAny (model X.prog X.w) A (pyReprUnder b u) Q E s
section
variable {X : Cx} {C : Addr}
theorem ShE.leaf {n d : Nat} {H0 : Hp} {v : V} {x : Str} (h : ∀ u, RelV v u → ReprIs X.prog X.w u x) : ShE X C n H0 v d x := by
  intro b A g pins s σ H u E Q hb sb hg hc e0 I r q
  exact h u r b hb A E s Q fun tk => q H _ (Ex.refl _) (I.tok tk)
theorem ifBoundBy_K {M : Model} {A : Around} {E : Value → Shared → Prop} {s : Shared} {K : PySem.W.Frag} {x D f : Addr} {ox : Obj} {od : Option Obj} {name : Str} {last : Value → List Value → Sem Value} {Q : Option Value → Shared → Prop} (hK : K.In s.heap) (J : PySem.W.InstAt s.heap x ox D od) (hs : PySem.W.findIn K (.ref D) name = some (some (.ref f))) (hf : PySem.W.isFn K (.ref f) = true)
    (h : wpAny M A (last (.ref f) [.ref x]) (fun v => Q (some v)) E s) : wpAny M A (callSpecialIfBoundBy? last (.ref x) name) Q E s := by
  simp only [callSpecialIfBoundBy?, bindSpecialIfBound?]
  have ends : wpAny M A (last (.ref f) [.ref x] >>= fun v => (pure (some v) : Sem (Option Value))) Q E s :=
    wpAny_bind (wpAny_mono h (fun v s' z => wpAny_pure z) fun _ _ z => z)
  have bnd := PySem.W.bind_fn (M := M) hK (.ref x) (beq_iff_eq.mp hf)
  refine wpAny_holding (wpAny_bind (wpAny_bind (wpAny_bind (J.type.here ((PySem.W.looks_findIn hK hs).here ?_)))))
  refine wpAny_bind (wpAny_askSetting (wpAny_ite ?_))
  split
  · exact wpAny_bind (bnd.here (wpAny_pure (by exact ends)))
  · exact wpAny_tryCatch (wpAny_bind (bnd.here (wpAny_pure (by exact ends))))
theorem ShE.own {n d : Nat} {H0 : Hp} {a : Addr} {t b : Int} (B : TxB X.prog X.w X.K X.mg X.base C "__repr__" sR) (hn : 3 ≤ n) (h : Rt C H0 a t b) (bt : Bt 190 t) (bb : Bt 190 b) : ShE X C n H0 (.ref a) d (sR t b) := by
  intro k A g pins s σ H u E Q hb sb hg hc e0 I r q
  obtain ⟨f, fd, F, bd, fe, fn⟩ := B.ex
  obtain rfl : u = Value.ref a := r
  have hr := h.up e0
  obtain ⟨dx, ha⟩ := id hr
  obtain ⟨mA, J, _⟩ := ins_get I.hok ha
  obtain ⟨od, J, _⟩ := J.look
  refine wpAny_pyReprUnder_ref (by omega) ?_
  unfold pyReprObjUnder pyReprObjBy
  have sb2 : Sub X 2 A := sb.mono (by omega)
  refine wpAny_bind (m := cRoomFor _ _) (wpAny_cRoomFor sb2.room.units0 ?_)
  have M1 : PySem.W.Looks (model X.prog X.w) s.heap (typeOf (.ref a)) (.ref C) := J.type
  have M2 : PySem.W.Looks (model X.prog X.w) s.heap (typeLookup (.ref C) "__repr__") (some (.ref f)) := PySem.W.looks_findIn I.kIn fe
  refine wpAny_bind (m := specialOf (.ref a) _) ?_
  unfold specialOf
  refine wpAny_bind (M1.here (M2.here ?_))
  refine wpAny_bind (ifBoundBy_K (name := Str.ofString "__repr__") I.kIn J fe fn ?_)
  have run := own_run (X := X.wish E) (A := A) (pins := pins) (σ := σ) (Q := fun v H' => v = .str (sR t b) ∧ Ex H H') (vs := [.ref a]) F bd sb2.room sb2.fr (I.wish E) (.cons rfl .nil) ⟨a, t, b, rfl, hr, bt, bb, fun H' e => ⟨rfl, e⟩⟩
  refine wpAny_mono run (fun v s' hv => ?_) fun _ _ z => z
  obtain ⟨v', H', I', r', rfl, e⟩ := hv
  obtain ⟨tk, rfl⟩ := r'
  refine wpAny_bind (wpAny_isInstance (T := "str") (b := true) (typeIs_str _ _ _) isSubtype_str_str ?_)
  exact wpAny_pure ⟨_, _, rfl, q H' s' e I'.unwish⟩
theorem vals_at : ∀ {xs : List V} {us : List Value}, Vals xs us → ∀ {i : Nat} {x : V}, xs[i]? = some x → ∃ u, us[i]? = some u ∧ RelV x u
  | _, _, .nil, i, x, h => by simp at h
  | _, _, .cons (b := u) q t, 0, x, h => ⟨u, rfl, by simp at h; exact h ▸ q⟩
  | _, _, .cons q t, i + 1, x, h => by
    obtain ⟨u, h1, h2⟩ := vals_at t (i := i) (x := x) (by simpa using h)
    exact ⟨u, by simpa using h1, h2⟩
theorem list_loop {a P : Addr} {xs : List V} {ts : List Str} {l : List Tr} {n m b : Nat} {H0 : Hp} {A : Around} {g : List Code} {pins : List (Addr × Obj)} {σ : L2.St} {R : Result → Shared → Prop}
    (ht : TrV C H0 (.ref a) (.lst l)) (ha : H0 a = some (.lst xs)) (hl : ts.length = xs.length) (hP : H0 P = none) (el : ∀ (i : Nat) x t, xs[i]? = some x → ts[i]? = some t → ShE X C n H0 x (depAll l) t)
    (sb : Sub X (n + 1) A) (hg : A.guards = some g) (hsz : b + (listText ts).length ≤ sizeLine) (cl : Clr C H0 m g) (hm : depAll l ≤ m) (ends : ∀ H' s' u, Ex H0 H' → Inv X pins σ H' s' → R (.ok (.ret (.str (listText ts) u))) s') :
    ∀ (k i : Nat) (H : Hp) (s : Shared), xs.length - i = k → i ≤ xs.length → Ex H0 H → H P = some (.lst ((ts.take i).map V.str)) → Inv X pins σ H s →
      codeAny (model X.prog X.w) A (.builtin "list.__repr__.loop" ⟨[.ref a, rawInt i, .ref P, rawInt ((b + piled (ts.take i) : Nat) : Int)], []⟩) R s := by
  have lens := textFrom_len ts 0 "["
  have full : (listText ts).length = (textFrom 0 "[" ts).length + 1 := by
    show (textFrom 0 "[" ts ++ "]").length = _
    rw [strLen_append]; rfl
  have heap_ := piled_le_listText ts
  have each : ∀ t ∈ ts, t.length ≤ sizeLine := fun t h => by
    have := lens.2.1 t h
    omega
  have small : xs.length ≤ sizeLine := by
    have := lens.1
    rw [if_neg (Nat.lt_irrefl 0)] at this
    omega
  intro k
  induction k with
  | zero =>
    intro i H s hk hi e0 hp I
    obtain rfl : i = xs.length := by omega
    obtain ⟨_, its, na, rs, ln, oa⟩ := I.lstM (e0 _ _ ha)
    obtain ⟨_, parts, np, rp, _, op⟩ := I.lstM hp
    obtain ⟨done, rfl, hd⟩ := strs_of rp
    refine codeAny_builtin F.entry_list_repr_loop ?_
    show wpAny _ _ (Builtin.«list.__repr__.loop» ⟨[.ref a, .int (xs.length : Nat) 0, .ref P, .int ((b + piled (ts.take xs.length) : Nat) : Int) 0], []⟩) _ _ s
    rw [repr_loop_tree]
    refine wpAny_bind (wpAny_listItems oa rfl ?_)
    have none_ : its.toArray[((xs.length : Nat) : Int).toNat]? = none := by simp [ln]
    rw [none_]
    dsimp only
    unfold reprEnd
    refine wpAny_bind (wpAny_listItems op rfl ?_)
    rw [show (strValues done).toArray.toList = strValues done from rfl, repr_fold, hd, ← hl, List.take_length]
    refine wpAny_bind (wpAny_pure ?_)
    refine wpAny_bind (wpAny_mkStr (wpAny_pure ?_) (by show (listText ts).length ≤ sizeLine; omega))
    exact ends H _ _ e0 (I.tok _)
  | succ k ih =>
    intro i H s hk hi e0 hp I
    have hlt : i < xs.length := by omega
    have hx : xs[i]? = some xs[i] := List.getElem?_eq_getElem hlt
    have ht2 : ts[i]? = some ts[i] := List.getElem?_eq_getElem (by omega)
    obtain ⟨_, its, na, rs, ln, oa⟩ := I.lstM (e0 _ _ ha)
    obtain ⟨u, hu, ru⟩ := vals_at rs hx
    have more := piled_take_succ ht2
    have most := piled_take_le ts (i + 1)
    refine codeAny_builtin F.entry_list_repr_loop ?_
    show wpAny _ _ (Builtin.«list.__repr__.loop» ⟨[.ref a, .int i 0, .ref P, .int ((b + piled (ts.take i) : Nat) : Int) 0], []⟩) _ _ s
    rw [repr_loop_tree]
    refine wpAny_bind (wpAny_listItems oa rfl ?_)
    have some_ : its.toArray[((i : Nat) : Int).toNat]? = some u := by simpa using hu
    rw [some_]
    dsimp only
    rw [Int.toNat_natCast]
    have cl' := (cl.up e0).push (n := depAll l) (id := "list.__repr__.loop") (rest := [.int i 0, .ref P, .int ((b + piled (ts.take i) : Nat) : Int) 0]) (kw := []) (TrV.up e0 _ _ ht) (by show depAll l < Tr.dep (.lst l); rw [Tr.dep]; omega) hm
    refine wpAny_bind (wpAny_holding (el i _ _ hx ht2 (b + piled (ts.take i) + 1) _ _ pins s σ H u _ _ (by omega) (sub_loop sb) (guards_under_guard (isGuard_list_loop _) hg) cl' e0 I ru fun H2 s2 e2 I2 => ?_))
    refine wpAny_bind (wpAny_mkStr ?_ (each _ (List.mem_of_getElem? ht2)))
    refine wpAny_bind ?_
    have hp2 := e2 _ _ hp
    obtain ⟨zp, parts, np, rp, lp, op⟩ := I2.lstM hp2
    show wpAny _ _ (updateSeq P _) _ _ _
    have hpl : (ts.take i).length ≤ i := by rw [List.length_take]; omega
    refine wpAny_updateSeq op rfl (wpAny_pure ⟨F.quiet_list_repr_loop _, ?_⟩) (by rw [List.size_toArray, ← lp, List.length_map]; omega)
    have st : ts.take (i + 1) = ts.take i ++ [ts[i]] := by rw [List.take_add_one, ht2]; rfl
    have I3 := I2.lset (f := (·.push (.str ts[i] s2.toks))) (its' := parts ++ [.str ts[i] s2.toks]) (ys := (ts.take (i + 1)).map V.str) (t' := s2.toks + 1) hp2 op (by simp) (by rw [st, List.map_append]; exact rp.append (.cons ⟨_, rfl⟩ .nil)) (by rw [List.length_map, List.length_take]; omega)
    have e3 : Ex H0 (upd H2 P (.lst ((ts.take (i + 1)).map V.str))) := (e0.trans e2).mut hP
    have k1 : ((i : Int) + 1) = ((i + 1 : Nat) : Int) := by omega
    have k2 : b + piled (ts.take i) + (ts[i].length + 2) = b + piled (ts.take (i + 1)) := by omega
    rw [k1, k2]
    exact ih (i + 1) _ _ (by omega) hlt e3 upd_same I3
theorem list_at {a : Addr} {xs : List V} {ts : List Str} {l : List Tr} {n m b : Nat} {H : Hp} {A : Around} {g : List Code} {pins : List (Addr × Obj)} {σ : L2.St} {s : Shared} {R : Result → Shared → Prop} {y : Value} {its : List Value} {na : Nat}
    (ht : TrV C H (.ref a) (.lst l)) (ha : H a = some (.lst xs)) (hl : ts.length = xs.length) (hm : depAll l ≤ m) (el : ∀ (i : Nat) x t, xs[i]? = some x → ts[i]? = some t → ShE X C n H x (depAll l) t)
    (sb : Sub X (n + 1) A) (hg : A.guards = some g) (hc : Clr C H m g) (clr : Clear g a) (hb : b + (listText ts).length ≤ sizeLine) (I : Inv X pins σ H s) (oa : s.heap.get? a = some { cls := .type "list", data := .seq (y :: its).toArray na })
    (ends : ∀ H' s' u, Ex H H' → Inv X pins σ H' s' → R (.ok (.ret (.str (listText ts) u))) s') :
    wpAny (model X.prog X.w) A.in1 (Builtin.listReprAt b ⟨[.ref a], []⟩) (fun r s' => match r with | .done f => R (.ok f) s' | .again c => c.quiet = true ∧ codeAny (model X.prog X.w) A c R s') (fun e s' => R (.error e) s') s := by
  refine wpAny_list_repr_head (A := A.in1) hg (fun v rest kw hmem => listSameRef_of_ne (clr _ _ _ _ hmem)) oa rfl ?_
  refine wpAny_bind (m := newList []) (wpAny_newObj_type ?_)
  refine wpAny_pure ⟨F.quiet_list_repr_loop _, ?_⟩
  have fr := I.fresh
  have I2 := I.lnew (ys := []) (its := []) (t' := s.toks) .nil (Nat.zero_le _)
  exact list_loop (P := s.heap.objs.size) (H0 := H) (m := m) ht ha hl fr el sb hg hb hc hm ends xs.length 0 _ _ rfl (Nat.zero_le _) (Ex.new fr) upd_same I2
theorem ShE.list {a : Addr} {xs : List V} {ts : List Str} {l : List Tr} {n m : Nat} {H0 : Hp} (ht : TrV C H0 (.ref a) (.lst l)) (ha : H0 a = some (.lst xs)) (hl : ts.length = xs.length) (hm : Tr.dep (.lst l) ≤ m)
    (el : ∀ (i : Nat) x t, xs[i]? = some x → ts[i]? = some t → ∀ H1, Ex H0 H1 → ShE X C n H1 x (depAll l) t) : ShE X C (n + 3) H0 (.ref a) m (listText ts) := by
  intro b A g pins s σ H u E Q hb sb hg hc e0 I r q
  obtain rfl : u = Value.ref a := r
  have sb2 : Sub X (n + 1) A := sb.mono (by omega)
  have clr := hc.clear (TrV.up e0 _ _ ht) hm
  obtain ⟨_, its, na, rs, ln, oa⟩ := I.lstM (e0 _ _ ha)
  have hd : Tr.dep (.lst l) = depAll l + 1 := by rw [Tr.dep]
  cases its with
  | nil =>
    cases rs
    obtain rfl : ts = [] := List.eq_nil_of_length_eq_zero hl
    exact wpAny_pyReprUnder_ref (by omega) (wpAny_pyReprObjUnder_list_empty ⟨_, oa, rfl⟩ sb2.room.units0 oa rfl ⟨_, _, rfl, q H _ (Ex.refl _) (I.tok _)⟩)
  | cons y its =>
    refine wpAny_pyReprUnder_ref (by omega) (wpAny_pyReprObjUnder_twin (twin := "list.__repr__.under") ⟨_, oa, rfl⟩ F.slot_list_repr.toG rfl sb2.room.units0 ?_)
    refine call_twin_plain F.plain_list_repr_under F.entry_list_repr_under F.check_list_repr_under ⟨_, oa, rfl⟩ F.slot_list_repr.toG (F.args_list_repr_1 _) ?_
    exact list_at (m := m) (TrV.up e0 _ _ ht) (e0 _ _ ha) hl (by omega) (fun i x t h1 h2 => el i x t h1 h2 H e0) sb2 hg hc clr hb I oa fun H' s' u e' I' => ⟨⟨_, _, rfl⟩, _, _, rfl, q H' s' e' I'⟩
inductive ShAll (X : Cx) (C : Addr) (n : Nat) (H0 : Hp) (d : Nat) : List V → List Str → Prop
  | nil : ShAll X C n H0 d [] []
  | cons {v : V} {x : Str} {vs : List V} {ts : List Str} : (∀ H1, Ex H0 H1 → ShE X C n H1 v d x) → ShAll X C n H0 d vs ts → ShAll X C n H0 d (v :: vs) (x :: ts)
theorem ShAll.len {n d : Nat} {H0 : Hp} : ∀ {vs : List V} {ts : List Str}, ShAll X C n H0 d vs ts → ts.length = vs.length
  | _, _, .nil => rfl
  | _, _, .cons _ q => by rw [List.length_cons, List.length_cons, q.len]
theorem ShAll.up {n d : Nat} {H0 H1 : Hp} (e : Ex H0 H1) : ∀ {vs : List V} {ts : List Str}, ShAll X C n H0 d vs ts → ShAll X C n H1 d vs ts
  | _, _, .nil => .nil
  | _, _, .cons q r => .cons (fun H2 e2 => q H2 (e.trans e2)) (r.up e)
theorem ShAll.at_ {n d : Nat} {H0 : Hp} : ∀ {vs : List V} {ts : List Str}, ShAll X C n H0 d vs ts → ∀ (i : Nat) v x, vs[i]? = some v → ts[i]? = some x → ∀ H1, Ex H0 H1 → ShE X C n H1 v d x
  | _, _, .nil, i, v, x, h, _ => by simp at h
  | _, _, .cons q _, 0, v, x, h, k => by simp at h k; subst h; subst k; exact q
  | _, _, .cons _ r, i + 1, v, x, h, k => r.at_ i v x (by simpa using h) (by simpa using k)
theorem tup_fold {n d : Nat} {H0 : Hp} {A : Around} {g : List Code} {pins : List (Addr × Obj)} {σ : L2.St} {E : Value → Shared → Prop} (sb : Sub X n A) (hg : A.guards = some g) (cl : Clr C H0 d g) :
    ∀ (us : List Value) (vs : List V) (ts : List Str) (acc : Array Str) (k : Nat) (H : Hp) (s : Shared) (Q : Array Str × Nat → Shared → Prop), Vals vs us → ShAll X C n H0 d vs ts → k + piled ts ≤ sizeLine → Ex H0 H → Inv X pins σ H s →
      (∀ H' s', Ex H H' → Inv X pins σ H' s' → Q ⟨acc ++ ts.toArray, k + piled ts⟩ s') → wpAny (model X.prog X.w) A (forIn us (⟨acc, k⟩ : Array Str × Nat) tupBody) Q E s := by
  intro us
  induction us with
  | nil =>
    intro vs ts acc k H s Q r sh hk e0 I q
    cases r
    cases sh
    rw [List.forIn_nil]
    refine wpAny_pure ?_
    simpa [piled] using q H s (Ex.refl _) I
  | cons u us ih =>
    intro vs ts acc k H s Q r sh hk e0 I q
    cases r with
    | cons ru r =>
      cases sh with
      | cons h1 sh =>
        rename_i x ts
        rw [piled_cons] at hk
        rw [List.forIn_cons]
        refine wpAny_bind (wpAny_bind (h1 H e0 (k + 1) A g pins s σ H u _ _ (by omega) sb hg (cl.up e0) (Ex.refl _) I ru fun H2 s2 e2 I2 => wpAny_pure ?_))
        refine ih _ ts (acc.push x) (k + (x.length + 2)) H2 s2 Q r sh (by omega) (e0.trans e2) I2 fun H3 s3 e3 I3 => ?_
        have z := q H3 s3 (e2.trans e3) I3
        rw [piled_cons, show k + (x.length + 2 + piled ts) = k + (x.length + 2) + piled ts by omega] at z
        simpa using z
theorem ShE.mono {n n' d : Nat} {H0 : Hp} {v : V} {x : Str} (h : ShE X C n H0 v d x) (k : n ≤ n') : ShE X C n' H0 v d x :=
  fun b A g pins s σ H u E Q hb sb => h b A g pins s σ H u E Q hb (sb.mono k)
theorem tup_at {a : Addr} {xs : List V} {ts : List Str} {l : List Tr} {n m b : Nat} {H : Hp} {A : Around} {g : List Code} {pins : List (Addr × Obj)} {σ : L2.St} {s : Shared} {R : Result → Shared → Prop} {its : List Value} {na : Nat} {o : Obj} {id : String} {rest : List Value}
    (ht : TrV C H (.ref a) (.tup l)) (hm : depAll l ≤ m) (el : ShAll X C n H (depAll l) xs ts) (hu : ∀ args, Sub X n (A.under (.builtin id args))) (hgd : ∀ args, (Code.builtin id args).isGuard = true) (hg : A.guards = some g) (hc : Clr C H m g) (clr : Clear g a) (hb : b + (tupleText ts).length ≤ sizeLine) (I : Inv X pins σ H s)
    (rs : Vals xs its) (ho : s.heap.get? a = some o) (hd : o.data = .seq its.toArray na) (ends : ∀ H' s' u, Ex H H' → Inv X pins σ H' s' → R (.ok (.ret (.str (tupleText ts) u))) s') :
    wpOwn (model X.prog X.w) A (.builtin id ⟨.ref a :: rest, []⟩) (Builtin.tupleReprAt b ⟨[.ref a], []⟩) (fun r s' => match r with | .done f => R (.ok f) s' | .again c => c.quiet = true ∧ codeAny (model X.prog X.w) A c R s') (fun e s' => R (.error e) s') s := by
  have hlen : ts.length = its.length := el.len.trans rs.length
  have hp := piled_le_tupleText ts
  rw [tuple_repr_tree, tupleReprUnderWay_eq]
  refine wpOwn_bind (wpOwn_stackTailAny hg (tupGuardF_off _) (tupGuardF_pos _) ?_)
  have hno : (g.any fun c => tupGuardF (.ref a) (c, default)) = false := by
    rw [List.any_eq_false]
    intro c hcm
    rw [tupGuardF_of_clear clr c hcm]
    exact Bool.false_ne_true
  rw [hno]
  refine wpOwn_of_wpAny ?_
  show wpAny _ _ (tupleReprRest b (.ref a)) _ _ s
  unfold tupleReprRest
  refine wpAny_bind (wpAny_tupleItemsOf ho hd ?_)
  rw [← Array.forIn_toList]
  have hc2 : Clr C H (depAll l) (Code.builtin id ⟨.ref a :: rest, []⟩ :: g) := hc.push ht (by rw [Tr.dep]; omega) hm
  refine wpAny_bind (tup_fold (H0 := H) (hu _) (guards_under_guard (hgd _) hg) hc2 _ xs ts _ _ H _ _ rs el (by omega) (Ex.refl _) I fun H2 s2 e2 I2 => ?_)
  have same : (Str.ofString "(" ++ (Str.ofString ", ").join ((#[] ++ ts.toArray, b + piled ts) : Array Str × Nat).fst.toList ++ Str.ofString (if (its.toArray.size == 1) = true then ",)" else ")")) = tupleText ts := by
    simp [tupleText, hlen]
  refine wpAny_bind (wpAny_mkStr (wpAny_pure ?_) (by rw [same]; omega))
  rw [same]
  exact ends H2 _ _ e2 (I2.tok _)
theorem ShE.tuple {a : Addr} {xs : List V} {ts : List Str} {l : List Tr} {n m : Nat} {H0 : Hp} (ht : TrV C H0 (.ref a) (.tup l)) (ha : H0 a = some (.tup xs)) (hm : Tr.dep (.tup l) ≤ m) (el : ShAll X C n H0 (depAll l) xs ts) : ShE X C (n + 3) H0 (.ref a) m (tupleText ts) := by
  intro b A g pins s σ H u E Q hb sb hg hc e0 I r q
  obtain rfl : u = Value.ref a := r
  have sb2 : Sub X (n + 1) A := sb.mono (by omega)
  have clr := hc.clear (TrV.up e0 _ _ ht) hm
  obtain ⟨_, its, rs, o, ho, hcl, na, hd⟩ := (show ObjOk X.prog X.w H s.heap a (.tup xs) from I.hok a _ (e0 _ _ ha))
  have hdp : Tr.dep (.tup l) = depAll l + 1 := by rw [Tr.dep]
  refine wpAny_pyReprUnder_ref (by omega) (wpAny_pyReprObjUnder_twin (twin := "tuple.__repr__.under") ⟨o, ho, hcl⟩ F.slot_tuple_repr rfl sb2.room.units0 ?_)
  refine call_twin_own (F.quiet_tuple_repr_under _) F.entry_tuple_repr_under F.check_tuple_repr_under ⟨o, ho, hcl⟩ F.slot_tuple_repr (F.args_tuple_repr_1 _) ?_
  exact tup_at (m := m) (TrV.up e0 _ _ ht) (by omega) (el.up e0) (fun _ => sub_tupU sb2) isGuard_tuple_repr_under hg hc clr hb I rs ho hd fun H' s' u e' I' => ⟨⟨_, _, rfl⟩, _, _, rfl, q H' s' e' I'⟩
theorem lg100 {c : Nat} (h : c < 100) : ((c : Int)).natAbs.log2 < 1920 := by
  rw [Int.natAbs_natCast]
  by_cases z : c = 0
  · subst z; decide
  · exact Nat.lt_of_le_of_lt (Nat.le_trans (Nat.log2_le_self c) (Nat.le_of_lt h)) (by decide)
theorem entK {P : Program} {w : World} {h0 : Heap} {d : Nat} : ∀ {ks : List Nat} {vs : List (Key × Value)} {es : List DictEntry}, KV (kB ks) vs → PySem.Pairs (mixKind P w) es vs → (∀ c ∈ ks, c < 100) → ReprEntriesK P w [] h0 d es (ks.map fun (c : Nat) => toString (c : Int) ++ (": " : Str) ++ "True")
  | [], _, _, kv, ps, _ => by
    cases kv
    cases ps
    exact .nil
  | c :: ks, _, _, kv, ps, hb => by
    cases kv with
    | cons h t =>
      cases ps with
      | cons h1 h2 r =>
        rename_i e es
        obtain ⟨q1, q2⟩ := h
        rw [List.map_cons]
        rw [← q1] at h1
        have kk : ReprK P w [] h0 d e.key (toString (c : Int)) := by
          rcases keyIs_shape (show keyIs (.inl (c : Int)) e.key = true from h1) with ⟨i, tk, e1, e2⟩ | ⟨x, tk, e1, e2⟩
          · injection e1 with e1
            rw [e2, ← e1]
            exact .of_is (.int tk (lg100 (hb c (List.mem_cons_self ..)))) _ _ _
          · cases e1
        have vv : ReprK P w [] h0 d e.val "True" := by
          have q5 : e.val = Value.bool true := h2.trans (show _ = Value.bool true from q2)
          rw [q5]
          exact .of_is (.bool true) _ _ _
        exact .cons kk vv (entK t r fun x hx => hb x (List.mem_cons_of_mem _ hx))
theorem entT {pins : List (Addr × Obj)} {σ : L2.St} {H : Hp} {s : Shared} {as : List Addr} (I : Inv X pins σ H s) : ∀ {ps : List (Nat × Nat)} {xs : List (List Key × Addr × Value)}, KT H (kP ps) xs → (∀ p ∈ ps, p.1 < 100 ∧ p.2 < 100) → (∀ x ∈ xs, x.2.1 ∈ as) →
    ReprEntriesK X.prog X.w as s.heap 1 (xs.map (entryOfKey (tupleKind (mixKind X.prog X.w)))) (ps.map fun p => tupleText [toString (p.1 : Int), toString (p.2 : Int)] ++ (": " : Str) ++ "True")
  | [], _, kt, _, _ => by
    cases kt
    exact .nil
  | p :: ps, _, kt, hb, ha => by
    cases kt with
    | cons h t =>
      rename_i x xs
      obtain ⟨q1, q2, q3⟩ := h
      rw [List.map_cons, List.map_cons]
      obtain ⟨b1, b2⟩ := hb p (List.mem_cons_self ..)
      obtain ⟨_, its, rs, o, ho, hcl, na, hdt⟩ := (show ObjOk X.prog X.w H s.heap x.2.1 (.tup [.int (p.1 : Int), .int (p.2 : Int)]) from I.hok _ _ q2)
      have kk : ReprK X.prog X.w as s.heap 1 (.ref x.2.1) (tupleText [toString (p.1 : Int), toString (p.2 : Int)]) := by
        refine (ReprK.tuple (as := []) (d := 0) ho hcl hdt (List.not_mem_nil) ?_).more fun b hb' => by rw [List.mem_singleton.mp hb']; exact ha x (List.mem_cons_self ..)
        cases rs with
        | cons r1 rs =>
          cases rs with
          | cons r2 rs =>
            cases rs
            obtain ⟨t1, rfl⟩ := r1
            obtain ⟨t2, rfl⟩ := r2
            exact .cons (.of_is (.int t1 (lg100 b1)) _ _ _) (.cons (.of_is (.int t2 (lg100 b2)) _ _ _) .nil)
      have vv : ReprK X.prog X.w as s.heap 1 x.2.2 "True" := by
        have q4 : RelV (.bl true) x.2.2 := q3
        have q5 : x.2.2 = Value.bool true := q4
        rw [q5]
        exact .of_is (.bool true) _ _ _
      exact .cons kk vv (entT I t (fun y hy => hb y (List.mem_cons_of_mem _ hy)) fun y hy => ha y (List.mem_cons_of_mem _ hy))
/-- a dict's entries, as they are shown -/
theorem dic_ents {pins : List (Addr × Obj)} {σ : L2.St} {H : Hp} {s : Shared} {a : Addr} {t : Tr} (I : Inv X pins σ H s) (h : TrV C H (.ref a) t) (k : (∃ ks, t = .dk ks) ∨ ∃ ps, t = .dt ps) (f : t.Fit) : ∃ (o : Obj) (es : Array DictEntry) (ep : Nat) (as : List Addr) (ts : List Str),
    s.heap.get? a = some o ∧ o.cls = .type "dict" ∧ o.data = .dict es ep ∧ (a == sysModules) = false ∧ a ∉ as ∧ ReprEntriesK X.prog X.w as s.heap 1 es.toList ts ∧ t.text = dictText ts ∧ ∀ b ∈ as, ∃ t', TrV C H (.ref b) t' ∧ t'.dep ≤ t.dep := by
  rcases k with ⟨ks, rfl⟩ | ⟨ps, rfl⟩
  · cases h with
    | dk ha =>
      rw [Tr.Fit] at f
      obtain ⟨_, sy, vs, kv, o, es, ep, ho, hx, hd, hko, hes⟩ := dk_of I.hok ha
      exact ⟨o, es, ep, [], _, ho, hx.1, hd, sy, List.not_mem_nil, entK kv hes.1 f.2, rfl, fun b hb => absurd hb List.not_mem_nil⟩
  · cases h with
    | dt ha =>
      rw [Tr.Fit] at f
      obtain ⟨_, sy, xs, kt, o, es, ep, ho, hx, hd, hes, _⟩ := dt_of I.hok ha
      have keys : ∀ x ∈ xs, ∃ p ∈ ps, H x.2.1 = some (.tup [.int (p.1 : Int), .int (p.2 : Int)]) := by
        have key : ∀ {l : List (Nat × Nat)} {m : List (List Key × Addr × Value)}, KT H (kP l) m → ∀ x ∈ m, ∃ p ∈ l, H x.2.1 = some (.tup [.int (p.1 : Int), .int (p.2 : Int)]) := by
          intro l
          induction l with
          | nil => intro m q; cases q; intro x hx; exact nomatch hx
          | cons p l ih =>
            intro m q
            cases q with
            | cons h t =>
              intro x hx
              rcases List.mem_cons.mp hx with rfl | hx
              · exact ⟨p, List.mem_cons_self .., h.2.1⟩
              · obtain ⟨y, hy, e⟩ := ih t x hx
                exact ⟨y, List.mem_cons_of_mem _ hy, e⟩
        exact key kt
      refine ⟨o, es, ep, xs.map (·.2.1), _, ho, hx.1, hd, sy, fun hm => ?_, by rw [hes]; exact entT I kt f.2 fun x hx => List.mem_map.mpr ⟨x, hx, rfl⟩, rfl, fun b hb => ?_⟩
      · obtain ⟨x, hx, e⟩ := List.mem_map.mp hm
        obtain ⟨p, _, e2⟩ := keys x hx
        rw [e, ha] at e2
        cases e2
      · obtain ⟨x, hx, rfl⟩ := List.mem_map.mp hb
        obtain ⟨p, _, e2⟩ := keys x hx
        exact ⟨.tup [.int p.1, .int p.2], .tup e2 (.cons (.int _) (.cons (.int _) .nil)), by simp [Tr.dep, depAll]⟩
theorem ShE.dic {n m : Nat} {a : Addr} {H0 : Hp} {t : Tr} (h : TrV C H0 (.ref a) t) (k : (∃ ks, t = .dk ks) ∨ ∃ ps, t = .dt ps) (f : t.Fit) (hm : t.dep ≤ m) (hn : 3 ≤ n) : ShE X C n H0 (.ref a) m t.text := by
  intro b A g pins s σ H u E Q hb sb hg hc e0 I r q
  obtain rfl : u = Value.ref a := r
  have ht := TrV.up e0 _ _ h
  have clr := hc.clear ht hm
  obtain ⟨o, es, ep, as, ts, ho, hcl, hd, sy, hna, hE, ht2, hcs⟩ := dic_ents I ht k f
  rw [ht2] at hb q
  have z := ReprK.dict (prog := X.prog) (w := X.w) (as := as) (h₀ := s.heap) (d := 1) ho hcl hd sy hna hE
  refine z b hb A g E s Q hg (fun c hcm => ?_) (by have := sb.room.un; omega) (fun _ _ e => e) fun h' tk k => q H _ (Ex.refl _) (I.kept (t' := tk) k)
  rcases List.mem_cons.mp hcm with rfl | hcm
  · exact clr
  · obtain ⟨t', h', hd'⟩ := hcs c hcm
    exact hc.clear h' (by omega)
section
variable (B : TxB X.prog X.w X.K X.mg X.base C "__repr__" sR)
include B
mutual
theorem tr_sh : ∀ (t : Tr) (v : V) (m : Nat) (H0 : Hp), TrV C H0 v t → t.Fit → t.dep ≤ m → ShE X C (3 * t.dep + 3) H0 v m t.text
  | .non, _, m, H0, h, _, _ => by
    cases h
    exact .leaf fun u r => by cases r; exact .none
  | .bl b, _, m, H0, h, _, _ => by
    cases h
    exact .leaf fun u r => by cases r; exact .bool b
  | .int i, _, m, H0, h, f, _ => by
    cases h
    rw [Tr.Fit] at f
    exact .leaf fun u r => by obtain ⟨t, rfl⟩ := r; exact .int t f
  | .str x, _, m, H0, h, f, _ => by
    cases h
    rw [Tr.Fit] at f
    exact .leaf fun u r => by obtain ⟨t, rfl⟩ := r; exact .str x t f
  | .rat t b, _, m, H0, h, f, _ => by
    cases h with
    | rat h =>
      rw [Tr.Fit] at f
      exact .own B (Nat.le_refl _) h f.1 f.2
  | .dk ks, _, m, H0, h, f, hm => by
    cases h with
    | dk h => exact .dic (.dk h) (.inl ⟨ks, rfl⟩) f hm (by omega)
  | .dt ps, _, m, H0, h, f, hm => by
    cases h with
    | dt h => exact .dic (.dt h) (.inr ⟨ps, rfl⟩) f hm (by omega)
  | .lst l, _, m, H0, h, f, hm => by
    cases h with
    | lst ha q =>
      rw [Tr.Fit] at f
      have z := trs_sh l _ (depAll l) H0 q f (Nat.le_refl _)
      rw [show 3 * Tr.dep (.lst l) + 3 = 3 * depAll l + 3 + 3 by rw [Tr.dep]; omega]
      exact .list (.lst ha q) ha (by rw [text_len, q.len]) hm (z.at_)
  | .tup l, _, m, H0, h, f, hm => by
    cases h with
    | tup ha q =>
      rw [Tr.Fit] at f
      have z := trs_sh l _ (depAll l) H0 q f (Nat.le_refl _)
      rw [show 3 * Tr.dep (.tup l) + 3 = 3 * depAll l + 3 + 3 by rw [Tr.dep]; omega]
      exact .tuple (.tup ha q) ha hm z
theorem trs_sh : ∀ (l : List Tr) (vs : List V) (m : Nat) (H0 : Hp), TrVs C H0 vs l → FitAll l → depAll l ≤ m → ShAll X C (3 * depAll l + 3) H0 m vs (textAll l)
  | [], _, m, H0, h, _, _ => by cases h; exact .nil
  | t :: l, _, m, H0, h, f, hm => by
    cases h with
    | cons h q =>
      rw [FitAll] at f
      rw [depAll] at hm ⊢
      have z1 := fun H1 (e : Ex H0 H1) => (tr_sh t _ m H1 (TrV.up e _ _ h) f.1 (by omega)).mono (n' := 3 * max t.dep (depAll l) + 3) (by omega)
      have z2 := trs_sh l _ m H0 q f.2 (by omega)
      refine .cons z1 ?_
      have up : ∀ {vs : List V} {ts : List Str}, ShAll X C (3 * depAll l + 3) H0 m vs ts → ShAll X C (3 * max t.dep (depAll l) + 3) H0 m vs ts := by
        intro vs ts z
        induction z with
        | nil => exact .nil
        | cons a _ ih => exact .cons (fun H1 e => (a H1 e).mono (by omega)) ih
      exact up z2
end
end
/-- repr(x) of nested values -/
def rReprT (C : Addr) : List V → Hp → VK → Prop := fun xs H Q => ∃ (v : V) (t : Tr), xs = [v] ∧ TrV C H v t ∧ t.Fit ∧ t.dep ≤ 6 ∧ t.text.length ≤ sizeLine ∧ RetV (.str t.text) H Q
theorem call_reprT (B : TxB X.prog X.w X.K X.mg X.base C "__repr__" sR) (hg : X.A.guards = some []) (hr : Room 24 X.A) : CallR X (.builtin "repr") (rReprT C) := by
  intro pins s σ H xs us Q I r h
  obtain ⟨v, t, rfl, ht, hf, hd, hz, q⟩ := h
  obtain ⟨u, rfl, ru⟩ := r.one
  have c0 : Clr C H 6 [] := fun _ _ _ _ z => nomatch z
  have sb1 : Sub X 23 X.A.in1 := ⟨hr.in1, rfl⟩
  have fin : ∀ H' s' tk, Ex H H' → Inv X pins σ H' s' → EP X pins σ Q (.str t.text tk) s' := fun H' s' tk e I' => ⟨.str t.text, H', I', ⟨tk, rfl⟩, q H' e⟩
  have z0 : X.A.units + 1 < cLine := by have := hr.un; omega
  cases ht with
  | non => cases ru; exact P.repr_of_none (fin H _ _ (Ex.refl _) (I.tok _))
  | bl b => cases ru; exact P.repr_of_bool (fin H _ _ (Ex.refl _) (I.tok _))
  | int i =>
    obtain ⟨tk, rfl⟩ := ru
    rw [Tr.Fit] at hf
    exact P.repr_of_int hf (fin H _ _ (Ex.refl _) (I.tok _))
  | str x =>
    obtain ⟨tk, rfl⟩ := ru
    rw [Tr.Fit] at hf
    exact P.repr_of_str (fin H _ _ (Ex.refl _) (I.tok _)) hf
  | rat ha =>
    obtain ⟨dx, ha⟩ := id ha
    rename_i a t b h1
    rw [Tr.Fit] at hf
    obtain ⟨f, fd, F, bd, fe, fn⟩ := B.ex
    exact call_reprOwn F fe fn bd (hr.mono (by omega)) pins s σ H _ _ Q I r ⟨a, dx, _, rfl, ha, a, t, b, rfl, h1, hf.1, hf.2, fun H' e => ⟨_, rfl, q H' e⟩⟩
  | dk ha =>
    rename_i a ks
    obtain rfl : u = Value.ref a := ru
    obtain ⟨o, es, ep, as, ts, ho, hcl, hdt, sy, hna, hE, ht2, hcs⟩ := dic_ents (C := C) I (.dk ha) (.inl ⟨ks, rfl⟩) hf
    rw [ht2] at hz
    refine call_repr_slot z0 ⟨o, ho, hcl⟩ F.slot_dict_repr ?_
    exact call_dict_reprK (prog := X.prog) (w := X.w) (as := as) (h₀ := s.heap) (d := 1) ho hcl hdt sy hna hE hg (fun b _ => Clear.nil b) (by have := hr.un; show X.A.units + 1 + (1 + 1) < cLine; omega) (fun _ _ e => e) (fun h' u tk k => ⟨_, _, rfl, by have z := fin H { s with heap := h', toks := tk } u (Ex.refl _) (I.kept (t' := tk) k); rw [ht2] at z; exact z⟩) hz
  | dt ha =>
    rename_i a ps
    obtain rfl : u = Value.ref a := ru
    obtain ⟨o, es, ep, as, ts, ho, hcl, hdt, sy, hna, hE, ht2, hcs⟩ := dic_ents (C := C) I (.dt ha) (.inr ⟨ps, rfl⟩) hf
    rw [ht2] at hz
    refine call_repr_slot z0 ⟨o, ho, hcl⟩ F.slot_dict_repr ?_
    exact call_dict_reprK (prog := X.prog) (w := X.w) (as := as) (h₀ := s.heap) (d := 1) ho hcl hdt sy hna hE hg (fun b _ => Clear.nil b) (by have := hr.un; show X.A.units + 1 + (1 + 1) < cLine; omega) (fun _ _ e => e) (fun h' u tk k => ⟨_, _, rfl, by have z := fin H { s with heap := h', toks := tk } u (Ex.refl _) (I.kept (t' := tk) k); rw [ht2] at z; exact z⟩) hz
  | lst ha qs =>
    rename_i a xs l
    obtain rfl : u = Value.ref a := ru
    rw [Tr.Fit] at hf
    rw [Tr.dep] at hd
    have z := trs_sh B l _ (depAll l) H qs hf (Nat.le_refl _)
    obtain ⟨_, its, na, rs, ln, oa⟩ := I.lstM ha
    refine call_repr_slot z0 ⟨_, oa, rfl⟩ F.slot_list_repr.toG ?_
    cases its with
    | nil =>
      cases rs
      cases qs
      exact call_list_repr_empty ⟨_, oa, rfl⟩ oa rfl ⟨_, _, rfl, fin H _ _ (Ex.refl _) (I.tok _)⟩
    | cons y its =>
      refine wpAny_call (codeAny_call_builtin F.slot_list_repr.plain F.entry_list_repr (F.slot_list_repr.check _ _ _ _ _ _ _ _ ⟨_, oa, rfl⟩ (F.args_list_repr_1 _) ?_))
      exact list_at (R := callEnd (fun v s' => ∃ x t, v = Value.str x t ∧ EP X pins σ Q v s') X.xe) (b := 0) (m := 6) (n := 3 * depAll l + 3) (.lst ha qs) ha (by rw [text_len, qs.len]) (by omega) (fun i x t h1 h2 => z.at_ i x t h1 h2 H (Ex.refl _)) (sb1.mono (by omega)) hg c0 (Clear.nil a) (by rw [Tr.text] at hz; omega) I oa fun H' s' u e' I' => ⟨_, _, rfl, fin H' s' u e' I'⟩
  | tup ha qs =>
    rename_i a xs l
    obtain rfl : u = Value.ref a := ru
    rw [Tr.Fit] at hf
    rw [Tr.dep] at hd
    have z := trs_sh B l _ (depAll l) H qs hf (Nat.le_refl _)
    obtain ⟨_, its, rs, o, ho, hcl, na, hdt⟩ := (show ObjOk X.prog X.w H s.heap a (.tup xs) from I.hok a _ ha)
    refine call_repr_slot z0 ⟨o, ho, hcl⟩ F.slot_tuple_repr ?_
    refine wpAny_call (codeAny_call_builtin_own (Code.quiet_builtin _ (by decide +kernel)) F.entry_tuple_repr (F.slot_tuple_repr.check _ _ _ _ _ _ _ _ ⟨o, ho, hcl⟩ (F.args_tuple_repr_1 _) ?_))
    exact tup_at (R := callEnd (fun v s' => ∃ x t, v = Value.str x t ∧ EP X pins σ Q v s') X.xe) (rest := []) (b := 0) (m := 6) (n := 3 * depAll l + 3) (.tup ha qs) (by omega) z (fun _ => sub_tup (sb1.mono (by omega))) isGuard_tuple_repr hg c0 (Clear.nil a) (by rw [Tr.text] at hz; omega) I rs ho hdt fun H' s' u e' I' => ⟨_, _, rfl, fin H' s' u e' I'⟩
end
end B71

namespace B71
open PySem PySem.Spec PyProof.Rows L2 Evl RZ SrtO
def ExB (d : Addr) (H H' : Hp) : Prop := ∀ b o, b ≠ d → H b = some o → H' b = some o
theorem ExB.of {d : Addr} {H H' : Hp} (e : Ex H H') : ExB d H H' := fun b o _ h => e b o h
theorem ExB.trans {d : Addr} {H H1 H2 : Hp} (a : ExB d H H1) (b : ExB d H1 H2) : ExB d H H2 := fun x o n h => b x o n (a x o n h)
theorem ExB.put {d : Addr} {H H1 : Hp} {o : HO} (a : ExB d H H1) : ExB d H (upd H1 d o) := fun x u n h => by rw [upd_ne n]; exact a x u n h
theorem ExB.fresh {d p : Addr} {H H' : Hp} (e : ExB d H H') (n : p ≠ d) (h : H' p = none) : H p = none := by
  cases q : H p with
  | none => rfl
  | some o => rw [e p o n q] at h; cases h
def Pot (H : Hp) (p : Addr) : Prop := ∃ x y : Int, H p = some (.lst [.int x, .int y]) ∧ 0 ≤ x ∧ 0 ≤ y ∧ y < 2147483648
theorem Pot.same {H H' : Hp} {p : Addr} (h : Pot H p) (e : H' p = H p) : Pot H' p := by
  obtain ⟨x, y, h1, h2⟩ := h
  exact ⟨x, y, e.trans h1, h2⟩
theorem Pot.up {H H' : Hp} {p : Addr} (h : Pot H p) (e : Ex H H') : Pot H' p := by
  obtain ⟨x, y, h1, h2⟩ := h
  exact ⟨x, y, e _ _ h1, h2⟩
theorem pot_ne {H : Hp} {p r : Addr} {xs : List V} (h : Pot H p) (hr : H r = some (.tup xs)) : r ≠ p := fun z => by
  obtain ⟨x, y, h1, _⟩ := h
  rw [z, h1] at hr
  cases hr
def spPot (K : PySem.W.Frag) : Sp := fun vs H Q _ => ∃ (a : Addr) (ns : List Int), vs = [.ref a, .int 0] ∧ SqL K H a (ns.map V.int) ∧ ∀ p H', H p = none → Ex H H' → Pot H' p → Q (.ref p) H'
def spDraw : Sp := fun vs H Q _ => ∃ (p : Addr) (m : Nat), vs = [.ref p, .int m] ∧ Pot H p ∧ 1 ≤ m ∧ m ≤ 100 ∧ ∀ (d : Nat) H', ExB p H H' → Pot H' p → d < m → Q (.int d) H'
def spPick : Sp := fun vs H Q _ => ∃ (p a : Addr) (xs : List V), vs = [.ref p, .ref a] ∧ Pot H p ∧ H a = some (.lst xs) ∧ a ≠ p ∧ 1 ≤ xs.length ∧ xs.length ≤ 100 ∧ ∀ (d : Nat) x H', ExB p H H' → Pot H' p → xs[d]? = some x → Q x H'
def PtI (H : Hp) (r : Addr) (p : Int × Int) : Prop := H r = some (.tup [.int p.1, .int p.2])
theorem PtI.up {H H' : Hp} {r : Addr} {p : Int × Int} (h : PtI H r p) (e : Ex H H') : PtI H' r p := e _ _ h
def RetP (p : Int × Int) (H : Hp) (Q : VK) : Prop := ∀ r H', H r = none → Ex H H' → PtI H' r p → Q (.ref r) H'
theorem pt_ap {H : Hp} {D r : Addr} {acc acc' : List V} {p : Int × Int} (hD : H D = some (.lst acc)) (h : PtI H r p) : PtI (upd H D (.lst acc')) r p := by
  unfold PtI at *
  have : r ≠ D := fun z => by rw [z, hD] at h; cases h
  rw [upd_ne this]; exact h
/-- what a comprehension gives while heaps change as E tells -/
structure Chg (E : Hp → Hp → Prop) (H1 : Hp) (D : Addr) : Prop where
  tr : ∀ {a b c}, E a b → E b c → E a c
  new : E H1 (upd H1 D (.lst []))
  app : ∀ H acc acc', E H1 H → H D = some (.lst acc) → E H1 (upd H D (.lst acc'))
  keep : ∀ H H' acc, E H1 H → E H H' → H D = some (.lst acc) → H' D = some (.lst acc)
theorem Chg.ex {H1 : Hp} {D : Addr} (hD : H1 D = none) : Chg Ex H1 D := ⟨Ex.trans, Ex.new hD, fun _ _ _ e _ => e.mut hD, fun _ _ _ _ e h => e _ _ h⟩
def ExP (p : Addr) (H H' : Hp) : Prop := ExB p H H' ∧ (Pot H p → Pot H' p)
theorem ExB.mut {p D : Addr} {H H' : Hp} {o : HO} (e : ExB p H H') (hD : H D = none) : ExB p H (upd H' D o) := fun x u n h => by
  rw [upd_ne (ne_of_none h hD)]
  exact e x u n h
theorem ExP.of {p : Addr} {H H' : Hp} (e : Ex H H') : ExP p H H' := ⟨ExB.of e, fun h => h.up e⟩
theorem ExP.trans {p : Addr} {a b c : Hp} (x : ExP p a b) (y : ExP p b c) : ExP p a c := ⟨x.1.trans y.1, fun h => y.2 (x.2 h)⟩
theorem ExP.pti {p r : Addr} {H H' : Hp} {z : Int × Int} (e : ExP p H H') (hp : Pot H p) (h : PtI H r z) : PtI H' r z := e.1 _ _ (pot_ne hp h) h
theorem pot_nn {H : Hp} {p D : Addr} (h : Pot H p) (hD : H D = none) : D ≠ p := fun z => by
  obtain ⟨x, y, h1, _⟩ := h
  rw [z, h1] at hD
  cases hD
theorem Chg.pot {p : Addr} {H1 : Hp} {D : Addr} (hD : H1 D = none) (hp : Pot H1 p) : Chg (ExP p) H1 D :=
  have nd := pot_nn hp hD
  ⟨ExP.trans, ExP.of (Ex.new hD), fun H _ _ e _ => ⟨e.1.mut hD, fun h => (e.2 h).same (upd_ne (Ne.symm nd))⟩, fun _ _ _ _ e h => e.1 _ _ nd h⟩
theorem lcE {α : Type} {J : It} {n : Nat} {Gd : Hp → Prop} {Y : Nat → Hp → V → Hp → Prop} (w : Walk J n Gd Y) {g : TG} {tt : TT} {te : TE} {vs : List Nat} {σ : L2.St} {H1 : Hp} {D : Addr} {Qd : Hp → Prop} {E : Hp → Hp → Prop} (C : Chg E H1 D)
    (ys : List α) (hn : n = ys.length) (hz : n ≤ 1000) (f : α → Bool) (R : α → V → Hp → Prop) (up : ∀ y v H H', E H1 H → E H H' → R y v H → R y v H') (ap : ∀ y v H acc acc', H D = some (.lst acc) → R y v H → R y v (upd H D (.lst acc'))) (hG : ∀ H, E H1 H → Gd H)
    (hs : ∀ i y x H H' (N : Hp → Prop) (Gt : VK), ys[i]? = some y → E H1 H → (∃ acc, H D = some (.lst acc)) → Y i H x H' → (f y = false → ∀ H2, E H H2 → N H2) → (f y = true → ∀ v H2, E H H2 → R y v H2 → Gt v H2) →
      g x (wipe σ vs) H' fun σ2 H2 => wipe σ2 vs = wipe σ vs ∧ tt σ2 H2 fun b H3 => if b = true then te σ2 H3 Gt else N H3)
    (hd : ∀ acc H, E H1 H → H D = some (.lst acc) → Paired (fun y v => R y v H) (ys.filter f) acc → Qd H) :
    ∃ W : Nat → Nat → Hp → Prop, (∃ m, W 0 m (upd H1 D (.lst []))) ∧ ∀ i m H, W i m H →
      (J.stop i H ∧ Qd H) ∨ (J.go i H ∧ ∃ Nx : Hp → Prop, (∀ H', Nx H' → ∃ m', m' < m ∧ W (i + 1) m' H') ∧ ∀ x H', J.yld i H x H' → g x (wipe σ vs) H' fun σ2 H2 => wipe σ2 vs = wipe σ vs ∧ tt σ2 H2 fun b H3 =>
        if b = true then te σ2 H3 fun y H4 => ∃ acc, H4 D = some (.lst acc) ∧ acc.length < sizeLine ∧ Nx (upd H4 D (.lst (acc ++ [y]))) else Nx H3) := by
  refine lc_it w (fun i H => E H1 H ∧ ∃ acc, H D = some (.lst acc) ∧ acc.length ≤ i ∧ Paired (fun y v => R y v H) ((ys.take i).filter f) acc) ⟨C.new, [], upd_same, Nat.le_refl _, .nil⟩ (fun i H _ p => hG H p.1) ?_ ?_
  · rintro i x H H' hi ⟨e1, acc, hacc, hl, hp⟩ hy
    have hi' : i < ys.length := hn ▸ hi
    have et : ys.take (i + 1) = ys.take i ++ [ys[i]] := by rw [List.take_add_one, List.getElem?_eq_getElem hi']; rfl
    refine hs i ys[i] x H H' _ _ (List.getElem?_eq_getElem hi') e1 ⟨acc, hacc⟩ hy (fun hf H2 e2 => ?_) (fun hf v H2 e2 hR => ?_)
    · refine ⟨C.tr e1 e2, acc, C.keep _ _ _ e1 e2 hacc, by omega, ?_⟩
      rw [et, List.filter_append, List.filter_cons_of_neg (by rw [hf]; exact Bool.false_ne_true), List.filter_nil, List.append_nil]
      exact Paired.mapP hp fun _ _ h => up _ _ _ _ e1 e2 h
    · have h2 := C.keep _ _ _ e1 e2 hacc
      refine ⟨acc, h2, Nat.lt_of_le_of_lt hl (small1000 (by omega)), C.app _ _ _ (C.tr e1 e2) h2, acc ++ [v], upd_same, by simp; omega, ?_⟩
      rw [et, List.filter_append, List.filter_cons_of_pos hf, List.filter_nil]
      exact paired_snoc (Paired.mapP hp fun _ _ h => ap _ _ _ _ _ h2 (up _ _ _ _ e1 e2 h)) (ap _ _ _ _ _ h2 hR)
  · rintro H ⟨e1, acc, hacc, _, hp⟩
    rw [hn, List.take_length] at hp
    exact hd acc H e1 hacc hp
/-- references in pairs -/
theorem pair_refs {α : Type} {F : α → Addr → Prop} : ∀ {ys : List α} {acc : List V}, Paired (fun y v => ∃ r, v = V.ref r ∧ F y r) ys acc → ∃ rs : List Addr, acc = rs.map V.ref ∧ rs.length = ys.length ∧ Paired (fun r y => F y r) rs ys
  | _, _, .nil => ⟨[], rfl, rfl, .nil⟩
  | _, _, .cons ⟨r, h1, h2⟩ t => by
    obtain ⟨rs, e, l, p⟩ := pair_refs t
    exact ⟨r :: rs, by rw [h1, e]; rfl, by simp [l], .cons h2 p⟩
theorem paired_at2 {α β : Type} {F : α → β → Prop} : ∀ {ys : List α} {xs : List β}, Paired F ys xs → ∀ {i : Nat} {x : α}, ys[i]? = some x → ∃ y, xs[i]? = some y ∧ F x y
  | _, _, .nil, i, x, h => by simp at h
  | _, _, .cons (b := y) q t, 0, x, h => ⟨y, rfl, by simp at h; exact h ▸ q⟩
  | _, _, .cons q t, i + 1, x, h => by
    obtain ⟨y, h1, h2⟩ := paired_at2 t (i := i) (x := x) (by simpa using h)
    exact ⟨y, by simpa using h1, h2⟩
end B71

namespace B71
open PySem PySem.Spec PyProof.Rows L2 Evl RZ SrtO

def rLenS (K : PySem.W.Frag) : List V → Hp → VK → Prop := fun xs H Q => ∃ p ys, xs = [.ref p] ∧ (SqL K H p ys ∨ SqT K H p ys) ∧ Q (.int ys.length) H
/-! ### lists or tuples -/
theorem SqH.sq {K : PySem.W.Frag} {H : Hp} {a : Addr} {xs : List V} (h : SqH H a xs) : SqL K H a xs ∨ SqT K H a xs := h.elim (fun h => .inl (sq_of h)) fun h => .inr (st_of h)
def rIxQ (K : PySem.W.Frag) : R2 := fun x y H Q => ∃ p xs i v, x = .ref p ∧ y = .int i ∧ SqH H p xs ∧ atI xs i = some v ∧ Q v H
theorem ix_sq {X : Cx} : IxR X (rIxQ X.K) := by
  intro e1 e2 pins s σ H x y v u Q I rx ry h hs
  obtain ⟨p, xs, i, z, hx, hy, hq, he, q⟩ := h
  rcases hq with hq | hq
  · exact ix_list e1 e2 pins s σ H x y v u Q I rx ry ⟨p, xs, i, z, hx, hy, sq_of hq, he, q⟩ hs
  · exact ix_tup e1 e2 pins s σ H x y v u Q I rx ry ⟨p, xs, i, z, hx, hy, st_of hq, he, q⟩ hs
/-- going through a list or a tuple -/
def iSq (tl : TE) : TI := fun σ H R => tl σ H fun x H1 => ∃ a xs, x = .ref a ∧ SqH H1 a xs ∧ ∀ (J : It) (Gd : Hp → Prop), Walk J xs.length Gd (YAt xs) → (∀ H, Ex H1 H → Gd H) → R J H1
theorem pi_sq {X : Cx} {tg l : Expr} {tl : TE} (hl : PE X l tl) : PI X tg l (iSq tl) := by
  refine ⟨fun pins s σ H R I h => thn (hl.run pins s σ H _ I h) fun v s1 ⟨x, H1, I1, r1, a, xs, ex, sq, q⟩ => ?_⟩
  subst ex
  obtain rfl : v = Value.ref a := r1
  have own : ∀ b ∈ [s1.heap.objs.size], FpOk X pins H1 b := fun b hb => by
    obtain rfl := List.mem_singleton.mp hb
    exact I1.fpOk (Nat.le_refl _) I1.fresh
  have grow : ∀ o : Obj, Inv X pins σ H1 { s1 with heap := s1.heap.push o } := fun o => I1.kept (t' := s1.toks) fun b ob e => Heap.get?_push_of_some _ e
  rcases sq with sq | sq
  · obtain ⟨its, rv, pl, _⟩ := I1.list (sq_of (K := X.K) sq)
    have w := walk_list (K := X.K) (a := a) (xs := xs)
    exact wpAny_pyIter_list pl.isList ⟨s1.heap.objs.size, [s1.heap.objs.size], _, Itl X.K a, H1, rfl, grow _, turn_list a _, ⟨_, Heap.get?_push_size _ rfl, rfl, rfl⟩, own, q _ _ w fun H e => sq_of (e _ _ sq)⟩
  · obtain ⟨its, rv, pl, _⟩ := I1.tuple (st_of (K := X.K) sq)
    have w := walk_tup (K := X.K) (a := a) (xs := xs)
    exact wpAny_pyIter_tuple (show s1.heap.IsTuple a its.toArray from pl) ⟨s1.heap.objs.size, [s1.heap.objs.size], _, Itt X.K a, H1, rfl, grow _, turn_tuple a _, ⟨_, Heap.get?_push_size _ rfl, rfl, rfl⟩, own, q _ _ w fun H e => st_of (e _ _ sq)⟩
/-! ### what a nested value is -/
structure RCm (K : PySem.W.Frag) (C : Addr) : Prop where
  kD : PySem.W.kitOne K (.type "dict") (.ref C) = some false
  rL : PySem.W.kitOne K (.ref C) (.type "list") = some false
  rT : PySem.W.kitOne K (.ref C) (.type "tuple") = some false
def Tr.isI : Tr → Bool
  | .int _ => true
  | .bl _ => true
  | _ => false
def Tr.isB : Tr → Bool
  | .bl _ => true
  | _ => false
def Tr.isR : Tr → Bool
  | .rat _ _ => true
  | _ => false
def Tr.isL : Tr → Bool
  | .lst _ => true
  | _ => false
def Tr.isU : Tr → Bool
  | .tup _ => true
  | _ => false
def Tr.sq? : Tr → Option (List Tr)
  | .lst l => some l
  | .tup l => some l
  | _ => none
def Tr.isQ (t : Tr) : Bool := t.isL || t.isU
def Tr.isN (t : Tr) : Bool := (t.isI && !t.isB) || t.isR
structure TyAll (K : PySem.W.Frag) (C : Addr) (H : Hp) (v : V) (t : Tr) (ty : Value) : Prop where
  tx : TyX K H v ty
  kI : PySem.W.kitOne K ty (.type "int") = some t.isI
  kB : PySem.W.kitOne K ty (.type "bool") = some t.isB
  kR : PySem.W.kitOne K ty (.ref C) = some t.isR
  kL : PySem.W.kitOne K ty (.type "list") = some t.isL
  kT : PySem.W.kitOne K ty (.type "tuple") = some t.isU
theorem TrV.ty {K : PySem.W.Frag} {mg : Str → Option Value} {C : Addr} {H : Hp} {v : V} {t : Tr} (R : RCl K mg C) (M : RCm K C) (h : TrV C H v t) : ∃ ty, TyAll K C H v t ty := by
  cases h with
  | non => exact ⟨_, .base .non, kit_ty (r := false) (by decide +kernel), kit_ty (r := false) (by decide +kernel), R.kN, kit_ty (r := false) (by decide +kernel), kit_ty (r := false) (by decide +kernel)⟩
  | bl b => exact ⟨_, .base (.bl b), kit_ty (r := true) (by decide +kernel), kit_ty (r := true) (by decide +kernel), R.kB, kit_ty (r := false) (by decide +kernel), kit_ty (r := false) (by decide +kernel)⟩
  | int i => exact ⟨_, .base (.int i), kit_ty (r := true) (by decide +kernel), kit_ty (r := false) (by decide +kernel), R.kI, kit_ty (r := false) (by decide +kernel), kit_ty (r := false) (by decide +kernel)⟩
  | str x => exact ⟨_, .base (.str x), kit_ty (r := false) (by decide +kernel), kit_ty (r := false) (by decide +kernel), R.kS, kit_ty (r := false) (by decide +kernel), kit_ty (r := false) (by decide +kernel)⟩
  | rat h =>
    obtain ⟨dx, h⟩ := h
    exact ⟨_, R.ty h, R.rI, R.rB, kt_own, M.rL, M.rT⟩
  | lst h _ => exact ⟨_, .base (.lst h), kit_ty (r := false) (by decide +kernel), kit_ty (r := false) (by decide +kernel), R.kL, kit_ty (r := true) (by decide +kernel), kit_ty (r := false) (by decide +kernel)⟩
  | tup h _ => exact ⟨_, .base (.tup h), kit_ty (r := false) (by decide +kernel), kit_ty (r := false) (by decide +kernel), R.kT, kit_ty (r := false) (by decide +kernel), kit_ty (r := true) (by decide +kernel)⟩
  | dk h => exact ⟨_, .base (.dK h), kit_ty (r := false) (by decide +kernel), kit_ty (r := false) (by decide +kernel), M.kD, kit_ty (r := false) (by decide +kernel), kit_ty (r := false) (by decide +kernel)⟩
  | dt h => exact ⟨_, .base (.dT h), kit_ty (r := false) (by decide +kernel), kit_ty (r := false) (by decide +kernel), M.kD, kit_ty (r := false) (by decide +kernel), kit_ty (r := false) (by decide +kernel)⟩
theorem TrV.kd {K : PySem.W.Frag} {mg : Str → Option Value} {C : Addr} {H : Hp} {v : V} {t : Tr} (R : RCl K mg C) (M : RCm K C) (h : TrV C H v t) : Kd K C H v t.isI t.isB t.isR := by
  obtain ⟨ty, z⟩ := h.ty R M
  exact ⟨ty, z.tx, z.kI, z.kB, z.kR⟩
theorem TrV.seq {C : Addr} {H : Hp} {v : V} {t : Tr} {l : List Tr} (h : TrV C H v t) (hl : t.sq? = some l) : ∃ a xs, v = .ref a ∧ SqH H a xs ∧ TrVs C H xs l := by
  cases h with
  | lst h q => cases hl; exact ⟨_, _, rfl, .inl h, q⟩
  | tup h q => cases hl; exact ⟨_, _, rfl, .inr h, q⟩
  | non => cases hl
  | bl _ => cases hl
  | int _ => cases hl
  | str _ => cases hl
  | rat _ => cases hl
  | dk _ => cases hl
  | dt _ => cases hl
theorem Tr.isQ_of {t : Tr} : t.isQ = t.sq?.isSome := by cases t <;> rfl
theorem itt {P Q : Prop} (h : P) : if true = true then P else Q := by rw [if_pos rfl]; exact h
theorem itf {P Q : Prop} (h : Q) : if false = true then P else Q := by rw [if_neg Bool.false_ne_true]; exact h
theorem kit_any2 {K : PySem.W.Frag} {t a b : Value} {x y : Bool} (h1 : PySem.W.kitOne K t a = some x) (h2 : PySem.W.kitOne K t b = some y) : PySem.W.kitAny K t [a, b] = some (x || y) := by
  unfold PySem.W.kitAny
  rw [h1]
  cases x
  · dsimp only
    unfold PySem.W.kitAny
    rw [h2]
    cases y <;> rfl
  · rfl
theorem lc_bl {α : Type} {J : It} {n : Nat} {xs : List V} {Gd : Hp → Prop} (w : Walk J n Gd (YAt xs)) {g : TG} {te : TE} {vs : List Nat} {σ : L2.St} {H1 : Hp} {D : Addr} {Qd : Hp → Prop} (hD : H1 D = none) (hG : ∀ H, Ex H1 H → Gd H) (ys : List α) (hn : n = ys.length) (hz : n ≤ 1000) (f : α → Bool)
    (hs : ∀ (i : Nat) y x H (Gt : VK), ys[i]? = some y → xs[i]? = some x → Ex H1 H → (∀ H2, Ex H H2 → Gt (.bl (f y)) H2) → g x (wipe σ vs) H fun σ2 H2 => wipe σ2 vs = wipe σ vs ∧ te σ2 H2 Gt)
    (hd : ∀ H, Ex H1 H → H D = some (.lst ((ys.map f).map V.bl)) → Qd H) :
    ∃ W : Nat → Nat → Hp → Prop, (∃ m, W 0 m (upd H1 D (.lst []))) ∧ ∀ i m H, W i m H →
      (J.stop i H ∧ Qd H) ∨ (J.go i H ∧ ∃ Nx : Hp → Prop, (∀ H', Nx H' → ∃ m', m' < m ∧ W (i + 1) m' H') ∧ ∀ x H', J.yld i H x H' → g x (wipe σ vs) H' fun σ2 H2 => wipe σ2 vs = wipe σ vs ∧ tYes σ2 H2 fun b H3 =>
        if b = true then te σ2 H3 fun y H4 => ∃ acc, H4 D = some (.lst acc) ∧ acc.length < sizeLine ∧ Nx (upd H4 D (.lst (acc ++ [y]))) else Nx H3) := by
  refine lcE w (Chg.ex hD) ys hn hz (fun _ => true) (fun y v _ => v = .bl (f y)) (fun _ _ _ _ _ _ h => h) (fun _ _ _ _ _ _ h => h) hG ?_ ?_
  · rintro i y x H H' N Gt hy e _ ⟨rfl, hx⟩ _ k
    exact hs i y x H' Gt hy hx e fun H2 e2 => k rfl _ _ e2 rfl
  · intro acc H e hD2 hacc
    rw [filter_yes] at hacc
    exact hd H e (by rw [hD2, paired_bl hacc])
theorem all_map {α : Type} (f : α → Bool) : ∀ ys : List α, (ys.map f).all id = ys.all f
  | [] => rfl
  | y :: ys => by rw [List.map_cons, List.all_cons, List.all_cons, all_map f ys]; rfl
/-! ### is_list, is_number, are_numbers of nested values -/
def spIsL (C : Addr) : Sp := fun vs H Q _ => ∃ (v : V) (t : Tr), vs = [v] ∧ TrV C H v t ∧ RetV (.bl t.isQ) H Q
section
variable {P : Program} {w : World} {K : PySem.W.Frag} {mg : Str → Option Value} {base : Heap} {f C : Addr} {fd : FuncData}
theorem isi_sq {H : Hp} {p : Addr} {v : V} {t : Tr} {R : RCl K mg C} (M : RCm K C) (hp : H p = some (.tup [.ty "list", .ty "tuple"])) (h : TrV C H v t) {Q : VK} (q : Q (.bl t.isQ) H) : rIsiT K [v, .ref p] H Q := by
  obtain ⟨ty, z⟩ := h.ty R M
  exact ⟨v, p, _, ty, _, t.isQ, rfl, hp, .cons (.ty "list") (.cons (.ty "tuple") .nil), z.tx, kit_any2 z.kL z.kT, q⟩
theorem ok_is_listT (F : Fun K "is_list" "is_list" (top 10) f fd) (R : RCl K mg C) (M : RCm K C) (T : Tx mg) : FnOk P w K mg base CX0 1 f fd ["value"] (spIsL C) := by
  have sc := sc_is_list
  refine F.ok sc (fun vs H Q E h => ?_) (fun cdv A outer s H vs Q E hr h => ?_)
  · obtain ⟨i, _, rfl, _⟩ := h; rfl
  obtain ⟨v, t, rfl, ht, q⟩ := h
  refine ⟨_, (pss_one (ps_ret (pe_callB call_isiT rfl T.b_isinstance bt_isinstance (pa_cons (pv 0) (pa_cons (pe_tup (pa_cons (pe_bltn (v := .ty "list") rfl T.b_list bt_list rfl) (pa_cons (pe_bltn (v := .ty "tuple") rfl T.b_tuple bt_tuple rfl) pa_nil))) pa_nil))))), ?_⟩
  refine ⟨_, rfl, (by show 2 ≤ sizeLine; decide), fun p hp => ?_⟩
  have e1 : Ex H (upd H p (.tup [.ty "list", .ty "tuple"])) := Ex.new hp
  exact isi_sq (R := R) M upd_same (TrV.up e1 _ _ ht) (q _ e1)
end
end B71

namespace B71
open PySem PySem.Spec PyProof.Rows L2 Evl RZ SrtO

mutual
def Tr.Good : Tr → Prop
  | .int i => i.natAbs < 10 ^ 50
  | .str x => (reprText x).length ≤ 100
  | .rat t b => Bt 150 t ∧ Bt 150 b ∧ 0 < b
  | .lst l => GoodAll l
  | .tup l => GoodAll l
  | .non => True
  | .bl _ => True
  | .dk ks => ks.length ≤ 100 ∧ ∀ c ∈ ks, c < 100
  | .dt ps => ps.length ≤ 100 ∧ ∀ p ∈ ps, p.1 < 100 ∧ p.2 < 100
def GoodAll : List Tr → Prop
  | [] => True
  | t :: l => t.Good ∧ GoodAll l
end
mutual
def Tr.cnt : Tr → Nat
  | .lst l => cntAll l + 1
  | .tup l => cntAll l + 1
  | .non => 1
  | .bl _ => 1
  | .int _ => 1
  | .str _ => 1
  | .rat _ _ => 1
  | .dk ks => 1 + ks.length
  | .dt ps => 1 + ps.length
def cntAll : List Tr → Nat
  | [] => 0
  | t :: l => t.cnt + cntAll l
end
theorem cnt_pos : ∀ t : Tr, 1 ≤ t.cnt
  | .lst l => by rw [Tr.cnt]; omega
  | .tup l => by rw [Tr.cnt]; omega
  | .non => Nat.le_refl _
  | .bl _ => Nat.le_refl _
  | .int _ => Nat.le_refl _
  | .str _ => Nat.le_refl _
  | .rat _ _ => Nat.le_refl _
  | .dk ks => by rw [Tr.cnt]; omega
  | .dt ps => by rw [Tr.cnt]; omega
theorem len_cnt : ∀ l : List Tr, l.length ≤ cntAll l
  | [] => Nat.le_refl _
  | t :: l => by
    rw [List.length_cons, cntAll]
    have := cnt_pos t
    have := len_cnt l
    omega
theorem cnt_mem : ∀ {l : List Tr} {t : Tr}, t ∈ l → t.cnt ≤ cntAll l
  | [], _, h => nomatch h
  | x :: l, t, h => by
    rw [cntAll]
    rcases List.mem_cons.mp h with rfl | h
    · omega
    · have := cnt_mem h
      omega
theorem sq_cnt {t : Tr} {l : List Tr} (h : t.sq? = some l) : cntAll l + 1 ≤ t.cnt := by
  cases t <;> first | (cases h; rw [Tr.cnt]; omega) | cases h
theorem good_mem : ∀ {l : List Tr} {t : Tr}, GoodAll l → t ∈ l → t.Good
  | [], _, _, h => nomatch h
  | x :: l, t, g, h => by
    rw [GoodAll] at g
    rcases List.mem_cons.mp h with rfl | h
    · exact g.1
    · exact good_mem g.2 h
theorem len_of {t : Tr} {l : List Tr} {n : Nat} (h : t.sq? = some l) (k : t.cnt ≤ n) : l.length ≤ n := by
  have := len_cnt l
  have := sq_cnt h
  omega
theorem b190 {x : Int} (h : Bt 150 x) : Bt 190 x := h.mono (by decide)
mutual
theorem good_fit : ∀ t : Tr, t.Good → t.Fit
  | .int i, h => by
    rw [Tr.Good] at h
    rw [Tr.Fit]
    exact Nat.lt_trans (Bt.log (n := 190) (x := i) (Nat.lt_of_lt_of_le h (by decide +kernel)) (by decide)) (by decide)
  | .str x, h => by
    rw [Tr.Good] at h
    rw [Tr.Fit, sizeLine_eq]
    omega
  | .rat t b, h => by
    rw [Tr.Good] at h
    rw [Tr.Fit]
    exact ⟨b190 h.1, b190 h.2.1⟩
  | .lst l, h => by
    rw [Tr.Good] at h
    rw [Tr.Fit]
    exact good_fits l h
  | .tup l, h => by
    rw [Tr.Good] at h
    rw [Tr.Fit]
    exact good_fits l h
  | .non, _ => by rw [Tr.Fit]; trivial
  | .bl _, _ => by rw [Tr.Fit]; trivial
  | .dk ks, h => by rw [Tr.Good] at h; rw [Tr.Fit]; exact h
  | .dt ps, h => by rw [Tr.Good] at h; rw [Tr.Fit]; exact h
theorem good_fits : ∀ l : List Tr, GoodAll l → FitAll l
  | [], _ => by rw [FitAll]; trivial
  | t :: l, h => by
    rw [GoodAll] at h
    rw [FitAll]
    exact ⟨good_fit t h.1, good_fits l h.2⟩
end
theorem list_text_le (ts : List Str) : (listText ts).length ≤ piled ts + 2 := by
  cases ts with
  | nil => decide
  | cons t r =>
    have h := textFrom_length_pos r 1 (("[" : Str) ++ (if (0 : Nat) > 0 then ", " else "" : String) ++ t) (Nat.succ_pos 0)
    have e : ((("[" : Str) ++ (if (0 : Nat) > 0 then ", " else "" : String) ++ t)).length = 1 + t.length := by
      rw [strLen_append, strLen_append]; rfl
    have a : (listText (t :: r)).length = (textFrom 1 (("[" : Str) ++ (if (0 : Nat) > 0 then ", " else "" : String) ++ t) r).length + 1 := by
      show (textFrom 0 "[" (t :: r) ++ "]").length = _
      rw [strLen_append]; rfl
    rw [a, h, e, piled_cons]
    omega
theorem tup_text_le (ts : List Str) : (tupleText ts).length ≤ piled ts + 3 := by
  unfold tupleText
  rw [strLen_append, strLen_append]
  have e1 : ((("(" : String) : Str)).length = 1 := rfl
  have e3 : (((if ts.length == 1 then ",)" else ")" : String) : Str)).length ≤ 2 := by split <;> decide
  rw [e1]
  by_cases h : ts = []
  · subst h
    have : (Str.join ", " ([] : List Str)).length = 0 := rfl
    omega
  · have := join_length_add ts h
    omega
theorem dict_text_le (ts : List Str) : (dictText ts).length ≤ piled ts + 2 := by
  unfold dictText
  rw [strLen_append, strLen_append]
  have e1 : ((("{" : String) : Str)).length = 1 := rfl
  have e3 : ((("}" : String) : Str)).length = 1 := rfl
  rw [e1, e3]
  by_cases h : ts = []
  · subst h
    have : (Str.join ", " ([] : List Str)).length = 0 := rfl
    omega
  · have := join_length_add ts h
    omega
theorem piled_map_le {α : Type} {n : Nat} {f : α → Str} : ∀ l : List α, (∀ x ∈ l, (f x).length + 2 ≤ n) → piled (l.map f) ≤ n * l.length
  | [], _ => Nat.zero_le _
  | x :: l, h => by
    rw [List.map_cons, piled_cons, List.length_cons, Nat.mul_add, Nat.mul_one]
    have := h x (List.mem_cons_self ..)
    have := piled_map_le l fun y hy => h y (List.mem_cons_of_mem _ hy)
    omega
theorem tI_small {c : Nat} (h : c < 100) : (toString (c : Int) : Str).length ≤ 20 := by
  have key : ∀ c : Fin 100, (toString ((c.val : Nat) : Int) : Str).length ≤ 20 := by decide +kernel
  exact key ⟨c, h⟩
theorem bool_text (b : Bool) : (Tr.text (.bl b)).length ≤ 5 := by cases b <;> decide
mutual
theorem text_le : ∀ t : Tr, t.Good → t.text.length + 6 ≤ 150 * t.cnt
  | .int i, h => by
    rw [Tr.Good] at h
    have := tI_len (n := i) (Nat.lt_of_lt_of_le h (by decide +kernel))
    show (tI i).length + 6 ≤ 150 * 1
    omega
  | .str x, h => by
    rw [Tr.Good] at h
    rw [Tr.text]
    show _ ≤ 150 * 1
    omega
  | .rat t b, h => by
    rw [Tr.Good] at h
    have l1 := tI_len (n := t) (bt190 (b190 h.1))
    have l2 := tI_len (n := b) (bt190 (b190 h.2.1))
    have k1 : (Str.ofString "Ratio(").length = 6 := rfl
    have k2 : (Str.ofString ", ").length = 2 := rfl
    have k3 : (Str.ofString ")").length = 1 := rfl
    show (Str.ofString "Ratio(" ++ tI t ++ Str.ofString ", " ++ tI b ++ Str.ofString ")").length + 6 ≤ 150 * 1
    simp only [Str.length_append]
    omega
  | .lst l, h => by
    rw [Tr.Good] at h
    have := texts_le l h
    have := list_text_le (textAll l)
    rw [Tr.text, Tr.cnt]
    omega
  | .tup l, h => by
    rw [Tr.Good] at h
    have := texts_le l h
    have := tup_text_le (textAll l)
    rw [Tr.text, Tr.cnt]
    omega
  | .non, _ => by decide
  | .bl b, _ => by
    have := bool_text b
    show _ ≤ 150 * 1
    omega
  | .dk ks, h => by
    rw [Tr.Good] at h
    rw [Tr.text, Tr.cnt]
    have := dict_text_le (ks.map fun (c : Nat) => toString (c : Int) ++ (": " : Str) ++ "True")
    have := piled_map_le (n := 100) (f := fun (c : Nat) => toString (c : Int) ++ (": " : Str) ++ "True") ks fun c hc => by
      have k1 : ((": " : Str)).length = 2 := rfl
      have k2 : (("True" : Str)).length = 4 := rfl
      simp only [Str.length_append]
      have l2 := tI_small (h.2 c hc)
      omega
    omega
  | .dt ps, h => by
    rw [Tr.Good] at h
    rw [Tr.text, Tr.cnt]
    have := dict_text_le (ps.map fun p => tupleText [toString (p.1 : Int), toString (p.2 : Int)] ++ (": " : Str) ++ "True")
    have := piled_map_le (n := 100) (f := fun (p : Nat × Nat) => tupleText [toString (p.1 : Int), toString (p.2 : Int)] ++ (": " : Str) ++ "True") ps fun p hp => by
      have l1 := tI_small (h.2 p hp).1
      have l2 := tI_small (h.2 p hp).2
      have k1 : ((": " : Str)).length = 2 := rfl
      have k2 : (("True" : Str)).length = 4 := rfl
      have l3 := tup_text_le [toString (p.1 : Int), toString (p.2 : Int)]
      rw [piled_cons, piled_cons] at l3
      have l4 : piled [] = 0 := rfl
      simp only [Str.length_append]
      omega
    omega
theorem texts_le : ∀ l : List Tr, GoodAll l → piled (textAll l) ≤ 150 * cntAll l
  | [], _ => by decide
  | t :: l, h => by
    rw [GoodAll] at h
    have a := text_le t h.1
    have b := texts_le l h.2
    have c := cnt_pos t
    rw [textAll, piled_cons, cntAll]
    omega
end
end B71

namespace R71
abbrev Pl := List (Nat × Nat)
/-- a dict: keys and values in their sequence -/
abbrev Dc := List (Nat × Nat)
def look (d : Dc) (c : Nat) : Option Nat := (d.find? fun p => decide (p.1 = c)).map (·.2)
def put (d : Dc) (c r : Nat) : Dc := if d.any (fun p => decide (p.1 = c)) then d.map (fun p => if p.1 = c then (c, r) else p) else d ++ [(c, r)]
def del (d : Dc) (c : Nat) : Dc := d.filter fun p => decide (p.1 ≠ c)
def fwLoop (rec : Nat → Dc → List Nat → Option Dc × List Nat) (row : Nat) (seats : Dc) : Pl → List Nat → Option Dc × List Nat
  | [], t => (none, t)
  | (n, c) :: ps, t =>
    if n = row ∧ c ∉ t then
      match look seats c with
      | none => (some (put seats c row), t ++ [c])
      | some r2 => match rec r2 (del seats c) (t ++ [c]) with
        | (some l, t2) => (some (put l c row), t2)
        | (none, t2) => fwLoop rec row seats ps t2
    else fwLoop rec row seats ps t
def fw (pl : Pl) : Nat → Nat → Dc → List Nat → Option Dc × List Nat
  | 0, _, _, t => (none, t)
  | f + 1, row, seats, t => fwLoop (fw pl f) row seats pl t
def seatsOf (pl : Pl) (tall : Nat) : Dc := (List.range tall).foldl (fun M r => ((fw pl 5 r M []).1).getD M) []

/-! ### dicts -/
theorem look_none {d : Dc} {c : Nat} : look d c = none ↔ ∀ p ∈ d, p.1 ≠ c := by
  unfold look
  rw [Option.map_eq_none_iff, List.find?_eq_none]
  simp
theorem look_some {d : Dc} {c r : Nat} (hn : (d.map (·.1)).Nodup) : look d c = some r ↔ (c, r) ∈ d := by
  induction d with
  | nil => simp [look]
  | cons p d ih =>
    rw [List.map_cons, List.nodup_cons] at hn
    have ih := ih hn.2
    unfold look at ih ⊢
    by_cases h : p.1 = c
    · rw [List.find?_cons_of_pos (by simpa using h), Option.map_some]
      constructor
      · intro e
        cases e
        rw [← h]
        exact List.mem_cons_self
      · intro e
        rcases List.mem_cons.mp e with e | e
        · rw [← e]
        · exact absurd (List.mem_map_of_mem (f := (·.1)) e) (by rw [← h] <;> exact hn.1)
    · rw [List.find?_cons_of_neg (by simpa using h), ih]
      constructor
      · exact List.mem_cons_of_mem _
      · intro e
        rcases List.mem_cons.mp e with e | e
        · exact absurd (by rw [← e]) h
        · exact e
theorem look_mem {d : Dc} {c r : Nat} (h : look d c = some r) : (c, r) ∈ d := by
  unfold look at h
  obtain ⟨p, hp, e⟩ := Option.map_eq_some_iff.mp h
  have h1 := List.find?_some hp
  have h2 := List.mem_of_find?_eq_some hp
  have h3 : p.1 = c := by simpa using h1
  rw [← h3, ← e]
  exact h2
theorem look_del {d : Dc} {c c' : Nat} (h : c' ≠ c) : look (del d c) c' = look d c' := by
  unfold look del
  induction d with
  | nil => rfl
  | cons p d ih =>
    by_cases h1 : p.1 = c
    · rw [List.filter_cons_of_neg (by simpa using h1)]
      rw [List.find?_cons_of_neg (by simpa using fun q => h (q.symm.trans h1))]
      exact ih
    · rw [List.filter_cons_of_pos (by simpa using h1)]
      by_cases h2 : p.1 = c'
      · rw [List.find?_cons_of_pos (by simpa using h2), List.find?_cons_of_pos (by simpa using h2)]
      · rw [List.find?_cons_of_neg (by simpa using h2), List.find?_cons_of_neg (by simpa using h2)]
        exact ih
theorem look_del_self {d : Dc} {c : Nat} : look (del d c) c = none := by
  rw [look_none]
  intro p hp
  have := (List.mem_filter.mp hp).2
  simpa using this
theorem put_new {d : Dc} {c r : Nat} (h : look d c = none) : put d c r = d ++ [(c, r)] := by
  unfold put
  rw [look_none] at h
  rw [if_neg]
  intro q
  obtain ⟨p, hp, e⟩ := List.any_eq_true.mp q
  exact h p hp (of_decide_eq_true e)
theorem look_app {d : Dc} {c r c' : Nat} (h : look d c = none) : look (d ++ [(c, r)]) c' = if c' = c then some r else look d c' := by
  unfold look at h ⊢
  rw [List.find?_append]
  by_cases e : c' = c
  · subst e
    rw [Option.map_eq_none_iff] at h
    rw [h]
    simp
  · rw [if_neg e]
    have : List.find? (fun p => decide (p.1 = c')) [(c, r)] = none := by
      rw [List.find?_cons_of_neg (by simpa using fun q => e q.symm)]
      rfl
    rw [this, Option.or_none]

theorem loop_skip {rec : Nat → Dc → List Nat → Option Dc × List Nat} {row : Nat} {M : Dc} {k c : Nat} {ps : Pl} {t : List Nat} (g : ¬ (k = row ∧ c ∉ t)) : fwLoop rec row M ((k, c) :: ps) t = fwLoop rec row M ps t := by
  rw [fwLoop, if_neg g]
theorem loop_free {rec : Nat → Dc → List Nat → Option Dc × List Nat} {row : Nat} {M : Dc} {k c : Nat} {ps : Pl} {t : List Nat} (g : k = row ∧ c ∉ t) (e : look M c = none) : fwLoop rec row M ((k, c) :: ps) t = (some (put M c row), t ++ [c]) := by
  rw [fwLoop, if_pos g, e]
theorem loop_win {rec : Nat → Dc → List Nat → Option Dc × List Nat} {row : Nat} {M : Dc} {k c r2 : Nat} {ps : Pl} {t : List Nat} {l : Dc} {t2 : List Nat} (g : k = row ∧ c ∉ t) (e : look M c = some r2) (q : rec r2 (del M c) (t ++ [c]) = (some l, t2)) : fwLoop rec row M ((k, c) :: ps) t = (some (put l c row), t2) := by
  rw [fwLoop, if_pos g, e]
  simp only [q]
theorem loop_lose {rec : Nat → Dc → List Nat → Option Dc × List Nat} {row : Nat} {M : Dc} {k c r2 : Nat} {ps : Pl} {t : List Nat} {t2 : List Nat} (g : k = row ∧ c ∉ t) (e : look M c = some r2) (q : rec r2 (del M c) (t ++ [c]) = (none, t2)) : fwLoop rec row M ((k, c) :: ps) t = fwLoop rec row M ps t2 := by
  rw [fwLoop, if_pos g, e]
  simp only [q]
theorem inj2 : ∀ {l : Dc}, (l.map (·.2)).Nodup → ∀ {a b : Nat × Nat}, a ∈ l → b ∈ l → a.2 = b.2 → a = b
  | [], _, _, _, ha, _, _ => nomatch ha
  | x :: l, hn, a, b, ha, hb, hab => by
    rw [List.map_cons, List.nodup_cons] at hn
    rcases List.mem_cons.mp ha with ea | ha
    · rcases List.mem_cons.mp hb with eb | hb
      · rw [ea, eb]
      · exact absurd (List.mem_map.mpr ⟨b, hb, by rw [← hab, ea]⟩) hn.1
    · rcases List.mem_cons.mp hb with eb | hb
      · exact absurd (List.mem_map.mpr ⟨a, ha, by rw [hab, eb]⟩) hn.1
      · exact inj2 hn.2 ha hb hab

/-! ### counting -/
theorem erase_sub {l m : List Nat} {x : Nat} (hn : (x :: l).Nodup) (hs : ∀ y ∈ x :: l, y ∈ m) : ∀ y ∈ l, y ∈ m.erase x := fun y hy => by
  have hx : x ∉ l := (List.nodup_cons.mp hn).1
  have ne : y ≠ x := fun e => hx (e ▸ hy)
  exact (List.mem_erase_of_ne ne).mpr (hs y (List.mem_cons_of_mem _ hy))
theorem nodup_le : ∀ {l m : List Nat}, l.Nodup → (∀ y ∈ l, y ∈ m) → l.length ≤ m.length
  | [], _, _, _ => Nat.zero_le _
  | x :: l, m, hn, hs => by
    have h := nodup_le (List.nodup_cons.mp hn).2 (erase_sub hn hs)
    have hx := hs x List.mem_cons_self
    rw [List.length_erase_of_mem hx] at h
    have : 0 < m.length := List.length_pos_of_mem hx
    show l.length + 1 ≤ m.length
    omega
theorem nodup_eq {l m : List Nat} (hl : l.Nodup) (hm : m.Nodup) (h : ∀ y, y ∈ l ↔ y ∈ m) : l.length = m.length :=
  Nat.le_antisymm (nodup_le hl fun y q => (h y).mp q) (nodup_le hm fun y q => (h y).mpr q)
theorem filter_both {α : Type} (p : α → Bool) : ∀ l : List α, (l.filter p).length + (l.filter fun x => !p x).length = l.length
  | [] => rfl
  | x :: l => by
    have := filter_both p l
    cases h : p x with
    | true =>
      rw [List.filter_cons_of_pos h, List.filter_cons_of_neg (by simp [h])]
      show (l.filter p).length + 1 + _ = l.length + 1
      omega
    | false =>
      rw [List.filter_cons_of_neg (by simp [h]), List.filter_cons_of_pos (by simp [h])]
      show _ + ((l.filter _).length + 1) = l.length + 1
      omega
theorem map_nodup_filter {l : Dc} {f : Nat × Nat → Nat} (h : (l.map f).Nodup) (p : Nat × Nat → Bool) : ((l.filter p).map f).Nodup :=
  List.Sublist.nodup ((List.filter_sublist).map f) h

/-! ### matchings, covers -/
/-- columns to rows that spare one another, of places -/
structure Mat (pl : Pl) (M : Dc) : Prop where
  cols : (M.map (·.1)).Nodup
  rows : (M.map (·.2)).Nodup
  on : ∀ c r, (c, r) ∈ M → (r, c) ∈ pl
def Cov (pl : Pl) (R C : List Nat) : Prop := ∀ r c, (r, c) ∈ pl → r ∈ R ∨ c ∈ C
theorem weak {pl : Pl} {M : Dc} {R C : List Nat} (m : Mat pl M) (k : Cov pl R C) : M.length ≤ R.length + C.length := by
  rw [← filter_both (fun p => decide (p.2 ∈ R)) M]
  have h1 : (M.filter fun p => decide (p.2 ∈ R)).length ≤ R.length := by
    rw [← List.length_map (f := (·.2))]
    refine nodup_le (map_nodup_filter m.rows _) fun y hy => ?_
    obtain ⟨p, hp, rfl⟩ := List.mem_map.mp hy
    simpa using (List.mem_filter.mp hp).2
  have h2 : (M.filter fun p => !decide (p.2 ∈ R)).length ≤ C.length := by
    rw [← List.length_map (f := (·.1))]
    refine nodup_le (map_nodup_filter m.cols _) fun y hy => ?_
    obtain ⟨⟨c, r⟩, hp, rfl⟩ := List.mem_map.mp hy
    have h := List.mem_filter.mp hp
    have hr : r ∉ R := by simpa using h.2
    exact (k r c (m.on c r h.1)).resolve_left hr
  omega

/-! ### one search -/
section
variable {pl : Pl}
/-- what holds of the columns that were tried -/
structure Tr (t : List Nat) : Prop where
  nd : t.Nodup
  lt : ∀ c ∈ t, c < 4
theorem Tr.len {t : List Nat} (h : Tr t) : t.length ≤ 4 := by
  have := nodup_le (m := List.range 4) h.nd fun c hc => List.mem_range.mpr (h.lt c hc)
  simpa using this
theorem Tr.snoc {t : List Nat} (h : Tr t) {c : Nat} (hc : c ∉ t) (h4 : c < 4) : Tr (t ++ [c]) := by
  refine ⟨?_, fun x hx => ?_⟩
  · rw [List.nodup_append]
    refine ⟨h.nd, by simp, fun a ha b hb e => ?_⟩
    have : b = c := by simpa using hb
    exact hc (this ▸ e ▸ ha)
  · rcases List.mem_append.mp hx with hx | hx
    · exact h.lt x hx
    · have : x = c := by simpa using hx
      omega
/-- what a search tries it adds behind what was tried -/
def Tells (t t2 : List Nat) : Prop := Tr t2 ∧ ∀ c ∈ t, c ∈ t2
/-- a failed search: all columns of the row are tried, each newly tried one has a seat whose row's columns are tried -/
structure Fail (pl : Pl) (row : Nat) (M : Dc) (t t2 : List Nat) : Prop where
  own : ∀ c, (row, c) ∈ pl → c ∈ t2
  new : ∀ c ∈ t2, c ∉ t → ∃ r, look M c = some r ∧ ∀ c', (r, c') ∈ pl → c' ∈ t2
def Out (pl : Pl) (row : Nat) (M : Dc) (t : List Nat) (o : Option Dc × List Nat) : Prop :=
  Tells t o.2 ∧ (o.1 = none → Fail pl row M t o.2)
theorem loop_out {rec : Nat → Dc → List Nat → Option Dc × List Nat} {row : Nat} {M : Dc} (h4 : ∀ r c, (r, c) ∈ pl → c < 4)
    {n : Nat} (hr : ∀ r M t, Tr t → 5 ≤ t.length + n → Out pl r M t (rec r M t)) :
    ∀ (ps : Pl) (t : List Nat), (∀ p ∈ ps, p ∈ pl) → Tr t → 4 ≤ t.length + n →
      Tells t (fwLoop rec row M ps t).2 ∧ ((fwLoop rec row M ps t).1 = none →
        (∀ c, (row, c) ∈ ps → c ∈ (fwLoop rec row M ps t).2) ∧
        ∀ c ∈ (fwLoop rec row M ps t).2, c ∉ t → ∃ r, look M c = some r ∧ ∀ c', (r, c') ∈ pl → c' ∈ (fwLoop rec row M ps t).2)
  | [], t, _, ht, _ => ⟨⟨ht, fun c h => h⟩, fun _ => ⟨fun c h => (nomatch h), fun c h1 h2 => absurd h1 h2⟩⟩
  | (k, c) :: ps, t, hp, ht, hn => by
    have hps : ∀ p ∈ ps, p ∈ pl := fun p h => hp p (List.mem_cons_of_mem _ h)
    by_cases g : k = row ∧ c ∉ t
    · have hc4 : c < 4 := h4 k c (hp _ List.mem_cons_self)
      have ht1 := ht.snoc g.2 hc4
      cases e : look M c with
      | none =>
        rw [loop_free g e]
        exact ⟨⟨ht1, fun x hx => List.mem_append_left _ hx⟩, fun q => nomatch q⟩
      | some r2 =>
        have o := hr r2 (del M c) (t ++ [c]) ht1 (by simp; omega)
        rcases h : rec r2 (del M c) (t ++ [c]) with ⟨_ | l, t2⟩
        · rw [loop_lose g e h]
          rw [h] at o
          obtain ⟨⟨o1, o2⟩, o3⟩ := o
          have f := o3 rfl
          have tl : t.length + 1 ≤ t2.length := by
            have := nodup_le (l := t ++ [c]) ht1.nd o2
            simpa using this
          obtain ⟨⟨i1, i2⟩, i3⟩ := loop_out (row := row) (M := M) h4 hr ps t2 hps o1 (by omega)
          refine ⟨⟨i1, fun x hx => i2 x (o2 x (List.mem_append_left _ hx))⟩, fun q => ?_⟩
          obtain ⟨j1, j2⟩ := i3 q
          refine ⟨fun x hx => ?_, fun x hx hxt => ?_⟩
          · rcases List.mem_cons.mp hx with e2 | e2
            · have : x = c := congrArg Prod.snd e2
              exact i2 x (o2 x (by simp [this]))
            · exact j1 x e2
          · by_cases h2 : x ∈ t2
            · by_cases hxc : x = c
              · subst hxc
                exact ⟨r2, e, fun c' hc' => i2 c' (f.own c' hc')⟩
              · obtain ⟨r, q1, q2⟩ := f.new x h2 (by simp [hxt, hxc])
                rw [look_del hxc] at q1
                exact ⟨r, q1, fun c' hc' => i2 c' (q2 c' hc')⟩
            · exact j2 x hx h2
        · rw [loop_win g e h]
          rw [h] at o
          exact ⟨⟨o.1.1, fun x hx => o.1.2 x (List.mem_append_left _ hx)⟩, fun q => nomatch q⟩
    · rw [loop_skip g]
      obtain ⟨i1, i2⟩ := loop_out (row := row) (M := M) h4 hr ps t hps ht hn
      refine ⟨i1, fun q => ?_⟩
      obtain ⟨j1, j2⟩ := i2 q
      refine ⟨fun x hx => ?_, j2⟩
      rcases List.mem_cons.mp hx with e2 | e2
      · have e3 : x = c := congrArg Prod.snd e2
        have e4 : row = k := congrArg Prod.fst e2
        have : c ∈ t := Decidable.byContradiction fun hx' => g ⟨e4.symm, hx'⟩
        exact i1.2 x (e3 ▸ this)
      · exact j1 x e2
theorem fw_out (h4 : ∀ r c, (r, c) ∈ pl → c < 4) : ∀ (n : Nat) (row : Nat) (M : Dc) (t : List Nat), Tr t → 5 ≤ t.length + n → Out pl row M t (fw pl n row M t)
  | 0, row, M, t, ht, h => by
    have := ht.len
    omega
  | n + 1, row, M, t, ht, h => by
    have o := loop_out (row := row) (M := M) h4 (fun r M t => fw_out h4 n r M t) pl t (fun _ h => h) ht (by omega)
    exact ⟨o.1, fun q => ⟨(o.2 q).1, (o.2 q).2⟩⟩

/-! a search that comes through -/
structure Won (pl : Pl) (row : Nat) (M : Dc) (t : List Nat) (L : Dc) : Prop where
  mat : Mat pl L
  rows : ∀ r, r ∈ L.map (·.2) ↔ r ∈ M.map (·.2) ∨ r = row
  cols : ∀ c, c ∈ L.map (·.1) → c ∈ M.map (·.1) ∨ c ∉ t
theorem Mat.del {M : Dc} (m : Mat pl M) (c : Nat) : Mat pl (del M c) :=
  ⟨map_nodup_filter m.cols _, map_nodup_filter m.rows _, fun c' r h => m.on c' r (List.mem_filter.mp h).1⟩
theorem Mat.snoc {M : Dc} (m : Mat pl M) {c r : Nat} (hc : c ∉ M.map (·.1)) (hr : r ∉ M.map (·.2)) (hp : (r, c) ∈ pl) : Mat pl (M ++ [(c, r)]) := by
  refine ⟨?_, ?_, fun c' r' h => ?_⟩
  · rw [List.map_append, List.nodup_append]
    refine ⟨m.cols, by simp, fun a ha b hb e => ?_⟩
    have : b = c := by simpa using hb
    exact hc (this ▸ e ▸ ha)
  · rw [List.map_append, List.nodup_append]
    refine ⟨m.rows, by simp, fun a ha b hb e => ?_⟩
    have : b = r := by simpa using hb
    exact hr (this ▸ e ▸ ha)
  · rcases List.mem_append.mp h with h | h
    · exact m.on c' r' h
    · have : (c', r') = (c, r) := by simpa using h
      cases this
      exact hp
theorem not_col {M : Dc} {c : Nat} : look M c = none ↔ c ∉ M.map (·.1) := by
  rw [look_none]
  constructor
  · intro h hm
    obtain ⟨p, hp, e⟩ := List.mem_map.mp hm
    exact h p hp e
  · intro h p hp e
    exact h (List.mem_map.mpr ⟨p, hp, e⟩)
theorem won_step {M L : Dc} {row c : Nat} {t : List Nat} (mL : Mat pl L) (hr : ∀ r, r ∈ L.map (·.2) ↔ r ∈ M.map (·.2)) (hc : ∀ x, x ∈ L.map (·.1) → x ∈ M.map (·.1) ∨ x ∉ t)
    (hcL : c ∉ L.map (·.1)) (hct : c ∉ t) (hrow : row ∉ M.map (·.2)) (hp : (row, c) ∈ pl) : Won pl row M t (put L c row) := by
  rw [put_new (not_col.mpr hcL)]
  refine ⟨mL.snoc hcL (fun q => hrow ((hr _).mp q)) hp, fun r => ?_, fun x hx => ?_⟩
  · rw [List.map_append, List.mem_append, hr]
    simp
  · rw [List.map_append, List.mem_append] at hx
    rcases hx with hx | hx
    · exact hc x hx
    · have : x = c := by simpa using hx
      exact .inr (this ▸ hct)
theorem rows_del {M : Dc} (m : Mat pl M) {c r2 : Nat} (e : look M c = some r2) : (∀ r, r ∈ (del M c).map (·.2) ∨ r = r2 ↔ r ∈ M.map (·.2)) ∧ r2 ∉ (del M c).map (·.2) := by
  have hm : (c, r2) ∈ M := look_mem e
  refine ⟨fun r => ⟨?_, fun z => ?_⟩, fun z => ?_⟩
  · rintro (z | rfl)
    · obtain ⟨p, hp, e⟩ := List.mem_map.mp z
      exact List.mem_map.mpr ⟨p, (List.mem_filter.mp hp).1, e⟩
    · exact List.mem_map.mpr ⟨_, hm, rfl⟩
  · obtain ⟨⟨c', r'⟩, hp, e2⟩ := List.mem_map.mp z
    have e2 : r' = r := e2
    subst e2
    by_cases hcc : c' = c
    · subst hcc
      have := (look_some m.cols).mpr hp
      rw [e] at this
      cases this
      exact .inr rfl
    · exact .inl (List.mem_map.mpr ⟨(c', r'), List.mem_filter.mpr ⟨hp, by simpa using hcc⟩, rfl⟩)
  · obtain ⟨⟨c', r'⟩, hp, e2⟩ := List.mem_map.mp z
    have e2 : r' = r2 := e2
    subst e2
    have h1 := List.mem_filter.mp hp
    have ne : c' ≠ c := by simpa using h1.2
    exact ne (congrArg (·.1) (inj2 m.rows h1.1 hm rfl))
theorem loop_won {rec : Nat → Dc → List Nat → Option Dc × List Nat} {row : Nat} {M : Dc} (m : Mat pl M) (hrow : row ∉ M.map (·.2))
    (hr : ∀ r M t L, Mat pl M → r ∉ M.map (·.2) → (rec r M t).1 = some L → Won pl r M t L) (hg : ∀ r M t c, c ∈ t → c ∈ (rec r M t).2) :
    ∀ (ps : Pl) (t t0 : List Nat) (L : Dc), (∀ p ∈ ps, p ∈ pl) → (∀ c ∈ t0, c ∈ t) → (fwLoop rec row M ps t).1 = some L → Won pl row M t0 L
  | [], t, t0, L, _, _, h => nomatch h
  | (k, c) :: ps, t, t0, L, hp, ht, h => by
    have hps : ∀ p ∈ ps, p ∈ pl := fun p h => hp p (List.mem_cons_of_mem _ h)
    by_cases g : k = row ∧ c ∉ t
    · have hcp : (row, c) ∈ pl := g.1 ▸ hp _ List.mem_cons_self
      have hc0 : c ∉ t0 := fun q => g.2 (ht c q)
      cases e : look M c with
      | none =>
        rw [loop_free g e] at h
        cases h
        exact won_step m (fun _ => Iff.rfl) (fun _ q => .inl q) (not_col.mp e) hc0 hrow hcp
      | some r2 =>
        rcases q : rec r2 (del M c) (t ++ [c]) with ⟨_ | l, t2⟩
        · rw [loop_lose g e q] at h
          refine loop_won m hrow hr hg ps t2 t0 L hps (fun x hx => ?_) h
          have := hg r2 (del M c) (t ++ [c]) x (List.mem_append_left _ (ht x hx))
          rw [q] at this
          exact this
        · rw [loop_win g e q] at h
          cases h
          obtain ⟨r2M, r2n⟩ := rows_del m e
          have w := hr r2 (del M c) (t ++ [c]) l (m.del c) r2n (by rw [q])
          refine won_step w.mat (fun r => (w.rows r).trans (r2M r)) (fun x hx => ?_) (fun z => ?_) hc0 hrow hcp
          · rcases w.cols x hx with z | z
            · obtain ⟨p, hp, e⟩ := List.mem_map.mp z
              exact .inl (List.mem_map.mpr ⟨p, (List.mem_filter.mp hp).1, e⟩)
            · exact .inr fun y => z (List.mem_append_left _ (ht x y))
          · rcases w.cols c z with y | y
            · exact not_col.mp (look_del_self (d := M) (c := c)) y
            · exact y (by simp)
    · rw [loop_skip g] at h
      exact loop_won m hrow hr hg ps t t0 L hps ht h
theorem fw_grow : ∀ (n row : Nat) (M : Dc) (t : List Nat) (c : Nat), c ∈ t → c ∈ (fw pl n row M t).2
  | 0, _, _, _, _, h => h
  | n + 1, row, M, t, c, h => by
    have key : ∀ (ps : Pl) (t : List Nat), c ∈ t → c ∈ (fwLoop (fw pl n) row M ps t).2 := by
      intro ps
      induction ps with
      | nil => intro t h; exact h
      | cons p ps ih =>
        obtain ⟨k, c'⟩ := p
        intro t h
        by_cases g : k = row ∧ c' ∉ t
        · cases e : look M c' with
          | none =>
            rw [loop_free g e]
            exact List.mem_append_left _ h
          | some r2 =>
            have h2 := fw_grow n r2 (del M c') (t ++ [c']) c (List.mem_append_left _ h)
            rcases q : fw pl n r2 (del M c') (t ++ [c']) with ⟨_ | l, t2⟩
            · rw [loop_lose g e q]
              rw [q] at h2
              exact ih t2 h2
            · rw [loop_win g e q]
              rw [q] at h2
              exact h2
        · rw [loop_skip g]
          exact ih t h
    exact key pl t h
theorem fw_won : ∀ (n : Nat) (row : Nat) (M : Dc) (t : List Nat) (L : Dc), Mat pl M → row ∉ M.map (·.2) → (fw pl n row M t).1 = some L → Won pl row M t L
  | 0, _, _, _, _, _, _, h => nomatch h
  | n + 1, row, M, t, L, m, hr, h =>
    loop_won m hr (fun r M t L => fw_won n r M t L) (fun r M t c => fw_grow n r M t c) pl t t L (fun _ h => h) (fun _ h => h) h

/-! a closed lot of columns is left alone -/
def Shut (pl : Pl) (D : List Nat) (M : Dc) (t : List Nat) : Prop := ∀ c ∈ D, c ∈ t ∨ ∃ r, look M c = some r ∧ ∀ c', (r, c') ∈ pl → c' ∈ D
theorem Shut.del {D : List Nat} {M : Dc} {t : List Nat} (s : Shut pl D M t) (c : Nat) : Shut pl D (del M c) (t ++ [c]) := fun x hx => by
  by_cases e : x = c
  · exact .inl (by simp [e])
  · rcases s x hx with h | ⟨r, h1, h2⟩
    · exact .inl (List.mem_append_left _ h)
    · exact .inr ⟨r, by rw [look_del e]; exact h1, h2⟩
theorem Shut.grow {D : List Nat} {M : Dc} {t t2 : List Nat} (s : Shut pl D M t) (h : ∀ c ∈ t, c ∈ t2) : Shut pl D M t2 := fun x hx => by
  rcases s x hx with q | q
  · exact .inl (h x q)
  · exact .inr q
theorem fw_lost {D : List Nat} : ∀ (n row : Nat) (M : Dc) (t : List Nat), Shut pl D M t → (∀ c, (row, c) ∈ pl → c ∈ D) → (fw pl n row M t).1 = none
  | 0, _, _, _, _, _ => rfl
  | n + 1, row, M, t, s, hD => by
    have key : ∀ (ps : Pl) (t : List Nat), (∀ p ∈ ps, p ∈ pl) → Shut pl D M t → (fwLoop (fw pl n) row M ps t).1 = none := by
      intro ps
      induction ps with
      | nil => intro t _ _; rfl
      | cons p ps ih =>
        obtain ⟨k, c⟩ := p
        intro t hp s
        have hps : ∀ p ∈ ps, p ∈ pl := fun p h => hp p (List.mem_cons_of_mem _ h)
        by_cases g : k = row ∧ c ∉ t
        · have hcD : c ∈ D := hD c (g.1 ▸ hp _ List.mem_cons_self)
          obtain ⟨r, h1, h2⟩ := (s c hcD).resolve_left g.2
          have h3 := fw_lost n r (del M c) (t ++ [c]) (s.del c) h2
          have h4 := fw_grow (pl := pl) n r (del M c) (t ++ [c])
          rcases q : fw pl n r (del M c) (t ++ [c]) with ⟨_ | l, t2⟩
          · rw [loop_lose g h1 q]
            rw [q] at h4
            exact ih t2 hps (s.grow fun x hx => h4 x (List.mem_append_left _ hx))
          · rw [q] at h3
            cases h3
        · rw [loop_skip g]
          exact ih t hps s
    exact key pl t (fun _ h => h) s
theorem fw_same {D : List Nat} : ∀ (n row : Nat) (M : Dc) (t : List Nat) (L : Dc), Mat pl M → row ∉ M.map (·.2) → Shut pl D M t → (fw pl n row M t).1 = some L → ∀ c ∈ D, look L c = look M c
  | 0, _, _, _, _, _, _, _, h => nomatch h
  | n + 1, row, M, t, L, m, hrow, s, h => by
    have key : ∀ (ps : Pl) (t : List Nat), (∀ p ∈ ps, p ∈ pl) → Shut pl D M t → (fwLoop (fw pl n) row M ps t).1 = some L → ∀ c ∈ D, look L c = look M c := by
      intro ps
      induction ps with
      | nil => intro t _ _ h; cases h
      | cons p ps ih =>
        obtain ⟨k, c⟩ := p
        intro t hp s h
        have hps : ∀ p ∈ ps, p ∈ pl := fun p h => hp p (List.mem_cons_of_mem _ h)
        by_cases g : k = row ∧ c ∉ t
        · cases e : look M c with
          | none =>
            rw [loop_free g e] at h
            cases h
            intro x hx
            rw [put_new e, look_app e, if_neg]
            rintro rfl
            rcases s x hx with q | ⟨r, q, _⟩
            · exact g.2 q
            · rw [e] at q
              cases q
          | some r2 =>
            rcases q : fw pl n r2 (del M c) (t ++ [c]) with ⟨_ | l, t2⟩
            · rw [loop_lose g e q] at h
              have h4 := fw_grow (pl := pl) n r2 (del M c) (t ++ [c])
              rw [q] at h4
              exact ih t2 hps (s.grow fun x hx => h4 x (List.mem_append_left _ hx)) h
            · rw [loop_win g e q] at h
              cases h
              have hcD : c ∉ D := fun hc => by
                obtain ⟨r, h1, h2⟩ := (s c hc).resolve_left g.2
                rw [e] at h1
                cases h1
                have := fw_lost n r2 (del M c) (t ++ [c]) (s.del c) h2
                rw [q] at this
                cases this
              have r2n := (rows_del m e).2
              have w := fw_won n r2 (del M c) (t ++ [c]) l (m.del c) r2n (by rw [q])
              have hcl : look l c = none := by
                rw [not_col]
                intro z
                rcases w.cols c z with y | y
                · exact not_col.mp (look_del_self (d := M) (c := c)) y
                · exact y (by simp)
              have ih2 := fw_same n r2 (del M c) (t ++ [c]) l (m.del c) r2n (s.del c) (by rw [q])
              intro x hx
              have ne : x ≠ c := fun z => hcD (z ▸ hx)
              rw [put_new hcl, look_app hcl, if_neg ne, ih2 x hx, look_del ne]
        · rw [loop_skip g] at h
          exact ih t hps s h
    exact key pl t (fun _ h => h) s h

/-! ### all rows -/
/-- behind the rows below i: what is seated, and the columns that failed searches left -/
structure Seated (pl : Pl) (i : Nat) (M : Dc) (D : List Nat) : Prop where
  mat : Mat pl M
  low : ∀ r ∈ M.map (·.2), r < i
  done : ∀ r, r < i → r ∈ M.map (·.2) ∨ ∀ c, (r, c) ∈ pl → c ∈ D
  shut : ∀ c ∈ D, ∃ r, look M c = some r ∧ ∀ c', (r, c') ∈ pl → c' ∈ D
def seatStep (pl : Pl) (M : Dc) (r : Nat) : Dc := ((fw pl 5 r M []).1).getD M
theorem seated_step (h4 : ∀ r c, (r, c) ∈ pl → c < 4) {i : Nat} {M : Dc} {D : List Nat} (S : Seated pl i M D) : ∃ D', Seated pl (i + 1) (seatStep pl M i) D' := by
  have hrow : i ∉ M.map (·.2) := fun q => Nat.lt_irrefl _ (S.low i q)
  unfold seatStep
  cases e : (fw pl 5 i M []).1 with
  | some L =>
    rw [Option.getD_some]
    have w := fw_won 5 i M [] L S.mat hrow e
    have sm := fw_same (D := D) 5 i M [] L S.mat hrow (fun c hc => .inr (S.shut c hc)) e
    refine ⟨D, w.mat, fun r hr => ?_, fun r hr => ?_, fun c hc => ?_⟩
    · rcases (w.rows r).mp hr with q | q
      · exact Nat.lt_succ_of_lt (S.low r q)
      · omega
    · by_cases q : r = i
      · exact .inl ((w.rows r).mpr (.inr q))
      · rcases S.done r (by omega) with z | z
        · exact .inl ((w.rows r).mpr (.inl z))
        · exact .inr z
    · obtain ⟨r, h1, h2⟩ := S.shut c hc
      exact ⟨r, by rw [sm c hc]; exact h1, h2⟩
  | none =>
    rw [Option.getD_none]
    have o := fw_out h4 5 i M [] ⟨List.nodup_nil, fun _ h => nomatch h⟩ (by simp)
    have f := o.2 e
    refine ⟨D ++ (fw pl 5 i M []).2, S.mat, fun r hr => Nat.lt_succ_of_lt (S.low r hr), fun r hr => ?_, fun c hc => ?_⟩
    · by_cases q : r = i
      · subst q
        exact .inr fun c hc => List.mem_append_right _ (f.own c hc)
      · rcases S.done r (by omega) with z | z
        · exact .inl z
        · exact .inr fun c hc => List.mem_append_left _ (z c hc)
    · rcases List.mem_append.mp hc with z | z
      · obtain ⟨r, h1, h2⟩ := S.shut c z
        exact ⟨r, h1, fun c' hc' => List.mem_append_left _ (h2 c' hc')⟩
      · obtain ⟨r, h1, h2⟩ := f.new c z (by simp)
        exact ⟨r, h1, fun c' hc' => List.mem_append_right _ (h2 c' hc')⟩
theorem seatsOf_succ (tall : Nat) : seatsOf pl (tall + 1) = seatStep pl (seatsOf pl tall) tall := by
  unfold seatsOf
  rw [List.range_succ, List.foldl_append]
  rfl
theorem seated (h4 : ∀ r c, (r, c) ∈ pl → c < 4) : ∀ tall : Nat, ∃ D, Seated pl tall (seatsOf pl tall) D
  | 0 => ⟨[], ⟨⟨List.nodup_nil, List.nodup_nil, fun _ _ h => nomatch h⟩, fun _ h => (nomatch h), fun _ h => (nomatch h), fun _ h => (nomatch h)⟩⟩
  | n + 1 => by
    obtain ⟨D, S⟩ := seated h4 n
    rw [seatsOf_succ]
    exact seated_step h4 S

/-! ### as many as there are: a matching and a cover of one size -/
structure Opt (pl : Pl) (M : Dc) (R C : List Nat) : Prop where
  mat : Mat pl M
  cov : Cov pl R C
  size : R.length + C.length = M.length
theorem Opt.same {M N : Dc} {R C R' C' : List Nat} (a : Opt pl M R C) (b : Opt pl N R' C') : M.length = N.length := by
  have h1 := weak a.mat b.cov
  have h2 := weak b.mat a.cov
  have h3 := a.size
  have h4 := b.size
  omega
def flip (l : List (Nat × Nat)) : List (Nat × Nat) := l.map fun p => (p.2, p.1)
theorem mem_flip {l : List (Nat × Nat)} {a b : Nat} : (a, b) ∈ flip l ↔ (b, a) ∈ l := by
  unfold flip
  rw [List.mem_map]
  constructor
  · rintro ⟨⟨x, y⟩, h, e⟩
    cases e
    exact h
  · intro h
    exact ⟨(b, a), h, rfl⟩
theorem flip_len (l : List (Nat × Nat)) : (flip l).length = l.length := List.length_map _
/-- the board turned about -/
theorem Opt.turn {M : Dc} {R C : List Nat} (o : Opt pl M R C) {pl' : Pl} (h : ∀ r c, (r, c) ∈ pl' ↔ (c, r) ∈ pl) : Opt pl' (flip M) C R := by
  refine ⟨⟨?_, ?_, fun c r q => ?_⟩, fun r c q => ?_, ?_⟩
  · have : (flip M).map (·.1) = M.map (·.2) := by unfold flip; rw [List.map_map]; rfl
    rw [this]
    exact o.mat.rows
  · have : (flip M).map (·.2) = M.map (·.1) := by unfold flip; rw [List.map_map]; rfl
    rw [this]
    exact o.mat.cols
  · exact (h r c).mpr (o.mat.on r c (mem_flip.mp q))
  · exact (o.cov c r ((h r c).mp q)).symm
  · rw [flip_len]
    have := o.size
    omega
theorem Opt.perm {M : Dc} {R C : List Nat} (o : Opt pl M R C) {pl' : Pl} (h : ∀ p, p ∈ pl' ↔ p ∈ pl) : Opt pl' M R C :=
  ⟨⟨o.mat.cols, o.mat.rows, fun c r q => (h _).mpr (o.mat.on c r q)⟩, fun r c q => o.cov r c ((h _).mp q), o.size⟩

/-! ### the cover that is told: what unseated rows come to -/
/-- one place looked at -/
def covTurn (M : Dc) (rows : List Nat) (row : Nat) (s : List Nat × List Nat) (p : Nat × Nat) : List Nat × List Nat :=
  if p.1 = row ∧ p.2 ∉ s.2 then
    (match look M p.2 with | some r => if r ∉ rows then s.1 ++ [r] else s.1 | none => s.1, s.2 ++ [p.2])
  else s
/-- the state: waiting, rows, columns -/
structure CS where
  wait : List Nat
  rows : List Nat
  cols : List Nat
def addRow (rows : List Nat) (row : Nat) : List Nat := if row ∈ rows then rows else rows ++ [row]
def covStep (pl : Pl) (M : Dc) (s : CS) : CS :=
  let row := s.wait.getLastD 0
  let q := pl.foldl (covTurn M (addRow s.rows row) row) (s.wait.dropLast, s.cols)
  ⟨q.1, addRow s.rows row, q.2⟩
theorem mem_addRow {rows : List Nat} {row x : Nat} : x ∈ addRow rows row ↔ x ∈ rows ∨ x = row := by
  unfold addRow
  split
  · rename_i h
    constructor
    · exact .inl
    · rintro (q | rfl)
      · exact q
      · exact h
  · simp
/-- what stands between two turns -/
structure CovInv (pl : Pl) (tall : Nat) (M : Dc) (D : List Nat) (s : CS) : Prop where
  why : ∀ r, r ∈ s.wait ∨ r ∈ s.rows → r < tall ∧ (r ∉ M.map (·.2) ∨ ∃ c ∈ s.cols, look M c = some r)
  seat : ∀ c ∈ s.cols, c ∈ D ∧ ∀ r, look M c = some r → r ∈ s.wait ∨ r ∈ s.rows
  full : ∀ r ∈ s.rows, ∀ c, (r, c) ∈ pl → c ∈ s.cols
  free : ∀ r, r < tall → r ∉ M.map (·.2) → r ∈ s.wait ∨ r ∈ s.rows
  nd : s.cols.Nodup
/-- .. while the places of a row are looked at -/
structure TurnInv (pl : Pl) (tall : Nat) (M : Dc) (D : List Nat) (rows : List Nat) (row : Nat) (seen : Pl) (s : List Nat × List Nat) : Prop where
  why : ∀ r, r ∈ s.1 ∨ r ∈ rows → r < tall ∧ (r ∉ M.map (·.2) ∨ ∃ c ∈ s.2, look M c = some r)
  seat : ∀ c ∈ s.2, c ∈ D ∧ ∀ r, look M c = some r → r ∈ s.1 ∨ r ∈ rows
  full : ∀ r ∈ rows, r ≠ row → ∀ c, (r, c) ∈ pl → c ∈ s.2
  now : ∀ c, (row, c) ∈ seen → c ∈ s.2
  free : ∀ r, r < tall → r ∉ M.map (·.2) → r ∈ s.1 ∨ r ∈ rows
  nd : s.2.Nodup
theorem turn_inv {tall : Nat} {M : Dc} {D rows : List Nat} {row : Nat} (S : Seated pl tall M D) (hrow : row ∈ rows) {seen : Pl} {s : List Nat × List Nat} {p : Nat × Nat} (hp : p ∈ pl)
    (J : TurnInv pl tall M D rows row seen s) : TurnInv pl tall M D rows row (seen ++ [p]) (covTurn M rows row s p) := by
  obtain ⟨n, c⟩ := p
  unfold covTurn
  by_cases g : n = row ∧ c ∉ s.2
  · rw [if_pos g]
    simp only
    have hD : ∀ c', (row, c') ∈ pl → c' ∈ D := by
      obtain ⟨hlt, h | ⟨x, hx, e⟩⟩ := J.why row (.inr hrow)
      · exact (S.done row hlt).resolve_left h
      · obtain ⟨r, e1, e2⟩ := S.shut x (J.seat x hx).1
        rw [e] at e1
        cases e1
        exact e2
    have hcD : c ∈ D := hD c (g.1 ▸ hp)
    obtain ⟨r2, e1, e2⟩ := S.shut c hcD
    rw [e1]
    simp only
    have grow : ∀ r, r ∈ s.1 → r ∈ (if r2 ∉ rows then s.1 ++ [r2] else s.1) := fun r hr => by
      split
      · exact List.mem_append_left _ hr
      · exact hr
    have r2in : r2 ∈ (if r2 ∉ rows then s.1 ++ [r2] else s.1) ∨ r2 ∈ rows := by
      by_cases z : r2 ∈ rows
      · exact .inr z
      · rw [if_pos z]
        exact .inl (by simp)
    refine ⟨fun r hr => ?_, fun x hx => ?_, fun r hr hne x hx => List.mem_append_left _ (J.full r hr hne x hx), fun x hx => ?_, fun r h1 h2 => ?_, ?_⟩
    · have old : r ∈ s.1 ∨ r ∈ rows → r < tall ∧ (r ∉ M.map (·.2) ∨ ∃ x ∈ s.2 ++ [c], look M x = some r) := fun q => by
        obtain ⟨a, b | ⟨x, hx, e⟩⟩ := J.why r q
        · exact ⟨a, .inl b⟩
        · exact ⟨a, .inr ⟨x, List.mem_append_left _ hx, e⟩⟩
      rcases hr with hr | hr
      · split at hr
        · rcases List.mem_append.mp hr with hr | hr
          · exact old (.inl hr)
          · have : r = r2 := by simpa using hr
            subst this
            exact ⟨S.low r (List.mem_map.mpr ⟨_, look_mem e1, rfl⟩), .inr ⟨c, by simp, e1⟩⟩
        · exact old (.inl hr)
      · exact old (.inr hr)
    · rcases List.mem_append.mp hx with hx | hx
      · obtain ⟨a, b⟩ := J.seat x hx
        exact ⟨a, fun r hr => (b r hr).imp (grow r) id⟩
      · have : x = c := by simpa using hx
        subst this
        refine ⟨hcD, fun r hr => ?_⟩
        rw [e1] at hr
        cases hr
        exact r2in
    · rcases List.mem_append.mp hx with hx | hx
      · exact List.mem_append_left _ (J.now x hx)
      · have : (row, x) = (n, c) := by simpa using hx
        cases this
        simp
    · exact (J.free r h1 h2).imp (grow r) id
    · rw [List.nodup_append]
      refine ⟨J.nd, by simp, fun a ha b hb e => ?_⟩
      have : b = c := by simpa using hb
      exact g.2 (this ▸ e ▸ ha)
  · rw [if_neg g]
    refine ⟨J.why, J.seat, J.full, fun x hx => ?_, J.free, J.nd⟩
    rcases List.mem_append.mp hx with hx | hx
    · exact J.now x hx
    · have : (row, x) = (n, c) := by simpa using hx
      cases this
      exact Decidable.byContradiction fun z => g ⟨rfl, z⟩
theorem turns_inv {tall : Nat} {M : Dc} {D rows : List Nat} {row : Nat} (S : Seated pl tall M D) (hrow : row ∈ rows) : ∀ (ps seen : Pl) (s : List Nat × List Nat), (∀ p ∈ ps, p ∈ pl) →
    TurnInv pl tall M D rows row seen s → TurnInv pl tall M D rows row (seen ++ ps) (ps.foldl (covTurn M rows row) s)
  | [], seen, s, _, J => by simpa using J
  | p :: ps, seen, s, hp, J => by
    have := turns_inv S hrow ps (seen ++ [p]) _ (fun q hq => hp q (List.mem_cons_of_mem _ hq)) (turn_inv S hrow (hp p List.mem_cons_self) J)
    rw [List.append_assoc] at this
    exact this
theorem last_split {l : List Nat} (h : l ≠ []) : ∀ x, x ∈ l ↔ x ∈ l.dropLast ∨ x = l.getLastD 0 := by
  intro x
  have e := List.dropLast_concat_getLast h
  have e2 : l.getLastD 0 = l.getLast h := by
    cases l with
    | nil => exact absurd rfl h
    | cons a l => simp [List.getLastD]
  rw [e2]
  conv => lhs; rw [← e]
  simp
theorem step_inv {tall : Nat} {M : Dc} {D : List Nat} (S : Seated pl tall M D) {s : CS} (J : CovInv pl tall M D s) (hw : s.wait ≠ []) : CovInv pl tall M D (covStep pl M s) := by
  have sp := last_split hw
  have hrow : s.wait.getLastD 0 ∈ addRow s.rows (s.wait.getLastD 0) := mem_addRow.mpr (.inr rfl)
  have J0 : TurnInv pl tall M D (addRow s.rows (s.wait.getLastD 0)) (s.wait.getLastD 0) [] (s.wait.dropLast, s.cols) := by
    refine ⟨fun r hr => J.why r ?_, fun c hc => ⟨(J.seat c hc).1, fun r hr => ?_⟩, fun r hr hne => J.full r ?_, fun _ h => (nomatch h), fun r h1 h2 => ?_, J.nd⟩
    · rcases hr with hr | hr
      · exact .inl ((sp r).mpr (.inl hr))
      · rcases mem_addRow.mp hr with hr | hr
        · exact .inr hr
        · exact .inl ((sp r).mpr (.inr hr))
    · rcases (J.seat c hc).2 r hr with q | q
      · rcases (sp r).mp q with q | q
        · exact .inl q
        · exact .inr (mem_addRow.mpr (.inr q))
      · exact .inr (mem_addRow.mpr (.inl q))
    · exact (mem_addRow.mp hr).resolve_right hne
    · rcases J.free r h1 h2 with q | q
      · rcases (sp r).mp q with q | q
        · exact .inl q
        · exact .inr (mem_addRow.mpr (.inr q))
      · exact .inr (mem_addRow.mpr (.inl q))
  have J1 := turns_inv S hrow pl [] _ (fun _ h => h) J0
  rw [List.nil_append] at J1
  refine ⟨J1.why, J1.seat, fun r hr c hc => ?_, J1.free, J1.nd⟩
  by_cases e : r = s.wait.getLastD 0
  · exact J1.now c (e ▸ hc)
  · exact J1.full r hr e c hc
/-- how many turns are left at most -/
def covM (s : CS) : Nat := s.wait.length + (4 - s.cols.length)
theorem turns_m {M : Dc} {rows : List Nat} {row : Nat} : ∀ (ps : Pl) (s : List Nat × List Nat), (∀ p ∈ ps, p.2 < 4) → s.2.Nodup → (∀ c ∈ s.2, c < 4) →
    (ps.foldl (covTurn M rows row) s).2.Nodup ∧ (∀ c ∈ (ps.foldl (covTurn M rows row) s).2, c < 4) ∧
    (ps.foldl (covTurn M rows row) s).1.length + (4 - (ps.foldl (covTurn M rows row) s).2.length) ≤ s.1.length + (4 - s.2.length)
  | [], s, _, h1, h2 => ⟨h1, h2, Nat.le_refl _⟩
  | p :: ps, s, hp, h1, h2 => by
    have key : (covTurn M rows row s p).2.Nodup ∧ (∀ c ∈ (covTurn M rows row s p).2, c < 4) ∧ (covTurn M rows row s p).1.length + (4 - (covTurn M rows row s p).2.length) ≤ s.1.length + (4 - s.2.length) := by
      unfold covTurn
      by_cases g : p.1 = row ∧ p.2 ∉ s.2
      · rw [if_pos g]
        have t : Tr s.2 := ⟨h1, h2⟩
        have t2 := t.snoc g.2 (hp p List.mem_cons_self)
        refine ⟨t2.nd, t2.lt, ?_⟩
        have l2 := t2.len
        simp only [List.length_append, List.length_singleton] at l2 ⊢
        split
        · split
          · rw [List.length_append, List.length_singleton]
            omega
          · omega
        · omega
      · rw [if_neg g]
        exact ⟨h1, h2, Nat.le_refl _⟩
    have ih := turns_m (M := M) (rows := rows) (row := row) ps _ (fun q hq => hp q (List.mem_cons_of_mem _ hq)) key.1 key.2.1
    exact ⟨ih.1, ih.2.1, Nat.le_trans ih.2.2 key.2.2⟩
theorem step_m {M : Dc} {s : CS} (hp : ∀ r c, (r, c) ∈ pl → c < 4) (h1 : s.cols.Nodup) (h2 : ∀ c ∈ s.cols, c < 4) (hw : s.wait ≠ []) : covM (covStep pl M s) < covM s := by
  have h := (turns_m (M := M) (rows := addRow s.rows (s.wait.getLastD 0)) (row := s.wait.getLastD 0) pl (s.wait.dropLast, s.cols) (fun p q => hp p.1 p.2 q) h1 h2).2.2
  have hl : 0 < s.wait.length := List.length_pos_iff.mpr hw
  have : s.wait.dropLast.length = s.wait.length - 1 := List.length_dropLast
  unfold covM covStep
  simp only at h ⊢
  omega
/-- the two lists at the end -/
theorem cov_end {tall : Nat} {M : Dc} {D : List Nat} (S : Seated pl tall M D) (hp : ∀ r c, (r, c) ∈ pl → r < tall) {s : CS} (J : CovInv pl tall M D s) (hw : s.wait = []) :
    Opt pl M ((List.range tall).filter fun r => decide (r ∉ s.rows)) s.cols := by
  have no : ∀ r, r ∈ s.wait → False := fun r h => by rw [hw] at h; cases h
  refine ⟨S.mat, fun r c h => ?_, ?_⟩
  · by_cases q : r ∈ s.rows
    · exact .inr (J.full r q c h)
    · exact .inl (List.mem_filter.mpr ⟨List.mem_range.mpr (hp r c h), by simpa using q⟩)
  · rw [← filter_both (fun p => decide (p.1 ∉ s.cols)) M]
    congr 1
    · rw [← List.length_map (f := fun p : Nat × Nat => p.2) (as := M.filter _)]
      refine nodup_eq (List.Sublist.nodup List.filter_sublist List.nodup_range) (map_nodup_filter S.mat.rows _) fun r => ?_
      rw [List.mem_filter, List.mem_range, List.mem_map]
      constructor
      · rintro ⟨h1, h2⟩
        have hr : r ∉ s.rows := by simpa using h2
        have hm : r ∈ M.map (·.2) := Decidable.byContradiction fun q => (J.free r h1 q).elim (no r) hr
        obtain ⟨⟨c, r'⟩, hcr, e⟩ := List.mem_map.mp hm
        have e : r' = r := e
        subst e
        refine ⟨(c, r'), List.mem_filter.mpr ⟨hcr, ?_⟩, rfl⟩
        simp only [decide_eq_true_eq]
        intro hc
        exact ((J.seat c hc).2 r' ((look_some S.mat.cols).mpr hcr)).elim (no r') hr
      · rintro ⟨⟨c, r'⟩, hcr, e⟩
        have e : r' = r := e
        subst e
        obtain ⟨h1, h2⟩ := List.mem_filter.mp hcr
        have hc : c ∉ s.cols := by simpa using h2
        refine ⟨S.low r' (List.mem_map.mpr ⟨_, h1, rfl⟩), ?_⟩
        simp only [decide_eq_true_eq]
        intro hr
        obtain ⟨_, q | ⟨x, hx, e⟩⟩ := J.why r' (.inr hr)
        · exact q (List.mem_map.mpr ⟨_, h1, rfl⟩)
        · have := inj2 S.mat.rows h1 (look_mem e) rfl
          have : c = x := congrArg Prod.fst this
          exact hc (this ▸ hx)
    · rw [← List.length_map (f := fun p : Nat × Nat => p.1) (as := M.filter _)]
      refine nodup_eq J.nd (map_nodup_filter S.mat.cols _) fun c => ?_
      rw [List.mem_map]
      constructor
      · intro hc
        obtain ⟨r, e, _⟩ := S.shut c (J.seat c hc).1
        exact ⟨(c, r), List.mem_filter.mpr ⟨look_mem e, by simpa using hc⟩, rfl⟩
      · rintro ⟨⟨c', r⟩, h, e⟩
        have e : c' = c := e
        subst e
        simpa using (List.mem_filter.mp h).2
theorem cov_start {tall : Nat} {M : Dc} {D : List Nat} (S : Seated pl tall M D) : CovInv pl tall M D ⟨(List.range tall).filter fun r => decide (r ∉ M.map (·.2)), [], []⟩ := by
  refine ⟨fun r hr => ?_, fun _ h => (nomatch h), fun _ h => (nomatch h), fun r h1 h2 => .inl (List.mem_filter.mpr ⟨List.mem_range.mpr h1, by simpa using h2⟩), List.nodup_nil⟩
  rcases hr with hr | hr
  · obtain ⟨a, b⟩ := List.mem_filter.mp hr
    exact ⟨List.mem_range.mp a, .inl (by simpa using b)⟩
  · cases hr

/-! ### the law's own going through -/
def mostTurn (rec : List Nat → Nat) (row : Nat) (used : List Nat) (found : Nat) (p : Nat × Nat) : Nat :=
  if p.1 = row ∧ p.2 ∉ used then max found (1 + rec (used ++ [p.2])) else found
def mostM (pl : Pl) : Nat → Nat → List Nat → Nat
  | 0, _, _ => 0
  | k + 1, row, used => pl.foldl (mostTurn (mostM pl k (row + 1)) row used) (mostM pl k (row + 1) used)
theorem fold_le {rec : List Nat → Nat} {row : Nat} {used : List Nat} {B : Nat} : ∀ (ps : Pl) (f : Nat), f ≤ B → (∀ p ∈ ps, p.1 = row → p.2 ∉ used → 1 + rec (used ++ [p.2]) ≤ B) → ps.foldl (mostTurn rec row used) f ≤ B
  | [], _, h, _ => h
  | p :: ps, f, h, hp => by
    refine fold_le ps _ ?_ fun q hq => hp q (List.mem_cons_of_mem _ hq)
    unfold mostTurn
    split
    · rename_i g
      exact Nat.max_le.mpr ⟨h, hp p List.mem_cons_self g.1 g.2⟩
    · exact h
theorem le_fold {rec : List Nat → Nat} {row : Nat} {used : List Nat} : ∀ (ps : Pl) (f : Nat), f ≤ ps.foldl (mostTurn rec row used) f
  | [], _ => Nat.le_refl _
  | p :: ps, f => by
    refine Nat.le_trans ?_ (le_fold ps _)
    unfold mostTurn
    split
    · exact Nat.le_max_left ..
    · exact Nat.le_refl _
theorem at_fold {rec : List Nat → Nat} {row : Nat} {used : List Nat} {c : Nat} (hc : c ∉ used) : ∀ (ps : Pl) (f : Nat), (row, c) ∈ ps → 1 + rec (used ++ [c]) ≤ ps.foldl (mostTurn rec row used) f
  | [], _, h => nomatch h
  | p :: ps, f, h => by
    rcases List.mem_cons.mp h with h | h
    · refine Nat.le_trans ?_ (le_fold ps _)
      subst h
      unfold mostTurn
      rw [if_pos ⟨rfl, hc⟩]
      exact Nat.le_max_right ..
    · exact at_fold hc ps _ h
theorem filter_drop {C used : List Nat} {c : Nat} (hc : c ∈ C) (hu : c ∉ used) : (C.filter fun x => decide (x ∉ used ++ [c])).length + 1 ≤ (C.filter fun x => decide (x ∉ used)).length := by
  induction C with
  | nil => cases hc
  | cons y C ih =>
    have le : ∀ C : List Nat, (C.filter fun x => decide (x ∉ used ++ [c])).length ≤ (C.filter fun x => decide (x ∉ used)).length := by
      intro C
      induction C with
      | nil => exact Nat.le_refl _
      | cons z C ih =>
        by_cases h : z ∈ used
        · rw [List.filter_cons_of_neg (by simp [h]), List.filter_cons_of_neg (by simp [h])]
          exact ih
        · rw [List.filter_cons_of_pos (p := fun x => decide (x ∉ used)) (by simp [h])]
          by_cases h2 : z = c
          · rw [List.filter_cons_of_neg (by simp [h2])]
            exact Nat.le_succ_of_le ih
          · rw [List.filter_cons_of_pos (by simp [h, h2])]
            exact Nat.succ_le_succ ih
    by_cases e : y = c
    · subst e
      rw [List.filter_cons_of_neg (by simp), List.filter_cons_of_pos (by simp [hu])]
      exact Nat.succ_le_succ (le C)
    · have hc' : c ∈ C := (List.mem_cons.mp hc).resolve_left fun z => e z.symm
      have ih := ih hc'
      by_cases h : y ∈ used
      · rw [List.filter_cons_of_neg (by simp [h]), List.filter_cons_of_neg (by simp [h])]
        exact ih
      · rw [List.filter_cons_of_pos (by simp [h, e]), List.filter_cons_of_pos (by simp [h])]
        exact Nat.succ_le_succ ih
theorem filter_low {R : List Nat} {row : Nat} : (R.filter fun r => decide (row + 1 ≤ r)).length ≤ (R.filter fun r => decide (row ≤ r)).length ∧
    (row ∈ R → (R.filter fun r => decide (row + 1 ≤ r)).length + 1 ≤ (R.filter fun r => decide (row ≤ r)).length) := by
  induction R with
  | nil => exact ⟨Nat.le_refl _, fun h => nomatch h⟩
  | cons x R ih =>
    obtain ⟨i1, i2⟩ := ih
    by_cases e : x = row
    · subst e
      rw [List.filter_cons_of_neg (by simp), List.filter_cons_of_pos (by simp)]
      exact ⟨Nat.le_succ_of_le i1, fun _ => Nat.succ_le_succ i1⟩
    · by_cases h : row ≤ x
      · rw [List.filter_cons_of_pos (by simp; omega), List.filter_cons_of_pos (by simp [h])]
        exact ⟨Nat.succ_le_succ i1, fun q => Nat.succ_le_succ (i2 ((List.mem_cons.mp q).resolve_left fun z => e z.symm))⟩
      · rw [List.filter_cons_of_neg (by simp; omega), List.filter_cons_of_neg (by simp [h])]
        exact ⟨i1, fun q => i2 ((List.mem_cons.mp q).resolve_left fun z => e z.symm)⟩
theorem most_le {R C : List Nat} (k : Cov pl R C) : ∀ (n row : Nat) (used : List Nat), mostM pl n row used ≤ (R.filter fun r => decide (row ≤ r)).length + (C.filter fun c => decide (c ∉ used)).length
  | 0, _, _ => Nat.zero_le _
  | n + 1, row, used => by
    have fl := filter_low (R := R) (row := row)
    refine fold_le pl _ ?_ fun p hp e hu => ?_
    · have := most_le k n (row + 1) used
      omega
    · have ih := most_le k n (row + 1) (used ++ [p.2])
      rcases k p.1 p.2 hp with h | h
      · have h1 := fl.2 (e ▸ h)
        have h2 : (C.filter fun c => decide (c ∉ used ++ [p.2])).length ≤ (C.filter fun c => decide (c ∉ used)).length := by
          by_cases z : p.2 ∈ C
          · have := filter_drop z hu
            omega
          · refine Nat.le_of_eq (congrArg List.length (List.filter_congr fun x hx => ?_))
            have : x ≠ p.2 := fun q => z (q ▸ hx)
            simp [this]
        omega
      · have h1 := filter_drop h hu
        have h2 := fl.1
        omega
theorem le_most {M : Dc} (m : Mat pl M) : ∀ (n row : Nat) (used : List Nat), (∀ p ∈ M, p.2 < row + n) → (M.filter fun p => decide (row ≤ p.2) && decide (p.1 ∉ used)).length ≤ mostM pl n row used
  | 0, row, used, h => by
    rw [List.filter_eq_nil_iff.mpr]
    · exact Nat.zero_le _
    · intro p hp
      have := h p hp
      simp
      omega
  | n + 1, row, used, h => by
    have ih := fun u => le_most m n (row + 1) u fun p hp => by have := h p hp; omega
    by_cases q : ∃ c, (c, row) ∈ M ∧ c ∉ used
    · obtain ⟨c, hc, hu⟩ := q
      refine Nat.le_trans ?_ (at_fold hu pl _ (m.on c row hc))
      refine Nat.le_trans ?_ (Nat.add_le_add_left (ih (used ++ [c])) 1)
      -- all but (c, row) are counted behind
      have key : ∀ {l : Dc}, (l.map (·.1)).Nodup → (l.map (·.2)).Nodup → (∀ p ∈ l, p.1 = c → p.2 = row) → (∀ p ∈ l, p.2 = row → p.1 = c) →
          (l.filter fun p => decide (row ≤ p.2) && decide (p.1 ∉ used)).length ≤ 1 + (l.filter fun p => decide (row + 1 ≤ p.2) && decide (p.1 ∉ used ++ [c])).length := by
        intro l
        induction l with
        | nil => intro _ _ _ _; exact Nat.zero_le _
        | cons p l ih2 =>
          intro n1 n2 a1 a2
          rw [List.map_cons, List.nodup_cons] at n1 n2
          by_cases e : p.1 = c
          · have e2 := a1 p List.mem_cons_self e
            have same : (l.filter fun p => decide (row ≤ p.2) && decide (p.1 ∉ used)) = l.filter fun p => decide (row + 1 ≤ p.2) && decide (p.1 ∉ used ++ [c]) := by
              refine List.filter_congr fun x hx => ?_
              have x1 : x.1 ≠ c := fun z => n1.1 (by rw [e, ← z]; exact List.mem_map_of_mem hx)
              have x2 : x.2 ≠ row := fun z => n2.1 (by rw [e2, ← z]; exact List.mem_map_of_mem hx)
              have : decide (row ≤ x.2) = decide (row + 1 ≤ x.2) := decide_eq_decide.mpr (by omega)
              rw [this]
              simp [x1]
            rw [List.filter_cons_of_pos (by simp [e, e2, hu]), List.filter_cons_of_neg (by simp [e]), same]
            show _ + 1 ≤ 1 + _
            omega
          · have e2 : p.2 ≠ row := fun z => e (a2 p List.mem_cons_self z)
            have ih3 := ih2 n1.2 n2.2 (fun x hx => a1 x (List.mem_cons_of_mem _ hx)) (fun x hx => a2 x (List.mem_cons_of_mem _ hx))
            by_cases g : row ≤ p.2 ∧ p.1 ∉ used
            · rw [List.filter_cons_of_pos (by simp [g]), List.filter_cons_of_pos (by simp [g, e]; omega)]
              show _ + 1 ≤ 1 + (_ + 1)
              omega
            · rw [List.filter_cons_of_neg (by simpa using g), List.filter_cons_of_neg (by simp [e]; intro z; simp at g; exact g (by omega))]
              exact ih3
      refine key m.cols m.rows (fun p hp e => ?_) fun p hp e => ?_
      · have h1 := (look_some m.cols).mpr hc
        obtain ⟨a, b⟩ := p
        have e : a = c := e
        subst e
        have h2 := (look_some m.cols).mpr hp
        rw [h1] at h2
        exact (Option.some.inj h2).symm
      · exact congrArg (·.1) (inj2 m.rows hp hc e)
    · refine Nat.le_trans ?_ (le_fold pl _)
      refine Nat.le_trans (Nat.le_of_eq (congrArg List.length (List.filter_congr fun p hp => ?_))) (ih used)
      by_cases hu : p.1 ∈ used
      · simp [hu]
      · have : p.2 ≠ row := fun e => q ⟨p.1, by rw [← e]; exact hp, hu⟩
        have : decide (row ≤ p.2) = decide (row + 1 ≤ p.2) := decide_eq_decide.mpr (by omega)
        rw [this]
theorem filter_len {α : Type} (p : α → Bool) (l : List α) : (l.filter p).length ≤ l.length := List.length_filter_le ..
theorem most_is {M : Dc} {R C : List Nat} (o : Opt pl M R C) {tall : Nat} (h : ∀ r c, (r, c) ∈ pl → r < tall) : mostM pl tall 0 [] = M.length := by
  refine Nat.le_antisymm ?_ ?_
  · refine Nat.le_trans (most_le o.cov tall 0 []) ?_
    rw [← o.size]
    exact Nat.add_le_add (filter_len ..) (filter_len ..)
  · refine Nat.le_trans (Nat.le_of_eq ?_) (le_most o.mat tall 0 [] fun p hp => by have := h _ _ (o.mat.on p.1 p.2 hp); omega)
    rw [List.filter_eq_self.mpr]
    intro p _
    simp

/-! ### the fewest rows and columns, by all lots of rows -/
def lots : Nat → List (List Nat)
  | 0 => [[]]
  | n + 1 => lots n ++ (lots n).map fun l => l ++ [n]
theorem lots_has (f : Nat → Bool) : ∀ n : Nat, (List.range n).filter f ∈ lots n
  | 0 => by simp [lots]
  | n + 1 => by
    have ih := lots_has f n
    rw [List.range_succ, List.filter_append]
    unfold lots
    rw [List.mem_append]
    cases h : f n with
    | true =>
      right
      rw [List.filter_cons_of_pos h, List.filter_nil]
      exact List.mem_map.mpr ⟨_, ih, rfl⟩
    | false =>
      left
      rw [List.filter_cons_of_neg (by simp [h]), List.filter_nil, List.append_nil]
      exact ih
/-- the columns of the places off some rows, each once -/
def offCols (pl : Pl) (rows : List Nat) : List Nat := ((pl.filter fun p => decide (p.1 ∉ rows)).map (·.2)).foldl (fun l c => if c ∈ l then l else l ++ [c]) []
theorem dedup_mem : ∀ (xs l : List Nat) (x : Nat), x ∈ xs.foldl (fun l c => if c ∈ l then l else l ++ [c]) l ↔ x ∈ l ∨ x ∈ xs
  | [], l, x => by simp
  | y :: xs, l, x => by
    rw [List.foldl_cons, dedup_mem xs]
    split
    · rename_i h
      constructor
      · rintro (q | q)
        · exact .inl q
        · exact .inr (List.mem_cons_of_mem _ q)
      · rintro (q | q)
        · exact .inl q
        · rcases List.mem_cons.mp q with rfl | q
          · exact .inl h
          · exact .inr q
    · rw [List.mem_append, List.mem_cons]
      simp [or_assoc]
theorem dedup_nodup : ∀ (xs l : List Nat), l.Nodup → (xs.foldl (fun l c => if c ∈ l then l else l ++ [c]) l).Nodup
  | [], _, h => h
  | y :: xs, l, h => by
    rw [List.foldl_cons]
    refine dedup_nodup xs _ ?_
    split
    · exact h
    · rename_i g
      rw [List.nodup_append]
      refine ⟨h, by simp, fun a ha b hb e => g ?_⟩
      have hb : b = y := by simpa using hb
      exact hb ▸ e ▸ ha
theorem mem_off {rows : List Nat} {c : Nat} : c ∈ offCols pl rows ↔ ∃ r, (r, c) ∈ pl ∧ r ∉ rows := by
  unfold offCols
  rw [dedup_mem, List.mem_map]
  constructor
  · rintro (q | ⟨⟨r, c'⟩, hp, e⟩)
    · cases q
    · have e : c' = c := e
      subst e
      obtain ⟨a, b⟩ := List.mem_filter.mp hp
      exact ⟨r, a, by simpa using b⟩
  · rintro ⟨r, a, b⟩
    exact .inr ⟨(r, c), List.mem_filter.mpr ⟨a, by simpa using b⟩, rfl⟩
def fewestM (pl : Pl) (tall : Nat) : Nat := (lots tall).foldl (fun f rows => min f (rows.length + (offCols pl rows).length)) 99
theorem fold_min_le {g : List Nat → Nat} : ∀ (ls : List (List Nat)) (f : Nat) (l : List Nat), l ∈ ls → ls.foldl (fun f l => min f (g l)) f ≤ g l
  | [], _, _, h => nomatch h
  | x :: ls, f, l, h => by
    have le : ∀ (ls : List (List Nat)) (f : Nat), ls.foldl (fun f l => min f (g l)) f ≤ f := by
      intro ls
      induction ls with
      | nil => intro f; exact Nat.le_refl _
      | cons y ls ih => intro f; exact Nat.le_trans (ih _) (Nat.min_le_left ..)
    rcases List.mem_cons.mp h with rfl | h
    · exact Nat.le_trans (le ls _) (Nat.min_le_right ..)
    · exact fold_min_le ls _ l h
theorem le_fold_min {g : List Nat → Nat} {B : Nat} : ∀ (ls : List (List Nat)) (f : Nat), B ≤ f → (∀ l ∈ ls, B ≤ g l) → B ≤ ls.foldl (fun f l => min f (g l)) f
  | [], _, h, _ => h
  | x :: ls, f, h, hg => le_fold_min ls _ (Nat.le_min.mpr ⟨h, hg x List.mem_cons_self⟩) fun l hl => hg l (List.mem_cons_of_mem _ hl)
theorem fewest_is {M : Dc} {R C : List Nat} (o : Opt pl M R C) (nR : R.Nodup) (nC : C.Nodup) {tall : Nat} (h : ∀ r c, (r, c) ∈ pl → r < tall) (h4 : tall ≤ 4) : fewestM pl tall = M.length := by
  have low : ∀ rows, M.length ≤ rows.length + (offCols pl rows).length := fun rows => by
    refine weak o.mat fun r c hp => ?_
    by_cases q : r ∈ rows
    · exact .inl q
    · exact .inr (mem_off.mpr ⟨r, hp, q⟩)
  refine Nat.le_antisymm ?_ ?_
  · refine Nat.le_trans (fold_min_le (g := fun rows => rows.length + (offCols pl rows).length) _ _ _ (lots_has (fun r => decide (r ∈ R)) tall)) ?_
    rw [← o.size]
    refine Nat.add_le_add ?_ ?_
    · exact nodup_le (List.Sublist.nodup List.filter_sublist List.nodup_range) fun y hy => by simpa using (List.mem_filter.mp hy).2
    · refine nodup_le (dedup_nodup _ _ List.nodup_nil) fun c hc => ?_
      obtain ⟨r, hp, hr⟩ := mem_off.mp hc
      refine (o.cov r c hp).resolve_left fun q => hr ?_
      exact List.mem_filter.mpr ⟨List.mem_range.mpr (h r c hp), by simpa using q⟩
  · refine le_fold_min _ _ ?_ fun l _ => low l
    have : M.length ≤ 4 := by
      have := nodup_le (l := M.map (·.2)) (m := List.range tall) o.mat.rows fun r hr => by
        obtain ⟨⟨c, r'⟩, hp, e⟩ := List.mem_map.mp hr
        have e : r' = r := e
        subst e
        exact List.mem_range.mpr (h r' c (o.mat.on c r' hp))
      rw [List.length_map, List.length_range] at this
      omega
    omega
/-- one place less: as many or one less -/
theorem less_one {pl' : Pl} {M N : Dc} {R C R' C' : List Nat} (a : Opt pl M R C) (b : Opt pl' N R' C') (x : Nat × Nat) (h : ∀ p, p ∈ pl → p = x ∨ p ∈ pl') (h' : ∀ p, p ∈ pl' → p ∈ pl) : M.length ≤ N.length + 1 ∧ N.length ≤ M.length := by
  constructor
  · have k : Cov pl (x.1 :: R') C' := fun r c hp => by
      rcases h _ hp with e | e
      · exact .inl (by rw [← e]; exact List.mem_cons_self)
      · rcases b.cov r c e with q | q
        · exact .inl (List.mem_cons_of_mem _ q)
        · exact .inr q
    have := weak a.mat k
    have := b.size
    simp only [List.length_cons] at *
    omega
  · have := weak (M := N) (pl := pl) ⟨b.mat.cols, b.mat.rows, fun c r q => h' _ (b.mat.on c r q)⟩ a.cov
    have := a.size
    omega
end
end R71

namespace R71
open B71 PySem PySem.Spec PyProof.Rows L2 Evl RZ SrtO
def spIsInt : Sp := fun vs H Q _ => ∃ i : Int, vs = [.int i] ∧ RetV (.bl true) H Q
def spCount : Sp := fun vs H Q _ => ∃ i : Int, vs = [.int i] ∧ RetV (.bl (decide (0 ≤ i))) H Q
section
variable {P : Program} {w : World} {K : PySem.W.Frag} {mg : Str → Option Value} {base : Heap} {C : Addr}
theorem clo_imp {x : Str} {k : Nat} {ps : List Str} {sp sp' : Sp} (c : ClO P w K mg base x k ps sp) (h : ∀ vs H Q E, sp' vs H Q E → sp vs H Q E) : ClO P w K mg base x k ps sp' := by
  obtain ⟨f, fd, F, r⟩ := c.ex
  exact ⟨f, fd, F.imp h, r⟩
theorem is_int {vs : List V} {H : Hp} {Q : VK} {E : XK} (R : RCl K mg C) (h : spIsInt vs H Q E) : spIsI K C vs H Q E := by
  obtain ⟨i, rfl, q⟩ := h
  exact ⟨_, _, _, _, rfl, kd_int R i, q⟩
theorem is_cnt {vs : List V} {H : Hp} {Q : VK} {E : XK} (R : RCl K mg C) (h : spCount vs H Q E) : spIsC K C vs H Q E := by
  obtain ⟨i, rfl, q⟩ := h
  exact ⟨_, _, _, _, _, rfl, kd_int R i, .inr ⟨rfl, i, rfl, rfl⟩, q⟩
theorem is_lst {vs : List V} {H : Hp} {Q : VK} {E : XK} (h : spList vs H Q E) : ∃ (v : V) (a : Addr) (xs : List V), vs = [v] ∧ v = .ref a ∧ SqH H a xs := by
  obtain ⟨a, xs, rfl, s, _⟩ := h
  exact ⟨_, a, xs, rfl, rfl, s⟩
end
end R71

namespace R71
open B71 PySem PySem.Spec PyProof.Rows L2 Evl RZ SrtO

/-- a pair at r; a row of pairs -/
def Pt (H : Hp) (r : Addr) (p : Nat × Nat) : Prop := H r = some (.tup [.int (p.1 : Nat), .int (p.2 : Nat)])
theorem Pt.up {H H' : Hp} {r : Addr} {p : Nat × Nat} (h : Pt H r p) (e : Ex H H') : Pt H' r p := e _ _ h
def Pts (H : Hp) (rs : List Addr) (pl : List (Nat × Nat)) : Prop := Paired (Pt H) rs pl
theorem Pts.up {H H' : Hp} {rs : List Addr} {pl : List (Nat × Nat)} (h : Pts H rs pl) (e : Ex H H') : Pts H' rs pl := Paired.mapP h fun _ _ q => q.up e
theorem Pts.len {H : Hp} {rs : List Addr} {pl : List (Nat × Nat)} (h : Pts H rs pl) : rs.length = pl.length := Paired.length h
theorem pts_at {H : Hp} : ∀ {rs : List Addr} {pl : List (Nat × Nat)}, Pts H rs pl → ∀ {i : Nat} {x : V}, (rs.map V.ref)[i]? = some x → ∃ r p, x = .ref r ∧ pl[i]? = some p ∧ Pt H r p
  | _, _, .nil, i, x, h => by simp at h
  | _, _, .cons (a := r) (b := p) q t, 0, x, h => ⟨r, p, by simpa using h.symm, rfl, q⟩
  | _, _, .cons q t, i + 1, x, h => by
    obtain ⟨r, p, h1, h2, h3⟩ := pts_at t (i := i) (x := x) (by simpa using h)
    exact ⟨r, p, h1, by simpa using h2, h3⟩
def lexlt (p q : Nat × Nat) : Prop := p.1 < q.1 ∨ (p.1 = q.1 ∧ p.2 < q.2)
instance (p q : Nat × Nat) : Decidable (lexlt p q) := by unfold lexlt; exact inferInstance
structure Bd (tall wide : Nat) (pl : List (Nat × Nat)) : Prop where
  t1 : 1 ≤ tall
  t4 : tall ≤ 4
  w1 : 1 ≤ wide
  w4 : wide ≤ 4
  p1 : 1 ≤ pl.length
  p16 : pl.length ≤ 16
  so : pl.Pairwise lexlt
  inb : ∀ p ∈ pl, p.1 < tall ∧ p.2 < wide
theorem cut1 (xs : List V) : cutV xs (some 1) none = xs.drop 1 := by
  unfold cutV
  rw [HT.sIx_none]
  have : HT.sIx xs.length 0 (some 1) = min 1 xs.length := HT.sIx_nat xs.length 0 1
  rw [this]
  cases xs with
  | nil => rfl
  | cons x r => simp
theorem lexLt_pair {p q : Nat × Nat} : HT.lexLt [(p.1 : Int), (p.2 : Int)] [(q.1 : Int), (q.2 : Int)] = decide (lexlt p q) := by
  rw [HT.lexLt_cons, HT.lexLt_cons, HT.lexLt_nil_nil]
  unfold lexlt
  by_cases h : p.1 = q.1
  · have h' : (p.1 : Int) = (q.1 : Int) := by omega
    rw [if_pos h']
    by_cases k : p.2 = q.2
    · rw [if_pos (by omega)]; simp [h, k]
    · rw [if_neg (by omega)]; simp [h]
  · rw [if_neg (by omega)]; simp [h]
theorem adj {pl : List (Nat × Nat)} (so : pl.Pairwise lexlt) : ∀ z ∈ pl.zip (pl.drop 1), decide (lexlt z.1 z.2) = true := by
  induction pl with
  | nil => intro z h; simp at h
  | cons p r ih =>
    cases r with
    | nil => intro z h; simp at h
    | cons q r =>
      intro z h
      simp only [List.drop_succ_cons, List.drop_zero, List.zip_cons_cons, List.mem_cons] at h
      rcases h with rfl | h
      · exact decide_eq_true ((List.pairwise_cons.mp so).1 q (List.mem_cons_self ..))
      · exact ih (List.pairwise_cons.mp so).2 z (by simpa using h)
theorem walk_zipT {K : PySem.W.Frag} {a b : Addr} {xs ys : List V} {n : Nat} (hn : n = min xs.length ys.length) : Walk (ItzT K a b) n (fun H => SqT K H a xs ∧ SqT K H b ys) (YPair (fun i => xs[i]?) (fun i => ys[i]?)) := by
  subst hn
  refine ⟨fun i _ hi q => ?_, fun _ q => ⟨xs, ys, q.1, q.2, by omega⟩, fun i H v H' _ q y => ?_⟩
  · have h1 : i < xs.length := by omega
    have h2 : i < ys.length := by omega
    exact ⟨xs, ys, xs[i], ys[i], q.1, q.2, by simp [h1], by simp [h2]⟩
  · obtain ⟨T, x, z, h1, h2, h3, h4, h5⟩ := y
    exact ⟨T, x, z, h1, h2, h3, h4 xs q.1, h5 ys q.2⟩
theorem all_true {l : List Bool} (h : ∀ b ∈ l, b = true) : l.all id = true := List.all_eq_true.mpr h
def spWantMany : Sp := fun vs H Q _ => ∃ i m : Int, vs = [.int i, .int m] ∧ 0 ≤ i ∧ i ≤ m ∧ RetV .non H Q
def spWantSide : Sp := fun vs H Q _ => ∃ i : Int, vs = [.int i] ∧ 1 ≤ i ∧ i ≤ 4 ∧ RetV .non H Q
def spPlace1 : Sp := fun vs H Q _ => ∃ (r : Addr) (a b t u : Int), vs = [.ref r, .int t, .int u] ∧ H r = some (.tup [.int a, .int b]) ∧ 0 ≤ a ∧ 0 ≤ b ∧ RetV (.bl (decide (a < t) && decide (b < u))) H Q
def spWantPlaces : Sp := fun vs H Q _ => ∃ (a : Addr) (tall wide : Nat) (rs : List Addr) (pl : List (Nat × Nat)), vs = [.int tall, .int wide, .ref a] ∧ SqH H a (rs.map V.ref) ∧ Pts H rs pl ∧ Bd tall wide pl ∧ RetL (rs.map V.ref) H Q
section
variable {P : Program} {w : World} {K : PySem.W.Frag} {mg : Str → Option Value} {base : Heap} {f : Addr} {fd : FuncData}
theorem ok_want_many (F : FunD K "want_many" "want_many" (defArgs (top 11)) (defBody (top 11)) (defScope (top 11)) [.non] [] f fd) (T : Tx mg) (C_is_count : ClO P w K mg base "is_count" 2 ["value"] spCount) : FnOk P w K mg base CX0 3 f fd ["value", "most"] spWantMany := by
  have sc : FnScope ["value", "most"] ["value", "most"] (defScope (top 11)) := ⟨rfl, rfl, rfl, by decide +kernel, rfl, by decide +kernel, by decide +kernel⟩
  refine F.ok sc (fun vs H Q E h => ?_) (fun cdv A outer s H vs Q E hr h => ?_)
  · obtain ⟨i, m, rfl, _⟩ := h; rfl
  obtain ⟨i, m, rfl, h0, h1, q⟩ := h
  refine ⟨_, (pss_cons (ps_if (pt_not (pt_val (pe_clo C_is_count (hr.mono (by first | decide | omega)) (pa_cons (pv 0) pa_nil)))) (pss_one ps_never) pss_nil) (pss_one (ps_if (PW.pt (pw_and (pt_cmp (pc_notN (pv 1))) (pw_and1 (pt_cmpR op_gt (pv 0) (pv 1) (nomark _))))) (pss_one ps_never) pss_nil))), ?_⟩
  refine ⟨_, rfl, i, rfl, fun H1 e1 => ⟨_, rfl, ?_⟩⟩
  rw [decide_eq_true h0]
  refine ⟨_, rfl, _, rfl, _, rfl, _, rfl, _, _, rfl, rfl, _, rfl, ?_⟩
  refine ite2 (fun c => ?_) (fun c => q _ e1)
  have c' := of_decide_eq_true c
  omega
theorem sc_want_side : FnScope ["value"] ["value"] (defScope (top 21)) := ⟨rfl, rfl, rfl, by decide +kernel, rfl, by decide +kernel, by decide +kernel⟩
theorem ok_want_side (F : Fun K "want_side" "want_side" (top 21) f fd) (T : Tx mg) {t4 : Tok} (m4 : mg "MOST_SIDE" = some (.int 4 t4)) (C_want_many : ClO P w K mg base "want_many" 3 ["value", "most"] spWantMany) : FnOk P w K mg base CX0 4 f fd ["value"] spWantSide := by
  have sc := sc_want_side
  refine F.ok sc (fun vs H Q E h => ?_) (fun cdv A outer s H vs Q E hr h => ?_)
  · obtain ⟨i, rfl, _⟩ := h; rfl
  obtain ⟨i, rfl, h1, h4, q⟩ := h
  refine ⟨_, (pss_cons (ps_expr (pe_clo C_want_many (hr.mono (by decide)) (pa_cons (pv 0) (pa_cons (pe_glob (v := .int 4) rfl m4 ⟨_, rfl⟩) pa_nil)))) (pss_one (ps_if (pt_cmpR op_eq (pv 0) pe_int (nomark _)) (pss_one ps_never) pss_nil))), ?_⟩
  refine ⟨_, rfl, i, 4, rfl, by omega, h4, fun H1 e1 => ⟨_, rfl, rfl, _, rfl, ?_⟩⟩
  refine ite2 (fun c => ?_) (fun c => q _ e1)
  have c' := of_decide_eq_true c
  injection c' with c'
  omega
theorem sc_is_place1 : FnScope ["value", "tall", "wide"] ["value", "tall", "wide"] (defScope (top 22)) := ⟨rfl, rfl, rfl, by decide +kernel, rfl, by decide +kernel, by decide +kernel⟩
theorem ok_is_place1 (F : Fun K "is_place" "is_place" (top 22) f fd) (T : Tx mg) (C_is_count : ClO P w K mg base "is_count" 2 ["value"] spCount) : FnOk P w K mg base CX0 3 f fd ["value", "tall", "wide"] spPlace1 := by
  have sc := sc_is_place1
  refine F.ok sc (fun vs H Q E h => ?_) (fun cdv A outer s H vs Q E hr h => ?_)
  · obtain ⟨r, a, b, t, u, rfl, _⟩ := h; rfl
  obtain ⟨r, a, b, t, u, rfl, hr0, ha, hb, q⟩ := h
  refine ⟨_, (pss_cons (ps_if (PW.pt (pw_or (pt_not (pt_val (pe_callB call_isi rfl T.b_isinstance bt_isinstance (pa_cons (pv 0) (pa_cons (pe_bltn (v := .ty "tuple") rfl T.b_tuple bt_tuple rfl) pa_nil))))) (pw_or (pt_cmpR op_ne (pe_callB call_len_seq rfl T.b_len bt_len (pa_cons (pv 0) pa_nil)) pe_int (nomark _)) (pw_or (pt_not (pt_val (pe_clo C_is_count (hr.mono (by first | decide | omega)) (pa_cons (pe_ix ix_tup (pv 0) pe_int (fun _ _ => rfl)) pa_nil)))) (pw_or1 (pt_not (pt_val (pe_clo C_is_count (hr.mono (by first | decide | omega)) (pa_cons (pe_ix ix_tup (pv 0) pe_int (fun _ _ => rfl)) pa_nil))))))))) (pss_one (ps_ret pe_bl)) pss_nil) (pss_one (ps_ret (pe_and (pe_cmpR op_lt (pe_ix ix_tup (pv 0) pe_int (fun _ _ => rfl)) (pv 1) (nomark _)) (pe_one (pe_cmpR op_lt (pe_ix ix_tup (pv 0) pe_int (fun _ _ => rfl)) (pv 2) (nomark _))))))), ?_⟩
  have st : SqT K H r [.int a, .int b] := st_of hr0
  refine ⟨_, rfl, _, _, _, _, _, rfl, .ty "tuple", .base (.tup hr0), kt_tuple_tuple, _, rfl, ?_⟩
  refine ⟨_, rfl, r, _, rfl, .inr st, rfl, _, rfl, ?_⟩
  refine ⟨_, rfl, _, _, _, _, rfl, rfl, st, rfl, a, rfl, fun H1 e1 => ⟨_, rfl, ?_⟩⟩
  rw [decide_eq_true ha]
  refine ⟨_, rfl, _, _, _, _, rfl, rfl, ex_t e1 st, rfl, b, rfl, fun H2 e2 => ⟨_, rfl, ?_⟩⟩
  rw [decide_eq_true hb]
  refine ⟨_, rfl, _, _, _, _, rfl, rfl, ex_t e2 (ex_t e1 st), rfl, _, rfl, _, _, rfl, rfl, _, rfl, ?_⟩
  refine ite2 (fun c => ?_) (fun c => ?_)
  · refine ⟨_, rfl, _, _, _, _, rfl, rfl, ex_t e2 (ex_t e1 st), rfl, _, rfl, _, _, rfl, rfl, ?_⟩
    rw [c, Bool.true_and] at q
    exact q _ (e1.trans e2)
  · rw [Bool.eq_false_iff.mpr c, Bool.false_and] at q
    exact q _ (e1.trans e2)
end
end R71

namespace R71
open B71 PySem PySem.Spec PyProof.Rows L2 Evl RZ SrtO

section
variable {P : Program} {w : World} {K : PySem.W.Frag} {mg : Str → Option Value} {base : Heap} {f : Addr} {fd : FuncData}
theorem pair_at {H : Hp} {rs : List Addr} {pl : List (Nat × Nat)} (h : Pts H rs pl) {i : Nat} {z : (Nat × Nat) × (Nat × Nat)} (hz : (pl.zip (pl.drop 1))[i]? = some z) {x y : V} (hx : (rs.map V.ref)[i]? = some x) (hy : ((rs.map V.ref).drop 1)[i]? = some y) :
    ∃ r r', x = .ref r ∧ y = .ref r' ∧ Pt H r z.1 ∧ Pt H r' z.2 := by
  obtain ⟨r, p, rfl, h1, h2⟩ := pts_at h hx
  rw [List.getElem?_drop] at hy
  obtain ⟨r', p', rfl, h1', h2'⟩ := pts_at h hy
  rw [List.getElem?_zip_eq_some] at hz
  rw [List.getElem?_drop] at hz
  have e1 := hz.1.symm.trans h1
  have e2 := hz.2.symm.trans h1'
  cases e1
  obtain ⟨z1, z2⟩ := z
  simp only [Option.some.injEq] at e2
  exact ⟨r, r', rfl, rfl, by simp_all, by simp_all⟩
theorem sc_want_places : FnScope ["tall", "wide", "value", "place", "near", "far"] ["tall", "wide", "value"] (defScope (top 24)) := ⟨rfl, rfl, rfl, by decide +kernel, rfl, by decide +kernel, by decide +kernel⟩
theorem ok_want_places (F : Fun K "want_places" "want_places" (top 24) f fd) (T : Tx mg) {t16 : Tok} (m16 : mg "MOST_TABLES" = some (.int 16 t16)) (C_want_side : ClO P w K mg base "want_side" 4 ["value"] spWantSide) (C_is_list : ClO P w K mg base "is_list" 1 ["value"] spList) (C_is_place1 : ClO P w K mg base "is_place_makers" 3 ["value", "tall", "wide"] spPlace1) : FnOk P w K mg base CX0 5 f fd ["tall", "wide", "value"] spWantPlaces := by
  have sc := sc_want_places
  refine F.ok sc (fun vs H Q E h => ?_) (fun cdv A outer s H vs Q E hr h => ?_)
  · obtain ⟨a, t, u, rs, pl, rfl, _⟩ := h; rfl
  obtain ⟨a, tall, wide, rs, pl, rfl, hs, hp, hb, q⟩ := h
  have hl := hp.len
  have hn : (pl.zip (pl.drop 1)).length = min (rs.map V.ref).length ((rs.map V.ref).drop 1).length := by simp [hl]
  have hz := hb.p16
  have allP : ∀ y ∈ pl, (decide ((y.1 : Int) < tall) && decide ((y.2 : Int) < wide)) = true := fun y hy => by
    have := hb.inb y hy
    simp; omega
  have ncut : ¬ (HT.sIx (rs.map V.ref).length 0 (some 1) = 0 ∧ HT.sIx (rs.map V.ref).length (rs.map V.ref).length none = (rs.map V.ref).length) := fun z => by
    have z1 := z.1
    rw [show HT.sIx (rs.map V.ref).length 0 (some 1) = min 1 (rs.map V.ref).length from HT.sIx_nat _ 0 1, List.length_map, hl] at z1
    have := hb.p1
    omega
  rcases hs with hs | hs
  · refine ⟨_, (pss_cons (ps_expr (pe_clo C_want_side (hr.mono (by first | decide | omega)) (pa_cons (pv 0) pa_nil))) (pss_cons (ps_expr (pe_clo C_want_side (hr.mono (by first | decide | omega)) (pa_cons (pv 1) pa_nil))) (pss_cons (ps_if (PW.pt (pw_or (pt_not (pt_val (pe_clo C_is_list (hr.mono (by first | decide | omega)) (pa_cons (pv 2) pa_nil)))) (pw_or1 (pt_not (pt_chain op_le op_le pe_int (pe_callB call_len_seq rfl T.b_len bt_len (pa_cons (pv 2) pa_nil)) (pe_glob (v := .int 16) rfl m16 ⟨_, rfl⟩)))))) (pss_one ps_never) pss_nil) (pss_cons (ps_if (pt_not (pt_val (pe_callB (cr_all rfl) rfl T.b_all bt_all (pa_cons (pe_lc (own := [("place", 3)]) (g := (gName 3)) rfl sc.nd (pi_list (pv 2)) (blkOk_by (N := ["tall", "wide", "value", "place", "near", "far"]) (sc := defScope ((top 24))) (by decide +kernel)) (fun _ _ _ _ _ => (pg_name (i := 3) sc.nd rfl (Or.inl rfl))) (fun _ _ _ _ _ => pts_nil) (fun _ _ _ _ _ => (pe_clo C_is_place1 (hr.mono (by first | decide | omega)) (pa_cons (pv 3) (pa_cons (pv 0) (pa_cons (pv 1) pa_nil)))))) pa_nil)))) (pss_one ps_never) pss_nil) (pss_cons (ps_if (pt_not (pt_val (pe_callB (cr_all rfl) rfl T.b_all bt_all (pa_cons (pe_lc (own := [("near", 4), ("far", 5)]) (g := (gTup K 2 (gCons (gName 4) (gCons (gName 5) gNil)))) rfl sc.nd (pi_zipA rfl T.b_zip (pa_cons (pv 2) (pa_cons (pe_slice sl_list (pv 2) (po_some pe_int) po_none) pa_nil))) (blkOk_by (N := ["tall", "wide", "value", "place", "near", "far"]) (sc := defScope ((top 24))) (by decide +kernel)) (fun _ _ _ _ _ => (pg_tup rfl (pgs_cons (pg_name (i := 4) sc.nd rfl (Or.inl rfl)) (pgs_cons (pg_name (i := 5) sc.nd rfl (Or.inl rfl)) pgs_nil)))) (fun _ _ _ _ _ => pts_nil) (fun _ _ _ _ _ => (pe_cmpR (show OpR _ _ (rLtT K) from (op_ltT hr.units0)) (pv 4) (pv 5) (nomark _)))) pa_nil)))) (pss_one ps_never) pss_nil) (pss_one (ps_ret (pe_callTy call_list_of rfl T.b_list bt_list (pa_cons (pv 2) pa_nil))))))))), ?_⟩
    refine ⟨_, rfl, (tall : Int), rfl, by have := hb.t1; omega, by have := hb.t4; omega, fun H1 e1 => ⟨_, rfl, (wide : Int), rfl, by have := hb.w1; omega, by have := hb.w4; omega, fun H2 e2 => ?_⟩⟩
    have e02 := e1.trans e2
    refine ⟨_, rfl, a, _, rfl, .inl (e02 _ _ hs), fun H3 e3 => ⟨_, rfl, ?_⟩⟩
    have e03 := e02.trans e3
    refine ⟨_, rfl, a, _, rfl, .inl (sq_of (e03 _ _ hs)), _, _, rfl, rfl, _, rfl, ?_⟩
    rw [List.length_map, hl, decide_eq_true (by have := hb.p1; omega)]
    refine ⟨_, _, rfl, rfl, _, rfl, ?_⟩
    rw [decide_eq_true (by omega)]
    -- all([is_place_makers(place, tall, wide) for place in value])
    refine ⟨_, rfl, a, rfl, ⟨_, sq_of (e03 _ _ hs)⟩, fun D hD => ?_⟩
    refine lcW (walk_list (K := K) (a := a) (xs := rs.map V.ref)) pl (by simp [hl]) (by simp; omega) (fun _ => true) (fun y v _ => v = .bl (decide ((y.1 : Int) < tall) && decide ((y.2 : Int) < wide))) Stab.bl hD (fun H4 e4 => sq_of (e4 _ _ (e03 _ _ hs))) ?_ ?_
    · rintro i y x H4 H5 N Gt hy e4 ⟨rfl, hx⟩ _ k
      obtain ⟨r, p, rfl, h1, h2⟩ := pts_at hp hx
      cases h1.symm.trans hy
      refine ⟨Ex.refl _, rfl, ?_⟩
      refine ⟨_, rfl, _, rfl, _, rfl, r, (y.1 : Int), (y.2 : Int), tall, wide, rfl, e4 _ _ (e03 _ _ h2), by omega, by omega, fun H6 e6 => k rfl _ _ e6 rfl⟩
    · intro acc H4 e4 hD4 hacc
      rw [filter_yes] at hacc
      have ha := paired_bl hacc
      refine ⟨D, _, rfl, sq_of (ha ▸ hD4), _, rfl, ?_⟩
      rw [all_true (fun b hb' => by obtain ⟨y, hy, rfl⟩ := List.mem_map.mp hb'; exact allP y hy)]
      have e04 := e03.trans e4
      -- all([near < far for near, far in zip(value, value[1:])])
      refine ⟨_, rfl, _, rfl, _, rfl, a, _, rfl, sq_of (e04 _ _ hs), fun p5 hp5 => ?_⟩
      rw [cut1]
      have e5 : Ex H4 (upd H4 p5 (.lst ((rs.map V.ref).drop 1))) := Ex.new hp5
      have e05 := e04.trans e5
      refine ⟨a, p5, _, _, rfl, .inl ⟨sq_of (e05 _ _ hs), sq_of upd_same, fun D2 hD2 => ?_⟩⟩
      refine lcW (walk_zip (K := K) (a := a) (b := p5) rfl) (pl.zip (pl.drop 1)) hn.symm (by simp; omega) (fun _ => true) (fun y v _ => v = .bl (decide (lexlt y.1 y.2))) Stab.bl hD2 (fun H6 e6 => ⟨sq_of (e6 _ _ (e05 _ _ hs)), sq_of (e6 _ _ upd_same)⟩) ?_ ?_
      · rintro i y x H6 H7 N Gt hy e6 ⟨Tt, x1, x2, rfl, hT, rfl, h1, h2⟩ _ k
        obtain ⟨r, r', rfl, rfl, hr1, hr2⟩ := pair_at (H := upd H6 Tt (.tup [x1, x2])) (hp.up (e05.trans (e6.trans (Ex.new hT)))) hy h1 h2
        refine ⟨Ex.new hT, ?_⟩
        refine ⟨Tt, _, rfl, st_of upd_same, rfl, _, _, rfl, _, _, rfl, rfl, rfl, ?_⟩
        refine ⟨_, rfl, _, rfl, r, r', [(y.1.1 : Int), (y.1.2 : Int)], [(y.2.1 : Int), (y.2.2 : Int)], rfl, rfl, st_of hr1, st_of hr2, ?_⟩
        exact k rfl _ _ (Ex.refl _) (congrArg V.bl lexLt_pair)
      · intro acc2 H6 e6 hD6 hacc2
        rw [filter_yes] at hacc2
        have ha2 := paired_bl hacc2
        refine ⟨D2, _, rfl, sq_of (ha2 ▸ hD6), _, rfl, ?_⟩
        rw [all_true (fun b hb' => by obtain ⟨y, hy, rfl⟩ := List.mem_map.mp hb'; exact adj hb.so y hy)]
        have e06 := e05.trans e6
        refine ⟨_, rfl, a, _, rfl, .inl (sq_of (e06 _ _ hs)), fun l hl' => q l _ ?_ (e06.trans (Ex.new hl')) upd_same⟩
        exact fresh_back e06 hl'
  · refine ⟨_, (pss_cons (ps_expr (pe_clo C_want_side (hr.mono (by first | decide | omega)) (pa_cons (pv 0) pa_nil))) (pss_cons (ps_expr (pe_clo C_want_side (hr.mono (by first | decide | omega)) (pa_cons (pv 1) pa_nil))) (pss_cons (ps_if (PW.pt (pw_or (pt_not (pt_val (pe_clo C_is_list (hr.mono (by first | decide | omega)) (pa_cons (pv 2) pa_nil)))) (pw_or1 (pt_not (pt_chain op_le op_le pe_int (pe_callB call_len_seq rfl T.b_len bt_len (pa_cons (pv 2) pa_nil)) (pe_glob (v := .int 16) rfl m16 ⟨_, rfl⟩)))))) (pss_one ps_never) pss_nil) (pss_cons (ps_if (pt_not (pt_val (pe_callB (cr_all rfl) rfl T.b_all bt_all (pa_cons (pe_lc (own := [("place", 3)]) (g := (gName 3)) rfl sc.nd (pi_tup (pv 2)) (blkOk_by (N := ["tall", "wide", "value", "place", "near", "far"]) (sc := defScope ((top 24))) (by decide +kernel)) (fun _ _ _ _ _ => (pg_name (i := 3) sc.nd rfl (Or.inl rfl))) (fun _ _ _ _ _ => pts_nil) (fun _ _ _ _ _ => (pe_clo C_is_place1 (hr.mono (by first | decide | omega)) (pa_cons (pv 3) (pa_cons (pv 0) (pa_cons (pv 1) pa_nil)))))) pa_nil)))) (pss_one ps_never) pss_nil) (pss_cons (ps_if (pt_not (pt_val (pe_callB (cr_all rfl) rfl T.b_all bt_all (pa_cons (pe_lc (own := [("near", 4), ("far", 5)]) (g := (gTup K 2 (gCons (gName 4) (gCons (gName 5) gNil)))) rfl sc.nd (pi_zipA rfl T.b_zip (pa_cons (pv 2) (pa_cons (pe_slice sl_tup (pv 2) (po_some pe_int) po_none) pa_nil))) (blkOk_by (N := ["tall", "wide", "value", "place", "near", "far"]) (sc := defScope ((top 24))) (by decide +kernel)) (fun _ _ _ _ _ => (pg_tup rfl (pgs_cons (pg_name (i := 4) sc.nd rfl (Or.inl rfl)) (pgs_cons (pg_name (i := 5) sc.nd rfl (Or.inl rfl)) pgs_nil)))) (fun _ _ _ _ _ => pts_nil) (fun _ _ _ _ _ => (pe_cmpR (show OpR _ _ (rLtT K) from (op_ltT hr.units0)) (pv 4) (pv 5) (nomark _)))) pa_nil)))) (pss_one ps_never) pss_nil) (pss_one (ps_ret (pe_callTy call_list_of rfl T.b_list bt_list (pa_cons (pv 2) pa_nil))))))))), ?_⟩
    refine ⟨_, rfl, (tall : Int), rfl, by have := hb.t1; omega, by have := hb.t4; omega, fun H1 e1 => ⟨_, rfl, (wide : Int), rfl, by have := hb.w1; omega, by have := hb.w4; omega, fun H2 e2 => ?_⟩⟩
    have e02 := e1.trans e2
    refine ⟨_, rfl, a, _, rfl, .inr (e02 _ _ hs), fun H3 e3 => ⟨_, rfl, ?_⟩⟩
    have e03 := e02.trans e3
    refine ⟨_, rfl, a, _, rfl, .inr (st_of (e03 _ _ hs)), _, _, rfl, rfl, _, rfl, ?_⟩
    rw [List.length_map, hl, decide_eq_true (by have := hb.p1; omega)]
    refine ⟨_, _, rfl, rfl, _, rfl, ?_⟩
    rw [decide_eq_true (by omega)]
    -- all([is_place_makers(place, tall, wide) for place in value])
    refine ⟨_, rfl, a, rfl, ⟨_, st_of (e03 _ _ hs)⟩, fun D hD => ?_⟩
    refine lcW (walk_tup (K := K) (a := a) (xs := rs.map V.ref)) pl (by simp [hl]) (by simp; omega) (fun _ => true) (fun y v _ => v = .bl (decide ((y.1 : Int) < tall) && decide ((y.2 : Int) < wide))) Stab.bl hD (fun H4 e4 => st_of (e4 _ _ (e03 _ _ hs))) ?_ ?_
    · rintro i y x H4 H5 N Gt hy e4 ⟨rfl, hx⟩ _ k
      obtain ⟨r, p, rfl, h1, h2⟩ := pts_at hp hx
      cases h1.symm.trans hy
      refine ⟨Ex.refl _, rfl, ?_⟩
      refine ⟨_, rfl, _, rfl, _, rfl, r, (y.1 : Int), (y.2 : Int), tall, wide, rfl, e4 _ _ (e03 _ _ h2), by omega, by omega, fun H6 e6 => k rfl _ _ e6 rfl⟩
    · intro acc H4 e4 hD4 hacc
      rw [filter_yes] at hacc
      have ha := paired_bl hacc
      refine ⟨D, _, rfl, sq_of (ha ▸ hD4), _, rfl, ?_⟩
      rw [all_true (fun b hb' => by obtain ⟨y, hy, rfl⟩ := List.mem_map.mp hb'; exact allP y hy)]
      have e04 := e03.trans e4
      -- all([near < far for near, far in zip(value, value[1:])])
      refine ⟨_, rfl, _, rfl, _, rfl, a, _, rfl, st_of (e04 _ _ hs), ncut, fun p5 hp5 => ?_⟩
      rw [cut1]
      have e5 : Ex H4 (upd H4 p5 (.tup ((rs.map V.ref).drop 1))) := Ex.new hp5
      have e05 := e04.trans e5
      refine ⟨a, p5, _, _, rfl, .inr ⟨st_of (e05 _ _ hs), st_of upd_same, fun D2 hD2 => ?_⟩⟩
      refine lcW (walk_zipT (K := K) (a := a) (b := p5) rfl) (pl.zip (pl.drop 1)) hn.symm (by simp; omega) (fun _ => true) (fun y v _ => v = .bl (decide (lexlt y.1 y.2))) Stab.bl hD2 (fun H6 e6 => ⟨st_of (e6 _ _ (e05 _ _ hs)), st_of (e6 _ _ upd_same)⟩) ?_ ?_
      · rintro i y x H6 H7 N Gt hy e6 ⟨Tt, x1, x2, rfl, hT, rfl, h1, h2⟩ _ k
        obtain ⟨r, r', rfl, rfl, hr1, hr2⟩ := pair_at (H := upd H6 Tt (.tup [x1, x2])) (hp.up (e05.trans (e6.trans (Ex.new hT)))) hy h1 h2
        refine ⟨Ex.new hT, ?_⟩
        refine ⟨Tt, _, rfl, st_of upd_same, rfl, _, _, rfl, _, _, rfl, rfl, rfl, ?_⟩
        refine ⟨_, rfl, _, rfl, r, r', [(y.1.1 : Int), (y.1.2 : Int)], [(y.2.1 : Int), (y.2.2 : Int)], rfl, rfl, st_of hr1, st_of hr2, ?_⟩
        exact k rfl _ _ (Ex.refl _) (congrArg V.bl lexLt_pair)
      · intro acc2 H6 e6 hD6 hacc2
        rw [filter_yes] at hacc2
        have ha2 := paired_bl hacc2
        refine ⟨D2, _, rfl, sq_of (ha2 ▸ hD6), _, rfl, ?_⟩
        rw [all_true (fun b hb' => by obtain ⟨y, hy, rfl⟩ := List.mem_map.mp hb'; exact adj hb.so y hy)]
        have e06 := e05.trans e6
        refine ⟨_, rfl, a, _, rfl, .inr (st_of (e06 _ _ hs)), fun l hl' => q l _ ?_ (e06.trans (Ex.new hl')) upd_same⟩
        exact fresh_back e06 hl'
end
end R71

namespace R71
open B71 PySem PySem.Spec PyProof.Rows L2 Evl RZ SrtO

def kD (d : Dc) : List (Key × V) := d.map fun p => (Sum.inl (p.1 : Int), V.int (p.2 : Int))
def kT (t : List Nat) : List (Key × V) := t.map fun (c : Nat) => (Sum.inl (c : Int), V.bl true)
theorem inl_iff {a b : Nat} : ((Sum.inl (a : Int) : Key) = Sum.inl (b : Int)) ↔ a = b := ⟨fun h => by have := Sum.inl.inj h; omega, fun h => by rw [h]⟩
theorem valD (d : Dc) (c : Nat) : valV (kD d) (.inl (c : Int)) = (look d c).map fun r => V.int (r : Int) := by
  induction d with
  | nil => rfl
  | cons p d ih =>
    unfold kD look at ih ⊢
    rw [List.map_cons]
    by_cases h : p.1 = c
    · rw [valV_pos (by rw [h]), List.find?_cons_of_pos (by simpa using h)]; rfl
    · rw [valV_neg (fun z => h (inl_iff.mp z)), List.find?_cons_of_neg (by simpa using h)]; exact ih
theorem valT (t : List Nat) (c : Nat) : (valV (kT t) (.inl (c : Int))).isSome = decide (c ∈ t) := by
  rw [← valV_any]
  unfold kT
  rw [List.any_map]
  by_cases h : c ∈ t
  · rw [decide_eq_true h]; exact List.any_eq_true.mpr ⟨c, h, by simp⟩
  · rw [decide_eq_false h]
    refine List.any_eq_false.mpr fun x hx => ?_
    have : x ≠ c := fun z => h (z ▸ hx)
    show ¬ decide ((Sum.inl (x : Int) : Key) = Sum.inl (c : Int)) = true
    rw [decide_eq_true_iff]
    exact fun z => this (inl_iff.mp z)
theorem putD (d : Dc) (c r : Nat) : putK (kD d) (.inl (c : Int)) (.int (r : Int)) = kD (put d c r) := by
  unfold putK put kD
  rw [List.any_map]
  have e : (d.any ((fun kv : Key × V => decide (kv.1 = Sum.inl (c : Int))) ∘ fun p : Nat × Nat => (Sum.inl (p.1 : Int), V.int (p.2 : Int)))) = d.any fun p => decide (p.1 = c) := by
    congr 1
    funext p
    show decide ((Sum.inl (p.1 : Int) : Key) = Sum.inl (c : Int)) = decide (p.1 = c)
    exact decide_eq_decide.mpr inl_iff
  rw [e]
  by_cases h : (d.any fun p => decide (p.1 = c)) = true
  · rw [if_pos h, if_pos h, List.map_map, List.map_map]
    refine List.map_congr_left fun p _ => ?_
    show (if (Sum.inl (p.1 : Int) : Key) = Sum.inl (c : Int) then _ else _) = _
    by_cases q : p.1 = c
    · rw [if_pos (inl_iff.mpr q)]; simp [q]
    · rw [if_neg (fun z => q (inl_iff.mp z))]; simp [q]
  · rw [if_neg h, if_neg h, List.map_append]; rfl
theorem putT (t : List Nat) (c : Nat) (h : c ∉ t) : putK (kT t) (.inl (c : Int)) (.bl true) = kT (t ++ [c]) := by
  unfold putK
  have e : ((kT t).any fun kv => decide (kv.1 = (Sum.inl (c : Int) : Key))) = false := by rw [valV_any, valT]; exact decide_eq_false h
  rw [if_neg (by rw [e]; exact Bool.false_ne_true)]
  unfold kT
  rw [List.map_append]; rfl
theorem merge_fresh : ∀ (l acc : Dc), ((acc ++ l).map (·.1)).Nodup → mergeK (kD acc) (kD l) = kD (acc ++ l)
  | [], acc, _ => by rw [List.append_nil]; rfl
  | p :: l, acc, h => by
    unfold mergeK
    show List.foldl _ (putK (kD acc) (.inl (p.1 : Int)) (.int (p.2 : Int))) (kD l) = _
    rw [putD, put_new (look_none.mpr fun q hq z => ?_)]
    · have := merge_fresh l (acc ++ [p]) (by rw [List.append_assoc]; exact h)
      rw [List.append_assoc] at this
      exact this
    · rw [List.map_append, List.map_cons, List.nodup_append] at h
      exact h.2.2 q.1 (List.mem_map.mpr ⟨q, hq, rfl⟩) p.1 (List.mem_cons_self ..) z
theorem mergeD {l : Dc} (h : (l.map (·.1)).Nodup) : mergeK [] (kD l) = kD l := merge_fresh l [] (by simpa using h)
theorem tu_list {α : Type} {g : α → List V} {H : Hp} : ∀ {ys : List α} {acc : List V}, Paired (fun y v => Tu g y v H) ys acc → ∃ rs : List Addr, acc = rs.map V.ref ∧ rs.length = ys.length ∧ Paired (fun r y => H r = some (.tup (g y))) rs ys
  | _, _, .nil => ⟨[], rfl, rfl, .nil⟩
  | _, _, .cons ⟨r, h1, h2⟩ t => by
    obtain ⟨rs, e, l, p⟩ := tu_list t
    exact ⟨r :: rs, by rw [h1, e]; rfl, by simp [l], .cons h2 p⟩
/-- all but the thing at d stands -/
theorem Pts.upB {d : Addr} {H H' : Hp} {rs : List Addr} {pl : List (Nat × Nat)} (h : Pts H rs pl) (e : ExB d H H') {u : HO} (hd : H d = some u) (nu : ∀ xs, u ≠ .tup xs) : Pts H' rs pl := Paired.mapP h fun r p q => e r _ (fun z => by
  have q' : H r = some (.tup _) := q
  rw [z, hd] at q'
  exact nu _ (Option.some.inj q')) q
def FwR (o : Option Dc) (H : Hp) (v : V) (H' : Hp) : Prop := match o with | none => v = .non | some L => ∃ p, v = .ref p ∧ H p = none ∧ H' p = some (.dK (kD L))
structure FwP (pl : Pl) (n row : Nat) (M : Dc) (t : List Nat) : Prop where
  h4 : ∀ r c, (r, c) ∈ pl → c < 4
  p16 : pl.length ≤ 16
  mat : Mat pl M
  new : row ∉ M.map (·.2)
  tr : Tr t
  fuel : 5 ≤ t.length + n
def spFree (n : Nat) : Sp := fun vs H Q _ => ∃ (a sd td : Addr) (row : Nat) (rs : List Addr) (pl : Pl) (M : Dc) (t : List Nat), vs = [.ref a, .int row, .ref sd, .ref td] ∧ H a = some (.lst (rs.map V.ref)) ∧ Pts H rs pl ∧ FwP pl n row M t ∧
  H sd = some (.dK (kD M)) ∧ H td = some (.dK (kT t)) ∧ sd ≠ td ∧
  ∀ v H', ExB td H H' → H' td = some (.dK (kT (fw pl n row M t).2)) → FwR (fw pl n row M t).1 H v H' → Q v H'
theorem mat_len {pl : Pl} (h4 : ∀ r c, (r, c) ∈ pl → c < 4) {M : Dc} (m : Mat pl M) : M.length ≤ 4 := by
  have := nodup_le (l := M.map (·.1)) (m := List.range 4) m.cols fun c hc => by
    obtain ⟨⟨x, r⟩, hp, rfl⟩ := List.mem_map.mp hc
    exact List.mem_range.mpr (h4 r x (m.on x r hp))
  simpa using this
section
variable {P : Program} {w : World} {K : PySem.W.Frag} {mg : Str → Option Value} {base : Heap} {f : Addr} {fd : FuncData}
theorem sc_free_way : FnScope ["places", "row", "seats", "tried", "near", "column", "later", "others", "one"] ["places", "row", "seats", "tried"] (defScope (top 26)) := ⟨rfl, rfl, rfl, by decide +kernel, rfl, by decide +kernel, by decide +kernel⟩
theorem ok_free_way {n : Nat} (F : Fun K "free_way" "free_way" (top 26) f fd) (T : Tx mg) (C_free_way : ClO P w K mg base "free_way" n ["places", "row", "seats", "tried"] (spFree n)) : FnOk P w K mg base CX0 (n + 1) f fd ["places", "row", "seats", "tried"] (spFree (n + 1)) := by
  have sc := sc_free_way
  refine F.ok sc (fun vs H Q E h => ?_) (fun cdv A outer s H vs Q E hr h => ?_)
  · obtain ⟨a, sd, td, row, _, _, _, _, rfl, _⟩ := h; rfl
  obtain ⟨a, sd, td, row, rs, pl, M, t, rfl, ha, hp, J, hsd, htd, nst, q⟩ := h
  have hl := hp.len
  have nat : a ≠ td := fun z => by rw [z, htd] at ha; cases ha
  refine ⟨_, (pss_cons (ps_for PassesOwn.never rfl (pi_list (pv 0)) (pg_tup rfl (pgs_cons (pg_name (i := 4) sc.nd rfl (Or.inl rfl)) (pgs_cons (pg_name (i := 5) sc.nd rfl (Or.inr rfl)) pgs_nil))) (pss_one (ps_if (PW.pt (pw_and (pt_cmpR op_eq (pv 4) (pv 1) (nomark _)) (pw_and1 (pt_cmp (pc_dnotin (u1 hr) (pv 5) (pv 3)))))) (pss_cons (ps_dput (u1 hr) (pv 3) (pv 5) pe_bl rfl) (pss_cons (ps_set (i := 6) sc.nd rfl (Or.inl rfl) (pe_callTy call_dictD rfl T.b_dict bt_dict (pa_cons (pv 2) pa_nil))) (pss_cons (ps_if (pt_cmp (pc_din (u1 hr) (pv 5) (pv 2))) (pss_cons (ps_set (i := 7) sc.nd rfl (Or.inl rfl) (pe_callTy (call_dictP rfl) rfl T.b_dict bt_dict (pa_cons (pe_lock (pe_lc (own := [("one", 8)]) (g := (gName 8)) rfl sc.nd (pi_keys (pv 2)) (blkOk_by (N := ["places", "row", "seats", "tried", "near", "column", "later", "others", "one"]) (sc := defScope ((top 26))) (by decide +kernel)) (fun _ _ _ _ _ => (pg_name (i := 8) sc.nd rfl (Or.inl rfl))) (fun _ _ _ _ _ => (pts_one (pt_cmpR op_ne (pv 8) (pv 5) (nomark _)))) (fun _ _ _ _ _ => (pe_tup (pa_cons (pv 8) (pa_cons (pe_dget (u1 hr) (pv 2) (pv 8) (fun _ _ => rfl)) pa_nil)))))) pa_nil))) (pss_one (ps_set (i := 6) sc.nd rfl (Or.inl rfl) (pe_clo C_free_way (hr.mono (by first | decide | omega)) (pa_cons (pv 0) (pa_cons (pe_dget (u1 hr) (pv 2) (pv 5) (fun _ _ => rfl)) (pa_cons (pv 7) (pa_cons (pv 3) pa_nil)))))))) pss_nil) (pss_one (ps_if (pt_cmp (pc_notN (pv 6))) (pss_cons (ps_dput (u1 hr) (pv 6) (pv 5) (pv 1) rfl) (pss_one (ps_ret (pv 6)))) pss_nil))))) pss_nil))) (pss_one (ps_ret pe_non))), ?_⟩
  refine ⟨_, rfl, a, rfl, ⟨_, sq_of ha⟩, for_list (K := K) (a := a) (xs := rs.map V.ref) (fun i σ H' => ∃ (ti : List Nat) (o4 o5 o6 o7 o8 : Option V), σ = [some (.ref a), some (.int row), some (.ref sd), some (.ref td), o4, o5, o6, o7, o8] ∧ ExB td H H' ∧ H' td = some (.dK (kT ti)) ∧ Tr ti ∧ t.length ≤ ti.length ∧
      fwLoop (fw pl n) row M pl t = fwLoop (fw pl n) row M (pl.drop i) ti)
    ⟨t, none, none, none, none, none, rfl, ExB.of (Ex.refl _), htd, J.tr, Nat.le_refl _, rfl⟩ (fun i σ H' _ ⟨_, _, _, _, _, _, _, e, _⟩ => sq_of (e _ _ nat ha)) ?_ ?_⟩
  · rintro i x σ H1 hx ⟨ti, o4, o5, o6, o7, o8, rfl, e1, hti, trt, tl, hf⟩
    have hp1 := hp.upB e1 htd (fun xs z => by cases z)
    obtain ⟨r, ⟨k, c⟩, rfl, hk, hr1⟩ := pts_at hp1 hx
    have hi : i < pl.length := (List.getElem?_eq_some_iff.mp hk).1
    have hdrop : pl.drop i = (k, c) :: pl.drop (i + 1) := by
      rw [List.drop_eq_getElem_cons hi]
      congr 1
      exact (List.getElem?_eq_some_iff.mp hk).2
    have hmem : (k, c) ∈ pl := List.mem_of_getElem? hk
    rw [hdrop] at hf
    refine ⟨r, _, rfl, st_of hr1, rfl, _, _, rfl, _, _, rfl, rfl, ?_⟩
    refine ⟨_, rfl, _, rfl, rfl, _, rfl, ?_⟩
    have skip : ¬ (k = row ∧ c ∉ ti) → ∃ (tj : List Nat) (o4' o5' o6' o7' o8' : Option V), [some (.ref a), some (.int row), some (.ref sd), some (.ref td), some (.int k), some (.int c), o6, o7, o8] = [some (.ref a), some (.int row), some (.ref sd), some (.ref td), o4', o5', o6', o7', o8'] ∧ ExB td H H1 ∧ H1 td = some (.dK (kT tj)) ∧ Tr tj ∧ t.length ≤ tj.length ∧
      fwLoop (fw pl n) row M pl t = fwLoop (fw pl n) row M (pl.drop (i + 1)) tj := fun g => ⟨ti, _, _, _, _, _, rfl, e1, hti, trt, tl, by rw [hf, loop_skip g]⟩
    refine ite2 (fun g1 => ?_) (fun g1 => ?_)
    · have g1' : k = row := by
        have := of_decide_eq_true g1
        injection this with this
        omega
      refine ⟨_, rfl, _, rfl, td, _, rfl, DGet.k (k := .inl (c : Int)) hti, ?_⟩
      rw [valT]
      refine ⟨_, rfl, ?_⟩
      refine ite2 (fun g2 => ?_) (fun g2 => ?_)
      · have g2' : c ∉ ti := by simpa using g2
        have hfe : fw pl (n + 1) row M t = fwLoop (fw pl n) row M ((k, c) :: pl.drop (i + 1)) ti := hf
        have hlt : (kT ti).length < sizeLine := by unfold kT; rw [List.length_map]; exact small1000 (by have := trt.len; omega)
        refine ⟨_, rfl, _, rfl, td, _, rfl, DPut.k (k := .inl (c : Int)) hti hlt, ?_⟩
        rw [putT ti c g2']
        have e2 : ExB td H (upd H1 td (.dK (kT (ti ++ [c])))) := e1.put
        have hti2 : upd H1 td (.dK (kT (ti ++ [c]))) td = some (.dK (kT (ti ++ [c]))) := upd_same
        generalize upd H1 td (.dK (kT (ti ++ [c]))) = H2 at e2 hti2 ⊢
        have c4 := J.h4 k c hmem
        have tr2 := trt.snoc g2' c4
        have hsd2 : H2 sd = some (.dK (kD M)) := e2 _ _ nst hsd
        have ml := mat_len J.h4 J.mat
        refine ⟨_, rfl, sd, _, rfl, .inl hsd2, fun p hp2 => ?_⟩
        have npt : p ≠ td := fun z => by rw [z, hti2] at hp2; cases hp2
        have nps : p ≠ sd := fun z => by rw [z, hsd2] at hp2; cases hp2
        have hp0 : H p = none := e2.fresh npt hp2
        have x3 : Ex H2 (upd H2 p (.dK (kD M))) := Ex.new hp2
        have e3 := e2.trans (ExB.of x3)
        have hp3 : upd H2 p (.dK (kD M)) p = some (.dK (kD M)) := upd_same
        generalize upd H2 p (.dK (kD M)) = H3 at e3 hp3 x3 ⊢
        have hsd3 := x3 _ _ hsd2
        have hti3 := x3 _ _ hti2
        refine ⟨_, rfl, _, rfl, sd, _, rfl, DGet.k (k := .inl (c : Int)) hsd3, ?_⟩
        rw [valD]
        refine ⟨_, rfl, ?_⟩
        cases e : look M c with
        | none =>
          rw [loop_free ⟨g1', g2'⟩ e] at hfe
          refine ⟨_, rfl, _, rfl, ?_⟩
          refine ⟨_, rfl, _, rfl, _, rfl, p, _, rfl, DPut.k (k := .inl (c : Int)) hp3 (by unfold kD; rw [List.length_map]; exact small1000 (by omega)), ?_⟩
          refine ⟨_, rfl, ?_⟩
          rw [putD]
          refine q _ _ (fun b o nb hb => ?_) ?_ ?_
          · rw [upd_ne (ne_of_none hb hp0)]; exact e3 b o nb hb
          · rw [hfe, upd_ne npt.symm]; exact hti3
          · rw [hfe]; exact ⟨p, rfl, hp0, upd_same⟩
        | some r2 =>
          -- others = dict([(one, seats[one]) for one in seats if one != column])
          have hrd := rows_del J.mat e
          have mdel := J.mat.del c
          have ldel := mat_len J.h4 mdel
          refine ⟨sd, _, hsd3, trivial, fun od => ?_⟩
          have hsdL : upd H3 sd (.frz od (.dK (kD M))) sd = some (.frz od (.dK (kD M))) := upd_same
          refine ⟨_, rfl, sd, od, rfl, .inl ⟨_, hsdL, fun D hD => ?_⟩⟩
          refine lcW (walk_keys (kvs := kD M)) M (by unfold kD; rw [List.length_map]) (by unfold kD; rw [List.length_map]; omega) (fun y => decide (y.1 ≠ c)) (Tu fun y => [.int (y.1 : Nat), .int (y.2 : Nat)]) Stab.tu hD (fun H4 e4 => e4 _ _ hsdL) ?_ ?_
          · rintro i' y x H4 H5 N Gt hy e4 ⟨rfl, kk, vv, hk', rfl⟩ kN kY
            have hym : y ∈ M := List.mem_of_getElem? hy
            have hk2 : (kk, vv) = (Sum.inl (y.1 : Int), V.int (y.2 : Int)) := by
              unfold kD at hk'
              rw [List.getElem?_map, hy] at hk'
              exact (Option.some.inj hk').symm
            cases hk2
            refine ⟨Ex.refl _, rfl, ?_⟩
            refine ⟨_, rfl, _, rfl, rfl, _, rfl, ?_⟩
            refine ite2 (fun g3 => ?_) (fun g3 => ?_)
            · have g3' : y.1 ≠ c := by
                intro z
                have z' : kV (.inl (y.1 : Int)) = V.int (c : Int) := by rw [z]; rfl
                rw [decide_eq_true z'] at g3
                cases g3
              have hv : look M y.1 = some y.2 := (look_some J.mat.cols).mpr hym
              refine ⟨_, rfl, _, rfl, _, rfl, sd, _, rfl, .inl ⟨_, .inl (y.1 : Int), .inr ⟨od, e4 _ _ hsdL⟩, rfl, by rw [valD, hv]; rfl⟩, (by show 2 ≤ sizeLine; decide), fun r5 hr5 => ?_⟩
              exact kY (decide_eq_true g3') _ _ (Ex.new hr5) ⟨r5, rfl, upd_same⟩
            · have g3' : y.1 = c := by
                apply Classical.byContradiction
                intro z
                apply g3
                have z' : ¬ kV (.inl (y.1 : Int)) = V.int (c : Int) := fun q' => by
                  have q2 : V.int (y.1 : Int) = V.int (c : Int) := q'
                  injection q2 with q2
                  omega
                rw [decide_eq_false z']
                rfl
              exact kN (by simp [g3']) _ (Ex.refl _)
          · intro acc H4 e4 hD4 hacc
            have xl := ex_lock hsd3 e4
            obtain ⟨ps, rfl, lps, hps⟩ := tu_list hacc
            refine ⟨e4 _ _ hsdL, ?_⟩
            have nDs : D ≠ sd := fun z => by rw [z, e4 _ _ hsdL] at hD4; cases hD4
            have hps' : Paired (fun (r : Addr) (y : Nat × Nat) => upd H4 sd (.dK (kD M)) r = some (.tup [.int (y.1 : Nat), .int (y.2 : Nat)])) ps (del M c) := Paired.mapP hps fun r y h => by
              rw [upd_ne (fun z => by rw [z, e4 _ _ hsdL] at h; cases h)]; exact h
            have hD5 : upd H4 sd (.dK (kD M)) D = some (.lst (ps.map V.ref)) := by rw [upd_ne nDs]; exact hD4
            generalize upd H4 sd (.dK (kD M)) = H5 at xl hps' hD5 ⊢
            have pk : ∀ {rs : List Addr} {l : Dc}, Paired (fun (r : Addr) (y : Nat × Nat) => H5 r = some (.tup [.int (y.1 : Nat), .int (y.2 : Nat)])) rs l → Paired (fun p (kv : Key × V) => SqT K H5 p [kV kv.1, kv.2]) rs (kD l) := by
              intro rs l h
              induction h with
              | nil => exact .nil
              | cons h _ ih => exact .cons (st_of h) ih
            refine ⟨D, ps, kD (del M c), rfl, sq_of hD5, pk hps', fun od2 hod => ?_⟩
            rw [mergeD mdel.cols]
            have x35 := xl.trans (Ex.new (o := .dK (kD (del M c))) hod)
            have x5 := x3.trans x35
            have nodt : od2 ≠ td := fun z => by
              have := xl _ _ hti3
              rw [← z, hod] at this
              cases this
            have hod6 : upd H5 od2 (.dK (kD (del M c))) od2 = some (.dK (kD (del M c))) := upd_same
            generalize upd H5 od2 (.dK (kD (del M c))) = H6 at x5 x35 hod6 ⊢
            have hsd6 := x5 _ _ hsd2
            have hti6 := x5 _ _ hti2
            have e6 := e2.trans (ExB.of x5)
            refine ⟨_, rfl, _, rfl, _, rfl, sd, V.int (r2 : Int), rfl, .inl ⟨_, .inl (c : Int), .inl hsd6, rfl, by rw [valD, e]; rfl⟩, _, rfl, _, rfl, ?_⟩
            refine ⟨a, od2, td, r2, rs, pl, del M c, ti ++ [c], rfl, e6 _ _ nat ha, hp.upB e6 htd (fun xs z => by cases z), ⟨J.h4, J.p16, mdel, hrd.2, tr2, by have := J.fuel; simp; omega⟩, hod6, hti6, nodt, fun v H7 e7 ht7 hv => ?_⟩
            have e17 := e6.trans e7
            have t3 : Tr (fw pl n r2 (del M c) (ti ++ [c])).2 ∧ ∀ x ∈ ti ++ [c], x ∈ (fw pl n r2 (del M c) (ti ++ [c])).2 := (fw_out J.h4 n r2 (del M c) (ti ++ [c]) tr2 (by have := J.fuel; simp; omega)).1
            cases er : fw pl n r2 (del M c) (ti ++ [c]) with
            | mk o t2 =>
              rw [er] at hv ht7 t3
              have tl2 : t.length ≤ t2.length := by
                have := nodup_le tr2.nd t3.2
                simp at this
                omega
              cases o with
              | none =>
                cases (show v = V.non from hv)
                rw [loop_lose ⟨g1', g2'⟩ e er] at hfe
                refine ⟨_, rfl, _, rfl, ?_⟩
                exact ⟨t2, _, _, _, _, _, rfl, e17, ht7, t3.1, tl2, hfe⟩
              | some L =>
                obtain ⟨p8, rfl, hp8, hL⟩ := hv
                rw [loop_win ⟨g1', g2'⟩ e er] at hfe
                have wL := fw_won n r2 (del M c) (ti ++ [c]) L mdel hrd.2 (by rw [er])
                have lL := mat_len J.h4 wL.mat
                refine ⟨_, rfl, _, rfl, ?_⟩
                refine ⟨_, rfl, _, rfl, _, rfl, p8, _, rfl, DPut.k (k := .inl (c : Int)) hL (by unfold kD; rw [List.length_map]; exact small1000 (by omega)), ?_⟩
                refine ⟨_, rfl, ?_⟩
                rw [putD]
                have np8 : p8 ≠ td := fun z => by rw [z, hti6] at hp8; cases hp8
                have h80 : H p8 = none := e6.fresh np8 hp8
                refine q _ _ (fun b o nb hb => ?_) ?_ ?_
                · rw [upd_ne (ne_of_none hb h80)]; exact e17 b o nb hb
                · rw [hfe, upd_ne np8.symm]; exact ht7
                · rw [hfe]; exact ⟨p8, rfl, h80, upd_same⟩
      · exact skip (fun z => g2 (by simpa using z.2))
    · exact skip (fun z => g1 (by rw [z.1]; simp))
  · rintro σ H1 ⟨ti, o4, o5, o6, o7, o8, rfl, e1, hti, trt, tl, hf⟩
    have hd : pl.drop (rs.map V.ref).length = [] := List.drop_eq_nil_of_le (by simp [hl])
    rw [hd] at hf
    have hf2 : fw pl (n + 1) row M t = (none, ti) := hf
    refine q _ _ e1 (by rw [hf2]; exact hti) ?_
    rw [hf2]
    rfl
end
end R71

namespace R71
open B71 PySem PySem.Spec PyProof.Rows L2 Evl RZ SrtO

/-- sizes that stand for a walk over places -/
structure Sz (pl : Pl) (tall : Nat) : Prop where
  h4 : ∀ r c, (r, c) ∈ pl → c < 4
  p16 : pl.length ≤ 16
  t4 : tall ≤ 4
theorem Bd.sz {tall wide : Nat} {pl : Pl} (b : Bd tall wide pl) : Sz pl tall := ⟨fun r c h => Nat.lt_of_lt_of_le (b.inb _ h).2 b.w4, b.p16, b.t4⟩
def spSeats : Sp := fun vs H Q _ => ∃ (a : Addr) (tall : Nat) (rs : List Addr) (pl : Pl), vs = [.int tall, .ref a] ∧ H a = some (.lst (rs.map V.ref)) ∧ Pts H rs pl ∧ Sz pl tall ∧
  ∀ p H', H p = none → Ex H H' → H' p = some (.dK (kD (seatsOf pl tall))) → Q (.ref p) H'
section
variable {P : Program} {w : World} {K : PySem.W.Frag} {mg : Str → Option Value} {base : Heap} {f : Addr} {fd : FuncData}
theorem free_way_all (F : Fun K "free_way" "free_way" (top 26) f fd) (T : Tx mg) (b : Binds K fd ["places", "row", "seats", "tried"] []) (m : mg "free_way" = some (.ref f)) : ∀ n, ClO P w K mg base "free_way" n ["places", "row", "seats", "tried"] (spFree n)
  | 0 => by
    have no : ∀ vs H Q E, ¬ spFree 0 vs H Q E := fun vs H Q E h => by
      obtain ⟨a, sd, td, row, rs, pl, M, t, rfl, ha, hp, J, _⟩ := h
      have h1 := J.fuel
      have h2 := J.tr.len
      omega
    exact ⟨f, fd, ⟨fun vs H Q E h => absurd h (no vs H Q E), fun A outer s H args us vs Q E _ _ _ _ h => absurd h (no vs H Q _)⟩, b, F.kp, m⟩
  | n + 1 => ⟨f, fd, ok_free_way F T (free_way_all F T b m n), b, F.kp, m⟩
theorem sc_seats_of : FnScope ["tall", "places", "seats", "row", "later"] ["tall", "places"] (defScope (top 27)) := ⟨rfl, rfl, rfl, by decide +kernel, rfl, by decide +kernel, by decide +kernel⟩
theorem ok_seats_of (F : Fun K "seats_of" "seats_of" (top 27) f fd) (T : Tx mg) (C_free_way : ClO P w K mg base "free_way" 5 ["places", "row", "seats", "tried"] (spFree 5)) : FnOk P w K mg base CX0 7 f fd ["tall", "places"] spSeats := by
  have sc := sc_seats_of
  refine F.ok sc (fun vs H Q E h => ?_) (fun cdv A outer s H vs Q E hr h => ?_)
  · obtain ⟨a, tall, _, _, rfl, _⟩ := h; rfl
  obtain ⟨a, tall, rs, pl, rfl, ha, hp, z, q⟩ := h
  have t4 := z.t4
  refine ⟨_, (pss_cons (ps_set (i := 2) sc.nd rfl (Or.inl rfl) pe_dnewK) (pss_cons (ps_for PassesOwn.never rfl (pi_range1 rfl T.b_range (pa_cons (pv 0) pa_nil)) (pg_name (i := 3) sc.nd rfl (Or.inl rfl)) (pss_cons (ps_set (i := 4) sc.nd rfl (Or.inl rfl) (pe_clo C_free_way (hr.mono (by first | decide | omega)) (pa_cons (pv 1) (pa_cons (pv 3) (pa_cons (pv 2) (pa_cons pe_dnewK pa_nil)))))) (pss_one (ps_set (i := 2) sc.nd rfl (Or.inl rfl) (pe_ifExp (pt_cmp (pc_isN (pv 4))) (pv 2) (pv 4)))))) (pss_one (ps_ret (pv 2))))), ?_⟩
  refine fun p hp0 => ?_
  refine ⟨_, rfl, (tall : Int), rfl, by omega, by omega, ?_⟩
  rw [Int.toNat_natCast]
  refine for_range (fun i σ H' => ∃ (sd : Addr) (o3 o4 : Option V), σ = [some (.int tall), some (.ref a), some (.ref sd), o3, o4] ∧ Ex H H' ∧ H sd = none ∧ H' sd = some (.dK (kD (seatsOf pl i)))) ⟨p, _, _, rfl, Ex.new hp0, hp0, upd_same⟩ ?_ ?_
  · rintro i σ H1 hi ⟨sd, o3, o4, rfl, e1, hs0, hs1⟩
    obtain ⟨D, S⟩ := seated z.h4 i
    have new : i ∉ (seatsOf pl i).map (·.2) := fun q => Nat.lt_irrefl _ (S.low i q)
    refine ⟨_, rfl, _, rfl, _, rfl, fun td htd => ?_⟩
    have x2 : Ex H1 (upd H1 td (.dK [])) := Ex.new htd
    have hd2 : upd H1 td (.dK []) td = some (.dK (kT [])) := upd_same
    generalize upd H1 td (.dK []) = H2 at x2 hd2 ⊢
    have e2 := e1.trans x2
    have nst : sd ≠ td := fun q => by rw [q, htd] at hs1; cases hs1
    refine ⟨a, sd, td, i, rs, pl, seatsOf pl i, [], ?_, e2 _ _ ha, hp.up e2, ⟨z.h4, z.p16, S.mat, new, ⟨List.nodup_nil, fun c h => (nomatch h)⟩, Nat.le_refl _⟩, x2 _ _ hs1, hd2, nst, fun v H3 e3 _ hv => ?_⟩
    · show [V.ref a, V.int (0 + (i : Int)), V.ref sd, V.ref td] = _
      rw [Int.zero_add]
    have x3 : Ex H H3 := fun b o h => e3 b o (ne_of_none (e1 b o h) htd) (e2 b o h)
    have hs3 : H3 sd = some (.dK (kD (seatsOf pl i))) := e3 _ _ nst (x2 _ _ hs1)
    have hst := seatsOf_succ (pl := pl) i
    unfold seatStep at hst
    cases er : (fw pl 5 i (seatsOf pl i) []).1 with
    | none =>
      rw [er] at hv hst
      cases (show v = V.non from hv)
      refine ⟨_, rfl, _, rfl, ?_⟩
      refine ⟨_, rfl, ?_⟩
      exact ⟨sd, _, _, rfl, x3, hs0, by rw [hst]; exact hs3⟩
    | some L =>
      rw [er] at hv hst
      obtain ⟨p8, rfl, hp8, hL⟩ := hv
      refine ⟨_, rfl, _, rfl, ?_⟩
      refine ⟨_, rfl, ?_⟩
      exact ⟨p8, _, _, rfl, x3, fresh_back e2 hp8, by rw [hst]; exact hL⟩
  · rintro σ H1 ⟨sd, o3, o4, rfl, e1, hs0, hs1⟩
    exact ⟨_, rfl, q _ _ hs0 e1 hs1⟩
end
end R71

namespace R71
open B71 PySem PySem.Spec PyProof.Rows L2 Evl RZ SrtO

def kOf (H : Hp) (x : V) : Int × Int := match x with
  | .ref t => (match H t with | some (.tup [.int i, .int j]) => (i, j) | _ => (0, 0))
  | _ => (0, 0)
def unR (x : V) : Addr := match x with | .ref t => t | _ => 0
theorem kOf_pt {H : Hp} {r : Addr} {p : Nat × Nat} (h : Pt H r p) : kOf H (.ref r) = ((p.1 : Int), (p.2 : Int)) := by
  have h' : H r = some (.tup [.int (p.1 : Nat), .int (p.2 : Nat)]) := h
  unfold kOf
  simp only [h']
theorem pts_mem {H : Hp} : ∀ {rs : List Addr} {L : List (Nat × Nat)}, Pts H rs L → ∀ x ∈ rs.map V.ref, ∃ (r : Addr) (p : Nat × Nat), x = .ref r ∧ p ∈ L ∧ Pt H r p
  | _, _, .nil, x, h => by simp at h
  | _, _, .cons (a := r) (b := p) q t, x, h => by
    rw [List.map_cons, List.mem_cons] at h
    rcases h with rfl | h
    · exact ⟨r, p, rfl, List.mem_cons_self .., q⟩
    · obtain ⟨r', p', h1, h2, h3⟩ := pts_mem t x h
      exact ⟨r', p', h1, List.mem_cons_of_mem _ h2, h3⟩
theorem paired_maps {α β γ : Type} {F : β → γ → Prop} {f : α → β} {g : α → γ} : ∀ {l : List α}, (∀ x ∈ l, F (f x) (g x)) → Paired F (l.map f) (l.map g)
  | [], _ => .nil
  | x :: l, h => .cons (h x (List.mem_cons_self ..)) (paired_maps fun y hy => h y (List.mem_cons_of_mem _ hy))
theorem map_kn {H : Hp} : ∀ {rs : List Addr} {L : List (Nat × Nat)}, Pts H rs L → (rs.map V.ref).map (fun x => ((kOf H x).1.toNat, (kOf H x).2.toNat)) = L
  | _, _, .nil => rfl
  | _, _, .cons q t => by
    rw [List.map_cons, List.map_cons, map_kn t, kOf_pt q]
    simp
theorem sort_ok {H : Hp} {rs : List Addr} {L : List (Nat × Nat)} (hp : Pts H rs L) : ∀ x ∈ rs.map V.ref, ∃ t, x = V.ref t ∧ H t = some (.tup [.int (kOf H x).1, .int (kOf H x).2]) := fun x hx => by
  obtain ⟨r, p, rfl, _, h⟩ := pts_mem hp x hx
  refine ⟨r, rfl, ?_⟩
  rw [kOf_pt h]
  exact h
theorem sort_is {H : Hp} {rs : List Addr} {L : List (Nat × Nat)} (hp : Pts H rs L) {ys : List V} (hs : Srtd (ltP (kOf H)) ys) (hst : Stb (ltP (kOf H)) ys (rs.map V.ref)) :
    ∃ (rs' : List Addr) (M' : List (Nat × Nat)), ys = rs'.map V.ref ∧ Pts H rs' M' ∧ M'.Perm L ∧ M'.Pairwise fun p q => ¬ lexlt q p := by
  have hm : ∀ x ∈ ys, ∃ (r : Addr) (p : Nat × Nat), x = .ref r ∧ Pt H r p := fun x hx => by
    obtain ⟨r, p, h1, _, h2⟩ := pts_mem hp x (hst.perm.mem_iff.mp hx)
    exact ⟨r, p, h1, h2⟩
  refine ⟨ys.map unR, ys.map fun x => ((kOf H x).1.toNat, (kOf H x).2.toNat), ?_, paired_maps fun x hx => ?_, ?_, ?_⟩
  · rw [List.map_map]
    refine (List.map_id ys).symm.trans (List.map_congr_left fun x hx => ?_)
    obtain ⟨r, p, rfl, _⟩ := hm x hx
    rfl
  · obtain ⟨r, p, rfl, h⟩ := hm x hx
    rw [kOf_pt h]
    simp only [Int.toNat_natCast]
    exact h
  · have := hst.perm.map (fun x => ((kOf H x).1.toNat, (kOf H x).2.toNat))
    rw [map_kn hp] at this
    exact this
  · refine List.pairwise_map.mpr (List.Pairwise.imp_of_mem (fun {x y} hx hy h => ?_) hs)
    obtain ⟨r, p, rfl, h1⟩ := hm x hx
    obtain ⟨r', p', rfl, h2⟩ := hm y hy
    have h' : lexB (kOf H (.ref r')) (kOf H (.ref r)) = false := h
    rw [kOf_pt h1, kOf_pt h2] at h' ⊢
    have := lexB_no.mp h'
    unfold lexlt
    simp at this ⊢
    omega
theorem srt_uniq : ∀ {l m : List (Nat × Nat)}, l.Perm m → l.Pairwise (fun p q => ¬ lexlt q p) → m.Pairwise (fun p q => ¬ lexlt q p) → l = m := by
  intro l
  induction l with
  | nil => intro m h _ _; exact h.nil_eq
  | cons x l ih =>
    intro m h hl hm
    cases m with
    | nil => exact absurd h.length_eq (by simp)
    | cons y m =>
      have e : x = y := by
        have h1 : ¬ lexlt y x := by
          rcases List.mem_cons.mp (h.mem_iff.mpr (List.mem_cons_self (a := y) (l := m))) with e | hy
          · rw [e]; unfold lexlt; omega
          · exact (List.pairwise_cons.mp hl).1 y hy
        have h2 : ¬ lexlt x y := by
          rcases List.mem_cons.mp (h.mem_iff.mp (List.mem_cons_self (a := x) (l := l))) with e | hx
          · rw [e]; unfold lexlt; omega
          · exact (List.pairwise_cons.mp hm).1 x hx
        unfold lexlt at h1 h2
        obtain ⟨x1, x2⟩ := x
        obtain ⟨y1, y2⟩ := y
        simp only at h1 h2
        have e1 : x1 = y1 := by omega
        have e2 : x2 = y2 := by omega
        rw [e1, e2]
      subst e
      rw [ih h.cons_inv (List.pairwise_cons.mp hl).2 (List.pairwise_cons.mp hm).2]
/-- told: the rooks, sorted -/
structure Rk (pl : Pl) (tall : Nat) (M' : Pl) : Prop where
  pm : M'.Perm (flip (seatsOf pl tall))
  so : M'.Pairwise fun p q => ¬ lexlt q p
def spRooksOf : Sp := fun vs H Q _ => ∃ (a : Addr) (tall wide : Nat) (rs : List Addr) (pl : Pl), vs = [.int tall, .int wide, .ref a] ∧ H a = some (.lst (rs.map V.ref)) ∧ Pts H rs pl ∧ Sz pl tall ∧
  ∀ p rs' M' H', H p = none → Ex H H' → H' p = some (.lst (rs'.map V.ref)) → Pts H' rs' M' → Rk pl tall M' → Q (.ref p) H'
def spRooks : Sp := fun vs H Q _ => ∃ (a : Addr) (tall wide : Nat) (rs : List Addr) (pl : Pl), vs = [.int tall, .int wide, .ref a] ∧ SqH H a (rs.map V.ref) ∧ Pts H rs pl ∧ Bd tall wide pl ∧
  ∀ p rs' M' H', H p = none → Ex H H' → H' p = some (.lst (rs'.map V.ref)) → Pts H' rs' M' → Rk pl tall M' → Q (.ref p) H'
theorem pts_flip {H : Hp} : ∀ {ps : List Addr} {d : Dc}, Paired (fun (r : Addr) (y : Nat × Nat) => H r = some (.tup [.int (y.2 : Nat), .int (y.1 : Nat)])) ps d → Pts H ps (flip d)
  | _, _, .nil => .nil
  | _, _, .cons h t => .cons h (pts_flip t)
section
variable {P : Program} {w : World} {K : PySem.W.Frag} {mg : Str → Option Value} {base : Heap} {f : Addr} {fd : FuncData}
theorem sc_rooks_of : FnScope ["tall", "wide", "places", "seats", "column"] ["tall", "wide", "places"] (defScope (top 28)) := ⟨rfl, rfl, rfl, by decide +kernel, rfl, by decide +kernel, by decide +kernel⟩
theorem ok_rooks_of (F : Fun K "rooks_of" "rooks_of" (top 28) f fd) (T : Tx mg) (C_seats_of : ClO P w K mg base "seats_of" 7 ["tall", "places"] spSeats) : FnOk P w K mg base CX0 8 f fd ["tall", "wide", "places"] spRooksOf := by
  have sc := sc_rooks_of
  refine F.ok sc (fun vs H Q E h => ?_) (fun cdv A outer s H vs Q E hr h => ?_)
  · obtain ⟨a, tall, _, _, _, rfl, _⟩ := h; rfl
  obtain ⟨a, tall, wide, rs, pl, rfl, ha, hp, z, q⟩ := h
  obtain ⟨Dd, S⟩ := seated z.h4 tall
  have ml := mat_len z.h4 S.mat
  refine ⟨_, (pss_cons (ps_set (i := 3) sc.nd rfl (Or.inr rfl) (pe_clo C_seats_of (hr.mono (by first | decide | omega)) (pa_cons (pv 0) (pa_cons (pv 2) pa_nil)))) (pss_one (ps_ret (pe_callB cr_sortedPO rfl T.b_sorted bt_sorted (pa_cons (pe_lock (pe_lc (own := [("column", 4)]) (g := (gName 4)) rfl sc.nd (pi_keys (pv 3)) (blkOk_by (N := ["tall", "wide", "places", "seats", "column"]) (sc := defScope ((top 28))) (by decide +kernel)) (fun _ _ _ _ _ => (pg_name (i := 4) sc.nd rfl (Or.inl rfl))) (fun _ _ _ _ _ => pts_nil) (fun _ _ _ _ _ => (pe_tup (pa_cons (pe_dget (u1 hr) (pv 3) (pv 4) (fun _ _ => rfl)) (pa_cons (pv 4) pa_nil)))))) pa_nil))))), ?_⟩
  refine ⟨_, rfl, _, rfl, a, tall, rs, pl, rfl, ha, hp, z, fun sd H1 hs0 e1 hs1 => ?_⟩
  refine ⟨sd, _, hs1, trivial, fun od => ?_⟩
  have hsL : upd H1 sd (.frz od (.dK (kD (seatsOf pl tall)))) sd = some (.frz od (.dK (kD (seatsOf pl tall)))) := upd_same
  refine ⟨_, rfl, sd, od, rfl, .inl ⟨_, hsL, fun D hD => ?_⟩⟩
  refine lcW (walk_keys (kvs := kD (seatsOf pl tall))) (seatsOf pl tall) (by unfold kD; rw [List.length_map]) (by unfold kD; rw [List.length_map]; omega) (fun _ => true) (Tu fun y => [.int (y.2 : Nat), .int (y.1 : Nat)]) Stab.tu hD (fun H4 e4 => e4 _ _ hsL) ?_ ?_
  · rintro i' y x H4 H5 N Gt hy e4 ⟨rfl, kk, vv, hk', rfl⟩ kN kY
    have hk2 : (kk, vv) = (Sum.inl (y.1 : Int), V.int (y.2 : Int)) := by
      unfold kD at hk'
      rw [List.getElem?_map, hy] at hk'
      exact (Option.some.inj hk').symm
    cases hk2
    refine ⟨Ex.refl _, rfl, ?_⟩
    have hv : look (seatsOf pl tall) y.1 = some y.2 := (look_some S.mat.cols).mpr (List.mem_of_getElem? hy)
    refine ⟨_, rfl, _, rfl, sd, _, rfl, .inl ⟨_, .inl (y.1 : Int), .inr ⟨od, e4 _ _ hsL⟩, rfl, by rw [valD, hv]; rfl⟩, _, rfl, (by show 2 ≤ sizeLine; decide), fun r5 hr5 => ?_⟩
    exact kY rfl _ _ (Ex.new hr5) ⟨r5, rfl, upd_same⟩
  · intro acc H4 e4 hD4 hacc
    rw [filter_yes] at hacc
    have xl := ex_lock hs1 e4
    obtain ⟨ps, rfl, lps, hps⟩ := tu_list hacc
    refine ⟨e4 _ _ hsL, ?_⟩
    have nDs : D ≠ sd := fun z => by rw [z, e4 _ _ hsL] at hD4; cases hD4
    have hps' : Paired (fun (r : Addr) (y : Nat × Nat) => upd H4 sd (.dK (kD (seatsOf pl tall))) r = some (.tup [.int (y.2 : Nat), .int (y.1 : Nat)])) ps (seatsOf pl tall) := Paired.mapP hps fun r y h => by
      rw [upd_ne (fun z => by rw [z, e4 _ _ hsL] at h; cases h)]; exact h
    have hD5 : upd H4 sd (.dK (kD (seatsOf pl tall))) D = some (.lst (ps.map V.ref)) := by rw [upd_ne nDs]; exact hD4
    generalize upd H4 sd (.dK (kD (seatsOf pl tall))) = H5 at xl hps' hD5 ⊢
    have hp5 := pts_flip hps'
    have e5 := e1.trans xl
    refine ⟨D, _, kOf H5, rfl, sq_of hD5, sort_ok hp5, fun ys p hsr hst hp0 => ?_⟩
    obtain ⟨rs', M', rfl, hpM, pm, so⟩ := sort_is hp5 hsr hst
    exact q p rs' M' _ (fresh_back e5 hp0) (e5.trans (Ex.new hp0)) upd_same (hpM.up (Ex.new hp0)) ⟨pm, so⟩
theorem sc_rooks : FnScope ["tall", "wide", "places"] ["tall", "wide", "places"] (defScope (top 34)) := ⟨rfl, rfl, rfl, by decide +kernel, rfl, by decide +kernel, by decide +kernel⟩
theorem ok_rooks (F : Fun K "rooks" "rooks" (top 34) f fd) (T : Tx mg) (C_rooks_of : ClO P w K mg base "rooks_of" 8 ["tall", "wide", "places"] spRooksOf) (C_want_places : ClO P w K mg base "want_places" 5 ["tall", "wide", "value"] spWantPlaces) : FnOk P w K mg base CX0 9 f fd ["tall", "wide", "places"] spRooks := by
  have sc := sc_rooks
  refine F.ok sc (fun vs H Q E h => ?_) (fun cdv A outer s H vs Q E hr h => ?_)
  · obtain ⟨a, tall, _, _, _, rfl, _⟩ := h; rfl
  obtain ⟨a, tall, wide, rs, pl, rfl, ha, hp, z, q⟩ := h
  refine ⟨_, (pss_one (ps_ret (pe_clo C_rooks_of (hr.mono (by first | decide | omega)) (pa_cons (pv 0) (pa_cons (pv 1) (pa_cons (pe_clo C_want_places (hr.mono (by first | decide | omega)) (pa_cons (pv 0) (pa_cons (pv 1) (pa_cons (pv 2) pa_nil)))) pa_nil)))))), ?_⟩
  refine ⟨_, rfl, _, rfl, _, rfl, _, rfl, _, rfl, a, tall, wide, rs, pl, rfl, ha, hp, z, fun b H1 hb0 e1 hb1 => ?_⟩
  refine ⟨b, tall, wide, rs, pl, rfl, hb1, hp.up e1, z.sz, fun p rs' M' H2 hp0 e2 h1 h2 h3 => ?_⟩
  exact q p rs' M' H2 (fresh_back e1 hp0) (e1.trans e2) h1 h2 h3
end
end R71

namespace R71
open B71 PySem PySem.Spec PyProof.Rows L2 Evl RZ SrtO

def covGo (pl : Pl) (M : Dc) : Nat → CS → CS
  | 0, s => s
  | k + 1, s => if s.wait = [] then s else covGo pl M k (covStep pl M s)
def cov0 (M : Dc) (tall : Nat) : CS := ⟨(List.range tall).filter fun r => decide (r ∉ M.map (·.2)), [], []⟩
def covOf (pl : Pl) (tall : Nat) : CS := covGo pl (seatsOf pl tall) 9 (cov0 (seatsOf pl tall) tall)
theorem covGo_end {pl : Pl} {M : Dc} {s : CS} (h : s.wait = []) : ∀ k, covGo pl M k s = s
  | 0 => rfl
  | k + 1 => by unfold covGo; rw [if_pos h]
/-- the cover told -/
structure Cv (pl : Pl) (tall : Nat) (R C : List Nat) : Prop where
  r : R = (List.range tall).filter fun r => decide (r ∉ (covOf pl tall).rows)
  pm : C.Perm (covOf pl tall).cols
  so : C.Pairwise (· ≤ ·)
  opt : Opt pl (seatsOf pl tall) R C
  nd : C.Nodup
  lt : ∀ c ∈ C, c < 4
  use : ∀ c ∈ C, ∃ r, (r, c) ∈ pl
def spCoverOf : Sp := fun vs H Q _ => ∃ (a : Addr) (tall wide : Nat) (rs : List Addr) (pl : Pl), vs = [.int tall, .int wide, .ref a] ∧ H a = some (.lst (rs.map V.ref)) ∧ Pts H rs pl ∧ Sz pl tall ∧ (∀ r c, (r, c) ∈ pl → r < tall) ∧
  ∀ (p x y : Addr) R C H', H p = none → H x = none → H y = none → x ≠ y → Ex H H' → H' p = some (.tup [.ref x, .ref y]) → H' x = some (.lst (vI R)) → H' y = some (.lst (vI C)) → Cv pl tall R C → Q (.ref p) H'
theorem putT_any (t : List Nat) (c : Nat) : putK (kT t) (.inl (c : Int)) (.bl true) = kT (addRow t c) := by
  unfold addRow
  by_cases h : c ∈ t
  · rw [if_pos h]
    unfold putK
    have e : ((kT t).any fun kv => decide (kv.1 = (Sum.inl (c : Int) : Key))) = true := by rw [valV_any, valT]; exact decide_eq_true h
    rw [if_pos e]
    unfold kT
    rw [List.map_map]
    refine List.map_congr_left fun x _ => ?_
    show (if (Sum.inl (x : Int) : Key) = Sum.inl (c : Int) then _ else _) = _
    split <;> rfl
  · rw [if_neg h]; exact putT t c h
theorem kD_vals (d : Dc) : (kD d).map (·.2) = (d.map fun p => (p.2 : Int)).map V.int := by
  unfold kD
  rw [List.map_map, List.map_map]
  rfl
theorem addRow_nd {t : List Nat} {c : Nat} (h : t.Nodup) : (addRow t c).Nodup := by
  unfold addRow
  split
  · exact h
  · rename_i q
    rw [List.nodup_append]
    refine ⟨h, by simp, fun a ha b hb e => ?_⟩
    have : b = c := by simpa using hb
    exact q (this ▸ e ▸ ha)
theorem paired_is {f : Nat → Nat} : ∀ {l : List Nat} {acc : List V}, Paired (fun (y : Nat) v => v = V.int ((f y : Nat) : Int)) l acc → acc = vI (l.map f)
  | _, _, .nil => rfl
  | _, _, .cons r t => by rw [List.map_cons, paired_is t, r]; rfl
theorem kT_keys (t : List Nat) : (kT t).map (·.1) = (t.map fun (c : Nat) => (c : Int)).map Sum.inl := by
  unfold kT
  rw [List.map_map, List.map_map]
  rfl
theorem ints_nat {ys : List Int} {l : List Nat} (h : ys.Perm (l.map fun (c : Nat) => (c : Int))) (so : ys.Pairwise (· ≤ ·)) : ∃ C : List Nat, ys.map V.int = vI C ∧ C.Perm l ∧ C.Pairwise (· ≤ ·) := by
  have hm : ∀ y ∈ ys, ∃ c : Nat, y = (c : Int) := fun y hy => by
    obtain ⟨c, _, e⟩ := List.mem_map.mp (h.mem_iff.mp hy)
    exact ⟨c, e.symm⟩
  refine ⟨ys.map Int.toNat, ?_, ?_, ?_⟩
  · unfold vI
    rw [List.map_map]
    refine List.map_congr_left fun y hy => ?_
    obtain ⟨c, rfl⟩ := hm y hy
    simp
  · have := h.map Int.toNat
    rw [List.map_map] at this
    have e : (l.map (Int.toNat ∘ fun (c : Nat) => (c : Int))) = l := by
      refine (List.map_congr_left fun c _ => ?_).trans (List.map_id l)
      simp
    rw [e] at this
    exact this
  · refine List.pairwise_map.mpr (so.imp fun {x y} h => ?_)
    omega
theorem last_at {l : List Nat} (h : l ≠ []) : (vI l)[(vI l).length - 1]? = some (V.int ((l.getLastD 0 : Nat) : Int)) := by
  unfold vI
  rw [List.length_map, List.getElem?_map, List.getLastD_eq_getLast?, List.getLast?_eq_getElem?]
  cases q : l[l.length - 1]? with
  | none => exact absurd (List.getElem?_eq_none_iff.mp q) (by have := List.length_pos_iff.mpr h; omega)
  | some x => simp [q]
section
variable {P : Program} {w : World} {K : PySem.W.Frag} {mg : Str → Option Value} {base : Heap} {f : Addr} {fd : FuncData}
structure CvW (H : Hp) (pl : Pl) (tall : Nat) (D : List Nat) (sd wl rd cd : Addr) (s : CS) (H' : Hp) : Prop where
  ex : Ex H H'
  s0 : H sd = none
  w0 : H wl = none
  r0 : H rd = none
  c0 : H cd = none
  sv : H' sd = some (.dK (kD (seatsOf pl tall)))
  wv : H' wl = some (.lst (vI s.wait))
  rv : H' rd = some (.dK (kT s.rows))
  cv : H' cd = some (.dK (kT s.cols))
  rc : rd ≠ cd
  sr : sd ≠ rd
  scd : sd ≠ cd
theorem CvW.setW {H : Hp} {pl : Pl} {tall : Nat} {D : List Nat} {sd wl rd cd : Addr} {s : CS} {H' : Hp} (W : CvW H pl tall D sd wl rd cd s H') (l : List Nat) : CvW H pl tall D sd wl rd cd ⟨l, s.rows, s.cols⟩ (upd H' wl (.lst (vI l))) := by
  have h1 : rd ≠ wl := fun q => by have := W.rv; rw [q, W.wv] at this; cases this
  have h2 : cd ≠ wl := fun q => by have := W.cv; rw [q, W.wv] at this; cases this
  have h3 : sd ≠ wl := fun q => by have := W.sv; rw [q, W.wv] at this; cases this
  exact ⟨W.ex.mut W.w0, W.s0, W.w0, W.r0, W.c0, by rw [upd_ne h3]; exact W.sv, upd_same, by rw [upd_ne h1]; exact W.rv, by rw [upd_ne h2]; exact W.cv, W.rc, W.sr, W.scd⟩
theorem CvW.setR {H : Hp} {pl : Pl} {tall : Nat} {D : List Nat} {sd wl rd cd : Addr} {s : CS} {H' : Hp} (W : CvW H pl tall D sd wl rd cd s H') (l : List Nat) : CvW H pl tall D sd wl rd cd ⟨s.wait, l, s.cols⟩ (upd H' rd (.dK (kT l))) := by
  have h1 : wl ≠ rd := fun q => by have := W.rv; rw [← q, W.wv] at this; cases this
  exact ⟨W.ex.mut W.r0, W.s0, W.w0, W.r0, W.c0, by rw [upd_ne W.sr]; exact W.sv, by rw [upd_ne h1]; exact W.wv, upd_same, by rw [upd_ne W.rc.symm]; exact W.cv, W.rc, W.sr, W.scd⟩
theorem CvW.setC {H : Hp} {pl : Pl} {tall : Nat} {D : List Nat} {sd wl rd cd : Addr} {s : CS} {H' : Hp} (W : CvW H pl tall D sd wl rd cd s H') (l : List Nat) : CvW H pl tall D sd wl rd cd ⟨s.wait, s.rows, l⟩ (upd H' cd (.dK (kT l))) := by
  have h1 : wl ≠ cd := fun q => by have := W.cv; rw [← q, W.wv] at this; cases this
  exact ⟨W.ex.mut W.c0, W.s0, W.w0, W.r0, W.c0, by rw [upd_ne W.scd]; exact W.sv, by rw [upd_ne h1]; exact W.wv, by rw [upd_ne W.rc]; exact W.rv, upd_same, W.rc, W.sr, W.scd⟩
structure CvI (pl : Pl) (tall : Nat) (D : List Nat) (m : Nat) (s : CS) : Prop where
  j : CovInv pl tall (seatsOf pl tall) D s
  c4 : ∀ c ∈ s.cols, c < 4
  rn : s.rows.Nodup
  mm : covM s = m
  m8 : m ≤ 8
  go : ∃ k, m ≤ k ∧ covOf pl tall = covGo pl (seatsOf pl tall) k s
theorem sc_cover_of : FnScope ["tall", "wide", "places", "seats", "waiting", "rows", "columns", "row", "near", "column"] ["tall", "wide", "places"] (defScope (top 29)) := ⟨rfl, rfl, rfl, by decide +kernel, rfl, by decide +kernel, by decide +kernel⟩
theorem ok_cover_of (F : Fun K "cover_of" "cover_of" (top 29) f fd) (T : Tx mg) (C_seats_of : ClO P w K mg base "seats_of" 7 ["tall", "places"] spSeats) : FnOk P w K mg base CX0 8 f fd ["tall", "wide", "places"] spCoverOf := by
  have sc := sc_cover_of
  refine F.ok sc (fun vs H Q E h => ?_) (fun cdv A outer s H vs Q E hr h => ?_)
  · obtain ⟨a, tall, _, _, _, rfl, _⟩ := h; rfl
  obtain ⟨a, tall, wide, rs, pl, rfl, ha, hp, z, inr, q⟩ := h
  obtain ⟨Dd, S⟩ := seated z.h4 tall
  have ml := mat_len z.h4 S.mat
  have t4 := z.t4
  refine ⟨_, (pss_cons (ps_set (i := 3) sc.nd rfl (Or.inr rfl) (pe_clo C_seats_of (hr.mono (by first | decide | omega)) (pa_cons (pv 0) (pa_cons (pv 2) pa_nil)))) (pss_cons (ps_asg (pe_tup (pa_cons (pe_lc (own := [("row", 7)]) (g := (gName 7)) rfl sc.nd (pi_range1 rfl T.b_range (pa_cons (pv 0) pa_nil)) (blkOk_by (N := ["tall", "wide", "places", "seats", "waiting", "rows", "columns", "row", "near", "column"]) (sc := defScope ((top 29))) (by decide +kernel)) (fun _ _ _ _ _ => (pg_name (i := 7) sc.nd rfl (Or.inl rfl))) (fun _ _ _ _ _ => (pts_one (pt_notVals rfl (pv 7) (pv 3)))) (fun _ _ _ _ _ => (pv 7))) (pa_cons pe_dnewK (pa_cons pe_dnewK pa_nil)))) (pg_tup rfl (pgs_cons (pg_name (i := 4) sc.nd rfl (Or.inl rfl)) (pgs_cons (pg_name (i := 5) sc.nd rfl (Or.inr rfl)) (pgs_cons (pg_name (i := 6) sc.nd rfl (Or.inl rfl)) pgs_nil))))) (pss_cons (ps_while PassesOwn.never (pt_cmpR (op_neD hr.units) (pv 4) (pe_lst pa_nil) (nomark _)) (pss_cons (ps_set (i := 7) sc.nd rfl (Or.inl rfl) (pe_bm0 PySem.F.plainAttrs_list PySem.F.slot_list_pop PySem.F.type_list_pop mt_pop (pv 4))) (pss_cons (ps_dput (u1 hr) (pv 5) (pv 7) pe_bl rfl) (pss_one (ps_for PassesOwn.never rfl (pi_list (pv 2)) (pg_tup rfl (pgs_cons (pg_name (i := 8) sc.nd rfl (Or.inl rfl)) (pgs_cons (pg_name (i := 9) sc.nd rfl (Or.inl rfl)) pgs_nil))) (pss_one (ps_if (PW.pt (pw_and (pt_cmpR op_eq (pv 8) (pv 7) (nomark _)) (pw_and1 (pt_cmp (pc_dnotin (u1 hr) (pv 9) (pv 6)))))) (pss_cons (ps_dput (u1 hr) (pv 6) (pv 9) pe_bl rfl) (pss_one (ps_if (PW.pt (pw_and (pt_cmp (pc_din (u1 hr) (pv 9) (pv 3))) (pw_and1 (pt_cmp (pc_dnotin (u1 hr) (pe_dget (u1 hr) (pv 3) (pv 9) (fun _ _ => rfl)) (pv 5)))))) (pss_one (ps_expr (pe_bm PySem.F.plainAttrs_list PySem.F.slot_list_append PySem.F.type_list_append mt_append (pv 4) (pa_cons (pe_dget (u1 hr) (pv 3) (pv 9) (fun _ _ => rfl)) pa_nil)))) pss_nil))) pss_nil))))))) (pss_one (ps_ret (pe_tup (pa_cons (pe_lc (own := [("row", 7)]) (g := (gName 7)) rfl sc.nd (pi_range1 rfl T.b_range (pa_cons (pv 0) pa_nil)) (blkOk_by (N := ["tall", "wide", "places", "seats", "waiting", "rows", "columns", "row", "near", "column"]) (sc := defScope ((top 29))) (by decide +kernel)) (fun _ _ _ _ _ => (pg_name (i := 7) sc.nd rfl (Or.inl rfl))) (fun _ _ _ _ _ => (pts_one (pt_cmp (pc_dnotin (u1 hr) (pv 7) (pv 5))))) (fun _ _ _ _ _ => (pv 7))) (pa_cons (pe_callB (call_sortedDI rfl) rfl T.b_sorted bt_sorted (pa_cons (pv 6) pa_nil)) pa_nil)))))))), ?_⟩
  refine ⟨_, rfl, _, rfl, a, tall, rs, pl, rfl, ha, hp, z, fun sd H1 hs0 e1 hs1 => ?_⟩
  refine ⟨_, rfl, (tall : Int), rfl, by omega, by omega, fun wl hwl => ?_⟩
  rw [Int.toNat_natCast]
  refine lcW (walk_range (lo := 0) (n := tall)) (List.range tall) (by simp) (by omega) (fun r => decide (r ∉ (seatsOf pl tall).map (·.2))) (fun (y : Nat) v _ => v = .int ((id y : Nat) : Int)) ⟨fun _ _ _ _ _ h => h, fun _ _ _ _ _ _ _ h => h⟩ hwl (fun _ _ => trivial) ?_ ?_
  · rintro i y x H4 H5 N Gt hy e4 ⟨rfl, rfl⟩ kN kY
    have hyi : i = y := by
      have := (List.getElem?_eq_some_iff.mp hy).2
      simpa using this
    subst hyi
    refine ⟨Ex.refl _, rfl, ?_⟩
    refine ⟨_, rfl, _, rfl, (i : Int), sd, _, _, congrArg V.int (Int.zero_add _), rfl, e4 _ _ hs1, kD_vals _, ?_⟩
    have em : decide ((i : Int) ∈ (seatsOf pl tall).map fun p => (p.2 : Int)) = decide (i ∈ (seatsOf pl tall).map (·.2)) := decide_eq_decide.mpr (by
      rw [List.mem_map, List.mem_map]
      exact ⟨fun ⟨p, h1, h2⟩ => ⟨p, h1, by omega⟩, fun ⟨p, h1, h2⟩ => ⟨p, h1, by omega⟩⟩)
    rw [em]
    refine ite2 (fun g => ?_) (fun g => ?_)
    · have g' : i ∉ (seatsOf pl tall).map (·.2) := by simpa using g
      exact ⟨_, rfl, kY (decide_eq_true g') _ _ (Ex.refl _) (congrArg V.int (Int.zero_add _))⟩
    · exact kN (by simpa using g) _ (Ex.refl _)
  · intro acc H4 e4 hwl4 hacc
    have ha4 := paired_is hacc
    rw [List.map_id] at ha4
    subst ha4
    refine fun rd hrd cd hcd => ⟨(by show 3 ≤ sizeLine; decide), fun tp htp => ?_⟩
    have nwr : wl ≠ rd := fun q => by rw [q, hrd] at hwl4; cases hwl4
    have xr : Ex H4 (upd H4 rd (.dK [])) := Ex.new hrd
    have nwc : wl ≠ cd := fun q => by rw [q] at hwl4; rw [xr _ _ hwl4] at hcd; cases hcd
    have nrc : rd ≠ cd := fun q => by rw [← q, upd_same] at hcd; cases hcd
    have x5 : Ex H4 (upd (upd (upd H4 rd (.dK [])) cd (.dK [])) tp (.tup [.ref wl, .ref rd, .ref cd])) := xr.trans ((Ex.new hcd).trans (Ex.new htp))
    have hr5 : upd (upd (upd H4 rd (.dK [])) cd (.dK [])) tp (.tup [.ref wl, .ref rd, .ref cd]) rd = some (.dK (kT [])) := ((Ex.new hcd).trans (Ex.new htp)) _ _ upd_same
    have hc5 : upd (upd (upd H4 rd (.dK [])) cd (.dK [])) tp (.tup [.ref wl, .ref rd, .ref cd]) cd = some (.dK (kT [])) := (Ex.new htp) _ _ upd_same
    refine ⟨tp, _, rfl, st_of upd_same, rfl, _, _, rfl, _, _, rfl, _, _, rfl, rfl, ?_⟩
    generalize upd (upd (upd H4 rd (.dK [])) cd (.dK [])) tp (.tup [.ref wl, .ref rd, .ref cd]) = H5 at x5 hr5 hc5 ⊢
    have hs4 := e4 _ _ hs1
    have hrd4 : H rd = none := fresh_back (e1.trans e4) hrd
    have hcd4 : H cd = none := fresh_back (e1.trans (e4.trans xr)) hcd
    have nsr : sd ≠ rd := fun q => by rw [q, hrd] at hs4; cases hs4
    have nsc : sd ≠ cd := fun q => by rw [q] at hs4; rw [xr _ _ hs4] at hcd; cases hcd
    refine ⟨fun m σ H' => ∃ (s : CS) (o7 o8 o9 : Option V), σ = [some (.int tall), some (.int wide), some (.ref a), some (.ref sd), some (.ref wl), some (.ref rd), some (.ref cd), o7, o8, o9] ∧ CvW H pl tall Dd sd wl rd cd s H' ∧ CvI pl tall Dd m s,
      ⟨covM (cov0 (seatsOf pl tall) tall), cov0 (seatsOf pl tall) tall, _, _, _, rfl, ⟨(e1.trans e4).trans x5, hs0, fresh_back e1 hwl, hrd4, hcd4, x5 _ _ hs4, x5 _ _ hwl4, hr5, hc5, nrc, nsr, nsc⟩,
        ⟨cov_start S, fun c h => (nomatch h), List.nodup_nil, rfl, ?_, 9, ?_, rfl⟩⟩, ?_⟩
    · unfold covM cov0
      have := List.length_filter_le (fun r => decide (r ∉ (seatsOf pl tall).map (·.2))) (List.range tall)
      simp at this ⊢
      omega
    · unfold covM cov0
      have := List.length_filter_le (fun r => decide (r ∉ (seatsOf pl tall).map (·.2))) (List.range tall)
      simp at this ⊢
      omega
    rintro m σ H6 ⟨s6, o7, o8, o9, rfl, W, J⟩
    refine ⟨_, rfl, (Nat.zero_le _), fun np hnp => ?_⟩
    refine ⟨_, _, dp_il (Ex.new hnp _ _ W.wv), dp_il (l := []) upd_same, is_sh _, is_sh _, _, rfl, ?_⟩
    rw [is_eqv]
    have x7 : Ex H6 (upd H6 np (.lst [])) := Ex.new hnp
    generalize upd H6 np (.lst []) = H7 at x7 ⊢
    have W7 : CvW H pl tall Dd sd wl rd cd s6 H7 := ⟨W.ex.trans x7, W.s0, W.w0, W.r0, W.c0, x7 _ _ W.sv, x7 _ _ W.wv, x7 _ _ W.rv, x7 _ _ W.cv, W.rc, W.sr, W.scd⟩
    refine ite2 (fun g => ?_) (fun g => ?_)
    · have hw : s6.wait ≠ [] := by simpa using g
      have rl6 : s6.rows.length ≤ 4 := by
        have := nodup_le (m := List.range tall) J.rn fun r hr => List.mem_range.mpr (J.j.why r (.inr hr)).1
        simp at this
        omega
      have wl8 : s6.wait.length ≤ 8 := by
        have h1 := J.mm
        have h2 := J.m8
        unfold covM at h1
        omega
      have J' := step_inv S J.j hw
      have hdl : (vI s6.wait).dropLast = vI s6.wait.dropLast := by unfold vI; rw [List.map_dropLast]
      refine ⟨fun σ' H' => ∃ m', m' < m ∧ ∃ (s : CS) (o7 o8 o9 : Option V), σ' = [some (.int tall), some (.int wide), some (.ref a), some (.ref sd), some (.ref wl), some (.ref rd), some (.ref cd), o7, o8, o9] ∧ CvW H pl tall Dd sd wl rd cd s H' ∧ CvI pl tall Dd m' s, fun σ' H' h => h, ?_⟩
      refine ⟨_, rfl, .inl ⟨rfl, _, SqL.of W7.wv⟩, wl, _, _, rfl, rfl, W7.wv, last_at hw, ?_⟩
      rw [hdl]
      have W8 := W7.setW s6.wait.dropLast
      generalize upd H7 wl (.lst (vI s6.wait.dropLast)) = H8 at W8 ⊢
      refine ⟨_, rfl, _, rfl, rd, _, rfl, DPut.k (k := .inl ((s6.wait.getLastD 0 : Nat) : Int)) W8.rv (by unfold kT; rw [List.length_map]; exact small1000 (by show s6.rows.length ≤ 1000; omega)), ?_⟩
      rw [putT_any]
      have W9 := W8.setR (addRow s6.rows (s6.wait.getLastD 0))
      generalize upd H8 rd (.dK (kT (addRow s6.rows (s6.wait.getLastD 0)))) = H9 at W9 ⊢
      have turns : ∀ i, ((pl.take i).foldl (covTurn (seatsOf pl tall) (addRow s6.rows (s6.wait.getLastD 0)) (s6.wait.getLastD 0)) (s6.wait.dropLast, s6.cols)).2.Nodup ∧
          (∀ c ∈ ((pl.take i).foldl (covTurn (seatsOf pl tall) (addRow s6.rows (s6.wait.getLastD 0)) (s6.wait.getLastD 0)) (s6.wait.dropLast, s6.cols)).2, c < 4) ∧ _ := fun i =>
        turns_m (M := seatsOf pl tall) (rows := addRow s6.rows (s6.wait.getLastD 0)) (row := s6.wait.getLastD 0) (pl.take i) (s6.wait.dropLast, s6.cols) (fun p q => z.h4 p.1 p.2 (List.mem_of_mem_take q)) J.j.nd J.c4
      refine ⟨_, rfl, a, rfl, ⟨_, sq_of (W9.ex _ _ ha)⟩, for_list (K := K) (a := a) (xs := rs.map V.ref) (fun i σ H' => ∃ (o8 o9 : Option V), σ = [some (.int tall), some (.int wide), some (.ref a), some (.ref sd), some (.ref wl), some (.ref rd), some (.ref cd), some (.int ((s6.wait.getLastD 0 : Nat) : Int)), o8, o9] ∧
          CvW H pl tall Dd sd wl rd cd ⟨((pl.take i).foldl (covTurn (seatsOf pl tall) (addRow s6.rows (s6.wait.getLastD 0)) (s6.wait.getLastD 0)) (s6.wait.dropLast, s6.cols)).1, addRow s6.rows (s6.wait.getLastD 0), ((pl.take i).foldl (covTurn (seatsOf pl tall) (addRow s6.rows (s6.wait.getLastD 0)) (s6.wait.getLastD 0)) (s6.wait.dropLast, s6.cols)).2⟩ H')
        ⟨_, _, rfl, W9⟩ (fun i σ H' _ ⟨_, _, _, W⟩ => sq_of (W.ex _ _ ha)) ?_ ?_⟩
      · rintro i x σ Ha hx ⟨o8, o9, rfl, Wa⟩
        have hpa := hp.up Wa.ex
        obtain ⟨r, ⟨k, c⟩, rfl, hk, hr1⟩ := pts_at hpa hx
        have hi : i < pl.length := (List.getElem?_eq_some_iff.mp hk).1
        have htk : pl.take (i + 1) = pl.take i ++ [(k, c)] := by rw [List.take_add_one, hk]; rfl
        have tn := turns i
        rw [htk, List.foldl_append]
        generalize (pl.take i).foldl (covTurn (seatsOf pl tall) (addRow s6.rows (s6.wait.getLastD 0)) (s6.wait.getLastD 0)) (s6.wait.dropLast, s6.cols) = st at Wa tn ⊢
        obtain ⟨wt, ct⟩ := st
        simp only [List.foldl_cons, List.foldl_nil] at Wa tn ⊢
        have tl4 : ct.length ≤ 4 := (Tr.mk tn.1 tn.2.1).len
        have wt12 : wt.length ≤ 12 := by
          have h1 := tn.2.2
          have h2 : s6.wait.dropLast.length = s6.wait.length - 1 := List.length_dropLast
          omega
        refine ⟨r, _, rfl, st_of hr1, rfl, _, _, rfl, _, _, rfl, rfl, ?_⟩
        refine ⟨_, rfl, _, rfl, rfl, _, rfl, ?_⟩
        have skip : ¬ (k = s6.wait.getLastD 0 ∧ c ∉ ct) → covTurn (seatsOf pl tall) (addRow s6.rows (s6.wait.getLastD 0)) (s6.wait.getLastD 0) (wt, ct) (k, c) = (wt, ct) := fun g => by unfold covTurn; rw [if_neg g]
        refine ite2 (fun g1 => ?_) (fun g1 => ?_)
        · have g1' : k = s6.wait.getLastD 0 := by
            have := of_decide_eq_true g1
            injection this with this
            omega
          refine ⟨_, rfl, _, rfl, cd, _, rfl, DGet.k (k := .inl (c : Int)) Wa.cv, ?_⟩
          rw [valT]
          refine ⟨_, rfl, ?_⟩
          refine ite2 (fun g2 => ?_) (fun g2 => ?_)
          · have g2' : c ∉ ct := by simpa using g2
            refine ⟨_, rfl, _, rfl, cd, _, rfl, DPut.k (k := .inl (c : Int)) Wa.cv (by unfold kT; rw [List.length_map]; exact small1000 (by show ct.length ≤ 1000; omega)), ?_⟩
            rw [putT ct c g2']
            have Wb := Wa.setC (ct ++ [c])
            generalize upd Ha cd (.dK (kT (ct ++ [c]))) = Hb at Wb ⊢
            refine ⟨_, rfl, _, rfl, sd, _, rfl, DGet.k (k := .inl (c : Int)) Wb.sv, ?_⟩
            rw [valD]
            refine ⟨_, rfl, ?_⟩
            cases e : look (seatsOf pl tall) c with
            | none =>
              have ect : covTurn (seatsOf pl tall) (addRow s6.rows (s6.wait.getLastD 0)) (s6.wait.getLastD 0) (wt, ct) (k, c) = (wt, ct ++ [c]) := by unfold covTurn; rw [if_pos ⟨g1', g2'⟩]; simp only [e]
              rw [ect]
              exact ⟨_, _, rfl, Wb⟩
            | some r2 =>
              refine ⟨_, rfl, _, rfl, sd, V.int (r2 : Int), rfl, .inl ⟨_, .inl (c : Int), .inl Wb.sv, rfl, by rw [valD, e]; rfl⟩, ?_⟩
              refine ⟨_, rfl, rd, _, rfl, DGet.k (k := .inl (r2 : Int)) Wb.rv, ?_⟩
              rw [valT]
              refine ⟨_, rfl, ?_⟩
              refine ite2 (fun g3 => ?_) (fun g3 => ?_)
              · have g3' : r2 ∉ addRow s6.rows (s6.wait.getLastD 0) := by simpa using g3
                have ect : covTurn (seatsOf pl tall) (addRow s6.rows (s6.wait.getLastD 0)) (s6.wait.getLastD 0) (wt, ct) (k, c) = (wt ++ [r2], ct ++ [c]) := by unfold covTurn; rw [if_pos ⟨g1', g2'⟩]; simp only [e]; rw [if_pos g3']
                rw [ect]
                refine ⟨_, rfl, .inl ⟨rfl, _, SqL.of Wb.wv⟩, _, rfl, _, rfl, sd, V.int (r2 : Int), rfl, .inl ⟨_, .inl (c : Int), .inl Wb.sv, rfl, by rw [valD, e]; rfl⟩, wl, _, _, rfl, rfl, Wb.wv, (by rw [vI_len]; exact small1000 (by show wt.length ≤ 1000; omega)), ?_⟩
                have ev : vI wt ++ [V.int (r2 : Int)] = vI (wt ++ [r2]) := by unfold vI; rw [List.map_append]; rfl
                rw [ev]
                exact ⟨_, _, rfl, Wb.setW (wt ++ [r2])⟩
              · have g3' : ¬ r2 ∉ addRow s6.rows (s6.wait.getLastD 0) := by simpa using g3
                have ect : covTurn (seatsOf pl tall) (addRow s6.rows (s6.wait.getLastD 0)) (s6.wait.getLastD 0) (wt, ct) (k, c) = (wt, ct ++ [c]) := by unfold covTurn; rw [if_pos ⟨g1', g2'⟩]; simp only [e]; rw [if_neg g3']
                rw [ect]
                exact ⟨_, _, rfl, Wb⟩
          · rw [skip (fun z => g2 (by simpa using z.2))]
            exact ⟨_, _, rfl, Wa⟩
        · rw [skip (fun z => g1 (by rw [z.1]; simp))]
          exact ⟨_, _, rfl, Wa⟩
      · rintro σ Ha ⟨o8, o9, rfl, Wa⟩
        have hall : pl.take (rs.map V.ref).length = pl := List.take_of_length_le (by rw [List.length_map, hp.len]; exact Nat.le_refl _)
        have tn := turns (rs.map V.ref).length
        rw [hall] at Wa tn
        have lt := step_m (M := seatsOf pl tall) z.h4 J.j.nd J.c4 hw
        refine ⟨covM (covStep pl (seatsOf pl tall) s6), by have := J.mm; omega, covStep pl (seatsOf pl tall) s6, _, _, _, rfl, Wa, ⟨J', tn.2.1, addRow_nd J.rn, rfl, by have := J.mm; have := J.m8; omega, ?_⟩⟩
        obtain ⟨k, hk, e⟩ := J.go
        cases k with
        | zero => have := J.mm; omega
        | succ k =>
          refine ⟨k, by have := J.mm; omega, ?_⟩
          rw [e]
          show (if s6.wait = [] then s6 else _) = _
          rw [if_neg hw]
    · have hw : s6.wait = [] := by simpa using g
      have efin : covOf pl tall = s6 := by
        obtain ⟨k, _, e⟩ := J.go
        rw [e, covGo_end hw]
      refine ⟨_, rfl, (tall : Int), rfl, by omega, by omega, fun xl hxl => ?_⟩
      rw [Int.toNat_natCast]
      refine lcW (walk_range (lo := 0) (n := tall)) (List.range tall) (by simp) (by omega) (fun r => decide (r ∉ s6.rows)) (fun (y : Nat) v _ => v = .int ((id y : Nat) : Int)) ⟨fun _ _ _ _ _ h => h, fun _ _ _ _ _ _ _ h => h⟩ hxl (fun _ _ => trivial) ?_ ?_
      · rintro i y x Ha Hb N Gt hy ea ⟨rfl, rfl⟩ kN kY
        have hyi : i = y := by
          have := (List.getElem?_eq_some_iff.mp hy).2
          simpa using this
        subst hyi
        refine ⟨Ex.refl _, rfl, ?_⟩
        refine ⟨_, rfl, _, rfl, rd, (valV (kT s6.rows) (.inl (i : Int))), rfl, .inl ⟨_, .inl (i : Int), .inl (ea _ _ W7.rv), congrArg V.int (Int.zero_add _), rfl⟩, ?_⟩
        rw [valT]
        refine ⟨_, rfl, ?_⟩
        refine ite2 (fun g => ?_) (fun g => ?_)
        · have g' : i ∉ s6.rows := by simpa using g
          exact ⟨_, rfl, kY (decide_eq_true g') _ _ (Ex.refl _) (congrArg V.int (Int.zero_add _))⟩
        · exact kN (by simpa using g) _ (Ex.refl _)
      · intro acc Ha ea hxa hacc
        have haa := paired_is hacc
        rw [List.map_id] at haa
        subst haa
        refine ⟨_, rfl, cd, _, s6.cols.map (fun (c : Nat) => (c : Int)), rfl, .inl (ea _ _ W7.cv), kT_keys _, ?_, fun ys yl hpm hso hyl => ?_⟩
        · rw [List.length_map]
          have := (Tr.mk J.j.nd J.c4).len
          omega
        obtain ⟨C, hC, pm, so⟩ := ints_nat hpm hso
        rw [hC]
        have x8 : Ex Ha (upd Ha yl (.lst (vI C))) := Ex.new hyl
        have hy8 : upd Ha yl (.lst (vI C)) yl = some (.lst (vI C)) := upd_same
        generalize upd Ha yl (.lst (vI C)) = Hc at x8 hy8 ⊢
        refine ⟨(by show 2 ≤ sizeLine; decide), fun tq htq => ?_⟩
        have nxy : xl ≠ yl := fun q => by rw [← q, hxa] at hyl; cases hyl
        have ec := W7.ex.trans (ea.trans x8)
        refine q tq xl yl _ C _ (fresh_back ec htq) (fresh_back W7.ex hxl) (fresh_back (W7.ex.trans ea) hyl) nxy (ec.trans (Ex.new htq)) upd_same ((Ex.new htq) _ _ (x8 _ _ hxa)) ((Ex.new htq) _ _ hy8) ⟨by rw [efin], by rw [efin]; exact pm, so, ?_, ?_, ?_, ?_⟩
        · have o := cov_end S inr J.j hw
          exact ⟨o.mat, fun r c h => (o.cov r c h).imp id fun h => pm.mem_iff.mpr h, by rw [pm.length_eq]; exact o.size⟩
        · exact pm.nodup_iff.mpr J.j.nd
        · exact fun c hc => J.c4 c (pm.mem_iff.mp hc)
        · intro c hc
          obtain ⟨r, hr, _⟩ := S.shut c (J.j.seat c (pm.mem_iff.mp hc)).1
          exact ⟨r, S.mat.on c r (look_mem hr)⟩
end
end R71

namespace R71
open B71 PySem PySem.Spec PyProof.Rows L2 Evl RZ SrtO

def spCover : Sp := fun vs H Q _ => ∃ (a : Addr) (tall wide : Nat) (rs : List Addr) (pl : Pl), vs = [.int tall, .int wide, .ref a] ∧ SqH H a (rs.map V.ref) ∧ Pts H rs pl ∧ Bd tall wide pl ∧
  ∀ (p x y : Addr) R C H', H p = none → H x = none → H y = none → x ≠ y → Ex H H' → H' p = some (.tup [.ref x, .ref y]) → H' x = some (.lst (vI R)) → H' y = some (.lst (vI C)) → Cv pl tall R C → Q (.ref p) H'
def spUnlike : Sp := fun vs H Q _ => ∃ (a : Addr) (most : Nat) (L : List Nat), vs = [.ref a, .int most] ∧ H a = some (.lst (vI L)) ∧ L.length ≤ 16 ∧ L.Nodup ∧ (∀ x ∈ L, x < most) ∧ RetV (.bl true) H Q
def spPlace2 : Sp := fun vs H Q _ => ∃ (r : Addr) (p : Nat × Nat), vs = [.ref r] ∧ Pt H r p ∧ RetV (.bl true) H Q
def spSpare : Sp := fun vs H Q _ => ∃ (a : Addr) (rs : List Addr) (L : Pl), vs = [.ref a] ∧ H a = some (.lst (rs.map V.ref)) ∧ Pts H rs L ∧ L.length ≤ 16 ∧ (L.map (·.1)).Nodup ∧ (L.map (·.2)).Nodup ∧ RetV (.bl true) H Q
theorem mergeT : ∀ (l acc : List Nat), mergeK (kT acc) (kT l) = kT (l.foldl addRow acc)
  | [], acc => rfl
  | c :: l, acc => by
    unfold mergeK
    show List.foldl _ (putK (kT acc) (.inl (c : Int)) (.bl true)) (kT l) = _
    rw [putT_any]
    exact mergeT l (addRow acc c)
theorem fold_nd : ∀ (l acc : List Nat), (acc ++ l).Nodup → l.foldl addRow acc = acc ++ l
  | [], acc, _ => by rw [List.append_nil]; rfl
  | c :: l, acc, h => by
    have hc : c ∉ acc := fun q => by
      rw [List.nodup_append] at h
      exact h.2.2 c q c (List.mem_cons_self ..) rfl
    rw [List.foldl_cons]
    have e : addRow acc c = acc ++ [c] := by unfold addRow; rw [if_neg hc]
    rw [e, fold_nd l (acc ++ [c]) (by rw [List.append_assoc]; exact h), List.append_assoc]
    rfl
theorem mergeT_nd {l : List Nat} (h : l.Nodup) : mergeK [] (kT l) = kT l := by
  have := mergeT l []
  rw [fold_nd l [] (by simpa using h)] at this
  exact this
theorem kT_len (l : List Nat) : (kT l).length = l.length := List.length_map _
theorem pairs_T {K : PySem.W.Frag} {H : Hp} {α : Type} {g : α → Nat} : ∀ {rs : List Addr} {l : List α}, Paired (fun (r : Addr) (y : α) => H r = some (.tup [.int (g y : Nat), .bl true])) rs l → Paired (fun p (kv : Key × V) => SqT K H p [kV kv.1, kv.2]) rs (kT (l.map g))
  | _, _, .nil => .nil
  | _, _, .cons h t => .cons (st_of h) (pairs_T t)
section
variable {P : Program} {w : World} {K : PySem.W.Frag} {mg : Str → Option Value} {base : Heap} {f : Addr} {fd : FuncData}
theorem sc_cover : FnScope ["tall", "wide", "places"] ["tall", "wide", "places"] (defScope (top 35)) := ⟨rfl, rfl, rfl, by decide +kernel, rfl, by decide +kernel, by decide +kernel⟩
theorem ok_cover (F : Fun K "cover" "cover" (top 35) f fd) (T : Tx mg) (C_cover_of : ClO P w K mg base "cover_of" 8 ["tall", "wide", "places"] spCoverOf) (C_want_places : ClO P w K mg base "want_places" 5 ["tall", "wide", "value"] spWantPlaces) : FnOk P w K mg base CX0 9 f fd ["tall", "wide", "places"] spCover := by
  have sc := sc_cover
  refine F.ok sc (fun vs H Q E h => ?_) (fun cdv A outer s H vs Q E hr h => ?_)
  · obtain ⟨a, tall, _, _, _, rfl, _⟩ := h; rfl
  obtain ⟨a, tall, wide, rs, pl, rfl, ha, hp, z, q⟩ := h
  refine ⟨_, (pss_one (ps_ret (pe_clo C_cover_of (hr.mono (by first | decide | omega)) (pa_cons (pv 0) (pa_cons (pv 1) (pa_cons (pe_clo C_want_places (hr.mono (by first | decide | omega)) (pa_cons (pv 0) (pa_cons (pv 1) (pa_cons (pv 2) pa_nil)))) pa_nil)))))), ?_⟩
  refine ⟨_, rfl, _, rfl, _, rfl, _, rfl, _, rfl, a, tall, wide, rs, pl, rfl, ha, hp, z, fun b H1 hb0 e1 hb1 => ?_⟩
  refine ⟨b, tall, wide, rs, pl, rfl, hb1, hp.up e1, z.sz, fun r c h => (z.inb _ h).1, fun p x y R C H2 hp0 hx0 hy0 nxy e2 h1 h2 h3 h4 => ?_⟩
  exact q p x y R C H2 (fresh_back e1 hp0) (fresh_back e1 hx0) (fresh_back e1 hy0) nxy (e1.trans e2) h1 h2 h3 h4
theorem sc_unlike_counts : FnScope ["value", "most", "number"] ["value", "most"] (defScope (top 30)) := ⟨rfl, rfl, rfl, by decide +kernel, rfl, by decide +kernel, by decide +kernel⟩
theorem ok_unlike_counts (F : Fun K "unlike_counts" "unlike_counts" (top 30) f fd) (T : Tx mg) (C_is_list : ClO P w K mg base "is_list" 1 ["value"] spList) (C_is_count : ClO P w K mg base "is_count" 2 ["value"] spCount) : FnOk P w K mg base CX0 3 f fd ["value", "most"] spUnlike := by
  have sc := sc_unlike_counts
  refine F.ok sc (fun vs H Q E h => ?_) (fun cdv A outer s H vs Q E hr h => ?_)
  · obtain ⟨a, most, _, rfl, _⟩ := h; rfl
  obtain ⟨a, most, L, rfl, ha, l16, nd, lt, q⟩ := h
  refine ⟨_, (pss_cons (ps_if (PW.pt (pw_or (pt_not (pt_val (pe_clo C_is_list (hr.mono (by first | decide | omega)) (pa_cons (pv 0) pa_nil)))) (pw_or1 (pt_not (pt_val (pe_callB (cr_all rfl) rfl T.b_all bt_all (pa_cons (pe_lc (own := [("number", 2)]) (g := (gName 2)) rfl sc.nd (pi_list (pv 0)) (blkOk_by (N := ["value", "most", "number"]) (sc := defScope ((top 30))) (by decide +kernel)) (fun _ _ _ _ _ => (pg_name (i := 2) sc.nd rfl (Or.inl rfl))) (fun _ _ _ _ _ => pts_nil) (fun _ _ _ _ _ => (pe_and (pe_clo C_is_count (hr.mono (by first | decide | omega)) (pa_cons (pv 2) pa_nil)) (pe_one (pe_cmpR op_lt (pv 2) (pv 1) (nomark _)))))) pa_nil))))))) (pss_one (ps_ret pe_bl)) pss_nil) (pss_one (ps_ret (pe_cmpR op_eq (pe_callB call_lenD rfl T.b_len bt_len (pa_cons (pe_callTy (call_dictP rfl) rfl T.b_dict bt_dict (pa_cons (pe_lc (own := [("number", 2)]) (g := (gName 2)) rfl sc.nd (pi_list (pv 0)) (blkOk_by (N := ["value", "most", "number"]) (sc := defScope ((top 30))) (by decide +kernel)) (fun _ _ _ _ _ => (pg_name (i := 2) sc.nd rfl (Or.inl rfl))) (fun _ _ _ _ _ => pts_nil) (fun _ _ _ _ _ => (pe_tup (pa_cons (pv 2) (pa_cons pe_bl pa_nil))))) pa_nil)) pa_nil)) (pe_callB call_len_seq rfl T.b_len bt_len (pa_cons (pv 0) pa_nil)) (nomark _))))), ?_⟩
  refine ⟨_, rfl, a, _, rfl, .inl ha, fun H1 e1 => ⟨_, rfl, ?_⟩⟩
  refine ⟨_, rfl, a, rfl, ⟨_, sq_of (e1 _ _ ha)⟩, fun D hD => ?_⟩
  refine lcW (walk_list (K := K) (a := a) (xs := vI L)) L (vI_len L) (by rw [vI_len]; omega) (fun _ => true) (fun (y : Nat) v _ => v = .bl (decide ((y : Int) < most))) Stab.bl hD (fun H4 e4 => sq_of (e4 _ _ (e1 _ _ ha))) ?_ ?_
  · rintro i y x H4 H5 N Gt hy e4 ⟨rfl, hx⟩ _ k
    unfold vI at hx
    rw [List.getElem?_map, hy] at hx
    cases hx
    refine ⟨Ex.refl _, rfl, ?_⟩
    refine ⟨_, rfl, (y : Int), rfl, fun H6 e6 => ⟨_, rfl, ?_⟩⟩
    rw [decide_eq_true (by omega : (0 : Int) ≤ (y : Int))]
    refine ⟨_, rfl, _, rfl, _, _, rfl, rfl, ?_⟩
    exact k rfl _ _ e6 rfl
  · intro acc H4 e4 hD4 hacc
    rw [filter_yes] at hacc
    have hac := paired_bl hacc
    refine ⟨D, _, rfl, sq_of (hac ▸ hD4), _, rfl, ?_⟩
    rw [all_true (fun b hb' => by obtain ⟨y, hy, rfl⟩ := List.mem_map.mp hb'; exact decide_eq_true (by have := lt y hy; omega))]
    have e04 := e1.trans e4
    refine ⟨_, rfl, a, rfl, ⟨_, sq_of (e04 _ _ ha)⟩, fun D2 hD2 => ?_⟩
    refine lcW (walk_list (K := K) (a := a) (xs := vI L)) L (vI_len L) (by rw [vI_len]; omega) (fun _ => true) (Tu fun (y : Nat) => [.int (y : Nat), .bl true]) Stab.tu hD2 (fun H5 e5 => sq_of (e5 _ _ (e04 _ _ ha))) ?_ ?_
    · rintro i y x H6 H5 N Gt hy e6 ⟨rfl, hx⟩ _ k
      unfold vI at hx
      rw [List.getElem?_map, hy] at hx
      cases hx
      refine ⟨Ex.refl _, rfl, ?_⟩
      refine ⟨_, rfl, (by show 2 ≤ sizeLine; decide), fun r hr5 => ?_⟩
      exact k rfl _ _ (Ex.new hr5) ⟨r, rfl, upd_same⟩
    · intro acc2 H6 e6 hD6 hacc2
      rw [filter_yes] at hacc2
      obtain ⟨ps, rfl, lps, hps⟩ := tu_list hacc2
      have pk := pairs_T (K := K) (g := fun y : Nat => y) hps
      refine ⟨D2, ps, _, rfl, sq_of hD6, pk, fun dd hdd => ?_⟩
      rw [show L.map (fun y : Nat => y) = L from List.map_id L, mergeT_nd nd]
      refine ⟨dd, _, rfl, upd_same, ?_⟩
      have e06 := e04.trans (e6.trans (Ex.new (o := .dK (kT L)) hdd))
      refine ⟨_, rfl, a, _, rfl, .inl (sq_of (e06 _ _ ha)), rfl, ?_⟩
      rw [kT_len, vI_len, decide_eq_true rfl]
      exact q _ e06
theorem sc_is_place2 : FnScope ["value", "number"] ["value"] (defScope (top 31)) := ⟨rfl, rfl, rfl, by decide +kernel, rfl, by decide +kernel, by decide +kernel⟩
theorem ok_is_place2 (F : Fun K "is_place" "is_place" (top 31) f fd) (T : Tx mg) (C_is_count : ClO P w K mg base "is_count" 2 ["value"] spCount) : FnOk P w K mg base CX0 3 f fd ["value"] spPlace2 := by
  have sc := sc_is_place2
  refine F.ok sc (fun vs H Q E h => ?_) (fun cdv A outer s H vs Q E hr h => ?_)
  · obtain ⟨r, p, rfl, _⟩ := h; rfl
  obtain ⟨r, p, rfl, h1, q⟩ := h
  refine ⟨_, (pss_one (ps_ret (pe_and (pe_callB call_isi rfl T.b_isinstance bt_isinstance (pa_cons (pv 0) (pa_cons (pe_bltn (v := .ty "tuple") rfl T.b_tuple bt_tuple rfl) pa_nil))) (pe_and (pe_cmpR op_eq (pe_callB call_len_seq rfl T.b_len bt_len (pa_cons (pv 0) pa_nil)) pe_int (nomark _)) (pe_one (pe_callB (cr_all rfl) rfl T.b_all bt_all (pa_cons (pe_lc (own := [("number", 1)]) (g := (gName 1)) rfl sc.nd (pi_tup (pv 0)) (blkOk_by (N := ["value", "number"]) (sc := defScope ((top 31))) (by decide +kernel)) (fun _ _ _ _ _ => (pg_name (i := 1) sc.nd rfl (Or.inl rfl))) (fun _ _ _ _ _ => pts_nil) (fun _ _ _ _ _ => (pe_clo C_is_count (hr.mono (by first | decide | omega)) (pa_cons (pv 1) pa_nil)))) pa_nil))))))), ?_⟩
  have h1' : H r = some (.tup (vI [p.1, p.2])) := h1
  refine ⟨_, rfl, _, _, _, _, _, rfl, .ty "tuple", .base (.tup h1), kt_tuple_tuple, _, rfl, ?_⟩
  refine ⟨_, rfl, r, _, rfl, .inr (st_of h1), rfl, _, rfl, ?_⟩
  refine ⟨_, rfl, r, rfl, ⟨_, st_of h1⟩, fun D hD => ?_⟩
  refine lcW (walk_tup (K := K) (a := r) (xs := vI [p.1, p.2])) [p.1, p.2] rfl (by show 2 ≤ 1000; decide) (fun _ => true) (fun (y : Nat) v _ => v = .bl ((fun _ => true) y)) Stab.bl hD (fun H4 e4 => st_of (e4 _ _ h1')) ?_ ?_
  · rintro i y x H4 H5 N Gt hy e4 ⟨rfl, hx⟩ _ k
    unfold vI at hx
    rw [List.getElem?_map, hy] at hx
    cases hx
    refine ⟨Ex.refl _, rfl, ?_⟩
    refine ⟨_, rfl, (y : Int), rfl, fun H6 e6 => ?_⟩
    exact k rfl _ _ e6 (by rw [decide_eq_true (by omega : (0 : Int) ≤ (y : Int))])
  · intro acc H4 e4 hD4 hacc
    rw [filter_yes] at hacc
    have hac := paired_bl hacc
    refine ⟨D, _, rfl, sq_of (hac ▸ hD4), ?_⟩
    rw [all_true (fun b hb' => by obtain ⟨y, hy, rfl⟩ := List.mem_map.mp hb'; rfl)]
    exact q _ e4
theorem sc_spare_one_another : FnScope ["places", "rows", "columns", "place"] ["places"] (defScope (top 33)) := ⟨rfl, rfl, rfl, by decide +kernel, rfl, by decide +kernel, by decide +kernel⟩
theorem ok_spare (F : Fun K "spare_one_another" "spare_one_another" (top 33) f fd) (T : Tx mg) : FnOk P w K mg base CX0 1 f fd ["places"] spSpare := by
  have sc := sc_spare_one_another
  refine F.ok sc (fun vs H Q E h => ?_) (fun cdv A outer s H vs Q E hr h => ?_)
  · obtain ⟨r, _, _, rfl, _⟩ := h; rfl
  obtain ⟨a, rs, L, rfl, ha, hp, l16, n1, n2, q⟩ := h
  have hl := hp.len
  refine ⟨_, (pss_cons (ps_par (i := 1) (j := 2) rfl sc.nd rfl rfl (by decide) rfl rfl (pa_cons (pe_callTy (call_dictP rfl) rfl T.b_dict bt_dict (pa_cons (pe_lc (own := [("place", 3)]) (g := (gName 3)) rfl sc.nd (pi_list (pv 0)) (blkOk_by (N := ["places", "rows", "columns", "place"]) (sc := defScope ((top 33))) (by decide +kernel)) (fun _ _ _ _ _ => (pg_name (i := 3) sc.nd rfl (Or.inl rfl))) (fun _ _ _ _ _ => pts_nil) (fun _ _ _ _ _ => (pe_tup (pa_cons (pe_ix (show IxR _ (rIxT K) from ix_tup) (pv 3) pe_int (fun _ _ => rfl)) (pa_cons pe_bl pa_nil))))) pa_nil)) (pa_cons (pe_callTy (call_dictP rfl) rfl T.b_dict bt_dict (pa_cons (pe_lc (own := [("place", 3)]) (g := (gName 3)) rfl sc.nd (pi_list (pv 0)) (blkOk_by (N := ["places", "rows", "columns", "place"]) (sc := defScope ((top 33))) (by decide +kernel)) (fun _ _ _ _ _ => (pg_name (i := 3) sc.nd rfl (Or.inl rfl))) (fun _ _ _ _ _ => pts_nil) (fun _ _ _ _ _ => (pe_tup (pa_cons (pe_ix (show IxR _ (rIxT K) from ix_tup) (pv 3) pe_int (fun _ _ => rfl)) (pa_cons pe_bl pa_nil))))) pa_nil)) pa_nil)) rfl) (pss_one (ps_ret (pe_chain op_eq op_eq (pe_callB call_lenD rfl T.b_len bt_len (pa_cons (pv 1) pa_nil)) (pe_callB call_lenD rfl T.b_len bt_len (pa_cons (pv 2) pa_nil)) (pe_callB call_len_seq rfl T.b_len bt_len (pa_cons (pv 0) pa_nil)))))), ?_⟩
  refine ⟨_, rfl, a, rfl, ⟨_, sq_of ha⟩, fun D hD => ?_⟩
  refine lcW (walk_list (K := K) (a := a) (xs := rs.map V.ref)) L (by simp [hl]) (by simp; omega) (fun _ => true) (Tu fun (y : Nat × Nat) => [.int (y.1 : Nat), .bl true]) Stab.tu hD (fun H5 e5 => sq_of (e5 _ _ ha)) ?_ ?_
  · rintro i y x H4 H5 N Gt hy e4 ⟨rfl, hx⟩ _ k
    obtain ⟨r, p, rfl, h1, h2⟩ := pts_at (hp.up e4) hx
    cases h1.symm.trans hy
    refine ⟨Ex.refl _, rfl, ?_⟩
    refine ⟨_, rfl, r, _, _, _, rfl, rfl, st_of h2, rfl, (by show 2 ≤ sizeLine; decide), fun r5 hr5 => ?_⟩
    exact k rfl _ _ (Ex.new hr5) ⟨r5, rfl, upd_same⟩
  · intro acc H4 e4 hD4 hacc
    rw [filter_yes] at hacc
    obtain ⟨ps, rfl, lps, hps⟩ := tu_list hacc
    have pk := pairs_T (K := K) (g := fun y : Nat × Nat => y.1) hps
    refine ⟨D, ps, _, rfl, sq_of hD4, pk, fun dd hdd => ?_⟩
    rw [mergeT_nd n1]
    have e5 := e4.trans (Ex.new (o := .dK (kT (L.map (·.1)))) hdd)
    have hd5 : upd H4 dd (.dK (kT (L.map (·.1)))) dd = some (.dK (kT (L.map (·.1)))) := upd_same
    generalize upd H4 dd (.dK (kT (L.map (·.1)))) = H5 at e5 hd5 ⊢
    refine ⟨_, rfl, a, rfl, ⟨_, sq_of (e5 _ _ ha)⟩, fun D2 hD2 => ?_⟩
    refine lcW (walk_list (K := K) (a := a) (xs := rs.map V.ref)) L (by simp [hl]) (by simp; omega) (fun _ => true) (Tu fun (y : Nat × Nat) => [.int (y.2 : Nat), .bl true]) Stab.tu hD2 (fun H6 e6 => sq_of (e6 _ _ (e5 _ _ ha))) ?_ ?_
    · rintro i y x H6 H7 N Gt hy e6 ⟨rfl, hx⟩ _ k
      obtain ⟨r, p, rfl, h1, h2⟩ := pts_at (hp.up (e5.trans e6)) hx
      cases h1.symm.trans hy
      refine ⟨Ex.refl _, rfl, ?_⟩
      refine ⟨_, rfl, r, _, _, _, rfl, rfl, st_of h2, rfl, (by show 2 ≤ sizeLine; decide), fun r5 hr5 => ?_⟩
      exact k rfl _ _ (Ex.new hr5) ⟨r5, rfl, upd_same⟩
    · intro acc2 H6 e6 hD6 hacc2
      rw [filter_yes] at hacc2
      obtain ⟨ps2, rfl, lps2, hps2⟩ := tu_list hacc2
      have pk2 := pairs_T (K := K) (g := fun y : Nat × Nat => y.2) hps2
      refine ⟨D2, ps2, _, rfl, sq_of hD6, pk2, fun d2 hd2 => ?_⟩
      rw [mergeT_nd n2]
      have x7 : Ex H6 (upd H6 d2 (.dK (kT (L.map (·.2))))) := Ex.new hd2
      have e7 := e5.trans (e6.trans x7)
      refine ⟨_, _, rfl, _, rfl, dd, _, rfl, x7 _ _ (e6 _ _ hd5), _, rfl, d2, _, rfl, upd_same, rfl, _, rfl, ?_⟩
      rw [kT_len, kT_len, List.length_map, List.length_map, decide_eq_true rfl]
      refine ⟨_, rfl, a, _, rfl, .inl (sq_of (e7 _ _ ha)), rfl, ?_⟩
      rw [List.length_map, hl, decide_eq_true rfl]
      exact q _ e7
end
end R71

namespace R71
open B71 PySem PySem.Spec PyProof.Rows L2 Evl RZ SrtO

theorem flat_is : ∀ L : List Nat, (vI L).all flatV = true
  | [] => rfl
  | n :: L => by unfold vI; rw [List.map_cons, List.all_cons]; exact Bool.and_eq_true_iff.mpr ⟨rfl, flat_is L⟩
theorem in_is (r : Nat) (L : List Nat) : inV (.int (r : Int)) (vI L) = decide (r ∈ L) := by
  induction L with
  | nil => rfl
  | cons n L ih =>
    have e : inV (.int (r : Int)) (vI (n :: L)) = (eqV (.int (n : Int)) (.int (r : Int)) || inV (.int (r : Int)) (vI L)) := rfl
    rw [e, ih]
    show ((n : Int) == (r : Int) || decide (r ∈ L)) = _
    by_cases h : n = r
    · simp [h]
    · have q : ((n : Int) == (r : Int)) = false := beq_eq_false_iff_ne.mpr (by omega)
      rw [q, Bool.false_or]
      exact decide_eq_decide.mpr ⟨List.mem_cons_of_mem _, fun k => (List.mem_cons.mp k).resolve_left (Ne.symm h)⟩
def spIsRooks : Sp := fun vs H Q _ => ∃ (a v : Addr) (tall wide : Nat) (rs vr : List Addr) (pl L : Pl), vs = [.int tall, .int wide, .ref a, .ref v] ∧ SqH H a (rs.map V.ref) ∧ Pts H rs pl ∧ Bd tall wide pl ∧
  H v = some (.lst (vr.map V.ref)) ∧ Pts H vr L ∧ L.length ≤ 16 ∧ (L.map (·.1)).Nodup ∧ (L.map (·.2)).Nodup ∧ (∀ p ∈ L, p ∈ pl) ∧ RetV (.bl (decide (L.length = (seatsOf pl tall).length))) H Q
def covB (pl : Pl) (R C : List Nat) : Bool := pl.all fun p => decide (p.1 ∈ R) || decide (p.2 ∈ C)
def spIsCover : Sp := fun vs H Q _ => ∃ (a v x y : Addr) (tall wide : Nat) (rs : List Addr) (pl : Pl) (R C : List Nat), vs = [.int tall, .int wide, .ref a, .ref v] ∧ SqH H a (rs.map V.ref) ∧ Pts H rs pl ∧ Bd tall wide pl ∧
  H v = some (.tup [.ref x, .ref y]) ∧ H x = some (.lst (vI R)) ∧ H y = some (.lst (vI C)) ∧ R.Nodup ∧ C.Nodup ∧ (∀ r ∈ R, r < tall) ∧ (∀ c ∈ C, c < wide) ∧ RetV (.bl (covB pl R C && decide (R.length + C.length = (seatsOf pl tall).length))) H Q
theorem nd_lt {L : List Nat} {m : Nat} (h : L.Nodup) (lt : ∀ x ∈ L, x < m) : L.length ≤ m := by
  have := nodup_le (m := List.range m) h fun x hx => List.mem_range.mpr (lt x hx)
  simpa using this
section
variable {P : Program} {w : World} {K : PySem.W.Frag} {mg : Str → Option Value} {base : Heap} {f : Addr} {fd : FuncData}
theorem sc_is_rooks : FnScope ["tall", "wide", "places", "value", "told", "place"] ["tall", "wide", "places", "value"] (defScope (top 36)) := ⟨rfl, rfl, rfl, by decide +kernel, rfl, by decide +kernel, by decide +kernel⟩
theorem ok_is_rooks (F : Fun K "is_rooks" "is_rooks" (top 36) f fd) (T : Tx mg) (C_want_places : ClO P w K mg base "want_places" 5 ["tall", "wide", "value"] spWantPlaces) (C_is_list : ClO P w K mg base "is_list" 1 ["value"] spList) (C_is_place2 : ClO P w K mg base "is_place_boards" 3 ["value"] spPlace2) (C_spare_one_another : ClO P w K mg base "spare_one_another" 1 ["places"] spSpare) (C_rooks_of : ClO P w K mg base "rooks_of" 8 ["tall", "wide", "places"] spRooksOf) : FnOk P w K mg base CX0 9 f fd ["tall", "wide", "places", "value"] spIsRooks := by
  have sc := sc_is_rooks
  refine F.ok sc (fun vs H Q E h => ?_) (fun cdv A outer s H vs Q E hr h => ?_)
  · obtain ⟨r, _, _, _, _, _, _, _, rfl, _⟩ := h; rfl
  obtain ⟨a, v, tall, wide, rs, vr, pl, L, rfl, ha, hp, hb, hv, hL, l16, n1, n2, sub, q⟩ := h
  refine ⟨_, (pss_cons (ps_set (i := 4) sc.nd rfl (Or.inr rfl) (pe_clo C_want_places (hr.mono (by first | decide | omega)) (pa_cons (pv 0) (pa_cons (pv 1) (pa_cons (pv 2) pa_nil))))) (pss_cons (ps_if (PW.pt (pw_or (pt_not (pt_val (pe_clo C_is_list (hr.mono (by first | decide | omega)) (pa_cons (pv 3) pa_nil)))) (pw_or1 (pt_not (pt_val (pe_callB (cr_all rfl) rfl T.b_all bt_all (pa_cons (pe_lc (own := [("place", 5)]) (g := (gName 5)) rfl sc.nd (pi_list (pv 3)) (blkOk_by (N := ["tall", "wide", "places", "value", "told", "place"]) (sc := defScope ((top 36))) (by decide +kernel)) (fun _ _ _ _ _ => (pg_name (i := 5) sc.nd rfl (Or.inl rfl))) (fun _ _ _ _ _ => pts_nil) (fun _ _ _ _ _ => (pe_and (pe_clo C_is_place2 (hr.mono (by first | decide | omega)) (pa_cons (pv 5) pa_nil)) (pe_one (pe_cmpR (show OpR _ _ (rInD K) from (op_inD (u65 hr))) (pv 5) (pv 4) rfl))))) pa_nil))))))) (pss_one (ps_ret pe_bl)) pss_nil) (pss_one (ps_ret (pe_and (pe_clo C_spare_one_another (hr.mono (by first | decide | omega)) (pa_cons (pv 3) pa_nil)) (pe_one (pe_cmpR op_eq (pe_callB call_len_seq rfl T.b_len bt_len (pa_cons (pv 3) pa_nil)) (pe_callB call_len_seq rfl T.b_len bt_len (pa_cons (pe_clo C_rooks_of (hr.mono (by first | decide | omega)) (pa_cons (pv 0) (pa_cons (pv 1) (pa_cons (pv 4) pa_nil)))) pa_nil)) (nomark _)))))))), ?_⟩
  refine ⟨_, rfl, _, rfl, _, rfl, a, tall, wide, rs, pl, rfl, ha, hp, hb, fun b H1 hb0 e1 hb1 => ?_⟩
  have hp1 := hp.up e1
  refine ⟨_, rfl, v, _, rfl, .inl (e1 _ _ hv), fun H2 e2 => ⟨_, rfl, ?_⟩⟩
  have e12 := e1.trans e2
  refine ⟨_, rfl, v, rfl, ⟨_, sq_of (e12 _ _ hv)⟩, fun D hD => ?_⟩
  refine lcW (walk_list (K := K) (a := v) (xs := vr.map V.ref)) L (by simp [hL.len]) (by simp [hL.len]; omega) (fun _ => true) (fun (y : Nat × Nat) v _ => v = .bl ((fun y => pl.any fun z => decide (z = y)) y)) Stab.bl hD (fun H5 e5 => sq_of (e5 _ _ (e12 _ _ hv))) ?_ ?_
  · rintro i y x H4 H5 N Gt hy e4 ⟨rfl, hx⟩ _ k
    obtain ⟨r, p, rfl, h1, h2⟩ := pts_at (hL.up (e12.trans e4)) hx
    cases h1.symm.trans hy
    refine ⟨Ex.refl _, rfl, ?_⟩
    refine ⟨_, rfl, r, y, rfl, h2, fun H6 e6 => ⟨_, rfl, ?_⟩⟩
    have e46 := e4.trans e6
    refine ⟨_, rfl, _, rfl, _, _, dp_p (h2.up e6), dp_pl ((e2.trans e46) _ _ hb1) (hp1.up (e2.trans e46)), p_sh _, ps_sh _, ?_⟩
    refine k rfl _ _ e6 ?_
    rw [List.any_map]
    congr 2
    funext z
    exact pD_eqv z y
  · intro acc H4 e4 hD4 hacc
    rw [filter_yes] at hacc
    have hac := paired_bl hacc
    refine ⟨D, _, rfl, sq_of (hac ▸ hD4), _, rfl, ?_⟩
    rw [all_true (fun b hb' => by obtain ⟨y, hy, rfl⟩ := List.mem_map.mp hb'; exact List.any_eq_true.mpr ⟨y, sub y hy, decide_eq_true rfl⟩)]
    have e04 := e12.trans e4
    refine ⟨_, rfl, v, vr, L, rfl, e04 _ _ hv, hL.up e04, l16, n1, n2, fun H5 e5 => ⟨_, rfl, ?_⟩⟩
    have e05 := e04.trans e5
    have e15 := e2.trans (e4.trans e5)
    refine ⟨_, rfl, v, _, rfl, .inl (sq_of (e05 _ _ hv)), ?_⟩
    refine ⟨_, rfl, _, rfl, _, rfl, b, tall, wide, rs, pl, rfl, e15 _ _ hb1, hp1.up e15, hb.sz, fun p rs' M' H6 hp0 e6 h1 h2 h3 => ?_⟩
    refine ⟨p, _, rfl, .inl (sq_of h1), rfl, ?_⟩
    have e := h3.pm.length_eq
    rw [flip_len] at e
    have e2 : decide (V.int (((vr.map V.ref).length : Nat) : Int) = V.int (((rs'.map V.ref).length : Nat) : Int)) = decide (L.length = (seatsOf pl tall).length) := decide_eq_decide.mpr (by
      rw [List.length_map, List.length_map, hL.len, h2.len, e]
      constructor
      · intro h; injection h with h; omega
      · intro h; rw [h])
    rw [e2]
    exact q _ (e05.trans e6)
theorem sc_is_cover : FnScope ["tall", "wide", "places", "value", "told", "rows", "columns", "row", "column"] ["tall", "wide", "places", "value"] (defScope (top 37)) := ⟨rfl, rfl, rfl, by decide +kernel, rfl, by decide +kernel, by decide +kernel⟩
theorem ok_is_cover (F : Fun K "is_cover" "is_cover" (top 37) f fd) (T : Tx mg) (C_want_places : ClO P w K mg base "want_places" 5 ["tall", "wide", "value"] spWantPlaces) (C_unlike_counts : ClO P w K mg base "unlike_counts" 3 ["value", "most"] spUnlike) (C_rooks_of : ClO P w K mg base "rooks_of" 8 ["tall", "wide", "places"] spRooksOf) : FnOk P w K mg base CX0 9 f fd ["tall", "wide", "places", "value"] spIsCover := by
  have sc := sc_is_cover
  refine F.ok sc (fun vs H Q E h => ?_) (fun cdv A outer s H vs Q E hr h => ?_)
  · obtain ⟨r, _, _, _, _, _, _, _, _, _, rfl, _⟩ := h; rfl
  obtain ⟨a, v, x, y, tall, wide, rs, pl, R, C, rfl, ha, hp, hb, hv, hx, hy, nR, nC, lR, lC, q⟩ := h
  have l1 := nd_lt nR lR
  have l2 := nd_lt nC lC
  have t4 := hb.t4
  have w4 := hb.w4
  refine ⟨_, (pss_cons (ps_set (i := 4) sc.nd rfl (Or.inl rfl) (pe_clo C_want_places (hr.mono (by first | decide | omega)) (pa_cons (pv 0) (pa_cons (pv 1) (pa_cons (pv 2) pa_nil))))) (pss_cons (ps_if (PW.pt (pw_or (pt_not (pt_val (pe_callB call_isi rfl T.b_isinstance bt_isinstance (pa_cons (pv 3) (pa_cons (pe_bltn (v := .ty "tuple") rfl T.b_tuple bt_tuple rfl) pa_nil))))) (pw_or1 (pt_cmpR op_ne (pe_callB call_len_seq rfl T.b_len bt_len (pa_cons (pv 3) pa_nil)) pe_int (nomark _))))) (pss_one (ps_ret pe_bl)) pss_nil) (pss_cons (ps_asg (pv 3) (pg_tup rfl (pgs_cons (pg_name (i := 5) sc.nd rfl (Or.inr rfl)) (pgs_cons (pg_name (i := 6) sc.nd rfl (Or.inr rfl)) pgs_nil)))) (pss_cons (ps_if (PW.pt (pw_or (pt_not (pt_val (pe_clo C_unlike_counts (hr.mono (by first | decide | omega)) (pa_cons (pv 5) (pa_cons (pv 0) pa_nil))))) (pw_or1 (pt_not (pt_val (pe_clo C_unlike_counts (hr.mono (by first | decide | omega)) (pa_cons (pv 6) (pa_cons (pv 1) pa_nil)))))))) (pss_one (ps_ret pe_bl)) pss_nil) (pss_cons (ps_if (pt_not (pt_val (pe_callB (cr_all rfl) rfl T.b_all bt_all (pa_cons (pe_lc (own := [("row", 7), ("column", 8)]) (g := (gTup K 2 (gCons (gName 7) (gCons (gName 8) gNil)))) rfl sc.nd (pi_list (pv 4)) (blkOk_by (N := ["tall", "wide", "places", "value", "told", "rows", "columns", "row", "column"]) (sc := defScope ((top 37))) (by decide +kernel)) (fun _ _ _ _ _ => (pg_tup rfl (pgs_cons (pg_name (i := 7) sc.nd rfl (Or.inl rfl)) (pgs_cons (pg_name (i := 8) sc.nd rfl (Or.inl rfl)) pgs_nil)))) (fun _ _ _ _ _ => pts_nil) (fun _ _ _ _ _ => (pe_or (pe_cmpR (show OpR _ _ (rIn K false) from op_in_seq) (pv 7) (pv 5) rfl) (pe_one (pe_cmpR (show OpR _ _ (rIn K false) from op_in_seq) (pv 8) (pv 6) rfl))))) pa_nil)))) (pss_one (ps_ret pe_bl)) pss_nil) (pss_one (ps_ret (pe_cmpR op_eq (pe_op op_add (pe_callB call_len_seq rfl T.b_len bt_len (pa_cons (pv 5) pa_nil)) (pe_callB call_len_seq rfl T.b_len bt_len (pa_cons (pv 6) pa_nil))) (pe_callB call_len_seq rfl T.b_len bt_len (pa_cons (pe_clo C_rooks_of (hr.mono (by first | decide | omega)) (pa_cons (pv 0) (pa_cons (pv 1) (pa_cons (pv 4) pa_nil)))) pa_nil)) (nomark _))))))))), ?_⟩
  refine ⟨_, rfl, _, rfl, _, rfl, a, tall, wide, rs, pl, rfl, ha, hp, hb, fun b H1 hb0 e1 hb1 => ?_⟩
  have hp1 := hp.up e1
  refine ⟨_, rfl, _, _, _, _, _, rfl, .ty "tuple", .base (.tup (e1 _ _ hv)), kt_tuple_tuple, _, rfl, ?_⟩
  refine ⟨_, rfl, v, _, rfl, .inr (st_of (e1 _ _ hv)), rfl, _, rfl, ?_⟩
  refine ⟨_, rfl, v, _, rfl, st_of (e1 _ _ hv), rfl, _, _, rfl, _, _, rfl, rfl, ?_⟩
  refine ⟨_, rfl, _, rfl, x, tall, R, rfl, e1 _ _ hx, by omega, nR, lR, fun H2 e2 => ⟨_, rfl, ?_⟩⟩
  have e12 := e1.trans e2
  refine ⟨_, rfl, _, rfl, y, wide, C, rfl, e12 _ _ hy, by omega, nC, lC, fun H3 e3 => ⟨_, rfl, ?_⟩⟩
  have e13 := e12.trans e3
  have hb3 := e3 _ _ (e2 _ _ hb1)
  have hp3 := hp.up e13
  have hl := hp.len
  have p16 := hb.p16
  refine ⟨_, rfl, b, rfl, ⟨_, sq_of hb3⟩, fun D hD => ?_⟩
  refine lcW (walk_list (K := K) (a := b) (xs := rs.map V.ref)) pl (by simp [hl]) (by simp [hl]; omega) (fun _ => true) (fun (z : Nat × Nat) v _ => v = .bl ((fun z => decide (z.1 ∈ R) || decide (z.2 ∈ C)) z)) Stab.bl hD (fun H5 e5 => sq_of (e5 _ _ hb3)) ?_ ?_
  · rintro i z x' H4 H5 N Gt hz e4 ⟨rfl, hx'⟩ _ k
    obtain ⟨r, p, rfl, h1, h2⟩ := pts_at (hp3.up e4) hx'
    cases h1.symm.trans hz
    refine ⟨Ex.refl _, ?_⟩
    refine ⟨r, _, rfl, st_of h2, rfl, _, _, rfl, _, _, rfl, rfl, rfl, ?_⟩
    refine ⟨_, rfl, _, rfl, x, _, rfl, .inl (sq_of ((e13.trans e4) _ _ hx)), rfl, flat_is _, _, rfl, ?_⟩
    show if (inV (.int (z.1 : Int)) (vI R)) = true then _ else _
    rw [in_is]
    refine ite2 (fun g => ?_) (fun g => ?_)
    · exact k rfl _ _ (Ex.refl _) (by show V.bl true = V.bl (decide (z.1 ∈ R) || decide (z.2 ∈ C)); rw [g]; rfl)
    · refine ⟨_, rfl, _, rfl, y, _, rfl, .inl (sq_of ((e13.trans e4) _ _ hy)), rfl, flat_is _, ?_⟩
      refine k rfl _ _ (Ex.refl _) ?_
      show V.bl (inV (.int (z.2 : Int)) (vI C)) = V.bl (decide (z.1 ∈ R) || decide (z.2 ∈ C))
      rw [in_is, Bool.eq_false_iff.mpr g, Bool.false_or]
  · intro acc H4 e4 hD4 hacc
    rw [filter_yes] at hacc
    have hac := paired_bl hacc
    refine ⟨D, _, rfl, sq_of (hac ▸ hD4), _, rfl, ?_⟩
    have ec : (pl.map fun z => decide (z.1 ∈ R) || decide (z.2 ∈ C)).all id = covB pl R C := by rw [List.all_map]; rfl
    rw [ec]
    have e14 := e13.trans e4
    cases hc : covB pl R C with
    | false =>
      rw [hc] at q
      exact q _ e14
    | true =>
      rw [hc, Bool.true_and] at q
      refine ⟨_, rfl, x, _, rfl, .inl (sq_of (e14 _ _ hx)), _, rfl, y, _, rfl, .inl (sq_of (e14 _ _ hy)), _, _, rfl, rfl, ?_⟩
      refine ⟨_, rfl, _, rfl, _, rfl, b, tall, wide, rs, pl, rfl, e4 _ _ hb3, hp3.up e4, hb.sz, fun p rs' M' H6 hp0 e6 h1 h2 h3 => ?_⟩
      refine ⟨p, _, rfl, .inl (sq_of h1), rfl, ?_⟩
      have e := h3.pm.length_eq
      rw [flip_len] at e
      have e2 : decide (V.int ((((vI R).length : Nat) : Int) + (((vI C).length : Nat) : Int)) = V.int (((rs'.map V.ref).length : Nat) : Int)) = decide (R.length + C.length = (seatsOf pl tall).length) := decide_eq_decide.mpr (by
        rw [List.length_map, vI_len, vI_len, h2.len, e]
        constructor
        · intro h; injection h with h; omega
        · intro h; rw [← h]; simp)
      rw [e2]
      exact q _ (e14.trans e6)
end
end R71

namespace R71
open B71 PySem PySem.Spec PyProof.Rows L2 Evl RZ SrtO

abbrev TV := B71.Tr
def isC : TV → Bool
  | .int i => decide (0 ≤ i)
  | _ => false
def isPl : TV → Bool
  | .tup l => decide (l.length = 2) && l.all isC
  | _ => false
def ltC (m : Nat) : TV → Bool
  | .int i => decide (0 ≤ i) && decide (i < m)
  | _ => false
def nat : TV → Nat
  | .int i => i.toNat
  | _ => 0
def ptT (p : Nat × Nat) : TV := .tup [.int p.1, .int p.2]
def inPl (pl : Pl) : TV → Bool
  | .tup [.int a, .int b] => decide (0 ≤ a) && decide (0 ≤ b) && decide ((a.toNat, b.toNat) ∈ pl)
  | _ => false
def ptOf : TV → Nat × Nat
  | .tup [.int a, .int b] => (a.toNat, b.toNat)
  | _ => (0, 0)
def linesB (m : Nat) (t : TV) : Bool := match t.sq? with
  | none => false
  | some l => l.all (ltC m) && decide ((l.map nat).Nodup)
def rooksB (pl : Pl) (n : Nat) (t : TV) : Bool := match t.sq? with
  | none => false
  | some l => l.all (inPl pl) && (decide ((l.map ptOf).map (·.1)).Nodup && decide ((l.map ptOf).map (·.2)).Nodup && decide (l.length = n))
def nats (t : TV) : List Nat := (t.sq?.getD []).map nat
def coverB (pl : Pl) (tall wide n : Nat) : TV → Bool
  | .tup [x, y] => linesB tall x && (linesB wide y && (covB pl (nats x) (nats y) && decide ((nats x).length + (nats y).length = n)))
  | _ => false
/-! ### rows of counts, of places -/
theorem ints_of {m : Nat} : ∀ {l : List TV}, l.all (ltC m) = true → ∃ L : List Nat, l = L.map (fun (n : Nat) => B71.Tr.int (n : Int)) ∧ L = l.map nat ∧ ∀ n ∈ L, n < m
  | [], _ => ⟨[], rfl, rfl, fun _ h => nomatch h⟩
  | t :: l, h => by
    rw [List.all_cons, Bool.and_eq_true] at h
    obtain ⟨L, e, e2, b⟩ := ints_of h.2
    cases t with
    | int i =>
      have h1 := h.1
      unfold ltC at h1
      rw [Bool.and_eq_true, decide_eq_true_eq, decide_eq_true_eq] at h1
      have hi : i = ((i.toNat : Nat) : Int) := (Int.toNat_of_nonneg h1.1).symm
      refine ⟨i.toNat :: L, ?_, by rw [List.map_cons, e2]; rfl, fun n hn => ?_⟩
      · rw [List.map_cons, ← e, ← hi]
      · rcases List.mem_cons.mp hn with rfl | hn
        · omega
        · exact b n hn
    | _ => exact absurd h.1 (by simp [ltC])
theorem pts_of {pl : Pl} : ∀ {l : List TV}, l.all (inPl pl) = true → ∃ L : Pl, l = L.map ptT ∧ L = l.map ptOf ∧ ∀ p ∈ L, p ∈ pl
  | [], _ => ⟨[], rfl, rfl, fun _ h => nomatch h⟩
  | t :: l, h => by
    rw [List.all_cons, Bool.and_eq_true] at h
    obtain ⟨L, e, e2, b⟩ := pts_of h.2
    have h1 := h.1
    unfold inPl at h1
    split at h1
    · rename_i a c
      rw [Bool.and_eq_true, Bool.and_eq_true, decide_eq_true_eq, decide_eq_true_eq, decide_eq_true_eq] at h1
      refine ⟨(a.toNat, c.toNat) :: L, ?_, by rw [List.map_cons, e2]; rfl, fun n hn => ?_⟩
      · rw [List.map_cons, ← e]
        unfold ptT
        rw [Int.toNat_of_nonneg h1.1.1, Int.toNat_of_nonneg h1.1.2]
      · rcases List.mem_cons.mp hn with rfl | hn
        · exact h1.2
        · exact b n hn
    · cases h1
theorem trvs_ints {C : Addr} {H : Hp} : ∀ {L : List Nat} {xs : List V}, TrVs C H xs (L.map fun (n : Nat) => B71.Tr.int (n : Int)) → xs = vI L
  | [], _, h => by cases h; rfl
  | n :: L, _, h => by
    cases h with
    | cons h t =>
      cases h
      rw [trvs_ints t]
      rfl
theorem trvs_pts {C : Addr} {H : Hp} : ∀ {L : Pl} {xs : List V}, TrVs C H xs (L.map ptT) → ∃ rs : List Addr, xs = rs.map V.ref ∧ Pts H rs L
  | [], _, h => by cases h; exact ⟨[], rfl, .nil⟩
  | n :: L, _, h => by
    cases h with
    | cons h t =>
      obtain ⟨rs, rfl, p⟩ := trvs_pts t
      cases h with
      | tup h q =>
        cases q with
        | cons q1 q =>
          cases q with
          | cons q2 q =>
            cases q
            cases q1
            cases q2
            exact ⟨_ :: rs, rfl, .cons h p⟩
theorem mergeT0 (L : List Nat) : mergeK [] (kT L) = kT (L.foldl addRow []) := mergeT L []
theorem fold_add_nd : ∀ (L acc : List Nat), acc.Nodup → (L.foldl addRow acc).Nodup
  | [], _, h => h
  | _ :: L, _, h => fold_add_nd L _ (addRow_nd h)
theorem fold_add_mem : ∀ (L acc : List Nat) (x : Nat), x ∈ L.foldl addRow acc ↔ x ∈ acc ∨ x ∈ L
  | [], _, _ => by simp
  | y :: L, acc, x => by
    rw [List.foldl_cons, fold_add_mem L, mem_addRow, List.mem_cons]
    constructor
    · rintro ((h | h) | h)
      · exact .inl h
      · exact .inr (.inl h)
      · exact .inr (.inr h)
    · rintro (h | h | h)
      · exact .inl (.inl h)
      · exact .inl (.inr h)
      · exact .inr h
theorem fold_add_le : ∀ (L acc : List Nat), (L.foldl addRow acc).length ≤ acc.length + L.length
  | [], _ => Nat.le_refl _
  | y :: L, acc => by
    have := fold_add_le L (addRow acc y)
    have h2 : (addRow acc y).length ≤ acc.length + 1 := by
      unfold addRow
      split
      · omega
      · simp
    rw [List.foldl_cons, List.length_cons]
    omega
theorem dd_len (L : List Nat) : decide ((L.foldl addRow []).length = L.length) = decide L.Nodup := decide_eq_decide.mpr ⟨fun h => by
    apply Classical.byContradiction
    intro nd
    have key : ∀ (L acc : List Nat), ¬ L.Nodup ∨ (∃ x ∈ L, x ∈ acc) → (L.foldl addRow acc).length < acc.length + L.length := by
      intro L
      induction L with
      | nil =>
        intro acc h
        rcases h with h | ⟨x, hx, _⟩
        · exact absurd List.nodup_nil h
        · exact nomatch hx
      | cons y L ih =>
        intro acc h
        rw [List.foldl_cons, List.length_cons]
        by_cases hy : y ∈ acc
        · have e : addRow acc y = acc := by unfold addRow; rw [if_pos hy]
          rw [e]
          have := fold_add_le L acc
          omega
        · have e : addRow acc y = acc ++ [y] := by unfold addRow; rw [if_neg hy]
          rw [e]
          have z := ih (acc ++ [y]) (by
            rcases h with h | ⟨x, hx, hxa⟩
            · rw [List.nodup_cons, Classical.not_and_iff_not_or_not, Classical.not_not] at h
              rcases h with h | h
              · exact .inr ⟨y, h, by simp⟩
              · exact .inl h
            · rcases List.mem_cons.mp hx with rfl | hx
              · exact absurd hxa hy
              · exact .inr ⟨x, hx, List.mem_append_left _ hxa⟩)
          rw [List.length_append, List.length_singleton] at z
          omega
    have := key L [] (.inl nd)
    simp only [List.length_nil, Nat.zero_add] at this
    omega, fun h => by rw [fold_nd L [] (by simpa using h)]; rfl⟩
def spCntT (C : Addr) : Sp := fun vs H Q _ => ∃ (v : V) (t : TV), vs = [v] ∧ TrV C H v t ∧ RetV (.bl (isC t)) H Q
def spPlT (C : Addr) : Sp := fun vs H Q _ => ∃ (v : V) (t : TV), vs = [v] ∧ TrV C H v t ∧ t.cnt ≤ 1000 ∧ RetV (.bl (isPl t)) H Q
def spUnl (C : Addr) : Sp := fun vs H Q _ => ∃ (v : V) (t : TV) (m : Nat), vs = [v, .int m] ∧ TrV C H v t ∧ t.cnt ≤ 1000 ∧ RetV (.bl (linesB m t)) H Q
def spSpr (K : PySem.W.Frag) : Sp := fun vs H Q _ => ∃ (a : Addr) (rs : List Addr) (L : Pl), vs = [.ref a] ∧ SqH H a (rs.map V.ref) ∧ Pts H rs L ∧ L.length ≤ 1000 ∧ RetV (.bl (decide (L.map (·.1)).Nodup && decide (L.map (·.2)).Nodup)) H Q
section
variable {P : Program} {w : World} {K : PySem.W.Frag} {mg : Str → Option Value} {base : Heap} {f C : Addr} {fd : FuncData}
theorem cntT_is {vs : List V} {H : Hp} {Q : VK} {E : XK} (R : RCl K mg C) (M : RCm K C) (h : spCntT C vs H Q E) : spIsC K C vs H Q E := by
  obtain ⟨v, t, rfl, ht, q⟩ := h
  refine ⟨v, t.isI, t.isB, t.isR, isC t, rfl, ht.kd R M, ?_, q⟩
  cases ht with
  | int i => exact .inr ⟨rfl, i, rfl, rfl⟩
  | _ => exact .inl ⟨rfl, rfl⟩
theorem ok_is_placeT (F : Fun K "is_place" "is_place" (top 31) f fd) (R : RCl K mg C) (M : RCm K C) (T : Tx mg) (C_is_count : ClO P w K mg base "is_count" 2 ["value"] (spCntT C)) : FnOk P w K mg base CX0 3 f fd ["value"] (spPlT C) := by
  have sc := sc_is_place2
  refine F.ok sc (fun vs H Q E h => ?_) (fun cdv A outer s H vs Q E hr h => ?_)
  · obtain ⟨_, _, rfl, _⟩ := h; rfl
  obtain ⟨v, t, rfl, ht, cn, q⟩ := h
  refine ⟨_, (pss_one (ps_ret (pe_and (pe_callB call_isi rfl T.b_isinstance bt_isinstance (pa_cons (pv 0) (pa_cons (pe_bltn (v := .ty "tuple") rfl T.b_tuple bt_tuple rfl) pa_nil))) (pe_and (pe_cmpR op_eq (pe_callB call_len_seq rfl T.b_len bt_len (pa_cons (pv 0) pa_nil)) pe_int (nomark _)) (pe_one (pe_callB (cr_all rfl) rfl T.b_all bt_all (pa_cons (pe_lc (own := [("number", 1)]) (g := (gName 1)) rfl sc.nd (pi_tup (pv 0)) (blkOk_by (N := ["value", "number"]) (sc := defScope ((top 31))) (by decide +kernel)) (fun _ _ _ _ _ => (pg_name (i := 1) sc.nd rfl (Or.inl rfl))) (fun _ _ _ _ _ => pts_nil) (fun _ _ _ _ _ => (pe_clo C_is_count (hr.mono (by first | decide | omega)) (pa_cons (pv 1) pa_nil)))) pa_nil))))))), ?_⟩
  obtain ⟨ty, z⟩ := ht.ty R M
  refine ⟨_, rfl, v, _, ty, _, t.isU, rfl, .ty "tuple", z.tx, z.kT, _, rfl, ?_⟩
  clear z
  cases ht with
  | tup ha tv =>
    rename_i a xs l
    refine itt ?_
    have ln := tv.len
    have lim := len_of (t := .tup l) rfl cn
    refine ⟨_, rfl, a, _, rfl, .inr (st_of ha), rfl, _, rfl, ?_⟩
    have q' : RetV (.bl (decide (l.length = 2) && l.all isC)) H Q := q
    rw [show decide (V.int (xs.length : Nat) = V.int 2) = decide (l.length = 2) from decide_eq_decide.mpr ⟨fun z => by injection z with z; omega, fun z => by rw [← ln, z]; rfl⟩]
    cases hd : decide (l.length = 2) with
    | false =>
      rw [hd] at q'
      exact itf (q' _ (Ex.refl _))
    | true =>
      rw [hd, Bool.true_and] at q'
      refine itt ?_
      refine ⟨_, rfl, a, rfl, ⟨_, st_of ha⟩, fun D hD => ?_⟩
      refine lc_bl (walk_tup (K := K) (a := a) (xs := xs)) hD (fun H4 e4 => st_of (e4 _ _ ha)) l ln.symm (by rw [← ln]; exact lim) isC ?_ ?_
      · rintro i y x H4 Gt hy hx e4 k
        obtain ⟨y', hy', hv⟩ := tv.at_ hx
        cases hy.symm.trans hy'
        exact ⟨rfl, _, rfl, x, _, rfl, TrV.up e4 _ _ hv, fun H5 e5 => k _ e5⟩
      · intro H4 e4 hD4
        refine ⟨D, _, rfl, sq_of hD4, ?_⟩
        rw [all_map]
        exact q' _ e4
  | non => exact itf (q _ (Ex.refl _))
  | bl _ => exact itf (q _ (Ex.refl _))
  | int _ => exact itf (q _ (Ex.refl _))
  | str _ => exact itf (q _ (Ex.refl _))
  | rat _ => exact itf (q _ (Ex.refl _))
  | lst _ _ => exact itf (q _ (Ex.refl _))
  | dk _ => exact itf (q _ (Ex.refl _))
  | dt _ => exact itf (q _ (Ex.refl _))
theorem ok_unlikeT (F : Fun K "unlike_counts" "unlike_counts" (top 30) f fd) (R : RCl K mg C) (M : RCm K C) (T : Tx mg) (C_is_list : ClO P w K mg base "is_list" 1 ["value"] (spIsL C)) (C_is_count : ClO P w K mg base "is_count" 2 ["value"] (spCntT C)) : FnOk P w K mg base CX0 3 f fd ["value", "most"] (spUnl C) := by
  have sc := sc_unlike_counts
  refine F.ok sc (fun vs H Q E h => ?_) (fun cdv A outer s H vs Q E hr h => ?_)
  · obtain ⟨_, _, _, rfl, _⟩ := h; rfl
  obtain ⟨v, t, m, rfl, ht, cn, q⟩ := h
  refine ⟨_, (pss_cons (ps_if (PW.pt (pw_or (pt_not (pt_val (pe_clo C_is_list (hr.mono (by first | decide | omega)) (pa_cons (pv 0) pa_nil)))) (pw_or1 (pt_not (pt_val (pe_callB (cr_all rfl) rfl T.b_all bt_all (pa_cons (pe_lc (own := [("number", 2)]) (g := (gName 2)) rfl sc.nd (pi_sq (pv 0)) (blkOk_by (N := ["value", "most", "number"]) (sc := defScope ((top 30))) (by decide +kernel)) (fun _ _ _ _ _ => (pg_name (i := 2) sc.nd rfl (Or.inl rfl))) (fun _ _ _ _ _ => pts_nil) (fun _ _ _ _ _ => (pe_and (pe_clo C_is_count (hr.mono (by first | decide | omega)) (pa_cons (pv 2) pa_nil)) (pe_one (pe_cmpR op_lt (pv 2) (pv 1) (nomark _)))))) pa_nil))))))) (pss_one (ps_ret pe_bl)) pss_nil) (pss_one (ps_ret (pe_cmpR op_eq (pe_callB call_lenD rfl T.b_len bt_len (pa_cons (pe_callTy (call_dictP rfl) rfl T.b_dict bt_dict (pa_cons (pe_lc (own := [("number", 2)]) (g := (gName 2)) rfl sc.nd (pi_sq (pv 0)) (blkOk_by (N := ["value", "most", "number"]) (sc := defScope ((top 30))) (by decide +kernel)) (fun _ _ _ _ _ => (pg_name (i := 2) sc.nd rfl (Or.inl rfl))) (fun _ _ _ _ _ => pts_nil) (fun _ _ _ _ _ => (pe_tup (pa_cons (pv 2) (pa_cons pe_bl pa_nil))))) pa_nil)) pa_nil)) (pe_callB call_len_seq rfl T.b_len bt_len (pa_cons (pv 0) pa_nil)) (nomark _))))), ?_⟩
  refine ⟨_, rfl, v, t, rfl, ht, fun H1 e1 => ⟨_, rfl, ?_⟩⟩
  rw [Tr.isQ_of]
  unfold linesB at q
  cases hs : t.sq? with
  | none =>
    rw [hs] at q
    exact q _ e1
  | some l =>
    rw [hs] at q
    dsimp only at q
    obtain ⟨a, xs, rfl, sq, tv⟩ := (TrV.up e1 _ _ ht).seq hs
    have ln := tv.len
    have lim := len_of hs cn
    refine ⟨_, rfl, a, xs, rfl, sq, fun J Gd wk hG D hD => lc_bl wk hD hG l ln.symm (by rw [← ln]; exact lim) (ltC m) ?_ ?_⟩
    · rintro i y x H4 Gt hy hx e4 k
      obtain ⟨y', hy', hv⟩ := tv.at_ hx
      cases hy.symm.trans hy'
      have hv4 := TrV.up e4 _ _ hv
      refine ⟨rfl, _, rfl, x, y, rfl, hv4, fun H5 e5 => ⟨_, rfl, ?_⟩⟩
      have k' := k _ e5
      cases hv4 with
      | int i =>
        have k' : Gt (V.bl (decide (0 ≤ i) && decide (i < (m : Int)))) H5 := k'
        cases hd : decide (0 ≤ i) with
        | false =>
          rw [hd] at k'
          rw [show isC (.int i) = false from hd]
          exact itf k'
        | true =>
          rw [hd, Bool.true_and] at k'
          rw [show isC (.int i) = true from hd]
          exact itt ⟨_, rfl, _, rfl, _, _, rfl, rfl, k'⟩
      | _ => exact itf k'
    · intro H4 e4 hD4
      refine ⟨D, _, rfl, sq_of hD4, _, rfl, ?_⟩
      rw [all_map]
      have e14 := e1.trans e4
      cases ha : l.all (ltC m) with
      | false =>
        rw [ha] at q
        exact q _ e14
      | true =>
        rw [ha, Bool.true_and] at q
        obtain ⟨L, eL, eL2, bL⟩ := ints_of ha
        rw [← eL2] at q
        rw [eL] at tv
        obtain rfl := trvs_ints tv
        have lL : L.length ≤ 1000 := by rw [eL2, List.length_map]; exact lim
        refine ⟨_, rfl, a, vI L, rfl, sq.up e4, fun J Gd wk hG D2 hD2 => ?_⟩
        refine lcW wk L (vI_len L) (by rw [vI_len]; exact lL) (fun _ => true) (Tu fun (y : Nat) => [.int (y : Nat), .bl true]) Stab.tu hD2 hG ?_ ?_
        · rintro i y x H6 H5 N Gt hy e6 ⟨rfl, hx⟩ _ k
          unfold vI at hx
          rw [List.getElem?_map, hy] at hx
          cases hx
          refine ⟨Ex.refl _, rfl, ?_⟩
          refine ⟨_, rfl, (by show 2 ≤ sizeLine; decide), fun r hr5 => ?_⟩
          exact k rfl _ _ (Ex.new hr5) ⟨r, rfl, upd_same⟩
        · intro acc2 H6 e6 hD6 hacc2
          rw [filter_yes] at hacc2
          obtain ⟨ps, rfl, lps, hps⟩ := tu_list hacc2
          have pk := pairs_T (K := K) (g := fun y : Nat => y) hps
          refine ⟨D2, ps, _, rfl, sq_of hD6, pk, fun dd hdd => ?_⟩
          rw [show L.map (fun y : Nat => y) = L from List.map_id L, mergeT0]
          refine ⟨dd, _, rfl, upd_same, ?_⟩
          have e46 := e4.trans (e6.trans (Ex.new (o := .dK (kT (L.foldl addRow []))) hdd))
          refine ⟨_, rfl, a, _, rfl, (sq.up e46).sq, ?_⟩
          have hd : decide (V.int ((kT (L.foldl addRow [])).length : Nat) = V.int ((vI L).length : Nat)) = decide L.Nodup := by
            rw [← dd_len L, kT_len, vI_len]
            exact decide_eq_decide.mpr ⟨fun z => by injection z with z; omega, fun z => by rw [z]⟩
          refine ⟨rfl, ?_⟩
          rw [hd]
          exact q _ (e1.trans e46)
end
end R71

namespace R71
open B71 PySem PySem.Spec PyProof.Rows L2 Evl RZ SrtO

theorem isPl_pt {t : TV} (h : isPl t = true) : ∃ p : Nat × Nat, t = ptT p := by
  cases t with
  | tup l =>
    have h' : (decide (l.length = 2) && l.all isC) = true := h
    rw [Bool.and_eq_true, decide_eq_true_eq] at h'
    obtain ⟨h1, h2⟩ := h'
    match l, h1, h2 with
    | [x, y], _, h2 =>
      rw [List.all_cons, List.all_cons, Bool.and_eq_true, Bool.and_eq_true] at h2
      obtain ⟨h3, h4, _⟩ := h2
      cases x with
      | int i =>
        cases y with
        | int j =>
          have i0 : 0 ≤ i := of_decide_eq_true h3
          have j0 : 0 ≤ j := of_decide_eq_true h4
          exact ⟨(i.toNat, j.toNat), by unfold ptT; rw [Int.toNat_of_nonneg i0, Int.toNat_of_nonneg j0]⟩
        | _ => cases h4
      | _ => cases h3
  | _ => cases h
theorem inPl_pt {pl : Pl} {p : Nat × Nat} : inPl pl (ptT p) = decide (p ∈ pl) := by
  show (decide ((0 : Int) ≤ (p.1 : Int)) && decide ((0 : Int) ≤ (p.2 : Int)) && decide ((((p.1 : Int)).toNat, ((p.2 : Int)).toNat) ∈ pl)) = _
  rw [decide_eq_true (by omega), decide_eq_true (by omega), Int.toNat_natCast, Int.toNat_natCast]
  rfl
theorem isPl_ptT {p : Nat × Nat} : isPl (ptT p) = true := by
  show (decide (2 = 2) && (decide ((0 : Int) ≤ (p.1 : Int)) && (decide ((0 : Int) ≤ (p.2 : Int)) && true))) = true
  rw [decide_eq_true (by omega), decide_eq_true (by omega)]
  rfl
theorem inPl_no {pl : Pl} {t : TV} (h : isPl t = false) : inPl pl t = false := by
  cases e : inPl pl t with
  | false => rfl
  | true =>
    unfold inPl at e
    split at e
    · rename_i a b
      rw [Bool.and_eq_true, Bool.and_eq_true, decide_eq_true_eq, decide_eq_true_eq] at e
      have : isPl (.tup [.int a, .int b]) = true := by
        show (decide (2 = 2) && (decide (0 ≤ a) && (decide (0 ≤ b) && true))) = true
        rw [decide_eq_true e.1.1, decide_eq_true e.1.2]
        rfl
      rw [this] at h
      cases h
    · cases e
theorem pt_trv {C : Addr} {H : Hp} {v : V} {p : Nat × Nat} (h : TrV C H v (ptT p)) : ∃ r, v = .ref r ∧ Pt H r p := by
  cases h with
  | tup h q =>
    cases q with
    | cons q1 q =>
      cases q with
      | cons q2 q =>
        cases q
        cases q1
        cases q2
        exact ⟨_, rfl, h⟩
theorem any_in (pl : Pl) (p : Nat × Nat) : ((pl.map pD).any fun z => PyData.eqv z (pD p)) = decide (p ∈ pl) := by
  rw [List.any_map]
  have e : ((fun z => PyData.eqv z (pD p)) ∘ pD) = fun z => decide (z = p) := funext fun z => pD_eqv z p
  rw [e]
  cases h : decide (p ∈ pl) with
  | true => exact List.any_eq_true.mpr ⟨p, of_decide_eq_true h, decide_eq_true rfl⟩
  | false =>
    rw [List.any_eq_false]
    intro x hx
    have := of_decide_eq_false h
    rw [decide_eq_true_eq]
    intro z
    exact this (z ▸ hx)
def spRkT (C : Addr) : Sp := fun vs H Q _ => ∃ (a : Addr) (v : V) (t : TV) (tall wide : Nat) (rs : List Addr) (pl : Pl), vs = [.int tall, .int wide, .ref a, v] ∧ SqH H a (rs.map V.ref) ∧ Pts H rs pl ∧ Bd tall wide pl ∧ TrV C H v t ∧ t.cnt ≤ 1000 ∧ RetV (.bl (rooksB pl (seatsOf pl tall).length t)) H Q
def spCvT (C : Addr) : Sp := fun vs H Q _ => ∃ (a : Addr) (v : V) (t : TV) (tall wide : Nat) (rs : List Addr) (pl : Pl), vs = [.int tall, .int wide, .ref a, v] ∧ SqH H a (rs.map V.ref) ∧ Pts H rs pl ∧ Bd tall wide pl ∧ TrV C H v t ∧ t.cnt ≤ 1000 ∧ RetV (.bl (coverB pl tall wide (seatsOf pl tall).length t)) H Q
section
variable {P : Program} {w : World} {K : PySem.W.Frag} {mg : Str → Option Value} {base : Heap} {f C : Addr} {fd : FuncData}
theorem ok_spareT (F : Fun K "spare_one_another" "spare_one_another" (top 33) f fd) (T : Tx mg) : FnOk P w K mg base CX0 1 f fd ["places"] (spSpr K) := by
  have sc := sc_spare_one_another
  refine F.ok sc (fun vs H Q E h => ?_) (fun cdv A outer s H vs Q E hr h => ?_)
  · obtain ⟨r, _, _, rfl, _⟩ := h; rfl
  obtain ⟨a, rs, L, rfl, ha, hp, l16, q⟩ := h
  have hl := hp.len
  refine ⟨_, (pss_cons (ps_par (i := 1) (j := 2) rfl sc.nd rfl rfl (by decide) rfl rfl (pa_cons (pe_callTy (call_dictP rfl) rfl T.b_dict bt_dict (pa_cons (pe_lc (own := [("place", 3)]) (g := (gName 3)) rfl sc.nd (pi_sq (pv 0)) (blkOk_by (N := ["places", "rows", "columns", "place"]) (sc := defScope ((top 33))) (by decide +kernel)) (fun _ _ _ _ _ => (pg_name (i := 3) sc.nd rfl (Or.inl rfl))) (fun _ _ _ _ _ => pts_nil) (fun _ _ _ _ _ => (pe_tup (pa_cons (pe_ix (show IxR _ (rIxT K) from ix_tup) (pv 3) pe_int (fun _ _ => rfl)) (pa_cons pe_bl pa_nil))))) pa_nil)) (pa_cons (pe_callTy (call_dictP rfl) rfl T.b_dict bt_dict (pa_cons (pe_lc (own := [("place", 3)]) (g := (gName 3)) rfl sc.nd (pi_sq (pv 0)) (blkOk_by (N := ["places", "rows", "columns", "place"]) (sc := defScope ((top 33))) (by decide +kernel)) (fun _ _ _ _ _ => (pg_name (i := 3) sc.nd rfl (Or.inl rfl))) (fun _ _ _ _ _ => pts_nil) (fun _ _ _ _ _ => (pe_tup (pa_cons (pe_ix (show IxR _ (rIxT K) from ix_tup) (pv 3) pe_int (fun _ _ => rfl)) (pa_cons pe_bl pa_nil))))) pa_nil)) pa_nil)) rfl) (pss_one (ps_ret (pe_chain op_eq op_eq (pe_callB call_lenD rfl T.b_len bt_len (pa_cons (pv 1) pa_nil)) (pe_callB call_lenD rfl T.b_len bt_len (pa_cons (pv 2) pa_nil)) (pe_callB call_len_seq rfl T.b_len bt_len (pa_cons (pv 0) pa_nil)))))), ?_⟩
  refine ⟨_, rfl, a, _, rfl, ha, fun J Gd wk hG D hD => ?_⟩
  refine lcW wk L (by simp [hl]) (by simp; omega) (fun _ => true) (Tu fun (y : Nat × Nat) => [.int (y.1 : Nat), .bl true]) Stab.tu hD hG ?_ ?_
  · rintro i y x H4 H5 N Gt hy e4 ⟨rfl, hx⟩ _ k
    obtain ⟨r, p, rfl, h1, h2⟩ := pts_at (hp.up e4) hx
    cases h1.symm.trans hy
    refine ⟨Ex.refl _, rfl, ?_⟩
    refine ⟨_, rfl, r, _, _, _, rfl, rfl, st_of h2, rfl, (by show 2 ≤ sizeLine; decide), fun r5 hr5 => ?_⟩
    exact k rfl _ _ (Ex.new hr5) ⟨r5, rfl, upd_same⟩
  · intro acc H4 e4 hD4 hacc
    rw [filter_yes] at hacc
    obtain ⟨ps, rfl, lps, hps⟩ := tu_list hacc
    have pk := pairs_T (K := K) (g := fun y : Nat × Nat => y.1) hps
    refine ⟨D, ps, _, rfl, sq_of hD4, pk, fun dd hdd => ?_⟩
    rw [mergeT0]
    have e5 := e4.trans (Ex.new (o := .dK (kT ((L.map (·.1)).foldl addRow []))) hdd)
    have hd5 : upd H4 dd (.dK (kT ((L.map (·.1)).foldl addRow []))) dd = some (.dK (kT ((L.map (·.1)).foldl addRow []))) := upd_same
    generalize upd H4 dd (.dK (kT ((L.map (·.1)).foldl addRow []))) = H5 at e5 hd5 ⊢
    refine ⟨_, rfl, a, _, rfl, ha.up e5, fun J2 Gd2 wk2 hG2 D2 hD2 => ?_⟩
    refine lcW wk2 L (by simp [hl]) (by simp; omega) (fun _ => true) (Tu fun (y : Nat × Nat) => [.int (y.2 : Nat), .bl true]) Stab.tu hD2 hG2 ?_ ?_
    · rintro i y x H6 H7 N Gt hy e6 ⟨rfl, hx⟩ _ k
      obtain ⟨r, p, rfl, h1, h2⟩ := pts_at (hp.up (e5.trans e6)) hx
      cases h1.symm.trans hy
      refine ⟨Ex.refl _, rfl, ?_⟩
      refine ⟨_, rfl, r, _, _, _, rfl, rfl, st_of h2, rfl, (by show 2 ≤ sizeLine; decide), fun r5 hr5 => ?_⟩
      exact k rfl _ _ (Ex.new hr5) ⟨r5, rfl, upd_same⟩
    · intro acc2 H6 e6 hD6 hacc2
      rw [filter_yes] at hacc2
      obtain ⟨ps2, rfl, lps2, hps2⟩ := tu_list hacc2
      have pk2 := pairs_T (K := K) (g := fun y : Nat × Nat => y.2) hps2
      refine ⟨D2, ps2, _, rfl, sq_of hD6, pk2, fun d2 hd2 => ?_⟩
      rw [mergeT0]
      have x7 : Ex H6 (upd H6 d2 (.dK (kT ((L.map (·.2)).foldl addRow [])))) := Ex.new hd2
      have e7 := e5.trans (e6.trans x7)
      refine ⟨_, _, rfl, _, rfl, dd, _, rfl, x7 _ _ (e6 _ _ hd5), _, rfl, d2, _, rfl, upd_same, rfl, _, rfl, ?_⟩
      rw [kT_len, kT_len]
      have n1 := dd_len (L.map (·.1))
      have n2 := dd_len (L.map (·.2))
      rw [List.length_map] at n1 n2
      rw [← n1, ← n2] at q
      generalize ((L.map (·.1)).foldl addRow []).length = m1 at q ⊢
      generalize ((L.map (·.2)).foldl addRow []).length = m2 at q ⊢
      have c1 : decide (V.int (m1 : Int) = V.int (m2 : Int)) = decide (m1 = m2) := decide_eq_decide.mpr ⟨fun z => by injection z with z; omega, fun z => by rw [z]⟩
      rw [c1]
      cases hd : decide (m1 = m2) with
      | false =>
        have z : (decide (m1 = L.length) && decide (m2 = L.length)) = false := by
          have := of_decide_eq_false hd
          by_cases z : m1 = L.length
          · rw [decide_eq_true z, decide_eq_false (by omega)]; rfl
          · rw [decide_eq_false z]; rfl
        rw [z] at q
        exact itf (q _ e7)
      | true =>
        have hd' := of_decide_eq_true hd
        subst hd'
        refine itt ⟨_, rfl, a, _, rfl, (ha.up e7).sq, rfl, ?_⟩
        have z : decide (V.int (m1 : Int) = V.int ((rs.map V.ref).length : Nat)) = (decide (m1 = L.length) && decide (m1 = L.length)) := by
          rw [Bool.and_self]
          exact decide_eq_decide.mpr ⟨fun z => by injection z with z; rw [List.length_map, hl] at z; omega, fun z => by rw [z, List.length_map, hl]⟩
        rw [z]
        exact q _ e7
theorem ok_is_rooksT (F : Fun K "is_rooks" "is_rooks" (top 36) f fd) (R : RCl K mg C) (M : RCm K C) (T : Tx mg) (C_want_places : ClO P w K mg base "want_places" 5 ["tall", "wide", "value"] spWantPlaces) (C_is_list : ClO P w K mg base "is_list" 1 ["value"] (spIsL C)) (C_is_place2 : ClO P w K mg base "is_place_boards" 3 ["value"] (spPlT C)) (C_spare_one_another : ClO P w K mg base "spare_one_another" 1 ["places"] (spSpr K)) (C_rooks_of : ClO P w K mg base "rooks_of" 8 ["tall", "wide", "places"] spRooksOf) : FnOk P w K mg base CX0 9 f fd ["tall", "wide", "places", "value"] (spRkT C) := by
  have sc := sc_is_rooks
  refine F.ok sc (fun vs H Q E h => ?_) (fun cdv A outer s H vs Q E hr h => ?_)
  · obtain ⟨_, _, _, _, _, _, _, rfl, _⟩ := h; rfl
  obtain ⟨a, v, t, tall, wide, rs, pl, rfl, ha, hp, hb, ht, cn, q⟩ := h
  refine ⟨_, (pss_cons (ps_set (i := 4) sc.nd rfl (Or.inr rfl) (pe_clo C_want_places (hr.mono (by first | decide | omega)) (pa_cons (pv 0) (pa_cons (pv 1) (pa_cons (pv 2) pa_nil))))) (pss_cons (ps_if (PW.pt (pw_or (pt_not (pt_val (pe_clo C_is_list (hr.mono (by first | decide | omega)) (pa_cons (pv 3) pa_nil)))) (pw_or1 (pt_not (pt_val (pe_callB (cr_all rfl) rfl T.b_all bt_all (pa_cons (pe_lc (own := [("place", 5)]) (g := (gName 5)) rfl sc.nd (pi_sq (pv 3)) (blkOk_by (N := ["tall", "wide", "places", "value", "told", "place"]) (sc := defScope ((top 36))) (by decide +kernel)) (fun _ _ _ _ _ => (pg_name (i := 5) sc.nd rfl (Or.inl rfl))) (fun _ _ _ _ _ => pts_nil) (fun _ _ _ _ _ => (pe_and (pe_clo C_is_place2 (hr.mono (by first | decide | omega)) (pa_cons (pv 5) pa_nil)) (pe_one (pe_cmpR (show OpR _ _ (rInD K) from (op_inD (u65 hr))) (pv 5) (pv 4) rfl))))) pa_nil))))))) (pss_one (ps_ret pe_bl)) pss_nil) (pss_one (ps_ret (pe_and (pe_clo C_spare_one_another (hr.mono (by first | decide | omega)) (pa_cons (pv 3) pa_nil)) (pe_one (pe_cmpR op_eq (pe_callB call_len_seq rfl T.b_len bt_len (pa_cons (pv 3) pa_nil)) (pe_callB call_len_seq rfl T.b_len bt_len (pa_cons (pe_clo C_rooks_of (hr.mono (by first | decide | omega)) (pa_cons (pv 0) (pa_cons (pv 1) (pa_cons (pv 4) pa_nil)))) pa_nil)) (nomark _)))))))), ?_⟩
  refine ⟨_, rfl, _, rfl, _, rfl, a, tall, wide, rs, pl, rfl, ha, hp, hb, fun b H1 hb0 e1 hb1 => ?_⟩
  have hp1 := hp.up e1
  refine ⟨_, rfl, v, t, rfl, TrV.up e1 _ _ ht, fun H2 e2 => ⟨_, rfl, ?_⟩⟩
  have e12 := e1.trans e2
  rw [Tr.isQ_of]
  unfold rooksB at q
  cases hs : t.sq? with
  | none =>
    rw [hs] at q
    exact q _ e12
  | some l =>
    rw [hs] at q
    dsimp only at q
    obtain ⟨c, xs, rfl, sq, tv⟩ := (TrV.up e12 _ _ ht).seq hs
    have ln := tv.len
    have lim := len_of hs cn
    have mt := sq_cnt hs
    refine ⟨_, rfl, c, xs, rfl, sq, fun J Gd wk hG D hD => lc_bl wk hD hG l ln.symm (by rw [← ln]; exact lim) (inPl pl) ?_ ?_⟩
    · rintro i y x H4 Gt hy hx e4 k
      obtain ⟨y', hy', hv⟩ := tv.at_ hx
      cases hy.symm.trans hy'
      have hv4 := TrV.up e4 _ _ hv
      have my := cnt_mem (List.mem_of_getElem? hy)
      refine ⟨rfl, _, rfl, x, y, rfl, hv4, by omega, fun H5 e5 => ⟨_, rfl, ?_⟩⟩
      cases hq : isPl y with
      | false =>
        rw [inPl_no hq] at k
        exact itf (k _ e5)
      | true =>
        obtain ⟨p, rfl⟩ := isPl_pt hq
        rw [inPl_pt] at k
        obtain ⟨r, rfl, hr5⟩ := pt_trv (TrV.up e5 _ _ hv4)
        have e45 := e4.trans e5
        refine itt ⟨_, rfl, _, rfl, _, _, dp_p hr5, dp_pl ((e2.trans e45) _ _ hb1) (hp1.up (e2.trans e45)), p_sh _, ps_sh _, ?_⟩
        rw [any_in]
        exact k _ e5
    · intro H4 e4 hD4
      refine ⟨D, _, rfl, sq_of hD4, _, rfl, ?_⟩
      rw [all_map]
      have e14 := e12.trans e4
      cases hA : l.all (inPl pl) with
      | false =>
        rw [hA] at q
        exact q _ e14
      | true =>
        rw [hA, Bool.true_and] at q
        obtain ⟨L, eL, eL2, bL⟩ := pts_of hA
        rw [← eL2] at q
        have lL : L.length = l.length := by rw [eL2, List.length_map]
        rw [eL] at tv
        obtain ⟨vr, rfl, hL⟩ := trvs_pts tv
        refine ⟨_, rfl, c, vr, L, rfl, sq.up e4, hL.up e4, by omega, fun H5 e5 => ⟨_, rfl, ?_⟩⟩
        have e15 := e14.trans e5
        cases hN : (decide (L.map (·.1)).Nodup && decide (L.map (·.2)).Nodup) with
        | false =>
          rw [hN] at q
          exact itf (q _ e15)
        | true =>
          rw [hN, Bool.true_and] at q
          have e25 := e2.trans (e4.trans e5)
          refine itt ⟨_, rfl, c, _, rfl, (sq.up (e4.trans e5)).sq, ?_⟩
          refine ⟨_, rfl, _, rfl, _, rfl, b, tall, wide, rs, pl, rfl, e25 _ _ hb1, hp1.up e25, hb.sz, fun p rs' M' H6 hp0 e6 h1 h2 h3 => ?_⟩
          refine ⟨p, _, rfl, .inl (sq_of h1), rfl, ?_⟩
          have e := h3.pm.length_eq
          rw [flip_len] at e
          have e2 : decide (V.int (((vr.map V.ref).length : Nat) : Int) = V.int (((rs'.map V.ref).length : Nat) : Int)) = decide (l.length = (seatsOf pl tall).length) := decide_eq_decide.mpr (by
            rw [List.length_map, List.length_map, hL.len, h2.len, e, lL]
            constructor
            · intro h; injection h with h; omega
            · intro h; rw [h])
          rw [e2]
          exact q _ (e15.trans e6)
theorem nd_len {L : List Nat} {m : Nat} (h : L.Nodup) (lt : ∀ x ∈ L, x < m) : L.length ≤ m := nd_lt h lt
theorem linesB_is {m : Nat} {t : TV} (h : linesB m t = true) : ∃ l L, t.sq? = some l ∧ l = L.map (fun (n : Nat) => B71.Tr.int (n : Int)) ∧ nats t = L ∧ L.Nodup ∧ ∀ n ∈ L, n < m := by
  unfold linesB at h
  cases hs : t.sq? with
  | none => rw [hs] at h; cases h
  | some l =>
    rw [hs] at h
    dsimp only at h
    rw [Bool.and_eq_true, decide_eq_true_eq] at h
    obtain ⟨L, e1, e2, b⟩ := ints_of h.1
    refine ⟨l, L, rfl, e1, ?_, by rw [e2]; exact h.2, b⟩
    unfold nats
    rw [hs]
    exact e2.symm
theorem trvs2 {C : Addr} {H : Hp} {xs : List V} {l : List TV} (h : TrVs C H xs l) (h2 : l.length = 2) : ∃ v u t s, xs = [v, u] ∧ l = [t, s] ∧ TrV C H v t ∧ TrV C H u s := by
  cases h with
  | nil => cases h2
  | cons h1 h =>
    cases h with
    | nil => cases h2
    | cons h3 h =>
      cases h with
      | nil => exact ⟨_, _, _, _, rfl, rfl, h1, h3⟩
      | cons h4 h => simp at h2
theorem coverB_no {pl : Pl} {tall wide n : Nat} {l : List TV} (h : l.length ≠ 2) : coverB pl tall wide n (.tup l) = false := by
  match l, h with
  | [], _ => rfl
  | [_], _ => rfl
  | [_, _], h => exact absurd rfl h
  | _ :: _ :: _ :: _, _ => rfl
theorem ok_is_coverT (F : Fun K "is_cover" "is_cover" (top 37) f fd) (R : RCl K mg C) (M : RCm K C) (T : Tx mg) (C_want_places : ClO P w K mg base "want_places" 5 ["tall", "wide", "value"] spWantPlaces) (C_unlike_counts : ClO P w K mg base "unlike_counts" 3 ["value", "most"] (spUnl C)) (C_rooks_of : ClO P w K mg base "rooks_of" 8 ["tall", "wide", "places"] spRooksOf) : FnOk P w K mg base CX0 9 f fd ["tall", "wide", "places", "value"] (spCvT C) := by
  have sc := sc_is_cover
  refine F.ok sc (fun vs H Q E h => ?_) (fun cdv A outer s H vs Q E hr h => ?_)
  · obtain ⟨_, _, _, _, _, _, _, rfl, _⟩ := h; rfl
  obtain ⟨a, v, t, tall, wide, rs, pl, rfl, ha, hp, hb, ht, cn, q⟩ := h
  have t4 := hb.t4
  have w4 := hb.w4
  refine ⟨_, (pss_cons (ps_set (i := 4) sc.nd rfl (Or.inl rfl) (pe_clo C_want_places (hr.mono (by first | decide | omega)) (pa_cons (pv 0) (pa_cons (pv 1) (pa_cons (pv 2) pa_nil))))) (pss_cons (ps_if (PW.pt (pw_or (pt_not (pt_val (pe_callB call_isi rfl T.b_isinstance bt_isinstance (pa_cons (pv 3) (pa_cons (pe_bltn (v := .ty "tuple") rfl T.b_tuple bt_tuple rfl) pa_nil))))) (pw_or1 (pt_cmpR op_ne (pe_callB call_len_seq rfl T.b_len bt_len (pa_cons (pv 3) pa_nil)) pe_int (nomark _))))) (pss_one (ps_ret pe_bl)) pss_nil) (pss_cons (ps_asg (pv 3) (pg_tup rfl (pgs_cons (pg_name (i := 5) sc.nd rfl (Or.inr rfl)) (pgs_cons (pg_name (i := 6) sc.nd rfl (Or.inr rfl)) pgs_nil)))) (pss_cons (ps_if (PW.pt (pw_or (pt_not (pt_val (pe_clo C_unlike_counts (hr.mono (by first | decide | omega)) (pa_cons (pv 5) (pa_cons (pv 0) pa_nil))))) (pw_or1 (pt_not (pt_val (pe_clo C_unlike_counts (hr.mono (by first | decide | omega)) (pa_cons (pv 6) (pa_cons (pv 1) pa_nil)))))))) (pss_one (ps_ret pe_bl)) pss_nil) (pss_cons (ps_if (pt_not (pt_val (pe_callB (cr_all rfl) rfl T.b_all bt_all (pa_cons (pe_lc (own := [("row", 7), ("column", 8)]) (g := (gTup K 2 (gCons (gName 7) (gCons (gName 8) gNil)))) rfl sc.nd (pi_list (pv 4)) (blkOk_by (N := ["tall", "wide", "places", "value", "told", "rows", "columns", "row", "column"]) (sc := defScope ((top 37))) (by decide +kernel)) (fun _ _ _ _ _ => (pg_tup rfl (pgs_cons (pg_name (i := 7) sc.nd rfl (Or.inl rfl)) (pgs_cons (pg_name (i := 8) sc.nd rfl (Or.inl rfl)) pgs_nil)))) (fun _ _ _ _ _ => pts_nil) (fun _ _ _ _ _ => (pe_or (pe_cmpR (show OpR _ _ (rIn K false) from op_in_seq) (pv 7) (pv 5) rfl) (pe_one (pe_cmpR (show OpR _ _ (rIn K false) from op_in_seq) (pv 8) (pv 6) rfl))))) pa_nil)))) (pss_one (ps_ret pe_bl)) pss_nil) (pss_one (ps_ret (pe_cmpR op_eq (pe_op op_add (pe_callB call_len_seq rfl T.b_len bt_len (pa_cons (pv 5) pa_nil)) (pe_callB call_len_seq rfl T.b_len bt_len (pa_cons (pv 6) pa_nil))) (pe_callB call_len_seq rfl T.b_len bt_len (pa_cons (pe_clo C_rooks_of (hr.mono (by first | decide | omega)) (pa_cons (pv 0) (pa_cons (pv 1) (pa_cons (pv 4) pa_nil)))) pa_nil)) (nomark _))))))))), ?_⟩
  refine ⟨_, rfl, _, rfl, _, rfl, a, tall, wide, rs, pl, rfl, ha, hp, hb, fun b H1 hb0 e1 hb1 => ?_⟩
  have hp1 := hp.up e1
  have ht1 := TrV.up e1 _ _ ht
  obtain ⟨ty, z⟩ := ht1.ty R M
  refine ⟨_, rfl, v, _, ty, _, t.isU, rfl, .ty "tuple", z.tx, z.kT, _, rfl, ?_⟩
  clear z
  cases ht1 with
  | tup hv tv =>
    rename_i c xs l
    refine itf ?_
    have ln := tv.len
    refine ⟨_, rfl, c, _, rfl, .inr (st_of hv), rfl, _, rfl, ?_⟩
    have c2 : decide (V.int (xs.length : Nat) = V.int 2) = decide (l.length = 2) := decide_eq_decide.mpr ⟨fun z => by injection z with z; omega, fun z => by rw [← ln, z]; rfl⟩
    rw [show (!decide (V.int (xs.length : Nat) = V.int 2)) = !decide (l.length = 2) by rw [c2]]
    by_cases l2 : l.length = 2
    · rw [decide_eq_true l2]
      refine itf ?_
      obtain ⟨x, y, tx, ty, rfl, rfl, hx, hy⟩ := trvs2 tv l2
      have q' : RetV (.bl (linesB tall tx && (linesB wide ty && (covB pl (nats tx) (nats ty) && decide ((nats tx).length + (nats ty).length = (seatsOf pl tall).length))))) H Q := q
      have cnx : tx.cnt + ty.cnt + 1 ≤ 1000 := by
        have z : B71.Tr.cnt (.tup [tx, ty]) = tx.cnt + (ty.cnt + 0) + 1 := by rw [Tr.cnt, cntAll, cntAll, cntAll]
        omega
      refine ⟨_, rfl, c, _, rfl, st_of hv, rfl, _, _, rfl, _, _, rfl, rfl, ?_⟩
      refine ⟨_, rfl, _, rfl, x, tx, tall, rfl, hx, by omega, fun H2 e2 => ⟨_, rfl, ?_⟩⟩
      have e12 := e1.trans e2
      cases hl1 : linesB tall tx with
      | false =>
        rw [hl1] at q'
        exact itt (q' _ e12)
      | true =>
        rw [hl1, Bool.true_and] at q'
        refine itf ⟨_, rfl, _, rfl, y, ty, wide, rfl, TrV.up e2 _ _ hy, by omega, fun H3 e3 => ⟨_, rfl, ?_⟩⟩
        have e13 := e12.trans e3
        cases hl2 : linesB wide ty with
        | false =>
          rw [hl2] at q'
          exact itt (q' _ e13)
        | true =>
          rw [hl2, Bool.true_and] at q'
          obtain ⟨l1, R0, s1, eR, nR, ndR, bR⟩ := linesB_is hl1
          obtain ⟨l2, C0, s2, eC, nC, ndC, bC⟩ := linesB_is hl2
          rw [nR, nC] at q'
          obtain ⟨ax, xs1, rfl, sqx, tvx⟩ := (TrV.up (e2.trans e3) _ _ hx).seq s1
          obtain ⟨ay, ys1, rfl, sqy, tvy⟩ := (TrV.up (e2.trans e3) _ _ hy).seq s2
          rw [eR] at tvx
          rw [eC] at tvy
          obtain rfl := trvs_ints tvx
          obtain rfl := trvs_ints tvy
          refine itf ?_
          have hb3 := e3 _ _ (e2 _ _ hb1)
          have hp3 := hp.up e13
          have hl := hp.len
          have p16 := hb.p16
          refine ⟨_, rfl, b, rfl, ⟨_, sq_of hb3⟩, fun D hD => ?_⟩
          refine lc_bl (walk_list (K := K) (a := b) (xs := rs.map V.ref)) hD (fun H5 e5 => sq_of (e5 _ _ hb3)) pl (by simp [hl]) (by simp [hl]; omega) (fun z => decide (z.1 ∈ R0) || decide (z.2 ∈ C0)) ?_ ?_
          · rintro i z x' H4 Gt hz hx' e4 k
            obtain ⟨r, p, rfl, h1, h2⟩ := pts_at (hp3.up e4) hx'
            cases h1.symm.trans hz
            refine ⟨r, _, rfl, st_of h2, rfl, _, _, rfl, _, _, rfl, rfl, rfl, ?_⟩
            refine ⟨_, rfl, _, rfl, ax, _, rfl, (sqx.up e4).sq, rfl, flat_is _, _, rfl, ?_⟩
            show if (inV (.int (z.1 : Int)) (vI R0)) = true then _ else _
            rw [in_is]
            have k' := k _ (Ex.refl _)
            cases g : decide (z.1 ∈ R0) with
            | true =>
              rw [g] at k'
              exact itt k'
            | false =>
              rw [g, Bool.false_or] at k'
              refine itf ⟨_, rfl, _, rfl, ay, _, rfl, (sqy.up e4).sq, rfl, flat_is _, ?_⟩
              show Gt (V.bl (inV (.int (z.2 : Int)) (vI C0))) H4
              rw [in_is]
              exact k'
          · intro H4 e4 hD4
            refine ⟨D, _, rfl, sq_of hD4, _, rfl, ?_⟩
            have ec : (pl.map fun z => decide (z.1 ∈ R0) || decide (z.2 ∈ C0)).all id = covB pl R0 C0 := by rw [List.all_map]; rfl
            rw [ec]
            have e14 := e13.trans e4
            cases hc : covB pl R0 C0 with
            | false =>
              rw [hc] at q'
              exact itt (q' _ e14)
            | true =>
              rw [hc, Bool.true_and] at q'
              refine itf ⟨_, rfl, ax, _, rfl, (sqx.up e4).sq, _, rfl, ay, _, rfl, (sqy.up e4).sq, _, _, rfl, rfl, ?_⟩
              refine ⟨_, rfl, _, rfl, _, rfl, b, tall, wide, rs, pl, rfl, e4 _ _ hb3, hp3.up e4, hb.sz, fun p rs' M' H6 hp0 e6 h1 h2 h3 => ?_⟩
              refine ⟨p, _, rfl, .inl (sq_of h1), rfl, ?_⟩
              have e := h3.pm.length_eq
              rw [flip_len] at e
              have e2 : decide (V.int ((((vI R0).length : Nat) : Int) + (((vI C0).length : Nat) : Int)) = V.int (((rs'.map V.ref).length : Nat) : Int)) = decide (R0.length + C0.length = (seatsOf pl tall).length) := decide_eq_decide.mpr (by
                rw [List.length_map, vI_len, vI_len, h2.len, e]
                constructor
                · intro h; injection h with h; omega
                · intro h; rw [← h]; simp)
              rw [e2]
              exact q' _ (e14.trans e6)
    · rw [decide_eq_false l2]
      rw [coverB_no l2] at q
      exact itt (q _ e1)
  | non => exact itt (q _ e1)
  | bl _ => exact itt (q _ e1)
  | int _ => exact itt (q _ e1)
  | str _ => exact itt (q _ e1)
  | rat _ => exact itt (q _ e1)
  | lst _ _ => exact itt (q _ e1)
  | dk _ => exact itt (q _ e1)
  | dt _ => exact itt (q _ e1)
end
end R71

namespace R71
open B71 PySem PySem.Spec PyProof.Rows L2 Evl RZ SrtO

def spLC (C : Addr) : Sp := fun vs H Q _ => ∃ (v : V) (t : TV) (m : Nat), vs = [v, .int m] ∧ TrV C H v t ∧ RetV (.bl (ltC m t)) H Q
def spLP (C : Addr) : Sp := fun vs H Q _ => ∃ (v : V) (t : TV) (a : Addr) (rs : List Addr) (pl : Pl), vs = [v, .ref a] ∧ TrV C H v t ∧ t.cnt ≤ 1000 ∧ H a = some (.lst (rs.map V.ref)) ∧ Pts H rs pl ∧ (∀ p ∈ pl, p.1 < 99 ∧ p.2 < 99) ∧ RetV (.bl (inPl pl t)) H Q
def spRS (C : Addr) : Sp := fun vs H Q _ => ∃ (v : V) (t : TV) (a : Addr) (rs : List Addr) (pl : Pl) (due : Nat), vs = [.ref a, .int due, v] ∧ TrV C H v t ∧ t.cnt ≤ 1000 ∧ H a = some (.lst (rs.map V.ref)) ∧ Pts H rs pl ∧ (∀ p ∈ pl, p.1 < 99 ∧ p.2 < 99) ∧ RetV (.bl (rooksB pl due t)) H Q
def spCS (C : Addr) : Sp := fun vs H Q _ => ∃ (v : V) (t : TV) (a : Addr) (rs : List Addr) (pl : Pl) (tall wide due : Nat), vs = [.int tall, .int wide, .ref a, .int due, v] ∧ TrV C H v t ∧ t.cnt ≤ 1000 ∧ H a = some (.lst (rs.map V.ref)) ∧ Pts H rs pl ∧ pl.length ≤ 16 ∧ tall ≤ 99 ∧ wide ≤ 99 ∧ RetV (.bl (coverB pl tall wide due t)) H Q
theorem inPl_lt {pl : Pl} {x y : TV} (b : ∀ p ∈ pl, p.1 < 99 ∧ p.2 < 99) (h : ([x, y].all (ltC 99)) = false) : inPl pl (.tup [x, y]) = false := by
  cases e : inPl pl (.tup [x, y]) with
  | false => rfl
  | true =>
    unfold inPl at e
    split at e
    · rename_i z a c ez
      cases ez
      rw [Bool.and_eq_true, Bool.and_eq_true, decide_eq_true_eq, decide_eq_true_eq, decide_eq_true_eq] at e
      obtain ⟨⟨h1, h2⟩, h3⟩ := e
      obtain ⟨b1, b2⟩ := b _ h3
      have k1 : ltC 99 (.int a) = true := by show (decide (0 ≤ a) && decide (a < ((99 : Nat) : Int))) = true; rw [decide_eq_true h1, decide_eq_true (by omega)]; rfl
      have k2 : ltC 99 (.int c) = true := by show (decide (0 ≤ c) && decide (c < ((99 : Nat) : Int))) = true; rw [decide_eq_true h2, decide_eq_true (by omega)]; rfl
      rw [List.all_cons, List.all_cons, k1, k2] at h
      cases h
    · cases e
theorem lt_pt {x y : TV} (h : ([x, y].all (ltC 99)) = true) : ∃ p : Nat × Nat, B71.Tr.tup [x, y] = ptT p := by
  obtain ⟨L, e, _, _⟩ := ints_of h
  match L, e with
  | [n, m], e =>
    injection e with e1 e2
    injection e2 with e2 _
    exact ⟨(n, m), by rw [e1, e2]; rfl⟩
  | [], e => cases e
  | [_], e => simp at e
  | _ :: _ :: _ :: _, e => simp at e
theorem inPl_no2 {pl : Pl} {l : List TV} (h : l.length ≠ 2) : inPl pl (.tup l) = false := by
  match l, h with
  | [], _ => rfl
  | [_], _ => unfold inPl; split <;> simp_all
  | [_, _], h => exact absurd rfl h
  | _ :: _ :: _ :: _, _ => unfold inPl; split <;> simp_all
section
variable {P : Program} {w : World} {K : PySem.W.Frag} {mg : Str → Option Value} {base : Heap} {f C : Addr} {fd : FuncData}
theorem sc__law_is_count : FnScope ["value", "most"] ["value", "most"] (defScope (top 44)) := ⟨rfl, rfl, rfl, by decide +kernel, rfl, by decide +kernel, by decide +kernel⟩
theorem ok_law_is_count (F : Fun K "_law_is_count" "_law_is_count" (top 44) f fd) (R : RCl K mg C) (M : RCm K C) (T : Tx mg) : FnOk P w K mg base CX0 1 f fd ["value", "most"] (spLC C) := by
  have sc := sc__law_is_count
  refine F.ok sc (fun vs H Q E h => ?_) (fun cdv A outer s H vs Q E hr h => ?_)
  · obtain ⟨_, _, _, rfl, _⟩ := h; rfl
  obtain ⟨v, t, m, rfl, ht, q⟩ := h
  obtain ⟨ty, z⟩ := ht.ty R M
  refine ⟨_, (pss_one (ps_ret (pe_and (pe_callB call_isi rfl T.b_isinstance bt_isinstance (pa_cons (pv 0) (pa_cons (pe_bltn (v := .ty "int") rfl T.b_int bt_int rfl) pa_nil))) (pe_and (pe_not (pe_callB call_isi rfl T.b_isinstance bt_isinstance (pa_cons (pv 0) (pa_cons (pe_bltn (v := .ty "bool") rfl T.b_bool bt_bool rfl) pa_nil)))) (pe_one (pe_chain op_le op_lt pe_int (pv 0) (pv 1))))))), ?_⟩
  refine ⟨_, rfl, v, _, ty, _, _, rfl, .ty "int", z.tx, z.kI, _, rfl, ?_⟩
  have fin := q _ (Ex.refl _)
  cases ht with
  | int i =>
    refine itt ⟨_, rfl, _, _, ty, _, _, rfl, .ty "bool", z.tx, z.kB, _, rfl, _, rfl, ?_⟩
    refine itt ?_
    have fin' : Q (.bl (decide (0 ≤ i) && decide (i < (m : Int)))) H := fin
    refine ⟨_, rfl, _, _, rfl, rfl, _, rfl, ?_⟩
    cases hd : decide (0 ≤ i) with
    | false =>
      rw [hd] at fin'
      exact itf fin'
    | true =>
      rw [hd, Bool.true_and] at fin'
      exact itt ⟨_, rfl, _, _, rfl, rfl, fin'⟩
  | bl b => exact itt ⟨_, rfl, _, _, ty, _, _, rfl, .ty "bool", z.tx, z.kB, _, rfl, _, rfl, itf fin⟩
  | _ => exact itf fin
theorem sc__law_is_place : FnScope ["value", "places", "number"] ["value", "places"] (defScope (top 45)) := ⟨rfl, rfl, rfl, by decide +kernel, rfl, by decide +kernel, by decide +kernel⟩
theorem ok_law_is_place (F : Fun K "_law_is_place" "_law_is_place" (top 45) f fd) (R : RCl K mg C) (M : RCm K C) (T : Tx mg) (C__law_is_count : ClO P w K mg base "_law_is_count" 1 ["value", "most"] (spLC C)) : FnOk P w K mg base CX0 2 f fd ["value", "places"] (spLP C) := by
  have sc := sc__law_is_place
  refine F.ok sc (fun vs H Q E h => ?_) (fun cdv A outer s H vs Q E hr h => ?_)
  · obtain ⟨_, _, _, _, _, rfl, _⟩ := h; rfl
  obtain ⟨v, t, a, rs, pl, rfl, ht, cn, ha, hp, b9, q⟩ := h
  refine ⟨_, (pss_cons (ps_if (PW.pt (pw_or (pt_not (pt_val (pe_callB call_isi rfl T.b_isinstance bt_isinstance (pa_cons (pv 0) (pa_cons (pe_bltn (v := .ty "tuple") rfl T.b_tuple bt_tuple rfl) pa_nil))))) (pw_or1 (pt_cmpR op_ne (pe_callB call_len_seq rfl T.b_len bt_len (pa_cons (pv 0) pa_nil)) pe_int (nomark _))))) (pss_one (ps_ret pe_bl)) pss_nil) (pss_one (ps_ret (pe_and (pe_callB (cr_all rfl) rfl T.b_all bt_all (pa_cons (pe_lc (own := [("number", 2)]) (g := (gName 2)) rfl sc.nd (pi_tup (pv 0)) (blkOk_by (N := ["value", "places", "number"]) (sc := defScope ((top 45))) (by decide +kernel)) (fun _ _ _ _ _ => (pg_name (i := 2) sc.nd rfl (Or.inl rfl))) (fun _ _ _ _ _ => pts_nil) (fun _ _ _ _ _ => (pe_clo C__law_is_count (hr.mono (by first | decide | omega)) (pa_cons (pv 2) (pa_cons pe_int pa_nil))))) pa_nil)) (pe_one (pe_cmpR (op_inD (u65 hr)) (pv 0) (pv 1) rfl)))))), ?_⟩
  obtain ⟨ty, z⟩ := ht.ty R M
  refine ⟨_, rfl, v, _, ty, _, t.isU, rfl, .ty "tuple", z.tx, z.kT, _, rfl, ?_⟩
  clear z
  cases ht with
  | tup hv tv =>
    rename_i c xs l
    refine itf ?_
    have ln := tv.len
    refine ⟨_, rfl, c, _, rfl, .inr (st_of hv), rfl, _, rfl, ?_⟩
    have c2 : decide (V.int (xs.length : Nat) = V.int 2) = decide (l.length = 2) := decide_eq_decide.mpr ⟨fun z => by injection z with z; omega, fun z => by rw [← ln, z]; rfl⟩
    rw [show (!decide (V.int (xs.length : Nat) = V.int 2)) = !decide (l.length = 2) by rw [c2]]
    by_cases l2 : l.length = 2
    · rw [decide_eq_true l2]
      refine itf ?_
      obtain ⟨x, y, tx, ty, rfl, rfl, hx, hy⟩ := trvs2 tv l2
      refine ⟨_, rfl, c, rfl, ⟨_, st_of hv⟩, fun D hD => ?_⟩
      refine lc_bl (walk_tup (K := K) (a := c) (xs := [x, y])) hD (fun H4 e4 => st_of (e4 _ _ hv)) [tx, ty] rfl (by show 2 ≤ 1000; decide) (ltC 99) ?_ ?_
      · rintro i y' x' H4 Gt hy' hx' e4 k
        obtain ⟨y2, hy2, hv2⟩ := tv.at_ hx'
        cases hy'.symm.trans hy2
        exact ⟨rfl, _, rfl, x', y', 99, rfl, TrV.up e4 _ _ hv2, fun H5 e5 => k _ e5⟩
      · intro H4 e4 hD4
        refine ⟨D, _, rfl, sq_of hD4, _, rfl, ?_⟩
        rw [all_map]
        cases hA : [tx, ty].all (ltC 99) with
        | false =>
          rw [inPl_lt b9 hA] at q
          exact itf (q _ e4)
        | true =>
          obtain ⟨p, ep⟩ := lt_pt hA
          rw [ep, inPl_pt] at q
          have ht4 : TrV C H4 (.ref c) (ptT p) := ep ▸ TrV.up e4 _ _ (.tup hv tv)
          obtain ⟨r, er, hr4⟩ := pt_trv ht4
          cases er
          refine itt ⟨_, rfl, _, rfl, _, _, dp_p hr4, dp_pl (e4 _ _ ha) (hp.up e4), p_sh _, ps_sh _, ?_⟩
          rw [any_in]
          exact q _ e4
    · rw [decide_eq_false l2]
      rw [inPl_no2 l2] at q
      exact itt (q _ (Ex.refl _))
  | non => exact itt (q _ (Ex.refl _))
  | bl _ => exact itt (q _ (Ex.refl _))
  | int _ => exact itt (q _ (Ex.refl _))
  | str _ => exact itt (q _ (Ex.refl _))
  | rat _ => exact itt (q _ (Ex.refl _))
  | lst _ _ => exact itt (q _ (Ex.refl _))
  | dk _ => exact itt (q _ (Ex.refl _))
  | dt _ => exact itt (q _ (Ex.refl _))
theorem sc__law_rooks_seen : FnScope ["places", "due", "value", "rows", "columns", "one"] ["places", "due", "value"] (defScope (top 46)) := ⟨rfl, rfl, rfl, by decide +kernel, rfl, by decide +kernel, by decide +kernel⟩
theorem ok_law_rooks_seen (F : Fun K "_law_rooks_seen" "_law_rooks_seen" (top 46) f fd) (R : RCl K mg C) (M : RCm K C) (T : Tx mg) (C__law_is_place : ClO P w K mg base "_law_is_place" 2 ["value", "places"] (spLP C)) : FnOk P w K mg base CX0 3 f fd ["places", "due", "value"] (spRS C) := by
  have sc := sc__law_rooks_seen
  refine F.ok sc (fun vs H Q E h => ?_) (fun cdv A outer s H vs Q E hr h => ?_)
  · obtain ⟨_, _, _, _, _, _, rfl, _⟩ := h; rfl
  obtain ⟨v, t, a, rs, pl, due, rfl, ht, cn, ha, hp, b9, q⟩ := h
  refine ⟨_, (pss_cons (ps_if (PW.pt (pw_or (pt_not (pt_val (pe_callB call_isiT rfl T.b_isinstance bt_isinstance (pa_cons (pv 2) (pa_cons (pe_tup (pa_cons (pe_bltn (v := .ty "list") rfl T.b_list bt_list rfl) (pa_cons (pe_bltn (v := .ty "tuple") rfl T.b_tuple bt_tuple rfl) pa_nil))) pa_nil))))) (pw_or (pt_cmpR op_ne (pe_callB call_len_seq rfl T.b_len bt_len (pa_cons (pv 2) pa_nil)) (pv 1) (nomark _)) (pw_or1 (pt_not (pt_val (pe_callB (cr_all rfl) rfl T.b_all bt_all (pa_cons (pe_lc (own := [("one", 5)]) (g := (gName 5)) rfl sc.nd (pi_sq (pv 2)) (blkOk_by (N := ["places", "due", "value", "rows", "columns", "one"]) (sc := defScope ((top 46))) (by decide +kernel)) (fun _ _ _ _ _ => (pg_name (i := 5) sc.nd rfl (Or.inl rfl))) (fun _ _ _ _ _ => pts_nil) (fun _ _ _ _ _ => (pe_clo C__law_is_place (hr.mono (by first | decide | omega)) (pa_cons (pv 5) (pa_cons (pv 0) pa_nil))))) pa_nil)))))))) (pss_one (ps_ret pe_bl)) pss_nil) (pss_cons (ps_par (i := 3) (j := 4) rfl sc.nd rfl rfl (by decide) rfl rfl (pa_cons (pe_callTy (call_dictP rfl) rfl T.b_dict bt_dict (pa_cons (pe_lc (own := [("one", 5)]) (g := (gName 5)) rfl sc.nd (pi_sq (pv 2)) (blkOk_by (N := ["places", "due", "value", "rows", "columns", "one"]) (sc := defScope ((top 46))) (by decide +kernel)) (fun _ _ _ _ _ => (pg_name (i := 5) sc.nd rfl (Or.inl rfl))) (fun _ _ _ _ _ => pts_nil) (fun _ _ _ _ _ => (pe_tup (pa_cons (pe_ix (show IxR _ (rIxT K) from ix_tup) (pv 5) pe_int (fun _ _ => rfl)) (pa_cons pe_bl pa_nil))))) pa_nil)) (pa_cons (pe_callTy (call_dictP rfl) rfl T.b_dict bt_dict (pa_cons (pe_lc (own := [("one", 5)]) (g := (gName 5)) rfl sc.nd (pi_sq (pv 2)) (blkOk_by (N := ["places", "due", "value", "rows", "columns", "one"]) (sc := defScope ((top 46))) (by decide +kernel)) (fun _ _ _ _ _ => (pg_name (i := 5) sc.nd rfl (Or.inl rfl))) (fun _ _ _ _ _ => pts_nil) (fun _ _ _ _ _ => (pe_tup (pa_cons (pe_ix (show IxR _ (rIxT K) from ix_tup) (pv 5) pe_int (fun _ _ => rfl)) (pa_cons pe_bl pa_nil))))) pa_nil)) pa_nil)) rfl) (pss_one (ps_ret (pe_and (pe_cmpR op_eq (pe_callB call_lenD rfl T.b_len bt_len (pa_cons (pv 3) pa_nil)) (pv 1) (nomark _)) (pe_one (pe_cmpR op_eq (pe_callB call_lenD rfl T.b_len bt_len (pa_cons (pv 4) pa_nil)) (pv 1) (nomark _)))))))), ?_⟩
  refine ⟨_, rfl, (by show 2 ≤ sizeLine; decide), fun p hp0 => ?_⟩
  have e1 : Ex H (upd H p (.tup [.ty "list", .ty "tuple"])) := Ex.new hp0
  obtain ⟨ty, z⟩ := (TrV.up e1 _ _ ht).ty R M
  refine ⟨v, p, _, ty, _, t.isQ, rfl, upd_same, .cons (.ty "list") (.cons (.ty "tuple") .nil), z.tx, kit_any2 z.kL z.kT, _, rfl, ?_⟩
  clear z
  generalize upd H p (.tup [.ty "list", .ty "tuple"]) = H1 at e1
  rw [Tr.isQ_of]
  unfold rooksB at q
  cases hs : t.sq? with
  | none =>
    rw [hs] at q
    exact itt (q _ e1)
  | some l =>
    rw [hs] at q
    dsimp only at q
    refine itf ?_
    obtain ⟨c, xs, rfl, sq, tv⟩ := (TrV.up e1 _ _ ht).seq hs
    have ln := tv.len
    have lim := len_of hs cn
    have mt := sq_cnt hs
    refine ⟨_, rfl, c, xs, rfl, sq.sq, _, rfl, rfl, _, rfl, ?_⟩
    have c2 : decide (V.int (xs.length : Nat) = V.int (due : Nat)) = decide (l.length = due) := decide_eq_decide.mpr ⟨fun z => by injection z with z; omega, fun z => by rw [← ln, z]⟩
    rw [show (!decide (V.int (xs.length : Nat) = V.int (due : Nat))) = !decide (l.length = due) by rw [c2]]
    by_cases l2 : l.length = due
    · rw [decide_eq_true l2]
      rw [decide_eq_true l2, Bool.and_true] at q
      refine itf ?_
      refine ⟨_, rfl, c, xs, rfl, sq, fun J Gd wk hG D hD => lc_bl wk hD hG l ln.symm (by rw [← ln]; exact lim) (inPl pl) ?_ ?_⟩
      · rintro i y x H4 Gt hy hx e4 k
        obtain ⟨y', hy', hv⟩ := tv.at_ hx
        cases hy.symm.trans hy'
        have my := cnt_mem (List.mem_of_getElem? hy)
        exact ⟨rfl, _, rfl, _, rfl, x, y, a, rs, pl, rfl, TrV.up e4 _ _ hv, by omega, (e1.trans e4) _ _ ha, hp.up (e1.trans e4), b9, fun H5 e5 => k _ e5⟩
      · intro H4 e4 hD4
        refine ⟨D, _, rfl, sq_of hD4, _, rfl, ?_⟩
        rw [all_map]
        have e14 := e1.trans e4
        cases hA : l.all (inPl pl) with
        | false =>
          rw [hA] at q
          exact itt (q _ e14)
        | true =>
          rw [hA, Bool.true_and] at q
          refine itf ?_
          obtain ⟨L, eL, eL2, bL⟩ := pts_of hA
          rw [← eL2] at q
          have lL : L.length = l.length := by rw [eL2, List.length_map]
          rw [eL] at tv
          obtain ⟨vr, rfl, hL⟩ := trvs_pts tv
          have hl := hL.len
          replace sq := sq.up e4
          replace hL := hL.up e4
          replace e1 := e14
          clear hD hD4 wk hG
          generalize H4 = H4 at *
          refine ⟨_, rfl, c, _, rfl, sq, fun J Gd wk hG D hD => ?_⟩
          refine lcW wk L (by simp [hl]) (by simp; omega) (fun _ => true) (Tu fun (y : Nat × Nat) => [.int (y.1 : Nat), .bl true]) Stab.tu hD hG ?_ ?_
          · rintro i y x H5 H6 N Gt hy e5 ⟨rfl, hx⟩ _ k
            obtain ⟨r, p, rfl, h1, h2⟩ := pts_at (hL.up e5) hx
            cases h1.symm.trans hy
            refine ⟨Ex.refl _, rfl, ?_⟩
            refine ⟨_, rfl, r, _, _, _, rfl, rfl, st_of h2, rfl, (by show 2 ≤ sizeLine; decide), fun r5 hr5 => ?_⟩
            exact k rfl _ _ (Ex.new hr5) ⟨r5, rfl, upd_same⟩
          · intro acc H6 e6 hD6 hacc
            rw [filter_yes] at hacc
            obtain ⟨ps, rfl, lps, hps⟩ := tu_list hacc
            have pk := pairs_T (K := K) (g := fun y : Nat × Nat => y.1) hps
            refine ⟨D, ps, _, rfl, sq_of hD6, pk, fun dd hdd => ?_⟩
            rw [mergeT0]
            have e7 := e6.trans (Ex.new (o := .dK (kT ((L.map (·.1)).foldl addRow []))) hdd)
            have hd7 : upd H6 dd (.dK (kT ((L.map (·.1)).foldl addRow []))) dd = some (.dK (kT ((L.map (·.1)).foldl addRow []))) := upd_same
            generalize upd H6 dd (.dK (kT ((L.map (·.1)).foldl addRow []))) = H7 at e7 hd7 ⊢
            refine ⟨_, rfl, c, _, rfl, sq.up e7, fun J2 Gd2 wk2 hG2 D2 hD2 => ?_⟩
            refine lcW wk2 L (by simp [hl]) (by simp; omega) (fun _ => true) (Tu fun (y : Nat × Nat) => [.int (y.2 : Nat), .bl true]) Stab.tu hD2 hG2 ?_ ?_
            · rintro i y x H8 H9 N Gt hy e8 ⟨rfl, hx⟩ _ k
              obtain ⟨r, p, rfl, h1, h2⟩ := pts_at (hL.up (e7.trans e8)) hx
              cases h1.symm.trans hy
              refine ⟨Ex.refl _, rfl, ?_⟩
              refine ⟨_, rfl, r, _, _, _, rfl, rfl, st_of h2, rfl, (by show 2 ≤ sizeLine; decide), fun r5 hr5 => ?_⟩
              exact k rfl _ _ (Ex.new hr5) ⟨r5, rfl, upd_same⟩
            · intro acc2 H8 e8 hD8 hacc2
              rw [filter_yes] at hacc2
              obtain ⟨ps2, rfl, lps2, hps2⟩ := tu_list hacc2
              have pk2 := pairs_T (K := K) (g := fun y : Nat × Nat => y.2) hps2
              refine ⟨D2, ps2, _, rfl, sq_of hD8, pk2, fun d2 hd2 => ?_⟩
              rw [mergeT0]
              have x9 : Ex H8 (upd H8 d2 (.dK (kT ((L.map (·.2)).foldl addRow [])))) := Ex.new hd2
              have e9 := e7.trans (e8.trans x9)
              refine ⟨_, _, rfl, _, rfl, dd, _, rfl, x9 _ _ (e8 _ _ hd7), _, rfl, rfl, _, rfl, ?_⟩
              have n1 := dd_len (L.map (·.1))
              have n2 := dd_len (L.map (·.2))
              rw [List.length_map, lL, l2] at n1 n2
              rw [← n1, ← n2] at q
              rw [kT_len]
              generalize ((L.map (·.1)).foldl addRow []).length = m1 at q ⊢
              have c1 : decide (V.int (m1 : Int) = V.int (due : Int)) = decide (m1 = due) := decide_eq_decide.mpr ⟨fun z => by injection z with z; omega, fun z => by rw [z]⟩
              rw [c1]
              cases hd : decide (m1 = due) with
              | false =>
                rw [hd] at q
                exact itf (q _ (e1.trans e9))
              | true =>
                rw [hd, Bool.true_and] at q
                refine itt ⟨_, rfl, d2, _, rfl, upd_same, _, rfl, rfl, ?_⟩
                rw [kT_len]
                have c3 : decide (V.int (((L.map (·.2)).foldl addRow []).length : Int) = V.int (due : Int)) = decide (((L.map (·.2)).foldl addRow []).length = due) := decide_eq_decide.mpr ⟨fun z => by injection z with z; omega, fun z => by rw [z]⟩
                rw [c3]
                exact q _ (e1.trans e9)
    · rw [decide_eq_false l2]
      rw [decide_eq_false l2, Bool.and_false, Bool.and_false] at q
      exact itt (q _ e1)
end
end R71

namespace R71
open B71 PySem PySem.Spec PyProof.Rows L2 Evl RZ SrtO

def spLL (C : Addr) : Sp := fun vs H Q _ => ∃ (v : V) (t : TV) (m : Nat), vs = [v, .int m] ∧ TrV C H v t ∧ t.cnt ≤ 1000 ∧ RetV (.bl (linesB m t)) H Q
section
variable {P : Program} {w : World} {K : PySem.W.Frag} {mg : Str → Option Value} {base : Heap} {f C : Addr} {fd : FuncData}
theorem sc__law_lines_seen : FnScope ["value", "most", "number"] ["value", "most"] (defScope (top 47)) := ⟨rfl, rfl, rfl, by decide +kernel, rfl, by decide +kernel, by decide +kernel⟩
theorem ok_law_lines_seen (F : Fun K "_law_lines_seen" "_law_lines_seen" (top 47) f fd) (R : RCl K mg C) (M : RCm K C) (T : Tx mg) (C__law_is_count : ClO P w K mg base "_law_is_count" 1 ["value", "most"] (spLC C)) : FnOk P w K mg base CX0 2 f fd ["value", "most"] (spLL C) := by
  have sc := sc__law_lines_seen
  refine F.ok sc (fun vs H Q E h => ?_) (fun cdv A outer s H vs Q E hr h => ?_)
  · obtain ⟨_, _, _, rfl, _⟩ := h; rfl
  obtain ⟨v, t, m, rfl, ht, cn, q⟩ := h
  refine ⟨_, (pss_cons (ps_if (PW.pt (pw_or (pt_not (pt_val (pe_callB call_isiT rfl T.b_isinstance bt_isinstance (pa_cons (pv 0) (pa_cons (pe_tup (pa_cons (pe_bltn (v := .ty "list") rfl T.b_list bt_list rfl) (pa_cons (pe_bltn (v := .ty "tuple") rfl T.b_tuple bt_tuple rfl) pa_nil))) pa_nil))))) (pw_or1 (pt_not (pt_val (pe_callB (cr_all rfl) rfl T.b_all bt_all (pa_cons (pe_lc (own := [("number", 2)]) (g := (gName 2)) rfl sc.nd (pi_sq (pv 0)) (blkOk_by (N := ["value", "most", "number"]) (sc := defScope ((top 47))) (by decide +kernel)) (fun _ _ _ _ _ => (pg_name (i := 2) sc.nd rfl (Or.inl rfl))) (fun _ _ _ _ _ => pts_nil) (fun _ _ _ _ _ => (pe_clo C__law_is_count (hr.mono (by first | decide | omega)) (pa_cons (pv 2) (pa_cons (pv 1) pa_nil))))) pa_nil))))))) (pss_one (ps_ret pe_bl)) pss_nil) (pss_one (ps_ret (pe_cmpR op_eq (pe_callB call_lenD rfl T.b_len bt_len (pa_cons (pe_callTy (call_dictP rfl) rfl T.b_dict bt_dict (pa_cons (pe_lc (own := [("number", 2)]) (g := (gName 2)) rfl sc.nd (pi_sq (pv 0)) (blkOk_by (N := ["value", "most", "number"]) (sc := defScope ((top 47))) (by decide +kernel)) (fun _ _ _ _ _ => (pg_name (i := 2) sc.nd rfl (Or.inl rfl))) (fun _ _ _ _ _ => pts_nil) (fun _ _ _ _ _ => (pe_tup (pa_cons (pv 2) (pa_cons pe_bl pa_nil))))) pa_nil)) pa_nil)) (pe_callB call_len_seq rfl T.b_len bt_len (pa_cons (pv 0) pa_nil)) (nomark _))))), ?_⟩
  refine ⟨_, rfl, (by show 2 ≤ sizeLine; decide), fun p hp0 => ?_⟩
  have e1 : Ex H (upd H p (.tup [.ty "list", .ty "tuple"])) := Ex.new hp0
  obtain ⟨ty, z⟩ := (TrV.up e1 _ _ ht).ty R M
  refine ⟨v, p, _, ty, _, t.isQ, rfl, upd_same, .cons (.ty "list") (.cons (.ty "tuple") .nil), z.tx, kit_any2 z.kL z.kT, _, rfl, ?_⟩
  clear z
  generalize upd H p (.tup [.ty "list", .ty "tuple"]) = H1 at e1
  rw [Tr.isQ_of]
  unfold linesB at q
  cases hs : t.sq? with
  | none =>
    rw [hs] at q
    exact itt (q _ e1)
  | some l =>
    rw [hs] at q
    dsimp only at q
    refine itf ?_
    obtain ⟨a, xs, rfl, sq, tv⟩ := (TrV.up e1 _ _ ht).seq hs
    have ln := tv.len
    have lim := len_of hs cn
    refine ⟨_, rfl, a, xs, rfl, sq, fun J Gd wk hG D hD => lc_bl wk hD hG l ln.symm (by rw [← ln]; exact lim) (ltC m) ?_ ?_⟩
    · rintro i y x H4 Gt hy hx e4 k
      obtain ⟨y', hy', hv⟩ := tv.at_ hx
      cases hy.symm.trans hy'
      exact ⟨rfl, _, rfl, _, rfl, x, y, m, rfl, TrV.up e4 _ _ hv, fun H5 e5 => k _ e5⟩
    · intro H4 e4 hD4
      refine ⟨D, _, rfl, sq_of hD4, _, rfl, ?_⟩
      rw [all_map]
      have e14 := e1.trans e4
      cases ha : l.all (ltC m) with
      | false =>
        rw [ha] at q
        exact itt (q _ e14)
      | true =>
        rw [ha, Bool.true_and] at q
        refine itf ?_
        obtain ⟨L, eL, eL2, bL⟩ := ints_of ha
        rw [← eL2] at q
        rw [eL] at tv
        obtain rfl := trvs_ints tv
        have lL : L.length ≤ 1000 := by rw [eL2, List.length_map]; exact lim
        refine ⟨_, rfl, a, vI L, rfl, sq.up e4, fun J Gd wk hG D2 hD2 => ?_⟩
        refine lcW wk L (vI_len L) (by rw [vI_len]; exact lL) (fun _ => true) (Tu fun (y : Nat) => [.int (y : Nat), .bl true]) Stab.tu hD2 hG ?_ ?_
        · rintro i y x H6 H5 N Gt hy e6 ⟨rfl, hx⟩ _ k
          unfold vI at hx
          rw [List.getElem?_map, hy] at hx
          cases hx
          refine ⟨Ex.refl _, rfl, ?_⟩
          refine ⟨_, rfl, (by show 2 ≤ sizeLine; decide), fun r hr5 => ?_⟩
          exact k rfl _ _ (Ex.new hr5) ⟨r, rfl, upd_same⟩
        · intro acc2 H6 e6 hD6 hacc2
          rw [filter_yes] at hacc2
          obtain ⟨ps, rfl, lps, hps⟩ := tu_list hacc2
          have pk := pairs_T (K := K) (g := fun y : Nat => y) hps
          refine ⟨D2, ps, _, rfl, sq_of hD6, pk, fun dd hdd => ?_⟩
          rw [show L.map (fun y : Nat => y) = L from List.map_id L, mergeT0]
          refine ⟨dd, _, rfl, upd_same, ?_⟩
          have e46 := e4.trans (e6.trans (Ex.new (o := .dK (kT (L.foldl addRow []))) hdd))
          refine ⟨_, rfl, a, _, rfl, (sq.up e46).sq, ?_⟩
          have hd : decide (V.int ((kT (L.foldl addRow [])).length : Nat) = V.int ((vI L).length : Nat)) = decide L.Nodup := by
            rw [← dd_len L, kT_len, vI_len]
            exact decide_eq_decide.mpr ⟨fun z => by injection z with z; omega, fun z => by rw [z]⟩
          refine ⟨rfl, ?_⟩
          rw [hd]
          exact q _ (e1.trans e46)
theorem sc__law_cover_seen : FnScope ["tall", "wide", "places", "due", "value", "row", "column"] ["tall", "wide", "places", "due", "value"] (defScope (top 48)) := ⟨rfl, rfl, rfl, by decide +kernel, rfl, by decide +kernel, by decide +kernel⟩
theorem ok_law_cover_seen (F : Fun K "_law_cover_seen" "_law_cover_seen" (top 48) f fd) (R : RCl K mg C) (M : RCm K C) (T : Tx mg) (C__law_lines_seen : ClO P w K mg base "_law_lines_seen" 2 ["value", "most"] (spLL C)) : FnOk P w K mg base CX0 3 f fd ["tall", "wide", "places", "due", "value"] (spCS C) := by
  have sc := sc__law_cover_seen
  refine F.ok sc (fun vs H Q E h => ?_) (fun cdv A outer s H vs Q E hr h => ?_)
  · obtain ⟨_, _, _, _, _, _, _, _, rfl, _⟩ := h; rfl
  obtain ⟨v, t, b, rs, pl, tall, wide, due, rfl, ht, cn, hb1, hp, p16, t9, w9, q⟩ := h
  refine ⟨_, (pss_cons (ps_if (PW.pt (pw_or (pt_not (pt_val (pe_callB call_isi rfl T.b_isinstance bt_isinstance (pa_cons (pv 4) (pa_cons (pe_bltn (v := .ty "tuple") rfl T.b_tuple bt_tuple rfl) pa_nil))))) (pw_or (pt_cmpR op_ne (pe_callB call_len_seq rfl T.b_len bt_len (pa_cons (pv 4) pa_nil)) pe_int (nomark _)) (pw_or (pt_not (pt_val (pe_clo C__law_lines_seen (hr.mono (by first | decide | omega)) (pa_cons (pe_ix ix_tup (pv 4) pe_int (fun _ _ => rfl)) (pa_cons (pv 0) pa_nil))))) (pw_or1 (pt_not (pt_val (pe_clo C__law_lines_seen (hr.mono (by first | decide | omega)) (pa_cons (pe_ix ix_tup (pv 4) pe_int (fun _ _ => rfl)) (pa_cons (pv 1) pa_nil)))))))))) (pss_one (ps_ret pe_bl)) pss_nil) (pss_one (ps_ret (pe_and (pe_cmpR op_eq (pe_op op_add (pe_callB call_len_seq rfl T.b_len bt_len (pa_cons (pe_ix ix_tup (pv 4) pe_int (fun _ _ => rfl)) pa_nil)) (pe_callB call_len_seq rfl T.b_len bt_len (pa_cons (pe_ix ix_tup (pv 4) pe_int (fun _ _ => rfl)) pa_nil))) (pv 3) (nomark _)) (pe_one (pe_callB (cr_all rfl) rfl T.b_all bt_all (pa_cons (pe_lc (own := [("row", 5), ("column", 6)]) (g := (gTup K 2 (gCons (gName 5) (gCons (gName 6) gNil)))) rfl sc.nd (pi_list (pv 2)) (blkOk_by (N := ["tall", "wide", "places", "due", "value", "row", "column"]) (sc := defScope ((top 48))) (by decide +kernel)) (fun _ _ _ _ _ => (pg_tup rfl (pgs_cons (pg_name (i := 5) sc.nd rfl (Or.inl rfl)) (pgs_cons (pg_name (i := 6) sc.nd rfl (Or.inl rfl)) pgs_nil)))) (fun _ _ _ _ _ => pts_nil) (fun _ _ _ _ _ => (pe_or (pe_cmpR (show OpR _ _ (rIn K false) from op_in_seq) (pv 5) (pe_ix (show IxR _ (rIxT K) from ix_tup) (pv 4) pe_int (fun _ _ => rfl)) rfl) (pe_one (pe_cmpR (show OpR _ _ (rIn K false) from op_in_seq) (pv 6) (pe_ix (show IxR _ (rIxT K) from ix_tup) (pv 4) pe_int (fun _ _ => rfl)) rfl))))) pa_nil))))))), ?_⟩
  obtain ⟨ty, z⟩ := ht.ty R M
  refine ⟨_, rfl, v, _, ty, _, t.isU, rfl, .ty "tuple", z.tx, z.kT, _, rfl, ?_⟩
  clear z
  cases ht with
  | tup hv tv =>
    rename_i c xs l
    refine itf ?_
    have ln := tv.len
    refine ⟨_, rfl, c, _, rfl, .inr (st_of hv), rfl, _, rfl, ?_⟩
    have c2 : decide (V.int (xs.length : Nat) = V.int 2) = decide (l.length = 2) := decide_eq_decide.mpr ⟨fun z => by injection z with z; omega, fun z => by rw [← ln, z]; rfl⟩
    rw [show (!decide (V.int (xs.length : Nat) = V.int 2)) = !decide (l.length = 2) by rw [c2]]
    by_cases l2 : l.length = 2
    · rw [decide_eq_true l2]
      refine itf ?_
      obtain ⟨x, y, tx, ty, rfl, rfl, hx, hy⟩ := trvs2 tv l2
      have q' : RetV (.bl (linesB tall tx && (linesB wide ty && (covB pl (nats tx) (nats ty) && decide ((nats tx).length + (nats ty).length = due))))) H Q := q
      have cnx : tx.cnt + ty.cnt + 1 ≤ 1000 := by
        have z : B71.Tr.cnt (.tup [tx, ty]) = tx.cnt + (ty.cnt + 0) + 1 := by rw [Tr.cnt, cntAll, cntAll, cntAll]
        omega
      have st := st_of (K := K) hv
      refine ⟨_, rfl, _, _, _, _, rfl, rfl, st, rfl, _, rfl, x, tx, tall, rfl, hx, by omega, fun H2 e2 => ⟨_, rfl, ?_⟩⟩
      cases hl1 : linesB tall tx with
      | false =>
        rw [hl1] at q'
        exact itt (q' _ e2)
      | true =>
        rw [hl1, Bool.true_and] at q'
        refine itf ⟨_, rfl, _, _, _, _, rfl, rfl, ex_t e2 st, rfl, _, rfl, y, ty, wide, rfl, TrV.up e2 _ _ hy, by omega, fun H3 e3 => ⟨_, rfl, ?_⟩⟩
        have e13 := e2.trans e3
        cases hl2 : linesB wide ty with
        | false =>
          rw [hl2] at q'
          exact itt (q' _ e13)
        | true =>
          rw [hl2, Bool.true_and] at q'
          obtain ⟨l1, R0, s1, eR, nR, ndR, bR⟩ := linesB_is hl1
          obtain ⟨l2, C0, s2, eC, nC, ndC, bC⟩ := linesB_is hl2
          rw [nR, nC] at q'
          obtain ⟨ax, xs1, rfl, sqx, tvx⟩ := (TrV.up e13 _ _ hx).seq s1
          obtain ⟨ay, ys1, rfl, sqy, tvy⟩ := (TrV.up e13 _ _ hy).seq s2
          rw [eR] at tvx
          rw [eC] at tvy
          obtain rfl := trvs_ints tvx
          obtain rfl := trvs_ints tvy
          refine itf ?_
          have st3 := ex_t e13 st
          have hb3 := e13 _ _ hb1
          have hp3 := hp.up e13
          have hl := hp.len
          refine ⟨_, rfl, _, _, _, _, rfl, rfl, st3, rfl, ax, _, rfl, sqx.sq, _, rfl, _, _, _, _, rfl, rfl, st3, rfl, ay, _, rfl, sqy.sq, _, _, rfl, rfl, _, rfl, rfl, _, rfl, ?_⟩
          have e2 : decide (V.int ((((vI R0).length : Nat) : Int) + (((vI C0).length : Nat) : Int)) = V.int (due : Int)) = decide (R0.length + C0.length = due) := decide_eq_decide.mpr (by
            rw [vI_len, vI_len]
            constructor
            · intro h; injection h with h; omega
            · intro h; rw [← h]; simp)
          rw [e2]
          cases hd : decide (R0.length + C0.length = due) with
          | false =>
            rw [hd, Bool.and_false] at q'
            exact itf (q' _ e13)
          | true =>
            rw [hd, Bool.and_true] at q'
            refine itt ?_
            refine ⟨_, rfl, b, rfl, ⟨_, sq_of hb3⟩, fun D hD => ?_⟩
            refine lc_bl (walk_list (K := K) (a := b) (xs := rs.map V.ref)) hD (fun H5 e5 => sq_of (e5 _ _ hb3)) pl (by simp [hl]) (by simp [hl]; omega) (fun z => decide (z.1 ∈ R0) || decide (z.2 ∈ C0)) ?_ ?_
            · rintro i z x' H4 Gt hz hx' e4 k
              obtain ⟨r, p, rfl, h1, h2⟩ := pts_at (hp3.up e4) hx'
              cases h1.symm.trans hz
              refine ⟨r, _, rfl, st_of h2, rfl, _, _, rfl, _, _, rfl, rfl, rfl, ?_⟩
              refine ⟨_, rfl, _, rfl, _, _, _, _, rfl, rfl, ex_t e4 st3, rfl, ax, _, rfl, (sqx.up e4).sq, rfl, flat_is _, _, rfl, ?_⟩
              show if (inV (.int (z.1 : Int)) (vI R0)) = true then _ else _
              rw [in_is]
              have k' := k _ (Ex.refl _)
              cases g : decide (z.1 ∈ R0) with
              | true =>
                rw [g] at k'
                exact itt k'
              | false =>
                rw [g, Bool.false_or] at k'
                refine itf ⟨_, rfl, _, rfl, _, _, _, _, rfl, rfl, ex_t e4 st3, rfl, ay, _, rfl, (sqy.up e4).sq, rfl, flat_is _, ?_⟩
                show Gt (V.bl (inV (.int (z.2 : Int)) (vI C0))) H4
                rw [in_is]
                exact k'
            · intro H4 e4 hD4
              refine ⟨D, _, rfl, sq_of hD4, ?_⟩
              have ec : (pl.map fun z => decide (z.1 ∈ R0) || decide (z.2 ∈ C0)).all id = covB pl R0 C0 := by rw [List.all_map]; rfl
              rw [ec]
              exact q' _ (e13.trans e4)
    · rw [decide_eq_false l2]
      rw [coverB_no l2] at q
      exact itt (q _ (Ex.refl _))
  | non => exact itt (q _ (Ex.refl _))
  | bl _ => exact itt (q _ (Ex.refl _))
  | int _ => exact itt (q _ (Ex.refl _))
  | str _ => exact itt (q _ (Ex.refl _))
  | rat _ => exact itt (q _ (Ex.refl _))
  | lst _ _ => exact itt (q _ (Ex.refl _))
  | dk _ => exact itt (q _ (Ex.refl _))
  | dt _ => exact itt (q _ (Ex.refl _))
end
end R71

namespace R71
open B71 PySem PySem.Spec PyProof.Rows L2 Evl RZ SrtO

def spPotk (K : PySem.W.Frag) : Sp := fun vs H Q _ => ∃ (a : Addr) (ns : List Int) (k : Nat), vs = [.ref a, .int k] ∧ SqL K H a (ns.map V.int) ∧ k ≤ 2 ∧ ∀ p H', H p = none → Ex H H' → Pot H' p → Q (.ref p) H'
section
variable {P : Program} {w : World} {K : PySem.W.Frag} {mg : Str → Option Value} {base : Heap} {f : Addr} {fd : FuncData}
theorem sc__law_pot : FnScope ["script", "k", "cell"] ["script", "k"] (defScope (top 39)) := ⟨rfl, rfl, rfl, by decide +kernel, rfl, by decide +kernel, by decide +kernel⟩
theorem ok_law_pot (F : Fun K "_law_pot" "_law_pot" (top 39) f fd) (T : Tx mg) : FnOk P w K mg base CX0 1 f fd ["script", "k"] (spPotk K) := by
  have sc := sc__law_pot
  refine F.ok sc (fun vs H Q E h => ?_) (fun cdv A outer s H vs Q E hr h => ?_)
  · obtain ⟨a, ns, k, rfl, _⟩ := h; rfl
  obtain ⟨a, ns, k, rfl, hS, hk, q⟩ := h
  have fin : ∀ c : Int, ∀ p, H p = none → ∀ H' : Hp, H' = upd H p (.lst [.int (if c - 10 ^ (18 : Int).toNat > 0 then c - 10 ^ (18 : Int).toNat else 0), .int ((c % 2147483549 * 40039 + 4021 * (k : Int) + 79) % 2147483563 + 1)]) → Q (.ref p) H' := fun c p hp H' e => by
    subst e
    refine q p _ hp (Ex.new hp) ⟨_, _, upd_same, ?_, ?_, ?_⟩
    · split <;> omega
    · omega
    · omega
  refine ⟨_, (pss_cons (ps_set (i := 2) sc.nd rfl (Or.inl rfl) (pe_ifExp (pt_cmpR op_lt (pv 1) (pe_callB call_len_seq rfl T.b_len bt_len (pa_cons (pv 0) pa_nil)) (nomark _)) (pe_callB call_abs rfl T.b_abs bt_abs (pa_cons (pe_ix ix_list (pv 0) (pv 1) (fun _ _ => rfl)) pa_nil)) (pe_op op_add (pe_op op_mul pe_int (pv 1)) pe_int))) (pss_one (ps_ret (pe_lst (pa_cons (pe_callB (call_max2 rfl) rfl T.b_max bt_max (pa_cons pe_int (pa_cons (pe_op op_sub (pv 2) (pe_op op_pow pe_int pe_int)) pa_nil))) (pa_cons (pe_op op_add (pe_op op_mod (pe_callTy call_int1 rfl T.b_int bt_int (pa_cons (pe_op op_add (pe_op op_add (pe_op op_mul (pe_op op_mod (pe_callTy call_int1 rfl T.b_int bt_int (pa_cons (pv 2) pa_nil)) pe_int) pe_int) (pe_op op_mul pe_int (pv 1))) pe_int) pa_nil)) pe_int) pe_int) pa_nil)))))), ?_⟩
  refine ⟨_, rfl, _, rfl, a, _, rfl, .inl hS, _, _, rfl, rfl, _, rfl, ?_⟩
  refine ite2 (fun g => ?_) (fun g => ?_)
  · have g' := of_decide_eq_true g
    rw [List.length_map] at g'
    have hk' : k < ns.length := by omega
    have hat : atI (ns.map V.int) ((k : Nat) : Int) = some (.int ns[k]) := atI_nat (by rw [List.getElem?_map, List.getElem?_eq_getElem hk'] <;> rfl)
    refine ⟨_, rfl, _, rfl, a, _, _, _, rfl, rfl, hS, hat, _, rfl, ?_⟩
    refine ⟨_, rfl, _, _, rfl, rfl, ⟨by decide, by decide, by decide⟩, _, _, rfl, rfl, _, _, rfl, ?_⟩
    refine ⟨_, rfl, .inl ⟨_, rfl, _, _, rfl, rfl, (by show (0 : Int) < _; decide), _, _, rfl, rfl, .inr (by decide), _, rfl, _, _, rfl, rfl, .inl (by decide), _, _, rfl, rfl, _, _, rfl, rfl,   .inl ⟨_, rfl, _, _, rfl, rfl, (by show (0 : Int) < _; decide), _, _, rfl, rfl, (by show 2 ≤ sizeLine; decide), fun p hp => ?_⟩⟩⟩
    exact fin _ p hp _ rfl
  · refine ⟨_, rfl, _, _, rfl, rfl, .inl (by decide), _, _, rfl, rfl, ?_⟩
    refine ⟨_, rfl, _, _, rfl, rfl, ⟨by decide, by decide, by decide⟩, _, _, rfl, rfl, _, _, rfl, ?_⟩
    refine ⟨_, rfl, .inl ⟨_, rfl, _, _, rfl, rfl, (by show (0 : Int) < _; decide), _, _, rfl, rfl, .inr (by decide), _, rfl, _, _, rfl, rfl, .inl (by decide), _, _, rfl, rfl, _, _, rfl, rfl,   .inl ⟨_, rfl, _, _, rfl, rfl, (by show (0 : Int) < _; decide), _, _, rfl, rfl, (by show 2 ≤ sizeLine; decide), fun p hp => ?_⟩⟩⟩
    exact fin _ p hp _ rfl
theorem sc__law_draw : FnScope ["pot", "many", "digit"] ["pot", "many"] (defScope (top 40)) := ⟨rfl, rfl, rfl, by decide +kernel, rfl, by decide +kernel, by decide +kernel⟩
theorem ok_law_draw (F : Fun K "_law_draw" "_law_draw" (top 40) f fd) (T : Tx mg) : FnOk P w K mg base CX0 1 f fd ["pot", "many"] spDraw := by
  have sc := sc__law_draw
  refine F.ok sc (fun vs H Q E h => ?_) (fun cdv A outer s H vs Q E hr h => ?_)
  · obtain ⟨a, k, rfl, _⟩ := h; rfl
  obtain ⟨p, m, rfl, ⟨x, y, hp, hx, hy, hy2⟩, h1, h2, q⟩ := h
  refine ⟨_, (pss_cons (ps_if (pt_cmpR op_gt (pe_ix ix_list (pv 0) pe_int (fun _ _ => rfl)) pe_int (nomark _)) (pss_cons (ps_asg (pe_callB call_divmod rfl T.b_divmod bt_divmod (pa_cons (pe_ix ix_list (pv 0) pe_int (fun _ _ => rfl)) (pa_cons (pv 1) pa_nil))) (pg_tup rfl (pgs_cons (pg_sub (pv 0) pe_int set_list) (pgs_cons (pg_name (i := 2) sc.nd rfl (Or.inl rfl)) pgs_nil)))) (pss_one (ps_ret (pv 2)))) pss_nil) (pss_cons (ps_asg (pe_op op_mod (pe_callTy call_int1 rfl T.b_int bt_int (pa_cons (pe_op op_add (pe_op op_mul (pe_ix ix_list (pv 0) pe_int (fun _ _ => rfl)) pe_int) pe_int) pa_nil)) pe_int) (pg_sub (pv 0) pe_int set_list)) (pss_one (ps_ret (pe_op op_mod (pe_callTy call_int1 rfl T.b_int bt_int (pa_cons (pe_op op_fdiv (pe_op op_mod (pe_callTy call_int1 rfl T.b_int bt_int (pa_cons (pe_op op_mul (pe_ix ix_list (pv 0) pe_int (fun _ _ => rfl)) (pe_ix ix_list (pv 0) pe_int (fun _ _ => rfl))) pa_nil)) pe_int) pe_int) pa_nil)) (pv 1)))))), ?_⟩
  refine ⟨_, rfl, p, _, 0, .int x, rfl, rfl, sq_of hp, rfl, _, _, rfl, rfl, _, rfl, ?_⟩
  refine ite2 (fun g => ?_) (fun g => ?_)
  · have mz : (0 : Int) < (m : Int) := by omega
    refine ⟨_, rfl, p, _, 0, .int x, rfl, rfl, sq_of hp, rfl, _, rfl, _, _, rfl, ⟨mz, by omega⟩, fun t ht => ?_⟩
    have nt : t ≠ p := fun z => by rw [z, hp] at ht; cases ht
    have x1 : Ex H (upd H t (.tup [.int (x / (m : Int)), .int (x % (m : Int))])) := Ex.new ht
    refine ⟨t, _, rfl, st_of upd_same, rfl, _, _, rfl, _, rfl, p, _, 0, 0, rfl, rfl, x1 _ _ hp, rfl, _, _, rfl, rfl, ?_⟩
    refine ⟨_, rfl, ?_⟩
    have hd : x % (m : Int) = ((x % (m : Int)).toNat : Int) := (Int.toNat_of_nonneg (Int.emod_nonneg _ (by omega))).symm
    have hlt : x % (m : Int) < m := Int.emod_lt_of_pos _ mz
    rw [show ([.int x, .int y] : List V).set 0 (.int (x / (m : Int))) = [.int (x / (m : Int)), .int y] from rfl]
    have key := q (x % (m : Int)).toNat _ (ExB.put (o := .lst [.int (x / (m : Int)), .int y]) (ExB.of x1)) ⟨_, _, upd_same, Int.ediv_nonneg hx (by omega), hy, hy2⟩ (by omega)
    rw [← hd] at key
    exact key
  · refine ⟨_, rfl, p, _, 1, .int y, rfl, rfl, sq_of hp, rfl, _, _, rfl, rfl, .inr (by decide), _, _, rfl, rfl,   .inl ⟨_, rfl, _, _, rfl, rfl, (by show (0 : Int) < _; decide), _, rfl, p, _, 1, 1, rfl, rfl, hp, rfl, ?_⟩⟩
    rw [show ([.int x, .int y] : List V).set 1 (.int ((y * 40014 + 1109) % 2147483563)) = [.int x, .int ((y * 40014 + 1109) % 2147483563)] from rfl]
    have e1 : ExB p H (upd H p (.lst [.int x, .int ((y * 40014 + 1109) % 2147483563)])) := ExB.put (ExB.of (Ex.refl _))
    have hp1 : upd H p (.lst [.int x, .int ((y * 40014 + 1109) % 2147483563)]) p = some (.lst [.int x, .int ((y * 40014 + 1109) % 2147483563)]) := upd_same
    generalize upd H p (.lst [.int x, .int ((y * 40014 + 1109) % 2147483563)]) = H1 at e1 hp1 ⊢
    have y0 : 0 ≤ (y * 40014 + 1109) % 2147483563 := by omega
    have y1 : (y * 40014 + 1109) % 2147483563 < 2147483563 := by omega
    generalize (y * 40014 + 1109) % 2147483563 = y' at e1 hp1 y0 y1 ⊢
    refine ⟨_, rfl, p, _, 1, .int y', rfl, rfl, sq_of hp1, rfl, _, rfl, p, _, 1, .int y', rfl, rfl, sq_of hp1, rfl, _, _, rfl, rfl, .inl ⟨by omega, by omega⟩,   .inl ⟨_, rfl, _, _, rfl, rfl, (by show (0 : Int) < _; decide), _, _, rfl, rfl, ⟨by decide, by decide⟩, .inl ⟨_, rfl, _, rfl, _, _, rfl, rfl, by omega, ?_⟩⟩⟩
    have mz : (0 : Int) < (m : Int) := by omega
    have hlt : (y' * y' % 2147483587 / 21) % (m : Int) < m := Int.emod_lt_of_pos _ mz
    have hnn : 0 ≤ (y' * y' % 2147483587 / 21) % (m : Int) := Int.emod_nonneg _ (by omega)
    show Q (.int ((y' * y' % 2147483587 / 21) % (m : Int))) H1
    generalize (y' * y' % 2147483587 / 21) % (m : Int) = d at hlt hnn ⊢
    have hd : d = (d.toNat : Int) := (Int.toNat_of_nonneg hnn).symm
    have key := q d.toNat H1 e1 ⟨_, _, hp1, hx, y0, by omega⟩ (by omega)
    rw [← hd] at key
    exact key
theorem sc__law_pick : FnScope ["pot", "some"] ["pot", "some"] (defScope (top 41)) := ⟨rfl, rfl, rfl, by decide +kernel, rfl, by decide +kernel, by decide +kernel⟩
theorem ok_law_pick (F : Fun K "_law_pick" "_law_pick" (top 41) f fd) (T : Tx mg) (C__law_draw : ClO P w K mg base "_law_draw" 1 ["pot", "many"] spDraw) : FnOk P w K mg base CX0 2 f fd ["pot", "some"] spPick := by
  have sc := sc__law_pick
  refine F.ok sc (fun vs H Q E h => ?_) (fun cdv A outer s H vs Q E hr h => ?_)
  · obtain ⟨a, k, _, rfl, _⟩ := h; rfl
  obtain ⟨p, a, xs, rfl, hp, ha, nap, h1, h2, q⟩ := h
  refine ⟨_, (pss_one (ps_ret (pe_ix ix_list (pv 1) (pe_clo C__law_draw (hr.mono (by first | decide | omega)) (pa_cons (pv 0) (pa_cons (pe_callB call_len_seq rfl T.b_len bt_len (pa_cons (pv 1) pa_nil)) pa_nil))) (fun _ _ => rfl)))), ?_⟩
  refine ⟨_, rfl, _, rfl, _, rfl, a, _, rfl, .inl (sq_of ha), p, xs.length, rfl, hp, h1, h2, fun d H1 e1 hp1 hd => ?_⟩
  have hx : xs[d]? = some xs[d] := List.getElem?_eq_getElem hd
  exact ⟨a, xs, _, xs[d], rfl, rfl, sq_of (e1 _ _ nap ha), atI_nat hx, q d _ H1 e1 hp1 hx⟩
end
end R71

namespace R71
open B71 PySem PySem.Spec PyProof.Rows L2 Evl RZ SrtO

def spBoard : Sp := fun vs H Q _ => ∃ (p : Addr), vs = [.ref p, .int 4] ∧ Pot H p ∧ ∀ (t b : Addr) (tall wide : Nat) (rs : List Addr) (pl : Pl) H', ExB p H H' → Pot H' p → H t = none → H b = none → H' t = some (.tup [.int tall, .int wide, .ref b]) → H' b = some (.lst (rs.map V.ref)) → Pts H' rs pl → Bd tall wide pl → Q (.ref t) H'
def spMost (n : Nat) : Sp := fun vs H Q _ => ∃ (a u : Addr) (tall row : Nat) (rs : List Addr) (pl : Pl) (used : List Nat), vs = [.int tall, .ref a, .int row, .ref u] ∧ H a = some (.lst (rs.map V.ref)) ∧ Pts H rs pl ∧ pl.length ≤ 16 ∧ H u = some (.lst (vI used)) ∧ used.length ≤ row ∧ row ≤ tall ∧ tall ≤ 4 ∧ tall + 1 ≤ row + n ∧ RetV (.int ((mostM pl (tall - row) row used : Nat) : Int)) H Q
def Ls (H : Hp) (r : Addr) (l : List Nat) : Prop := H r = some (.lst (vI l))
theorem Ls.up {H H' : Hp} {rs : List Addr} {ls : List (List Nat)} (h : Paired (Ls H) rs ls) (e : Ex H H') : Paired (Ls H') rs ls := Paired.mapP h fun _ _ q => e _ _ q
theorem ls_at {H : Hp} : ∀ {rs : List Addr} {ls : List (List Nat)}, Paired (Ls H) rs ls → ∀ {i : Nat} {x : V}, (rs.map V.ref)[i]? = some x → ∃ r l, x = .ref r ∧ ls[i]? = some l ∧ Ls H r l
  | _, _, .nil, i, x, h => by simp at h
  | _, _, .cons (a := r) (b := p) q t, 0, x, h => ⟨r, p, by simpa using h.symm, rfl, q⟩
  | _, _, .cons q t, i + 1, x, h => by
    obtain ⟨r, p, h1, h2, h3⟩ := ls_at t (i := i) (x := x) (by simpa using h)
    exact ⟨r, p, h1, by simpa using h2, h3⟩
theorem paired_app {α β : Type} {F : α → β → Prop} : ∀ {as as' : List α} {bs bs' : List β}, Paired F as bs → Paired F as' bs' → Paired F (as ++ as') (bs ++ bs')
  | _, _, _, _, .nil, h => h
  | _, _, _, _, .cons r t, h => .cons r (paired_app t h)
theorem lots_len : ∀ n, (lots n).length = 2 ^ n
  | 0 => rfl
  | n + 1 => by
    show (lots n ++ (lots n).map fun l => l ++ [n]).length = _
    rw [List.length_append, List.length_map, lots_len n, Nat.pow_succ]
    omega
theorem lots_small : ∀ n, ∀ l ∈ lots n, l.length ≤ n
  | 0, l, h => by
    have : l = [] := by simpa [lots] using h
    rw [this]; exact Nat.le_refl _
  | n + 1, l, h => by
    rcases List.mem_append.mp (show l ∈ lots n ++ (lots n).map fun l => l ++ [n] from h) with h | h
    · have := lots_small n l h; omega
    · obtain ⟨l', h', rfl⟩ := List.mem_map.mp h
      have := lots_small n l' h'
      simp
      omega
def spLots : Sp := fun vs H Q _ => ∃ (many : Nat), vs = [.int many] ∧ many ≤ 4 ∧ ∀ p rs H', H p = none → Ex H H' → H' p = some (.lst (rs.map V.ref)) → Paired (Ls H') rs (lots many) → Q (.ref p) H'
def spFewest : Sp := fun vs H Q _ => ∃ (a : Addr) (tall : Nat) (rs : List Addr) (pl : Pl), vs = [.int tall, .ref a] ∧ H a = some (.lst (rs.map V.ref)) ∧ Pts H rs pl ∧ pl.length ≤ 16 ∧ tall ≤ 4 ∧ RetV (.int ((fewestM pl tall : Nat) : Int)) H Q
section
variable {P : Program} {w : World} {K : PySem.W.Frag} {mg : Str → Option Value} {base : Heap} {f : Addr} {fd : FuncData}
theorem sc__law_most : FnScope ["tall", "places", "row", "used", "found", "near", "column"] ["tall", "places", "row", "used"] (defScope (top 43)) := ⟨rfl, rfl, rfl, by decide +kernel, rfl, by decide +kernel, by decide +kernel⟩
theorem ok_law_most {n : Nat} (F : Fun K "_law_most" "_law_most" (top 43) f fd) (T : Tx mg) (C__law_most : ClO P w K mg base "_law_most" n ["tall", "places", "row", "used"] (spMost n)) : FnOk P w K mg base CX0 (n + 1) f fd ["tall", "places", "row", "used"] (spMost (n + 1)) := by
  have sc := sc__law_most
  refine F.ok sc (fun vs H Q E h => ?_) (fun cdv A outer s H vs Q E hr h => ?_)
  · obtain ⟨a, u, tall, row, _, _, _, rfl, _⟩ := h; rfl
  obtain ⟨a, u, tall, row, rs, pl, used, rfl, ha, hp, p16, hu, lu, h1, h2, h3, q⟩ := h
  refine ⟨_, (pss_cons (ps_if (pt_cmpR op_eq (pv 2) (pv 0) (nomark _)) (pss_one (ps_ret pe_int)) pss_nil) (pss_cons (ps_set (i := 4) sc.nd rfl (Or.inl rfl) (pe_clo C__law_most (hr.mono (by first | decide | omega)) (pa_cons (pv 0) (pa_cons (pv 1) (pa_cons (pe_op op_add (pv 2) pe_int) (pa_cons (pv 3) pa_nil)))))) (pss_cons (ps_for PassesOwn.never rfl (pi_list (pv 1)) (pg_tup rfl (pgs_cons (pg_name (i := 5) sc.nd rfl (Or.inl rfl)) (pgs_cons (pg_name (i := 6) sc.nd rfl (Or.inl rfl)) pgs_nil))) (pss_one (ps_if (PW.pt (pw_and (pt_cmpR op_eq (pv 5) (pv 2) (nomark _)) (pw_and1 (pt_cmpR op_notIn_seq (pv 6) (pv 3) rfl)))) (pss_one (ps_set (i := 4) sc.nd rfl (Or.inl rfl) (pe_callB (call_max2 rfl) rfl T.b_max bt_max (pa_cons (pv 4) (pa_cons (pe_op op_add pe_int (pe_clo C__law_most (hr.mono (by first | decide | omega)) (pa_cons (pv 0) (pa_cons (pv 1) (pa_cons (pe_op op_add (pv 2) pe_int) (pa_cons (pe_op op_cat (pv 3) (pe_lst (pa_cons (pv 6) pa_nil))) pa_nil)))))) pa_nil))))) pss_nil))) (pss_one (ps_ret (pv 4)))))), ?_⟩
  refine ⟨_, rfl, _, rfl, rfl, _, rfl, ?_⟩
  refine ite2 (fun g => ?_) (fun g => ?_)
  · have g' : row = tall := by
      have := of_decide_eq_true g
      injection this with this
      omega
    have e0 : mostM pl (tall - row) row used = 0 := by rw [g', Nat.sub_self]; rfl
    rw [e0] at q
    exact q _ (Ex.refl _)
  · have g' : row ≠ tall := fun z => g (by rw [z]; simp)
    obtain ⟨k, hk⟩ : ∃ k, tall - row = k + 1 := ⟨tall - row - 1, by omega⟩
    have hk' : tall - (row + 1) = k := by omega
    have em : mostM pl (tall - row) row used = pl.foldl (mostTurn (mostM pl k (row + 1)) row used) (mostM pl k (row + 1) used) := by rw [hk]; rfl
    rw [em] at q
    refine ⟨_, rfl, _, rfl, _, rfl, _, _, rfl, rfl, _, rfl, a, u, tall, row + 1, rs, pl, used, rfl, ha, hp, p16, hu, by omega, by omega, h3 |> fun _ => by omega, by omega, fun H1 e1 => ?_⟩
    rw [hk']
    refine ⟨_, rfl, a, rfl, ⟨_, sq_of (e1 _ _ ha)⟩, for_list (K := K) (a := a) (xs := rs.map V.ref) (fun i σ H' => ∃ (o5 o6 : Option V), σ = [some (.int tall), some (.ref a), some (.int row), some (.ref u), some (.int (((pl.take i).foldl (mostTurn (mostM pl k (row + 1)) row used) (mostM pl k (row + 1) used) : Nat) : Int)), o5, o6] ∧ Ex H H')
      ⟨_, _, rfl, e1⟩ (fun i σ H' _ ⟨_, _, _, e⟩ => sq_of (e _ _ ha)) ?_ ?_⟩
    · rintro i x σ H2 hx ⟨o5, o6, rfl, e2⟩
      have hp2 := hp.up e2
      obtain ⟨r, ⟨kk, c⟩, rfl, hkk, hr1⟩ := pts_at hp2 hx
      have htk : pl.take (i + 1) = pl.take i ++ [(kk, c)] := by rw [List.take_add_one, hkk]; rfl
      rw [htk, List.foldl_append]
      generalize (pl.take i).foldl (mostTurn (mostM pl k (row + 1)) row used) (mostM pl k (row + 1) used) = F0
      simp only [List.foldl_cons, List.foldl_nil]
      refine ⟨r, _, rfl, st_of hr1, rfl, _, _, rfl, _, _, rfl, rfl, ?_⟩
      refine ⟨_, rfl, _, rfl, rfl, _, rfl, ?_⟩
      have skip : ¬ (kk = row ∧ c ∉ used) → mostTurn (mostM pl k (row + 1)) row used F0 (kk, c) = F0 := fun g => by unfold mostTurn; rw [if_neg g]
      refine ite2 (fun g1 => ?_) (fun g1 => ?_)
      · have g1' : kk = row := by
          have := of_decide_eq_true g1
          injection this with this
          omega
        refine ⟨_, rfl, _, rfl, u, _, rfl, .inl (sq_of (e2 _ _ hu)), rfl, flat_is _, _, rfl, ?_⟩
        show if (!inV (.int (c : Int)) (vI used)) = true then _ else _
        rw [in_is]
        refine ite2 (fun g2 => ?_) (fun g2 => ?_)
        · have g2' : c ∉ used := by simpa using g2
          have et : mostTurn (mostM pl k (row + 1)) row used F0 (kk, c) = max F0 (1 + mostM pl k (row + 1) (used ++ [c])) := by unfold mostTurn; rw [if_pos ⟨g1', g2'⟩]
          rw [et]
          refine ⟨_, rfl, _, rfl, _, rfl, _, rfl, _, _, rfl, rfl, _, rfl, _, rfl, (by show 1 ≤ sizeLine; decide), fun p3 hp3 => ?_⟩
          have x3 : Ex H2 (upd H2 p3 (.lst [.int (c : Int)])) := Ex.new hp3
          have hv3 : upd H2 p3 (.lst [.int (c : Int)]) p3 = some (.lst [.int (c : Int)]) := upd_same
          generalize upd H2 p3 (.lst [.int (c : Int)]) = H3 at x3 hv3 ⊢
          refine ⟨u, p3, _, _, rfl, rfl, x3 _ _ (e2 _ _ hu), hv3, (by rw [vI_len]; exact Nat.le_of_lt (small1000 (by show used.length + 1 ≤ 1000; omega))), fun p4 hp4 => ?_⟩
          have ev : vI used ++ [V.int (c : Int)] = vI (used ++ [c]) := by unfold vI; rw [List.map_append]; rfl
          rw [ev]
          have x4 : Ex H2 (upd H3 p4 (.lst (vI (used ++ [c])))) := x3.trans (Ex.new hp4)
          have hv4 : upd H3 p4 (.lst (vI (used ++ [c]))) p4 = some (.lst (vI (used ++ [c]))) := upd_same
          generalize upd H3 p4 (.lst (vI (used ++ [c]))) = H4 at x4 hv4 ⊢
          have e4 := e2.trans x4
          refine ⟨a, p4, tall, row + 1, rs, pl, used ++ [c], rfl, e4 _ _ ha, hp.up e4, p16, hv4, by simp; omega, by omega, by omega, by omega, fun H5 e5 => ?_⟩
          rw [hk']
          refine ⟨_, _, rfl, rfl, _, _, rfl, ?_⟩
          have emx : (if (1 : Int) + ((mostM pl k (row + 1) (used ++ [c]) : Nat) : Int) > (F0 : Int) then (1 : Int) + ((mostM pl k (row + 1) (used ++ [c]) : Nat) : Int) else (F0 : Int)) = ((max F0 (1 + mostM pl k (row + 1) (used ++ [c])) : Nat) : Int) := by
            split <;> omega
          refine ⟨some (.int (kk : Int)), some (.int (c : Int)), ?_, e4.trans e5⟩
          rw [← emx]
          rfl
        · rw [skip (fun z => g2 (by simpa using z.2))]
          exact ⟨_, _, rfl, e2⟩
      · rw [skip (fun z => g1 (by rw [z.1]; simp))]
        exact ⟨_, _, rfl, e2⟩
    · rintro σ H2 ⟨o5, o6, rfl, e2⟩
      rw [List.take_of_length_le (by rw [List.length_map, hp.len]; exact Nat.le_refl _)]
      exact ⟨_, rfl, q _ e2⟩
theorem most_all (F : Fun K "_law_most" "_law_most" (top 43) f fd) (T : Tx mg) (b : Binds K fd ["tall", "places", "row", "used"] []) (m : mg "_law_most" = some (.ref f)) : ∀ n, ClO P w K mg base "_law_most" n ["tall", "places", "row", "used"] (spMost n)
  | 0 => by
    have no : ∀ vs H Q E, ¬ spMost 0 vs H Q E := fun vs H Q E h => by
      obtain ⟨a, u, tall, row, rs, pl, used, rfl, _, _, _, _, _, h1, h2, h3, _⟩ := h
      omega
    exact ⟨f, fd, ⟨fun vs H Q E h => absurd h (no vs H Q E), fun A outer s H args us vs Q E _ _ _ _ h => absurd h (no vs H Q _)⟩, b, F.kp, m⟩
  | n + 1 => ⟨f, fd, ok_law_most F T (most_all F T b m n), b, F.kp, m⟩
end
end R71

namespace R71
open B71 PySem PySem.Spec PyProof.Rows L2 Evl RZ SrtO

theorem Pts.set {H : Hp} {b : Addr} {u o : HO} {rs : List Addr} {pl : Pl} (h : Pts H rs pl) (hb : H b = some u) (nu : ∀ xs, u ≠ .tup xs) : Pts (upd H b o) rs pl := Paired.mapP h fun r p q => by
  have q' : H r = some (.tup [.int (p.1 : Nat), .int (p.2 : Nat)]) := q
  have n : r ≠ b := fun z => by rw [z, hb] at q'; exact nu _ (Option.some.inj q')
  show upd H b o r = _
  rw [upd_ne n]
  exact q'
section
variable {P : Program} {w : World} {K : PySem.W.Frag} {mg : Str → Option Value} {base : Heap} {f : Addr} {fd : FuncData}
structure BdW (H : Hp) (p su b : Addr) (wide s1 s2 i : Nat) (rs : List Addr) (pl : Pl) (H' : Hp) : Prop where
  ex : ExB p H H'
  pot : Pot H' p
  sv : H' su = some (.tup [.int (s1 : Nat), .int (s2 : Nat)])
  bv : H' b = some (.lst (rs.map V.ref))
  pts : Pts H' rs pl
  so : pl.Pairwise lexlt
  inb : ∀ q ∈ pl, q.1 < i ∧ q.2 < wide
  has : s1 < i → (s1, s2) ∈ pl
  len : pl.length ≤ i * wide
theorem Pts.pot {H H' : Hp} {p : Addr} {rs : List Addr} {pl : Pl} (h : Pts H rs pl) (hp : Pot H p) (e : ExB p H H') : Pts H' rs pl := by
  obtain ⟨x, y, h1, _⟩ := hp
  exact h.upB e h1 fun xs z => by cases z
theorem sc__law_board : FnScope ["pot", "most", "tall", "wide", "often", "sure", "places", "row", "column"] ["pot", "most"] (defScope (top 42)) := ⟨rfl, rfl, rfl, by decide +kernel, rfl, by decide +kernel, by decide +kernel⟩
theorem ok_law_board (F : Fun K "_law_board" "_law_board" (top 42) f fd) (T : Tx mg) (C__law_draw : ClO P w K mg base "_law_draw" 1 ["pot", "many"] spDraw) : FnOk P w K mg base CX0 2 f fd ["pot", "most"] spBoard := by
  have sc := sc__law_board
  refine F.ok sc (fun vs H Q E h => ?_) (fun cdv A outer s H vs Q E hr h => ?_)
  · obtain ⟨a, rfl, _⟩ := h; rfl
  obtain ⟨p, rfl, hpot, q⟩ := h
  refine ⟨_, (pss_cons (ps_asg (pe_tup (pa_cons (pe_op op_add pe_int (pe_clo C__law_draw (hr.mono (by first | decide | omega)) (pa_cons (pv 0) (pa_cons (pv 1) pa_nil)))) (pa_cons (pe_op op_add pe_int (pe_clo C__law_draw (hr.mono (by first | decide | omega)) (pa_cons (pv 0) (pa_cons (pv 1) pa_nil)))) (pa_cons (pe_op op_add pe_int (pe_clo C__law_draw (hr.mono (by first | decide | omega)) (pa_cons (pv 0) (pa_cons pe_int pa_nil)))) pa_nil)))) (pg_tup rfl (pgs_cons (pg_name (i := 2) sc.nd rfl (Or.inl rfl)) (pgs_cons (pg_name (i := 3) sc.nd rfl (Or.inl rfl)) (pgs_cons (pg_name (i := 4) sc.nd rfl (Or.inr rfl)) pgs_nil))))) (pss_cons (ps_set (i := 5) sc.nd rfl (Or.inr rfl) (pe_tup (pa_cons (pe_clo C__law_draw (hr.mono (by first | decide | omega)) (pa_cons (pv 0) (pa_cons (pv 2) pa_nil))) (pa_cons (pe_clo C__law_draw (hr.mono (by first | decide | omega)) (pa_cons (pv 0) (pa_cons (pv 3) pa_nil))) pa_nil)))) (pss_cons (ps_set (i := 6) sc.nd rfl (Or.inl rfl) (pe_lst pa_nil)) (pss_cons (ps_for PassesOwn.never rfl (pi_range1 rfl T.b_range (pa_cons (pv 2) pa_nil)) (pg_name (i := 7) sc.nd rfl (Or.inr rfl)) (pss_one (ps_expr (pe_bm PySem.F.plainAttrs_list PySem.F.slot_list_extend PySem.F.type_list_extend mt_extend (pv 6) (pa_cons (pe_lc (own := [("column", 8)]) (g := (gName 8)) rfl sc.nd (pi_range1 rfl T.b_range (pa_cons (pv 3) pa_nil)) (blkOk_by (N := ["pot", "most", "tall", "wide", "often", "sure", "places", "row", "column"]) (sc := defScope ((top 42))) (by decide +kernel)) (fun _ _ _ _ _ => (pg_name (i := 8) sc.nd rfl (Or.inl rfl))) (fun _ _ _ _ _ => (pts_one (PW.pt (pw_or (pt_cmpR (show OpR _ _ (rEqD K) from (op_eqD hr.units)) (pe_tup (pa_cons (pv 7) (pa_cons (pv 8) pa_nil))) (pv 5) (nomark _)) (pw_or1 (pt_cmpR op_lt (pe_clo C__law_draw (hr.mono (by first | decide | omega)) (pa_cons (pv 0) (pa_cons pe_int pa_nil))) (pv 4) (nomark _))))))) (fun _ _ _ _ _ => (pe_tup (pa_cons (pv 7) (pa_cons (pv 8) pa_nil))))) pa_nil))))) (pss_one (ps_ret (pe_tup (pa_cons (pv 2) (pa_cons (pv 3) (pa_cons (pv 6) pa_nil)))))))))), ?_⟩
  refine ⟨_, rfl, _, rfl, p, 4, rfl, hpot, by decide, by decide, fun d1 H1 e1 hp1 hd1 => ?_⟩
  refine ⟨_, _, rfl, rfl, _, rfl, _, rfl, p, 4, rfl, hp1, by decide, by decide, fun d2 H2 e2 hp2 hd2 => ?_⟩
  refine ⟨_, _, rfl, rfl, _, rfl, p, 4, rfl, hp2, by decide, by decide, fun d3 H3 e3 hp3 hd3 => ?_⟩
  refine ⟨_, _, rfl, rfl, (by show 3 ≤ sizeLine; decide), fun tp htp => ?_⟩
  refine ⟨tp, _, rfl, st_of upd_same, rfl, _, _, rfl, _, _, rfl, _, _, rfl, rfl, ?_⟩
  have x4 := Ex.new (o := .tup [.int (1 + (d1 : Int)), .int (1 + (d2 : Int)), .int (1 + (d3 : Int))]) htp
  refine ⟨_, rfl, _, rfl, p, 1 + d1, rfl, hp3.up x4, by omega, by omega, fun s1 H5 e5 hp5 hs1 => ?_⟩
  refine ⟨_, rfl, _, rfl, p, 1 + d2, rfl, hp5, by omega, by omega, fun s2 H6 e6 hp6 hs2 => ?_⟩
  refine ⟨(by show 2 ≤ sizeLine; decide), fun su hsu => ?_⟩
  have x7 := Ex.new (o := .tup [.int (s1 : Int), .int (s2 : Int)]) hsu
  refine ⟨Nat.zero_le _, fun b hb => ?_⟩
  have x8 := Ex.new (o := .lst []) hb
  have e8 : ExB p H (upd (upd H6 su (.tup [.int (s1 : Int), .int (s2 : Int)])) b (.lst [])) := e1.trans (e2.trans (e3.trans ((ExB.of x4).trans (e5.trans (e6.trans (ExB.of (x7.trans x8)))))))
  have hp8 := hp6.up (x7.trans x8)
  have hs8 : upd (upd H6 su (.tup [.int (s1 : Int), .int (s2 : Int)])) b (.lst []) su = some (.tup [.int (s1 : Int), .int (s2 : Int)]) := x8 _ _ upd_same
  have hb8 : upd (upd H6 su (.tup [.int (s1 : Int), .int (s2 : Int)])) b (.lst []) b = some (.lst []) := upd_same
  have nbp : b ≠ p := fun z => by
    obtain ⟨x, y, h1, _⟩ := hp6.up x7
    rw [← z, hb] at h1; cases h1
  have hb0 : H b = none := (e1.trans (e2.trans (e3.trans ((ExB.of x4).trans (e5.trans (e6.trans (ExB.of x7))))))).fresh nbp hb
  generalize upd (upd H6 su (.tup [.int (s1 : Int), .int (s2 : Int)])) b (.lst []) = H8 at e8 hp8 hs8 hb8 ⊢
  have nsb : su ≠ b := fun z => by rw [z, hb8] at hs8; cases hs8
  refine ⟨_, rfl, ((1 + d1 : Nat) : Int), rfl, by omega, by omega, ?_⟩
  rw [Int.toNat_natCast]
  refine for_range (fun i σ H' => ∃ (rs : List Addr) (pl : Pl) (o7 : Option V), σ = [some (.ref p), some (.int 4), some (.int ((1 + d1 : Nat) : Int)), some (.int ((1 + d2 : Nat) : Int)), some (.int ((1 + d3 : Nat) : Int)), some (.ref su), some (.ref b), o7, none] ∧ BdW H p su b (1 + d2) s1 s2 i rs pl H')
    ⟨[], [], _, rfl, e8, hp8, hs8, hb8, .nil, .nil, fun q h => (nomatch h), fun h => absurd h (Nat.not_lt_zero _), Nat.zero_le _⟩ ?_ ?_
  · rintro i σ H9 hi ⟨rs, pl, o7, rfl, W⟩
    refine ⟨_, rfl, .inl ⟨rfl, _, SqL.of W.bv⟩, ?_⟩
    refine ⟨_, rfl, ((1 + d2 : Nat) : Int), rfl, by omega, by omega, fun D hD => ?_⟩
    rw [Int.toNat_natCast]
    have nDp : D ≠ p := fun z => by
      obtain ⟨x, y, h1, _⟩ := W.pot
      rw [← z, hD] at h1; cases h1
    have nDb : b ≠ D := fun z => by rw [← z, W.bv] at hD; cases hD
    refine lc_range (lo := 0) (n := 1 + d2) (fun j H' => ∃ (cs : List Nat) (rs2 : List Addr), ExB p H9 H' ∧ Pot H' p ∧ H' D = some (.lst (rs2.map V.ref)) ∧ Pts H' rs2 (cs.map fun c => (i, c)) ∧ cs.Pairwise (· < ·) ∧ (∀ c ∈ cs, c < j) ∧ (s1 = i → s2 < j → s2 ∈ cs) ∧ cs.length ≤ j)
      ⟨[], [], ExB.of (Ex.new hD), W.pot.up (Ex.new hD), upd_same, .nil, .nil, fun c h => (nomatch h), fun _ h => absurd h (Nat.not_lt_zero _), Nat.le_refl _⟩ ?_ ?_
    · rintro j Ha hj ⟨cs, rs2, ea, pa, hDa, hpa, so, lt, has, le⟩
      have j4 : j < 5 := by omega
      have keep : ∀ Hb, ExB p Ha Hb → Pot Hb p → ∀ r Hc, Hb r = none → Hc = upd Hb r (.tup [.int (0 + (i : Int)), .int (0 + (j : Int))]) → ∃ acc, Hc D = some (.lst acc) ∧ acc.length < sizeLine ∧ ∃ (cs : List Nat) (rs2 : List Addr), ExB p H9 (upd Hc D (.lst (acc ++ [.ref r]))) ∧ Pot (upd Hc D (.lst (acc ++ [.ref r]))) p ∧ upd Hc D (.lst (acc ++ [.ref r])) D = some (.lst (rs2.map V.ref)) ∧ Pts (upd Hc D (.lst (acc ++ [.ref r]))) rs2 (cs.map fun c => (i, c)) ∧ cs.Pairwise (· < ·) ∧ (∀ c ∈ cs, c < j + 1) ∧ (s1 = i → s2 < j + 1 → s2 ∈ cs) ∧ cs.length ≤ j + 1 := by
        rintro Hb eb pb r Hc hr rfl
        have xr := Ex.new (o := .tup [.int (0 + (i : Int)), .int (0 + (j : Int))]) hr
        have hDb := eb _ _ nDp hDa
        have hDc := xr _ _ hDb
        have nrD : r ≠ D := fun z => by rw [z, hDb] at hr; cases hr
        have lr : rs2.length ≤ 5 := by have := hpa.len; rw [List.length_map] at this; omega
        have pc := pb.up xr
        have hpc := (hpa.pot pa eb).up xr
        refine ⟨rs2.map V.ref, hDc, (by rw [List.length_map]; exact small1000 (by omega)), cs ++ [j], rs2 ++ [r], fun x u nx hx => ?_, pc.same (upd_ne nDp.symm), by rw [List.map_append]; exact upd_same, ?_, ?_, ?_, ?_, ?_⟩
        · rw [upd_ne (fun z => by rw [z, hD] at hx; cases hx)]
          exact xr _ _ (eb _ _ nx (ea _ _ nx hx))
        · rw [List.map_append]
          refine paired_snoc (hpc.set hDc fun xs z => by cases z) ?_
          show upd _ D _ r = _
          rw [upd_ne nrD, upd_same, Int.zero_add, Int.zero_add]
        · rw [List.pairwise_append]
          refine ⟨so, List.pairwise_singleton _ _, fun x hx y hy => ?_⟩
          have : y = j := by simpa using hy
          rw [this]
          exact lt x hx
        · intro c hc
          rcases List.mem_append.mp hc with hc | hc
          · have := lt c hc; omega
          · have : c = j := by simpa using hc
            omega
        · intro h1 h2
          by_cases h3 : s2 = j
          · simp [h3]
          · exact List.mem_append_left _ (has h1 (by omega))
        · simp; omega
      refine ⟨rfl, ?_⟩
      refine ⟨_, rfl, _, rfl, (by show 2 ≤ sizeLine; decide), fun tq htq => ?_⟩
      have xq := Ex.new (o := .tup [.int (0 + (i : Int)), .int (0 + (j : Int))]) htq
      have hq : upd Ha tq (.tup [.int (0 + (i : Int)), .int (0 + (j : Int))]) tq = some (.tup [.int (((i, j) : Nat × Nat).1 : Nat), .int (((i, j) : Nat × Nat).2 : Nat)]) := by rw [upd_same, Int.zero_add, Int.zero_add]
      have nsp : su ≠ p := pot_ne W.pot W.sv
      have hsa : upd Ha tq (.tup [.int (0 + (i : Int)), .int (0 + (j : Int))]) su = some (.tup [.int (((s1, s2) : Nat × Nat).1 : Nat), .int (((s1, s2) : Nat × Nat).2 : Nat)]) := xq _ _ (ea _ _ nsp W.sv)
      refine ⟨_, rfl, _, _, dp_p hq, dp_p hsa, p_sh _, p_sh _, _, rfl, ?_⟩
      rw [pD_eqv]
      refine ite2 (fun g => ?_) (fun g => ?_)
      · refine ⟨_, rfl, _, rfl, (by show 2 ≤ sizeLine; decide), fun r hr => ?_⟩
        exact keep _ (ExB.of xq) (pa.up xq) r _ hr rfl
      · have g' : ¬ ((i, j) : Nat × Nat) = (s1, s2) := by simpa using g
        refine ⟨_, rfl, p, 4, rfl, pa.up xq, by decide, by decide, fun d Hb eb pb hd => ⟨_, rfl, _, _, rfl, rfl, _, rfl, ?_⟩⟩
        have eab := (ExB.of xq).trans eb
        refine ite2 (fun g2 => ?_) (fun g2 => ?_)
        · refine ⟨_, rfl, _, rfl, (by show 2 ≤ sizeLine; decide), fun r hr => ?_⟩
          exact keep _ eab pb r _ hr rfl
        · refine ⟨cs, rs2, ea.trans eab, pb, eab _ _ nDp hDa, hpa.pot pa eab, so, fun c hc => by have := lt c hc; omega, fun h1 h2 => ?_, by omega⟩
          exact has h1 (by
            have : s2 ≠ j := fun z => g' (by rw [h1, z])
            omega)
    · rintro Ha ⟨cs, rs2, ea, pa, hDa, hpa, so, lt, has, le⟩
      refine ⟨b, D, _, _, rfl, rfl, ea _ _ nbp W.bv, hDa, ?_, ?_⟩
      · rw [List.length_map, List.length_map, W.pts.len, hpa.len, List.length_map]
        have h1 := W.len
        have h2 : i * (1 + d2) ≤ 4 * 4 := Nat.mul_le_mul (by omega) (by omega)
        exact Nat.le_of_lt (small1000 (by omega))
      · have nbp' := nbp
        have hba := ea _ _ nbp W.bv
        refine ⟨rs ++ rs2, pl ++ cs.map (fun c => (i, c)), _, rfl, fun x u nx hx => ?_, pa.same (upd_ne nbp.symm), ?_, by rw [List.map_append]; exact upd_same, ?_, ?_, ?_, ?_, ?_⟩
        · rw [upd_ne (fun z => by rw [z, hb0] at hx; cases hx)]
          exact ea _ _ nx (W.ex _ _ nx hx)
        · rw [upd_ne nsb]
          exact ea _ _ (pot_ne W.pot W.sv) W.sv
        · exact paired_app ((W.pts.pot W.pot ea).set hba fun xs z => by cases z) (hpa.set hba fun xs z => by cases z)
        · rw [List.pairwise_append]
          refine ⟨W.so, List.pairwise_map.mpr (so.imp fun {a b} h => .inr ⟨rfl, h⟩), fun x hx y hy => ?_⟩
          obtain ⟨c, _, rfl⟩ := List.mem_map.mp hy
          exact .inl (W.inb x hx).1
        · intro z hz
          rcases List.mem_append.mp hz with hz | hz
          · have := W.inb z hz; omega
          · obtain ⟨c, hc, rfl⟩ := List.mem_map.mp hz
            exact ⟨Nat.lt_succ_self _, lt c hc⟩
        · intro h1
          by_cases h2 : s1 = i
          · refine List.mem_append_right _ (List.mem_map.mpr ⟨s2, has h2 hs2, by rw [h2]⟩)
          · exact List.mem_append_left _ (W.has (by omega))
        · rw [List.length_append, List.length_map, Nat.succ_mul]
          have := W.len
          omega
  · rintro σ H9 ⟨rs, pl, o7, rfl, W⟩
    refine ⟨_, rfl, _, rfl, _, rfl, (by show 3 ≤ sizeLine; decide), fun t ht => ?_⟩
    have xt := Ex.new (o := .tup [.int ((1 + d1 : Nat) : Int), .int ((1 + d2 : Nat) : Int), .ref b]) ht
    have ntp : t ≠ p := fun z => by
      obtain ⟨x, y, h1, _⟩ := W.pot
      rw [← z, ht] at h1; cases h1
    have hmem := W.has hs1
    refine q t b (1 + d1) (1 + d2) rs pl _ (W.ex.trans (ExB.of xt)) (W.pot.up xt) (W.ex.fresh ntp ht) hb0 upd_same (xt _ _ W.bv) (W.pts.up xt) ⟨by omega, by omega, by omega, by omega, List.length_pos_iff.mpr (fun z => by rw [z] at hmem; cases hmem), ?_, W.so, W.inb⟩
    have h1 := W.len
    have h2 : (1 + d1) * (1 + d2) ≤ 4 * 4 := Nat.mul_le_mul (by omega) (by omega)
    omega
end
end R71

namespace R71
open B71 PySem PySem.Spec PyProof.Rows L2 Evl RZ SrtO
/-! ### dict(pairs) of tuples as keys, each but once -/
section
variable {prog : Program} {w : World} {A : Around} {E : Value → Shared → Prop}
theorem is_mv {h h' : Heap} {k : List Key} {a : Addr} (x : (tupleKind (mixKind prog w)).is h k a) (e : ∀ o, h.get? a = some o → h'.get? a = some o) : (tupleKind (mixKind prog w)).is h' k a := by
  obtain ⟨o, its, n, h1, r⟩ := x
  exact ⟨o, its, n, e _ h1, r⟩
theorem dh_mv {h h' : Heap} {d : Addr} {xs : List (List Key × Addr × Value)} (x : h.DictOfH (tupleKind (mixKind prog w)) d xs) (e : ∀ o, h.get? d = some o → h'.get? d = some o) (e2 : ∀ y ∈ xs, ∀ o, h.get? y.2.1 = some o → h'.get? y.2.1 = some o) : h'.DictOfH (tupleKind (mixKind prog w)) d xs := by
  obtain ⟨o, es, ep, h1, h2, h3, h4, h5, h6⟩ := x
  exact ⟨o, es, ep, e _ h1, h2, h3, h4, fun y hy => is_mv (h5 y hy) (e2 y hy), h6⟩
theorem atKey_no {xs : List (List Key × Addr × Value)} {k : List Key} (h : k ∉ xs.map (·.1)) : atKey xs k = none := by
  unfold atKey
  rw [Option.map_eq_none_iff, List.find?_eq_none]
  intro x hx z
  exact h (List.mem_map.mpr ⟨x, hx, of_decide_eq_true z⟩)
theorem upd_loopT {R : Result → Shared → Prop} {S I l : Addr} {items : Array Value} {res : Value} (hh : A.handled = none) (hu : A.units + 1 < cLine) (hlI : l ≠ I) (hSI : S ≠ I) (hSl : S ≠ l) :
    ∀ (rest : List (List Key × Addr × Value)) (i : Nat) (acc : List (List Key × Addr × Value)) (ix : Int) (t : Tok) (s : Shared), items.size = i + rest.length → acc.length + rest.length ≤ sizeLine → ((acc ++ rest).map (·.1)).Nodup →
      (∀ (j : Nat) (q : List Key × Addr × Value), rest[j]? = some q → ∃ (b : Addr), items[i + j]? = some (.ref b) ∧ b ≠ S ∧ b ≠ I ∧ IsTup s.heap b #[.ref q.2.1, q.2.2] ∧ q.2.1 ≠ S ∧ q.2.1 ≠ I ∧ (tupleKind (mixKind prog w)).is s.heap q.1 q.2.1) →
      (∀ y ∈ acc, y.2.1 ≠ S ∧ y.2.1 ≠ I) → s.heap.IsListIter I l i → s.heap.IsList l items → s.heap.DictOfH (tupleKind (mixKind prog w)) S acc →
      (∀ h' tk, h'.DictOfH (tupleKind (mixKind prog w)) S (acc ++ rest) → (∀ b o, b ≠ S → b ≠ I → s.heap.get? b = some o → h'.get? b = some o) → R (.ok (.ret res)) { s with heap := h', toks := tk }) →
      codeAny (model prog w) A (.builtin "dict.update.loop" ⟨[.ref S, .ref I, .int ix t, res], []⟩) R s
  | [], i, acc, ix, t, s, hsz, hln, nd, ht, hk, hit, hl, hm, hR => by
    refine codeAny_builtin ud_entry ?_
    rw [Around.under_plainId ud_plain _]
    show wpAny _ A.in1 (pyNext (.ref I) >>= _) _ _ s
    refine wpAny_bind (wpAny_pyNext_list_end (A := A.in1) hh hit hl (by first | exact Array.getElem?_eq_none (Nat.le_of_eq hsz) | (simp at hsz; simp; omega)) fun h' he => ?_)
    show wpAny _ A.in1 (Builtin.Dict.addKeywords S [] >>= _) _ _ _
    refine wpAny_bind (wpAny_pure (wpAny_pure ?_))
    rw [List.append_nil] at hR
    exact hR h' s.toks (dh_mv hm (fun o e => he S o hSI e) fun y hy o e => he _ o (hk y hy).2 e) fun b o _ hb e => he b o hb e
  | q :: rest, i, acc, ix, t, s, hsz, hln, nd, ht, hk, hit, hl, hm, hR => by
    obtain ⟨b, hb, hbS, hbI, htup, hkS, hkI, hkey⟩ := ht 0 q rfl
    rw [List.length_cons] at hsz hln
    refine codeAny_builtin ud_entry ?_
    rw [Around.under_plainId ud_plain _]
    show wpAny _ A.in1 (pyNext (.ref I) >>= _) _ _ s
    refine wpAny_bind (wpAny_pyNext_list_item (x := .ref b) hit hl (by simpa using hb) fun h1 hit1 hs1 => ?_)
    have k1 : ∀ c o, c ≠ I → s.heap.get? c = some o → h1.get? c = some o := fun c o hc e => hs1.extBut c o hc e
    have ht1 : IsTup h1 b #[.ref q.2.1, q.2.2] := htup.extBut hs1.extBut hbI
    have hl1 : h1.IsList l items := hl.extBut hs1.extBut hlI
    have hm1 : h1.DictOfH (tupleKind (mixKind prog w)) S acc := dh_mv hm (fun o e => k1 _ _ hSI e) fun y hy o e => k1 _ _ (hk y hy).2 e
    have hkey1 : (tupleKind (mixKind prog w)).is h1 q.1 q.2.1 := is_mv hkey fun o e => k1 _ _ hkI e
    obtain ⟨o, ho, hc, n, hd⟩ := id ht1
    show wpAny _ A.in1 (holding [Value.ref b] _ >>= _) _ _ _
    refine wpAny_bind (wpAny_holding ?_)
    refine wpAny_bind (wpAny_tryCatch ?_)
    unfold Builtin.Dict.pairItems
    refine wpAny_bind (wpAny_typeOf (T := "tuple") ⟨o, ho, hc⟩ ?_)
    rw [if_pos (by first | decide | rfl | simp)]
    refine wpAny_bind (wpAny_seqItems ho hd (wpAny_pure ?_))
    show wpAny _ A.in1 (holding [.ref q.2.1, q.2.2] (dictSet S (.ref q.2.1) q.2.2)) _ _ _
    have hno : q.1 ∉ acc.map (·.1) := by
      rw [List.map_append, List.map_cons, List.nodup_append] at nd
      intro z
      exact nd.2.2 _ z _ (List.mem_cons_self ..) rfl
    refine wpAny_holding (wpAny_dictSet_heap (knd := tupleKind (mixKind prog w)) (k := q.1) (tupleKind_room_in1 hu) hkey1 hm1 (fun h2 hm2 hs2 => ?_) (by omega))
    rw [storedH_new (atKey_no hno)] at hm2
    have e3 : acc ++ [(q.1, q.2.1, q.2.2)] ++ rest = acc ++ q :: rest := by rw [List.append_assoc]; rfl
    refine wpAny_pure ⟨plainId_quiet ud_plain _, upd_loopT (items := items) hh hu hlI hSI hSl rest (i + 1) (acc ++ [(q.1, q.2.1, q.2.2)]) (ix + 1) 0 _ (show items.size = i + 1 + rest.length by omega) ?_ (by rw [e3]; exact nd) (fun j q' e => ?_) (fun y hy => ?_) ?_ ?_ hm2 fun h' tk hd' k => ?_⟩
    · simp only [List.length_append, List.length_cons, List.length_nil]
      omega
    · obtain ⟨b', hb', hbS', hbI', htup', hkS', hkI', hkey'⟩ := ht (j + 1) q' (by simpa using e)
      refine ⟨b', ?_, hbS', hbI', (htup'.extBut hs1.extBut hbI').extBut hs2.extBut hbS', hkS', hkI', is_mv hkey' fun o e => hs2.extBut _ _ hkS' (k1 _ _ hkI' e)⟩
      rw [show i + 1 + j = i + (j + 1) by omega]
      exact hb'
    · rcases List.mem_append.mp hy with hy | hy
      · exact hk y hy
      · rw [List.mem_singleton.mp hy]
        exact ⟨hkS, hkI⟩
    · exact hit1.at fun o' e => hs2.extBut I o' (Ne.symm hSI) e
    · exact hl1.extBut hs2.extBut (Ne.symm hSl)
    · rw [e3] at hd'
      exact hR h' tk hd' fun c oc h3 h4 e => k c oc h3 h4 (hs2.extBut c oc h3 (hs1.extBut c oc h4 e))
theorem call_dict_pairsT {s : Shared} {l : Addr} {ol : Obj} {items : Array Value} {n : Nat} {prs : List (List Key × Addr × Value)} {Q : Value → Shared → Prop} (hh : A.handled = none) (hu : A.units + 2 < cLine) (hl : s.heap.get? l = some ol) (hc : ol.cls = .type "list") (hd : ol.dict = none)
    (hdat : ol.data = .seq items n) (hsz : items.size = prs.length) (hln : prs.length ≤ sizeLine) (nd : (prs.map (·.1)).Nodup)
    (ht : ∀ (j : Nat) (q : List Key × Addr × Value), prs[j]? = some q → ∃ (b : Addr), items[j]? = some (.ref b) ∧ IsTup s.heap b #[.ref q.2.1, q.2.2] ∧ (tupleKind (mixKind prog w)).is s.heap q.1 q.2.1)
    (h : ∀ h' tk, h'.DictOfH (tupleKind (mixKind prog w)) s.heap.objs.size prs → (∀ b o, s.heap.get? b = some o → h'.get? b = some o) → Q (.ref s.heap.objs.size) { s with heap := h', toks := tk }) :
    wpAny (model prog w) A (call (.type "dict") [.ref l]) Q E s := by
  refine callType_codes (Q₁ := fun obj s₁ => obj = .ref s.heap.objs.size ∧ s₁ = { s with heap := s.heap.push { cls := .type "dict", data := .dict #[] } }) PySem.F.kt_called_dict (PySem.F.kt_typeCall_dict_1 _) PySem.F.entry_dict_init (kt_code_dict_new _ ⟨rfl, rfl⟩) ?_
  rintro obj s₁ ⟨rfl, rfl⟩
  have hnew : (s.heap.push { cls := .type "dict", data := .dict #[] }).DictOfH (tupleKind (mixKind prog w)) s.heap.objs.size [] := Heap.DictOfH.new s.heap
  have k0 : ∀ b o, s.heap.get? b = some o → (s.heap.push { cls := .type "dict", data := .dict #[] }).get? b = some o := fun b o e => Heap.get?_push_of_some _ e
  have hty : (Shared.TypeIs { s with heap := s.heap.push { cls := .type "dict", data := .dict #[] } } (.ref s.heap.objs.size) "dict") := Heap.DictOfH.typeIs (s := { s with heap := s.heap.push { cls := .type "dict", data := .dict #[] } }) hnew
  refine ⟨hty, PySem.F.args_dict_init_2 _ _, ?_⟩
  unfold Builtin.«dict.__init__»
  refine wpAny_bind ?_
  unfold Builtin.Dict.selfAndRest
  refine wpAny_bind (wpAny_notOrdered_dict hty ?_)
  show wpAny _ _ (pure (s.heap.objs.size, [Value.ref l])) _ _ _
  refine wpAny_pure ?_
  show wpAny _ _ (Builtin.Dict.updateFrom "dict.__init__" s.heap.objs.size (.ref l) [] .none) _ _ _
  unfold Builtin.Dict.updateFrom
  refine wpAny_bind (wpAny_typeOf (T := "list") ⟨ol, k0 _ _ hl, hc⟩ ?_)
  rw [if_pos (by first | decide | rfl | simp)]
  refine wpAny_bind (miss_list (k0 _ _ hl) hc hdat hd hh fun h1 tk1 hk1 => ?_)
  rw [if_pos (show (none : Option Value).isNone = true from rfl)]
  refine wpAny_bind (wpAny_rule ?_)
  have hl1 : h1.IsList l items := ⟨ol, hk1 _ _ (k0 _ _ hl), hc, n, hdat⟩
  have hS1 : s.heap.objs.size < h1.objs.size := by
    have e : (s.heap.push { cls := .type "dict", data := .dict #[] }).get? s.heap.objs.size = some { cls := .type "dict", data := .dict #[] } := Heap.get?_push_size _ rfl
    exact Heap.lt_size (hk1 _ _ e)
  refine wpAny_bind (wpAny_pyIter_list hl1 ?_)
  have k2 : ∀ b o, h1.get? b = some o → (h1.push { cls := .type "list_iterator", data := .fields #[.ref l, .int 0 0] }).get? b = some o := fun b o e => Heap.get?_push_of_some _ e
  have hlt : l < s.heap.objs.size := Heap.lt_size hl
  have klt : ∀ {k : List Key} {a : Addr}, (tupleKind (mixKind prog w)).is s.heap k a → a < s.heap.objs.size := fun x => by
    obtain ⟨o, its, n, h1, r⟩ := x
    exact Heap.lt_size h1
  have key := upd_loopT (prog := prog) (w := w) (A := A.in1) (R := wants (fun r s₂ => r = .none ∧ Q (.ref s.heap.objs.size) s₂) E) (S := s.heap.objs.size) (I := h1.objs.size) (l := l) (items := items) (res := Value.none) hh (show A.units + 1 + 1 < cLine by omega)
    (Nat.ne_of_lt (Nat.lt_trans hlt hS1)) (Nat.ne_of_lt hS1) (Nat.ne_of_gt hlt) prs 0 [] 0 0
    { s with heap := h1.push { cls := .type "list_iterator", data := .fields #[.ref l, .int 0 0] }, toks := tk1 } (by rw [hsz, Nat.zero_add]) (by rw [List.length_nil, Nat.zero_add]; exact hln) (by rw [List.nil_append]; exact nd)
    (fun j q e => by
      obtain ⟨b, e1, e2, e3⟩ := ht j q e
      have hb : b < s.heap.objs.size := e2.lt
      have hk := klt e3
      exact ⟨b, by rw [Nat.zero_add]; exact e1, Nat.ne_of_lt hb, Nat.ne_of_lt (Nat.lt_trans hb hS1), e2.keeps fun c o z => k2 _ _ (hk1 _ _ (k0 _ _ z)), Nat.ne_of_lt hk, Nat.ne_of_lt (Nat.lt_trans hk hS1), is_mv e3 fun o z => k2 _ _ (hk1 _ _ (k0 _ _ z))⟩)
    (fun y hy => nomatch hy) ⟨_, Heap.get?_push_size _ rfl, rfl, rfl⟩ (hl1.at fun o e => k2 _ _ e) (dh_mv (dh_mv hnew (fun o e => hk1 _ _ e) fun y hy => nomatch hy) (fun o e => k2 _ _ e) fun y hy => nomatch hy)
    (fun h' tk hd' k => ⟨rfl, h h' tk (by rw [List.nil_append] at hd'; exact hd') fun b o e => k b o (Nat.ne_of_lt (Heap.lt_size e)) (Nat.ne_of_lt (Nat.lt_trans (Heap.lt_size e) hS1)) (k2 _ _ (hk1 _ _ (k0 _ _ e)))⟩)
  first
    | exact wpAny_pure ⟨plainId_quiet ud_plain _, key⟩
    | exact wpAny_bind (wpAny_pure (wpAny_pure ⟨plainId_quiet ud_plain _, key⟩))
end
section
variable {X : Cx}
theorem call_dictPT (hcalm : X.calm = true) (hu : X.A.units + 2 < cLine) : CallR X (.type "dict") (fun xs H Q => ∃ (a : Addr) (ps : List (Addr × Addr)) (pl : List (Nat × Nat)), xs = [.ref a] ∧ SqL X.K H a (ps.map fun p => V.ref p.1) ∧ Paired (fun p (z : Nat × Nat) => H p.1 = some (.tup [.ref p.2, .bl true]) ∧ Pt H p.2 z) ps pl ∧ pl.Nodup ∧
    ∀ p, H p = none → Q (.ref p) (upd H p (.dT (kP pl)))) := by
  intro pins s σ H xs us Q I r q
  obtain ⟨a, ps, pl, ex, hq, hp, nd, q⟩ := q
  subst ex
  obtain ⟨u, eu, rx⟩ := vals1 r
  subst eu
  cases rx
  obtain ⟨its, rv, lst, hz⟩ := I.list hq
  have ei : its = (ps.map (·.1)).map Value.ref := refs_at (by rw [List.map_map]; exact rv)
  subst ei
  rw [List.length_map] at hz
  obtain ⟨o, n, ho, hc, hd, hdat⟩ := lst
  have lp := Paired.length hp
  let prs : List (List Key × Addr × Value) := (ps.zip pl).map fun z => ([.inl (z.2.1 : Int), .inl (z.2.2 : Int)], z.1.2, Value.bool true)
  have lprs : prs.length = ps.length := by
    show ((ps.zip pl).map _).length = _
    rw [List.length_map, List.length_zip, lp, Nat.min_self]
  have at_ : ∀ j q, prs[j]? = some q → ∃ (p : Addr × Addr) (z : Nat × Nat), ps[j]? = some p ∧ pl[j]? = some z ∧ q = (([.inl (z.1 : Int), .inl (z.2 : Int)] : List Key), p.2, Value.bool true) := fun j q e => by
    rw [List.getElem?_map] at e
    cases hj : (ps.zip pl)[j]? with
    | none => rw [hj] at e; cases e
    | some y =>
      rw [hj] at e
      obtain ⟨h1, h2⟩ := List.getElem?_zip_eq_some.mp hj
      exact ⟨y.1, y.2, h1, h2, (Option.some.inj e).symm⟩
  have keys : prs.map (·.1) = pl.map fun z => ([.inl (z.1 : Int), .inl (z.2 : Int)] : List Key) := by
    show ((ps.zip pl).map _).map _ = _
    rw [List.map_map]
    have e2 : pl = (ps.zip pl).map (·.2) := (List.map_snd_zip (by omega)).symm
    conv => rhs; rw [e2, List.map_map]
    rfl
  have ndk : (prs.map (·.1)).Nodup := by
    rw [keys]
    refine List.pairwise_map.mpr (List.Pairwise.imp (fun {x y} hxy e => hxy ?_) nd)
    injection e with e1 e2
    injection e2 with e2 _
    injection e1 with e1
    injection e2 with e2
    exact Prod.ext (by omega) (by omega)
  refine call_dict_pairsT (prs := prs) (I.ok.hd hcalm) hu ho hc hd hdat (by simp [lprs]) (by rw [lprs]; exact hz) ndk (fun j q' e => ?_) fun h' tk hd' k => ?_
  · obtain ⟨p, z, e1, e2, rfl⟩ := at_ j q' e
    obtain ⟨z', hz', h1, h2⟩ := paired_at2 hp e1
    cases e2.symm.trans hz'
    obtain ⟨its, rv2, ht, _⟩ := I.tuple (st_of (K := X.K) h1)
    obtain ⟨u, y, ei, ru, ry⟩ := vals2 rv2
    subst ei
    cases (show u = Value.ref p.2 from ru)
    cases (show y = Value.bool true from ry)
    refine ⟨p.1, by simp [e1], ht, key_of I.hok ?_⟩
    exact h2
  · have hm : (s.heap.objs.size == sysModules) = false := beq_eq_false_iff_ne.mpr (Nat.ne_of_gt I.big)
    have hlen : (kP pl).length ≤ sizeLine := by unfold kP; rw [List.length_map, ← lp]; exact hz
    have kt : ∀ (H' : Hp), (∀ b ys, H b = some (.tup ys) → H' b = some (.tup ys)) → KT H' (kP pl) prs := fun H' e => by
      have key : ∀ {ps : List (Addr × Addr)} {pl : List (Nat × Nat)}, Paired (fun p (z : Nat × Nat) => H p.1 = some (.tup [.ref p.2, .bl true]) ∧ Pt H p.2 z) ps pl → KT H' (kP pl) ((ps.zip pl).map fun z => ([.inl (z.2.1 : Int), .inl (z.2.2 : Int)], z.1.2, Value.bool true)) := by
        intro ps pl h
        induction h with
        | nil => exact .nil
        | cons h _ ih => exact .cons ⟨rfl, e _ _ h.2, rfl⟩ ih
      exact key hp
    obtain ⟨od, es, ep, d1, d2, d3, d4, _, d6⟩ := hd'
    have fr := I.hok.fresh (a := s.heap.objs.size) (Nat.le_refl _)
    refine ⟨.ref s.heap.objs.size, upd H s.heap.objs.size (.dT (kP pl)), I.laid (t' := tk) k (Nat.le_refl _) (show ObjOk X.prog X.w _ _ _ (.dT (kP pl)) from ⟨hlen, hm, prs, kt _ (fun b ys hb => ?_), od, es, ep, d1, d2, d3, d4, d6⟩), rfl, q _ fr⟩
    rw [upd_ne (ne_of_none hb fr)]
    exact hb
end
end R71

namespace R71
open B71 PySem PySem.Spec PyProof.Rows L2 Evl RZ SrtO
/-! ### heaps without some lists -/
def msk (S : List Addr) (H : Hp) : Hp := fun b => if b ∈ S then none else H b
theorem msk_of {S : List Addr} {H : Hp} {b : Addr} (h : b ∉ S) : msk S H b = H b := if_neg h
theorem msk_ex {S : List Addr} {H : Hp} : Ex (msk S H) H := fun b o h => by
  unfold msk at h
  split at h
  · cases h
  · exact h
theorem msk_up {S : List Addr} {H H' : Hp} (e : Ex H H') : Ex (msk S H) (msk S H') := fun b o h => by
  unfold msk at h ⊢
  split at h
  · cases h
  · rename_i n
    rw [if_neg n]
    exact e b o h
theorem msk_upB {S : List Addr} {H H' : Hp} {p : Addr} (hp : p ∈ S) (e : ExB p H H') : Ex (msk S H) (msk S H') := fun b o h => by
  unfold msk at h ⊢
  split at h
  · cases h
  · rename_i n
    rw [if_neg n]
    exact e b o (fun z => n (z ▸ hp)) h
theorem msk_put {S : List Addr} {H : Hp} {D : Addr} {o : HO} (h : D ∈ S) : msk S (upd H D o) = msk S H := funext fun b => by
  unfold msk
  by_cases n : b ∈ S
  · rw [if_pos n, if_pos n]
  · rw [if_neg n, if_neg n, upd_ne (fun z => n (by rw [z]; exact h))]
theorem msk_new {S : List Addr} {H : Hp} {D : Addr} (h : H D = none) : msk (D :: S) H = msk S H := funext fun b => by
  unfold msk
  by_cases n : b = D
  · subst n
    rw [if_pos (List.mem_cons_self), h]
    split <;> rfl
  · by_cases m : b ∈ S
    · rw [if_pos (List.mem_cons_of_mem _ m), if_pos m]
    · rw [if_neg (fun z => (List.mem_cons.mp z).elim n m), if_neg m]
theorem msk_sub {S S' : List Addr} {H : Hp} (h : ∀ b ∈ S, b ∈ S') : Ex (msk S' H) (msk S H) := fun b o k => by
  unfold msk at k ⊢
  split at k
  · cases k
  · rename_i n
    rw [if_neg fun z => n (h b z)]
    exact k
/-- all of S are lists -/
def Off (S : List Addr) (H : Hp) : Prop := ∀ b ∈ S, ∃ xs, H b = some (.lst xs)
theorem Off.up {S : List Addr} {H H' : Hp} (h : Off S H) (e : Ex H H') : Off S H' := fun b hb => (h b hb).imp fun _ z => e _ _ z
theorem Off.pot {S : List Addr} {H H' : Hp} {p : Addr} (h : Off S H) (hp : Pot H p) (e : ExP p H H') : Off S H' := fun b hb => by
  by_cases z : b = p
  · subst z
    obtain ⟨x, y, h1, _⟩ := e.2 hp
    exact ⟨_, h1⟩
  · exact (h b hb).imp fun _ q => e.1 _ _ z q
theorem Off.fresh {S : List Addr} {H : Hp} {b : Addr} (h : Off S H) (n : H b = none) : b ∉ S := fun z => by
  obtain ⟨xs, q⟩ := h b z
  rw [n] at q
  cases q
theorem Off.cons {S : List Addr} {H : Hp} {b : Addr} {xs : List V} (h : Off S H) (n : H b = some (.lst xs)) : Off (b :: S) H := fun c hc => by
  rcases List.mem_cons.mp hc with rfl | hc
  · exact ⟨_, n⟩
  · exact h c hc
theorem Off.put {S : List Addr} {H : Hp} {D : Addr} {xs : List V} (h : Off S H) : Off S (upd H D (.lst xs)) := fun c hc => by
  by_cases z : c = D
  · subst z
    exact ⟨_, upd_same⟩
  · rw [upd_ne z]
    exact h c hc
theorem pot_off {H : Hp} {p : Addr} (h : Pot H p) : Off [p] H := fun b hb => by
  obtain rfl := List.mem_singleton.mp hb
  obtain ⟨x, y, h1, _⟩ := h
  exact ⟨_, h1⟩
/-! ### values that can be shown -/
structure Fine (N d : Nat) (C : Addr) (H : Hp) (v : V) : Prop where
  ex : ∃ t, TrV C H v t ∧ t.Good ∧ t.cnt ≤ N ∧ t.dep ≤ d
section
variable {C : Addr} {H H' : Hp} {N N' d d' : Nat} {v : V}
theorem Fine.up (h : Fine N d C H v) (e : Ex H H') : Fine N d C H' v := by
  obtain ⟨t, h1, h2⟩ := h.ex
  exact ⟨t, TrV.up e _ _ h1, h2⟩
theorem Fine.mono (h : Fine N d C H v) (hn : N ≤ N') (hd : d ≤ d') : Fine N' d' C H v := by
  obtain ⟨t, h1, h2, h3, h4⟩ := h.ex
  exact ⟨t, h1, h2, by omega, by omega⟩
theorem fine_all : ∀ {vs : List V}, (∀ v ∈ vs, Fine N d C H v) → ∃ l, TrVs C H vs l ∧ GoodAll l ∧ cntAll l ≤ vs.length * N ∧ depAll l ≤ d
  | [], _ => ⟨[], .nil, by rw [GoodAll]; trivial, by rw [cntAll]; omega, by rw [depAll]; omega⟩
  | v :: vs, h => by
    obtain ⟨t, h1, h2, h3, h4⟩ := (h v List.mem_cons_self).ex
    obtain ⟨l, k1, k2, k3, k4⟩ := fine_all (vs := vs) fun w hw => h w (List.mem_cons_of_mem _ hw)
    refine ⟨t :: l, .cons h1 k1, by rw [GoodAll]; exact ⟨h2, k2⟩, ?_, by rw [depAll]; omega⟩
    rw [cntAll, List.length_cons, Nat.add_mul]
    omega
theorem Fine.lst {a : Addr} {vs : List V} (ha : H a = some (.lst vs)) (h : ∀ v ∈ vs, Fine N d C H v) (hn : vs.length * N + 1 ≤ N') : Fine N' (d + 1) C H (.ref a) := by
  obtain ⟨l, k1, k2, k3, k4⟩ := fine_all h
  exact ⟨.lst l, .lst ha k1, by rw [Tr.Good]; exact k2, by rw [Tr.cnt]; omega, by rw [Tr.dep]; omega⟩
theorem Fine.tup {a : Addr} {vs : List V} (ha : H a = some (.tup vs)) (h : ∀ v ∈ vs, Fine N d C H v) (hn : vs.length * N + 1 ≤ N') : Fine N' (d + 1) C H (.ref a) := by
  obtain ⟨l, k1, k2, k3, k4⟩ := fine_all h
  exact ⟨.tup l, .tup ha k1, by rw [Tr.Good]; exact k2, by rw [Tr.cnt]; omega, by rw [Tr.dep]; omega⟩
theorem Fine.int {i : Int} (h : i.natAbs < 10 ^ 50) : Fine 1 0 C H (.int i) := ⟨.int i, .int i, by rw [Tr.Good]; exact h, Nat.le_refl _, Nat.le_refl _⟩
theorem Fine.bl {b : Bool} : Fine 1 0 C H (.bl b) := ⟨.bl b, .bl b, by rw [Tr.Good]; trivial, Nat.le_refl _, Nat.le_refl _⟩
theorem Fine.non : Fine 1 0 C H .non := ⟨.non, .non, by rw [Tr.Good]; trivial, Nat.le_refl _, Nat.le_refl _⟩
theorem Fine.str {x : Str} (h : (reprText x).length ≤ 100) : Fine 1 0 C H (.str x) := ⟨.str x, .str x, by rw [Tr.Good]; exact h, Nat.le_refl _, Nat.le_refl _⟩
theorem Fine.dk {a : Addr} {ks : List Nat} (h : H a = some (.dK (kB ks))) (h1 : ks.length ≤ 100) (h2 : ∀ c ∈ ks, c < 100) : Fine (1 + ks.length) 0 C H (.ref a) := ⟨.dk ks, .dk h, by rw [Tr.Good]; exact ⟨h1, h2⟩, by rw [Tr.cnt]; exact Nat.le_refl _, by rw [Tr.dep]; exact Nat.le_refl _⟩
theorem Fine.dt {a : Addr} {ps : List (Nat × Nat)} (h : H a = some (.dT (kP ps))) (h1 : ps.length ≤ 100) (h2 : ∀ p ∈ ps, p.1 < 100 ∧ p.2 < 100) : Fine (1 + ps.length) 2 C H (.ref a) := ⟨.dt ps, .dt h, by rw [Tr.Good]; exact ⟨h1, h2⟩, by rw [Tr.cnt]; exact Nat.le_refl _, by rw [Tr.dep]; exact Nat.le_refl _⟩
theorem Fine.rat {a : Addr} {t b : Int} (h : Rt C H a t b) (ht : Bt 150 t) (hb : Bt 150 b) (pb : 0 < b) : Fine 1 0 C H (.ref a) := ⟨.rat t b, .rat h, by rw [Tr.Good]; exact ⟨ht, hb, pb⟩, Nat.le_refl _, Nat.le_refl _⟩
end
/-- a number, an int or a Ratio -/
def NumT (C : Addr) (H : Hp) (v : V) : Prop := (∃ i : Int, v = .int i ∧ Bt 150 i) ∨ ∃ a t b, v = .ref a ∧ Rt C H a t b ∧ Bt 150 t ∧ Bt 150 b ∧ 0 < b
section
variable {C : Addr} {H H' : Hp} {v : V}
theorem NumT.up (h : NumT C H v) (e : Ex H H') : NumT C H' v := h.imp id fun ⟨a, t, b, h1, h2, h3⟩ => ⟨a, t, b, h1, h2.up e, h3⟩
theorem NumT.pot {p : Addr} (h : NumT C H v) (hp : Pot H p) (e : ExP p H H') : NumT C H' v := h.imp id fun ⟨a, t, b, h1, ⟨dx, h2⟩, h3⟩ => ⟨a, t, b, h1, ⟨dx, e.1 _ _ (fun z => by
  obtain ⟨x, y, k, _⟩ := hp
  rw [z, k] at h2
  cases h2) h2⟩, h3⟩
theorem NumT.ap {D : Addr} {xs ys : List V} (h : NumT C H v) (hD : H D = some (.lst xs)) : NumT C (upd H D (.lst ys)) v := h.imp id fun ⟨a, t, b, h1, ⟨dx, h2⟩, h3⟩ => ⟨a, t, b, h1, ⟨dx, by
  rw [upd_ne (fun z => by rw [z, hD] at h2; cases h2)]
  exact h2⟩, h3⟩
theorem NumT.fine {S : List Addr} (h : NumT C H v) (o : Off S H) : Fine 1 0 C (msk S H) v := by
  rcases h with ⟨i, rfl, hi⟩ | ⟨a, t, b, rfl, ⟨dx, h2⟩, h3, h4, h5⟩
  · exact Fine.int (Nat.lt_of_lt_of_le hi (by decide +kernel))
  · refine Fine.rat ⟨dx, ?_⟩ h3 h4 h5
    rw [msk_of (fun z => by
      obtain ⟨xs, q⟩ := o a z
      rw [q] at h2
      cases h2)]
    exact h2
end
theorem ExP.mk {p : Addr} {H H' : Hp} (e : ExB p H H') (hp : Pot H' p) : ExP p H H' := ⟨e, fun _ => hp⟩
theorem ExP.refl {p : Addr} {H : Hp} : ExP p H H := ExP.of (Ex.refl _)
theorem cut_lo {α : Type} (xs : List V) (i : Nat) (h : i ≤ xs.length) : cutV xs none (some (i : Int)) = xs.take i := by
  unfold cutV
  rw [HT.sIx_none, HT.sIx_nat, List.drop_zero, Nat.sub_zero, Nat.min_eq_left h]
theorem cut_hi (xs : List V) (i : Nat) : cutV xs (some ((i : Int) + 1)) none = xs.drop (i + 1) := by
  unfold cutV
  rw [HT.sIx_none, show ((i : Int) + 1) = ((i + 1 : Nat) : Int) by omega, HT.sIx_nat]
  by_cases h : i + 1 ≤ xs.length
  · rw [Nat.min_eq_left h, List.take_of_length_le (by rw [List.length_drop]; omega)]
  · rw [Nat.min_eq_right (by omega), List.drop_length, List.drop_of_length_le (by omega), List.take_nil]
theorem cut_mem {xs : List V} {lo hi : Option Int} {v : V} (h : v ∈ cutV xs lo hi) : v ∈ xs := by
  unfold cutV at h
  exact List.mem_of_mem_drop (List.mem_of_mem_take h)
/-- a list outside of S, of values that can be shown -/
structure LF (N d : Nat) (S : List Addr) (C : Addr) (H : Hp) (a : Addr) (xs : List V) : Prop where
  at_ : H a = some (.lst xs)
  off : a ∉ S
  all : ∀ x ∈ xs, Fine N d C (msk S H) x
section
variable {N d : Nat} {S : List Addr} {C : Addr} {H H' : Hp} {a b p : Addr} {xs ys : List V}
theorem LF.up (h : LF N d S C H a xs) (e : Ex H H') : LF N d S C H' a xs := ⟨e _ _ h.at_, h.off, fun x hx => (h.all x hx).up (msk_up e)⟩
theorem LF.fine (h : LF N d S C H a xs) {N' : Nat} (hn : xs.length * N + 1 ≤ N') : Fine N' (d + 1) C (msk S H) (.ref a) := Fine.lst (by rw [msk_of h.off]; exact h.at_) h.all hn
theorem LF.new (off : Off S H) (hp : H p = none) (h : ∀ x ∈ xs, Fine N d C (msk S H) x) : LF N d S C (upd H p (.lst xs)) p xs := ⟨upd_same, off.fresh hp, fun x hx => (h x hx).up (msk_up (Ex.new hp))⟩
theorem LF.cat (hx : LF N d S C H a xs) (hy : LF N d S C H b ys) : ∀ x ∈ xs ++ ys, Fine N d C (msk S H) x := fun x h => (List.mem_append.mp h).elim (hx.all x) (hy.all x)
theorem LF.cut (hx : LF N d S C H a xs) (lo hi : Option Int) : ∀ x ∈ cutV xs lo hi, Fine N d C (msk S H) x := fun x h => hx.all x (cut_mem h)
theorem LF.mono {N' d' : Nat} (h : LF N d S C H a xs) (hn : N ≤ N') (hd : d ≤ d') : LF N' d' S C H a xs := ⟨h.at_, h.off, fun x hx => (h.all x hx).mono hn hd⟩
theorem tup_fine (off : Off S H) (hp : H p = none) (h : ∀ x ∈ xs, Fine N d C (msk S H) x) {N' : Nat} (hn : xs.length * N + 1 ≤ N') : Fine N' (d + 1) C (msk S (upd H p (.tup xs))) (.ref p) :=
  Fine.tup (vs := xs) (by rw [msk_of (off.fresh hp)]; exact upd_same) (fun x hx => (h x hx).up (msk_up (Ex.new hp))) hn
end
theorem mem1 {P : V → Prop} {a : V} (h : P a) : ∀ x ∈ [a], P x := fun x hx => by rw [List.mem_singleton.mp hx]; exact h
theorem mem2 {P : V → Prop} {a b : V} (h1 : P a) (h2 : P b) : ∀ x ∈ [a, b], P x := fun x hx => (List.mem_cons.mp hx).elim (fun z => z ▸ h1) (mem1 h2 x)
theorem memA {P : V → Prop} {xs ys : List V} (h1 : ∀ x ∈ xs, P x) (h2 : ∀ x ∈ ys, P x) : ∀ x ∈ xs ++ ys, P x := fun x hx => (List.mem_append.mp hx).elim (h1 x) (h2 x)
/-! ### expressions that give new values -/
section
variable {N d : Nat} {C : Addr} {S : List Addr}
def Ev (N d : Nat) (C : Addr) (S : List Addr) (te : TE) (σ : L2.St) (H : Hp) : Prop := ∀ Q : VK, (∀ v H', Ex H H' → Fine N d C (msk S H') v → Q v H') → te σ H Q
def Evs (N d : Nat) (C : Addr) (S : List Addr) (n : Nat) (ts : TA) (σ : L2.St) (H : Hp) : Prop := ∀ k : List V → Hp → Prop, (∀ vs H', Ex H H' → vs.length = n → (∀ v ∈ vs, Fine N d C (msk S H') v) → k vs H') → ts σ H k
theorem Evs.nil {σ : L2.St} {H : Hp} : Evs N d C S 0 tNil σ H := fun k h => h [] H (Ex.refl _) rfl fun v hv => nomatch hv
theorem Evs.cons {n : Nat} {te : TE} {ts : TA} {σ : L2.St} {H : Hp} (h1 : Ev N d C S te σ H) (h2 : ∀ H', Ex H H' → Evs N d C S n ts σ H') : Evs N d C S (n + 1) (tCons te ts) σ H := fun k h => h1 _ fun v H1 e1 f1 => h2 H1 e1 _ fun vs H2 e2 l2 f2 =>
  h (v :: vs) H2 (e1.trans e2) (by rw [List.length_cons, l2]) fun x hx => (List.mem_cons.mp hx).elim (fun z => z ▸ f1.up (msk_up e2)) (f2 x)
theorem lst_go {n : Nat} {ts : TA} {σ : L2.St} {H : Hp} {Q : VK} (h : Evs N d C S n ts σ H) (k : ∀ vs H', Ex H H' → vs.length = n → (∀ v ∈ vs, Fine N d C (msk S H') v) → vs.length ≤ sizeLine ∧ ∀ p, H' p = none → Q (.ref p) (upd H' p (.lst vs))) : tLst ts σ H Q := h _ k
theorem pt_fine {H : Hp} {r : Addr} {p : Nat × Nat} (h : Pt H r p) (o : Off S H) (b : p.1 < 100 ∧ p.2 < 100) : Fine 3 1 C (msk S H) (.ref r) := by
  have n : r ∉ S := fun z => by
    obtain ⟨xs, q⟩ := o r z
    have h' : H r = some (.tup [.int (p.1 : Nat), .int (p.2 : Nat)]) := h
    rw [q] at h'
    cases h'
  refine Fine.tup (N := 1) (d := 0) (vs := [.int (p.1 : Nat), .int (p.2 : Nat)]) (by rw [msk_of n]; exact h) ?_ (Nat.le_refl _)
  have l100 : ∀ c : Nat, c < 100 → ((c : Int)).natAbs < 10 ^ 50 := fun c hc => Nat.lt_of_lt_of_le (by omega : ((c : Int)).natAbs < 100) (by decide +kernel)
  exact mem2 (Fine.int (l100 _ b.1)) (Fine.int (l100 _ b.2))
theorem int_fine {H : Hp} {i : Int} (h : i.natAbs < 1000) : Fine 1 0 C H (.int i) := Fine.int (Nat.lt_of_lt_of_le h (by decide +kernel))
theorem lst_fine {H : Hp} {p : Addr} {xs : List V} {N' : Nat} (off : Off S H) (hp : H p = none) (h : ∀ x ∈ xs, Fine N d C (msk S H) x) (hn : xs.length * N + 1 ≤ N') : Fine N' (d + 1) C (msk S (upd H p (.lst xs))) (.ref p) := (LF.new off hp h).fine hn
/-- a comprehension's items -/
theorem lc_fine {J : It} {n : Nat} {Gd : Hp → Prop} {Y : Nat → Hp → V → Hp → Prop} (w : Walk J n Gd Y) {g : TG} {te : TE} {vs : List Nat} {σ : L2.St} {H1 : Hp} {D : Addr} {Qd : Hp → Prop} (N d : Nat) (C : Addr) (S : List Addr) (off : Off S H1) (hD : H1 D = none) (hG : ∀ H, Ex H1 H → Gd H) (hz : n ≤ 1000)
    (hs : ∀ (i : Nat) x H H' (Gt : VK), i < n → Ex H1 H → Off (D :: S) H → Y i H x H' → (∀ v H2, Ex H H2 → Fine N d C (msk (D :: S) H2) v → Gt v H2) → g x (wipe σ vs) H' fun σ2 H2 => wipe σ2 vs = wipe σ vs ∧ te σ2 H2 Gt)
    (hd : ∀ acc H, Ex H1 H → H D = some (.lst acc) → acc.length = n → (∀ x ∈ acc, Fine N d C (msk S H) x) → Qd H) :
    ∃ W : Nat → Nat → Hp → Prop, (∃ m, W 0 m (upd H1 D (.lst []))) ∧ ∀ i m H, W i m H →
      (J.stop i H ∧ Qd H) ∨ (J.go i H ∧ ∃ Nx : Hp → Prop, (∀ H', Nx H' → ∃ m', m' < m ∧ W (i + 1) m' H') ∧ ∀ x H', J.yld i H x H' → g x (wipe σ vs) H' fun σ2 H2 => wipe σ2 vs = wipe σ vs ∧ tYes σ2 H2 fun b H3 =>
        if b = true then te σ2 H3 fun y H4 => ∃ acc, H4 D = some (.lst acc) ∧ acc.length < sizeLine ∧ Nx (upd H4 D (.lst (acc ++ [y]))) else Nx H3) := by
  refine lcE w (Chg.ex hD) (List.range n) (List.length_range).symm hz (fun _ => true) (fun _ v H => Fine N d C (msk (D :: S) H) v) (fun _ _ _ _ _ e h => h.up (msk_up e)) (fun _ _ _ _ _ _ h => by rw [msk_put (List.mem_cons_self)]; exact h) hG ?_ ?_
  · rintro i y x H H' N2 Gt hy e ⟨acc, hacc⟩ hY _ k
    have hi : i < n := by
      have := (List.getElem?_eq_some_iff.mp hy).1
      rwa [List.length_range] at this
    exact hs i x H H' Gt hi e ((off.up e).cons hacc) hY fun v H2 e2 f2 => k rfl v H2 e2 f2
  · intro acc H e hD2 hacc
    rw [filter_yes] at hacc
    refine hd acc H e hD2 (by rw [← Paired.length hacc, List.length_range]) ?_
    have key : ∀ {l : List Nat} {acc : List V}, Paired (fun _ v => Fine N d C (msk (D :: S) H) v) l acc → ∀ x ∈ acc, Fine N d C (msk (D :: S) H) x := by
      intro l acc z
      induction z with
      | nil => intro x hx; exact nomatch hx
      | cons h _ ih => exact fun x hx => (List.mem_cons.mp hx).elim (fun z => z ▸ h) (ih x)
    exact fun x hx => (key hacc x hx).up (msk_sub fun b hb => List.mem_cons_of_mem _ hb)
end
end R71

namespace R71
open B71 PySem PySem.Spec PyProof.Rows L2 Evl RZ SrtO

def rLstOf (K : PySem.W.Frag) : List V → Hp → VK → Prop := fun xs H Q => ∃ p ys, xs = [.ref p] ∧ (SqL K H p ys ∨ SqT K H p ys) ∧ ∀ l, H l = none → Q (.ref l) (upd H l (.lst ys))
def rTupOf (K : PySem.W.Frag) : List V → Hp → VK → Prop := fun xs H Q => ∃ p ys, xs = [.ref p] ∧ ((SqL K H p ys ∧ ∀ l, H l = none → Q (.ref l) (upd H l (.tup ys))) ∨ (SqT K H p ys ∧ Q (.ref p) H))
theorem u2 {k : Nat} {A : Around} (r : Room k A) : A.units + 2 < cLine := by have := r.un; omega
/-- places told, outside of S -/
structure Tld (S : List Addr) (H : Hp) (l : Addr) (rs : List Addr) (L : Pl) : Prop where
  at_ : H l = some (.lst (rs.map V.ref))
  off : l ∉ S
  pts : Pts H rs L
  sm : ∀ p ∈ L, p.1 < 5 ∧ p.2 < 5
  len : L.length ≤ 16
section
variable {S : List Addr} {H H' : Hp} {l : Addr} {rs : List Addr} {L : Pl} {C : Addr}
theorem Tld.up (h : Tld S H l rs L) (e : Ex H H') : Tld S H' l rs L := ⟨e _ _ h.at_, h.off, h.pts.up e, h.sm, h.len⟩
theorem Tld.pot {p : Addr} (h : Tld S H l rs L) (hp : Pot H p) (ps : p ∈ S) (e : ExP p H H') : Tld S H' l rs L := ⟨e.1 _ _ (fun z => h.off (z ▸ ps)) h.at_, h.off, h.pts.pot hp e.1, h.sm, h.len⟩
theorem Tld.more {D : Addr} (h : Tld S H l rs L) (hD : H D = none) : Tld (D :: S) H l rs L := ⟨h.at_, fun z => (List.mem_cons.mp z).elim (fun z => by have := h.at_; rw [z, hD] at this; cases this) h.off, h.pts, h.sm, h.len⟩
theorem Tld.putD {D : Addr} {o u : HO} (h : Tld S H l rs L) (hD : D ∈ S) (hu : H D = some u) (nu : ∀ xs, u ≠ .tup xs) : Tld S (upd H D o) l rs L := ⟨by rw [upd_ne (fun z => h.off (by rw [z]; exact hD))]; exact h.at_, h.off, h.pts.set hu nu, h.sm, h.len⟩
theorem Tld.ln (h : Tld S H l rs L) : rs.length = L.length := h.pts.len
theorem Tld.all (h : Tld S H l rs L) (o : Off S H) : ∀ x ∈ rs.map V.ref, Fine 3 1 C (msk S H) x := fun x hx => by
  obtain ⟨r, p, rfl, hp, hr⟩ := pts_mem h.pts x hx
  have := h.sm p hp
  exact pt_fine hr o ⟨by omega, by omega⟩
theorem Tld.lf (h : Tld S H l rs L) (o : Off S H) : LF 3 1 S C H l (rs.map V.ref) := ⟨h.at_, h.off, h.all o⟩
theorem Tld.fine (h : Tld S H l rs L) (o : Off S H) : Fine 49 2 C (msk S H) (.ref l) := (h.lf o).fine (by rw [List.length_map, h.ln]; have := h.len; omega)
end
theorem pt_pot {H H' : Hp} {p r : Addr} {z : Nat × Nat} (h : Pt H r z) (hp : Pot H p) (e : ExB p H H') : Pt H' r z := e _ _ (pot_ne hp h) h
theorem cutL {xs : List V} (lo hi : Option Int) {n : Nat} (h : xs.length ≤ n) : (cutV xs lo hi).length ≤ n := Nat.le_trans (cutV_length xs lo hi) h
theorem pts_idx {H : Hp} {rs : List Addr} {pl : Pl} (h : Pts H rs pl) {i : Nat} {x : V} (hx : (rs.map V.ref)[i]? = some x) : ∃ r p, x = .ref r ∧ p ∈ pl ∧ Pt H r p := by
  obtain ⟨r, p, h1, h2, h3⟩ := pts_at h hx
  exact ⟨r, p, h1, List.mem_of_getElem? h2, h3⟩
/-- the list found, as it grows -/
structure Mid (C p a l D : Addr) (rs vr : List Addr) (pl L : Pl) (H : Hp) (n : Nat) (H' : Hp) : Prop where
  x : ExP p H H'
  off : Off (D :: [p]) H'
  ta : Tld (D :: [p]) H' a rs pl
  tl : Tld (D :: [p]) H' l vr L
  d : ∃ vs, H' D = some (.lst vs) ∧ vs.length = n ∧ ∀ v ∈ vs, Fine 120 4 C (msk (D :: [p]) H') v
theorem Fine.less {N d : Nat} {S : List Addr} {C : Addr} {H : Hp} {D : Addr} {v : V} (h : Fine N d C (msk (D :: S) H) v) : Fine N d C (msk S H) v := h.up (msk_sub fun b hb => List.mem_cons_of_mem _ hb)
theorem prs_of {H : Hp} : ∀ {L : Pl} {acc : List V}, Paired (fun (y : Nat × Nat) v => ∃ q r, v = V.ref q ∧ H q = some (.tup [.ref r, .bl true]) ∧ Pt H r y) L acc → ∃ ps : List (Addr × Addr), acc = ps.map (fun p => V.ref p.1) ∧ Paired (fun p (z : Nat × Nat) => H p.1 = some (.tup [.ref p.2, .bl true]) ∧ Pt H p.2 z) ps L
  | _, _, .nil => ⟨[], rfl, .nil⟩
  | _, _, .cons h t => by
    obtain ⟨ps, rfl, hp⟩ := prs_of t
    obtain ⟨q, r, rfl, h1, h2⟩ := h
    exact ⟨(q, r) :: ps, rfl, .cons ⟨h1, h2⟩ hp⟩
theorem Mid.ext {C p a l D : Addr} {rs vr : List Addr} {pl L : Pl} {H H1 H2 : Hp} {n k : Nat} {vs ws : List V} (hDH : H D = none) (nDp : D ≠ p) (m : Mid C p a l D rs vr pl L H n H1) (e : Ex H1 H2) (hv : H1 D = some (.lst vs)) (fw : ∀ v ∈ ws, Fine 120 4 C (msk (D :: [p]) H2) v) (lw : ws.length = k) : Mid C p a l D rs vr pl L H (n + k) (upd H2 D (.lst (vs ++ ws))) := by
  obtain ⟨vs', h1, h2, h3⟩ := m.d
  rw [hv] at h1
  injection h1 with h1
  injection h1 with h1
  subst h1
  have hD2 := e _ _ hv
  refine ⟨⟨(m.x.1.trans (ExB.of e)).mut hDH, fun hpp => ((m.x.2 hpp).up e).same (upd_ne (Ne.symm nDp))⟩, (m.off.up e).put, (m.ta.up e).putD (List.mem_cons_self) hD2 (fun xs z => by cases z), (m.tl.up e).putD (List.mem_cons_self) hD2 (fun xs z => by cases z), vs ++ ws, upd_same, by rw [List.length_append, h2, lw], ?_⟩
  rw [msk_put (List.mem_cons_self)]
  exact memA (fun v hv => (h3 v hv).up (msk_up e)) fw
theorem lcv {C D' : Addr} {S : List Addr} {H1 H4 : Hp} {acc : List V} {n : Nat} (off : Off S H1) (hD : H1 D' = none) (hD4 : H4 D' = some (.lst acc)) (la : acc.length = n) (n16 : n ≤ 16) (fa : ∀ x ∈ acc, Fine 4 1 C (msk S H4) x) : Fine 120 4 C (msk S H4) (.ref D') :=
  (Fine.lst (N := 4) (d := 1) (N' := 120) (by rw [msk_of (off.fresh hD)]; exact hD4) fa (by omega)).mono (Nat.le_refl _) (by decide)
def spBR (C : Addr) : Sp := fun vs H Q _ => ∃ (p a l : Addr) (tall wide : Nat) (rs vr : List Addr) (pl L : Pl), vs = [.ref p, .ref a, .ref l, .int tall, .int wide] ∧ Pot H p ∧ Tld [p] H a rs pl ∧ Tld [p] H l vr L ∧ 1 ≤ pl.length ∧ 1 ≤ L.length ∧ L.Nodup ∧ tall ≤ 4 ∧ wide ≤ 4 ∧
  ∀ out vs H', ExP p H H' → H out = none → H' out = some (.lst vs) → vs.length ≤ 60 → (∀ v ∈ vs, Fine 120 4 C (msk [p] H') v) → Q (.ref out) H'
section
variable {P : Program} {w : World} {K : PySem.W.Frag} {mg : Str → Option Value} {base : Heap} {f C : Addr} {fd : FuncData}
theorem sc__law_bent_rooks : FnScope ["pot", "places", "told", "tall", "wide", "one", "at", "found", "place", "number", "row"] ["pot", "places", "told", "tall", "wide"] (defScope (top 49)) := ⟨rfl, rfl, rfl, by decide +kernel, rfl, by decide +kernel, by decide +kernel⟩
theorem ok_law_bent_rooks (F : Fun K "_law_bent_rooks" "_law_bent_rooks" (top 49) f fd) (R : RCl K mg C) (T : Tx mg) (MR : MkR P w K mg base C) (C__law_draw : ClO P w K mg base "_law_draw" 1 ["pot", "many"] spDraw) (C__law_pick : ClO P w K mg base "_law_pick" 2 ["pot", "some"] spPick) : FnOk P w K mg base CX0 4 f fd ["pot", "places", "told", "tall", "wide"] (spBR C) := by
  have sc := sc__law_bent_rooks
  refine F.ok sc (fun vs H Q E h => ?_) (fun cdv A outer s H vs Q E hr h => ?_)
  · obtain ⟨_, _, _, _, _, _, _, _, _, rfl, _⟩ := h; rfl
  obtain ⟨p, a, l, tall, wide, rs, vr, pl, L, rfl, hp, ta, tl, p1, l1, nd, t4, w4, q⟩ := h
  have off0 := pot_off hp
  refine ⟨_, (pss_cut (ps_par (i := 5) (j := 6) rfl sc.nd rfl rfl (by decide) rfl rfl (pa_cons (pe_clo C__law_pick (hr.mono (by first | decide | omega)) (pa_cons (pv 0) (pa_cons (pv 1) pa_nil))) (pa_cons (pe_clo C__law_draw (hr.mono (by first | decide | omega)) (pa_cons (pv 0) (pa_cons (pe_callB call_len_seq rfl T.b_len bt_len (pa_cons (pv 2) pa_nil)) pa_nil))) pa_nil)) rfl) (pss_cut (ps_set (i := 7) sc.nd rfl (Or.inl rfl) (pe_lst (pa_cons (pv 2) (pa_cons (pe_revL (pv 2)) (pa_cons (pe_callTy call_tuple_of rfl T.b_tuple bt_tuple (pa_cons (pv 2) pa_nil)) (pa_cons (pe_slice sl_list (pv 2) (po_some pe_int) po_none) (pa_cons (pe_slice sl_list (pv 2) po_none (po_some (pe_un un_neg pe_int))) (pa_cons (pe_op op_cat (pv 2) (pe_slice sl_list (pv 2) po_none (po_some pe_int))) (pa_cons (pe_op op_cat (pv 2) (pe_lst (pa_cons (pv 5) pa_nil))) (pa_cons (pe_op op_cat (pe_op op_cat (pe_slice sl_list (pv 2) po_none (po_some (pv 6))) (pe_lst (pa_cons (pv 5) pa_nil))) (pe_slice sl_list (pv 2) (po_some (pe_op op_add (pv 6) pe_int)) po_none)) pa_nil)))))))))) (pss_cut (ps_expr (pe_bm PySem.F.plainAttrs_list PySem.F.slot_list_extend PySem.F.type_list_extend mt_extend (pv 7) (pa_cons (pe_lst (pa_cons (pe_lc (own := [("place", 8)]) (g := (gName 8)) rfl sc.nd (pi_list (pv 2)) (blkOk_by (N := ["pot", "places", "told", "tall", "wide", "one", "at", "found", "place", "number", "row"]) (sc := defScope ((top 49))) (by decide +kernel)) (fun _ _ _ _ _ => (pg_name (i := 8) sc.nd rfl (Or.inl rfl))) (fun _ _ _ _ _ => pts_nil) (fun _ _ _ _ _ => (pe_callTy (show CallR _ _ (rLstOf K) from call_list_of) rfl T.b_list bt_list (pa_cons (pv 8) pa_nil)))) (pa_cons (pe_lc (own := [("place", 8)]) (g := (gName 8)) rfl sc.nd (pi_list (pv 2)) (blkOk_by (N := ["pot", "places", "told", "tall", "wide", "one", "at", "found", "place", "number", "row"]) (sc := defScope ((top 49))) (by decide +kernel)) (fun _ _ _ _ _ => (pg_name (i := 8) sc.nd rfl (Or.inl rfl))) (fun _ _ _ _ _ => pts_nil) (fun _ _ _ _ _ => (pe_tup (pa_cons (pe_ix (show IxR _ (rIxT K) from ix_tup) (pv 8) pe_int (fun _ _ => rfl)) (pa_cons (pe_ix (show IxR _ (rIxT K) from ix_tup) (pv 8) pe_int (fun _ _ => rfl)) pa_nil))))) (pa_cons (pe_lc (own := [("place", 8)]) (g := (gName 8)) rfl sc.nd (pi_list (pv 2)) (blkOk_by (N := ["pot", "places", "told", "tall", "wide", "one", "at", "found", "place", "number", "row"]) (sc := defScope ((top 49))) (by decide +kernel)) (fun _ _ _ _ _ => (pg_name (i := 8) sc.nd rfl (Or.inl rfl))) (fun _ _ _ _ _ => pts_nil) (fun _ _ _ _ _ => (pe_op (show OpR _ _ (rCatT K) from op_catT) (pv 8) (pe_tup (pa_cons pe_int pa_nil))))) (pa_cons (pe_lc (own := [("place", 8)]) (g := (gName 8)) rfl sc.nd (pi_list (pv 2)) (blkOk_by (N := ["pot", "places", "told", "tall", "wide", "one", "at", "found", "place", "number", "row"]) (sc := defScope ((top 49))) (by decide +kernel)) (fun _ _ _ _ _ => (pg_name (i := 8) sc.nd rfl (Or.inl rfl))) (fun _ _ _ _ _ => pts_nil) (fun _ _ _ _ _ => (pe_slice (show SlR _ (rSlT K) from sl_tup) (pv 8) po_none (po_some pe_int)))) pa_nil))))) pa_nil))) (pss_cut (ps_expr (pe_bm PySem.F.plainAttrs_list PySem.F.slot_list_extend PySem.F.type_list_extend mt_extend (pv 7) (pa_cons (pe_lst (pa_cons (pe_lc (own := [("place", 8)]) (g := (gName 8)) rfl sc.nd (pi_list (pv 2)) (blkOk_by (N := ["pot", "places", "told", "tall", "wide", "one", "at", "found", "place", "number", "row"]) (sc := defScope ((top 49))) (by decide +kernel)) (fun _ _ _ _ _ => (pg_name (i := 8) sc.nd rfl (Or.inl rfl))) (fun _ _ _ _ _ => pts_nil) (fun _ _ _ _ _ => (pe_tup (pa_cons (pe_rat1 MR (hr.mono (by first | decide | omega)) (pa_cons (pe_ix (show IxR _ (rIxT K) from ix_tup) (pv 8) pe_int (fun _ _ => rfl)) pa_nil)) (pa_cons (pe_ix (show IxR _ (rIxT K) from ix_tup) (pv 8) pe_int (fun _ _ => rfl)) pa_nil))))) (pa_cons (pe_lc (own := [("place", 8)]) (g := (gName 8)) rfl sc.nd (pi_list (pv 2)) (blkOk_by (N := ["pot", "places", "told", "tall", "wide", "one", "at", "found", "place", "number", "row"]) (sc := defScope ((top 49))) (by decide +kernel)) (fun _ _ _ _ _ => (pg_name (i := 8) sc.nd rfl (Or.inl rfl))) (fun _ _ _ _ _ => pts_nil) (fun _ _ _ _ _ => (pe_tup (pa_cons (pe_op op_add (pe_ix (show IxR _ (rIxT K) from ix_tup) (pv 8) pe_int (fun _ _ => rfl)) (pv 3)) (pa_cons (pe_ix (show IxR _ (rIxT K) from ix_tup) (pv 8) pe_int (fun _ _ => rfl)) pa_nil))))) (pa_cons (pe_lc (own := [("place", 8)]) (g := (gName 8)) rfl sc.nd (pi_list (pv 2)) (blkOk_by (N := ["pot", "places", "told", "tall", "wide", "one", "at", "found", "place", "number", "row"]) (sc := defScope ((top 49))) (by decide +kernel)) (fun _ _ _ _ _ => (pg_name (i := 8) sc.nd rfl (Or.inl rfl))) (fun _ _ _ _ _ => pts_nil) (fun _ _ _ _ _ => (pe_tup (pa_cons (pe_ix (show IxR _ (rIxT K) from ix_tup) (pv 8) pe_int (fun _ _ => rfl)) (pa_cons (pe_op op_sub pe_int (pe_ix (show IxR _ (rIxT K) from ix_tup) (pv 8) pe_int (fun _ _ => rfl))) pa_nil))))) pa_nil)))) pa_nil))) (pss_cut (ps_expr (pe_bm PySem.F.plainAttrs_list PySem.F.slot_list_append PySem.F.type_list_append mt_append (pv 7) (pa_cons (pe_lc (own := [("place", 8)]) (g := (gName 8)) rfl sc.nd (pi_list (pv 2)) (blkOk_by (N := ["pot", "places", "told", "tall", "wide", "one", "at", "found", "place", "number", "row"]) (sc := defScope ((top 49))) (by decide +kernel)) (fun _ _ _ _ _ => (pg_name (i := 8) sc.nd rfl (Or.inl rfl))) (fun _ _ _ _ _ => pts_nil) (fun _ _ _ _ _ => (pe_callTy (show CallR _ _ (rTupOf K) from call_tuple_of) rfl T.b_tuple bt_tuple (pa_cons (pe_lc (own := [("number", 9)]) (g := (gName 9)) rfl sc.nd (pi_sq (pv 8)) (blkOk_by (N := ["pot", "places", "told", "tall", "wide", "one", "at", "found", "place", "number", "row"]) (by kernel_rfl)) (fun _ _ _ _ _ => (pg_name (i := 9) sc.nd rfl (Or.inl rfl))) (fun _ _ _ _ _ => pts_nil) (fun _ _ _ _ _ => (pe_ifExp (pt_cmpR op_lt (pv 9) pe_int (nomark _)) (pe_cmpR op_eq (pv 9) pe_int (nomark _)) (pv 9)))) pa_nil)))) pa_nil))) (pss_cut (ps_expr (pe_bm PySem.F.plainAttrs_list PySem.F.slot_list_extend PySem.F.type_list_extend mt_extend (pv 7) (pa_cons (pe_lst (pa_cons (pe_lc (own := [("row", 10)]) (g := (gName 10)) rfl sc.nd (pi_range1 rfl T.b_range (pa_cons (pe_callB (call_min2 rfl) rfl T.b_min bt_min (pa_cons (pv 3) (pa_cons (pv 4) pa_nil))) pa_nil)) (blkOk_by (N := ["pot", "places", "told", "tall", "wide", "one", "at", "found", "place", "number", "row"]) (sc := defScope ((top 49))) (by decide +kernel)) (fun _ _ _ _ _ => (pg_name (i := 10) sc.nd rfl (Or.inl rfl))) (fun _ _ _ _ _ => pts_nil) (fun _ _ _ _ _ => (pe_tup (pa_cons (pv 10) (pa_cons (pv 10) pa_nil))))) (pa_cons (pe_callTy (call_dictPT rfl (u2 hr)) rfl T.b_dict bt_dict (pa_cons (pe_lc (own := [("place", 8)]) (g := (gName 8)) rfl sc.nd (pi_list (pv 2)) (blkOk_by (N := ["pot", "places", "told", "tall", "wide", "one", "at", "found", "place", "number", "row"]) (sc := defScope ((top 49))) (by decide +kernel)) (fun _ _ _ _ _ => (pg_name (i := 8) sc.nd rfl (Or.inl rfl))) (fun _ _ _ _ _ => pts_nil) (fun _ _ _ _ _ => (pe_tup (pa_cons (pv 8) (pa_cons pe_bl pa_nil))))) pa_nil)) (pa_cons (pe_op op_cat (pv 2) (pe_lst (pa_cons pe_non pa_nil))) (pa_cons (pe_lst (pa_cons (pv 2) pa_nil)) (pa_cons (pe_tup (pa_cons (pv 2) (pa_cons (pv 2) pa_nil))) pa_nil)))))) pa_nil))) (pss_one (ps_ret (pe_op op_cat (pv 7) (pe_lc (own := [("at", 6)]) (g := (gName 6)) rfl sc.nd (pi_range1 rfl T.b_range (pa_cons (pe_callB call_len_seq rfl T.b_len bt_len (pa_cons (pv 1) pa_nil)) pa_nil)) (blkOk_by (N := ["pot", "places", "told", "tall", "wide", "one", "at", "found", "place", "number", "row"]) (sc := defScope ((top 49))) (by decide +kernel)) (fun _ _ _ _ _ => (pg_name (i := 6) sc.nd rfl (Or.inl rfl))) (fun _ _ _ _ _ => pts_nil) (fun _ _ _ _ _ => (pe_slice (show SlR _ (rSlL K) from sl_list) (pv 1) (po_some (pv 6)) (po_some (pe_op op_add (pv 6) (pe_callB (show CallR _ _ (B71.rLenS K) from call_len_seq) rfl T.b_len bt_len (pa_cons (pv 2) pa_nil)))))))))))))))), ?_⟩
  refine ⟨fun σ' H' => ∃ (r : Addr) (z : Nat × Nat) (at_ : Nat), σ' = [some (.ref p), some (.ref a), some (.ref l), some (.int tall), some (.int wide), some (.ref r), some (.int at_), none, none, none, none] ∧ ExP p H H' ∧ Pt H' r z ∧ z ∈ pl ∧ at_ < L.length, ?_, ?_⟩
  · have lnp : (rs.map V.ref).length = pl.length := by rw [List.length_map, ta.ln]
    have lnl : (vr.map V.ref).length = L.length := by rw [List.length_map, tl.ln]
    have := ta.len
    have := tl.len
    refine ⟨_, rfl, _, rfl, p, a, _, rfl, hp, ta.at_, fun z => ta.off (by rw [z]; exact List.mem_singleton_self p), by omega, by omega, fun d x H1 e1 hp1 hx => ?_⟩
    have x1 := ExP.mk e1 hp1
    have ta1 := ta.pot hp (List.mem_singleton_self p) x1
    obtain ⟨r, z, rfl, hz, hr1⟩ := pts_at ta1.pts hx
    have tl1 := tl.pot hp (List.mem_singleton_self p) x1
    refine ⟨_, rfl, _, rfl, l, _, rfl, .inl (sq_of tl1.at_), p, L.length, by rw [lnl], hp1, by omega, by omega, fun at_ H2 e2 hp2 hat => ?_⟩
    have x2 := ExP.mk e2 hp2
    exact ⟨_, _, rfl, r, z, at_, rfl, x1.trans x2, pt_pot hr1 hp1 x2.1, List.mem_of_getElem? hz, hat⟩
  rintro σ' H1 ⟨r, z, at_, rfl, x1, hrz, hz, hat⟩
  have hp1 := x1.2 hp
  have pS := List.mem_singleton_self p
  replace ta := ta.pot hp pS x1
  replace tl := tl.pot hp pS x1
  have off := off0.pot hp x1
  clear off0
  have sl : sizeLine = 16777216 := sizeLine_eq
  have lnp : (rs.map V.ref).length = pl.length := by rw [List.length_map, ta.ln]
  have lnl : (vr.map V.ref).length = L.length := by rw [List.length_map, tl.ln]
  have a16 := ta.len
  have l16 := tl.len
  refine ⟨fun σ' H' => ∃ D vs, σ' = [some (.ref p), some (.ref a), some (.ref l), some (.int tall), some (.int wide), some (.ref r), some (.int at_), some (.ref D), none, none, none] ∧ Ex H1 H' ∧ H1 D = none ∧ H' D = some (.lst vs) ∧ vs.length = 8 ∧ ∀ v ∈ vs, Fine 120 4 C (msk (D :: [p]) H') v, ?_, ?_⟩
  · have el : ∀ {xs : List V} {n : Nat}, xs.length ≤ n → n * 3 + 1 ≤ 120 → xs.length * 3 + 1 ≤ 120 := fun h k => by omega
    have l16' : (vr.map V.ref).length ≤ 16 := by omega
    have fone : ∀ {H' : Hp}, Ex H1 H' → Fine 3 1 C (msk [p] H') (.ref r) := fun e => pt_fine (e _ _ hrz) (off.up e) (by have := ta.sm z hz; omega)
    refine lst_go (N := 120) (d := 4) (C := C) (S := [p]) (n := 8) ?_ ?_
    · refine Evs.cons (fun Q k => ⟨_, rfl, k _ _ (Ex.refl _) ((tl.fine off).mono (by decide) (by decide))⟩) fun H2 e => ?_
      have t2 := tl.up e
      have o2 := off.up e
      refine Evs.cons (fun Q k => ⟨_, rfl, l, _, rfl, sq_of t2.at_, fun q hq => k _ _ (Ex.new hq) ((lst_fine o2 hq (fun x hx => t2.all o2 x (List.mem_reverse.mp hx)) (by rw [List.length_reverse]; exact el l16' (by decide))).mono (Nat.le_refl _) (by decide))⟩) fun H3 e3 => ?_
      replace t2 := t2.up e3
      replace o2 := o2.up e3
      refine Evs.cons (fun Q k => ⟨_, rfl, l, _, rfl, .inl ⟨sq_of t2.at_, fun q hq => k _ _ (Ex.new hq) ((tup_fine o2 hq (t2.all o2) (el l16' (by decide))).mono (Nat.le_refl _) (by decide))⟩⟩) fun H4 e4 => ?_
      replace t2 := t2.up e4
      replace o2 := o2.up e4
      refine Evs.cons (fun Q k => ⟨_, rfl, _, rfl, l, _, rfl, sq_of t2.at_, fun q hq => k _ _ (Ex.new hq) ((lst_fine o2 hq ((t2.lf o2).cut _ _) (el (cutL _ _ l16') (by decide))).mono (Nat.le_refl _) (by decide))⟩) fun H5 e5 => ?_
      replace t2 := t2.up e5
      replace o2 := o2.up e5
      refine Evs.cons (fun Q k => ⟨_, rfl, _, rfl, _, rfl, l, _, rfl, sq_of t2.at_, fun q hq => k _ _ (Ex.new hq) ((lst_fine o2 hq ((t2.lf o2).cut _ _) (el (cutL _ _ l16') (by decide))).mono (Nat.le_refl _) (by decide))⟩) fun H6 e6 => ?_
      replace t2 := t2.up e6
      replace o2 := o2.up e6
      refine Evs.cons (fun Q k => ⟨_, rfl, _, rfl, _, rfl, l, _, rfl, sq_of t2.at_, fun s hs => ?_⟩) fun H7 e7 => ?_
      · have es := Ex.new (o := .lst (cutV (vr.map V.ref) none (some 1))) hs
        have fs : LF 3 1 [p] C (upd H6 s (.lst (cutV (vr.map V.ref) none (some 1)))) s _ := LF.new o2 hs ((t2.lf o2).cut _ _)
        have c1 := cutL none (some 1) l16'
        exact ⟨l, s, _, _, rfl, rfl, es _ _ t2.at_, fs.at_, by omega, fun q hq => k _ _ (es.trans (Ex.new hq)) ((lst_fine (o2.up es) hq (((t2.up es).lf (o2.up es)).cat fs) (el (n := 32) (by rw [List.length_append]; omega) (by decide))).mono (Nat.le_refl _) (by decide))⟩
      replace t2 := t2.up e7
      replace o2 := o2.up e7
      have e17 := e.trans (e3.trans (e4.trans (e5.trans (e6.trans e7))))
      refine Evs.cons (fun Q k => ⟨_, rfl, _, rfl, (by show 1 ≤ sizeLine; decide), fun s hs => ?_⟩) fun H8 e8 => ?_
      · have es := Ex.new (o := .lst [.ref r]) hs
        have fs : LF 3 1 [p] C (upd H7 s (.lst [.ref r])) s [.ref r] := LF.new o2 hs (mem1 (fone e17))
        exact ⟨l, s, _, _, rfl, rfl, es _ _ t2.at_, fs.at_, (by show _ + 1 ≤ sizeLine; omega), fun q hq => k _ _ (es.trans (Ex.new hq)) ((lst_fine (o2.up es) hq (((t2.up es).lf (o2.up es)).cat fs) (el (n := 32) (by rw [List.length_append]; show _ + 1 ≤ 32; omega) (by decide))).mono (Nat.le_refl _) (by decide))⟩
      replace t2 := t2.up e8
      replace o2 := o2.up e8
      have e18 := e17.trans e8
      refine Evs.cons (fun Q k => ⟨_, rfl, _, rfl, _, rfl, l, _, rfl, sq_of t2.at_, fun s hs => ?_⟩) fun H9 e9 => Evs.nil
      have es := Ex.new (o := .lst (cutV (vr.map V.ref) none (some (at_ : Int)))) hs
      have fs : LF 3 1 [p] C (upd H8 s (.lst (cutV (vr.map V.ref) none (some (at_ : Int))))) s _ := LF.new o2 hs ((t2.lf o2).cut _ _)
      have c1 := cutL none (some (at_ : Int)) l16'
      replace t2 := t2.up es
      replace o2 := o2.up es
      refine ⟨_, rfl, (by show 1 ≤ sizeLine; decide), fun s2 hs2 => ?_⟩
      have es2 := Ex.new (o := .lst [.ref r]) hs2
      have fs2 : LF 3 1 [p] C (upd _ s2 (.lst [.ref r])) s2 [.ref r] := LF.new o2 hs2 (mem1 (fone (e18.trans es)))
      replace fs := fs.up es2
      replace t2 := t2.up es2
      replace o2 := o2.up es2
      refine ⟨s, s2, _, _, rfl, rfl, fs.at_, fs2.at_, (by show _ + 1 ≤ sizeLine; omega), fun s3 hs3 => ?_⟩
      have fs3 : LF 3 1 [p] C _ s3 _ := LF.new o2 hs3 (fs.cat fs2)
      have es3 := Ex.new (o := .lst (cutV (vr.map V.ref) none (some (at_ : Int)) ++ [.ref r])) hs3
      replace t2 := t2.up es3
      replace o2 := o2.up es3
      refine ⟨_, rfl, _, rfl, _, _, rfl, rfl, _, rfl, l, _, rfl, sq_of t2.at_, fun s4 hs4 => ?_⟩
      have es4 := Ex.new (o := .lst (cutV (vr.map V.ref) (some ((at_ : Int) + 1)) none)) hs4
      have fs4 : LF 3 1 [p] C _ s4 _ := LF.new o2 hs4 ((t2.lf o2).cut (some ((at_ : Int) + 1)) none)
      have c4 := cutL (some ((at_ : Int) + 1)) none l16'
      replace fs3 := fs3.up es4
      replace o2 := o2.up es4
      exact ⟨s3, s4, _, _, rfl, rfl, fs3.at_, fs4.at_, (by rw [List.length_append]; show _ + 1 + _ ≤ sizeLine; omega), fun q hq => k _ _ (es.trans (es2.trans (es3.trans (es4.trans (Ex.new hq))))) ((lst_fine o2 hq (fs3.cat fs4) (el (n := 33) (by rw [List.length_append, List.length_append]; show _ + 1 + _ ≤ 33; omega) (by decide))).mono (Nat.le_refl _) (by decide))⟩
    · intro vs H2 e2 l2 f2
      refine ⟨by omega, fun D hD => ?_⟩
      exact ⟨D, vs, rfl, e2.trans (Ex.new hD), fresh_back e2 hD, upd_same, l2, by rw [msk_put (List.mem_cons_self), msk_new hD]; exact f2⟩
  rintro σ' H2 ⟨D, vs, rfl, e2, hD1, hD, v8, fv⟩
  have nDp : D ≠ p := pot_nn hp1 hD1
  have hDH : H D = none := x1.1.fresh nDp hD1
  have m0 : Mid C p a l D rs vr pl L H 8 H2 := ⟨x1.trans (ExP.of e2), (off.up e2).cons hD, (ta.more hD1).up e2, (tl.more hD1).up e2, vs, hD, v8, fv⟩
  clear fv v8 hD hD1 e2 off ta tl hp1 x1 hrz vs
  refine ⟨fun σ' H' => σ' = [some (.ref p), some (.ref a), some (.ref l), some (.int tall), some (.int wide), some (.ref r), some (.int at_), some (.ref D), none, none, none] ∧ Mid C p a l D rs vr pl L H 12 H', ?_, ?_⟩
  · obtain ⟨vs, hD, _⟩ := m0.d
    have l16' : (vr.map V.ref).length ≤ 16 := by omega
    refine ⟨_, rfl, .inl ⟨rfl, vs, sq_of hD⟩, ?_⟩
    refine lst_go (N := 120) (d := 4) (C := C) (S := D :: [p]) (n := 4) ?_ ?_
    · have off := m0.off
      have tl := m0.tl
      refine Evs.cons (fun Q k => ⟨_, rfl, l, rfl, ⟨_, sq_of tl.at_⟩, fun D' hD' => lc_fine (walk_list (K := K) (a := l) (xs := vr.map V.ref)) 4 1 C (D :: [p]) off hD' (fun H e => sq_of (e _ _ tl.at_)) (by omega) ?_ fun acc H4 e4 hD4 la fa => k _ _ e4 (lcv off hD' hD4 la l16' fa)⟩) fun H3 e3 => ?_
      · rintro i x H4 H5 Gt hi e4 o4 ⟨rfl, hx⟩ k4
        obtain ⟨r', z', rfl, hz', hr'⟩ := pts_idx (tl.pts.up e4) hx
        have sm := tl.sm z' hz'
        refine ⟨rfl, ?_⟩
        exact ⟨_, rfl, r', _, rfl, .inr (st_of hr'), fun q hq => k4 _ _ (Ex.new hq) (lst_fine (N := 1) (d := 0) o4 hq (mem2 (int_fine (by omega)) (int_fine (by omega))) (by show 2 * 1 + 1 ≤ 4; decide))⟩
      replace off := off.up e3
      replace tl := tl.up e3
      refine Evs.cons (fun Q k => ⟨_, rfl, l, rfl, ⟨_, sq_of tl.at_⟩, fun D' hD' => lc_fine (walk_list (K := K) (a := l) (xs := vr.map V.ref)) 4 1 C (D :: [p]) off hD' (fun H e => sq_of (e _ _ tl.at_)) (by omega) ?_ fun acc H4 e4 hD4 la fa => k _ _ e4 (lcv off hD' hD4 la l16' fa)⟩) fun H6 e6 => ?_
      · rintro i x H4 H5 Gt hi e4 o4 ⟨rfl, hx⟩ k4
        obtain ⟨r', z', rfl, hz', hr'⟩ := pts_idx (tl.pts.up e4) hx
        have sm := tl.sm z' hz'
        refine ⟨rfl, ?_⟩
        exact ⟨_, rfl, r', _, _, _, rfl, rfl, st_of hr', rfl, _, rfl, r', _, _, _, rfl, rfl, st_of hr', rfl, (by show 2 ≤ sizeLine; decide), fun q hq => k4 _ _ (Ex.new hq) (tup_fine (N := 1) (d := 0) o4 hq (mem2 (int_fine (by omega)) (int_fine (by omega))) (by show 2 * 1 + 1 ≤ 4; decide))⟩
      replace off := off.up e6
      replace tl := tl.up e6
      refine Evs.cons (fun Q k => ⟨_, rfl, l, rfl, ⟨_, sq_of tl.at_⟩, fun D' hD' => lc_fine (walk_list (K := K) (a := l) (xs := vr.map V.ref)) 4 1 C (D :: [p]) off hD' (fun H e => sq_of (e _ _ tl.at_)) (by omega) ?_ fun acc H4 e4 hD4 la fa => k _ _ e4 (lcv off hD' hD4 la l16' fa)⟩) fun H7 e7 => ?_
      · rintro i x H4 H5 Gt hi e4 o4 ⟨rfl, hx⟩ k4
        obtain ⟨r', z', rfl, hz', hr'⟩ := pts_idx (tl.pts.up e4) hx
        have sm := tl.sm z' hz'
        refine ⟨rfl, ?_⟩
        refine ⟨_, rfl, (by show 1 ≤ sizeLine; decide), fun s hs => ?_⟩
        have es := Ex.new (o := .tup [.int 0]) hs
        refine ⟨r', s, _, _, rfl, rfl, st_of (es _ _ hr'), st_of upd_same, (fun z => by cases z), (by show 3 ≤ sizeLine; decide), (fun z => by cases z), fun _ q hq => k4 _ _ (es.trans (Ex.new hq)) (tup_fine (N := 1) (d := 0) (o4.up es) hq ?_ (by show 3 * 1 + 1 ≤ 4; decide))⟩
        exact memA (mem2 (int_fine (by omega)) (int_fine (by omega))) (mem1 (int_fine (by decide)))
      replace off := off.up e7
      replace tl := tl.up e7
      refine Evs.cons (fun Q k => ⟨_, rfl, l, rfl, ⟨_, sq_of tl.at_⟩, fun D' hD' => lc_fine (walk_list (K := K) (a := l) (xs := vr.map V.ref)) 4 1 C (D :: [p]) off hD' (fun H e => sq_of (e _ _ tl.at_)) (by omega) ?_ fun acc H4 e4 hD4 la fa => k _ _ e4 (lcv off hD' hD4 la l16' fa)⟩) fun H8 e8 => Evs.nil
      rintro i x H4 H5 Gt hi e4 o4 ⟨rfl, hx⟩ k4
      obtain ⟨r', z', rfl, hz', hr'⟩ := pts_idx (tl.pts.up e4) hx
      have sm := tl.sm z' hz'
      refine ⟨rfl, ?_⟩
      have hr2 : H5 r' = some (.tup [.int (z'.1 : Nat), .int (z'.2 : Nat)]) := hr'
      refine ⟨_, rfl, _, rfl, r', [.int (z'.1 : Nat), .int (z'.2 : Nat)], rfl, st_of hr2, (by show ¬ (HT.sIx 2 0 none = 0 ∧ HT.sIx 2 2 (some 1) = 2); decide), fun q hq => k4 _ _ (Ex.new hq) (tup_fine (N := 1) (d := 0) (N' := 4) o4 hq (fun v hv => mem2 (int_fine (by omega)) (int_fine (by omega)) v (cut_mem hv)) ?_)⟩
      have := cutV_length [V.int (z'.1 : Nat), V.int (z'.2 : Nat)] none (some 1)
      have h2 : [V.int (z'.1 : Nat), V.int (z'.2 : Nat)].length = 2 := rfl
      omega
    · intro ws H3 e3 l3 f3
      refine ⟨by omega, fun b hb => ?_⟩
      have eb := e3.trans (Ex.new (o := .lst ws) hb)
      obtain ⟨vs', hv', lv', _⟩ := m0.d
      cases hD.symm.trans hv'
      refine ⟨D, b, vs, ws, rfl, rfl, eb _ _ hD, upd_same, (by omega), rfl, ?_⟩
      exact m0.ext hDH nDp eb hD (fun v hv => (f3 v hv).up (msk_up (Ex.new hb))) l3
  rintro σ' H3 ⟨rfl, m3⟩
  clear m0
  refine ⟨fun σ' H' => σ' = [some (.ref p), some (.ref a), some (.ref l), some (.int tall), some (.int wide), some (.ref r), some (.int at_), some (.ref D), none, none, none] ∧ Mid C p a l D rs vr pl L H 15 H', ?_, ?_⟩
  · obtain ⟨vs, hD, _⟩ := m3.d
    have l16' : (vr.map V.ref).length ≤ 16 := by omega
    refine ⟨_, rfl, .inl ⟨rfl, vs, sq_of hD⟩, ?_⟩
    refine lst_go (N := 120) (d := 4) (C := C) (S := D :: [p]) (n := 3) ?_ ?_
    · have off := m3.off
      have tl := m3.tl
      refine Evs.cons (fun Q k => ⟨_, rfl, l, rfl, ⟨_, sq_of tl.at_⟩, fun D' hD' => lc_fine (walk_list (K := K) (a := l) (xs := vr.map V.ref)) 4 1 C (D :: [p]) off hD' (fun H e => sq_of (e _ _ tl.at_)) (by omega) ?_ fun acc H4 e4 hD4 la fa => k _ _ e4 (lcv off hD' hD4 la l16' fa)⟩) fun H3 e3 => ?_
      · rintro i x H4 H5 Gt hi e4 o4 ⟨rfl, hx⟩ k4
        obtain ⟨r', z', rfl, hz', hr'⟩ := pts_idx (tl.pts.up e4) hx
        have sm := tl.sm z' hz'
        refine ⟨rfl, ?_⟩
        refine ⟨_, rfl, r', _, _, _, rfl, rfl, st_of hr', rfl, fun x3 d3 hx3 hd3 ne3 => ?_⟩
        have bz : Bt 3 (z'.1 : Int) := by show ((z'.1 : Int)).natAbs < 8; omega
        refine made_z hx3 hd3 ne3 (by decide) (Bt.mono bz (by decide)) (Bt.mono (n := 3) (by unfold Bt; decide) (by decide)) fun H6 e6 r6 => ⟨rfl, ?_⟩
        have lb := low_bt (n := 3) (m := 3) bz (by unfold Bt; decide : Bt 3 1) (by decide)
        have fr : Fine 1 0 C (msk (D' :: D :: [p]) H6) (.ref x3) := NumT.fine (.inr ⟨_, _, _, rfl, r6, lb.1.mono (by decide), lb.2.mono (by decide), low_pos (by decide)⟩) (o4.up e6)
        have hr6 := e6 _ _ hr'
        exact ⟨_, rfl, r', _, _, _, rfl, rfl, st_of hr6, rfl, (by show 2 ≤ sizeLine; decide), fun q hq => k4 _ _ (e6.trans (Ex.new hq)) (tup_fine (N := 1) (d := 0) (o4.up e6) hq (mem2 fr (int_fine (by omega))) (by show 2 * 1 + 1 ≤ 4; decide))⟩
      replace off := off.up e3
      replace tl := tl.up e3
      refine Evs.cons (fun Q k => ⟨_, rfl, l, rfl, ⟨_, sq_of tl.at_⟩, fun D' hD' => lc_fine (walk_list (K := K) (a := l) (xs := vr.map V.ref)) 4 1 C (D :: [p]) off hD' (fun H e => sq_of (e _ _ tl.at_)) (by omega) ?_ fun acc H4 e4 hD4 la fa => k _ _ e4 (lcv off hD' hD4 la l16' fa)⟩) fun H6 e6 => ?_
      · rintro i x H4 H5 Gt hi e4 o4 ⟨rfl, hx⟩ k4
        obtain ⟨r', z', rfl, hz', hr'⟩ := pts_idx (tl.pts.up e4) hx
        have sm := tl.sm z' hz'
        refine ⟨rfl, ?_⟩
        exact ⟨_, rfl, r', _, _, _, rfl, rfl, st_of hr', rfl, _, rfl, _, _, rfl, rfl, _, rfl, r', _, _, _, rfl, rfl, st_of hr', rfl, (by show 2 ≤ sizeLine; decide), fun q hq => k4 _ _ (Ex.new hq) (tup_fine (N := 1) (d := 0) o4 hq (mem2 (int_fine (by omega)) (int_fine (by omega))) (by show 2 * 1 + 1 ≤ 4; decide))⟩
      replace off := off.up e6
      replace tl := tl.up e6
      refine Evs.cons (fun Q k => ⟨_, rfl, l, rfl, ⟨_, sq_of tl.at_⟩, fun D' hD' => lc_fine (walk_list (K := K) (a := l) (xs := vr.map V.ref)) 4 1 C (D :: [p]) off hD' (fun H e => sq_of (e _ _ tl.at_)) (by omega) ?_ fun acc H4 e4 hD4 la fa => k _ _ e4 (lcv off hD' hD4 la l16' fa)⟩) fun H7 e7 => Evs.nil
      · rintro i x H4 H5 Gt hi e4 o4 ⟨rfl, hx⟩ k4
        obtain ⟨r', z', rfl, hz', hr'⟩ := pts_idx (tl.pts.up e4) hx
        have sm := tl.sm z' hz'
        refine ⟨rfl, ?_⟩
        exact ⟨_, rfl, r', _, _, _, rfl, rfl, st_of hr', rfl, _, rfl, r', _, _, _, rfl, rfl, st_of hr', rfl, _, _, rfl, rfl, (by show 2 ≤ sizeLine; decide), fun q hq => k4 _ _ (Ex.new hq) (tup_fine (N := 1) (d := 0) o4 hq (mem2 (int_fine (by omega)) (int_fine (by omega))) (by show 2 * 1 + 1 ≤ 4; decide))⟩
    · intro ws H3 e3 l3 f3
      refine ⟨by omega, fun b hb => ?_⟩
      have eb := e3.trans (Ex.new (o := .lst ws) hb)
      obtain ⟨vs', hv', lv', _⟩ := m3.d
      cases hD.symm.trans hv'
      refine ⟨D, b, vs, ws, rfl, rfl, eb _ _ hD, upd_same, (by omega), rfl, ?_⟩
      exact m3.ext hDH nDp eb hD (fun v hv => (f3 v hv).up (msk_up (Ex.new hb))) l3
  rintro σ' H4 ⟨rfl, m4⟩
  clear m3
  refine ⟨fun σ' H' => σ' = [some (.ref p), some (.ref a), some (.ref l), some (.int tall), some (.int wide), some (.ref r), some (.int at_), some (.ref D), none, none, none] ∧ Mid C p a l D rs vr pl L H 16 H', ?_, ?_⟩
  · obtain ⟨vs, hD, _⟩ := m4.d
    have l16' : (vr.map V.ref).length ≤ 16 := by omega
    have off := m4.off
    have tl := m4.tl
    refine ⟨_, rfl, .inl ⟨rfl, vs, sq_of hD⟩, ?_⟩
    refine ⟨_, rfl, l, rfl, ⟨_, sq_of tl.at_⟩, fun D' hD' => lc_fine (walk_list (K := K) (a := l) (xs := vr.map V.ref)) 4 1 C (D :: [p]) off hD' (fun H e => sq_of (e _ _ tl.at_)) (by omega) ?_ fun acc H5 e5 hD5 la fa => ?_⟩
    · rintro i x H5 H6 Gt hi e5 o5 ⟨rfl, hx⟩ k5
      obtain ⟨r', z', rfl, hz', hr'⟩ := pts_idx (tl.pts.up e5) hx
      have sm := tl.sm z' hz'
      refine ⟨rfl, ?_⟩
      refine ⟨_, rfl, r', _, rfl, .inr hr', fun J Gd wk hG D2 hD2 => lc_fine wk 1 0 C (D' :: D :: [p]) o5 hD2 hG (by show 2 ≤ 1000; decide) ?_ fun acc H7 e7 hD7 la fa => ?_⟩
      · rintro i2 x2 H8 H9 Gt2 hi2 e8 o8 ⟨rfl, hx2⟩ k8
        refine ⟨rfl, ?_⟩
        have hn : ∃ n : Nat, x2 = V.int (n : Nat) ∧ n < 5 := by
          match i2, hx2 with
          | 0, h => exact ⟨z'.1, (Option.some.inj h).symm, sm.1⟩
          | 1, h => exact ⟨z'.2, (Option.some.inj h).symm, sm.2⟩
          | j + 2, h => cases h
        obtain ⟨n, rfl, hn⟩ := hn
        refine ⟨_, rfl, _, _, rfl, rfl, _, rfl, ?_⟩
        refine ite2 (fun g => ?_) (fun g => ?_)
        · exact ⟨_, rfl, rfl, k8 _ _ (Ex.refl _) Fine.bl⟩
        · exact ⟨_, rfl, k8 _ _ (Ex.refl _) (int_fine (by omega))⟩
      · refine ⟨D2, acc, rfl, .inl ⟨sq_of hD7, fun q hq => k5 _ _ (e7.trans (Ex.new hq)) (tup_fine (N := 1) (d := 0) (o5.up e7) hq fa (by rw [la]; show 2 * 1 + 1 ≤ 4; decide))⟩⟩
    · have fd := lcv off hD' hD5 la l16' fa
      obtain ⟨vs', hv', lv', _⟩ := m4.d
      cases hD.symm.trans hv'
      refine ⟨D, _, _, rfl, rfl, e5 _ _ hD, (by omega), ?_⟩
      exact ⟨rfl, m4.ext hDH nDp e5 hD (mem1 fd) rfl⟩
  rintro σ' H4 ⟨rfl, m5⟩
  clear m4
  refine ⟨fun σ' H' => σ' = [some (.ref p), some (.ref a), some (.ref l), some (.int tall), some (.int wide), some (.ref r), some (.int at_), some (.ref D), none, none, none] ∧ Mid C p a l D rs vr pl L H 21 H', ?_, ?_⟩
  · obtain ⟨vs, hD, _⟩ := m5.d
    have l16' : (vr.map V.ref).length ≤ 16 := by omega
    refine ⟨_, rfl, .inl ⟨rfl, vs, sq_of hD⟩, ?_⟩
    refine lst_go (N := 120) (d := 4) (C := C) (S := D :: [p]) (n := 5) ?_ ?_
    · have off := m5.off
      have tl := m5.tl
      refine Evs.cons (fun Q k => ⟨_, rfl, _, rfl, _, _, rfl, ?_⟩) fun H3 e3 => ?_
      · have em : (if (wide : Int) < (tall : Int) then (wide : Int) else (tall : Int)) = ((min tall wide : Nat) : Int) := by split <;> omega
        rw [em]
        refine ⟨_, rfl, by omega, by omega, fun D' hD' => ?_⟩
        rw [Int.toNat_natCast]
        refine lc_fine (walk_range (lo := 0) (n := min tall wide)) 4 1 C (D :: [p]) off hD' (fun _ _ => trivial) (by omega) ?_ fun acc H4 e4 hD4 la fa => k _ _ e4 (lcv off hD' hD4 la (by omega) fa)
        rintro i x H5 H6 Gt hi e4 o4 ⟨rfl, rfl⟩ k4
        exact ⟨rfl, _, rfl, _, rfl, (by show 2 ≤ sizeLine; decide), fun q hq => k4 _ _ (Ex.new hq) (tup_fine (N := 1) (d := 0) o4 hq (mem2 (int_fine (by omega)) (int_fine (by omega))) (by show 2 * 1 + 1 ≤ 4; decide))⟩
      replace off := off.up e3
      replace tl := tl.up e3
      refine Evs.cons (fun Q k => ⟨_, rfl, l, rfl, ⟨_, sq_of tl.at_⟩, fun D' hD' => ?_⟩) fun H6 e6 => ?_
      · refine lcE (walk_list (K := K) (a := l) (xs := vr.map V.ref)) (Chg.ex hD') L (by rw [lnl]) (by omega) (fun _ => true) (fun (y : Nat × Nat) v H => ∃ q r, v = V.ref q ∧ H q = some (.tup [.ref r, .bl true]) ∧ Pt H r y) ?_ ?_ (fun H e => sq_of (e _ _ tl.at_)) ?_ ?_
        · rintro y v H4 H5 _ e ⟨q, r, h1, h2, h3⟩
          exact ⟨q, r, h1, e _ _ h2, h3.up e⟩
        · rintro y v H4 acc acc' hd ⟨q, r, h1, h2, h3⟩
          have n1 : q ≠ D' := fun z => by rw [z, hd] at h2; cases h2
          have h3' : H4 r = some (.tup [.int (y.1 : Nat), .int (y.2 : Nat)]) := h3
          have n2 : r ≠ D' := fun z => by rw [z, hd] at h3'; cases h3'
          exact ⟨q, r, h1, by rw [upd_ne n1]; exact h2, by show upd H4 D' _ r = _; rw [upd_ne n2]; exact h3'⟩
        · rintro i y x H4 H5 N2 Gt hy e4 _ ⟨rfl, hx⟩ _ k4
          obtain ⟨r', z', rfl, hz', hr'⟩ := pts_at (tl.pts.up e4) hx
          cases hz'.symm.trans hy
          exact ⟨rfl, _, rfl, (by show 2 ≤ sizeLine; decide), fun q hq => k4 rfl _ _ (Ex.new hq) ⟨q, r', rfl, upd_same, hr'.up (Ex.new hq)⟩⟩
        · intro acc H4 e4 hD4 hacc
          rw [filter_yes] at hacc
          obtain ⟨ps, rfl, hps⟩ := prs_of hacc
          refine ⟨D', ps, L, rfl, sq_of hD4, hps, nd, fun dd hdd => k _ _ (e4.trans (Ex.new hdd)) ?_⟩
          exact (Fine.dt (ps := L) (by rw [msk_of ((off.up e4).fresh hdd)]; exact upd_same) (by omega) (fun y hy => by have := tl.sm y hy; omega)).mono (by omega) (by decide)
      replace off := off.up e6
      replace tl := tl.up e6
      refine Evs.cons (fun Q k => ⟨_, rfl, (by show 1 ≤ sizeLine; decide), fun s hs => ?_⟩) fun H8 e8 => ?_
      · have es := Ex.new (o := .lst [.non]) hs
        have fs : LF 3 1 (D :: [p]) C (upd H6 s (.lst [.non])) s [.non] := LF.new off hs (mem1 (Fine.non.mono (by decide) (by decide)))
        exact ⟨l, s, _, _, rfl, rfl, es _ _ tl.at_, fs.at_, (by show _ + 1 ≤ sizeLine; omega), fun q hq => k _ _ (es.trans (Ex.new hq)) ((lst_fine (N' := 120) (off.up es) hq (((tl.up es).lf (off.up es)).cat fs) (by rw [List.length_append]; show (_ + 1) * 3 + 1 ≤ 120; omega)).mono (Nat.le_refl _) (by decide))⟩
      replace off := off.up e8
      replace tl := tl.up e8
      refine Evs.cons (fun Q k => ⟨_, rfl, (by show 1 ≤ sizeLine; decide), fun s hs => k _ _ (Ex.new hs) ((lst_fine (N := 49) (d := 2) (N' := 120) off hs (mem1 (tl.fine off)) (by show 1 * 49 + 1 ≤ 120; decide)).mono (Nat.le_refl _) (by decide))⟩) fun H9 e9 => ?_
      replace off := off.up e9
      replace tl := tl.up e9
      refine Evs.cons (fun Q k => ⟨_, rfl, _, rfl, (by show 2 ≤ sizeLine; decide), fun s hs => k _ _ (Ex.new hs) ((tup_fine (N := 49) (d := 2) (N' := 120) off hs (mem2 (tl.fine off) (tl.fine off)) (by show 2 * 49 + 1 ≤ 120; decide)).mono (Nat.le_refl _) (by decide))⟩) fun H10 e10 => Evs.nil
    · intro ws H3 e3 l3 f3
      refine ⟨by omega, fun b hb => ?_⟩
      have eb := e3.trans (Ex.new (o := .lst ws) hb)
      obtain ⟨vs', hv', lv', _⟩ := m5.d
      cases hD.symm.trans hv'
      refine ⟨D, b, vs, ws, rfl, rfl, eb _ _ hD, upd_same, (by omega), rfl, ?_⟩
      exact m5.ext hDH nDp eb hD (fun v hv => (f3 v hv).up (msk_up (Ex.new hb))) l3
  rintro σ' H4 ⟨rfl, m6⟩
  clear m5
  obtain ⟨vs, hD, lv, fv⟩ := m6.d
  have off := m6.off
  have ta := m6.ta
  have tl := m6.tl
  refine ⟨_, rfl, ?_⟩
  refine ⟨_, rfl, a, _, rfl, .inl (sq_of ta.at_), ?_⟩
  refine ⟨_, rfl, by rw [lnp]; omega, by rw [lnp]; omega, fun D' hD' => ?_⟩
  rw [Int.toNat_natCast]
  have nDD : D ≠ D' := fun z => by rw [← z, hD] at hD'; cases hD'
  have a16' : (rs.map V.ref).length ≤ 16 := by omega
  refine lc_fine (walk_range (lo := 0) (n := (rs.map V.ref).length)) 49 2 C (D :: [p]) off hD' (fun _ _ => trivial) (by omega) ?_ fun acc H5 e5 hD5 la fa => ?_
  · rintro i x H5 H6 Gt hi e5 o5 ⟨rfl, rfl⟩ k5
    have ta5 := ta.up e5
    have tl5 := tl.up e5
    have o5' := off.up e5
    refine ⟨rfl, _, rfl, _, rfl, _, rfl, _, rfl, _, rfl, l, _, rfl, .inl (sq_of tl5.at_), _, _, rfl, rfl, _, rfl, a, _, rfl, sq_of ta5.at_, fun q hq => k5 _ _ (Ex.new hq) (lst_fine (N := 3) (d := 1) o5 hq (fun v hv => ?_) ?_)⟩
    · obtain ⟨r', z', rfl, hz', hr'⟩ := pts_mem ta5.pts v (cut_mem hv)
      exact pt_fine hr' o5 (by have := ta.sm z' hz'; omega)
    · have := cutL (some (0 + (i : Int))) (some (0 + (i : Int) + ((vr.map V.ref).length : Nat))) a16'
      omega
  · refine ⟨D, D', vs, acc, rfl, rfl, e5 _ _ hD, hD5, (by omega), fun out hout => ?_⟩
    have eo := e5.trans (Ex.new (o := .lst (vs ++ acc)) hout)
    have hp5 := (m6.x.2 hp).up e5
    refine q out (vs ++ acc) _ (m6.x.trans (ExP.of eo)) ((m6.x.1.trans (ExB.of e5)).fresh (pot_nn hp5 hout) hout) upd_same (by rw [List.length_append]; omega) ?_
    exact memA (P := fun v => Fine 120 4 C (msk [p] _) v) (fun v hv => ((fv v hv).up (msk_up eo)).less) (fun v hv => (((fa v hv).mono (N' := 120) (d' := 4) (by decide) (by decide)).up (msk_up (Ex.new hout))).less)
end
end R71

namespace R71
open B71 PySem PySem.Spec PyProof.Rows L2 Evl RZ SrtO

/-! ### expressions in any later heap -/
section
variable {N d N' d' : Nat} {C : Addr} {S : List Addr} {σ : L2.St} {H : Hp}
def EA (N d : Nat) (C : Addr) (S : List Addr) (te : TE) (σ : L2.St) (H : Hp) : Prop := ∀ H', Ex H H' → Ev N d C S te σ H'
def EsA (N d : Nat) (C : Addr) (S : List Addr) (n : Nat) (ts : TA) (σ : L2.St) (H : Hp) : Prop := ∀ H', Ex H H' → Evs N d C S n ts σ H'
theorem EsA.nil : EsA N d C S 0 tNil σ H := fun _ _ => Evs.nil
theorem EsA.cons {n : Nat} {te : TE} {ts : TA} (h1 : EA N d C S te σ H) (h2 : EsA N d C S n ts σ H) : EsA N d C S (n + 1) (tCons te ts) σ H := fun H1 e1 => Evs.cons (h1 H1 e1) fun H2 e2 => h2 H2 (e1.trans e2)
theorem EA.mono {te : TE} (h : EA N d C S te σ H) (hn : N ≤ N') (hd : d ≤ d') : EA N' d' C S te σ H := fun H1 e1 Q k => h H1 e1 Q fun v H2 e2 f => k v H2 e2 (f.mono hn hd)
theorem EA.tup {n : Nat} {ts : TA} (h : EsA N d C S n ts σ H) (off : Off S H) (hn : n * N + 1 ≤ N') (hs : n ≤ 1000) : EA N' (d + 1) C S (tTup ts) σ H := fun H1 e1 Q k => h H1 e1 _ fun vs H2 e2 l2 f2 =>
  ⟨by rw [sizeLine_eq]; omega, fun q hq => k _ _ (e2.trans (Ex.new hq)) (tup_fine (off.up (e1.trans e2)) hq f2 (by rw [l2]; exact hn))⟩
theorem EA.lst {n : Nat} {ts : TA} (h : EsA N d C S n ts σ H) (off : Off S H) (hn : n * N + 1 ≤ N') (hs : n ≤ 1000) : EA N' (d + 1) C S (tLst ts) σ H := fun H1 e1 Q k => h H1 e1 _ fun vs H2 e2 l2 f2 =>
  ⟨by rw [sizeLine_eq]; omega, fun q hq => k _ _ (e2.trans (Ex.new hq)) (lst_fine (off.up (e1.trans e2)) hq f2 (by rw [l2]; exact hn))⟩
theorem EA.two {t1 t2 : TE} (h1 : EA 40 3 C S t1 σ H) (h2 : EA 40 3 C S t2 σ H) (off : Off S H) : EA 122 4 C S (tTup (tCons t1 (tCons t2 tNil))) σ H := EA.tup (.cons h1 (.cons h2 .nil)) off (by decide) (by decide)
end
/-- numbers told, outside of S -/
structure Nms (S : List Addr) (H : Hp) (x : Addr) (R : List Nat) : Prop where
  at_ : H x = some (.lst (vI R))
  off : x ∉ S
  lt : ∀ n ∈ R, n < 5
  len : R.length ≤ 4
section
variable {S : List Addr} {H H' : Hp} {x D : Addr} {R : List Nat} {C : Addr}
theorem Nms.up (h : Nms S H x R) (e : Ex H H') : Nms S H' x R := ⟨e _ _ h.at_, h.off, h.lt, h.len⟩
theorem Nms.pot {p : Addr} (h : Nms S H x R) (ps : p ∈ S) (e : ExP p H H') : Nms S H' x R := ⟨e.1 _ _ (fun z => h.off (z ▸ ps)) h.at_, h.off, h.lt, h.len⟩
theorem Nms.more (h : Nms S H x R) (hD : H D = none) : Nms (D :: S) H x R := ⟨h.at_, fun z => (List.mem_cons.mp z).elim (fun z => by have := h.at_; rw [z, hD] at this; cases this) h.off, h.lt, h.len⟩
theorem Nms.putD {o : HO} (h : Nms S H x R) (hD : D ∈ S) : Nms S (upd H D o) x R := ⟨by rw [upd_ne (fun z => h.off (by rw [z]; exact hD))]; exact h.at_, h.off, h.lt, h.len⟩
theorem vI_mem {R : List Nat} {v : V} (h : v ∈ vI R) : ∃ n ∈ R, v = .int (n : Nat) := by
  unfold vI at h
  obtain ⟨n, hn, rfl⟩ := List.mem_map.mp h
  exact ⟨n, hn, rfl⟩
theorem Nms.all (h : Nms S H x R) : ∀ v ∈ vI R, Fine 1 0 C (msk S H) v := fun v hv => by
  obtain ⟨n, hn, rfl⟩ := vI_mem hv
  have := h.lt n hn
  exact int_fine (by omega)
theorem Nms.lf (h : Nms S H x R) : LF 1 0 S C H x (vI R) := ⟨h.at_, h.off, h.all⟩
theorem Nms.fine (h : Nms S H x R) : Fine 5 1 C (msk S H) (.ref x) := h.lf.fine (by rw [vI_len]; have := h.len; omega)
theorem Nms.vl (h : Nms S H x R) : (vI R).length ≤ 4 := by rw [vI_len]; exact h.len
end
def spBC (C : Addr) : Sp := fun vs H Q _ => ∃ (p t x y : Addr) (tall wide : Nat) (R Co : List Nat), vs = [.ref p, .ref t, .int tall, .int wide] ∧ Pot H p ∧ H t = some (.tup [.ref x, .ref y]) ∧ Nms [p] H x R ∧ Nms [p] H y Co ∧ Co.Nodup ∧ 1 ≤ tall ∧ tall ≤ 4 ∧ 1 ≤ wide ∧ wide ≤ 4 ∧
  ∀ out vs H', ExP p H H' → H out = none → H' out = some (.lst vs) → vs.length ≤ 60 → (∀ v ∈ vs, Fine 130 4 C (msk [p] H') v) → Q (.ref out) H'
section
variable {P : Program} {w : World} {K : PySem.W.Frag} {mg : Str → Option Value} {base : Heap} {f C : Addr} {fd : FuncData}
/-- the list found, as it grows -/
structure MidC (C p t x y D : Addr) (Ro Co : List Nat) (H : Hp) (n : Nat) (H' : Hp) : Prop where
  ex : ExP p H H'
  off : Off (D :: [p]) H'
  ht : H' t = some (.tup [.ref x, .ref y])
  hx : Nms (D :: [p]) H' x Ro
  hy : Nms (D :: [p]) H' y Co
  d : ∃ vs, H' D = some (.lst vs) ∧ vs.length = n ∧ ∀ v ∈ vs, Fine 130 4 C (msk (D :: [p]) H') v
theorem MidC.ext {C p t x y D : Addr} {Ro Co : List Nat} {H H1 H2 : Hp} {n k : Nat} {vs ws : List V} (hDH : H D = none) (nDp : D ≠ p) (m : MidC C p t x y D Ro Co H n H1) (e : Ex H1 H2) (hv : H1 D = some (.lst vs)) (fw : ∀ v ∈ ws, Fine 130 4 C (msk (D :: [p]) H2) v) (lw : ws.length = k) : MidC C p t x y D Ro Co H (n + k) (upd H2 D (.lst (vs ++ ws))) := by
  obtain ⟨vs', h1, h2, h3⟩ := m.d
  rw [hv] at h1
  injection h1 with h1
  injection h1 with h1
  subst h1
  have hD2 := e _ _ hv
  have ht2 := e _ _ m.ht
  refine ⟨⟨(m.ex.1.trans (ExB.of e)).mut hDH, fun hpp => ((m.ex.2 hpp).up e).same (upd_ne (Ne.symm nDp))⟩, (m.off.up e).put, ?_, (m.hx.up e).putD (List.mem_cons_self), (m.hy.up e).putD (List.mem_cons_self), vs ++ ws, upd_same, by rw [List.length_append, h2, lw], ?_⟩
  · rw [upd_ne (fun z => by rw [z, hD2] at ht2; cases ht2)]
    exact ht2
  · rw [msk_put (List.mem_cons_self)]
    exact memA (fun v hv => (h3 v hv).up (msk_up e)) fw
theorem MidC.pot {C p t x y D : Addr} {Ro Co : List Nat} {H H1 H2 : Hp} {n : Nat} (nDp : D ≠ p) (m : MidC C p t x y D Ro Co H n H1) (hp : Pot H1 p) (e : ExP p H1 H2) : MidC C p t x y D Ro Co H n H2 := by
  have pS : p ∈ D :: [p] := List.mem_cons_of_mem _ (List.mem_singleton_self p)
  obtain ⟨vs, h1, h2, h3⟩ := m.d
  exact ⟨m.ex.trans e, m.off.pot hp e, e.1 _ _ (pot_ne hp m.ht) m.ht, m.hx.pot pS e, m.hy.pot pS e, vs, e.1 _ _ nDp h1, h2, fun v hv => (h3 v hv).up (msk_upB pS e.1)⟩
theorem MidC.up {C p t x y D : Addr} {Ro Co : List Nat} {H H1 H2 : Hp} {n : Nat} (m : MidC C p t x y D Ro Co H n H1) (e : Ex H1 H2) : MidC C p t x y D Ro Co H n H2 := by
  obtain ⟨vs, h1, h2, h3⟩ := m.d
  exact ⟨m.ex.trans (ExP.of e), m.off.up e, e _ _ m.ht, m.hx.up e, m.hy.up e, vs, e _ _ h1, h2, fun v hv => (h3 v hv).up (msk_up e)⟩
/-- a comprehension's items, with a test -/
theorem lc_fineF {J : It} {n : Nat} {Gd : Hp → Prop} {Y : Nat → Hp → V → Hp → Prop} (w : Walk J n Gd Y) {g : TG} {tt : TT} {te : TE} {vs : List Nat} {σ : L2.St} {H1 : Hp} {D : Addr} {Qd : Hp → Prop} (N d : Nat) (C : Addr) (S : List Addr) (fl : Nat → Bool) (off : Off S H1) (hD : H1 D = none) (hG : ∀ H, Ex H1 H → Gd H) (hz : n ≤ 1000)
    (hs : ∀ (i : Nat) x H H' (Nx : Hp → Prop) (Gt : VK), i < n → Ex H1 H → Off (D :: S) H → Y i H x H' → (fl i = false → ∀ H2, Ex H H2 → Nx H2) → (fl i = true → ∀ v H2, Ex H H2 → Fine N d C (msk (D :: S) H2) v → Gt v H2) → g x (wipe σ vs) H' fun σ2 H2 => wipe σ2 vs = wipe σ vs ∧ tt σ2 H2 fun b H3 => if b = true then te σ2 H3 Gt else Nx H3)
    (hd : ∀ acc H, Ex H1 H → H D = some (.lst acc) → acc.length ≤ n → (∀ x ∈ acc, Fine N d C (msk S H) x) → Qd H) :
    ∃ W : Nat → Nat → Hp → Prop, (∃ m, W 0 m (upd H1 D (.lst []))) ∧ ∀ i m H, W i m H →
      (J.stop i H ∧ Qd H) ∨ (J.go i H ∧ ∃ Nx : Hp → Prop, (∀ H', Nx H' → ∃ m', m' < m ∧ W (i + 1) m' H') ∧ ∀ x H', J.yld i H x H' → g x (wipe σ vs) H' fun σ2 H2 => wipe σ2 vs = wipe σ vs ∧ tt σ2 H2 fun b H3 =>
        if b = true then te σ2 H3 fun y H4 => ∃ acc, H4 D = some (.lst acc) ∧ acc.length < sizeLine ∧ Nx (upd H4 D (.lst (acc ++ [y]))) else Nx H3) := by
  refine lcE w (Chg.ex hD) (List.range n) (List.length_range).symm hz fl (fun _ v H => Fine N d C (msk (D :: S) H) v) (fun _ _ _ _ _ e h => h.up (msk_up e)) (fun _ _ _ _ _ _ h => by rw [msk_put (List.mem_cons_self)]; exact h) hG ?_ ?_
  · rintro i y x H H' N2 Gt hy e ⟨acc, hacc⟩ hY kN k
    have hi : i < n := by
      have := (List.getElem?_eq_some_iff.mp hy).1
      rwa [List.length_range] at this
    have hyi : y = i := by
      rw [List.getElem?_range hi] at hy
      exact (Option.some.inj hy).symm
    subst hyi
    exact hs y x H H' N2 Gt hi e ((off.up e).cons hacc) hY kN k
  · intro acc H e hD2 hacc
    refine hd acc H e hD2 (by rw [← Paired.length hacc]; exact Nat.le_trans (List.length_filter_le ..) (by rw [List.length_range]; exact Nat.le_refl _)) ?_
    have key : ∀ {l : List Nat} {acc : List V}, Paired (fun _ v => Fine N d C (msk (D :: S) H) v) l acc → ∀ x ∈ acc, Fine N d C (msk (D :: S) H) x := by
      intro l acc z
      induction z with
      | nil => intro x hx; exact nomatch hx
      | cons h _ ih => exact fun x hx => (List.mem_cons.mp hx).elim (fun z => z ▸ h) (ih x)
    exact fun x hx => (key hacc x hx).less
theorem sc__law_bent_covers : FnScope ["pot", "told", "tall", "wide", "rows", "columns", "found", "out", "row", "number", "column"] ["pot", "told", "tall", "wide"] (defScope (top 50)) := ⟨rfl, rfl, rfl, by decide +kernel, rfl, by decide +kernel, by decide +kernel⟩
theorem ok_law_bent_covers (F : Fun K "_law_bent_covers" "_law_bent_covers" (top 50) f fd) (R_ : RCl K mg C) (T : Tx mg) (MR : MkR P w K mg base C) (C__law_draw : ClO P w K mg base "_law_draw" 1 ["pot", "many"] spDraw) : FnOk P w K mg base CX0 4 f fd ["pot", "told", "tall", "wide"] (spBC C) := by
  have sc := sc__law_bent_covers
  have R := R_
  refine F.ok sc (fun vs H Q E h => ?_) (fun cdv A outer s H vs Q E hr h => ?_)
  · obtain ⟨_, _, _, _, _, _, _, _, rfl, _⟩ := h; rfl
  obtain ⟨p, t, x, y, tall, wide, Ro, Co, rfl, hp, ht, hx, hy, nd, t1, t4, w1, w4, q⟩ := h
  have off0 := pot_off hp
  refine ⟨_, (pss_cut (ps_asg (pv 1) (pg_tup rfl (pgs_cons (pg_name (i := 4) sc.nd rfl (Or.inl rfl)) (pgs_cons (pg_name (i := 5) sc.nd rfl (Or.inl rfl)) pgs_nil)))) (pss_cut (ps_set (i := 6) sc.nd rfl (Or.inl rfl) (pe_lst (pa_cons (pv 1) (pa_cons (pe_tup (pa_cons (pe_revL (pv 4)) (pa_cons (pe_revL (pv 5)) pa_nil))) (pa_cons (pe_tup (pa_cons (pe_callTy call_tuple_of rfl T.b_tuple bt_tuple (pa_cons (pv 4) pa_nil)) (pa_cons (pe_callTy call_tuple_of rfl T.b_tuple bt_tuple (pa_cons (pv 5) pa_nil)) pa_nil))) (pa_cons (pe_lst (pa_cons (pv 4) (pa_cons (pv 5) pa_nil))) (pa_cons (pe_tup (pa_cons (pv 4) (pa_cons (pv 5) (pa_cons (pe_lst pa_nil) pa_nil)))) (pa_cons (pe_tup (pa_cons (pv 4) pa_nil)) (pa_cons (pe_tup (pa_cons (pv 5) (pa_cons (pv 4) pa_nil))) pa_nil))))))))) (pss_cut (ps_expr (pe_bm PySem.F.plainAttrs_list PySem.F.slot_list_extend PySem.F.type_list_extend mt_extend (pv 6) (pa_cons (pe_lst (pa_cons (pe_tup (pa_cons (pe_op op_cat (pv 4) (pe_slice sl_list (pv 4) po_none (po_some pe_int))) (pa_cons (pv 5) pa_nil))) (pa_cons (pe_tup (pa_cons (pv 4) (pa_cons (pe_op op_cat (pv 5) (pe_slice sl_list (pv 5) po_none (po_some pe_int))) pa_nil))) (pa_cons (pe_tup (pa_cons (pe_slice sl_list (pv 4) (po_some pe_int) po_none) (pa_cons (pv 5) pa_nil))) (pa_cons (pe_tup (pa_cons (pv 4) (pa_cons (pe_slice sl_list (pv 5) (po_some pe_int) po_none) pa_nil))) (pa_cons (pe_tup (pa_cons (pe_op op_cat (pv 4) (pe_lst (pa_cons (pv 2) pa_nil))) (pa_cons (pe_slice sl_list (pv 5) (po_some pe_int) po_none) pa_nil))) pa_nil)))))) pa_nil))) (pss_cut (ps_expr (pe_bm PySem.F.plainAttrs_list PySem.F.slot_list_extend PySem.F.type_list_extend mt_extend (pv 6) (pa_cons (pe_lst (pa_cons (pe_tup (pa_cons (pe_listRg rfl rfl T.b_list (prg_1 rfl T.b_range (pv 2))) (pa_cons (pe_lst pa_nil) pa_nil))) (pa_cons (pe_tup (pa_cons (pe_lst pa_nil) (pa_cons (pe_listRg rfl rfl T.b_list (prg_1 rfl T.b_range (pv 3))) pa_nil))) (pa_cons (pe_tup (pa_cons (pe_lst pa_nil) (pa_cons (pe_lst pa_nil) pa_nil))) (pa_cons (pe_tup (pa_cons (pv 4) (pa_cons pe_non pa_nil))) (pa_cons (pe_tup (pa_cons pe_non (pa_cons (pv 5) pa_nil))) (pa_cons (pe_tup (pa_cons (pe_lc (own := [("row", 8)]) (g := (gName 8)) rfl sc.nd (pi_list (pv 4)) (blkOk_by (N := ["pot", "told", "tall", "wide", "rows", "columns", "found", "out", "row", "number", "column"]) (sc := defScope ((top 50))) (by decide +kernel)) (fun _ _ _ _ _ => (pg_name (i := 8) sc.nd rfl (Or.inl rfl))) (fun _ _ _ _ _ => pts_nil) (fun _ _ _ _ _ => (pe_lst (pa_cons (pv 8) pa_nil)))) (pa_cons (pv 5) pa_nil))) pa_nil))))))) pa_nil))) (pss_cut (ps_expr (pe_bm PySem.F.plainAttrs_list PySem.F.slot_list_extend PySem.F.type_list_extend mt_extend (pv 6) (pa_cons (pe_lst (pa_cons (pe_tup (pa_cons (pe_lc (own := [("number", 9)]) (g := (gName 9)) rfl sc.nd (pi_list (pv 4)) (blkOk_by (N := ["pot", "told", "tall", "wide", "rows", "columns", "found", "out", "row", "number", "column"]) (sc := defScope ((top 50))) (by decide +kernel)) (fun _ _ _ _ _ => (pg_name (i := 9) sc.nd rfl (Or.inl rfl))) (fun _ _ _ _ _ => pts_nil) (fun _ _ _ _ _ => (pe_ifExp (pt_cmpR op_lt (pv 9) pe_int (nomark _)) (pe_cmpR op_eq (pv 9) pe_int (nomark _)) (pv 9)))) (pa_cons (pv 5) pa_nil))) (pa_cons (pe_tup (pa_cons (pv 4) (pa_cons (pe_lc (own := [("number", 9)]) (g := (gName 9)) rfl sc.nd (pi_list (pv 5)) (blkOk_by (N := ["pot", "told", "tall", "wide", "rows", "columns", "found", "out", "row", "number", "column"]) (sc := defScope ((top 50))) (by decide +kernel)) (fun _ _ _ _ _ => (pg_name (i := 9) sc.nd rfl (Or.inl rfl))) (fun _ _ _ _ _ => pts_nil) (fun _ _ _ _ _ => (pe_rat1 MR (hr.mono (by first | decide | omega)) (pa_cons (pv 9) pa_nil)))) pa_nil))) pa_nil))) pa_nil))) (pss_cut (ps_expr (pe_bm PySem.F.plainAttrs_list PySem.F.slot_list_extend PySem.F.type_list_extend mt_extend (pv 6) (pa_cons (pe_lst (pa_cons (pe_tup (pa_cons (pv 4) (pa_cons (pe_callTy (call_dictP rfl) rfl T.b_dict bt_dict (pa_cons (pe_lc (own := [("number", 9)]) (g := (gName 9)) rfl sc.nd (pi_list (pv 5)) (blkOk_by (N := ["pot", "told", "tall", "wide", "rows", "columns", "found", "out", "row", "number", "column"]) (sc := defScope ((top 50))) (by decide +kernel)) (fun _ _ _ _ _ => (pg_name (i := 9) sc.nd rfl (Or.inl rfl))) (fun _ _ _ _ _ => pts_nil) (fun _ _ _ _ _ => (pe_tup (pa_cons (pv 9) (pa_cons pe_bl pa_nil))))) pa_nil)) pa_nil))) (pa_cons (pe_tup (pa_cons (pe_lc (own := [("number", 9)]) (g := (gName 9)) rfl sc.nd (pi_list (pv 4)) (blkOk_by (N := ["pot", "told", "tall", "wide", "rows", "columns", "found", "out", "row", "number", "column"]) (sc := defScope ((top 50))) (by decide +kernel)) (fun _ _ _ _ _ => (pg_name (i := 9) sc.nd rfl (Or.inl rfl))) (fun _ _ _ _ _ => pts_nil) (fun _ _ _ _ _ => (pe_op op_sub pe_int (pv 9)))) (pa_cons (pv 5) pa_nil))) (pa_cons (pe_tup (pa_cons (pv 4) (pa_cons (pe_lc (own := [("number", 9)]) (g := (gName 9)) rfl sc.nd (pi_list (pv 5)) (blkOk_by (N := ["pot", "told", "tall", "wide", "rows", "columns", "found", "out", "row", "number", "column"]) (sc := defScope ((top 50))) (by decide +kernel)) (fun _ _ _ _ _ => (pg_name (i := 9) sc.nd rfl (Or.inl rfl))) (fun _ _ _ _ _ => pts_nil) (fun _ _ _ _ _ => (pe_op op_sub (pe_op op_sub (pv 3) pe_int) (pv 9)))) pa_nil))) pa_nil)))) pa_nil))) (pss_cut (ps_set (i := 7) sc.nd rfl (Or.inr rfl) (pe_lst (pa_cons (pe_clo C__law_draw (hr.mono (by first | decide | omega)) (pa_cons (pv 0) (pa_cons (pv 2) pa_nil))) (pa_cons (pe_clo C__law_draw (hr.mono (by first | decide | omega)) (pa_cons (pv 0) (pa_cons (pv 3) pa_nil))) pa_nil)))) (pss_one (ps_ret (pe_op op_cat (pv 6) (pe_lst (pa_cons (pe_tup (pa_cons (pe_lc (own := [("row", 8)]) (g := (gName 8)) rfl sc.nd (pi_range1 rfl T.b_range (pa_cons (pv 2) pa_nil)) (blkOk_by (N := ["pot", "told", "tall", "wide", "rows", "columns", "found", "out", "row", "number", "column"]) (sc := defScope ((top 50))) (by decide +kernel)) (fun _ _ _ _ _ => (pg_name (i := 8) sc.nd rfl (Or.inl rfl))) (fun _ _ _ _ _ => (pts_one (pt_cmpR op_ne (pv 8) (pe_ix (show IxR _ (rIxL K) from ix_list) (pv 7) pe_int (fun _ _ => rfl)) (nomark _)))) (fun _ _ _ _ _ => (pv 8))) (pa_cons (pe_lst pa_nil) pa_nil))) (pa_cons (pe_tup (pa_cons (pe_lst pa_nil) (pa_cons (pe_lc (own := [("column", 10)]) (g := (gName 10)) rfl sc.nd (pi_range1 rfl T.b_range (pa_cons (pv 3) pa_nil)) (blkOk_by (N := ["pot", "told", "tall", "wide", "rows", "columns", "found", "out", "row", "number", "column"]) (sc := defScope ((top 50))) (by decide +kernel)) (fun _ _ _ _ _ => (pg_name (i := 10) sc.nd rfl (Or.inl rfl))) (fun _ _ _ _ _ => (pts_one (pt_cmpR op_ne (pv 10) (pe_ix (show IxR _ (rIxL K) from ix_list) (pv 7) pe_int (fun _ _ => rfl)) (nomark _)))) (fun _ _ _ _ _ => (pv 10))) pa_nil))) (pa_cons (pe_tup (pa_cons (pe_lst (pa_cons (pe_ix ix_list (pv 7) pe_int (fun _ _ => rfl)) pa_nil)) (pa_cons (pe_lst (pa_cons (pe_ix ix_list (pv 7) pe_int (fun _ _ => rfl)) pa_nil)) pa_nil))) pa_nil)))))))))))))), ?_⟩
  refine ⟨fun σ' H' => σ' = [some (.ref p), some (.ref t), some (.int tall), some (.int wide), some (.ref x), some (.ref y), none, none, none, none, none] ∧ H = H', ?_, ?_⟩
  · refine ⟨_, rfl, t, _, rfl, st_of ht, rfl, _, _, rfl, _, _, rfl, rfl, ?_⟩
    exact ⟨rfl, rfl⟩
  rintro σ' _ ⟨rfl, rfl⟩
  refine ⟨fun σ' H' => ∃ D, σ' = [some (.ref p), some (.ref t), some (.int tall), some (.int wide), some (.ref x), some (.ref y), some (.ref D), none, none, none, none] ∧ H D = none ∧ D ≠ p ∧ MidC C p t x y D Ro Co H 7 H', ?_, ?_⟩
  · obtain ⟨S, hS⟩ : ∃ S, S = [p] := ⟨_, rfl⟩
    have off : Off S H := hS ▸ off0
    have hx0 := hx
    have hy0 := hy
    rw [← hS] at hx hy
    have tld : EA 130 4 C S (tVar 1) [some (.ref p), some (.ref t), some (.int tall), some (.int wide), some (.ref x), some (.ref y), none, none, none, none, none] H := fun H' e Q k => ⟨_, rfl, k _ _ (Ex.refl _) (by
      have h2 := e _ _ ht
      have nS : t ∉ S := fun z => by
        obtain ⟨xs, q⟩ := (off.up e) t z
        rw [q] at h2
        cases h2
      exact (Fine.tup (N := 5) (d := 1) (N' := 130) (by rw [msk_of nS]; exact h2) (mem2 (hx.up e).fine (hy.up e).fine) (by show 2 * 5 + 1 ≤ 130; decide)).mono (by decide) (by decide))⟩
    have three : ∀ {t1 t2 t3 : TE} {σ : L2.St}, EA 40 3 C S t1 σ H → EA 40 3 C S t2 σ H → EA 40 3 C S t3 σ H → EA 130 4 C S (tTup (tCons t1 (tCons t2 (tCons t3 tNil)))) σ H := fun h1 h2 h3 => EA.tup (.cons h1 (.cons h2 (.cons h3 .nil))) off (by decide) (by decide)
    have one : ∀ {t1 : TE} {σ : L2.St}, EA 40 3 C S t1 σ H → EA 130 4 C S (tTup (tCons t1 tNil)) σ H := fun h1 => EA.tup (.cons h1 .nil) off (by decide) (by decide)
    have twoL : ∀ {t1 t2 : TE} {σ : L2.St}, EA 40 3 C S t1 σ H → EA 40 3 C S t2 σ H → EA 130 4 C S (tLst (tCons t1 (tCons t2 tNil))) σ H := fun h1 h2 => EA.lst (.cons h1 (.cons h2 .nil)) off (by decide) (by decide)
    refine lst_go (N := 130) (d := 4) (C := C) (S := S) (n := 7) (EsA.cons tld
      (EsA.cons ((EA.two (fun H' e Q k => ⟨_, rfl, x, _, rfl, sq_of (hx.up e).at_, fun q hq => k _ _ (Ex.new hq) ((lst_fine (N' := 40) (off.up e) hq (fun v hv => (hx.up e).all v (List.mem_reverse.mp hv)) (by rw [List.length_reverse]; have := hx.vl; omega)).mono (by decide) (by decide))⟩) (fun H' e Q k => ⟨_, rfl, y, _, rfl, sq_of (hy.up e).at_, fun q hq => k _ _ (Ex.new hq) ((lst_fine (N' := 40) (off.up e) hq (fun v hv => (hy.up e).all v (List.mem_reverse.mp hv)) (by rw [List.length_reverse]; have := hy.vl; omega)).mono (by decide) (by decide))⟩) off).mono (by decide) (by decide))
      (EsA.cons ((EA.two (fun H' e Q k => ⟨_, rfl, x, _, rfl, .inl ⟨sq_of (hx.up e).at_, fun q hq => k _ _ (Ex.new hq) ((tup_fine (N' := 40) (off.up e) hq (hx.up e).all (by have := hx.vl; omega)).mono (by decide) (by decide))⟩⟩) (fun H' e Q k => ⟨_, rfl, y, _, rfl, .inl ⟨sq_of (hy.up e).at_, fun q hq => k _ _ (Ex.new hq) ((tup_fine (N' := 40) (off.up e) hq (hy.up e).all (by have := hy.vl; omega)).mono (by decide) (by decide))⟩⟩) off).mono (by decide) (by decide))
      (EsA.cons (twoL (fun H' e Q k => ⟨_, rfl, k _ _ (Ex.refl _) (((hx.up e).fine).mono (by decide) (by decide))⟩) (fun H' e Q k => ⟨_, rfl, k _ _ (Ex.refl _) (((hy.up e).fine).mono (by decide) (by decide))⟩))
      (EsA.cons (three (fun H' e Q k => ⟨_, rfl, k _ _ (Ex.refl _) (((hx.up e).fine).mono (by decide) (by decide))⟩) (fun H' e Q k => ⟨_, rfl, k _ _ (Ex.refl _) (((hy.up e).fine).mono (by decide) (by decide))⟩) (EA.lst (N := 1) (d := 2) (N' := 40) EsA.nil off (by decide) (by decide)))
      (EsA.cons (one (fun H' e Q k => ⟨_, rfl, k _ _ (Ex.refl _) (((hx.up e).fine).mono (by decide) (by decide))⟩))
      (EsA.cons ((EA.two (fun H' e Q k => ⟨_, rfl, k _ _ (Ex.refl _) (((hy.up e).fine).mono (by decide) (by decide))⟩) (fun H' e Q k => ⟨_, rfl, k _ _ (Ex.refl _) (((hx.up e).fine).mono (by decide) (by decide))⟩) off).mono (by decide) (by decide))
      (EsA.nil))))))) H (Ex.refl _)) ?_
    subst hS
    intro vs H2 e2 l2 f2
    refine ⟨by rw [sizeLine_eq]; omega, fun D hD => ?_⟩
    have eD := Ex.new (o := .lst vs) hD
    have hD0 := fresh_back e2 hD
    have nDp : D ≠ p := pot_nn hp hD0
    exact ⟨D, rfl, hD0, nDp, ExP.of (e2.trans eD), (off.up (e2.trans eD)).cons upd_same, (e2.trans eD) _ _ ht, ((hx.more hD0).up e2).putD (List.mem_cons_self), ((hy.more hD0).up e2).putD (List.mem_cons_self), vs, upd_same, l2, by rw [msk_put (List.mem_cons_self), msk_new hD]; exact f2⟩
  rintro σ' H1 ⟨D, rfl, hDH, nDp, m1⟩
  clear hx hy ht off0
  refine ⟨fun σ' H' => σ' = [some (.ref p), some (.ref t), some (.int tall), some (.int wide), some (.ref x), some (.ref y), some (.ref D), none, none, none, none] ∧ MidC C p t x y D Ro Co H 12 H', ?_, ?_⟩
  · obtain ⟨vs, hD, lv, _⟩ := m1.d
    refine ⟨_, rfl, .inl ⟨rfl, vs, sq_of hD⟩, ?_⟩
    have off := m1.off
    have hx := m1.hx
    have hy := m1.hy
    obtain ⟨S, hS⟩ : ∃ S, S = D :: [p] := ⟨_, rfl⟩
    rw [← hS] at off hx hy
    refine lst_go (N := 130) (d := 4) (C := C) (S := S) (n := 5) ((EsA.cons ((EA.two (fun H' e Q k => ⟨_, rfl, _, rfl, _, rfl, x, _, rfl, sq_of (hx.up e).at_, fun s hs => by
        have es := Ex.new (o := .lst (cutV (vI Ro) none (some 1))) hs
        have f2 := hx.up (e.trans es)
        have fs : LF 1 0 S C (upd H' s (.lst (cutV (vI Ro) none (some 1)))) s _ := LF.new (off.up e) hs ((hx.up e).lf.cut _ _)
        have c1 := cutL none (some 1) hx.vl
        have c2 := hx.vl
        exact ⟨x, s, _, _, rfl, rfl, f2.at_, fs.at_, (by rw [sizeLine_eq]; omega), fun q hq => k _ _ (es.trans (Ex.new hq)) ((lst_fine (N' := 40) (off.up (e.trans es)) hq (f2.lf.cat fs) (by rw [List.length_append]; omega)).mono (by decide) (by decide))⟩⟩) (fun H' e Q k => ⟨_, rfl, k _ _ (Ex.refl _) (((hy.up e).fine).mono (by decide) (by decide))⟩) off).mono (by decide) (by decide))
      (EsA.cons ((EA.two (fun H' e Q k => ⟨_, rfl, k _ _ (Ex.refl _) (((hx.up e).fine).mono (by decide) (by decide))⟩) (fun H' e Q k => ⟨_, rfl, _, rfl, _, rfl, y, _, rfl, sq_of (hy.up e).at_, fun s hs => by
        have es := Ex.new (o := .lst (cutV (vI Co) none (some 1))) hs
        have f2 := hy.up (e.trans es)
        have fs : LF 1 0 S C (upd H' s (.lst (cutV (vI Co) none (some 1)))) s _ := LF.new (off.up e) hs ((hy.up e).lf.cut _ _)
        have c1 := cutL none (some 1) hy.vl
        have c2 := hy.vl
        exact ⟨y, s, _, _, rfl, rfl, f2.at_, fs.at_, (by rw [sizeLine_eq]; omega), fun q hq => k _ _ (es.trans (Ex.new hq)) ((lst_fine (N' := 40) (off.up (e.trans es)) hq (f2.lf.cat fs) (by rw [List.length_append]; omega)).mono (by decide) (by decide))⟩⟩) off).mono (by decide) (by decide))
      (EsA.cons ((EA.two (fun H' e Q k => ⟨_, rfl, _, rfl, x, _, rfl, sq_of (hx.up e).at_, fun q hq => k _ _ (Ex.new hq) ((lst_fine (N' := 40) (off.up e) hq ((hx.up e).lf.cut _ _) (by have := cutL (some 1) none hx.vl; omega)).mono (by decide) (by decide))⟩) (fun H' e Q k => ⟨_, rfl, k _ _ (Ex.refl _) (((hy.up e).fine).mono (by decide) (by decide))⟩) off).mono (by decide) (by decide))
      (EsA.cons ((EA.two (fun H' e Q k => ⟨_, rfl, k _ _ (Ex.refl _) (((hx.up e).fine).mono (by decide) (by decide))⟩) (fun H' e Q k => ⟨_, rfl, _, rfl, y, _, rfl, sq_of (hy.up e).at_, fun q hq => k _ _ (Ex.new hq) ((lst_fine (N' := 40) (off.up e) hq ((hy.up e).lf.cut _ _) (by have := cutL (some 1) none hy.vl; omega)).mono (by decide) (by decide))⟩) off).mono (by decide) (by decide))
      (EsA.cons ((EA.two (fun H' e Q k => ⟨_, rfl, _, rfl, (by show 1 ≤ sizeLine; decide), fun s hs => by
        have es := Ex.new (o := .lst [.int tall]) hs
        have f2 := hx.up (e.trans es)
        have fs : LF 1 0 S C (upd H' s (.lst [.int tall])) s [.int tall] := LF.new (off.up e) hs (mem1 (int_fine (by omega)))
        have c2 := hx.vl
        exact ⟨x, s, _, _, rfl, rfl, f2.at_, fs.at_, (by rw [sizeLine_eq]; show _ + 1 ≤ _; omega), fun q hq => k _ _ (es.trans (Ex.new hq)) ((lst_fine (N' := 40) (off.up (e.trans es)) hq (f2.lf.cat fs) (by rw [List.length_append]; show (_ + 1) * 1 + 1 ≤ 40; omega)).mono (by decide) (by decide))⟩⟩) (fun H' e Q k => ⟨_, rfl, _, rfl, y, _, rfl, sq_of (hy.up e).at_, fun q hq => k _ _ (Ex.new hq) ((lst_fine (N' := 40) (off.up e) hq ((hy.up e).lf.cut _ _) (by have := cutL (some 1) none hy.vl; omega)).mono (by decide) (by decide))⟩) off).mono (by decide) (by decide))
      (EsA.nil)))))) _ (Ex.refl _)) ?_
    subst hS
    intro ws H3 e3 l3 f3
    refine ⟨by rw [sizeLine_eq]; omega, fun b hb => ?_⟩
    have eb := e3.trans (Ex.new (o := .lst ws) hb)
    refine ⟨D, b, vs, ws, rfl, rfl, eb _ _ hD, upd_same, (by rw [sizeLine_eq]; omega), rfl, ?_⟩
    exact m1.ext hDH nDp eb hD (fun v hv => (f3 v hv).up (msk_up (Ex.new hb))) l3
  rintro σ' H1 ⟨rfl, m2⟩
  clear m1
  refine ⟨fun σ' H' => σ' = [some (.ref p), some (.ref t), some (.int tall), some (.int wide), some (.ref x), some (.ref y), some (.ref D), none, none, none, none] ∧ MidC C p t x y D Ro Co H 18 H', ?_, ?_⟩
  · obtain ⟨vs, hD, lv, _⟩ := m2.d
    refine ⟨_, rfl, .inl ⟨rfl, vs, sq_of hD⟩, ?_⟩
    have off := m2.off
    have hx := m2.hx
    have hy := m2.hy
    obtain ⟨S, hS⟩ : ∃ S, S = D :: [p] := ⟨_, rfl⟩
    rw [← hS] at off hx hy
    refine lst_go (N := 130) (d := 4) (C := C) (S := S) (n := 6) ((EsA.cons ((EA.two (fun H' e Q k => ⟨_, rfl, _, rfl, RgOk.of_le (by omega) (by omega) (by omega) (by omega), fun q hq => k _ _ (Ex.new hq) ((lst_fine (N := 1) (d := 0) (N' := 40) (off.up e) hq (fun v hv => by
        unfold rgV at hv
        obtain ⟨i, hi, rfl⟩ := List.mem_map.mp hv
        rw [List.mem_range] at hi
        exact int_fine (by omega)) (by rw [rgV_length]; omega)).mono (by decide) (by decide))⟩) (EA.lst (N := 1) (d := 2) (N' := 40) EsA.nil off (by decide) (by decide)) off).mono (by decide) (by decide))
      (EsA.cons ((EA.two (EA.lst (N := 1) (d := 2) (N' := 40) EsA.nil off (by decide) (by decide)) (fun H' e Q k => ⟨_, rfl, _, rfl, RgOk.of_le (by omega) (by omega) (by omega) (by omega), fun q hq => k _ _ (Ex.new hq) ((lst_fine (N := 1) (d := 0) (N' := 40) (off.up e) hq (fun v hv => by
        unfold rgV at hv
        obtain ⟨i, hi, rfl⟩ := List.mem_map.mp hv
        rw [List.mem_range] at hi
        exact int_fine (by omega)) (by rw [rgV_length]; omega)).mono (by decide) (by decide))⟩) off).mono (by decide) (by decide))
      (EsA.cons ((EA.two (EA.lst (N := 1) (d := 2) (N' := 40) EsA.nil off (by decide) (by decide)) (EA.lst (N := 1) (d := 2) (N' := 40) EsA.nil off (by decide) (by decide)) off).mono (by decide) (by decide))
      (EsA.cons ((EA.two (fun H' e Q k => ⟨_, rfl, k _ _ (Ex.refl _) (((hx.up e).fine).mono (by decide) (by decide))⟩) (fun H' e Q k => k _ _ (Ex.refl _) (Fine.non.mono (by decide) (by decide))) off).mono (by decide) (by decide))
      (EsA.cons ((EA.two (fun H' e Q k => k _ _ (Ex.refl _) (Fine.non.mono (by decide) (by decide))) (fun H' e Q k => ⟨_, rfl, k _ _ (Ex.refl _) (((hy.up e).fine).mono (by decide) (by decide))⟩) off).mono (by decide) (by decide))
      (EsA.cons ((EA.two (fun H' e Q k => ⟨_, rfl, x, rfl, ⟨_, sq_of (hx.up e).at_⟩, fun D' hD' => lc_fine (walk_list (K := K) (a := x) (xs := vI Ro)) 2 1 C S (off.up e) hD' (fun H6 e6 => sq_of (hx.up (e.trans e6)).at_) (by have := hx.vl; omega) (fun i v H5 H6 Gt hi e5 o5 hY k5 => by
        obtain ⟨rfl, hx'⟩ := hY
        obtain ⟨n, hn, rfl⟩ := vI_mem (List.mem_of_getElem? hx')
        have lt := hx.lt n hn
        refine ⟨rfl, ?_⟩
        exact ⟨_, rfl, (by show 1 ≤ sizeLine; decide), fun q hq => k5 _ _ (Ex.new hq) (lst_fine (N := 1) (d := 0) o5 hq (mem1 (int_fine (by omega))) (by show 1 * 1 + 1 ≤ 2; decide))⟩) fun acc H4 e4 hD4 la fa => k _ _ e4 ((Fine.lst (N := 2) (d := 1) (N' := 40) (by rw [msk_of ((off.up e).fresh hD')]; exact hD4) fa (by rw [la]; have := hx.vl; omega)).mono (by decide) (by decide))⟩) (fun H' e Q k => ⟨_, rfl, k _ _ (Ex.refl _) (((hy.up e).fine).mono (by decide) (by decide))⟩) off).mono (by decide) (by decide))
      (EsA.nil))))))) _ (Ex.refl _)) ?_
    subst hS
    intro ws H3 e3 l3 f3
    refine ⟨by rw [sizeLine_eq]; omega, fun b hb => ?_⟩
    have eb := e3.trans (Ex.new (o := .lst ws) hb)
    refine ⟨D, b, vs, ws, rfl, rfl, eb _ _ hD, upd_same, (by rw [sizeLine_eq]; omega), rfl, ?_⟩
    exact m2.ext hDH nDp eb hD (fun v hv => (f3 v hv).up (msk_up (Ex.new hb))) l3
  rintro σ' H1 ⟨rfl, m3⟩
  clear m2
  refine ⟨fun σ' H' => σ' = [some (.ref p), some (.ref t), some (.int tall), some (.int wide), some (.ref x), some (.ref y), some (.ref D), none, none, none, none] ∧ MidC C p t x y D Ro Co H 20 H', ?_, ?_⟩
  · obtain ⟨vs, hD, lv, _⟩ := m3.d
    refine ⟨_, rfl, .inl ⟨rfl, vs, sq_of hD⟩, ?_⟩
    have off := m3.off
    have hx := m3.hx
    have hy := m3.hy
    obtain ⟨S, hS⟩ : ∃ S, S = D :: [p] := ⟨_, rfl⟩
    rw [← hS] at off hx hy
    refine lst_go (N := 130) (d := 4) (C := C) (S := S) (n := 2) ((EsA.cons ((EA.two (fun H' e Q k => ⟨_, rfl, x, rfl, ⟨_, sq_of (hx.up e).at_⟩, fun D' hD' => lc_fine (walk_list (K := K) (a := x) (xs := vI Ro)) 1 0 C S (off.up e) hD' (fun H6 e6 => sq_of (hx.up (e.trans e6)).at_) (by have := hx.vl; omega) (fun i v H5 H6 Gt hi e5 o5 hY k5 => by
        obtain ⟨rfl, hx'⟩ := hY
        obtain ⟨n, hn, rfl⟩ := vI_mem (List.mem_of_getElem? hx')
        have lt := hx.lt n hn
        refine ⟨rfl, ?_⟩
        refine ⟨_, rfl, _, _, rfl, rfl, _, rfl, ?_⟩
        exact ite2 (fun g => ⟨_, rfl, rfl, k5 _ _ (Ex.refl _) Fine.bl⟩) (fun g => ⟨_, rfl, k5 _ _ (Ex.refl _) (int_fine (by omega))⟩)) fun acc H4 e4 hD4 la fa => k _ _ e4 ((Fine.lst (N := 1) (d := 0) (N' := 40) (by rw [msk_of ((off.up e).fresh hD')]; exact hD4) fa (by rw [la]; have := hx.vl; omega)).mono (by decide) (by decide))⟩) (fun H' e Q k => ⟨_, rfl, k _ _ (Ex.refl _) (((hy.up e).fine).mono (by decide) (by decide))⟩) off).mono (by decide) (by decide))
      (EsA.cons ((EA.two (fun H' e Q k => ⟨_, rfl, k _ _ (Ex.refl _) (((hx.up e).fine).mono (by decide) (by decide))⟩) (fun H' e Q k => ⟨_, rfl, y, rfl, ⟨_, sq_of (hy.up e).at_⟩, fun D' hD' => lc_fine (walk_list (K := K) (a := y) (xs := vI Co)) 1 0 C S (off.up e) hD' (fun H6 e6 => sq_of (hy.up (e.trans e6)).at_) (by have := hy.vl; omega) (fun i v H5 H6 Gt hi e5 o5 hY k5 => by
        obtain ⟨rfl, hx'⟩ := hY
        obtain ⟨n, hn, rfl⟩ := vI_mem (List.mem_of_getElem? hx')
        have lt := hy.lt n hn
        refine ⟨rfl, ?_⟩
        refine ⟨_, rfl, fun x3 d3 hx3 hd3 ne3 => ?_⟩
        have bz : Bt 3 (n : Int) := by show ((n : Int)).natAbs < 8; omega
        refine made_z hx3 hd3 ne3 (by decide) (Bt.mono bz (by decide)) (Bt.mono (n := 3) (by unfold Bt; decide) (by decide)) fun H7 e7 r7 => ⟨rfl, ?_⟩
        have lb := low_bt (n := 3) (m := 3) bz (by unfold Bt; decide : Bt 3 1) (by decide)
        exact k5 _ _ e7 (NumT.fine (.inr ⟨_, _, _, rfl, r7, lb.1.mono (by decide), lb.2.mono (by decide), low_pos (by decide)⟩) (o5.up e7))) fun acc H4 e4 hD4 la fa => k _ _ e4 ((Fine.lst (N := 1) (d := 0) (N' := 40) (by rw [msk_of ((off.up e).fresh hD')]; exact hD4) fa (by rw [la]; have := hy.vl; omega)).mono (by decide) (by decide))⟩) off).mono (by decide) (by decide))
      (EsA.nil))) _ (Ex.refl _)) ?_
    subst hS
    intro ws H3 e3 l3 f3
    refine ⟨by rw [sizeLine_eq]; omega, fun b hb => ?_⟩
    have eb := e3.trans (Ex.new (o := .lst ws) hb)
    refine ⟨D, b, vs, ws, rfl, rfl, eb _ _ hD, upd_same, (by rw [sizeLine_eq]; omega), rfl, ?_⟩
    exact m3.ext hDH nDp eb hD (fun v hv => (f3 v hv).up (msk_up (Ex.new hb))) l3
  rintro σ' H1 ⟨rfl, m4⟩
  clear m3
  refine ⟨fun σ' H' => σ' = [some (.ref p), some (.ref t), some (.int tall), some (.int wide), some (.ref x), some (.ref y), some (.ref D), none, none, none, none] ∧ MidC C p t x y D Ro Co H 23 H', ?_, ?_⟩
  · obtain ⟨vs, hD, lv, _⟩ := m4.d
    refine ⟨_, rfl, .inl ⟨rfl, vs, sq_of hD⟩, ?_⟩
    have off := m4.off
    have hx := m4.hx
    have hy := m4.hy
    obtain ⟨S, hS⟩ : ∃ S, S = D :: [p] := ⟨_, rfl⟩
    rw [← hS] at off hx hy
    refine lst_go (N := 130) (d := 4) (C := C) (S := S) (n := 3) ((EsA.cons ((EA.two (fun H' e Q k => ⟨_, rfl, k _ _ (Ex.refl _) (((hx.up e).fine).mono (by decide) (by decide))⟩) (fun H' e Q k => ⟨_, rfl, y, rfl, ⟨_, sq_of (hy.up e).at_⟩, fun D2 hD2 => by
        refine lcW (walk_list (K := K) (a := y) (xs := vI Co)) Co (vI_len Co) (by have := hy.vl; omega) (fun _ => true) (Tu fun (y : Nat) => [.int (y : Nat), .bl true]) Stab.tu hD2 (fun H6 e6 => sq_of (hy.up (e.trans e6)).at_) ?_ ?_
        · rintro i z v H6 H5 N Gt hz e6 ⟨rfl, hx'⟩ _ k6
          unfold vI at hx'
          rw [List.getElem?_map, hz] at hx'
          cases hx'
          exact ⟨Ex.refl _, rfl, _, rfl, (by show 2 ≤ sizeLine; decide), fun r hr5 => k6 rfl _ _ (Ex.new hr5) ⟨r, rfl, upd_same⟩⟩
        · intro acc2 H6 e6 hD6 hacc2
          rw [filter_yes] at hacc2
          obtain ⟨ps, rfl, lps, hps⟩ := tu_list hacc2
          have pk := pairs_T (K := K) (g := fun y : Nat => y) hps
          refine ⟨D2, ps, _, rfl, sq_of hD6, pk, fun dd hdd => ?_⟩
          rw [show Co.map (fun y : Nat => y) = Co from List.map_id Co, mergeT_nd nd]
          refine k _ _ (e6.trans (Ex.new hdd)) ?_
          have c4 := hy.len
          exact (Fine.dk (ks := Co) (by rw [msk_of (((off.up e).up e6).fresh hdd)]; exact upd_same) (by omega) (fun c hc => by have := hy.lt c hc; omega)).mono (by omega) (by decide)⟩) off).mono (by decide) (by decide))
      (EsA.cons ((EA.two (fun H' e Q k => ⟨_, rfl, x, rfl, ⟨_, sq_of (hx.up e).at_⟩, fun D' hD' => lc_fine (walk_list (K := K) (a := x) (xs := vI Ro)) 1 0 C S (off.up e) hD' (fun H6 e6 => sq_of (hx.up (e.trans e6)).at_) (by have := hx.vl; omega) (fun i v H5 H6 Gt hi e5 o5 hY k5 => by
        obtain ⟨rfl, hx'⟩ := hY
        obtain ⟨n, hn, rfl⟩ := vI_mem (List.mem_of_getElem? hx')
        have lt := hx.lt n hn
        refine ⟨rfl, ?_⟩
        exact ⟨_, rfl, _, _, rfl, rfl, k5 _ _ (Ex.refl _) (int_fine (by omega))⟩) fun acc H4 e4 hD4 la fa => k _ _ e4 ((Fine.lst (N := 1) (d := 0) (N' := 40) (by rw [msk_of ((off.up e).fresh hD')]; exact hD4) fa (by rw [la]; have := hx.vl; omega)).mono (by decide) (by decide))⟩) (fun H' e Q k => ⟨_, rfl, k _ _ (Ex.refl _) (((hy.up e).fine).mono (by decide) (by decide))⟩) off).mono (by decide) (by decide))
      (EsA.cons ((EA.two (fun H' e Q k => ⟨_, rfl, k _ _ (Ex.refl _) (((hx.up e).fine).mono (by decide) (by decide))⟩) (fun H' e Q k => ⟨_, rfl, y, rfl, ⟨_, sq_of (hy.up e).at_⟩, fun D' hD' => lc_fine (walk_list (K := K) (a := y) (xs := vI Co)) 1 0 C S (off.up e) hD' (fun H6 e6 => sq_of (hy.up (e.trans e6)).at_) (by have := hy.vl; omega) (fun i v H5 H6 Gt hi e5 o5 hY k5 => by
        obtain ⟨rfl, hx'⟩ := hY
        obtain ⟨n, hn, rfl⟩ := vI_mem (List.mem_of_getElem? hx')
        have lt := hy.lt n hn
        refine ⟨rfl, ?_⟩
        exact ⟨_, rfl, _, _, rfl, rfl, _, rfl, _, _, rfl, rfl, k5 _ _ (Ex.refl _) (int_fine (by omega))⟩) fun acc H4 e4 hD4 la fa => k _ _ e4 ((Fine.lst (N := 1) (d := 0) (N' := 40) (by rw [msk_of ((off.up e).fresh hD')]; exact hD4) fa (by rw [la]; have := hy.vl; omega)).mono (by decide) (by decide))⟩) off).mono (by decide) (by decide))
      (EsA.nil)))) _ (Ex.refl _)) ?_
    subst hS
    intro ws H3 e3 l3 f3
    refine ⟨by rw [sizeLine_eq]; omega, fun b hb => ?_⟩
    have eb := e3.trans (Ex.new (o := .lst ws) hb)
    refine ⟨D, b, vs, ws, rfl, rfl, eb _ _ hD, upd_same, (by rw [sizeLine_eq]; omega), rfl, ?_⟩
    exact m4.ext hDH nDp eb hD (fun v hv => (f3 v hv).up (msk_up (Ex.new hb))) l3
  rintro σ' H1 ⟨rfl, m5⟩
  clear m4
  refine ⟨fun σ' H' => ∃ (o d1 d2 : Nat), σ' = [some (.ref p), some (.ref t), some (.int tall), some (.int wide), some (.ref x), some (.ref y), some (.ref D), some (.ref o), none, none, none] ∧ MidC C p t x y D Ro Co H 23 H' ∧ H' o = some (.lst [.int (d1 : Nat), .int (d2 : Nat)]) ∧ d1 < tall ∧ d2 < wide, ?_, ?_⟩
  · have hp5 := m5.ex.2 hp
    refine ⟨_, rfl, _, rfl, p, tall, rfl, hp5, t1, by omega, fun d1 H2 e2 hp2 hd1 => ⟨_, rfl, _, rfl, p, wide, rfl, hp2, w1, by omega, fun d2 H3 e3 hp3 hd2 => ⟨(by show 2 ≤ sizeLine; decide), fun o ho => ?_⟩⟩⟩
    exact ⟨o, d1, d2, rfl, ((m5.pot nDp hp5 (ExP.mk e2 hp2)).pot nDp hp2 (ExP.mk e3 hp3)).up (Ex.new ho), upd_same, hd1, hd2⟩
  rintro σ' H1 ⟨o, d1, d2, rfl, m6, ho, hd1, hd2⟩
  clear m5
  obtain ⟨vs, hD, lv, fv⟩ := m6.d
  refine ⟨_, rfl, ?_⟩
  have off := m6.off
  obtain ⟨S, hS⟩ : ∃ S, S = D :: [p] := ⟨_, rfl⟩
  rw [← hS] at off
  refine lst_go (N := 130) (d := 4) (C := C) (S := S) (n := 3) ((EsA.cons ((EA.two (fun H' e Q k => ⟨_, rfl, _, rfl, by omega, by omega, fun D' hD' => by
        rw [Int.toNat_natCast]
        refine lc_fineF (walk_range (lo := 0) (n := tall)) 1 0 C S (fun i => decide (i ≠ d1)) (off.up e) hD' (fun _ _ => trivial) (by omega) ?_ fun acc H4 e4 hD4 la fa => k _ _ e4 ((Fine.lst (N := 1) (d := 0) (N' := 40) (by rw [msk_of ((off.up e).fresh hD')]; exact hD4) fa (by omega)).mono (by decide) (by decide))
        rintro i v H5 H6 Nx Gt hi e5 o5 ⟨rfl, rfl⟩ kN kY
        refine ⟨rfl, ?_⟩
        have ho5 := (e.trans e5) _ _ ho
        refine ⟨_, rfl, _, rfl, o, _, 0, .int (d1 : Nat), rfl, rfl, sq_of ho5, rfl, rfl, _, rfl, ?_⟩
        refine ite2 (fun g => ?_) (fun g => ?_)
        · have g' : i ≠ d1 := fun z => by
            rw [z] at g
            simp at g
          exact ⟨_, rfl, kY (decide_eq_true g') _ _ (Ex.refl _) (int_fine (by omega))⟩
        · have g' : i = d1 := by
            apply Classical.byContradiction
            intro z
            apply g
            have : ¬ (V.int (0 + (i : Int)) = V.int ((d1 : Nat) : Int)) := fun z2 => by injection z2 with z2; omega
            rw [decide_eq_false this]
            rfl
          exact kN (by simp [g']) _ (Ex.refl _)⟩) (EA.lst (N := 1) (d := 2) (N' := 40) EsA.nil off (by decide) (by decide)) off).mono (by decide) (by decide))
      (EsA.cons ((EA.two (EA.lst (N := 1) (d := 2) (N' := 40) EsA.nil off (by decide) (by decide)) (fun H' e Q k => ⟨_, rfl, _, rfl, by omega, by omega, fun D' hD' => by
        rw [Int.toNat_natCast]
        refine lc_fineF (walk_range (lo := 0) (n := wide)) 1 0 C S (fun i => decide (i ≠ d2)) (off.up e) hD' (fun _ _ => trivial) (by omega) ?_ fun acc H4 e4 hD4 la fa => k _ _ e4 ((Fine.lst (N := 1) (d := 0) (N' := 40) (by rw [msk_of ((off.up e).fresh hD')]; exact hD4) fa (by omega)).mono (by decide) (by decide))
        rintro i v H5 H6 Nx Gt hi e5 o5 ⟨rfl, rfl⟩ kN kY
        refine ⟨rfl, ?_⟩
        have ho5 := (e.trans e5) _ _ ho
        refine ⟨_, rfl, _, rfl, o, _, 1, .int (d2 : Nat), rfl, rfl, sq_of ho5, rfl, rfl, _, rfl, ?_⟩
        refine ite2 (fun g => ?_) (fun g => ?_)
        · have g' : i ≠ d2 := fun z => by
            rw [z] at g
            simp at g
          exact ⟨_, rfl, kY (decide_eq_true g') _ _ (Ex.refl _) (int_fine (by omega))⟩
        · have g' : i = d2 := by
            apply Classical.byContradiction
            intro z
            apply g
            have : ¬ (V.int (0 + (i : Int)) = V.int ((d2 : Nat) : Int)) := fun z2 => by injection z2 with z2; omega
            rw [decide_eq_false this]
            rfl
          exact kN (by simp [g']) _ (Ex.refl _)⟩) off).mono (by decide) (by decide))
      (EsA.cons ((EA.two (EA.lst (N := 1) (d := 2) (N' := 40) (.cons (fun H' e Q k => ⟨_, rfl, o, _, 0, .int (d1 : Nat), rfl, rfl, sq_of (e _ _ ho), rfl, k _ _ (Ex.refl _) ((int_fine (by omega)).mono (by decide) (by decide))⟩) .nil) off (by decide) (by decide)) (EA.lst (N := 1) (d := 2) (N' := 40) (.cons (fun H' e Q k => ⟨_, rfl, o, _, 1, .int (d2 : Nat), rfl, rfl, sq_of (e _ _ ho), rfl, k _ _ (Ex.refl _) ((int_fine (by omega)).mono (by decide) (by decide))⟩) .nil) off (by decide) (by decide)) off).mono (by decide) (by decide))
      (EsA.nil)))) _ (Ex.refl _)) ?_
  subst hS
  intro ws H3 e3 l3 f3
  refine ⟨by rw [sizeLine_eq]; omega, fun b hb => ?_⟩
  have eb := e3.trans (Ex.new (o := .lst ws) hb)
  refine ⟨D, b, vs, ws, rfl, rfl, eb _ _ hD, upd_same, (by rw [sizeLine_eq]; omega), fun out hout => ?_⟩
  have eo := eb.trans (Ex.new (o := .lst (vs ++ ws)) hout)
  have hp6 := (m6.ex.2 hp).up eb
  refine q out (vs ++ ws) _ (m6.ex.trans (ExP.of eo)) ((m6.ex.1.trans (ExB.of eb)).fresh (pot_nn hp6 hout) hout) upd_same (by rw [List.length_append]; omega) ?_
  exact memA (P := fun v => Fine 130 4 C (msk [p] _) v) (fun v hv => ((fv v hv).up (msk_up eo)).less) (fun v hv => ((f3 v hv).up (msk_up ((Ex.new hb).trans (Ex.new hout)))).less)
end
end R71

namespace R71
open B71 PySem PySem.Spec PyProof.Rows L2 Evl RZ SrtO

/-! ### calls with keywords -/
structure ClQ (P : Program) (w : World) (K : PySem.W.Frag) (mg : Str → Option Value) (base : Heap) (x : Str) (k : Nat) (ps ks : List Str) (g : List Value → List Value → List Value) (gV : List V → List V → List V) (sp : Sp) : Prop where
  ex : ∃ (f : Addr) (fd : FuncData), FnOk P w K mg base CX0 k f fd ps sp ∧ KBinds K fd ps ks g gV ∧ PySem.W.keepIn K (.ref f) = true ∧ mg x = some (.ref f)
theorem pe_clq {X : Cx} {x : Str} {k : Nat} {ps ks : List Str} {g : List Value → List Value → List Value} {gV : List V → List V → List V} {sp : Sp} {p pos : Pos} {e : Expr} {es : List Expr} {kws : List Keyword} {t tk : TA} (C : ClQ X.prog X.w X.K X.mg X.base x k ps ks g gV sp) (hr : Room k X.A) (ha : PA X (e :: es) t) (hkw : PK X kws tk)
    (hg : Gl X x := by rfl) (hall : (backToKw pos (keywordEach kws X.env)).all (·.1.isSome) = true := by rfl) (hks : (backToKw pos (keywordEach kws X.env)).filterMap (·.1) = ks := by rfl) (hdb : (x == ("__debug__" : Str)) = false := by decide) (he : starEach (e :: es) X.env = (false, eval e X.env) :: starEach es X.env := by rfl)
    (hpl : ((backTo pos (starEach (e :: es) X.env)).any (·.1) || (backToKw pos (keywordEach kws X.env)).any (·.1.isNone)) = false := by rfl) : PE X (.Call (.Name x p) (e :: es) kws pos) (tCallK sp gV E0 t tk) := by
  obtain ⟨f, fd, F, b, kp, m⟩ := C.ex
  exact pe_callK (E := E0) F hr hg m kp b pass0 ha hkw hall hks hdb he hpl
theorem pe_clq0 {X : Cx} {x : Str} {k : Nat} {ps ks : List Str} {g : List Value → List Value → List Value} {gV : List V → List V → List V} {sp : Sp} {p pos : Pos} {kws : List Keyword} {tk : TA} (C : ClQ X.prog X.w X.K X.mg X.base x k ps ks g gV sp) (hr : Room k X.A) (hkw : PK X kws tk)
    (hg : Gl X x := by rfl) (hall : (backToKw pos (keywordEach kws X.env)).all (·.1.isSome) = true := by rfl) (hks : (backToKw pos (keywordEach kws X.env)).filterMap (·.1) = ks := by rfl) (hdb : (x == ("__debug__" : Str)) = false := by decide)
    (hpl : ((backTo pos (starEach [] X.env)).any (·.1) || (backToKw pos (keywordEach kws X.env)).any (·.1.isNone)) = false := by rfl) : PE X (.Call (.Name x p) [] kws pos) (fun σ H Q => tk σ H fun zs H1 => sp (gV [] zs) H1 Q E0) := by
  obtain ⟨f, fd, F, b, kp, m⟩ := C.ex
  refine ⟨fun pins s σ H Q I h => ?_⟩
  refine wpAny_Call_Name_kw (ld_glob I hg m ?_ hdb)
  refine PySem.W.callWith_KW0 (h₀ := X.base) I.ok.mod.kin kp hall (thn (hkw.run pos pins s σ H _ I h) fun ws s1 ⟨zs, H1, I1, rz, q⟩ => ⟨I1.kIn, ?_⟩) hpl
  rw [hks]
  exact run_fnk F hr b pass0 I1 .nil rz q
theorem shown_rule {C : Addr} {H : Hp} {v : V} {Q : VK} {t : TV} (h : TrV C H v t) (g : t.Good) (cn : t.cnt ≤ 1000) (dp : t.dep ≤ 6) (q : RetV (.str t.text) H Q) : rReprT C [v] H Q := by
  have := text_le t g
  have sl : sizeLine = 16777216 := sizeLine_eq
  exact ⟨v, t, rfl, h, good_fit t g, dp, by omega, q⟩
theorem ro2 (a b : Bool) : Ro (.list [.bool a, .bool b]) := by
  cases a <;> cases b <;> exact ro_of (by decide +kernel) (by decide +kernel) (by decide +kernel) (by decide +kernel) (by decide +kernel) (by decide +kernel)
def spYes : Sp := fun vs H Q _ => ∃ p : Addr, vs = [.ref p] ∧ Pot H p ∧ ∀ H', ExP p H H' → Q (.bl true) H'
/-- what is known of the rooks told -/
structure RkF (pl : Pl) (tall : Nat) (M' : Pl) : Prop where
  sub : ∀ p ∈ M', p ∈ pl
  n1 : (M'.map (·.1)).Nodup
  n2 : (M'.map (·.2)).Nodup
  len : M'.length = (seatsOf pl tall).length
  l4 : M'.length ≤ 4
theorem flip_fst (l : List (Nat × Nat)) : (flip l).map (·.1) = l.map (·.2) := by unfold flip; rw [List.map_map]; rfl
theorem flip_snd (l : List (Nat × Nat)) : (flip l).map (·.2) = l.map (·.1) := by unfold flip; rw [List.map_map]; rfl
theorem Rk.f {pl M' : Pl} {tall : Nat} (h : Rk pl tall M') (z : Sz pl tall) : RkF pl tall M' := by
  obtain ⟨D, S⟩ := seated z.h4 tall
  have hl := h.pm.length_eq
  rw [flip_len] at hl
  refine ⟨fun p hp => ?_, ?_, ?_, hl, by rw [hl]; exact mat_len z.h4 S.mat⟩
  · obtain ⟨r, c⟩ := p
    exact S.mat.on c r (mem_flip.mp (h.pm.mem_iff.mp hp))
  · refine (h.pm.map (·.1)).nodup_iff.mpr ?_
    rw [flip_fst]
    exact S.mat.rows
  · refine (h.pm.map (·.2)).nodup_iff.mpr ?_
    rw [flip_snd]
    exact S.mat.cols

theorem cov_all {pl : Pl} {tall : Nat} {M : Dc} {D : List Nat} (S : Seated pl tall M D) (hp : ∀ r c, (r, c) ∈ pl → r < tall) (h4 : ∀ r c, (r, c) ∈ pl → c < 4) (d4 : ∀ c ∈ D, c < 4) : ∀ (n : Nat) (s : CS), covM s ≤ n → CovInv pl tall M D s → ∃ R C, Opt pl M R C
  | 0, s, h, J => ⟨_, _, cov_end S hp J (by
    unfold covM at h
    exact List.eq_nil_of_length_eq_zero (by omega))⟩
  | n + 1, s, h, J => by
    by_cases hw : s.wait = []
    · exact ⟨_, _, cov_end S hp J hw⟩
    · have hm := step_m (M := M) h4 J.nd (fun c hc => d4 c (J.seat c hc).1) hw
      exact cov_all S hp h4 d4 n _ (by omega) (step_inv S J hw)
theorem due_is {pl : Pl} {tall wide : Nat} (b : Bd tall wide pl) : mostM pl tall 0 [] = (seatsOf pl tall).length := by
  have z := b.sz
  obtain ⟨D, S⟩ := seated z.h4 tall
  have hp : ∀ r c, (r, c) ∈ pl → r < tall := fun r c h => (b.inb _ h).1
  have d4 : ∀ c ∈ D, c < 4 := fun c hc => by
    obtain ⟨r, h, _⟩ := S.shut c hc
    exact z.h4 r c (S.mat.on c r (look_mem h))
  obtain ⟨R, C, o⟩ := cov_all S hp z.h4 d4 _ _ (Nat.le_refl _) (cov_start S)
  exact most_is o hp
theorem one_rook {pl : Pl} {tall wide : Nat} (b : Bd tall wide pl) : 1 ≤ (seatsOf pl tall).length := by
  have z := b.sz
  obtain ⟨D, S⟩ := seated z.h4 tall
  apply Classical.byContradiction
  intro h
  have e : seatsOf pl tall = [] := List.eq_nil_of_length_eq_zero (by omega)
  have hl := b.p1
  match pl, hl, b, S, e with
  | p :: pl', _, b, S, e =>
    have hin := b.inb p (List.mem_cons_self ..)
    rcases S.done p.1 hin.1 with h | h
    · rw [e] at h; cases h
    · obtain ⟨r, h2, _⟩ := S.shut p.2 (h p.2 (List.mem_cons_self ..))
      rw [e] at h2
      cases h2
theorem fst_nodup {L : Pl} (h : (L.map (·.1)).Nodup) : L.Nodup := by
  induction L with
  | nil => exact List.nodup_nil
  | cons x L ih =>
    rw [List.map_cons, List.nodup_cons] at h
    rw [List.nodup_cons]
    exact ⟨fun z => h.1 (List.mem_map.mpr ⟨x, z, rfl⟩), ih h.2⟩
theorem Off.nil {H : Hp} : Off [] H := fun b hb => nomatch hb
theorem msk_none {H : Hp} : msk [] H = H := funext fun b => if_neg (List.not_mem_nil)
def spLaw (K : PySem.W.Frag) : Sp := fun vs H Q _ => ∃ (a : Addr) (ns : List Int), vs = [.ref a] ∧ SqL K H a (ns.map V.int) ∧ ns.length ≤ 63 ∧ ∀ H', Q (.bl true) H'
section
variable {P : Program} {w : World} {K : PySem.W.Frag} {mg : Str → Option Value} {base : Heap} {f C : Addr} {fd : FuncData}
theorem sc__law_right : FnScope ["pot", "tall", "wide", "places", "due", "plain", "value", "shown", "seen", "told"] ["pot"] (defScope (top 51)) := ⟨rfl, rfl, rfl, by decide +kernel, rfl, by decide +kernel, by decide +kernel⟩
theorem ok_law_right (F : Fun K "_law_right" "_law_right" (top 51) f fd) (R : RCl K mg C) (M : RCm K C) (T : Tx mg) (MR : MkR P w K mg base C) (RB : TxB P w K mg base C "__repr__" sR) (C__law_board : ClO P w K mg base "_law_board" 2 ["pot", "most"] spBoard) (C__law_most : ClO P w K mg base "_law_most" 5 ["tall", "places", "row", "used"] (spMost 5)) (C_rooks : ClO P w K mg base "rooks" 9 ["tall", "wide", "places"] spRooks) (C_cover : ClO P w K mg base "cover" 9 ["tall", "wide", "places"] spCover) (C__law_bent_rooks : ClO P w K mg base "_law_bent_rooks" 4 ["pot", "places", "told", "tall", "wide"] (spBR C)) (C__law_bent_covers : ClO P w K mg base "_law_bent_covers" 4 ["pot", "told", "tall", "wide"] (spBC C)) (C__law_rooks_seen : ClO P w K mg base "_law_rooks_seen" 3 ["places", "due", "value"] (spRS C)) (C__law_cover_seen : ClO P w K mg base "_law_cover_seen" 3 ["tall", "wide", "places", "due", "value"] (spCS C)) (C_is_rooks : ClO P w K mg base "is_rooks" 9 ["tall", "wide", "places", "value"] (spRkT C)) (C_is_cover : ClO P w K mg base "is_cover" 9 ["tall", "wide", "places", "value"] (spCvT C)) (CK_is_rooks : ClQ P w K mg base "is_rooks" 9 ["tall", "wide", "places", "value"] ["value", "places", "wide", "tall"] (fun us ws => us ++ ws.reverse) (fun us ws => us ++ ws.reverse) (spRkT C)) (CK_is_cover : ClQ P w K mg base "is_cover" 9 ["tall", "wide", "places", "value"] ["value", "places", "wide", "tall"] (fun us ws => us ++ ws.reverse) (fun us ws => us ++ ws.reverse) (spCvT C)) : FnG P w K mg base 30 f fd ["pot"] spYes := by
  have sc := sc__law_right
  refine okG F sc (fun vs H Q E h => ?_) (fun cdv A outer s H vs Q gd0 hr h => ?_)
  · obtain ⟨_, rfl, _⟩ := h; rfl
  have gd := deeper_guards (env := envOfC "_law_right" (defScope (top 51)) s.heap.objs.size f cdv) gd0
  obtain ⟨p, rfl, hp, q⟩ := h
  have sl : sizeLine = 16777216 := sizeLine_eq
  refine ⟨_, (pss_cut (ps_asg (pe_clo C__law_board (hr.mono (by first | decide | omega)) (pa_cons (pv 0) (pa_cons pe_int pa_nil))) (pg_tup rfl (pgs_cons (pg_name (i := 1) sc.nd rfl (Or.inl rfl)) (pgs_cons (pg_name (i := 2) sc.nd rfl (Or.inl rfl)) (pgs_cons (pg_name (i := 3) sc.nd rfl (Or.inl rfl)) pgs_nil))))) (pss_cut (ps_par (i := 4) (j := 5) rfl sc.nd rfl rfl (by decide) rfl rfl (pa_cons (pe_clo C__law_most (hr.mono (by first | decide | omega)) (pa_cons (pv 1) (pa_cons (pv 3) (pa_cons pe_int (pa_cons (pe_lst pa_nil) pa_nil))))) (pa_cons (pe_lst (pa_cons pe_non (pa_cons pe_int (pa_cons pe_bl (pa_cons pe_str (pa_cons pe_str (pa_cons pe_dnewK (pa_cons (pe_lst pa_nil) (pa_cons (pe_tup pa_nil) (pa_cons (pe_rat1 MR (hr.mono (by first | decide | omega)) (pa_cons pe_int pa_nil)) (pa_cons (pe_lst (pa_cons pe_non pa_nil)) (pa_cons (pe_tup (pa_cons (pe_lst (pa_cons pe_non pa_nil)) (pa_cons (pe_lst pa_nil) pa_nil))) (pa_cons (pe_lst (pa_cons (pe_lst pa_nil) pa_nil)) (pa_cons (pe_tup (pa_cons pe_int (pa_cons pe_int pa_nil))) (pa_cons (pe_lst (pa_cons pe_int pa_nil)) (pa_cons (pe_tup (pa_cons pe_str (pa_cons pe_str pa_nil))) pa_nil)))))))))))))))) pa_nil)) rfl) (pss_cut (ps_for PassesOwn.never rfl (pi_list (pe_op op_cat (pv 5) (pe_clo C__law_bent_rooks (hr.mono (by first | decide | omega)) (pa_cons (pv 0) (pa_cons (pv 3) (pa_cons (pe_clo C_rooks (hr.mono (by first | decide | omega)) (pa_cons (pv 1) (pa_cons (pv 2) (pa_cons (pv 3) pa_nil)))) (pa_cons (pv 1) (pa_cons (pv 2) pa_nil)))))))) (pg_name (i := 6) sc.nd rfl (Or.inl rfl)) (pss_cons (ps_par (i := 7) (j := 8) rfl sc.nd rfl rfl (by decide) rfl rfl (pa_cons (pe_callB (call_reprT RB gd (hr.mono (by first | decide | omega))) rfl T.b_repr bt_repr (pa_cons (pv 6) pa_nil)) (pa_cons (pe_clo C__law_rooks_seen (hr.mono (by first | decide | omega)) (pa_cons (pv 3) (pa_cons (pv 4) (pa_cons (pv 6) pa_nil)))) pa_nil)) rfl) (pss_cons (ps_set (i := 9) sc.nd rfl (Or.inl rfl) (pe_lst (pa_cons (pe_clo C_is_rooks (hr.mono (by first | decide | omega)) (pa_cons (pv 1) (pa_cons (pv 2) (pa_cons (pv 3) (pa_cons (pv 6) pa_nil))))) (pa_cons (pe_clq0 CK_is_rooks (hr.mono (by first | decide | omega)) (pk_cons (pv 6) (pk_cons (pv 3) (pk_cons (pv 2) (pk_cons (pv 1) pk_nil))))) pa_nil)))) (pss_one (ps_if (PW.pt (pw_or (pt_cmpR op_ne (pe_callB (call_reprT RB gd (hr.mono (by first | decide | omega))) rfl T.b_repr bt_repr (pa_cons (pv 9) pa_nil)) (pe_callB (call_reprT RB gd (hr.mono (by first | decide | omega))) rfl T.b_repr bt_repr (pa_cons (pe_lst (pa_cons (pv 8) (pa_cons (pv 8) pa_nil))) pa_nil)) (nomark _)) (pw_or1 (pt_cmpR op_ne (pe_callB (call_reprT RB gd (hr.mono (by first | decide | omega))) rfl T.b_repr bt_repr (pa_cons (pv 6) pa_nil)) (pv 7) (nomark _))))) (pss_one (ps_ret pe_bl)) pss_nil))))) (pss_cut (ps_for PassesOwn.never rfl (pi_list (pe_op op_cat (pv 5) (pe_clo C__law_bent_covers (hr.mono (by first | decide | omega)) (pa_cons (pv 0) (pa_cons (pe_clo C_cover (hr.mono (by first | decide | omega)) (pa_cons (pv 1) (pa_cons (pv 2) (pa_cons (pv 3) pa_nil)))) (pa_cons (pv 1) (pa_cons (pv 2) pa_nil))))))) (pg_name (i := 6) sc.nd rfl (Or.inl rfl)) (pss_cons (ps_par (i := 7) (j := 8) rfl sc.nd rfl rfl (by decide) rfl rfl (pa_cons (pe_callB (call_reprT RB gd (hr.mono (by first | decide | omega))) rfl T.b_repr bt_repr (pa_cons (pv 6) pa_nil)) (pa_cons (pe_clo C__law_cover_seen (hr.mono (by first | decide | omega)) (pa_cons (pv 1) (pa_cons (pv 2) (pa_cons (pv 3) (pa_cons (pv 4) (pa_cons (pv 6) pa_nil)))))) pa_nil)) rfl) (pss_cons (ps_set (i := 9) sc.nd rfl (Or.inl rfl) (pe_lst (pa_cons (pe_clo C_is_cover (hr.mono (by first | decide | omega)) (pa_cons (pv 1) (pa_cons (pv 2) (pa_cons (pv 3) (pa_cons (pv 6) pa_nil))))) (pa_cons (pe_clq0 CK_is_cover (hr.mono (by first | decide | omega)) (pk_cons (pv 6) (pk_cons (pv 3) (pk_cons (pv 2) (pk_cons (pv 1) pk_nil))))) pa_nil)))) (pss_one (ps_if (PW.pt (pw_or (pt_cmpR op_ne (pe_callB (call_reprT RB gd (hr.mono (by first | decide | omega))) rfl T.b_repr bt_repr (pa_cons (pv 9) pa_nil)) (pe_callB (call_reprT RB gd (hr.mono (by first | decide | omega))) rfl T.b_repr bt_repr (pa_cons (pe_lst (pa_cons (pv 8) (pa_cons (pv 8) pa_nil))) pa_nil)) (nomark _)) (pw_or1 (pt_cmpR op_ne (pe_callB (call_reprT RB gd (hr.mono (by first | decide | omega))) rfl T.b_repr bt_repr (pa_cons (pv 6) pa_nil)) (pv 7) (nomark _))))) (pss_one (ps_ret pe_bl)) pss_nil))))) (pss_one (ps_ret pe_bl)))))), ?_⟩
  refine ⟨fun σ' H' => ∃ (b : Addr) (tall wide : Nat) (rs : List Addr) (pl : Pl), σ' = [some (.ref p), some (.int tall), some (.int wide), some (.ref b), none, none, none, none, none, none] ∧ ExP p H H' ∧ H' b = some (.lst (rs.map V.ref)) ∧ b ≠ p ∧ Pts H' rs pl ∧ Bd tall wide pl, ?_, ?_⟩
  · refine ⟨_, rfl, p, rfl, hp, fun t b tall wide rs pl H1 e1 hp1 ht0 hb0 ht hb hpts hbd => ?_⟩
    refine ⟨t, _, rfl, st_of ht, rfl, _, _, rfl, _, _, rfl, _, _, rfl, rfl, ?_⟩
    exact ⟨b, tall, wide, rs, pl, rfl, ExP.mk e1 hp1, hb, pot_nn hp hb0, hpts, hbd⟩
  rintro σ' H1 ⟨b, tall, wide, rs, pl, rfl, x1, hb, nbp, hpts, bd⟩
  have hp1 := x1.2 hp
  have off := pot_off hp1
  have t4 := bd.t4
  have w4 := bd.w4
  refine ⟨fun σ' H' => ∃ D vs, σ' = [some (.ref p), some (.int tall), some (.int wide), some (.ref b), some (.int (((seatsOf pl tall).length : Nat) : Int)), some (.ref D), none, none, none, none] ∧ Ex H1 H' ∧ D ≠ p ∧ H' D = some (.lst vs) ∧ vs.length = 15 ∧ ∀ v ∈ vs, Fine 130 4 C (msk [p] H') v, ?_, ?_⟩
  · refine ⟨_, rfl, _, rfl, Nat.zero_le _, fun u hu => ?_⟩
    have eu := Ex.new (o := .lst []) hu
    refine ⟨b, u, tall, 0, rs, pl, [], rfl, eu _ _ hb, hpts.up eu, bd.p16, upd_same, Nat.zero_le _, Nat.zero_le _, t4, by omega, fun H2 e2 => ?_⟩
    rw [Nat.sub_zero, due_is bd]
    have e12 := eu.trans e2
    have off2 := off.up e12
    have M4 : ∀ {N d : Nat} {te : TE} {σ : L2.St} {H : Hp}, EA N d C [p] te σ H → N ≤ 130 → d ≤ 4 → EA 130 4 C [p] te σ H := fun h hn hd => h.mono hn hd
    have cst : ∀ {v : V} {σ : L2.St}, (∀ H', Fine 1 0 C (msk [p] H') v) → EA 1 0 C [p] (tC v) σ H2 := fun h H' e Q k => k _ _ (Ex.refl _) (h _)
    have lst1 : ∀ {v : V} {σ : L2.St}, (∀ H', Fine 1 0 C (msk [p] H') v) → EA 2 1 C [p] (tLst (tCons (tC v) tNil)) σ H2 := fun h => EA.lst (.cons (cst h) .nil) off2 (by decide) (by decide)
    have emp : ∀ {σ : L2.St}, EA 1 1 C [p] (tLst tNil) σ H2 := EA.lst (N := 1) (d := 0) EsA.nil off2 (by decide) (by decide)
    refine lst_go (N := 130) (d := 4) (C := C) (S := [p]) (n := 15) (((EsA.cons (M4 (cst fun _ => Fine.non) (by decide) (by decide))
      (EsA.cons (M4 (cst fun _ => int_fine (by decide)) (by decide) (by decide))
      (EsA.cons (M4 (cst fun _ => Fine.bl) (by decide) (by decide))
      (EsA.cons (M4 (cst fun _ => Fine.str (by decide +kernel)) (by decide) (by decide))
      (EsA.cons (M4 (cst fun _ => Fine.str (by decide +kernel)) (by decide) (by decide))
      (EsA.cons (fun H' e Q k => by exact fun d hd => k _ _ (Ex.new hd) ((Fine.dk (ks := []) (by rw [msk_of ((off2.up e).fresh hd)]; exact upd_same) (by decide) (fun c hc => nomatch hc)).mono (by decide) (by decide)))
      (EsA.cons (M4 emp (by decide) (by decide))
      (EsA.cons (M4 (EA.tup (N := 1) (d := 0) (N' := 1) EsA.nil off2 (by decide) (by decide)) (by decide) (by decide))
      (EsA.cons (fun H' e Q k => by exact fun x3 d3 hx3 hd3 ne3 => made_z hx3 hd3 ne3 (by decide) (Bt.mono (n := 3) (by unfold Bt; decide) (by decide)) (Bt.mono (n := 3) (by unfold Bt; decide) (by decide)) fun H7 e7 r7 => ⟨rfl, k _ _ e7 ((NumT.fine (.inr ⟨_, _, _, rfl, r7, (low_bt (n := 3) (m := 3) (a := 1) (b := 1) (by unfold Bt; decide) (by unfold Bt; decide) (by decide)).1.mono (by decide), (low_bt (n := 3) (m := 3) (a := 1) (b := 1) (by unfold Bt; decide) (by unfold Bt; decide) (by decide)).2.mono (by decide), low_pos (by decide)⟩) ((off2.up e).up e7)).mono (by decide) (by decide))⟩)
      (EsA.cons (M4 (lst1 fun _ => Fine.non) (by decide) (by decide))
      (EsA.cons (M4 (EA.tup (N := 2) (d := 1) (N' := 5) (.cons (lst1 fun _ => Fine.non) (.cons (emp.mono (by decide) (by decide)) .nil)) off2 (by decide) (by decide)) (by decide) (by decide))
      (EsA.cons (M4 (EA.lst (N := 1) (d := 1) (N' := 2) (.cons emp .nil) off2 (by decide) (by decide)) (by decide) (by decide))
      (EsA.cons (M4 (EA.tup (N := 1) (d := 0) (N' := 3) (.cons (cst fun _ => int_fine (by decide)) (.cons (cst fun _ => int_fine (by decide)) .nil)) off2 (by decide) (by decide)) (by decide) (by decide))
      (EsA.cons (M4 (lst1 fun _ => int_fine (by decide)) (by decide) (by decide))
      (EsA.cons (M4 (EA.tup (N := 1) (d := 0) (N' := 3) (.cons (cst fun _ => Fine.str (by decide +kernel)) (.cons (cst fun _ => Fine.str (by decide +kernel)) .nil)) off2 (by decide) (by decide)) (by decide) (by decide))
      EsA.nil)))))))))))))))) _ (Ex.refl _)) ?_
    intro vs H3 e3 l3 f3
    refine ⟨by rw [sl]; omega, fun D hD => ?_⟩
    have e13 := e12.trans e3
    refine ⟨_, _, rfl, D, vs, rfl, e13.trans (Ex.new hD), pot_nn (hp1.up e13) hD, upd_same, l3, fun v hv => (f3 v hv).up (msk_up (Ex.new hD))⟩
  rintro σ' H2 ⟨D, vs, rfl, e2, nDp, hD, v15, fv⟩
  have pS := List.mem_singleton_self p
  have hp2 := hp1.up e2
  replace hb := e2 _ _ hb
  replace hpts := hpts.up e2
  replace x1 := x1.trans (ExP.of e2)
  clear e2 hp1 off
  obtain ⟨n, hn⟩ : ∃ n, n = (seatsOf pl tall).length := ⟨_, rfl⟩
  have due := due_is bd
  have n1 := one_rook bd
  have sm99 : ∀ z ∈ pl, z.1 < 99 ∧ z.2 < 99 := fun z hz => by have := bd.inb z hz; omega
  have sm5 : ∀ z ∈ pl, z.1 < 5 ∧ z.2 < 5 := fun z hz => by have := bd.inb z hz; omega
  have tb : Tld [p] H2 b rs pl := ⟨hb, fun z => nbp (List.mem_singleton.mp z), hpts, sm5, bd.p16⟩

  refine ⟨fun σ' H' => ∃ o1 o2 o3 o4, σ' = [some (.ref p), some (.int tall), some (.int wide), some (.ref b), some (.int (((seatsOf pl tall).length : Nat) : Int)), some (.ref D), o1, o2, o3, o4] ∧ ExP p H2 H', ?_, ?_⟩
  · refine ⟨_, rfl, _, rfl, _, rfl, _, rfl, _, rfl, _, rfl, b, tall, wide, rs, pl, rfl, .inl hb, hpts, bd, fun k rk M' H3 hk0 e3 hk hM Hk => ?_⟩
    have kf := Hk.f bd.sz
    have l4 := kf.l4
    have hp3 := hp2.up e3
    have tk : Tld [p] H3 k rk M' := ⟨hk, fun z => pot_nn hp2 hk0 (List.mem_singleton.mp z), hM, fun z hz => sm5 z (kf.sub z hz), by omega⟩
    refine ⟨_, rfl, _, rfl, p, b, k, tall, wide, rs, rk, pl, M', rfl, hp3, tb.up e3, tk, bd.p1, by rw [kf.len]; exact n1, fst_nodup kf.n1, t4, w4, fun out ws H4 x4 hout hout2 w60 fw => ?_⟩
    have x24 := (ExP.of e3).trans x4
    have hD4 := x24.1 _ _ nDp hD
    refine ⟨D, out, vs, ws, rfl, rfl, hD4, hout2, (by rw [sl]; omega), fun D2 hD2 => ?_⟩
    have eD := Ex.new (o := .lst (vs ++ ws)) hD2
    have fall : ∀ v ∈ vs ++ ws, Fine 130 4 C (upd H4 D2 (.lst (vs ++ ws))) v := memA (fun v hv => (((fv v hv).up (msk_upB pS x24.1)).up (msk_up eD)).up msk_ex) (fun v hv => (((fw v hv).mono (by decide) (by decide)).up (msk_up eD)).up msk_ex)
    have hb4 := eD _ _ (x24.1 _ _ nbp hb)
    have hpts4 := (hpts.pot hp2 x24.1).up eD
    have hD2' : upd H4 D2 (.lst (vs ++ ws)) D2 = some (.lst (vs ++ ws)) := upd_same
    have x5 := x24.trans (ExP.of eD)
    generalize upd H4 D2 (.lst (vs ++ ws)) = H4' at fall hb4 hpts4 hD2' x5 ⊢
    refine ⟨D2, rfl, ⟨_, sq_of hD2'⟩, for_list (K := K) (a := D2) (xs := vs ++ ws) (fun i σ H' => ∃ o1 o2 o3 o4, σ = [some (.ref p), some (.int tall), some (.int wide), some (.ref b), some (.int (((seatsOf pl tall).length : Nat) : Int)), some (.ref D), o1, o2, o3, o4] ∧ Ex H4' H') ⟨_, _, _, _, rfl, Ex.refl _⟩ (fun i σ H' _ ⟨_, _, _, _, _, e⟩ => sq_of (e _ _ hD2')) ?_ ?_⟩
    · rintro i v σ H5 hv ⟨o1, o2, o3, o4, rfl, e5⟩
      obtain ⟨t, tv, tg, tc, td⟩ := ((fall v (List.mem_of_getElem? hv)).up e5).ex
      have hb5 := e5 _ _ hb4
      have hp5 := hpts4.up e5
      refine ⟨_, rfl, shown_rule tv tg (by omega) (by omega) fun H6 e6 => ?_⟩
      refine ⟨_, rfl, _, rfl, _, rfl, v, t, b, rs, pl, (seatsOf pl tall).length, rfl, TrV.up e6 _ _ tv, by omega, e6 _ _ hb5, hp5.up e6, sm99, fun H7 e7 => ?_⟩
      have e67 := e6.trans e7
      refine ⟨_, _, rfl, ?_⟩
      obtain ⟨B, hB⟩ : ∃ B, B = rooksB pl (seatsOf pl tall).length t := ⟨_, rfl⟩
      rw [← hB]
      refine ⟨_, rfl, _, rfl, _, rfl, _, rfl, b, v, t, tall, wide, rs, pl, rfl, .inl (e67 _ _ hb5), hp5.up e67, bd, TrV.up e67 _ _ tv, by omega, fun H8 e8 => ?_⟩
      rw [← hB]
      have e68 := e67.trans e8
      refine ⟨_, rfl, _, rfl, _, rfl, _, rfl, b, v, t, tall, wide, rs, pl, rfl, .inl (e68 _ _ hb5), hp5.up e68, bd, TrV.up e68 _ _ tv, by omega, fun H9 e9 => ⟨(by show 2 ≤ sizeLine; decide), fun l1 hl1 => ?_⟩⟩
      rw [← hB]
      have x1' := Ex.new (o := .lst [.bl B, .bl B]) hl1
      have tr : ∀ {H' : Hp} {l : Addr}, H' l = some (.lst [.bl B, .bl B]) → TrV C H' (.ref l) (.lst [.bl B, .bl B]) := fun h => .lst h (.cons (.bl B) (.cons (.bl B) .nil))
      have gtr : B71.Tr.Good (.lst [.bl B, .bl B]) := by simp [Tr.Good, GoodAll]
      refine ⟨_, rfl, shown_rule (tr upd_same) gtr (by simp [Tr.cnt, cntAll]) (by simp [Tr.dep, depAll]) fun H10 e10 => ?_⟩
      refine ⟨_, rfl, _, rfl, (by show 2 ≤ sizeLine; decide), fun l2 hl2 => ?_⟩
      have x2' := Ex.new (o := .lst [.bl B, .bl B]) hl2
      refine shown_rule (tr upd_same) gtr (by simp [Tr.cnt, cntAll]) (by simp [Tr.dep, depAll]) fun H11 e11 => ⟨rfl, ?_⟩
      rw [decide_eq_true rfl]
      have e511 := e68.trans (e9.trans (x1'.trans (e10.trans (x2'.trans e11))))
      refine ⟨_, rfl, itf ?_⟩
      refine ⟨_, rfl, shown_rule (TrV.up e511 _ _ tv) tg (by omega) (by omega) fun H12 e12 => ⟨_, rfl, rfl, ?_⟩⟩
      rw [decide_eq_true rfl]
      exact ⟨_, rfl, itf ⟨_, _, _, _, rfl, e5.trans (e511.trans e12)⟩⟩
    · rintro σ H5 ⟨_, _, _, _, rfl, e5⟩
      exact ⟨_, _, _, _, rfl, x5.trans (ExP.of e5)⟩

  rintro σ' H3 ⟨o1, o2, o3, o4, rfl, x3⟩
  have hp3 := x3.2 hp2
  replace hb := x3.1 _ _ nbp hb
  replace hpts := hpts.pot hp2 x3.1
  replace hD := x3.1 _ _ nDp hD
  replace fv := fun v hv => (fv v hv).up (msk_upB pS x3.1)
  replace x1 := x1.trans x3
  clear x3 tb hp2
  refine ⟨fun σ' H' => ExP p H H', ?_, ?_⟩
  · refine ⟨_, rfl, _, rfl, _, rfl, _, rfl, _, rfl, b, tall, wide, rs, pl, rfl, .inl hb, hpts, bd, fun k x y Ro Co H4 hk0 hx0 hy0 nxy e4 hk hx hy cv => ?_⟩
    have hp4 := hp3.up e4
    have rl : ∀ r ∈ Ro, r < tall := fun r hr => by
      rw [cv.r] at hr
      exact List.mem_range.mp (List.mem_filter.mp hr).1
    have rlen : Ro.length ≤ 4 := by
      rw [cv.r]
      exact Nat.le_trans (List.length_filter_le ..) (by rw [List.length_range]; exact t4)
    have nx : Nms [p] H4 x Ro := ⟨hx, fun z => pot_nn hp3 hx0 (List.mem_singleton.mp z), fun r hr => by have := rl r hr; omega, rlen⟩
    have ny : Nms [p] H4 y Co := ⟨hy, fun z => pot_nn hp3 hy0 (List.mem_singleton.mp z), fun c hc => by have := cv.lt c hc; omega, nd_lt cv.nd cv.lt⟩
    refine ⟨_, rfl, _, rfl, p, k, x, y, tall, wide, Ro, Co, rfl, hp4, hk, nx, ny, cv.nd, bd.t1, t4, bd.w1, w4, fun out ws H5 x5 hout hout2 w60 fw => ?_⟩
    have x35 := (ExP.of e4).trans x5
    have hD5 := x35.1 _ _ nDp hD
    refine ⟨D, out, vs, ws, rfl, rfl, hD5, hout2, (by rw [sl]; omega), fun D2 hD2 => ?_⟩
    have eD := Ex.new (o := .lst (vs ++ ws)) hD2
    have fall : ∀ v ∈ vs ++ ws, Fine 130 4 C (upd H5 D2 (.lst (vs ++ ws))) v := memA (fun v hv => (((fv v hv).up (msk_upB pS x35.1)).up (msk_up eD)).up msk_ex) (fun v hv => ((fw v hv).up (msk_up eD)).up msk_ex)
    have hb4 := eD _ _ (x35.1 _ _ nbp hb)
    have hpts4 := (hpts.pot hp3 x35.1).up eD
    have hD2' : upd H5 D2 (.lst (vs ++ ws)) D2 = some (.lst (vs ++ ws)) := upd_same
    have x6 := x35.trans (ExP.of eD)
    generalize upd H5 D2 (.lst (vs ++ ws)) = H4' at fall hb4 hpts4 hD2' x6 ⊢
    refine ⟨D2, rfl, ⟨_, sq_of hD2'⟩, for_list (K := K) (a := D2) (xs := vs ++ ws) (fun i σ H' => ∃ o1 o2 o3 o4, σ = [some (.ref p), some (.int tall), some (.int wide), some (.ref b), some (.int (((seatsOf pl tall).length : Nat) : Int)), some (.ref D), o1, o2, o3, o4] ∧ Ex H4' H') ⟨_, _, _, _, rfl, Ex.refl _⟩ (fun i σ H' _ ⟨_, _, _, _, _, e⟩ => sq_of (e _ _ hD2')) ?_ ?_⟩
    · rintro i v σ H5 hv ⟨o1, o2, o3, o4, rfl, e5⟩
      obtain ⟨t, tv, tg, tc, td⟩ := ((fall v (List.mem_of_getElem? hv)).up e5).ex
      have hb5 := e5 _ _ hb4
      have hp5 := hpts4.up e5
      refine ⟨_, rfl, shown_rule tv tg (by omega) (by omega) fun H6 e6 => ?_⟩
      refine ⟨_, rfl, _, rfl, _, rfl, _, rfl, _, rfl, v, t, b, rs, pl, tall, wide, (seatsOf pl tall).length, rfl, TrV.up e6 _ _ tv, by omega, e6 _ _ hb5, hp5.up e6, bd.p16, by omega, by omega, fun H7 e7 => ?_⟩
      have e67 := e6.trans e7
      refine ⟨_, _, rfl, ?_⟩
      obtain ⟨B, hB⟩ : ∃ B, B = coverB pl tall wide (seatsOf pl tall).length t := ⟨_, rfl⟩
      rw [← hB]
      refine ⟨_, rfl, _, rfl, _, rfl, _, rfl, b, v, t, tall, wide, rs, pl, rfl, .inl (e67 _ _ hb5), hp5.up e67, bd, TrV.up e67 _ _ tv, by omega, fun H8 e8 => ?_⟩
      rw [← hB]
      have e68 := e67.trans e8
      refine ⟨_, rfl, _, rfl, _, rfl, _, rfl, b, v, t, tall, wide, rs, pl, rfl, .inl (e68 _ _ hb5), hp5.up e68, bd, TrV.up e68 _ _ tv, by omega, fun H9 e9 => ⟨(by show 2 ≤ sizeLine; decide), fun l1 hl1 => ?_⟩⟩
      rw [← hB]
      have x1' := Ex.new (o := .lst [.bl B, .bl B]) hl1
      have tr : ∀ {H' : Hp} {l : Addr}, H' l = some (.lst [.bl B, .bl B]) → TrV C H' (.ref l) (.lst [.bl B, .bl B]) := fun h => .lst h (.cons (.bl B) (.cons (.bl B) .nil))
      have gtr : B71.Tr.Good (.lst [.bl B, .bl B]) := by simp [Tr.Good, GoodAll]
      refine ⟨_, rfl, shown_rule (tr upd_same) gtr (by simp [Tr.cnt, cntAll]) (by simp [Tr.dep, depAll]) fun H10 e10 => ?_⟩
      refine ⟨_, rfl, _, rfl, (by show 2 ≤ sizeLine; decide), fun l2 hl2 => ?_⟩
      have x2' := Ex.new (o := .lst [.bl B, .bl B]) hl2
      refine shown_rule (tr upd_same) gtr (by simp [Tr.cnt, cntAll]) (by simp [Tr.dep, depAll]) fun H11 e11 => ⟨rfl, ?_⟩
      rw [decide_eq_true rfl]
      have e511 := e68.trans (e9.trans (x1'.trans (e10.trans (x2'.trans e11))))
      refine ⟨_, rfl, itf ?_⟩
      refine ⟨_, rfl, shown_rule (TrV.up e511 _ _ tv) tg (by omega) (by omega) fun H12 e12 => ⟨_, rfl, rfl, ?_⟩⟩
      rw [decide_eq_true rfl]
      exact ⟨_, rfl, itf ⟨_, _, _, _, rfl, e5.trans (e511.trans e12)⟩⟩
    · rintro σ H6 ⟨_, _, _, _, rfl, e6⟩
      exact (x1.trans x6).trans (ExP.of e6)
  rintro σ' H4 x4
  exact q _ x4
theorem sc_law : FnScope ["script"] ["script"] (defScope (top 52)) := ⟨rfl, rfl, rfl, by decide +kernel, rfl, by decide +kernel, by decide +kernel⟩
theorem ok_law (F : Fun K "law" "law" (top 52) f fd) (T : Tx mg) (C__law_pot : ClO P w K mg base "_law_pot" 1 ["script", "k"] (spPotk K)) (C__law_right : Cl P w K mg base "_law_right" 30 ["pot"] spYes) : FnG P w K mg base 31 f fd ["script"] (spLaw K) := by
  have sc := sc_law
  refine okG F sc (fun vs H Q E h => ?_) (fun cdv A outer s H vs Q gd0 hr h => ?_)
  · obtain ⟨a, ns, rfl, _⟩ := h; rfl
  have gd := deeper_guards (env := envOfC "law" (defScope (top 52)) s.heap.objs.size f cdv) gd0
  obtain ⟨a, ns, rfl, hS, h63, q⟩ := h
  refine ⟨_, (pss_one (ps_ret (pe_cl C__law_right gd (hr.mono (by first | decide | omega)) (pa_cons (pe_clo C__law_pot (hr.mono (by first | decide | omega)) (pa_cons (pv 0) (pa_cons pe_int pa_nil))) pa_nil)))), ?_⟩
  exact ⟨_, rfl, a, ns, 0, rfl, hS, Nat.zero_le _, fun p H1 h0 e1 hp => ⟨p, rfl, hp, fun H2 x2 => q H2⟩⟩
end
end R71

namespace B71
open PySem PySem.Spec PyProof.Rows L2
/-! ### from a guarded promise of the law's def to the row's walk -/
/-- a heap of which at most the script at a is known, as a frozen list that is none of the written part's -/
def Sole (K : PySem.W.Frag) (a : Addr) (H : Hp) : Prop := ∀ b, H b = none ∨ (b = a ∧ K.lookup a = none ∧ ∃ ob zs, H b = some (.frz ob (.lst zs)))
section
variable {P : Program} {w : World} {K : PySem.W.Frag} {mg mb : Str → Option Value} {k : Nat} {fa a : Addr} {fd : FuncData} {x : Str} {sp : Sp} {st : Shared} {us : List Value}
theorem law_from {H : Hp} (kin : K.In st.heap) (ng : st.heap.Ns mainGlobals mg) (nb : st.heap.Ns builtinsNs mb) (bt : ∀ y : Str, y ≠ "__name__" → mb y = bootBuiltins y) (nl : st.heap.NoLimit) (ge : st.gens = #[])
    (hs : st.heap.get? a = some { cls := .type "list", data := .seq us.toArray }) (room : Room k callerA) (FG : ∀ bs : Heap, K.In bs → bs.Ns mainGlobals mg → FnG P w K mg bs k fa fd [x] sp)
    (bd : ∀ (s : Shared) (u : Value), BindsTo s fd ⟨[u], []⟩ [(x, u)]) (sole : Sole K a H) (ok : HOk P w H st.heap) (ask : sp [.ref a] H (fun r _ => r = .bl true) E0) :
    codeAny (model P w) callerA (.call (.ref fa) ⟨[.ref a], []⟩) (fun r t => r = .ok (.ret (.bool true)) ∧ OldK st.heap t.heap ∧ t.os = st.os ∧ AllBare t.gens) st := by
  -- what is not the script is hidden from nobody
  have away : ∀ {b : Addr}, H b ≠ none → b = a ∧ K.lookup a = none := fun {b} h => (sole b).elim (fun z => absurd z h) fun z => ⟨z.1, z.2.1⟩
  have dicts : ∀ {b : Addr} {m : Str → Option Value}, st.heap.Ns b m → (hidT st.heap H).Ns b m := by
    rintro b m ⟨ob, es, ep, g1, g2, g3⟩
    refine ⟨ob, es, ep, hidT_get g1 ?_, g2, g3⟩
    refine Classical.byContradiction fun h => ?_
    obtain ⟨rfl, _⟩ := away h
    cases hs.symm.trans g1
    cases g2
  have kin' : K.In (hidT st.heap H) := fun b ob g => hidT_get (kin b ob g) (Classical.byContradiction fun h => by
    obtain ⟨rfl, h2⟩ := away h
    cases h2.symm.trans g)
  obtain ⟨mc, c1, c2⟩ := nl
  have env : Env0 P w K mg (hidT st.heap H) callerA [] st H :=
    { frames := rfl, mod := { kin := kin', glob := dicts ng, blt := ⟨mb, dicts nb, bt⟩, nolimit := ⟨mc, dicts c1, c2⟩ }, bs := fun b ob g => of_hidT g, bsz := Nat.le_of_eq (hidT_size _ _), funs := trivial, frf := fun b hb => (List.not_mem_nil hb).elim, hok := ok, bare := .of_eq ge }
  have run := (FG _ kin' (dicts ng)).go callerA [] st H ⟨[.ref a], []⟩ [.ref a] [.ref a] (fun r _ => r = .bl true) rfl room env (bd st (.ref a)) (.cons rfl .nil) ask
  refine codeAny_mono run fun r t h => ?_
  match r, h with
  | .error e, h => exact False.elim h
  | .ok .next, h => exact False.elim h
  | .ok .brk, h => exact False.elim h
  | .ok .cont, h => exact False.elim h
  | .ok (.ret u), h =>
    obtain ⟨v, G, o1, o2, un, ok', rv, hv⟩ := h
    subst hv
    cases (show u = Value.bool true from rv)
    refine ⟨rfl, OldK.of_keep fun b ob g => ?_, o1, o2⟩
    rcases sole b with z | ⟨_, _, o', zs, z⟩
    · exact un.keep b ob g z (List.not_mem_nil) (List.not_mem_nil)
    · have k1 := (ok b _ z).1
      have k2 := (ok' b _ (un.frzs b o' _ z)).1
      rw [g] at k1
      rw [k2, ← k1]
end
theorem walkG {l : PySem.W.OpenLaw} {n k : Nat} {q : Program} {loose : List Str} {XP : (Str → Option Value) → Heap → Prop} {YP : World → Heap → Prop} {d : DefRec} {K : Params → PySem.W.Frag} {sp : PySem.W.Frag → Sp} {x : Str}
    (most : l.most = some n) (small : n ≤ sizeLine) (plain : d.params.defaults = []) (room : Room k callerA) (kin : ∀ (w : World) (h : Heap), YP w h → (K w.params).In h)
    (defs : ∀ (w : World) (mg : Str → Option Value) (fa : Addr) (h : Heap), (K w.params).In h → h.Ns mainGlobals mg → mg d.name = some (.ref fa) →
      ∃ fd : FuncData, (∀ (s : Shared) (u : Value), BindsTo s fd ⟨[u], []⟩ [(x, u)]) ∧ ∀ bs : Heap, (K w.params).In bs → bs.Ns mainGlobals mg → FnG l.prog w (K w.params) mg bs k fa fd [x] (sp (K w.params)))
    (ask : ∀ (F : PySem.W.Frag) (H : Hp) (a : Addr) (ns : List Int), ns.length ≤ n → SqL F H a (ns.map V.int) → sp F [.ref a] H (fun r _ => r = .bl true) E0) : PySem.W.WalkO q loose XP YP l.row.toRowW d [] (fun f vs => PySem.call f vs) := by
  refine Att.attach_call most plain fun w s0 st mg mb fa o pm cd doc a us ns G Y ho hd hcd hmg hobj hni len gens => ?_
  have KX := kin w _ Y
  obtain ⟨fd, bd, FG⟩ := defs w mg fa _ KX G.T.g hmg
  have rv := vals_ints hni
  have lu := hni.length
  have len' : ns.length ≤ sizeLine := Nat.le_trans len small
  cases hk : (K w.params).lookup a with
  | some ob =>
    -- the script stands in the written part
    have g := KX a ob hk
    cases hobj.symm.trans g
    have sq : SqL (K w.params) (fun _ => none) a (ns.map V.int) := .inr ⟨_, us.toArray, _, hk, rfl, rfl, rfl, by rw [List.size_toArray, lu]; exact len', by simpa using rv⟩
    exact law_from (H := fun _ => none) KX G.T.g G.T.b G.T.builtins G.T.nolimit gens hobj room FG bd (fun _ => .inl rfl) (fun b u z => by cases (show (none : Option HO) = some u from z)) (ask _ _ a ns len sq)
  | none =>
    have at_a : ∀ {u : HO}, (fun b => if b = a then some (HO.frz { cls := .type "list", data := .seq us.toArray } (.lst (ns.map V.int))) else none : Hp) a = some u → u = .frz { cls := .type "list", data := .seq us.toArray } (.lst (ns.map V.int)) := fun z => by
      simp only [if_pos] at z
      exact (Option.some.inj z).symm
    refine law_from (H := fun b => if b = a then some (.frz { cls := .type "list", data := .seq us.toArray } (.lst (ns.map V.int))) else none) KX G.T.g G.T.b G.T.builtins G.T.nolimit gens hobj room FG bd (fun b => ?_) (fun b u z => ?_) (ask _ _ a ns len (.inl (.inr ⟨{ cls := .type "list", data := .seq us.toArray }, if_pos rfl⟩)))
    · by_cases e : b = a
      · exact .inr ⟨e, hk, _, _, if_pos e⟩
      · exact .inl (if_neg e)
    · by_cases e : b = a
      · subst e
        cases at_a z
        exact ⟨hobj, by rw [List.length_map]; exact len', us, _, rv, hobj⟩
      · simp only [if_neg e] at z
        cases z
end B71

namespace R71
open B71 PySem PySem.Spec PyProof.Rows L2
theorem kit_to {K : PySem.W.Frag} {C : Addr} {T : String} {cd : ClassData} {b : Bool} (h1 : PySem.W.clsIn K C = some cd) (h2 : PySem.W.typeIn K (.ref C) = some (.type "type")) (h3 : PySem.W.subIn K (.type T) (.ref C) = some b) : PySem.W.kitOne K (.type T) (.ref C) = some b := by
  have e : (Value.type T == Value.ref C) = false := Bool.eq_false_iff.mpr fun q => by cases beq_iff_eq.mp q
  unfold PySem.W.kitOne
  rw [e, if_neg Bool.false_ne_true]
  show (if ((PySem.W.clsIn K C).isSome && PySem.W.typeIn K (.ref C) == some (.type "type")) = true then PySem.W.subIn K (.type T) (.ref C) else none) = some b
  rw [h1, h2, if_pos (by simp), h3]
theorem kit_from {K : PySem.W.Frag} {C : Addr} {T : String} {b : Bool} (h1 : PySem.W.kitMeta T = true) (h3 : PySem.W.subIn K (.ref C) (.type T) = some b) : PySem.W.kitOne K (.ref C) (.type T) = some b := by
  have e : (Value.ref C == Value.type T) = false := Bool.eq_false_iff.mpr fun q => by cases beq_iff_eq.mp q
  unfold PySem.W.kitOne
  rw [e, if_neg Bool.false_ne_true]
  show (if PySem.W.kitMeta T = true then PySem.W.subIn K (.ref C) (.type T) else none) = some b
  rw [if_pos h1, h3]

/-! ### how calls with keywords bind -/
theorem vals_rev : ∀ {vs : List V} {us : List Value}, Vals vs us → Vals vs.reverse us.reverse
  | _, _, .nil => .nil
  | _, _, .cons q t => by
    rw [List.reverse_cons, List.reverse_cons]
    exact (vals_rev t).append (.cons q .nil)
theorem four {xs : List Value} (h : xs.length = 4) : ∃ a b c d, xs = [a, b, c, d] := by
  match xs, h with
  | [a, b, c, d], _ => exact ⟨a, b, c, d, rfl⟩
theorem kb_4 {K : PySem.W.Frag} {fd : FuncData} {x1 x2 x3 x4 k1 k2 k3 k4 : Str} (h : ∀ s : Shared, (∀ a b c d, BindsTo s fd ⟨[a, b, c, d], []⟩ [(x1, a), (x2, b), (x3, c), (x4, d)]) ∧ (∀ a b c d, BindsTo s fd ⟨[a, b, c], [(k1, d)]⟩ [(x1, a), (x2, b), (x3, c), (x4, d)]) ∧ (∀ a b c d, BindsTo s fd ⟨[a, b], [(k1, d), (k2, c)]⟩ [(x1, a), (x2, b), (x3, c), (x4, d)]) ∧ (∀ a b c d, BindsTo s fd ⟨[a], [(k1, d), (k2, c), (k3, b)]⟩ [(x1, a), (x2, b), (x3, c), (x4, d)]) ∧ ∀ a b c d, BindsTo s fd ⟨[], [(k1, d), (k2, c), (k3, b), (k4, a)]⟩ [(x1, a), (x2, b), (x3, c), (x4, d)]) : KBinds K fd [x1, x2, x3, x4] [k1, k2, k3, k4] (fun us ws => us ++ ws.reverse) (fun us ws => us ++ ws.reverse) := by
  refine ⟨fun s us ws _ hl => ?_, fun a b => a.append (vals_rev b)⟩
  rw [List.length_append, List.length_reverse] at hl
  have hl' : us.length + ws.length = 4 := hl
  match us, ws, hl' with
  | [a, b, c, d], [], _ => exact (h s).1 a b c d
  | [a, b, c], [d], _ => exact (h s).2.1 a b c d
  | [a, b], [d, c], _ => exact (h s).2.2.1 a b c d
  | [a], [d, c, b], _ => exact (h s).2.2.2.1 a b c d
  | [], [d, c, b, a], _ => exact (h s).2.2.2.2 a b c d
  | [], [], e => exact absurd e (by decide)
  | [], [_], e => exact absurd e (by simp)
  | [], [_, _], e => exact absurd e (by simp)
  | [], [_, _, _], e => exact absurd e (by simp)
  | [], _ :: _ :: _ :: _ :: _ :: _, e => exact absurd e (by simp)
  | [_], [], e => exact absurd e (by simp)
  | [_], [_], e => exact absurd e (by simp)
  | [_], [_, _], e => exact absurd e (by simp)
  | [_], _ :: _ :: _ :: _ :: _, e => exact absurd e (by simp; omega)
  | [_, _], [], e => exact absurd e (by simp)
  | [_, _], [_], e => exact absurd e (by simp)
  | [_, _], _ :: _ :: _ :: _, e => exact absurd e (by simp; omega)
  | [_, _, _], [], e => exact absurd e (by simp)
  | [_, _, _], _ :: _ :: _, e => exact absurd e (by simp; omega)
  | [_, _, _, _], _ :: _, e => exact absurd e (by simp)
  | _ :: _ :: _ :: _ :: _ :: _, _, e => exact absurd e (by simp; omega)
theorem all_mk {l : PySem.W.OpenLaw} {w : World} {K : PySem.W.Frag} {h : Heap} {mg : Str → Option Value} {fa C D0 D1 : Addr} (X : K.In h) (G : h.Ns mainGlobals mg) (hfa : mg "law" = some (.ref fa))
    {f8 : Addr} {fod8 fan8 : Option Addr} {fsl8 : Array (Option Value)} {foc8 fkV8 fdc8 fpm8 fcd8 fct8 : Value}
    {f14 : Addr} {fod14 fan14 : Option Addr} {fsl14 : Array (Option Value)} {foc14 fkV14 fdc14 fpm14 fcd14 fct14 : Value}
    {f15 : Addr} {fod15 fan15 : Option Addr} {fsl15 : Array (Option Value)} {foc15 fkV15 fdc15 fpm15 fcd15 fct15 : Value}
    {f9 : Addr} {fod9 fan9 : Option Addr} {fsl9 : Array (Option Value)} {foc9 fkV9 fdc9 fpm9 fcd9 fct9 : Value}
    {f10 : Addr} {fod10 fan10 : Option Addr} {fsl10 : Array (Option Value)} {foc10 fkV10 fdc10 fpm10 fcd10 fct10 : Value}
    {f11 : Addr} {fod11 fan11 : Option Addr} {fsl11 : Array (Option Value)} {foc11 fkV11 fdc11 fpm11 fcd11 fct11 : Value}
    {f21 : Addr} {fod21 fan21 : Option Addr} {fsl21 : Array (Option Value)} {foc21 fkV21 fdc21 fpm21 fcd21 fct21 : Value}
    {f22 : Addr} {fod22 fan22 : Option Addr} {fsl22 : Array (Option Value)} {foc22 fkV22 fdc22 fpm22 fcd22 fct22 : Value}
    {f24 : Addr} {fod24 fan24 : Option Addr} {fsl24 : Array (Option Value)} {foc24 fkV24 fdc24 fpm24 fcd24 fct24 : Value}
    {f26 : Addr} {fod26 fan26 : Option Addr} {fsl26 : Array (Option Value)} {foc26 fkV26 fdc26 fpm26 fcd26 fct26 : Value}
    {f27 : Addr} {fod27 fan27 : Option Addr} {fsl27 : Array (Option Value)} {foc27 fkV27 fdc27 fpm27 fcd27 fct27 : Value}
    {f28 : Addr} {fod28 fan28 : Option Addr} {fsl28 : Array (Option Value)} {foc28 fkV28 fdc28 fpm28 fcd28 fct28 : Value}
    {f29 : Addr} {fod29 fan29 : Option Addr} {fsl29 : Array (Option Value)} {foc29 fkV29 fdc29 fpm29 fcd29 fct29 : Value}
    {f30 : Addr} {fod30 fan30 : Option Addr} {fsl30 : Array (Option Value)} {foc30 fkV30 fdc30 fpm30 fcd30 fct30 : Value}
    {f31 : Addr} {fod31 fan31 : Option Addr} {fsl31 : Array (Option Value)} {foc31 fkV31 fdc31 fpm31 fcd31 fct31 : Value}
    {f33 : Addr} {fod33 fan33 : Option Addr} {fsl33 : Array (Option Value)} {foc33 fkV33 fdc33 fpm33 fcd33 fct33 : Value}
    {f34 : Addr} {fod34 fan34 : Option Addr} {fsl34 : Array (Option Value)} {foc34 fkV34 fdc34 fpm34 fcd34 fct34 : Value}
    {f35 : Addr} {fod35 fan35 : Option Addr} {fsl35 : Array (Option Value)} {foc35 fkV35 fdc35 fpm35 fcd35 fct35 : Value}
    {f36 : Addr} {fod36 fan36 : Option Addr} {fsl36 : Array (Option Value)} {foc36 fkV36 fdc36 fpm36 fcd36 fct36 : Value}
    {f37 : Addr} {fod37 fan37 : Option Addr} {fsl37 : Array (Option Value)} {foc37 fkV37 fdc37 fpm37 fcd37 fct37 : Value}
    {f39 : Addr} {fod39 fan39 : Option Addr} {fsl39 : Array (Option Value)} {foc39 fkV39 fdc39 fpm39 fcd39 fct39 : Value}
    {f40 : Addr} {fod40 fan40 : Option Addr} {fsl40 : Array (Option Value)} {foc40 fkV40 fdc40 fpm40 fcd40 fct40 : Value}
    {f41 : Addr} {fod41 fan41 : Option Addr} {fsl41 : Array (Option Value)} {foc41 fkV41 fdc41 fpm41 fcd41 fct41 : Value}
    {f42 : Addr} {fod42 fan42 : Option Addr} {fsl42 : Array (Option Value)} {foc42 fkV42 fdc42 fpm42 fcd42 fct42 : Value}
    {f43 : Addr} {fod43 fan43 : Option Addr} {fsl43 : Array (Option Value)} {foc43 fkV43 fdc43 fpm43 fcd43 fct43 : Value}
    {f44 : Addr} {fod44 fan44 : Option Addr} {fsl44 : Array (Option Value)} {foc44 fkV44 fdc44 fpm44 fcd44 fct44 : Value}
    {f45 : Addr} {fod45 fan45 : Option Addr} {fsl45 : Array (Option Value)} {foc45 fkV45 fdc45 fpm45 fcd45 fct45 : Value}
    {f46 : Addr} {fod46 fan46 : Option Addr} {fsl46 : Array (Option Value)} {foc46 fkV46 fdc46 fpm46 fcd46 fct46 : Value}
    {f47 : Addr} {fod47 fan47 : Option Addr} {fsl47 : Array (Option Value)} {foc47 fkV47 fdc47 fpm47 fcd47 fct47 : Value}
    {f48 : Addr} {fod48 fan48 : Option Addr} {fsl48 : Array (Option Value)} {foc48 fkV48 fdc48 fpm48 fcd48 fct48 : Value}
    {f49 : Addr} {fod49 fan49 : Option Addr} {fsl49 : Array (Option Value)} {foc49 fkV49 fdc49 fpm49 fcd49 fct49 : Value}
    {f50 : Addr} {fod50 fan50 : Option Addr} {fsl50 : Array (Option Value)} {foc50 fkV50 fdc50 fpm50 fcd50 fct50 : Value}
    {f51 : Addr} {fod51 fan51 : Option Addr} {fsl51 : Array (Option Value)} {foc51 fkV51 fdc51 fpm51 fcd51 fct51 : Value}
    {f52 : Addr} {fod52 fan52 : Option Addr} {fsl52 : Array (Option Value)} {foc52 fkV52 fdc52 fpm52 fcd52 fct52 : Value}
    {m0 : Addr} {mod0 man0 : Option Addr} {msl0 : Array (Option Value)} {moc0 mkV0 mdc0 mpm0 mcd0 mct0 : Value}
    {m19 : Addr} {mod19 man19 : Option Addr} {msl19 : Array (Option Value)} {moc19 mkV19 mdc19 mpm19 mcd19 mct19 : Value}
    {cdat : ClassData} {d0 d1 : Option Addr} {n0 n1 : Nat} {s0 s1 : Array (Option Value)} {tk0 tP tA tB : Tok}
    (a8 : PySem.W.nsIn K mainGlobals "is_integer" = some (some (.ref f8)))
    (fl8 : K.lookup f8 = some ⟨foc8, fod8, .func (PySem.W.fnOf "is_integer" "is_integer" (defArgs (top 8)) (defBody (top 8)) (defScope (top 8)) .none fkV8 fdc8 fpm8 fan8 fcd8 fct8), fsl8⟩)
    (fc8 : PySem.W.codeIn K fcd8 "is_integer" = true)
    (fk8 : PySem.W.keepIn K (.ref f8) = true)
    (a14 : PySem.W.nsIn K mainGlobals "digits_of" = some (some (.ref f14)))
    (fl14 : K.lookup f14 = some ⟨foc14, fod14, .func (PySem.W.fnOf "digits_of" "digits_of" (defArgs (top 14)) (defBody (top 14)) (defScope (top 14)) .none fkV14 fdc14 fpm14 fan14 fcd14 fct14), fsl14⟩)
    (fc14 : PySem.W.codeIn K fcd14 "digits_of" = true)
    (fk14 : PySem.W.keepIn K (.ref f14) = true)
    (a15 : PySem.W.nsIn K mainGlobals "common_part" = some (some (.ref f15)))
    (fl15 : K.lookup f15 = some ⟨foc15, fod15, .func (PySem.W.fnOf "common_part" "common_part" (defArgs (top 15)) (defBody (top 15)) (defScope (top 15)) .none fkV15 fdc15 fpm15 fan15 fcd15 fct15), fsl15⟩)
    (fc15 : PySem.W.codeIn K fcd15 "common_part" = true)
    (fk15 : PySem.W.keepIn K (.ref f15) = true)
    (a9 : PySem.W.nsIn K mainGlobals "is_count" = some (some (.ref f9)))
    (fl9 : K.lookup f9 = some ⟨foc9, fod9, .func (PySem.W.fnOf "is_count" "is_count" (defArgs (top 9)) (defBody (top 9)) (defScope (top 9)) .none fkV9 fdc9 fpm9 fan9 fcd9 fct9), fsl9⟩)
    (fc9 : PySem.W.codeIn K fcd9 "is_count" = true)
    (fk9 : PySem.W.keepIn K (.ref f9) = true)
    (a10 : PySem.W.nsIn K mainGlobals "is_list" = some (some (.ref f10)))
    (fl10 : K.lookup f10 = some ⟨foc10, fod10, .func (PySem.W.fnOf "is_list" "is_list" (defArgs (top 10)) (defBody (top 10)) (defScope (top 10)) .none fkV10 fdc10 fpm10 fan10 fcd10 fct10), fsl10⟩)
    (fc10 : PySem.W.codeIn K fcd10 "is_list" = true)
    (fk10 : PySem.W.keepIn K (.ref f10) = true)
    (a11 : PySem.W.nsIn K mainGlobals "want_many" = some (some (.ref f11)))
    (fl11 : K.lookup f11 = some ⟨foc11, fod11, .func (PySem.W.fnOf "want_many" "want_many" (defArgs (top 11)) (defBody (top 11)) (defScope (top 11)) (.ref D1) fkV11 fdc11 fpm11 fan11 fcd11 fct11), fsl11⟩)
    (fc11 : PySem.W.codeIn K fcd11 "want_many" = true)
    (fk11 : PySem.W.keepIn K (.ref f11) = true)
    (a21 : PySem.W.nsIn K mainGlobals "want_side" = some (some (.ref f21)))
    (fl21 : K.lookup f21 = some ⟨foc21, fod21, .func (PySem.W.fnOf "want_side" "want_side" (defArgs (top 21)) (defBody (top 21)) (defScope (top 21)) .none fkV21 fdc21 fpm21 fan21 fcd21 fct21), fsl21⟩)
    (fc21 : PySem.W.codeIn K fcd21 "want_side" = true)
    (fk21 : PySem.W.keepIn K (.ref f21) = true)
    (a22 : PySem.W.nsIn K mainGlobals "is_place_makers" = some (some (.ref f22)))
    (fl22 : K.lookup f22 = some ⟨foc22, fod22, .func (PySem.W.fnOf "is_place" "is_place" (defArgs (top 22)) (defBody (top 22)) (defScope (top 22)) .none fkV22 fdc22 fpm22 fan22 fcd22 fct22), fsl22⟩)
    (fc22 : PySem.W.codeIn K fcd22 "is_place" = true)
    (fk22 : PySem.W.keepIn K (.ref f22) = true)
    (a24 : PySem.W.nsIn K mainGlobals "want_places" = some (some (.ref f24)))
    (fl24 : K.lookup f24 = some ⟨foc24, fod24, .func (PySem.W.fnOf "want_places" "want_places" (defArgs (top 24)) (defBody (top 24)) (defScope (top 24)) .none fkV24 fdc24 fpm24 fan24 fcd24 fct24), fsl24⟩)
    (fc24 : PySem.W.codeIn K fcd24 "want_places" = true)
    (fk24 : PySem.W.keepIn K (.ref f24) = true)
    (a26 : PySem.W.nsIn K mainGlobals "free_way" = some (some (.ref f26)))
    (fl26 : K.lookup f26 = some ⟨foc26, fod26, .func (PySem.W.fnOf "free_way" "free_way" (defArgs (top 26)) (defBody (top 26)) (defScope (top 26)) .none fkV26 fdc26 fpm26 fan26 fcd26 fct26), fsl26⟩)
    (fc26 : PySem.W.codeIn K fcd26 "free_way" = true)
    (fk26 : PySem.W.keepIn K (.ref f26) = true)
    (a27 : PySem.W.nsIn K mainGlobals "seats_of" = some (some (.ref f27)))
    (fl27 : K.lookup f27 = some ⟨foc27, fod27, .func (PySem.W.fnOf "seats_of" "seats_of" (defArgs (top 27)) (defBody (top 27)) (defScope (top 27)) .none fkV27 fdc27 fpm27 fan27 fcd27 fct27), fsl27⟩)
    (fc27 : PySem.W.codeIn K fcd27 "seats_of" = true)
    (fk27 : PySem.W.keepIn K (.ref f27) = true)
    (a28 : PySem.W.nsIn K mainGlobals "rooks_of" = some (some (.ref f28)))
    (fl28 : K.lookup f28 = some ⟨foc28, fod28, .func (PySem.W.fnOf "rooks_of" "rooks_of" (defArgs (top 28)) (defBody (top 28)) (defScope (top 28)) .none fkV28 fdc28 fpm28 fan28 fcd28 fct28), fsl28⟩)
    (fc28 : PySem.W.codeIn K fcd28 "rooks_of" = true)
    (fk28 : PySem.W.keepIn K (.ref f28) = true)
    (a29 : PySem.W.nsIn K mainGlobals "cover_of" = some (some (.ref f29)))
    (fl29 : K.lookup f29 = some ⟨foc29, fod29, .func (PySem.W.fnOf "cover_of" "cover_of" (defArgs (top 29)) (defBody (top 29)) (defScope (top 29)) .none fkV29 fdc29 fpm29 fan29 fcd29 fct29), fsl29⟩)
    (fc29 : PySem.W.codeIn K fcd29 "cover_of" = true)
    (fk29 : PySem.W.keepIn K (.ref f29) = true)
    (a30 : PySem.W.nsIn K mainGlobals "unlike_counts" = some (some (.ref f30)))
    (fl30 : K.lookup f30 = some ⟨foc30, fod30, .func (PySem.W.fnOf "unlike_counts" "unlike_counts" (defArgs (top 30)) (defBody (top 30)) (defScope (top 30)) .none fkV30 fdc30 fpm30 fan30 fcd30 fct30), fsl30⟩)
    (fc30 : PySem.W.codeIn K fcd30 "unlike_counts" = true)
    (fk30 : PySem.W.keepIn K (.ref f30) = true)
    (a31 : PySem.W.nsIn K mainGlobals "is_place_boards" = some (some (.ref f31)))
    (fl31 : K.lookup f31 = some ⟨foc31, fod31, .func (PySem.W.fnOf "is_place" "is_place" (defArgs (top 31)) (defBody (top 31)) (defScope (top 31)) .none fkV31 fdc31 fpm31 fan31 fcd31 fct31), fsl31⟩)
    (fc31 : PySem.W.codeIn K fcd31 "is_place" = true)
    (fk31 : PySem.W.keepIn K (.ref f31) = true)
    (a33 : PySem.W.nsIn K mainGlobals "spare_one_another" = some (some (.ref f33)))
    (fl33 : K.lookup f33 = some ⟨foc33, fod33, .func (PySem.W.fnOf "spare_one_another" "spare_one_another" (defArgs (top 33)) (defBody (top 33)) (defScope (top 33)) .none fkV33 fdc33 fpm33 fan33 fcd33 fct33), fsl33⟩)
    (fc33 : PySem.W.codeIn K fcd33 "spare_one_another" = true)
    (fk33 : PySem.W.keepIn K (.ref f33) = true)
    (a34 : PySem.W.nsIn K mainGlobals "rooks" = some (some (.ref f34)))
    (fl34 : K.lookup f34 = some ⟨foc34, fod34, .func (PySem.W.fnOf "rooks" "rooks" (defArgs (top 34)) (defBody (top 34)) (defScope (top 34)) .none fkV34 fdc34 fpm34 fan34 fcd34 fct34), fsl34⟩)
    (fc34 : PySem.W.codeIn K fcd34 "rooks" = true)
    (fk34 : PySem.W.keepIn K (.ref f34) = true)
    (a35 : PySem.W.nsIn K mainGlobals "cover" = some (some (.ref f35)))
    (fl35 : K.lookup f35 = some ⟨foc35, fod35, .func (PySem.W.fnOf "cover" "cover" (defArgs (top 35)) (defBody (top 35)) (defScope (top 35)) .none fkV35 fdc35 fpm35 fan35 fcd35 fct35), fsl35⟩)
    (fc35 : PySem.W.codeIn K fcd35 "cover" = true)
    (fk35 : PySem.W.keepIn K (.ref f35) = true)
    (a36 : PySem.W.nsIn K mainGlobals "is_rooks" = some (some (.ref f36)))
    (fl36 : K.lookup f36 = some ⟨foc36, fod36, .func (PySem.W.fnOf "is_rooks" "is_rooks" (defArgs (top 36)) (defBody (top 36)) (defScope (top 36)) .none fkV36 fdc36 fpm36 fan36 fcd36 fct36), fsl36⟩)
    (fc36 : PySem.W.codeIn K fcd36 "is_rooks" = true)
    (fk36 : PySem.W.keepIn K (.ref f36) = true)
    (a37 : PySem.W.nsIn K mainGlobals "is_cover" = some (some (.ref f37)))
    (fl37 : K.lookup f37 = some ⟨foc37, fod37, .func (PySem.W.fnOf "is_cover" "is_cover" (defArgs (top 37)) (defBody (top 37)) (defScope (top 37)) .none fkV37 fdc37 fpm37 fan37 fcd37 fct37), fsl37⟩)
    (fc37 : PySem.W.codeIn K fcd37 "is_cover" = true)
    (fk37 : PySem.W.keepIn K (.ref f37) = true)
    (a39 : PySem.W.nsIn K mainGlobals "_law_pot" = some (some (.ref f39)))
    (fl39 : K.lookup f39 = some ⟨foc39, fod39, .func (PySem.W.fnOf "_law_pot" "_law_pot" (defArgs (top 39)) (defBody (top 39)) (defScope (top 39)) .none fkV39 fdc39 fpm39 fan39 fcd39 fct39), fsl39⟩)
    (fc39 : PySem.W.codeIn K fcd39 "_law_pot" = true)
    (fk39 : PySem.W.keepIn K (.ref f39) = true)
    (a40 : PySem.W.nsIn K mainGlobals "_law_draw" = some (some (.ref f40)))
    (fl40 : K.lookup f40 = some ⟨foc40, fod40, .func (PySem.W.fnOf "_law_draw" "_law_draw" (defArgs (top 40)) (defBody (top 40)) (defScope (top 40)) .none fkV40 fdc40 fpm40 fan40 fcd40 fct40), fsl40⟩)
    (fc40 : PySem.W.codeIn K fcd40 "_law_draw" = true)
    (fk40 : PySem.W.keepIn K (.ref f40) = true)
    (a41 : PySem.W.nsIn K mainGlobals "_law_pick" = some (some (.ref f41)))
    (fl41 : K.lookup f41 = some ⟨foc41, fod41, .func (PySem.W.fnOf "_law_pick" "_law_pick" (defArgs (top 41)) (defBody (top 41)) (defScope (top 41)) .none fkV41 fdc41 fpm41 fan41 fcd41 fct41), fsl41⟩)
    (fc41 : PySem.W.codeIn K fcd41 "_law_pick" = true)
    (fk41 : PySem.W.keepIn K (.ref f41) = true)
    (a42 : PySem.W.nsIn K mainGlobals "_law_board" = some (some (.ref f42)))
    (fl42 : K.lookup f42 = some ⟨foc42, fod42, .func (PySem.W.fnOf "_law_board" "_law_board" (defArgs (top 42)) (defBody (top 42)) (defScope (top 42)) .none fkV42 fdc42 fpm42 fan42 fcd42 fct42), fsl42⟩)
    (fc42 : PySem.W.codeIn K fcd42 "_law_board" = true)
    (fk42 : PySem.W.keepIn K (.ref f42) = true)
    (a43 : PySem.W.nsIn K mainGlobals "_law_most" = some (some (.ref f43)))
    (fl43 : K.lookup f43 = some ⟨foc43, fod43, .func (PySem.W.fnOf "_law_most" "_law_most" (defArgs (top 43)) (defBody (top 43)) (defScope (top 43)) .none fkV43 fdc43 fpm43 fan43 fcd43 fct43), fsl43⟩)
    (fc43 : PySem.W.codeIn K fcd43 "_law_most" = true)
    (fk43 : PySem.W.keepIn K (.ref f43) = true)
    (a44 : PySem.W.nsIn K mainGlobals "_law_is_count" = some (some (.ref f44)))
    (fl44 : K.lookup f44 = some ⟨foc44, fod44, .func (PySem.W.fnOf "_law_is_count" "_law_is_count" (defArgs (top 44)) (defBody (top 44)) (defScope (top 44)) .none fkV44 fdc44 fpm44 fan44 fcd44 fct44), fsl44⟩)
    (fc44 : PySem.W.codeIn K fcd44 "_law_is_count" = true)
    (fk44 : PySem.W.keepIn K (.ref f44) = true)
    (a45 : PySem.W.nsIn K mainGlobals "_law_is_place" = some (some (.ref f45)))
    (fl45 : K.lookup f45 = some ⟨foc45, fod45, .func (PySem.W.fnOf "_law_is_place" "_law_is_place" (defArgs (top 45)) (defBody (top 45)) (defScope (top 45)) .none fkV45 fdc45 fpm45 fan45 fcd45 fct45), fsl45⟩)
    (fc45 : PySem.W.codeIn K fcd45 "_law_is_place" = true)
    (fk45 : PySem.W.keepIn K (.ref f45) = true)
    (a46 : PySem.W.nsIn K mainGlobals "_law_rooks_seen" = some (some (.ref f46)))
    (fl46 : K.lookup f46 = some ⟨foc46, fod46, .func (PySem.W.fnOf "_law_rooks_seen" "_law_rooks_seen" (defArgs (top 46)) (defBody (top 46)) (defScope (top 46)) .none fkV46 fdc46 fpm46 fan46 fcd46 fct46), fsl46⟩)
    (fc46 : PySem.W.codeIn K fcd46 "_law_rooks_seen" = true)
    (fk46 : PySem.W.keepIn K (.ref f46) = true)
    (a47 : PySem.W.nsIn K mainGlobals "_law_lines_seen" = some (some (.ref f47)))
    (fl47 : K.lookup f47 = some ⟨foc47, fod47, .func (PySem.W.fnOf "_law_lines_seen" "_law_lines_seen" (defArgs (top 47)) (defBody (top 47)) (defScope (top 47)) .none fkV47 fdc47 fpm47 fan47 fcd47 fct47), fsl47⟩)
    (fc47 : PySem.W.codeIn K fcd47 "_law_lines_seen" = true)
    (fk47 : PySem.W.keepIn K (.ref f47) = true)
    (a48 : PySem.W.nsIn K mainGlobals "_law_cover_seen" = some (some (.ref f48)))
    (fl48 : K.lookup f48 = some ⟨foc48, fod48, .func (PySem.W.fnOf "_law_cover_seen" "_law_cover_seen" (defArgs (top 48)) (defBody (top 48)) (defScope (top 48)) .none fkV48 fdc48 fpm48 fan48 fcd48 fct48), fsl48⟩)
    (fc48 : PySem.W.codeIn K fcd48 "_law_cover_seen" = true)
    (fk48 : PySem.W.keepIn K (.ref f48) = true)
    (a49 : PySem.W.nsIn K mainGlobals "_law_bent_rooks" = some (some (.ref f49)))
    (fl49 : K.lookup f49 = some ⟨foc49, fod49, .func (PySem.W.fnOf "_law_bent_rooks" "_law_bent_rooks" (defArgs (top 49)) (defBody (top 49)) (defScope (top 49)) .none fkV49 fdc49 fpm49 fan49 fcd49 fct49), fsl49⟩)
    (fc49 : PySem.W.codeIn K fcd49 "_law_bent_rooks" = true)
    (fk49 : PySem.W.keepIn K (.ref f49) = true)
    (a50 : PySem.W.nsIn K mainGlobals "_law_bent_covers" = some (some (.ref f50)))
    (fl50 : K.lookup f50 = some ⟨foc50, fod50, .func (PySem.W.fnOf "_law_bent_covers" "_law_bent_covers" (defArgs (top 50)) (defBody (top 50)) (defScope (top 50)) .none fkV50 fdc50 fpm50 fan50 fcd50 fct50), fsl50⟩)
    (fc50 : PySem.W.codeIn K fcd50 "_law_bent_covers" = true)
    (fk50 : PySem.W.keepIn K (.ref f50) = true)
    (a51 : PySem.W.nsIn K mainGlobals "_law_right" = some (some (.ref f51)))
    (fl51 : K.lookup f51 = some ⟨foc51, fod51, .func (PySem.W.fnOf "_law_right" "_law_right" (defArgs (top 51)) (defBody (top 51)) (defScope (top 51)) .none fkV51 fdc51 fpm51 fan51 fcd51 fct51), fsl51⟩)
    (fc51 : PySem.W.codeIn K fcd51 "_law_right" = true)
    (fk51 : PySem.W.keepIn K (.ref f51) = true)
    (a52 : PySem.W.nsIn K mainGlobals "law" = some (some (.ref f52)))
    (fl52 : K.lookup f52 = some ⟨foc52, fod52, .func (PySem.W.fnOf "law" "law" (defArgs (top 52)) (defBody (top 52)) (defScope (top 52)) .none fkV52 fdc52 fpm52 fan52 fcd52 fct52), fsl52⟩)
    (fc52 : PySem.W.codeIn K fcd52 "law" = true)
    (fk52 : PySem.W.keepIn K (.ref f52) = true)
    (aC : PySem.W.nsIn K mainGlobals "Ratio" = some (some (.ref C)))
    (e0 : PySem.W.findIn K (.ref C) "__init__" = some (some (.ref m0)))
    (i0 : PySem.W.isFn K (.ref m0) = true)
    (ml0 : K.lookup m0 = some ⟨moc0, mod0, .func (PySem.W.fnOf "__init__" "Ratio.__init__" (defArgs (sm 0)) (defBody (sm 0)) (defScope (sm 0)) (.ref D0) mkV0 mdc0 mpm0 man0 mcd0 mct0), msl0⟩)
    (mc0 : PySem.W.codeIn K mcd0 "Ratio.__init__" = true)
    (mk0 : PySem.W.keepIn K (.ref m0) = true)
    (e19 : PySem.W.findIn K (.ref C) "__repr__" = some (some (.ref m19)))
    (i19 : PySem.W.isFn K (.ref m19) = true)
    (ml19 : K.lookup m19 = some ⟨moc19, mod19, .func (PySem.W.fnOf "__repr__" "Ratio.__repr__" (defArgs (sm 19)) (defBody (sm 19)) (defScope (sm 19)) .none mkV19 mdc19 mpm19 man19 mcd19 mct19), msl19⟩)
    (mc19 : PySem.W.codeIn K mcd19 "Ratio.__repr__" = true)
    (mk19 : PySem.W.keepIn K (.ref m19) = true)
    (l0T : K.lookup D0 = some ⟨.type "tuple", d0, .seq #[.int 1 tk0] n0, s0⟩)
    (l1T : K.lookup D1 = some ⟨.type "tuple", d1, .seq #[.none] n1, s1⟩)
    (rpg : PySem.W.plainGet K C Str.empty = true)
    (rhd : PySem.W.hasDictIn K C = true)
    (rpo : PySem.W.plainOver K C = true)
    (rsa : PySem.W.findIn K (.ref C) "__setattr__" = some (some (.builtin "object.__setattr__")))
    (rcc1 : PySem.W.findIn K (.ref C) "__class__" = some (some (.builtin "object.__class__")))
    (rcc4 : PySem.W.mroIn K C (.type "object") = some true)
    (rmkC : PySem.W.makesIn K C = true)
    (rkC : PySem.W.keepIn K (.ref C) = true)
    (nT : PySem.W.findIn K (.ref C) "own_top" = some none)
    (nB : PySem.W.findIn K (.ref C) "own_bottom" = some none)
    (cc2 : PySem.W.specialIn K (.builtin "object.__class__") "__get__" = some (some (.builtin "getset_descriptor.__get__")))
    (cc3 : PySem.W.takesIn K (.builtin "object.__class__") = some true)
    (ci : PySem.W.clsIn K C = some cdat)
    (ct : PySem.W.typeIn K (.ref C) = some (.type "type"))
    (sint : PySem.W.subIn K (.type "int") (.ref C) = some false)
    (sbool : PySem.W.subIn K (.type "bool") (.ref C) = some false)
    (sNoneType : PySem.W.subIn K (.type "NoneType") (.ref C) = some false)
    (sstr : PySem.W.subIn K (.type "str") (.ref C) = some false)
    (slist : PySem.W.subIn K (.type "list") (.ref C) = some false)
    (stuple : PySem.W.subIn K (.type "tuple") (.ref C) = some false)
    (sdict : PySem.W.subIn K (.type "dict") (.ref C) = some false)
    (bint : PySem.W.subIn K (.ref C) (.type "int") = some false)
    (bbool : PySem.W.subIn K (.ref C) (.type "bool") = some false)
    (blist : PySem.W.subIn K (.ref C) (.type "list") = some false)
    (btuple : PySem.W.subIn K (.ref C) (.type "tuple") = some false)
    (gP : PySem.W.nsIn K mainGlobals "PART" = some (some (.int (10 ^ 60) tP)))
    (gG : PySem.W.nsIn K mainGlobals "gcd" = some (some (.builtin "math.gcd")))
    (g16 : PySem.W.nsIn K mainGlobals "MOST_TABLES" = some (some (.int 16 tA)))
    (g4 : PySem.W.nsIn K mainGlobals "MOST_SIDE" = some (some (.int 4 tB)))
    (z_len : PySem.W.nsIn K mainGlobals "len" = some none)
    (z_abs : PySem.W.nsIn K mainGlobals "abs" = some none)
    (z_max : PySem.W.nsIn K mainGlobals "max" = some none)
    (z_repr : PySem.W.nsIn K mainGlobals "repr" = some none)
    (z_divmod : PySem.W.nsIn K mainGlobals "divmod" = some none)
    (z_isinstance : PySem.W.nsIn K mainGlobals "isinstance" = some none)
    (z_int : PySem.W.nsIn K mainGlobals "int" = some none)
    (z_bool : PySem.W.nsIn K mainGlobals "bool" = some none)
    (z_list : PySem.W.nsIn K mainGlobals "list" = some none)
    (z_tuple : PySem.W.nsIn K mainGlobals "tuple" = some none)
    (z_str : PySem.W.nsIn K mainGlobals "str" = some none)
    (z_min : PySem.W.nsIn K mainGlobals "min" = some none)
    (z_sorted : PySem.W.nsIn K mainGlobals "sorted" = some none)
    (z_dict : PySem.W.nsIn K mainGlobals "dict" = some none)
    (z_zip : PySem.W.nsIn K mainGlobals "zip" = some none)
    (z_range : PySem.W.nsIn K mainGlobals "range" = some none)
    (z_all : PySem.W.nsIn K mainGlobals "all" = some none)
    (z_sum : PySem.W.nsIn K mainGlobals "sum" = some none)
    : ∃ fd : FuncData, (∀ (s : Shared) (v : Value), BindsTo s fd ⟨[v], []⟩ [("script", v)]) ∧ ∀ base : Heap, K.In base → base.Ns mainGlobals mg → FnG l.prog w K mg base 31 fa fd ["script"] (spLaw K) := by
  have e := hfa.symm.trans (PySem.W.mg_of X G a52)
  cases e
  have T : Tx mg := { b_len := PySem.W.mg_none_of X G z_len, b_abs := PySem.W.mg_none_of X G z_abs, b_max := PySem.W.mg_none_of X G z_max, b_repr := PySem.W.mg_none_of X G z_repr, b_divmod := PySem.W.mg_none_of X G z_divmod, b_isinstance := PySem.W.mg_none_of X G z_isinstance, b_int := PySem.W.mg_none_of X G z_int, b_bool := PySem.W.mg_none_of X G z_bool, b_list := PySem.W.mg_none_of X G z_list, b_tuple := PySem.W.mg_none_of X G z_tuple, b_str := PySem.W.mg_none_of X G z_str, b_min := PySem.W.mg_none_of X G z_min, b_sorted := PySem.W.mg_none_of X G z_sorted, b_dict := PySem.W.mg_none_of X G z_dict, b_zip := PySem.W.mg_none_of X G z_zip, b_range := PySem.W.mg_none_of X G z_range, b_all := PySem.W.mg_none_of X G z_all, b_sum := PySem.W.mg_none_of X G z_sum }
  have R : RCl K mg C := ⟨⟨rpg, rhd, rpo, rsa⟩, PySem.W.mg_of X G aC, nT, nB, rcc1, cc2, cc3, rcc4, kit_to ci ct sint, kit_to ci ct sbool, kit_to ci ct sNoneType, kit_to ci ct sstr, kit_to ci ct slist, kit_to ci ct stuple, kit_from (by decide +kernel) bint, kit_from (by decide +kernel) bbool⟩
  have M : RCm K C := ⟨kit_to ci ct sdict, kit_from (by decide +kernel) blist, kit_from (by decide +kernel) btuple⟩
  have mk : Mk K C m0 := ⟨rmkC, e0, i0, rkC⟩
  have F8 := fun_mk (st := top 8) fl8 fc8 fk8
  have b8_ := F8.binds (ps := ["value"]) fun _ _ _ _ _ _ us hl => match us, hl with | [_], _ => rfl
  have F14 := fun_mk (st := top 14) fl14 fc14 fk14
  have b14_ := F14.binds (ps := ["number"]) fun _ _ _ _ _ _ us hl => match us, hl with | [_], _ => rfl
  have F15 := fun_mk (st := top 15) fl15 fc15 fk15
  have b15_ := F15.binds (ps := ["one", "other"]) fun _ _ _ _ _ _ us hl => match us, hl with | [_, _], _ => rfl
  have F9 := fun_mk (st := top 9) fl9 fc9 fk9
  have b9_ := F9.binds (ps := ["value"]) fun _ _ _ _ _ _ us hl => match us, hl with | [_], _ => rfl
  have F10 := fun_mk (st := top 10) fl10 fc10 fk10
  have b10_ := F10.binds (ps := ["value"]) fun _ _ _ _ _ _ us hl => match us, hl with | [_], _ => rfl
  have F11 : FunD K "want_many" "want_many" (defArgs (top 11)) (defBody (top 11)) (defScope (top 11)) [.non] [] f11 _ := ⟨⟨foc11, fod11, .ref D1, fkV11, fdc11, fpm11, fan11, fcd11, fct11, fsl11, rfl, fl11, fc11, .inr ⟨by simp, D1, _, [.none], n1, rfl, l1T, rfl, .cons rfl .nil⟩, .inl rfl⟩, fk11⟩
  obtain ⟨dsw, vw, b11_⟩ := F11.binds1 (ps := ["value", "most"]) 2 1 (by simp) rfl fun _ _ _ _ _ _ _ us its hl hi => match us, its, hl, hi with | [_, _], [_], _, _ => ⟨_, rfl, rfl⟩
  cases vw
  have F21 := fun_mk (st := top 21) fl21 fc21 fk21
  have b21_ := F21.binds (ps := ["value"]) fun _ _ _ _ _ _ us hl => match us, hl with | [_], _ => rfl
  have F22 := fun_mk (st := top 22) fl22 fc22 fk22
  have b22_ := F22.binds (ps := ["value", "tall", "wide"]) fun _ _ _ _ _ _ us hl => match us, hl with | [_, _, _], _ => rfl
  have F24 := fun_mk (st := top 24) fl24 fc24 fk24
  have b24_ := F24.binds (ps := ["tall", "wide", "value"]) fun _ _ _ _ _ _ us hl => match us, hl with | [_, _, _], _ => rfl
  have F26 := fun_mk (st := top 26) fl26 fc26 fk26
  have b26_ := F26.binds (ps := ["places", "row", "seats", "tried"]) fun _ _ _ _ _ _ us hl => match us, hl with | [_, _, _, _], _ => rfl
  have F27 := fun_mk (st := top 27) fl27 fc27 fk27
  have b27_ := F27.binds (ps := ["tall", "places"]) fun _ _ _ _ _ _ us hl => match us, hl with | [_, _], _ => rfl
  have F28 := fun_mk (st := top 28) fl28 fc28 fk28
  have b28_ := F28.binds (ps := ["tall", "wide", "places"]) fun _ _ _ _ _ _ us hl => match us, hl with | [_, _, _], _ => rfl
  have F29 := fun_mk (st := top 29) fl29 fc29 fk29
  have b29_ := F29.binds (ps := ["tall", "wide", "places"]) fun _ _ _ _ _ _ us hl => match us, hl with | [_, _, _], _ => rfl
  have F30 := fun_mk (st := top 30) fl30 fc30 fk30
  have b30_ := F30.binds (ps := ["value", "most"]) fun _ _ _ _ _ _ us hl => match us, hl with | [_, _], _ => rfl
  have F31 := fun_mk (st := top 31) fl31 fc31 fk31
  have b31_ := F31.binds (ps := ["value"]) fun _ _ _ _ _ _ us hl => match us, hl with | [_], _ => rfl
  have F33 := fun_mk (st := top 33) fl33 fc33 fk33
  have b33_ := F33.binds (ps := ["places"]) fun _ _ _ _ _ _ us hl => match us, hl with | [_], _ => rfl
  have F34 := fun_mk (st := top 34) fl34 fc34 fk34
  have b34_ := F34.binds (ps := ["tall", "wide", "places"]) fun _ _ _ _ _ _ us hl => match us, hl with | [_, _, _], _ => rfl
  have F35 := fun_mk (st := top 35) fl35 fc35 fk35
  have b35_ := F35.binds (ps := ["tall", "wide", "places"]) fun _ _ _ _ _ _ us hl => match us, hl with | [_, _, _], _ => rfl
  have F36 := fun_mk (st := top 36) fl36 fc36 fk36
  have b36_ := F36.binds (ps := ["tall", "wide", "places", "value"]) fun _ _ _ _ _ _ us hl => match us, hl with | [_, _, _, _], _ => rfl
  have F37 := fun_mk (st := top 37) fl37 fc37 fk37
  have b37_ := F37.binds (ps := ["tall", "wide", "places", "value"]) fun _ _ _ _ _ _ us hl => match us, hl with | [_, _, _, _], _ => rfl
  have F39 := fun_mk (st := top 39) fl39 fc39 fk39
  have b39_ := F39.binds (ps := ["script", "k"]) fun _ _ _ _ _ _ us hl => match us, hl with | [_, _], _ => rfl
  have F40 := fun_mk (st := top 40) fl40 fc40 fk40
  have b40_ := F40.binds (ps := ["pot", "many"]) fun _ _ _ _ _ _ us hl => match us, hl with | [_, _], _ => rfl
  have F41 := fun_mk (st := top 41) fl41 fc41 fk41
  have b41_ := F41.binds (ps := ["pot", "some"]) fun _ _ _ _ _ _ us hl => match us, hl with | [_, _], _ => rfl
  have F42 := fun_mk (st := top 42) fl42 fc42 fk42
  have b42_ := F42.binds (ps := ["pot", "most"]) fun _ _ _ _ _ _ us hl => match us, hl with | [_, _], _ => rfl
  have F43 := fun_mk (st := top 43) fl43 fc43 fk43
  have b43_ := F43.binds (ps := ["tall", "places", "row", "used"]) fun _ _ _ _ _ _ us hl => match us, hl with | [_, _, _, _], _ => rfl
  have F44 := fun_mk (st := top 44) fl44 fc44 fk44
  have b44_ := F44.binds (ps := ["value", "most"]) fun _ _ _ _ _ _ us hl => match us, hl with | [_, _], _ => rfl
  have F45 := fun_mk (st := top 45) fl45 fc45 fk45
  have b45_ := F45.binds (ps := ["value", "places"]) fun _ _ _ _ _ _ us hl => match us, hl with | [_, _], _ => rfl
  have F46 := fun_mk (st := top 46) fl46 fc46 fk46
  have b46_ := F46.binds (ps := ["places", "due", "value"]) fun _ _ _ _ _ _ us hl => match us, hl with | [_, _, _], _ => rfl
  have F47 := fun_mk (st := top 47) fl47 fc47 fk47
  have b47_ := F47.binds (ps := ["value", "most"]) fun _ _ _ _ _ _ us hl => match us, hl with | [_, _], _ => rfl
  have F48 := fun_mk (st := top 48) fl48 fc48 fk48
  have b48_ := F48.binds (ps := ["tall", "wide", "places", "due", "value"]) fun _ _ _ _ _ _ us hl => match us, hl with | [_, _, _, _, _], _ => rfl
  have F49 := fun_mk (st := top 49) fl49 fc49 fk49
  have b49_ := F49.binds (ps := ["pot", "places", "told", "tall", "wide"]) fun _ _ _ _ _ _ us hl => match us, hl with | [_, _, _, _, _], _ => rfl
  have F50 := fun_mk (st := top 50) fl50 fc50 fk50
  have b50_ := F50.binds (ps := ["pot", "told", "tall", "wide"]) fun _ _ _ _ _ _ us hl => match us, hl with | [_, _, _, _], _ => rfl
  have F51 := fun_mk (st := top 51) fl51 fc51 fk51
  have b51_ := F51.binds (ps := ["pot"]) fun _ _ _ _ _ _ us hl => match us, hl with | [_], _ => rfl
  have F52 := fun_mk (st := top 52) fl52 fc52 fk52
  have M0 : FunD K "__init__" "Ratio.__init__" (defArgs (sm 0)) (defBody (sm 0)) (defScope (sm 0)) [.int 1] [] m0 _ := ⟨⟨moc0, mod0, .ref D0, mkV0, mdc0, mpm0, man0, mcd0, mct0, msl0, rfl, ml0, mc0, .inr ⟨by simp, D0, _, [.int 1 tk0], n0, rfl, l0T, rfl, .cons ⟨_, rfl⟩ .nil⟩, .inl rfl⟩, mk0⟩
  obtain ⟨ds0, v0, mb0⟩ := M0.binds1 (ps := ["self", "top", "bottom"]) 3 1 (by simp) rfl fun _ _ _ _ _ _ _ us its hl hi => match us, its, hl, hi with | [_, _, _], [_], _, _ => ⟨_, rfl, rfl⟩
  cases v0
  obtain ⟨ds1, v1, b1⟩ := M0.binds1 (ps := ["self", "top", "bottom"]) 2 0 (by simp) rfl fun _ _ _ _ _ _ _ us its hl hi => match us, its, hl, hi with | [_, _], [_], _, _ => ⟨_, rfl, rfl⟩
  have M19 := fun_mk (st := sm 19) ml19 mc19 mk19
  have mb19 := M19.binds (ps := ["self"]) fun _ _ _ _ _ _ us hl => match us, hl with | [_], _ => rfl
  refine ⟨PySem.W.fnOf "law" "law" (defArgs (top 52)) (defBody (top 52)) (defScope (top 52)) .none fkV52 fdc52 fpm52 fan52 fcd52 fct52, fun s v => .of_eq rfl, fun base _ _ => ?_⟩
  have C_is_integer : ClO l.prog w K mg base "is_integer" 1 ["value"] (spIsI K C) := ⟨⟨_, _, ok_is_integer F8 T, b8_, fk8, PySem.W.mg_of X G a8⟩⟩
  have C_digits_of : ClO l.prog w K mg base "digits_of" 1 ["number"] spDigits := ⟨⟨_, _, ok_digits_of F14 T (PySem.W.mg_of X G gP), b14_, fk14, PySem.W.mg_of X G a14⟩⟩
  have C_common_part : ClO l.prog w K mg base "common_part" 1 ["one", "other"] spCommon := ⟨⟨_, _, ok_common_part F15 (PySem.W.mg_of X G gG), b15_, fk15, PySem.W.mg_of X G a15⟩⟩
  have MI : FnOk l.prog w K mg base CX0 2 m0 _ ["self", "top", "bottom"] (spInit C) := ok_init M0 R T C_is_integer C_common_part
  have MR : MkR l.prog w K mg base C := ⟨⟨m0, _, mk, MI, mb0, ds1, v1, b1⟩, R.mgC⟩
  have RB : TxB l.prog w K mg base C "__repr__" sR := ⟨⟨m19, _, ok_repr M19 R T C_digits_of, mb19, e19, i19⟩⟩
  have C_is_count0 : ClO l.prog w K mg base "is_count" 2 ["value"] (spIsC K C) := ⟨⟨_, _, ok_is_count F9 T C_is_integer, b9_, fk9, PySem.W.mg_of X G a9⟩⟩
  have C_is_countN := clo_imp C_is_count0 (sp' := spCount) (fun _ _ _ _ h => is_cnt R h)
  have C_is_countT := clo_imp C_is_count0 (sp' := spCntT C) (fun _ _ _ _ h => cntT_is R M h)
  have C_is_list : ClO l.prog w K mg base "is_list" 1 ["value"] (spIsL C) := ⟨⟨_, _, ok_is_listT F10 R M T, b10_, fk10, PySem.W.mg_of X G a10⟩⟩
  have C_is_listL : ClO l.prog w K mg base "is_list" 1 ["value"] spList := ⟨⟨_, _, ok_is_list F10 T, b10_, fk10, PySem.W.mg_of X G a10⟩⟩
  have C_want_many : ClO l.prog w K mg base "want_many" 3 ["value", "most"] spWantMany := ⟨⟨_, _, ok_want_many F11 T C_is_countN, b11_, fk11, PySem.W.mg_of X G a11⟩⟩
  have C_want_side : ClO l.prog w K mg base "want_side" 4 ["value"] spWantSide := ⟨⟨_, _, ok_want_side F21 T (PySem.W.mg_of X G g4) C_want_many, b21_, fk21, PySem.W.mg_of X G a21⟩⟩
  have C_is_place1 : ClO l.prog w K mg base "is_place_makers" 3 ["value", "tall", "wide"] spPlace1 := ⟨⟨_, _, ok_is_place1 F22 T C_is_countN, b22_, fk22, PySem.W.mg_of X G a22⟩⟩
  have C_want_places : ClO l.prog w K mg base "want_places" 5 ["tall", "wide", "value"] spWantPlaces := ⟨⟨_, _, ok_want_places F24 T (PySem.W.mg_of X G g16) C_want_side C_is_listL C_is_place1, b24_, fk24, PySem.W.mg_of X G a24⟩⟩
  have C_free_way := free_way_all (P := l.prog) (w := w) (base := base) F26 T b26_ (PySem.W.mg_of X G a26) 5
  have C_seats_of : ClO l.prog w K mg base "seats_of" 7 ["tall", "places"] spSeats := ⟨⟨_, _, ok_seats_of F27 T C_free_way, b27_, fk27, PySem.W.mg_of X G a27⟩⟩
  have C_rooks_of : ClO l.prog w K mg base "rooks_of" 8 ["tall", "wide", "places"] spRooksOf := ⟨⟨_, _, ok_rooks_of F28 T C_seats_of, b28_, fk28, PySem.W.mg_of X G a28⟩⟩
  have C_cover_of : ClO l.prog w K mg base "cover_of" 8 ["tall", "wide", "places"] spCoverOf := ⟨⟨_, _, ok_cover_of F29 T C_seats_of, b29_, fk29, PySem.W.mg_of X G a29⟩⟩
  have C_unlike_counts : ClO l.prog w K mg base "unlike_counts" 3 ["value", "most"] (spUnl C) := ⟨⟨_, _, ok_unlikeT F30 R M T C_is_list C_is_countT, b30_, fk30, PySem.W.mg_of X G a30⟩⟩
  have C_is_place2 : ClO l.prog w K mg base "is_place_boards" 3 ["value"] (spPlT C) := ⟨⟨_, _, ok_is_placeT F31 R M T C_is_countT, b31_, fk31, PySem.W.mg_of X G a31⟩⟩
  have C_spare : ClO l.prog w K mg base "spare_one_another" 1 ["places"] (spSpr K) := ⟨⟨_, _, ok_spareT F33 T, b33_, fk33, PySem.W.mg_of X G a33⟩⟩
  have C_rooks : ClO l.prog w K mg base "rooks" 9 ["tall", "wide", "places"] spRooks := ⟨⟨_, _, ok_rooks F34 T C_rooks_of C_want_places, b34_, fk34, PySem.W.mg_of X G a34⟩⟩
  have C_cover : ClO l.prog w K mg base "cover" 9 ["tall", "wide", "places"] spCover := ⟨⟨_, _, ok_cover F35 T C_cover_of C_want_places, b35_, fk35, PySem.W.mg_of X G a35⟩⟩
  have C_is_rooks : ClO l.prog w K mg base "is_rooks" 9 ["tall", "wide", "places", "value"] (spRkT C) := ⟨⟨_, _, ok_is_rooksT F36 R M T C_want_places C_is_list C_is_place2 C_spare C_rooks_of, b36_, fk36, PySem.W.mg_of X G a36⟩⟩
  have C_is_cover : ClO l.prog w K mg base "is_cover" 9 ["tall", "wide", "places", "value"] (spCvT C) := ⟨⟨_, _, ok_is_coverT F37 R M T C_want_places C_unlike_counts C_rooks_of, b37_, fk37, PySem.W.mg_of X G a37⟩⟩
  have CK_is_rooks : ClQ l.prog w K mg base "is_rooks" 9 ["tall", "wide", "places", "value"] ["value", "places", "wide", "tall"] (fun us ws => us ++ ws.reverse) (fun us ws => us ++ ws.reverse) (spRkT C) := ⟨⟨_, _, ok_is_rooksT F36 R M T C_want_places C_is_list C_is_place2 C_spare C_rooks_of, kb_4 (fun s => ⟨fun _ _ _ _ => .of_eq rfl, fun _ _ _ _ => .of_eq rfl, fun _ _ _ _ => .of_eq rfl, fun _ _ _ _ => .of_eq rfl, fun _ _ _ _ => .of_eq rfl⟩), fk36, PySem.W.mg_of X G a36⟩⟩
  have CK_is_cover : ClQ l.prog w K mg base "is_cover" 9 ["tall", "wide", "places", "value"] ["value", "places", "wide", "tall"] (fun us ws => us ++ ws.reverse) (fun us ws => us ++ ws.reverse) (spCvT C) := ⟨⟨_, _, ok_is_coverT F37 R M T C_want_places C_unlike_counts C_rooks_of, kb_4 (fun s => ⟨fun _ _ _ _ => .of_eq rfl, fun _ _ _ _ => .of_eq rfl, fun _ _ _ _ => .of_eq rfl, fun _ _ _ _ => .of_eq rfl, fun _ _ _ _ => .of_eq rfl⟩), fk37, PySem.W.mg_of X G a37⟩⟩
  have C__law_pot : ClO l.prog w K mg base "_law_pot" 1 ["script", "k"] (spPotk K) := ⟨⟨_, _, ok_law_pot F39 T, b39_, fk39, PySem.W.mg_of X G a39⟩⟩
  have C__law_draw : ClO l.prog w K mg base "_law_draw" 1 ["pot", "many"] spDraw := ⟨⟨_, _, ok_law_draw F40 T, b40_, fk40, PySem.W.mg_of X G a40⟩⟩
  have C__law_pick : ClO l.prog w K mg base "_law_pick" 2 ["pot", "some"] spPick := ⟨⟨_, _, ok_law_pick F41 T C__law_draw, b41_, fk41, PySem.W.mg_of X G a41⟩⟩
  have C__law_board : ClO l.prog w K mg base "_law_board" 2 ["pot", "most"] spBoard := ⟨⟨_, _, ok_law_board F42 T C__law_draw, b42_, fk42, PySem.W.mg_of X G a42⟩⟩
  have C__law_most := most_all (P := l.prog) (w := w) (base := base) F43 T b43_ (PySem.W.mg_of X G a43) 5
  have C__law_is_count : ClO l.prog w K mg base "_law_is_count" 1 ["value", "most"] (spLC C) := ⟨⟨_, _, ok_law_is_count F44 R M T, b44_, fk44, PySem.W.mg_of X G a44⟩⟩
  have C__law_is_place : ClO l.prog w K mg base "_law_is_place" 2 ["value", "places"] (spLP C) := ⟨⟨_, _, ok_law_is_place F45 R M T C__law_is_count, b45_, fk45, PySem.W.mg_of X G a45⟩⟩
  have C__law_rooks_seen : ClO l.prog w K mg base "_law_rooks_seen" 3 ["places", "due", "value"] (spRS C) := ⟨⟨_, _, ok_law_rooks_seen F46 R M T C__law_is_place, b46_, fk46, PySem.W.mg_of X G a46⟩⟩
  have C__law_lines_seen : ClO l.prog w K mg base "_law_lines_seen" 2 ["value", "most"] (spLL C) := ⟨⟨_, _, ok_law_lines_seen F47 R M T C__law_is_count, b47_, fk47, PySem.W.mg_of X G a47⟩⟩
  have C__law_cover_seen : ClO l.prog w K mg base "_law_cover_seen" 3 ["tall", "wide", "places", "due", "value"] (spCS C) := ⟨⟨_, _, ok_law_cover_seen F48 R M T C__law_lines_seen, b48_, fk48, PySem.W.mg_of X G a48⟩⟩
  have C__law_bent_rooks : ClO l.prog w K mg base "_law_bent_rooks" 4 ["pot", "places", "told", "tall", "wide"] (spBR C) := ⟨⟨_, _, ok_law_bent_rooks F49 R T MR C__law_draw C__law_pick, b49_, fk49, PySem.W.mg_of X G a49⟩⟩
  have C__law_bent_covers : ClO l.prog w K mg base "_law_bent_covers" 4 ["pot", "told", "tall", "wide"] (spBC C) := ⟨⟨_, _, ok_law_bent_covers F50 R T MR C__law_draw, b50_, fk50, PySem.W.mg_of X G a50⟩⟩
  have C__law_right : Cl l.prog w K mg base "_law_right" 30 ["pot"] spYes := ⟨_, _, ok_law_right F51 R M T MR RB C__law_board C__law_most C_rooks C_cover C__law_bent_rooks C__law_bent_covers C__law_rooks_seen C__law_cover_seen C_is_rooks C_is_cover CK_is_rooks CK_is_cover, b51_, fk51, PySem.W.mg_of X G a51⟩
  exact ok_law F52 T C__law_pot C__law_right
end R71

open PySem PySem.W PyProof.Rows in
set_option maxRecDepth 100000 in
set_option maxHeartbeats 0 in
theorem PySem.Challenge.cw_shrunkrooms_k73_any_values_as_rooks_and_holds : PySem.Challenge.rw_shrunkrooms_k73_any_values_as_rooks_and.Holds := by
  w_on; o_law; k_head; (case hw => w_witness2)
  k_fill
  refine B71.walkG (l := PySem.Challenge.rw_shrunkrooms_k73_any_values_as_rooks_and) (n := 63) (k := 31) (x := "script") (sp := R71.spLaw) rfl (by decide) rfl ⟨rfl, by decide, by decide⟩ (fun w h Y => PySem.W.kIn_of Y) ?F (fun _ _ a ns hl hS => ⟨a, ns, rfl, hS, hl, fun _ => rfl⟩)
  case F =>
    intro w mg fa h KX G hmg
    refine' R71.all_mk KX G hmg ?a8 ?fl8 ?fc8 ?fk8 ?a14 ?fl14 ?fc14 ?fk14 ?a15 ?fl15 ?fc15 ?fk15 ?a9 ?fl9 ?fc9 ?fk9 ?a10 ?fl10 ?fc10 ?fk10 ?a11 ?fl11 ?fc11 ?fk11 ?a21 ?fl21 ?fc21 ?fk21 ?a22 ?fl22 ?fc22 ?fk22 ?a24 ?fl24 ?fc24 ?fk24 ?a26 ?fl26 ?fc26 ?fk26 ?a27 ?fl27 ?fc27 ?fk27 ?a28 ?fl28 ?fc28 ?fk28 ?a29 ?fl29 ?fc29 ?fk29 ?a30 ?fl30 ?fc30 ?fk30 ?a31 ?fl31 ?fc31 ?fk31 ?a33 ?fl33 ?fc33 ?fk33 ?a34 ?fl34 ?fc34 ?fk34 ?a35 ?fl35 ?fc35 ?fk35 ?a36 ?fl36 ?fc36 ?fk36 ?a37 ?fl37 ?fc37 ?fk37 ?a39 ?fl39 ?fc39 ?fk39 ?a40 ?fl40 ?fc40 ?fk40 ?a41 ?fl41 ?fc41 ?fk41 ?a42 ?fl42 ?fc42 ?fk42 ?a43 ?fl43 ?fc43 ?fk43 ?a44 ?fl44 ?fc44 ?fk44 ?a45 ?fl45 ?fc45 ?fk45 ?a46 ?fl46 ?fc46 ?fk46 ?a47 ?fl47 ?fc47 ?fk47 ?a48 ?fl48 ?fc48 ?fk48 ?a49 ?fl49 ?fc49 ?fk49 ?a50 ?fl50 ?fc50 ?fk50 ?a51 ?fl51 ?fc51 ?fk51 ?a52 ?fl52 ?fc52 ?fk52 ?aC ?e0 ?i0 ?ml0 ?mc0 ?mk0 ?e19 ?i19 ?ml19 ?mc19 ?mk19 ?l0T ?l1T ?rpg ?rhd ?rpo ?rsa ?rcc1 ?rcc4 ?rmkC ?rkC ?nT ?nB ?cc2 ?cc3 ?ci ?ct ?sint ?sbool ?sNoneType ?sstr ?slist ?stuple ?sdict ?bint ?bbool ?blist ?btuple ?gP ?gG ?g16 ?g4 ?z_len ?z_abs ?z_max ?z_repr ?z_divmod ?z_isinstance ?z_int ?z_bool ?z_list ?z_tuple ?z_str ?z_min ?z_sorted ?z_dict ?z_zip ?z_range ?z_all ?z_sum
    (case a8 => k_is)
    (case fl8 => k_is)
    (case fc8 => k_is)
    (case fk8 => k_is)
    (case a14 => k_is)
    (case fl14 => k_is)
    (case fc14 => k_is)
    (case fk14 => k_is)
    (case a15 => k_is)
    (case fl15 => k_is)
    (case fc15 => k_is)
    (case fk15 => k_is)
    (case a9 => k_is)
    (case fl9 => k_is)
    (case fc9 => k_is)
    (case fk9 => k_is)
    (case a10 => k_is)
    (case fl10 => k_is)
    (case fc10 => k_is)
    (case fk10 => k_is)
    (case a11 => k_is)
    (case fl11 => k_is)
    (case fc11 => k_is)
    (case fk11 => k_is)
    (case a21 => k_is)
    (case fl21 => k_is)
    (case fc21 => k_is)
    (case fk21 => k_is)
    (case a22 => k_is)
    (case fl22 => k_is)
    (case fc22 => k_is)
    (case fk22 => k_is)
    (case a24 => k_is)
    (case fl24 => k_is)
    (case fc24 => k_is)
    (case fk24 => k_is)
    (case a26 => k_is)
    (case fl26 => k_is)
    (case fc26 => k_is)
    (case fk26 => k_is)
    (case a27 => k_is)
    (case fl27 => k_is)
    (case fc27 => k_is)
    (case fk27 => k_is)
    (case a28 => k_is)
    (case fl28 => k_is)
    (case fc28 => k_is)
    (case fk28 => k_is)
    (case a29 => k_is)
    (case fl29 => k_is)
    (case fc29 => k_is)
    (case fk29 => k_is)
    (case a30 => k_is)
    (case fl30 => k_is)
    (case fc30 => k_is)
    (case fk30 => k_is)
    (case a31 => k_is)
    (case fl31 => k_is)
    (case fc31 => k_is)
    (case fk31 => k_is)
    (case a33 => k_is)
    (case fl33 => k_is)
    (case fc33 => k_is)
    (case fk33 => k_is)
    (case a34 => k_is)
    (case fl34 => k_is)
    (case fc34 => k_is)
    (case fk34 => k_is)
    (case a35 => k_is)
    (case fl35 => k_is)
    (case fc35 => k_is)
    (case fk35 => k_is)
    (case a36 => k_is)
    (case fl36 => k_is)
    (case fc36 => k_is)
    (case fk36 => k_is)
    (case a37 => k_is)
    (case fl37 => k_is)
    (case fc37 => k_is)
    (case fk37 => k_is)
    (case a39 => k_is)
    (case fl39 => k_is)
    (case fc39 => k_is)
    (case fk39 => k_is)
    (case a40 => k_is)
    (case fl40 => k_is)
    (case fc40 => k_is)
    (case fk40 => k_is)
    (case a41 => k_is)
    (case fl41 => k_is)
    (case fc41 => k_is)
    (case fk41 => k_is)
    (case a42 => k_is)
    (case fl42 => k_is)
    (case fc42 => k_is)
    (case fk42 => k_is)
    (case a43 => k_is)
    (case fl43 => k_is)
    (case fc43 => k_is)
    (case fk43 => k_is)
    (case a44 => k_is)
    (case fl44 => k_is)
    (case fc44 => k_is)
    (case fk44 => k_is)
    (case a45 => k_is)
    (case fl45 => k_is)
    (case fc45 => k_is)
    (case fk45 => k_is)
    (case a46 => k_is)
    (case fl46 => k_is)
    (case fc46 => k_is)
    (case fk46 => k_is)
    (case a47 => k_is)
    (case fl47 => k_is)
    (case fc47 => k_is)
    (case fk47 => k_is)
    (case a48 => k_is)
    (case fl48 => k_is)
    (case fc48 => k_is)
    (case fk48 => k_is)
    (case a49 => k_is)
    (case fl49 => k_is)
    (case fc49 => k_is)
    (case fk49 => k_is)
    (case a50 => k_is)
    (case fl50 => k_is)
    (case fc50 => k_is)
    (case fk50 => k_is)
    (case a51 => k_is)
    (case fl51 => k_is)
    (case fc51 => k_is)
    (case fk51 => k_is)
    (case a52 => k_is)
    (case fl52 => k_is)
    (case fc52 => k_is)
    (case fk52 => k_is)
    (case aC => k_is)
    (case e0 => k_is)
    (case i0 => k_is)
    (case ml0 => k_is)
    (case mc0 => k_is)
    (case mk0 => k_is)
    (case e19 => k_is)
    (case i19 => k_is)
    (case ml19 => k_is)
    (case mc19 => k_is)
    (case mk19 => k_is)
    (case l0T => k_is)
    (case l1T => k_is)
    (case rpg => k_is)
    (case rhd => k_is)
    (case rpo => k_is)
    (case rsa => k_is)
    (case rcc1 => k_is)
    (case rcc4 => k_is)
    (case rmkC => k_is)
    (case rkC => k_is)
    (case nT => k_is)
    (case nB => k_is)
    (case cc2 => k_is)
    (case cc3 => k_is)
    (case ci => k_is)
    (case ct => k_is)
    (case sint => k_is)
    (case sbool => k_is)
    (case sNoneType => k_is)
    (case sstr => k_is)
    (case slist => k_is)
    (case stuple => k_is)
    (case sdict => k_is)
    (case bint => k_is)
    (case bbool => k_is)
    (case blist => k_is)
    (case btuple => k_is)
    (case gP => k_is)
    (case gG => k_is)
    (case g16 => k_is)
    (case g4 => k_is)
    (case z_len => k_is)
    (case z_abs => k_is)
    (case z_max => k_is)
    (case z_repr => k_is)
    (case z_divmod => k_is)
    (case z_isinstance => k_is)
    (case z_int => k_is)
    (case z_bool => k_is)
    (case z_list => k_is)
    (case z_tuple => k_is)
    (case z_str => k_is)
    (case z_min => k_is)
    (case z_sorted => k_is)
    (case z_dict => k_is)
    (case z_zip => k_is)
    (case z_range => k_is)
    (case z_all => k_is)
    (case z_sum => k_is)

