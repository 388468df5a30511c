import PyProof.Rows.All
import Wide.All
import OpenK.AllK
import Wide.FinOn
import HandS.ForMost
import HandS.Zip
import HandS.Deep
import HandS.Style
import HandS.IsInst
import HandS.Evl
import HandS.SortRule
import HandS.Walk
import HandS.More
import HandS.Defaults
import HandS.WordsDict
import HandS.OwnEq
import HandS.Property
import HandS.ClsMeth
import HandS.Gcd
import HandS.FStr
import HandS.MakeKw
import HandS.RaiseMore
import KE.KOpsOwn
import KE.KCallOwn
import KE.KFmtOwn
import HandS.Wide
import HandS.Codes
import PySem.Challenge.RW_shrunkrooms_k11_ratios_reckoned
import PyProof.Rows.StrDigitsNeg
import PyProof.Rows.StrJoinMade
import HandS.MakeKwOnly
import HandS.Ends
set_option Elab.async false
set_option maxRecDepth 100000
set_option maxHeartbeats 4000000
namespace B71
/-! ### lowest terms -/
def gI (a b : Int) : Int := if b < 0 then 0 - ((Nat.gcd a.natAbs b.natAbs : Nat) : Int) else ((Nat.gcd a.natAbs b.natAbs : Nat) : Int)
def low (a b : Int) : Int × Int := (a.fdiv (gI a b), b.fdiv (gI a b))
theorem gcd_pos {a b : Int} (h : b ≠ 0) : 0 < Nat.gcd a.natAbs b.natAbs := Nat.gcd_pos_of_pos_right _ (Int.natAbs_pos.mpr h)
theorem gI_ne {a b : Int} (h : b ≠ 0) : gI a b ≠ 0 := by
  have := gcd_pos (a := a) h
  unfold gI
  split <;> omega
theorem gI_abs (a b : Int) : (gI a b).natAbs = Nat.gcd a.natAbs b.natAbs := by
  unfold gI
  split <;> omega
theorem gI_le {a b : Int} (h : b ≠ 0) : (gI a b).natAbs ≤ b.natAbs := by
  rw [gI_abs]
  exact Nat.le_of_dvd (Int.natAbs_pos.mpr h) (Nat.gcd_dvd_right _ _)
theorem log_mono {a b : Nat} (h : a ≤ b) : a.log2 ≤ b.log2 := by
  by_cases h0 : a = 0
  · subst h0; simp
  · exact (Nat.le_log2 (by omega)).mpr (Nat.le_trans (Nat.log2_self_le h0) h)
theorem gI_dvd_l (a b : Int) : gI a b ∣ a := by
  rw [← Int.natAbs_dvd_natAbs, gI_abs]; exact Nat.gcd_dvd_left _ _
theorem gI_dvd_r (a b : Int) : gI a b ∣ b := by
  rw [← Int.natAbs_dvd_natAbs, gI_abs]; exact Nat.gcd_dvd_right _ _
theorem fdiv_abs {a g : Int} (h : g ∣ a) (g0 : g ≠ 0) : (a.fdiv g).natAbs ≤ a.natAbs := by
  obtain ⟨c, rfl⟩ := h
  rw [Int.mul_fdiv_cancel_left _ g0, Int.natAbs_mul]
  exact Nat.le_mul_of_pos_left _ (Int.natAbs_pos.mpr g0)
theorem low_top {a b : Int} (h : b ≠ 0) : (low a b).1.natAbs ≤ a.natAbs := fdiv_abs (gI_dvd_l a b) (gI_ne h)
theorem low_bot {a b : Int} (h : b ≠ 0) : (low a b).2.natAbs ≤ b.natAbs := fdiv_abs (gI_dvd_r a b) (gI_ne h)
theorem low_pos {a b : Int} (h : b ≠ 0) : 0 < (low a b).2 := by
  obtain ⟨c, hc⟩ := gI_dvd_r a b
  have g0 := gI_ne (a := a) h
  have e : (low a b).2 = c := by
    show b.fdiv (gI a b) = c
    have key : ∀ g : Int, g ≠ 0 → b = g * c → b.fdiv g = c := fun g h0 hb => by rw [hb, Int.mul_fdiv_cancel_left _ h0]
    exact key _ g0 hc
  rw [e]
  have gp := gcd_pos (a := a) h
  have hs : (b < 0 ∧ gI a b < 0) ∨ (0 < b ∧ 0 < gI a b) := by
    unfold gI
    split
    · left; omega
    · right; omega
  rcases hs with ⟨h1, h2⟩ | ⟨h1, h2⟩
  · refine Int.lt_of_not_ge fun q => ?_
    have := Int.mul_nonneg_of_nonpos_of_nonpos (Int.le_of_lt h2) q
    omega
  · refine Int.lt_of_not_ge fun q => ?_
    have := Int.mul_nonpos_of_nonneg_of_nonpos (Int.le_of_lt h2) q
    omega
/-- numbers of less than n bits -/
def Bt (n : Nat) (x : Int) : Prop := x.natAbs < 2 ^ n
theorem Bt.mono {n m : Nat} {x : Int} (h : Bt n x) (k : n ≤ m) : Bt m x := Nat.lt_of_lt_of_le h (Nat.pow_le_pow_right (by decide) k)
theorem Bt.mul {n m : Nat} {x y : Int} (h : Bt n x) (k : Bt m y) : Bt (n + m) (x * y) := by
  unfold Bt at *
  rw [Int.natAbs_mul, Nat.pow_add]
  exact Nat.mul_lt_mul'' h k
theorem Bt.add {n : Nat} {x y : Int} (h : Bt n x) (k : Bt n y) : Bt (n + 1) (x + y) := by
  unfold Bt at *
  rw [Nat.pow_succ]
  have := Int.natAbs_add_le x y
  omega
theorem Bt.sub {n : Nat} {x y : Int} (h : Bt n x) (k : Bt n y) : Bt (n + 1) (x - y) := by
  unfold Bt at *
  rw [Nat.pow_succ]
  have := Int.natAbs_sub_le x y
  omega
theorem Bt.le {n : Nat} {x y : Int} (h : Bt n x) (k : y.natAbs ≤ x.natAbs) : Bt n y := Nat.lt_of_le_of_lt k h
theorem Bt.log {n : Nat} {x : Int} (h : Bt n x) (h0 : 0 < n) : x.natAbs.log2 < n := by
  by_cases z : x.natAbs = 0
  · rw [z]; simpa using h0
  · exact (Nat.log2_lt z).mpr h
theorem low_bt {n m : Nat} {a b : Int} (ha : Bt n a) (hb : Bt m b) (h : b ≠ 0) : Bt n (low a b).1 ∧ Bt m (low a b).2 := ⟨ha.le (low_top h), hb.le (low_bot h)⟩
end B71

/-! ### promises where nothing is being shown (guards: none) -/
namespace B71
open PySem PySem.Spec PyProof.Rows L2
/-- a promise that is kept wherever no repr is under way -/
structure FnG (P : Program) (w : World) (K : PySem.W.Frag) (mg : Str → Option Value) (base : Heap) (k : Nat) (f : Addr) (fd : FuncData) (ps : List Str) (sp : Sp) : Prop where
  many : ∀ vs H Q E, sp vs H Q E → vs.length = ps.length
  go : ∀ (A : Around) (outer : List Env) (s : Shared) (H : Hp) (args : Args) (us : List Value) (vs : List V) (Q : VK), A.guards = some [] → Room k A →
    Env0 P w K mg base A outer s H → BindsTo s fd args (ps.zip us) → Vals vs us → sp vs H Q E0 → codeAny (model P w) A (.call (.ref f) args) (CR CX0 outer P w H s Q E0) s
section
variable {P : Program} {w : World} {K : PySem.W.Frag} {mg : Str → Option Value} {base : Heap}
theorem FnG.of {k : Nat} {f : Addr} {fd : FuncData} {ps : List Str} {sp : Sp} (F : FnOk P w K mg base CX0 k f fd ps sp) : FnG P w K mg base k f fd ps sp :=
  ⟨F.len, fun A outer s H args us vs Q _ => F.run A outer s H args us vs Q E0⟩
theorem FnG.up {j k : Nat} {f : Addr} {fd : FuncData} {ps : List Str} {sp : Sp} (F : FnG P w K mg base j f fd ps sp) (h : j ≤ k) : FnG P w K mg base k f fd ps sp :=
  ⟨F.many, fun A outer s H args us vs Q g hr => F.go A outer s H args us vs Q g (hr.mono h)⟩
theorem deeper_guards {A : Around} {env : Env} (h : A.guards = some []) : (A.deeper env).guards = some [] := by
  first
    | exact h
    | (unfold Around.deeper; exact h)
    | (simp [Around.deeper, h])
/-- .. by the body -/
theorem okG {x qual : Str} {st : Stmt} {f : Addr} {fd : FuncData} {N ps : List Str} {k : Nat} {sp : Sp} (F : Fun K x qual st f fd) (S : FnScope N ps (defScope st)) (many : ∀ vs H Q E, sp vs H Q E → vs.length = ps.length)
    (walk : ∀ (cdv : Value) (A : Around) (outer : List Env) (s : Shared) (H : Hp) (vs : List V) (Q : VK), A.guards = some [] → Room k (A.deeper (envOfC qual (defScope st) s.heap.objs.size f cdv)) → sp vs H Q E0 →
      ∃ t, PSs (cxOf CX0 P w K mg base N qual (defScope st) f cdv A outer s H E0).nox (defBody st) t ∧ t { nx := fun _ H' => Q .non H', rt := Q } (start N vs) H) : FnG P w K mg base (k + 1) f fd ps sp := by
  obtain ⟨oc, od, kV, doc, pm, an, cdv, ct, osl, rfl, lk, hcd⟩ := F.ex
  refine ⟨many, fun A outer s H args us vs Q g hr e0 hb r hsp => ?_⟩
  have back := fun b o e => (e0.bs b o e).1
  have KX := e0.mod.kin.keeps back
  have kinds : ∀ y ∈ ps.zip us, (defScope st).names.lookup y.1 = some .local ∨ ((defScope st).names.lookup y.1 = some .cell ∧ ((cellsFrom (s.heap.objs.size + 1) (defScope st).names []).lookup y.1).isSome = true) := by
    rintro ⟨n, v⟩ hy
    exact (S.par n (List.of_mem_zip hy).1).imp id fun q => ⟨q, PySem.W.cellsFrom_some _ _ _ (.inl q)⟩
  refine codeAny_call_function hr.depth (KX _ _ lk) rfl S.co S.gen rfl (PySem.W.codeRec_of KX hcd) (hb _ _ _ _ (wpAny_newFunctionEnv_cells S.kind kinds fun env he s1 inC => ?_))
  subst he
  refine ⟨(e0.mod.nolimit.keeps back).keeps inC.toInCall.keep, codeAny_func ?_⟩
  obtain ⟨t, ht, hq⟩ := walk cdv A outer s H vs Q g (hr.deeper _) hsp
  have J0 := inv_start (CX := CX0) (E := E0) S hr.hd e0 (many _ _ _ _ hsp) r inC
  refine wpAny_mono (ht.nox.run [] s1 (start N vs) H _ J0 hq) (fun fl s' hs => ?_) fun e s' hs => hs
  cases fl with
  | ret u =>
    obtain ⟨v, σ', H', J, rv, q⟩ := hs
    exact ⟨v, H', J.os, J.bare, J.base, J.hok, rv, q⟩
  | next =>
    obtain ⟨σ', H', J, q⟩ := hs
    exact ⟨V.non, H', J.os, J.bare, J.base, J.hok, rfl, q⟩
  | brk => exact hs.elim fun _ z => z.elim fun _ y => y.2.elim
  | cont => exact hs.elim fun _ z => z.elim fun _ y => y.2.elim
end
section
variable {X : Cx} {k : Nat} {f : Addr} {fd : FuncData} {ps : List Str} {sp : Sp} {x : Str} {p pos : Pos} {e : Expr} {es : List Expr} {t : TA}
theorem runG {pins : List (Addr × Obj)} {σ : L2.St} {H : Hp} {s : Shared} {Q : VK} {args : Args} {ws : List Value} {zs : List V} (F : FnG X.prog X.w X.K X.mg X.base k f fd ps sp) (hg : X.A.guards = some []) (hr : Room k X.A)
    (hb : (ws.length = ps.length) → BindsTo s fd args (ps.zip ws)) (I : Inv X pins σ H s) (r : Vals zs ws) (h : sp zs H Q E0) : codeAny (model X.prog X.w) X.A (.call (.ref f) args) (fun r s' => match r with | .ok (.ret u) => EP X pins σ Q u s' | _ => False) s := by
  have hl : ws.length = ps.length := by rw [← r.length]; exact F.many _ _ _ _ h
  refine codeAny_mono (F.go X.A X.stack s H args ws zs Q hg hr I.env0 (hb hl) r h) fun r s' hq => ?_
  cases r with
  | error e => exact False.elim hq
  | ok fl =>
    cases fl with
    | ret u => exact I.after hq
    | next => exact False.elim hq
    | brk => exact False.elim hq
    | cont => exact False.elim hq
theorem pe_callG (F : FnG X.prog X.w X.K X.mg X.base k f fd ps sp) (hgd : X.A.guards = some []) (hr : Room k X.A) (hm : X.mg x = some (.ref f)) (hk : PySem.W.keepIn X.K (.ref f) = true) (hb : Binds X.K fd ps [])
    (ha : PA X (e :: es) t) (hg : Gl X x := by rfl) (hdb : (x == ("__debug__" : Str)) = false := by decide) (he : starEach (e :: es) X.env = (false, eval e X.env) :: starEach es X.env := by rfl)
    (hpl : (backTo pos (starEach es X.env)).any (·.1) = false := by rfl) : PE X (.Call (.Name x p) (e :: es) [] pos) (fun σ H Q => t σ H fun vs H1 => sp vs H1 Q E0) := by
  refine ⟨fun pins s σ H Q I h => wpAny_Call_Name_kw (ld_glob I hg hm ?_ hdb)⟩
  refine PySem.W.callWith_K (h₀ := X.base) I.ok.mod.kin hk (thn (ha.run pos pins s σ H _ I h) fun us s1 ⟨vs, H1, I1, r, q⟩ => ⟨I1.kIn, ?_⟩) he hpl
  refine wpAny_call (codeAny_mono (runG F hgd hr (fun hl => by have z := hb s1 us I1.kIn (by rw [List.append_nil]; exact hl); rw [List.append_nil] at z; exact z) I1 r q) fun r s' hq => ?_)
  cases r with
  | error e => exact hq.elim
  | ok fl =>
    cases fl with
    | ret u => exact hq
    | next => exact hq.elim
    | brk => exact hq.elim
    | cont => exact hq.elim
end
/-! ### repr of data -/
section
variable {X : Cx}
def rReprD (K : PySem.W.Frag) : List V → Hp → VK → Prop := fun xs H Q => ∃ (a : Addr) (d : PyData), xs = [.ref a] ∧ Dp K H (.ref a) d ∧ d.showable = true ∧ d.hasDict = false ∧ d.depth ≤ 60 ∧ d.shown.length ≤ sizeLine ∧ Q (.str d.shown) H
theorem call_reprD (hg : X.A.guards = some []) (hu : X.A.units + 64 < cLine) : CallR X (.builtin "repr") (rReprD X.K) := by
  intro pins s σ H xs us Q I r h
  obtain ⟨a, d, rfl, hd, h1, h2, h3, h4, q⟩ := h
  obtain rfl := Vals.ref1 r
  obtain ⟨as, rd⟩ := Dp.reads I d _ _ hd rfl
  exact repr_of_reads' rd h1 (fun z => by rw [h2] at z; cases z) hg (by omega) (fun _ _ e => e) (fun h' u tk hk => ⟨.str d.shown, H, I.kept (t' := tk) hk, ⟨_, rfl⟩, q⟩) h4
end
/-! ### x not in d.values(): by going through -/
theorem plain_scan : plainId "proto.contains_iter" = true := by decide +kernel
theorem entry_scan : entryFor table "proto.contains_iter" = some Builtin.«proto.contains_iter» := entryFor_of_fast (by kernel_rfl)
theorem no_in_values : typeLookup (.type "dict_values") "__contains__" = pure none := by rw [typeLookup_type, builtinLookup_eq_fast]; kernel_rfl
section
variable {P : Program} {w : World} {A : Around}
theorem scan_ints {it d : Addr} {ep : Nat} {kvs : List (Key × Value)} {i : Int} {t : Tok} {R : Result → Shared → Prop} (hh : A.handled = none) (hints : ∀ p ∈ kvs, ∃ n u, p.2 = Value.int n u) :
    ∀ (m j : Nat) (s : Shared), kvs.length - j = m → j ≤ kvs.length → s.heap.IsValIter it d j kvs.length ep → s.heap.DictAt (mixKind P w) d kvs ep →
    (∀ h', (∀ b o, b ≠ it → s.heap.get? b = some o → h'.get? b = some o) → R (.ok (.ret (.bool ((kvs.drop j).any fun p => match p.2 with | .int n _ => n == i | _ => false)))) { s with heap := h' }) →
    codeAny (model P w) A (.builtin "proto.contains_iter" ⟨[.ref it, .int i t], []⟩) R s := by
  intro m
  induction m with
  | zero =>
    intro j s hk hj hit hd hR
    have e : kvs[j]? = none := List.getElem?_eq_none (by omega)
    refine codeAny_builtin entry_scan ?_
    rw [Around.under_plainId plain_scan _]
    show wpAny _ A.in1 (pyNext (.ref it) >>= _) _ _ s
    refine wpAny_bind (wpAny_pyNext_values_end (knd := mixKind P w) (kvs := kvs) hh hit hd e fun h' hb => ?_)
    have q := hR h' (fun b o hne ho => hb b o hne ho)
    rw [List.drop_of_length_le (by omega)] at q
    exact wpAny_bind (wpAny_rule (wpAny_pure q))
  | succ m ih =>
    intro j s hk hj hit hd hR
    have hlt : j < kvs.length := by omega
    have hg : kvs[j]? = some kvs[j] := List.getElem?_eq_getElem hlt
    obtain ⟨n, u, hn⟩ := hints kvs[j] (List.getElem_mem hlt)
    have hdrop : kvs.drop j = kvs[j] :: kvs.drop (j + 1) := List.drop_eq_getElem_cons hlt
    have ne : d ≠ it := fun z => by
      obtain ⟨o, ho, hc, hdat⟩ := hit
      obtain ⟨od, es, hod, _, hdd, _⟩ := hd
      rw [z, ho] at hod
      cases hod
      rw [hdd] at hdat
      cases hdat
    refine codeAny_builtin entry_scan ?_
    rw [Around.under_plainId plain_scan _]
    show wpAny _ A.in1 (pyNext (.ref it) >>= _) _ _ s
    refine wpAny_bind (wpAny_pyNext_values_item (knd := mixKind P w) (k := kvs[j].1) (v := kvs[j].2) hit hd hg fun h' hit' hs => ?_)
    rw [hn]
    show wpAny _ A.in1 (eqBool (.int n u) (.int i t) >>= _) _ _ _
    refine wpAny_bind (wpAny_eqBool_int ?_)
    by_cases e : n = i
    · have e' : (n == i) = true := by simpa using e
      have q := hR h' (fun b o hne ho => (hs.2 b hne).trans ho)
      rw [hdrop, List.any_cons, hn] at q
      simp only [e', Bool.true_or] at q
      rw [if_pos e']
      exact wpAny_bind (wpAny_rule (wpAny_pure q))
    · have e' : (n == i) = false := by simpa using e
      rw [if_neg (by rw [e']; exact Bool.false_ne_true)]
      refine wpAny_pure ⟨plainId_quiet plain_scan _, ih (j + 1) _ (by omega) (by omega) hit' (hd.at fun o ho => (hs.2 d ne).trans ho) fun h2 k2 => ?_⟩
      have q := hR h2 (fun b o hne ho => k2 b o hne ((hs.2 b hne).trans ho))
      rw [hdrop, List.any_cons, hn] at q
      simpa only [e', Bool.false_or] using q
end
section
variable {X : Cx} {a e : Expr} {ta td : TE} {apos cpos pos : Pos}
def tNotVals (ta td : TE) : TT := fun σ H Q => ta σ H fun x H1 => td σ H1 fun y H2 => ∃ (i : Int) (d : Addr) (kvs : List (Key × V)) (is : List Int), x = .int i ∧ y = .ref d ∧ H2 d = some (.dK kvs) ∧ kvs.map (·.2) = is.map V.int ∧ Q (!decide (i ∈ is)) H2
/-- x not in d.values(), ints -/
theorem pt_notVals (hc : X.calm = true) (ha : PE X a ta) (he : PE X e td) (hm : attributeBase e "values" X.env (eval e X.env) = eval e X.env := by rfl) (hline : (apos.endLine == cpos.line) = true := by rfl) :
    PT X (.Compare a [.NotIn] [.Call (.Attribute e "values" apos) [] [] cpos] pos) (tNotVals ta td) := by
  refine ⟨fun pins s σ H Q I hw => ?_⟩
  refine wpAny_isTrue_Compare1 (thn (ha.run pins s σ H _ I hw) fun v s1 ⟨x, H1, I1, rx, q1⟩ => ?_) (by first | rfl | exact nobehind _ (by decide) (by decide))
  refine wpAny_Call_method (T := "dict") (id := "dict.values") hm rfl hline F.plainAttrs_dict F.slot_dict_values F.type_dict_values (thn (he.run pins s1 σ H1 _ I1 q1) fun u s2 ⟨y, H2, I2, ry, i, d, kvs, is, ex, ey, hd, hi, q⟩ => ?_)
  subst ex ey
  obtain rfl : u = Value.ref d := ry
  obtain ⟨t, rfl⟩ := rx
  obtain ⟨z, hsys, vs, kv, o, es, ep, ho, hx, hdt, r⟩ := I2.hok d _ hd
  have hat : s2.heap.DictAt (mixKind X.prog X.w) d vs ep := ⟨o, es, ho, hx, hdt, r⟩
  refine ⟨hat.dictOf.typeIs, hat.dictOf.mapOf.noDict, ?_⟩
  have I3 : Inv X pins σ H2 { s2 with heap := s2.heap.push { cls := .type "dict_values", data := .fields #[.ref d] } } := I2.kept (t' := s2.toks) fun b ob q => Heap.get?_push_of_some _ q
  have hints : ∀ p ∈ vs, ∃ n u, p.2 = Value.int n u := by
    have key : ∀ {ks : List (Key × V)} {ws : List (Key × Value)} {js : List Int}, KV ks ws → ks.map (·.2) = js.map V.int → ∀ p ∈ ws, ∃ n u, p.2 = Value.int n u := by
      intro ks ws js k
      induction k generalizing js with
      | nil => intro _ p hp; cases hp
      | cons h _ ih =>
        intro hj p hp
        cases js with
        | nil => cases hj
        | cons j js =>
          simp only [List.map_cons, List.cons.injEq] at hj
          rcases List.mem_cons.mp hp with rfl | hp
          · have := h.2
            rw [hj.1] at this
            obtain ⟨u, hu⟩ := this
            exact ⟨j, u, hu⟩
          · exact ih hj.2 p hp
    exact key kv hi
  have hany : (vs.any fun p => match p.2 with | .int n _ => n == i | _ => false) = decide (i ∈ is) := by
    have key : ∀ {ks : List (Key × V)} {ws : List (Key × Value)} {js : List Int}, KV ks ws → ks.map (·.2) = js.map V.int → (ws.any fun p => match p.2 with | .int n _ => n == i | _ => false) = decide (i ∈ js) := by
      intro ks ws js k
      induction k generalizing js with
      | nil =>
        intro hj
        cases js with
        | nil => rfl
        | cons j js => cases hj
      | cons h _ ih =>
        intro hj
        cases js with
        | nil => cases hj
        | cons j js =>
          simp only [List.map_cons, List.cons.injEq] at hj
          have hv := h.2
          rw [hj.1] at hv
          obtain ⟨u, hu⟩ := hv
          rw [List.any_cons, ih hj.2, hu]
          by_cases e : j = i
          · simp [e]
          · have : (j == i) = false := by simpa using e
            simp [this, Ne.symm e]
    exact key kv hi
  have fin : ∀ {E : Value → Shared → Prop}, wpAny (model X.prog X.w) X.A (compareOp .NotIn (.int i t) (.ref s2.heap.objs.size)) (fun c s3 => wpAny (model X.prog X.w) X.A (truthy c) (TP X pins σ Q) X.xe s3) X.xe { s2 with heap := s2.heap.push { cls := .type "dict_values", data := .fields #[.ref d] } } := by
    intro E
    have hview : (s2.heap.push { cls := .type "dict_values", data := .fields #[.ref d] }).IsValuesView s2.heap.objs.size d := ⟨_, Heap.get?_push_size _ rfl, rfl, rfl⟩
    show wpAny _ _ (contains (.ref s2.heap.objs.size) (.int i t) >>= _) _ _ _
    refine wpAny_bind ?_
    unfold contains
    refine wpAny_holding ?_
    refine wpAny_bind (wpAny_specialOf (s := { s2 with heap := _ }) hview.typeIs no_in_values ?_)
    show wpAny _ _ (callSpecialUnlessNone? _ _ _ _ >>= _) _ _ _
    refine wpAny_bind ?_
    unfold callSpecialUnlessNone?
    refine wpAny_bind (wpAny_specialOf (s := { s2 with heap := _ }) hview.typeIs no_in_values (wpAny_pure ?_))
    refine wpAny_bind (wpAny_rule (wpAny_bind (wpAny_tryCatch (wpAny_pyIter_values (knd := mixKind X.prog X.w) (s := { s2 with heap := _ }) hview (hat.push _) ?_))))
    have hsz : (s2.heap.push { cls := .type "dict_values", data := .fields #[.ref d] }).objs.size = s2.heap.objs.size + 1 := by simp [Heap.size_push]
    refine wpAny_bind (wpAny_runValue (scan_ints (I2.ok.hd hc) hints _ 0 _ rfl (Nat.zero_le _) ⟨_, Heap.get?_push_size _ rfl, rfl, rfl⟩ ((hat.push _).push _) fun h' hk => ?_))
    rw [List.drop_zero, hany]
    refine wpAny_pure (wpAny_pure (wpAny_truthy_bool ⟨H2, I2.kept (t' := s2.toks) fun b ob q => hk b ob (fun z => ?_) (Heap.get?_push_of_some _ (Heap.get?_push_of_some _ q)), q⟩))
    have l1 := Heap.lt_size q
    have l2 : b = s2.heap.objs.size + 1 := z.trans hsz
    rw [l2] at l1
    exact absurd l1 (by simp)
  show wpAny _ _ (callWith cpos (.builtin "dict.values") [.ref d] [] []) _ X.xe s2
  exact method_meetsIn F.slot_dict_values F.entry_dict_values rfl (PySem.evalArgs_none ⟨rfl, hat.dictOf.typeIs, F.args_dict_values_1 _, _, meets_dict_values (mixKind X.prog X.w) d hsys, ⟨vs, hat.dictOf⟩, fin (E := X.xe)⟩)
end
end B71

namespace B71
open PySem PySem.Spec PyProof.Rows L2 Evl RZ SrtO
/-- a name that stands for a def that keeps a promise -/
structure Cl (P : Program) (w : World) (K : PySem.W.Frag) (mg : Str → Option Value) (base : Heap) (x : Str) (k : Nat) (ps : List Str) (sp : Sp) : Prop where
  ex : ∃ (f : Addr) (fd : FuncData), FnG P w K mg base k f fd ps sp ∧ Binds K fd ps [] ∧ PySem.W.keepIn K (.ref f) = true ∧ mg x = some (.ref f)
def tCl (sp : Sp) (t : TA) : TE := fun σ H Q => t σ H fun vs H1 => sp vs H1 Q E0
theorem pe_cl {X : Cx} {x : Str} {k : Nat} {ps : List Str} {sp : Sp} {p pos : Pos} {e : Expr} {es : List Expr} {t : TA} (C : Cl X.prog X.w X.K X.mg X.base x k ps sp) (gd : X.A.guards = some []) (hr : Room k X.A) (ha : PA X (e :: es) t)
    (hg : Gl X x := by rfl) (hdb : (x == ("__debug__" : Str)) = false := by decide) (he : starEach (e :: es) X.env = (false, eval e X.env) :: starEach es X.env := by rfl)
    (hpl : (backTo pos (starEach es X.env)).any (·.1) = false := by rfl) : PE X (.Call (.Name x p) (e :: es) [] pos) (tCl sp t) := by
  obtain ⟨f, fd, F, b, kp, m⟩ := C.ex
  exact pe_callG F gd hr m kp b ha hg hdb he hpl
/-- the built-in names are free; the constants -/
theorem u65 {k : Nat} {A : Around} (r : Room k A) : A.units + 65 < cLine := by have := r.un; omega
theorem u1 {k : Nat} {A : Around} (r : Room k A) : A.units + 1 < cLine := by have := r.un; omega
/-! ### heaps -/
theorem ex_upd {H H1 H' : Hp} {p : Addr} {o : HO} (h : H p = none) (e : Ex H H1) (e2 : Ex (upd H1 p o) H') : Ex H H' := (e.mut h).trans e2
/-- a walk over a dict's keys: the lock undone -/
theorem ex_lock {H H1 : Hp} {d : Addr} {u : HO} {od : Obj} (hd : H d = some u) (e : Ex (upd H d (.frz od u)) H1) : Ex H (upd H1 d u) := fun b o h => by
  by_cases z : b = d
  · subst z
    rw [hd] at h
    cases h
    exact upd_same
  · rw [upd_ne z]
    exact e b o (by rw [upd_ne z]; exact h)
/-- what a comprehension gives: from a walk -/
structure Stab {α : Type} (R : α → V → Hp → Prop) : Prop where
  up : ∀ y v H H', Ex H H' → R y v H → R y v H'
  ap : ∀ y v H D acc acc', H D = some (.lst acc) → R y v H → R y v (upd H D (.lst acc'))
theorem Stab.bl {α : Type} {g : α → Bool} : Stab (fun (y : α) v (_ : Hp) => v = .bl (g y)) := ⟨fun _ _ _ _ _ h => h, fun _ _ _ _ _ _ _ h => h⟩
theorem Stab.int {α : Type} {g : α → Int} : Stab (fun (y : α) v (_ : Hp) => v = .int (g y)) := ⟨fun _ _ _ _ _ h => h, fun _ _ _ _ _ _ _ h => h⟩
/-- a new tuple -/
def Tu {α : Type} (g : α → List V) (y : α) (v : V) (H : Hp) : Prop := ∃ r, v = .ref r ∧ H r = some (.tup (g y))
theorem Stab.tu {α : Type} {g : α → List V} : Stab (Tu g) := ⟨fun _ _ _ _ e ⟨r, h1, h2⟩ => ⟨r, h1, e _ _ h2⟩, fun _ _ _ D _ _ hD ⟨r, h1, h2⟩ => ⟨r, h1, by
  have : r ≠ D := fun z => by rw [z, hD] at h2; cases h2
  rw [upd_ne this]; exact h2⟩⟩
theorem paired_snoc {α β : Type} {F : α → β → Prop} : ∀ {as : List α} {bs : List β} {a : α} {b : β}, Paired F as bs → F a b → Paired F (as ++ [a]) (bs ++ [b])
  | _, _, _, _, .nil, h => .cons h .nil
  | _, _, _, _, .cons r t, h => .cons r (paired_snoc t h)
theorem lcW {α : Type} {J : It} {n : Nat} {Gd : Hp → Prop} {Y : Nat → Hp → V → Hp → Prop} (w : Walk J n Gd Y) {g : TG} {tt : TT} {te : TE} {vs : List Nat} {σ : L2.St} {H1 : Hp} {D : Addr} {Qd : Hp → Prop}
    (ys : List α) (hn : n = ys.length) (hz : n ≤ 1000) (f : α → Bool) (R : α → V → Hp → Prop) (st : Stab R) (hD : H1 D = none) (hG : ∀ H, Ex H1 H → Gd H)
    (hs : ∀ i y x H H' (N : Hp → Prop) (Gt : VK), ys[i]? = some y → Ex H1 H → Y i H x H' → (f y = false → ∀ H2, Ex H' H2 → N H2) → (f y = true → ∀ v H2, Ex H' H2 → R y v H2 → Gt v H2) →
      Ex H H' ∧ g x (wipe σ vs) H' fun σ2 H2 => wipe σ2 vs = wipe σ vs ∧ tt σ2 H2 fun b H3 => if b = true then te σ2 H3 Gt else N H3)
    (hd : ∀ acc H, Ex H1 H → H D = some (.lst acc) → Paired (fun y v => R y v H) (ys.filter f) acc → Qd H) :
    ∃ W : Nat → Nat → Hp → Prop, (∃ m, W 0 m (upd H1 D (.lst []))) ∧ ∀ i m H, W i m H →
      (J.stop i H ∧ Qd H) ∨ (J.go i H ∧ ∃ Nx : Hp → Prop, (∀ H', Nx H' → ∃ m', m' < m ∧ W (i + 1) m' H') ∧ ∀ x H', J.yld i H x H' → g x (wipe σ vs) H' fun σ2 H2 => wipe σ2 vs = wipe σ vs ∧ tt σ2 H2 fun b H3 =>
        if b = true then te σ2 H3 fun y H4 => ∃ acc, H4 D = some (.lst acc) ∧ acc.length < sizeLine ∧ Nx (upd H4 D (.lst (acc ++ [y]))) else Nx H3) := by
  have Rup : ∀ {l : List α} {acc : List V} {H H' : Hp}, Ex H H' → Paired (fun y v => R y v H) l acc → Paired (fun y v => R y v H') l acc := fun e p => Paired.mapP p fun _ _ h => st.up _ _ _ _ e h
  refine lc_it w (fun i H => Ex H1 H ∧ ∃ acc, H D = some (.lst acc) ∧ acc.length ≤ i ∧ Paired (fun y v => R y v H) ((ys.take i).filter f) acc) ⟨Ex.new hD, [], upd_same, Nat.le_refl _, .nil⟩ (fun i H _ p => hG H p.1) ?_ ?_
  · rintro i x H H' hi ⟨e1, acc, hacc, hl, hp⟩ hy
    have hi' : i < ys.length := hn ▸ hi
    have et : ys.take (i + 1) = ys.take i ++ [ys[i]] := by rw [List.take_add_one, List.getElem?_eq_getElem hi']; rfl
    refine (hs i ys[i] x H H' _ _ (List.getElem?_eq_getElem hi') e1 hy (fun hf H2 e2 => ?_) (fun hf v H2 e2 hR => ?_)).2
    · have e3 : Ex H H' := (hs i ys[i] x H H' (fun _ => True) (fun _ _ => True) (List.getElem?_eq_getElem hi') e1 hy (fun _ _ _ => trivial) (fun _ _ _ _ _ => trivial)).1
      refine ⟨e1.trans (e3.trans e2), acc, e2 _ _ (e3 _ _ hacc), by omega, ?_⟩
      rw [et, List.filter_append, List.filter_cons_of_neg (by rw [hf]; exact Bool.false_ne_true), List.filter_nil, List.append_nil]
      exact Rup (e3.trans e2) hp
    · have e3 : Ex H H' := (hs i ys[i] x H H' (fun _ => True) (fun _ _ => True) (List.getElem?_eq_getElem hi') e1 hy (fun _ _ _ => trivial) (fun _ _ _ _ _ => trivial)).1
      have h2 := e2 _ _ (e3 _ _ hacc)
      refine ⟨acc, h2, Nat.lt_of_le_of_lt hl (small1000 (by omega)), (e1.trans (e3.trans e2)).mut hD, acc ++ [v], upd_same, by simp; omega, ?_⟩
      rw [et, List.filter_append, List.filter_cons_of_pos hf, List.filter_nil]
      exact paired_snoc (Paired.mapP (Rup (e3.trans e2) hp) fun _ _ h => st.ap _ _ _ _ _ _ h2 h) (st.ap _ _ _ _ _ _ h2 hR)
  · rintro H ⟨e1, acc, hacc, _, hp⟩
    rw [hn, List.take_length] at hp
    exact hd acc H e1 hacc hp
theorem paired_bl {α : Type} {g : α → Bool} : ∀ {l : List α} {acc : List V}, Paired (fun y v => v = V.bl (g y)) l acc → acc = (l.map g).map V.bl
  | _, _, .nil => rfl
  | _, _, .cons r t => by rw [List.map_cons, List.map_cons, ← paired_bl t, r]
theorem paired_int {α : Type} {g : α → Int} : ∀ {l : List α} {acc : List V}, Paired (fun y v => v = V.int (g y)) l acc → acc = (l.map g).map V.int
  | _, _, .nil => rfl
  | _, _, .cons r t => by rw [List.map_cons, List.map_cons, ← paired_int t, r]
theorem filter_yes {α : Type} (l : List α) : l.filter (fun _ => true) = l := List.filter_eq_self.mpr fun _ _ => rfl
theorem bt_len : bootBuiltins "len" = some (.builtin "len") := by decide +kernel
theorem bt_abs : bootBuiltins "abs" = some (.builtin "abs") := by decide +kernel
theorem bt_max : bootBuiltins "max" = some (.builtin "max") := by decide +kernel
theorem bt_min : bootBuiltins "min" = some (.builtin "min") := by decide +kernel
theorem bt_repr : bootBuiltins "repr" = some (.builtin "repr") := by decide +kernel
theorem bt_divmod : bootBuiltins "divmod" = some (.builtin "divmod") := by decide +kernel
theorem bt_all : bootBuiltins "all" = some (.builtin "all") := by decide +kernel
theorem bt_isinstance : bootBuiltins "isinstance" = some (.builtin "isinstance") := by decide +kernel
theorem bt_sorted : bootBuiltins "sorted" = some (.builtin "sorted") := by decide +kernel
theorem bt_int : bootBuiltins "int" = some (.type "int") := by decide +kernel
theorem bt_bool : bootBuiltins "bool" = some (.type "bool") := by decide +kernel
theorem bt_list : bootBuiltins "list" = some (.type "list") := by decide +kernel
theorem bt_tuple : bootBuiltins "tuple" = some (.type "tuple") := by decide +kernel
theorem bt_dict : bootBuiltins "dict" = some (.type "dict") := by decide +kernel
theorem kt_int_int {K : PySem.W.Frag} : PySem.W.kitOne K (.type "int") (.type "int") = some true := kit_ty (by decide +kernel)
theorem kt_int_bool {K : PySem.W.Frag} : PySem.W.kitOne K (.type "int") (.type "bool") = some false := kit_ty (by decide +kernel)
theorem kt_tuple_tuple {K : PySem.W.Frag} : PySem.W.kitOne K (.type "tuple") (.type "tuple") = some true := kit_ty (by decide +kernel)
theorem kt_list_list {K : PySem.W.Frag} : PySem.W.kitOne K (.type "list") (.type "list") = some true := kit_ty (by decide +kernel)
end B71

namespace B71
open PySem PySem.Spec PyProof.Rows L2
/-! ### data: ints, pairs, rows of them -/
def iD (n : Nat) : PyData := .int (n : Int)
def pD (p : Nat × Nat) : PyData := .tuple [.int (p.1 : Int), .int (p.2 : Int)]
theorem iD_lay (n : Nat) : (iD n).canLay0 = true := by simp [iD, PyData.canLay0]
theorem pD_lay (p : Nat × Nat) : (pD p).canLay0 = true := by simp [pD, PyData.canLay0, PyData.canLayAll0]
theorem iD_depth (n : Nat) : (iD n).depth ≤ 1 := by simp [iD, PyData.depth]
theorem pD_depth (p : Nat × Nat) : (pD p).depth ≤ 1 := by simp [pD, PyData.depth, PyData.depthAll]
theorem all_lay {α : Type} {f : α → PyData} (h : ∀ x, (f x).canLay0 = true) : ∀ l : List α, PyData.canLayAll0 (l.map f) = true
  | [] => by simp [PyData.canLayAll0]
  | x :: l => by simp [PyData.canLayAll0, h x, all_lay h l]
theorem all_depth {α : Type} {f : α → PyData} (h : ∀ x, (f x).depth ≤ 1) : ∀ l : List α, PyData.depthAll (l.map f) ≤ 1
  | [] => by simp [PyData.depthAll]
  | x :: l => by
    have h1 := h x
    have h2 := all_depth h l
    simp only [List.map_cons, PyData.depthAll]
    omega
theorem sh_of {d : PyData} (h : d.canLay0 = true) (h2 : d.depth ≤ 64) : SeqAt.shaped d = true := by
  show (d.canLay0 && decide (d.depth ≤ 64)) = true
  rw [Bool.and_eq_true]
  exact ⟨h, decide_eq_true h2⟩
theorem list_sh {α : Type} {f : α → PyData} (h : ∀ x, (f x).canLay0 = true) (h1 : ∀ x, (f x).depth ≤ 1) (l : List α) : SeqAt.shaped (.list (l.map f)) = true :=
  sh_of (by simp only [PyData.canLay0]; exact all_lay h l) (by have := all_depth h1 l; simp only [PyData.depth]; omega)
theorem tup_sh {α : Type} {f : α → PyData} (h : ∀ x, (f x).canLay0 = true) (h1 : ∀ x, (f x).depth ≤ 1) (l : List α) : SeqAt.shaped (.tuple (l.map f)) = true :=
  sh_of (by simp only [PyData.canLay0]; exact all_lay h l) (by have := all_depth h1 l; simp only [PyData.depth]; omega)
theorem is_sh (l : List Nat) : SeqAt.shaped (.list (l.map iD)) = true := list_sh iD_lay iD_depth l
theorem ps_sh (l : List (Nat × Nat)) : SeqAt.shaped (.list (l.map pD)) = true := list_sh pD_lay pD_depth l
theorem p_sh (p : Nat × Nat) : SeqAt.shaped (pD p) = true := sh_of (pD_lay p) (by have := pD_depth p; omega)
theorem iD_eqv (a b : Nat) : PyData.eqv (iD a) (iD b) = decide (a = b) := by
  show ((a : Int) == (b : Int)) = _
  by_cases h : a = b
  · simp [h]
  · rw [decide_eq_false h]; exact beq_eq_false_iff_ne.mpr (by omega)
theorem pD_eqv (p q : Nat × Nat) : PyData.eqv (pD p) (pD q) = decide (p = q) := by
  obtain ⟨a, b⟩ := p
  obtain ⟨c, d⟩ := q
  have e : PyData.eqv (pD (a, b)) (pD (c, d)) = (((a : Int) == (c : Int)) && (((b : Int) == (d : Int)) && true)) := by simp only [pD, PyData.eqv, PyData.eqvAll]
  rw [e]
  by_cases h1 : a = c
  · by_cases h2 : b = d
    · simp [h1, h2]
    · have q : ((b : Int) == (d : Int)) = false := beq_eq_false_iff_ne.mpr (by omega)
      rw [q]; simp [h2]
  · have q : ((a : Int) == (c : Int)) = false := beq_eq_false_iff_ne.mpr (by omega)
    rw [q]; simp [h1]
theorem all_eqv {α : Type} [DecidableEq α] {f : α → PyData} (h : ∀ a b, PyData.eqv (f a) (f b) = decide (a = b)) : ∀ l m : List α, PyData.eqvAll (l.map f) (m.map f) = decide (l = m)
  | [], [] => by simp [PyData.eqvAll]
  | [], _ :: _ => by simp [PyData.eqvAll]
  | _ :: _, [] => by simp [PyData.eqvAll]
  | a :: l, b :: m => by
    simp only [List.map_cons, PyData.eqvAll, h a b, all_eqv h l m, List.cons.injEq]
    by_cases e : a = b <;> simp [e]
theorem is_eqv (l m : List Nat) : PyData.eqv (.list (l.map iD)) (.list (m.map iD)) = decide (l = m) := by
  show PyData.eqvAll _ _ = _
  exact all_eqv iD_eqv l m
theorem ps_eqv (l m : List (Nat × Nat)) : PyData.eqv (.list (l.map pD)) (.list (m.map pD)) = decide (l = m) := by
  show PyData.eqvAll _ _ = _
  exact all_eqv pD_eqv l m
section
variable {K : PySem.W.Frag} {H : Hp}
/-- a list of ints as values -/
def vI (l : List Nat) : List V := l.map fun (n : Nat) => V.int (n : Int)
theorem vI_len (l : List Nat) : (vI l).length = l.length := List.length_map _
theorem dp_is : ∀ l : List Nat, DpAll K H (vI l) (l.map iD)
  | [] => .nil
  | n :: l => .cons (.int _) (dp_is l)
theorem dp_il {a : Addr} {l : List Nat} (h : H a = some (.lst (vI l))) : Dp K H (.ref a) (.list (l.map iD)) := .lst (.inl (.inl h)) (dp_is l)
theorem dp_p {r : Addr} {p : Nat × Nat} (h : H r = some (.tup [.int (p.1 : Nat), .int (p.2 : Nat)])) : Dp K H (.ref r) (pD p) := .tup (.inl (.inl h)) (.cons (.int _) (.cons (.int _) .nil))
theorem dp_ps : ∀ {rs : List Addr} {l : List (Nat × Nat)}, Paired (fun (r : Addr) (p : Nat × Nat) => H r = some (.tup [.int (p.1 : Nat), .int (p.2 : Nat)])) rs l → DpAll K H (rs.map V.ref) (l.map pD)
  | _, _, .nil => .nil
  | _, _, .cons h t => .cons (dp_p h) (dp_ps t)
theorem dp_pl {a : Addr} {rs : List Addr} {l : List (Nat × Nat)} (h : H a = some (.lst (rs.map V.ref))) (hp : Paired (fun (r : Addr) (p : Nat × Nat) => H r = some (.tup [.int (p.1 : Nat), .int (p.2 : Nat)])) rs l) : Dp K H (.ref a) (.list (l.map pD)) := .lst (.inl (.inl h)) (dp_ps hp)
theorem dp_pt {a : Addr} {rs : List Addr} {l : List (Nat × Nat)} (h : H a = some (.tup (rs.map V.ref))) (hp : Paired (fun (r : Addr) (p : Nat × Nat) => H r = some (.tup [.int (p.1 : Nat), .int (p.2 : Nat)])) rs l) : Dp K H (.ref a) (.tuple (l.map pD)) := .tup (.inl (.inl h)) (dp_ps hp)
end
end B71

namespace B71
open PySem PySem.Spec PyProof.Rows L2
structure Rp (d : PyData) : Prop where
  lay : d.canLay0 = true
  dp : d.depth ≤ 3
  wt : d.weight ≤ 20
  sh : d.showable = true
  nd : d.hasDict = false
  ish : d.intsShort 13 = true
theorem rp_i {n : Nat} (h : n < 4) : Rp (iD n) := by
  have hs : ∀ m : Nat, m < 4 → (PyData.intsShort 13 (iD m)) = true ∧ (PyData.showable (iD m)) = true := by decide +kernel
  refine ⟨iD_lay n, Nat.le_trans (iD_depth n) (by decide), ?_, (hs n h).2, rfl, (hs n h).1⟩
  match n, h with
  | 0, _ => decide +kernel
  | 1, _ => decide +kernel
  | 2, _ => decide +kernel
  | 3, _ => decide +kernel
theorem rp_p {p : Nat × Nat} (h1 : p.1 < 4) (h2 : p.2 < 4) : Rp (pD p) := by
  have a := rp_i h1
  have b := rp_i h2
  have w : ∀ m : Nat, m < 4 → PyData.weight (iD m) ≤ 5 := by decide +kernel
  have w1 := w p.1 h1
  have w2 := w p.2 h2
  unfold iD at a b w1 w2
  refine ⟨pD_lay p, Nat.le_trans (pD_depth p) (by decide), ?_, ?_, rfl, ?_⟩
  · simp only [pD, PyData.weight, PyData.weightAll] at w1 w2 ⊢
    omega
  · have := a.sh
    have := b.sh
    simp only [pD, PyData.showable, PyData.showableAll] at *
    simp_all
  · have := a.ish
    have := b.ish
    simp only [pD, PyData.intsShort, PyData.intsShortAll] at *
    simp_all
section
variable {α : Type} {f : α → PyData}
theorem rp_all : ∀ l : List α, (∀ x ∈ l, Rp (f x)) → PyData.canLayAll0 (l.map f) = true ∧ PyData.depthAll (l.map f) ≤ 3 ∧ PyData.weightAll (l.map f) ≤ 21 * l.length ∧ PyData.showableAll (l.map f) = true ∧ PyData.hasDictAll (l.map f) = false ∧ PyData.intsShortAll 13 (l.map f) = true
  | [], _ => by simp [PyData.canLayAll0, PyData.depthAll, PyData.weightAll, PyData.showableAll, PyData.hasDictAll, PyData.intsShortAll]
  | x :: l, h => by
    have hx := h x (List.mem_cons_self ..)
    obtain ⟨h1, h2, h3, h4, h5, h6⟩ := rp_all l fun y hy => h y (List.mem_cons_of_mem _ hy)
    have hd := hx.dp
    have hw := hx.wt
    simp only [List.map_cons, PyData.canLayAll0, PyData.depthAll, PyData.weightAll, PyData.showableAll, PyData.hasDictAll, PyData.intsShortAll, hx.lay, hx.sh, hx.nd, hx.ish, h1, h4, h5, h6, List.length_cons, Bool.and_self, Bool.or_self, true_and, and_true]
    omega
structure Ro (d : PyData) : Prop where
  sh : d.showable = true
  nd : d.hasDict = false
  dp : d.depth ≤ 60
  ln : d.shown.length ≤ sizeLine
theorem ro_of {d : PyData} (lay : d.canLay0 = true) (dp : d.depth ≤ 60) (wt : d.weight ≤ 2 ^ 20) (sh : d.showable = true) (nd : d.hasDict = false) (ish : d.intsShort 13 = true) : Ro d := by
  refine ⟨sh, nd, dp, ?_⟩
  have hl : PyData.layable0 d = true := by
    show (PyData.canLay0 d && decide (PyData.depth d ≤ 64) && decide (PyData.weight d ≤ 2 ^ 20)) = true
    simp only [Bool.and_eq_true, decide_eq_true_eq]
    exact ⟨⟨lay, by omega⟩, wt⟩
  have := shown_le13 hl ish
  have := sizeLine_eq
  omega
theorem ro_list {l : List α} (h : ∀ x ∈ l, Rp (f x)) (hl : l.length ≤ 1000) : Ro (.list (l.map f)) := by
  obtain ⟨h1, h2, h3, h4, h5, h6⟩ := rp_all l h
  have e : (2 : Nat) ^ 20 = 1048576 := by decide
  refine ro_of ?_ ?_ ?_ ?_ ?_ ?_
  · simp only [PyData.canLay0]; exact h1
  · simp only [PyData.depth]; omega
  · simp only [PyData.weight]; omega
  · simp only [PyData.showable]; exact h4
  · simp only [PyData.hasDict]; exact h5
  · simp only [PyData.intsShort]; exact h6
theorem ro_tup {l : List α} (h : ∀ x ∈ l, Rp (f x)) (hl : l.length ≤ 1000) : Ro (.tuple (l.map f)) := by
  obtain ⟨h1, h2, h3, h4, h5, h6⟩ := rp_all l h
  have e : (2 : Nat) ^ 20 = 1048576 := by decide
  refine ro_of ?_ ?_ ?_ ?_ ?_ ?_
  · simp only [PyData.canLay0]; exact h1
  · simp only [PyData.depth]; omega
  · simp only [PyData.weight]; omega
  · simp only [PyData.showable]; exact h4
  · simp only [PyData.hasDict]; exact h5
  · simp only [PyData.intsShort]; exact h6
end
end B71

/-! ### own operators -/
namespace B71
open PySem PySem.Spec PyProof.Rows L2
/-- what an own method gives back: no NotImplemented -/
theorem back_of {X : Cx} {pins : List (Addr × Obj)} {σ : L2.St} {Q : VK} {u : Value} {s : Shared} (h : EP X pins σ Q u s) : PySem.W.CmpBack (EP X pins σ Q) u s := by
  obtain ⟨v, H', I, r, q⟩ := h
  cases u <;> first | exact ⟨v, H', I, r, q⟩ | (cases v <;> first | exact (nomatch r) | (obtain ⟨_, z⟩ := r; cases z))
section
variable {X : Cx} {n : Nat} {C f : Addr} {fd : FuncData} {sp : Sp}
/-- the call of an own method on values, at the place -/
theorem own_run {A : Around} {ps : List Str} {pins : List (Addr × Obj)} {σ : L2.St} {H : Hp} {s : Shared} {Q : VK} {us : List Value} {vs : List V} (F : FnOk X.prog X.w X.K X.mg X.base CX0 n f fd ps sp) (b : Binds X.K fd ps []) (hr : Room n A) (fr : A.frames = X.A.frames)
    (I : Inv X pins σ H s) (r : Vals vs us) (h : sp vs H Q E0) : wpAny (model X.prog X.w) A (call (.ref f) us) (EP X pins σ Q) X.xe s := by
  have hl := F.len _ _ _ _ h
  have e := I.env0
  have e0 : Env0 X.prog X.w X.K X.mg X.base A X.stack s H := ⟨fr.trans e.frames, e.mod, e.bs, e.bsz, e.funs, e.frf, e.hok, e.bare⟩
  refine wpAny_call (codeAny_mono (F.run A X.stack s H ⟨us, []⟩ us vs Q E0 hr e0 (by
    have z := b s us I.kIn (by rw [List.append_nil, ← r.length]; exact hl)
    rw [List.append_nil] at z
    exact z) r h) fun r s' hq => ?_)
  cases r with
  | error e => exact False.elim hq
  | ok fl =>
    cases fl with
    | ret w => exact I.after hq
    | next => exact False.elim hq
    | brk => exact False.elim hq
    | cont => exact False.elim hq
/-- what the class has for the operator named nm -/
structure OpF (K : PySem.W.Frag) (C f : Addr) (nm : String) : Prop where
  slf : PySem.W.selfFirst K C = true
  fi : PySem.W.findIn K (.ref C) (dunder nm) = some (some (.ref f))
  fn : PySem.W.isFn K (.ref f) = true
/-- .. beside ints -/
structure OpI (K : PySem.W.Frag) (C g : Addr) (nm : String) : Prop where
  rf : PySem.W.findIn K (.ref C) (dunderR nm) = some (some (.ref g))
  rfn : PySem.W.isFn K (.ref g) = true
  i1 : ∃ fo, PySem.W.findIn K (.type "int") (dunder nm) = some fo
  i2 : ∃ ro, PySem.W.findIn K (.type "int") (dunderR nm) = some ro
  sub : PySem.W.subIn K (.type "int") (.ref C) = some false
def IsOwn (C : Addr) (H : Hp) (x : V) : Prop := ∃ a dx fs, x = .ref a ∧ H a = some (.ins C dx fs)
def rOwn (C : Addr) (sp : Sp) : R2 := fun x y H Q => IsOwn C H x ∧ ((∃ i, y = .int i) ∨ IsOwn C H y) ∧ sp [x, y] H Q E0
theorem op_own {op : Operator} {g : Addr} (F : FnOk X.prog X.w X.K X.mg X.base CX0 n f fd ["self", "other"] sp) (o : OpF X.K C f op.info.2) (oi : OpI X.K C g op.info.2) (b : Binds X.K fd ["self", "other"] []) (hr : Room n X.A) : OpR X (binaryOp op) (rOwn C sp) := by
  intro pins s σ H x y v u Q I rx ry h
  obtain ⟨⟨a, dx, fs, rfl, ha⟩, hy, hs⟩ := h
  cases rx
  obtain ⟨mA, J, _⟩ := ins_get I.hok ha
  obtain ⟨od, J, _⟩ := J.look
  obtain ⟨m, hF⟩ := I.fr
  rcases hy with ⟨i, rfl⟩ | ⟨a2, dx2, fs2, rfl, ha2⟩
  · obtain ⟨t, rfl⟩ := ry
    obtain ⟨fo, h1⟩ := oi.i1
    obtain ⟨ro, h2⟩ := oi.i2
    refine PySem.W.ksp_binT (T := "int") hF I.ok.mod.kin J rfl o.slf o.fi o.fn oi.rf (.inr ⟨g, rfl⟩) h1 h2 oi.sub ?_
    exact wpAny_mono (own_run (vs := [.ref a, .int i]) F b hr rfl I (.cons rfl (.cons ⟨t, rfl⟩ .nil)) hs) (fun _ _ q => back_of q) fun _ _ z => z
  · cases ry
    obtain ⟨mB, J2, _⟩ := ins_get I.hok ha2
    obtain ⟨od2, J2, _⟩ := J2.look
    refine PySem.W.binop_K hF I.ok.mod.kin J J2.type o.slf o.fi o.fn ?_
    exact wpAny_mono (own_run (vs := [.ref a, .ref a2]) F b hr rfl I (.cons rfl (.cons rfl .nil)) hs) (fun _ _ q => back_of q) fun _ _ z => z
/-- - x -/
theorem op_ownNeg (F : FnOk X.prog X.w X.K X.mg X.base CX0 n f fd ["self"] sp) (fi : PySem.W.findIn X.K (.ref C) "__neg__" = some (some (.ref f))) (fn : PySem.W.isFn X.K (.ref f) = true) (b : Binds X.K fd ["self"] []) (hr : Room n X.A) :
    UnR X (unaryOp .USub) (fun x H Q => IsOwn C H x ∧ sp [x] H Q E0) := by
  intro pins s σ H x v Q I rx h
  obtain ⟨⟨a, dx, fs, rfl, ha⟩, hs⟩ := h
  cases rx
  obtain ⟨mA, J, _⟩ := ins_get I.hok ha
  obtain ⟨od, J, _⟩ := J.look
  obtain ⟨m, hF⟩ := I.fr
  exact PySem.W.ksp_neg hF I.ok.mod.kin J fi fn (own_run (vs := [.ref a]) F b hr rfl I (.cons rfl .nil) hs)
end
end B71

namespace B71
open PySem PySem.Spec PyProof.Rows L2
section
variable {prog : Program} {w : World} {A : Around} {E : Value → Shared → Prop} {s : Shared} {a C dx : Addr} {i : Int} {t : Tok} {Q : Value → Shared → Prop}
open AutoSeq1 (wpAny_loadPart') in
theorem no_add (ho : s.heap.get? a = some (PySem.W.instObj C dx)) (h : Q .notImplemented s) : wpAny (model prog w) A (call (.builtin "int.__add__") [.int i t, .ref a]) Q E s := by
  refine GQ.call_here PySem.F.slot_int_add (typeIs_int _ _ _) PySem.F.entry_int_add (PySem.F.args_int_add_2 _ _) ?_
  obtain ⟨hp, g, d, tk, os⟩ := s
  wp_walk using wpAny_loadPart' ho
  exact h
open AutoSeq1 (wpAny_loadPart') in
theorem no_sub (ho : s.heap.get? a = some (PySem.W.instObj C dx)) (h : Q .notImplemented s) : wpAny (model prog w) A (call (.builtin "int.__sub__") [.int i t, .ref a]) Q E s := by
  refine GQ.call_here PySem.F.slot_int_sub (typeIs_int _ _ _) PySem.F.entry_int_sub (PySem.F.args_int_sub_2 _ _) ?_
  obtain ⟨hp, g, d, tk, os⟩ := s
  wp_walk using wpAny_loadPart' ho
  exact h
open AutoSeq1 (wpAny_loadPart') in
theorem no_mul (ho : s.heap.get? a = some (PySem.W.instObj C dx)) (h : Q .notImplemented s) : wpAny (model prog w) A (call (.builtin "int.__mul__") [.int i t, .ref a]) Q E s := by
  refine GQ.call_here PySem.F.slot_int_mul (typeIs_int _ _ _) PySem.F.entry_int_mul (PySem.F.args_int_mul_2 _ _) ?_
  obtain ⟨hp, g, d, tk, os⟩ := s
  wp_walk using wpAny_loadPart' ho
  exact h
open AutoSeq1 (wpAny_loadPart') in
theorem no_eq (ho : s.heap.get? a = some (PySem.W.instObj C dx)) (h : Q .notImplemented s) : wpAny (model prog w) A (call (.builtin "int.__eq__") [.int i t, .ref a]) Q E s := by
  refine GQ.call_here PySem.F.slot_int_eq (typeIs_int _ _ _) PySem.F.entry_int_eq (PySem.F.args_int_eq_2 _ _) ?_
  obtain ⟨hp, g, d, tk, os⟩ := s
  wp_walk using wpAny_loadPart' ho
  exact h
/-- an int ahead of an own one: the right one's reflected method is asked -/
theorem refl_own {K : PySem.W.Frag} {op : Operator} {id : String} {f g : Addr} {ox : Obj} {od : Option Obj} (kin : K.In s.heap) (J : PySem.W.InstAt s.heap a ox C od) (sl : Slot "int" (dunder op.info.2) id) (fT : fillsNumberSlot (.type "int") op.info.2 = pure true)
    (slf : PySem.W.selfFirst K C = true) (fi : PySem.W.findIn K (.ref C) (dunder op.info.2) = some (some (.ref f))) (rf : PySem.W.findIn K (.ref C) (dunderR op.info.2) = some (some (.ref g))) (rfn : PySem.W.isFn K (.ref g) = true) (sub : PySem.W.subIn K (.ref C) (.type "int") = some false)
    (no : ∀ R : Value → Shared → Prop, R .notImplemented s → wpAny (model prog w) A (call (.builtin id) [.int i t, .ref a]) R E s)
    (h : wpAny (model prog w) A (call (.ref g) [.ref a, .int i t]) (PySem.W.CmpBack Q) E s) : wpAny (model prog w) A (binaryOp op (.int i t) (.ref a)) Q E s := by
  obtain ⟨cd, rest, hcd, hm⟩ := PySem.W.ksp_first slf
  have right := PySem.W.ksp_try kin J rf rfn h
  rcases ho : op.info with ⟨sg, nm⟩
  rw [ho] at sl fT fi right
  dsimp only at sl fT fi right
  have M1 : PySem.W.Looks (model prog w) s.heap (typeOf (.ref a)) (.ref C) := J.type
  have M2 : PySem.W.Looks (model prog w) s.heap (fillsNumberSlot (.ref C) nm) true := PySem.W.fills_K kin hcd hm fi
  have M3 : PySem.W.Looks (model prog w) s.heap (isSubtype (.ref C) (.type "int")) false := PySem.W.looks_subIn kin sub
  have unl : (Value.type "int" == Value.ref C) = false := Bool.eq_false_iff.mpr fun q => by cases beq_iff_eq.mp q
  have py : numberSlotInPython (.type "int") nm = pure false := rfl
  simp only [binaryOp, ho]
  refine wpAny_holding (wpAny_bind ?_)
  unfold binaryOp1
  refine wpAny_bind (wpAny_typeOf (typeIs_int _ _ _) (wpAny_bind (M1.here (wpAny_bind (wpAny_of_eq fT ?_)))))
  simp only [unl, Bool.false_eq_true, if_false]
  refine wpAny_bind (M2.here ?_)
  simp only [Bool.and_self, if_true]
  refine wpAny_bind (M3.here ?_)
  simp only [Bool.false_eq_true, if_false, pure_bind, Bool.not_false, Bool.and_self, if_true, py]
  refine wpAny_bind (wpAny_tryMethod_declines (typeIs_int _ _ _) sl (no _ ⟨rfl, ?_⟩))
  refine wpAny_bind (wpAny_mono right (fun r s' hr => ?_) fun _ _ e => e)
  obtain ⟨v, rfl, q⟩ := hr
  exact wpAny_bind (wpAny_rule (wpAny_pure (wpAny_pure q)))
end
section
variable {X : Cx} {n : Nat} {C g : Addr} {fd : FuncData} {sp : Sp}
def rOwnR (C : Addr) (sp : Sp) : R2 := fun x y H Q => (∃ i, x = .int i) ∧ IsOwn C H y ∧ sp [y, x] H Q E0
theorem op_ownR {op : Operator} {id : String} {f : Addr} (F : FnOk X.prog X.w X.K X.mg X.base CX0 n g fd ["self", "other"] sp) (o : OpF X.K C f op.info.2) (oi : OpI X.K C g op.info.2) (sub : PySem.W.subIn X.K (.ref C) (.type "int") = some false)
    (sl : Slot "int" (dunder op.info.2) id) (fT : fillsNumberSlot (.type "int") op.info.2 = pure true)
    (no : ∀ {prog : Program} {w : World} {A : Around} {E : Value → Shared → Prop} {s : Shared} {a C dx : Addr} {i : Int} {t : Tok} {Q : Value → Shared → Prop}, s.heap.get? a = some (PySem.W.instObj C dx) → Q .notImplemented s → wpAny (model prog w) A (call (.builtin id) [.int i t, .ref a]) Q E s)
    (b : Binds X.K fd ["self", "other"] []) (hr : Room n X.A) : OpR X (binaryOp op) (rOwnR C sp) := by
  intro pins s σ H x y v u Q I rx ry h
  obtain ⟨⟨i, rfl⟩, ⟨a, dx, fs, rfl, ha⟩, hs⟩ := h
  obtain ⟨t, rfl⟩ := rx
  cases ry
  have hob := (show ObjOk X.prog X.w H s.heap a (.ins C dx fs) from I.hok a _ ha).2.2.2.1
  obtain ⟨mA, J, _⟩ := ins_get I.hok ha
  obtain ⟨od, J, _⟩ := J.look
  refine refl_own I.kIn J sl fT o.slf o.fi oi.rf oi.rfn sub (fun R q => no hob q) ?_
  exact wpAny_mono (own_run (vs := [.ref a, .int i]) F b hr rfl I (.cons rfl (.cons ⟨t, rfl⟩ .nil)) hs) (fun _ _ q => back_of q) fun _ _ z => z
end
end B71

namespace B71
open PySem PySem.Spec PyProof.Rows L2
section
variable {X : Cx} {n : Nat} {C f : Addr} {fd : FuncData} {sp : Sp}
theorem op_eqOwn (F : FnOk X.prog X.w X.K X.mg X.base CX0 n f fd ["self", "other"] sp) (fe : PySem.W.findIn X.K (.ref C) "__eq__" = some (some (.ref f))) (fn : PySem.W.isFn X.K (.ref f) = true) (nf : PySem.W.notFirst X.K C (.type "int") = true) (b : Binds X.K fd ["self", "other"] []) (hr : Room n X.A) : OpR X (compareOp .Eq) (rOwn C sp) := by
  intro pins s σ H x y v u Q I rx ry h
  obtain ⟨⟨a, dx, fs, rfl, ha⟩, hy, hs⟩ := h
  cases rx
  obtain ⟨mA, J, _⟩ := ins_get I.hok ha
  obtain ⟨od, J, _⟩ := J.look
  obtain ⟨m, hF⟩ := I.fr
  rcases hy with ⟨i, rfl⟩ | ⟨a2, dx2, fs2, rfl, ha2⟩
  · obtain ⟨t, rfl⟩ := ry
    refine PySem.W.cmp_K (op := .Eq) (tb := .type "int") hr.units0 hF I.ok.mod.kin J (PySem.W.Looks.of_pure rfl) nf fe fn ?_
    exact wpAny_mono (own_run (vs := [.ref a, .int i]) F b hr rfl I (.cons rfl (.cons ⟨t, rfl⟩ .nil)) hs) (fun _ _ q => back_of q) fun _ _ z => z
  · cases ry
    obtain ⟨mB, J2, _⟩ := ins_get I.hok ha2
    obtain ⟨od2, J2, _⟩ := J2.look
    refine PySem.W.cmp_K (op := .Eq) (tb := .ref C) hr.units0 hF I.ok.mod.kin J J2.type (by simp [PySem.W.notFirst]) fe fn ?_
    exact wpAny_mono (own_run (vs := [.ref a, .ref a2]) F b hr rfl I (.cons rfl (.cons rfl .nil)) hs) (fun _ _ q => back_of q) fun _ _ z => z
/-- int == own -/
theorem op_eqRev (F : FnOk X.prog X.w X.K X.mg X.base CX0 n f fd ["self", "other"] sp) (fe : PySem.W.findIn X.K (.ref C) "__eq__" = some (some (.ref f))) (fn : PySem.W.isFn X.K (.ref f) = true) (sub : PySem.W.subIn X.K (.ref C) (.type "int") = some false) (b : Binds X.K fd ["self", "other"] []) (hr : Room n X.A) : OpR X (compareOp .Eq) (rOwnR C sp) := by
  intro pins s σ H x y v u Q I rx ry h
  obtain ⟨⟨i, rfl⟩, ⟨a, dx, fs, rfl, ha⟩, hs⟩ := h
  obtain ⟨t, rfl⟩ := rx
  cases ry
  have hob := (show ObjOk X.prog X.w H s.heap a (.ins C dx fs) from I.hok a _ ha).2.2.2.1
  obtain ⟨mA, J, _⟩ := ins_get I.hok ha
  obtain ⟨od, J, _⟩ := J.look
  have M1 : PySem.W.Looks (model X.prog X.w) s.heap (typeOf (.ref a)) (.ref C) := J.type
  have M3 : PySem.W.Looks (model X.prog X.w) s.heap (isSubtype (.ref C) (.type "int")) false := PySem.W.looks_subIn I.kIn sub
  have unl : (Value.type "int" != Value.ref C) = true := by
    rw [bne, Bool.not_eq_true']
    exact Bool.eq_false_iff.mpr fun q => by cases beq_iff_eq.mp q
  show wpAny _ _ (richCompare .Eq (.int i t) (.ref a)) _ _ _
  unfold richCompare
  have no1 : oneThing? .Eq (.int i t) (.ref a) = none := rfl
  simp only [no1]
  refine wpAny_holding (wpAny_bind (wpAny_cRoomFor hr.units0 ?_))
  refine wpAny_bind (wpAny_typeOf (typeIs_int _ _ _) (wpAny_bind (M1.here ?_)))
  simp only [unl, if_true]
  refine wpAny_bind (M3.here ?_)
  simp only [Bool.false_eq_true, if_false]
  refine wpAny_bind (wpAny_tryCompare_declines (typeIs_int _ _ _) PySem.F.slot_int_eq (no_eq hob ⟨rfl, ?_⟩))
  simp only [Bool.not_false, if_true]
  refine wpAny_bind (m := tryCompare (.ref a) _ (.int i t)) ?_
  unfold tryCompare
  refine wpAny_bind (PySem.W.ifBound_K I.kIn J fe fn (wpAny_mono (own_run (vs := [.ref a, .int i]) F b hr rfl I (.cons rfl (.cons ⟨t, rfl⟩ .nil)) hs) (fun v s' hv => ?_) fun _ _ z => z))
  have hb := back_of hv
  cases v <;> first | exact hb.elim | exact wpAny_pure (wpAny_pure hv)
/-- str(x) by the class's own __str__ -/
def StrP (Q : VK) : VK := fun v H => ∃ z : Str, v = .str z ∧ Q v H
theorem strBack {pins : List (Addr × Obj)} {σ : L2.St} {Q : VK} {u : Value} {s : Shared} (h : EP X pins σ (StrP Q) u s) : PySem.W.StrBack (EP X pins σ Q) u s := by
  obtain ⟨v, H', I, r, z, rfl, q⟩ := h
  obtain ⟨t, rfl⟩ := r
  exact ⟨.str z, H', I, ⟨t, rfl⟩, q⟩
theorem call_strOwn (F : FnOk X.prog X.w X.K X.mg X.base CX0 n f fd ["self"] sp) (fe : PySem.W.findIn X.K (.ref C) "__str__" = some (some (.ref f))) (fn : PySem.W.isFn X.K (.ref f) = true) (b : Binds X.K fd ["self"] []) (hr : Room (n + 2) X.A) :
    CallR X (.type "str") (fun xs H Q => ∃ a dx fs, xs = [.ref a] ∧ H a = some (.ins C dx fs) ∧ sp [.ref a] H (StrP Q) E0) := by
  intro pins s σ H xs us Q I r h
  obtain ⟨a, dx, fs, rfl, ha, hs⟩ := h
  obtain rfl := Vals.ref1 r
  obtain ⟨mA, J, _⟩ := ins_get I.hok ha
  obtain ⟨od, J, _⟩ := J.look
  have hr1 : Room (n + 1) X.A.in1 := hr.in1
  have hr2 : Room n X.A.in1.in1 := hr1.in1
  exact PySem.W.kso_call hr2.units0 I.kIn J fe fn (wpAny_mono (own_run (A := X.A.in1.in1) (vs := [.ref a]) F b hr2 rfl I (.cons rfl .nil) hs) (fun _ _ q => strBack q) fun _ _ z => z)
/-- repr(x) by the class's own __repr__ -/
theorem call_reprOwn (F : FnOk X.prog X.w X.K X.mg X.base CX0 n f fd ["self"] sp) (fe : PySem.W.findIn X.K (.ref C) "__repr__" = some (some (.ref f))) (fn : PySem.W.isFn X.K (.ref f) = true) (b : Binds X.K fd ["self"] []) (hr : Room (n + 1) X.A) :
    CallR X (.builtin "repr") (fun xs H Q => ∃ a dx fs, xs = [.ref a] ∧ H a = some (.ins C dx fs) ∧ sp [.ref a] H (StrP Q) E0) := by
  intro pins s σ H xs us Q I r h
  obtain ⟨a, dx, fs, rfl, ha, hs⟩ := h
  obtain rfl := Vals.ref1 r
  obtain ⟨mA, J, _⟩ := ins_get I.hok ha
  obtain ⟨od, J, _⟩ := J.look
  have hr1 : Room n X.A.in1 := hr.in1
  refine Calls.call_function_entry PySem.F.kind_repr PySem.F.plain_repr PySem.F.entry_repr (PySem.F.args_repr1 _) ?_
  unfold Builtin.«repr»
  refine wpAny_bind (m := oneArg "repr" _) (wpAny_pure ?_)
  refine wpAny_bind (m := cRoomFor _ _) (wpAny_cRoomFor hr1.units0 ?_)
  have M1 : PySem.W.Looks (model X.prog X.w) s.heap (typeOf (.ref a)) (.ref C) := J.type
  have M2 : PySem.W.Looks (model X.prog X.w) s.heap (typeLookup (.ref C) "__repr__") (some (.ref f)) := PySem.W.looks_findIn I.kIn fe
  refine wpAny_bind (m := specialOf (.ref a) _) ?_
  unfold specialOf
  refine wpAny_bind (M1.here (M2.here ?_))
  refine wpAny_bind (m := callSpecialIfBound? (.ref a) (Str.ofString "__repr__") _) (PySem.W.ifBound_K I.kIn J fe fn (wpAny_mono (own_run (A := X.A.in1) (vs := [.ref a]) F b hr1 rfl I (.cons rfl .nil) hs) (fun v s' hv => ?_) fun _ _ z => ?_))
  · obtain ⟨v', H', I', r', z, rfl, q⟩ := hv
    obtain ⟨t, rfl⟩ := r'
    refine wpAny_bind (wpAny_isInstance (T := "str") (b := true) (typeIs_str _ _ _) isSubtype_str_str ?_)
    exact wpAny_pure ⟨_, rfl, .str z, H', I', ⟨t, rfl⟩, q⟩
  · exact z
/-- x != y: object.__ne__ by the own == -/
theorem op_neOwn (F : FnOk X.prog X.w X.K X.mg X.base CX0 n f fd ["self", "other"] sp) (fe : PySem.W.findIn X.K (.ref C) "__eq__" = some (some (.ref f))) (fn : PySem.W.isFn X.K (.ref f) = true)
    (fne : PySem.W.findIn X.K (.ref C) "__ne__" = some (some (.builtin "object.__ne__"))) (obj : PySem.W.mroIn X.K C (.type "object") = some true) (b : Binds X.K fd ["self", "other"] []) (hr : Room (n + 1) X.A) :
    OpR X (compareOp .NotEq) (fun x y H Q => IsOwn C H x ∧ IsOwn C H y ∧ sp [x, y] H (fun v H' => ∃ k, v = .bl k ∧ Q (.bl (!k)) H') E0) := by
  intro pins s σ H x y v u Q I rx ry h
  obtain ⟨⟨a, dx, fs, rfl, ha⟩, ⟨a2, dx2, fs2, rfl, ha2⟩, hs⟩ := h
  cases rx
  cases ry
  obtain ⟨mA, J, _⟩ := ins_get I.hok ha
  obtain ⟨od, J, _⟩ := J.look
  obtain ⟨mB, J2, _⟩ := ins_get I.hok ha2
  obtain ⟨od2, J2, _⟩ := J2.look
  have hr1 : Room n X.A.in1 := hr.in1
  have M1 : PySem.W.Looks (model X.prog X.w) s.heap (typeOf (.ref a)) (.ref C) := J.type
  have M2 : PySem.W.Looks (model X.prog X.w) s.heap (typeOf (.ref a2)) (.ref C) := J2.type
  have M3 : PySem.W.Looks (model X.prog X.w) s.heap (typeLookup (.ref C) (cmpInfo .NotEq).2.1) (some (.builtin "object.__ne__")) := PySem.W.looks_findIn I.kIn fne
  have key : wpAny (model X.prog X.w) X.A (call (.builtin "object.__ne__") [.ref a, .ref a2]) (fun r s' => (∃ k, r = .bool k) ∧ EP X pins σ Q r s') X.xe s := by
    refine wpAny_call (codeAny_call_builtin PySem.F.slot_object_ne.plain PySem.F.entry_object_ne (PySem.W.check_slot (i := "object.__ne__") (owner := "object") (n := "__ne__") (by decide +kernel) (by decide +kernel) (J.type.andThen (PySem.W.looks_mroIn I.kIn obj)) (PySem.F.args_object_ne_2 _ _) ?_))
    unfold Builtin.«object.__ne__»
    refine wpAny_bind (m := slotArgs "__ne__" 1 _) (wpAny_pure ?_)
    refine wpAny_bind (m := cRoomFor _ _) (wpAny_cRoomFor hr1.units0 ?_)
    refine wpAny_bind (m := callSpecialIfBound? (.ref a) (Str.ofString "__eq__") _) (PySem.W.ifBound_K I.kIn J fe fn (wpAny_mono (own_run (A := X.A.in1) (vs := [.ref a, .ref a2]) F b hr1 rfl I (.cons rfl (.cons rfl .nil)) hs) (fun v s' hv => ?_) fun _ _ z => ?_))
    · obtain ⟨v', H', I', r', k, rfl, q⟩ := hv
      cases (show v = Value.bool k from r')
      refine wpAny_bind (wpAny_truthy_bool (wpAny_pure ⟨⟨_, rfl⟩, .bl (!k), H', I', rfl, q⟩))
    · exact z
  show wpAny _ _ (richCompare .NotEq (.ref a) (.ref a2)) _ _ _
  unfold richCompare
  simp only [oneThing_ref]
  refine wpAny_holding (wpAny_bind (wpAny_cRoomFor hr.units0 ?_))
  refine wpAny_bind (M1.here (wpAny_bind (M2.here ?_)))
  have same : (Value.ref C != Value.ref C) = false := by simp
  simp only [same, Bool.false_eq_true, if_false]
  refine wpAny_bind (wpAny_pure ?_)
  simp only [Bool.false_eq_true, if_false]
  refine wpAny_bind (m := tryCompare (.ref a) _ (.ref a2)) ?_
  unfold tryCompare
  refine wpAny_bind (m := callSpecialIfBound? (.ref a) _ _) ?_
  simp only [callSpecialIfBound?, bindSpecialIfBound?]
  refine wpAny_holding (wpAny_bind (wpAny_bind (wpAny_bind (M1.here (M3.here ?_)))))
  refine wpAny_bind (wpAny_askSetting (wpAny_ite ?_))
  have bd : PySem.W.Looks (model X.prog X.w) s.heap (bindSpecial (.builtin "object.__ne__") (.ref a)) (.builtin "object.__ne__", [.ref a]) := PySem.W.Looks.of_pure (PySem.F.slot_object_ne.bind _)
  have tail : wpAny (model X.prog X.w) X.A (call (.builtin "object.__ne__") ([.ref a] ++ [.ref a2]) >>= fun v => pure (some v)) (fun r s' => ∃ k, r = some (.bool k) ∧ EP X pins σ Q (.bool k) s') X.xe s :=
    wpAny_bind (wpAny_mono key (fun v s' hv => by obtain ⟨⟨k, rfl⟩, q⟩ := hv; exact wpAny_pure ⟨k, rfl, q⟩) fun _ _ z => z)
  have fin : ∀ {E' : Value → Shared → Prop} {R : Option Value → Shared → Prop}, (∀ k s', EP X pins σ Q (.bool k) s' → R (some (.bool k)) s') → (∀ e s', X.xe e s' → E' e s') → wpAny (model X.prog X.w) X.A (call (.builtin "object.__ne__") ([.ref a] ++ [.ref a2]) >>= fun v => pure (some v)) R E' s :=
    fun hR hE => wpAny_mono tail (fun r s' hv => by obtain ⟨k, rfl, q⟩ := hv; exact hR k s' q) hE
  split
  · exact wpAny_bind (bd.here (wpAny_pure (by exact fin (fun k s' q => wpAny_pure (wpAny_pure q)) fun _ _ z => z)))
  · exact wpAny_tryCatch (wpAny_bind (bd.here (wpAny_pure (by exact fin (fun k s' q => wpAny_pure (wpAny_pure q)) fun _ _ z => z))))
end
end B71

namespace B71
open PySem PySem.Spec PyProof.Rows L2 Evl RZ SrtO
def top (i : Nat) : Stmt := PySem.Challenge.pw_shrunkrooms_k11_ratios_reckoned.main.body.getD i (.Pass ⟨0, 0, 0, 0⟩)
abbrev sm (i : Nat) : Stmt := inClass (top 13) i
/-- a name that stands for a def that keeps a promise whatever is under way -/
structure ClO (P : Program) (w : World) (K : PySem.W.Frag) (mg : Str → Option Value) (base : Heap) (x : Str) (k : Nat) (ps : List Str) (sp : Sp) : Prop where
  ex : ∃ (f : Addr) (fd : FuncData), FnOk P w K mg base CX0 k f fd ps sp ∧ Binds K fd ps [] ∧ PySem.W.keepIn K (.ref f) = true ∧ mg x = some (.ref f)
theorem pe_clo {X : Cx} {x : Str} {k : Nat} {ps : List Str} {sp : Sp} {p pos : Pos} {e : Expr} {es : List Expr} {t : TA} (C : ClO X.prog X.w X.K X.mg X.base x k ps sp) (hr : Room k X.A) (ha : PA X (e :: es) t)
    (hg : Gl X x := by rfl) (hdb : (x == ("__debug__" : Str)) = false := by decide) (he : starEach (e :: es) X.env = (false, eval e X.env) :: starEach es X.env := by rfl)
    (hpl : (backTo pos (starEach es X.env)).any (·.1) = false := by rfl) : PE X (.Call (.Name x p) (e :: es) [] pos) (tCl sp t) := by
  obtain ⟨f, fd, F, b, kp, m⟩ := C.ex
  refine ⟨fun pins s σ H Q I h => ?_⟩
  have z := (pe_call (X := X) (p := p) (pos := pos) (E := E0) F hr hg m kp b .nil pass0 ha hdb he hpl).run pins s σ H Q I
  refine z ?_
  show t σ H fun vs H1 => sp (vs ++ []) H1 Q E0
  simp only [List.append_nil]
  exact h
theorem op_fdivZ {X : Cx} : OpR X (binaryOp .FloorDiv) (rI (fun _ j => j ≠ 0 ∧ j.natAbs.log2 < 9000) fun i j => .int (i.fdiv j)) := opI fun _ _ _ _ _ _ _ hc q => floordiv_int hc.1 q (.inl (PyProof.noPylong_of_log2 hc.2))
theorem mulOk {n m : Nat} {x y : Int} (h : Bt n x) (k : Bt m y) (h0 : 0 < n) (h1 : 0 < m) (h2 : n + m ≤ 1000000) : CMulW x y := wide_mul h k h0 h1 h2
/-! ### the class -/
structure RCl (K : PySem.W.Frag) (mg : Str → Option Value) (C : Addr) : Prop where
  cl : Cls K C
  mgC : mg "Ratio" = some (.ref C)
  nT : NoAttr K C "own_top"
  nB : NoAttr K C "own_bottom"
  c1 : PySem.W.findIn K (.ref C) "__class__" = some (some (.builtin "object.__class__"))
  c2 : PySem.W.specialIn K (.builtin "object.__class__") "__get__" = some (some (.builtin "getset_descriptor.__get__"))
  c3 : PySem.W.takesIn K (.builtin "object.__class__") = some true
  c4 : PySem.W.mroIn K C (.type "object") = some true
  kI : PySem.W.kitOne K (.type "int") (.ref C) = some false
  kB : PySem.W.kitOne K (.type "bool") (.ref C) = some false
  kN : PySem.W.kitOne K (.type "NoneType") (.ref C) = some false
  kS : PySem.W.kitOne K (.type "str") (.ref C) = some false
  kL : PySem.W.kitOne K (.type "list") (.ref C) = some false
  kT : PySem.W.kitOne K (.type "tuple") (.ref C) = some false
  rI : PySem.W.kitOne K (.ref C) (.type "int") = some false
  rB : PySem.W.kitOne K (.ref C) (.type "bool") = some false
theorem kt_own {K : PySem.W.Frag} {C : Addr} : PySem.W.kitOne K (.ref C) (.ref C) = some true := by
  unfold PySem.W.kitOne
  rw [if_pos (by simp)]
/-- a Ratio of top t, bottom b at a -/
def rf (t b : Int) : List (Str × V) := [("own_top", .int t), ("own_bottom", .int b)]
def Rt (C : Addr) (H : Hp) (a : Addr) (t b : Int) : Prop := ∃ dx, H a = some (.ins C dx (rf t b))
theorem Rt.up {C : Addr} {H H' : Hp} {a : Addr} {t b : Int} (h : Rt C H a t b) (e : Ex H H') : Rt C H' a t b := h.imp fun _ q => e _ _ q
theorem tb_ne : ¬ (("own_top" : Str) = "own_bottom") := by decide +kernel
theorem rf_top {t b : Int} : (rf t b).lookup ("own_top" : Str) = some (.int t) := rfl
theorem rf_bot {t b : Int} : (rf t b).lookup ("own_bottom" : Str) = some (.int b) := by
  have e : (("own_bottom" : Str) == "own_top") = false := by decide +kernel
  unfold rf
  rw [List.lookup_cons, e]
  rfl
theorem put_rf {t b : Int} : putF "own_bottom" (.int b) (putF "own_top" (.int t) []) = rf t b := by
  show (if ("own_top" : Str) = "own_bottom" then [(("own_top" : Str), V.int b)] else (("own_top" : Str), V.int t) :: putF "own_bottom" (V.int b) []) = rf t b
  rw [if_neg tb_ne]
  rfl
theorem RCl.ty {K : PySem.W.Frag} {mg : Str → Option Value} {C : Addr} (R : RCl K mg C) {H : Hp} {a dx : Addr} {fs : List (Str × V)} (h : H a = some (.ins C dx fs)) : TyX K H (.ref a) (.ref C) := .base (.ins h R.cl R.c1 R.c2 R.c3 R.c4)
/-- an int or a Ratio, as a pair -/
def Num (C : Addr) (H : Hp) (v : V) (t b : Int) : Prop := (v = .int t ∧ b = 1) ∨ ∃ a, v = .ref a ∧ Rt C H a t b
theorem Num.up {C : Addr} {H H' : Hp} {v : V} {t b : Int} (h : Num C H v t b) (e : Ex H H') : Num C H' v t b := h.imp id fun ⟨a, h1, h2⟩ => ⟨a, h1, h2.up e⟩
/-- the promise to hand back a new Ratio -/
def RetR (C : Addr) (p : Int × Int) (H : Hp) (Q : VK) : Prop := ∀ x H', H x = none → Ex H H' → Rt C H' x p.1 p.2 → Q (.ref x) H'
structure Tx (mg : Str → Option Value) : Prop where
  b_len : mg "len" = none
  b_abs : mg "abs" = none
  b_max : mg "max" = none
  b_repr : mg "repr" = none
  b_divmod : mg "divmod" = none
  b_isinstance : mg "isinstance" = none
  b_int : mg "int" = none
  b_bool : mg "bool" = none
  b_list : mg "list" = none
  b_tuple : mg "tuple" = none
  b_str : mg "str" = none
  b_range : mg "range" = none
theorem bt_str : bootBuiltins "str" = some (.type "str") := by decide +kernel
end B71

namespace B71
open PySem PySem.Spec PyProof.Rows L2 Evl RZ SrtO
/-- a value's kind: is it an int, a bool, a Ratio -/
structure Kd (K : PySem.W.Frag) (C : Addr) (H : Hp) (v : V) (i b r : Bool) : Prop where
  ex : ∃ t, TyX K H v t ∧ PySem.W.kitOne K t (.type "int") = some i ∧ PySem.W.kitOne K t (.type "bool") = some b ∧ PySem.W.kitOne K t (.ref C) = some r
theorem kd_int {K : PySem.W.Frag} {mg : Str → Option Value} {C : Addr} (R : RCl K mg C) {H : Hp} (i : Int) : Kd K C H (.int i) true false false := ⟨_, .base (.int i), kt_int_int, kt_int_bool, R.kI⟩
theorem kd_own {K : PySem.W.Frag} {mg : Str → Option Value} {C : Addr} (R : RCl K mg C) {H : Hp} {a dx : Addr} {fs : List (Str × V)} (h : H a = some (.ins C dx fs)) : Kd K C H (.ref a) false false true := ⟨_, R.ty h, R.rI, R.rB, kt_own⟩
def spIsI (K : PySem.W.Frag) (C : Addr) : Sp := fun vs H Q _ => ∃ (v : V) (i b r : Bool), vs = [v] ∧ Kd K C H v i b r ∧ RetV (.bl (i && !b)) H Q
def spIsC (K : PySem.W.Frag) (C : Addr) : Sp := fun vs H Q _ => ∃ (v : V) (i b r : Bool) (k : Bool), vs = [v] ∧ Kd K C H v i b r ∧ (((i && !b) = false ∧ k = false) ∨ ((i && !b) = true ∧ ∃ n : Int, v = .int n ∧ k = decide (0 ≤ n))) ∧ RetV (.bl k) H Q
def spIsN (K : PySem.W.Frag) (C : Addr) : Sp := fun vs H Q _ => ∃ (v : V) (i b r : Bool), vs = [v] ∧ Kd K C H v i b r ∧ RetV (.bl ((i && !b) || r)) H Q
def SqH (H : Hp) (a : Addr) (xs : List V) : Prop := H a = some (.lst xs) ∨ H a = some (.tup xs)
theorem SqH.up {H H' : Hp} {a : Addr} {xs : List V} (h : SqH H a xs) (e : Ex H H') : SqH H' a xs := h.elim (fun h => .inl (e _ _ h)) (fun h => .inr (e _ _ h))
def spList : Sp := fun vs H Q _ => ∃ (a : Addr) (xs : List V), vs = [.ref a] ∧ SqH H a xs ∧ RetV (.bl true) H Q
def spCommon : Sp := fun vs H Q _ => ∃ a b : Int, vs = [.int a, .int b] ∧ RetV (.int ((Nat.gcd a.natAbs b.natAbs : Nat) : Int)) H Q
def spInit (C : Addr) : Sp := fun vs H Q _ => ∃ (x dx : Addr) (a b : Int), vs = [.ref x, .int a, .int b] ∧ H x = some (.ins C dx []) ∧ b ≠ 0 ∧ Bt 8000 a ∧ Bt 8000 b ∧ ∀ H', (∀ y o, y ≠ x → H y = some o → H' y = some o) → Rt C H' x (low a b).1 (low a b).2 → Q .non H'
section
variable {P : Program} {w : World} {K : PySem.W.Frag} {mg : Str → Option Value} {base : Heap} {f C : Addr} {fd : FuncData}
theorem sc_is_integer : FnScope ["value"] ["value"] (defScope (top 6)) := ⟨rfl, rfl, rfl, by decide +kernel, rfl, by decide +kernel, by decide +kernel⟩
theorem ok_is_integer (F : Fun K "is_integer" "is_integer" (top 6) f fd) (T : Tx mg) : FnOk P w K mg base CX0 1 f fd ["value"] (spIsI K C) := by
  have sc := sc_is_integer
  refine F.ok sc (fun vs H Q E h => ?_) (fun cdv A outer s H vs Q E hr h => ?_)
  · obtain ⟨v, _, _, _, rfl, _⟩ := h; rfl
  obtain ⟨v, i, b, r, rfl, ⟨t, ty, k1, k2, k3⟩, q⟩ := h
  refine ⟨_, (pss_one (ps_ret (pe_and (pe_callB call_isi rfl T.b_isinstance bt_isinstance (pa_cons (pv 0) (pa_cons (pe_bltn (v := .ty "int") rfl T.b_int bt_int rfl) pa_nil))) (pe_one (pe_not (pe_callB call_isi rfl T.b_isinstance bt_isinstance (pa_cons (pv 0) (pa_cons (pe_bltn (v := .ty "bool") rfl T.b_bool bt_bool rfl) pa_nil)))))))), ?_⟩
  refine ⟨_, rfl, _, _, _, _, _, rfl, .ty "int", ty, k1, _, rfl, ?_⟩
  cases i with
  | false => exact q _ (Ex.refl _)
  | true =>
    refine ⟨_, rfl, _, _, _, _, _, rfl, .ty "bool", ty, k2, _, rfl, ?_⟩
    exact q _ (Ex.refl _)
theorem sc_is_count : FnScope ["value"] ["value"] (defScope (top 7)) := ⟨rfl, rfl, rfl, by decide +kernel, rfl, by decide +kernel, by decide +kernel⟩
theorem ok_is_count (F : Fun K "is_count" "is_count" (top 7) f fd) (T : Tx mg) (C_is_integer : ClO P w K mg base "is_integer" 1 ["value"] (spIsI K C)) : FnOk P w K mg base CX0 2 f fd ["value"] (spIsC K C) := by
  have sc := sc_is_count
  refine F.ok sc (fun vs H Q E h => ?_) (fun cdv A outer s H vs Q E hr h => ?_)
  · obtain ⟨v, _, _, _, _, rfl, _⟩ := h; rfl
  obtain ⟨v, i, b, r, k, rfl, kd, hk, q⟩ := h
  refine ⟨_, (pss_one (ps_ret (pe_and (pe_clo C_is_integer (hr.mono (by first | decide | omega)) (pa_cons (pv 0) pa_nil)) (pe_one (pe_cmpR op_ge (pv 0) pe_int (nomark _)))))), ?_⟩
  refine ⟨_, rfl, v, i, b, r, rfl, kd, fun H1 e1 => ⟨_, rfl, ?_⟩⟩
  rcases hk with ⟨h1, rfl⟩ | ⟨h1, m, rfl, rfl⟩
  · rw [h1]
    exact q _ e1
  · rw [h1]
    refine ⟨_, rfl, _, _, rfl, rfl, ?_⟩
    exact q _ e1
theorem sc_is_list : FnScope ["value"] ["value"] (defScope (top 8)) := ⟨rfl, rfl, rfl, by decide +kernel, rfl, by decide +kernel, by decide +kernel⟩
theorem ok_is_list (F : Fun K "is_list" "is_list" (top 8) f fd) (T : Tx mg) : FnOk P w K mg base CX0 1 f fd ["value"] spList := by
  have sc := sc_is_list
  refine F.ok sc (fun vs H Q E h => ?_) (fun cdv A outer s H vs Q E hr h => ?_)
  · obtain ⟨i, _, rfl, _⟩ := h; rfl
  obtain ⟨a, xs, rfl, hs, q⟩ := h
  refine ⟨_, (pss_one (ps_ret (pe_callB call_isiT rfl T.b_isinstance bt_isinstance (pa_cons (pv 0) (pa_cons (pe_tup (pa_cons (pe_bltn (v := .ty "list") rfl T.b_list bt_list rfl) (pa_cons (pe_bltn (v := .ty "tuple") rfl T.b_tuple bt_tuple rfl) pa_nil))) pa_nil))))), ?_⟩
  refine ⟨_, rfl, (by show 2 ≤ sizeLine; decide), fun p hp => ?_⟩
  have e1 : Ex H (upd H p (.tup [.ty "list", .ty "tuple"])) := Ex.new hp
  rcases hs with hs | hs
  · exact ⟨_, p, _, _, _, true, rfl, upd_same, .cons (.ty "list") (.cons (.ty "tuple") .nil), .base (.lst (e1 _ _ hs)), rfl, q _ e1⟩
  · exact ⟨_, p, _, _, _, true, rfl, upd_same, .cons (.ty "list") (.cons (.ty "tuple") .nil), .base (.tup (e1 _ _ hs)), rfl, q _ e1⟩
theorem sc_common_part : FnScope ["one", "other"] ["one", "other"] (defScope (top 12)) := ⟨rfl, rfl, rfl, by decide +kernel, rfl, by decide +kernel, by decide +kernel⟩
theorem ok_common_part (F : Fun K "common_part" "common_part" (top 12) f fd) (mgG : mg "gcd" = some (.builtin "math.gcd")) : FnOk P w K mg base CX0 1 f fd ["one", "other"] spCommon := by
  have sc := sc_common_part
  refine F.ok sc (fun vs H Q E h => ?_) (fun cdv A outer s H vs Q E hr h => ?_)
  · obtain ⟨i, _, rfl, _⟩ := h; rfl
  obtain ⟨a, b, rfl, q⟩ := h
  refine ⟨_, (pss_one (ps_ret (pe_callBfun cr_gcd rfl mgG (pa_cons (pv 0) (pa_cons (pv 1) pa_nil))))), ?_⟩
  exact ⟨_, rfl, _, rfl, a, b, rfl, q _ (Ex.refl _)⟩
end
end B71

namespace B71
open PySem PySem.Spec PyProof.Rows L2 Evl RZ SrtO

/-- the class can be called -/
structure MkR (P : Program) (w : World) (K : PySem.W.Frag) (mg : Str → Option Value) (base : Heap) (C : Addr) : Prop where
  ex : ∃ (f : Addr) (fd : FuncData), Mk K C f ∧ FnOk P w K mg base CX0 2 f fd ["self", "top", "bottom"] (spInit C) ∧ Binds K fd ["self", "top", "bottom"] [] ∧ ∃ ds, Vals [V.int 1] ds ∧ Binds K fd ["self", "top", "bottom"] ds
  mgC : mg "Ratio" = some (.ref C)
theorem made_fits {C : Addr} {a b : Int} {H : Hp} {Q : VK} {x dx : Addr} (hx : H x = none) (hd : H dx = none) (ne : dx ≠ x) (hb : b ≠ 0) (ba : Bt 8000 a) (bb : Bt 8000 b) (q : RetR C (low a b) H Q) :
    spInit C [.ref x, .int a, .int b] (upd (upd H dx (.own x)) x (.ins C dx [])) (fun v H2 => v = .non ∧ Q (.ref x) H2) E0 := by
  refine ⟨x, dx, a, b, rfl, upd_same, hb, ba, bb, fun H' k r => ⟨rfl, q x H' hx (fun y o h => k y o (ne_of_none h hx) ?_) r⟩⟩
  rw [upd_ne (ne_of_none h hx), upd_ne (ne_of_none h hd)]
  exact h
theorem bt1 : Bt 8000 1 := Bt.mono (n := 1) (show (1 : Int).natAbs < 2 ^ 1 by decide) (by decide)
section
variable {X : Cx} {C : Addr} {p pos : Pos} {e e2 : Expr} {t : TA}
theorem pe_rat2 (M : MkR X.prog X.w X.K X.mg X.base C) (hr : Room 3 X.A) (ha : PA X [e, e2] t) (hg : Gl X "Ratio" := by rfl) (he : starEach [e, e2] X.env = (false, eval e X.env) :: starEach [e2] X.env := by rfl)
    (hpl : (backTo pos (starEach [e2] X.env)).any (·.1) = false := by rfl) : PE X (.Call (.Name "Ratio" p) [e, e2] [] pos) (tMake C (spInit C) [] E0 t) := by
  obtain ⟨f, fd, m, F, b, _⟩ := M.ex
  exact pe_make (E := E0) m F hr hg M.mgC b .nil pass0 ha (by decide) he hpl
theorem pe_rat1 (M : MkR X.prog X.w X.K X.mg X.base C) (hr : Room 3 X.A) (ha : PA X [e] t) (hg : Gl X "Ratio" := by rfl) (he : starEach [e] X.env = (false, eval e X.env) :: starEach [] X.env := by rfl)
    (hpl : (backTo pos (starEach [] X.env)).any (·.1) = false := by rfl) : PE X (.Call (.Name "Ratio" p) [e] [] pos) (tMake C (spInit C) [.int 1] E0 t) := by
  obtain ⟨f, fd, m, F, _, ds, v, b⟩ := M.ex
  exact pe_make (E := E0) m F hr hg M.mgC b v pass0 ha (by decide) he hpl
end
def spTold (C : Addr) : Sp := fun vs H Q _ => ∃ (v : V) (t b : Int), vs = [v] ∧ Num C H v t b ∧ ∀ p H', H p = none → Ex H H' → H' p = some (.tup [.int t, .int b]) → Q (.ref p) H'
/-- an operator's promise: g tells the pair ahead of the lowest terms -/
def spBin (C : Addr) (g : Int → Int → Int → Int → Int × Int) : Sp := fun vs H Q _ => ∃ (a : Addr) (w : V) (t b t2 b2 : Int), vs = [.ref a, w] ∧ Rt C H a t b ∧ Num C H w t2 b2 ∧ Bt 3000 t ∧ Bt 3000 b ∧ Bt 3000 t2 ∧ Bt 3000 b2 ∧ (g t b t2 b2).2 ≠ 0 ∧ RetR C (low (g t b t2 b2).1 (g t b t2 b2).2) H Q
def gAdd (t b t2 b2 : Int) : Int × Int := (t * b2 + t2 * b, b * b2)
def gSub (t b t2 b2 : Int) : Int × Int := (t * b2 - t2 * b, b * b2)
def gSubR (t b t2 b2 : Int) : Int × Int := (t2 * b - t * b2, b * b2)
def gMul (t b t2 b2 : Int) : Int × Int := (t * t2, b * b2)
def gOver (t b t2 b2 : Int) : Int × Int := (t * b2, b * t2)
section
variable {P : Program} {w : World} {K : PySem.W.Frag} {mg : Str → Option Value} {base : Heap} {f C : Addr} {fd : FuncData}
theorem sc_Ratio___init__ : FnScope ["self", "top", "bottom", "common"] ["self", "top", "bottom"] (defScope (sm 0)) := ⟨rfl, rfl, rfl, by decide +kernel, rfl, by decide +kernel, by decide +kernel⟩
theorem ok_init (F : FunD K "__init__" "Ratio.__init__" (defArgs (sm 0)) (defBody (sm 0)) (defScope (sm 0)) [.int 1] [] f fd) (R : RCl K mg C) (T : Tx mg) (C_is_integer : ClO P w K mg base "is_integer" 1 ["value"] (spIsI K C)) (C_common_part : ClO P w K mg base "common_part" 1 ["one", "other"] spCommon) : FnOk P w K mg base CX0 2 f fd ["self", "top", "bottom"] (spInit C) := by
  have sc := sc_Ratio___init__
  refine F.ok sc (fun vs H Q E h => ?_) (fun cdv A outer s H vs Q E hr h => ?_)
  · obtain ⟨_, _, _, _, rfl, _⟩ := h; rfl
  obtain ⟨x, dx, a, b, rfl, hx, hb, ba, bb, q⟩ := h
  refine ⟨_, (pss_cons (ps_if (pt_not (pt_val (pe_clo C_is_integer (hr.mono (by first | decide | omega)) (pa_cons (pv 1) pa_nil)))) (pss_one ps_never) pss_nil) (pss_cons (ps_if (PW.pt (pw_or (pt_not (pt_val (pe_clo C_is_integer (hr.mono (by first | decide | omega)) (pa_cons (pv 2) pa_nil)))) (pw_or1 (pt_cmpR op_eq (pv 2) pe_int (nomark _))))) (pss_one ps_never) pss_nil) (pss_cons (ps_set (i := 3) sc.nd rfl (Or.inl rfl) (pe_clo C_common_part (hr.mono (by first | decide | omega)) (pa_cons (pv 1) (pa_cons (pv 2) pa_nil)))) (pss_cons (ps_if (pt_cmpR op_lt (pv 2) pe_int (nomark _)) (pss_one (ps_set (i := 3) sc.nd rfl (Or.inl rfl) (pe_op op_sub pe_int (pv 3)))) pss_nil) (pss_cons (ps_fld (pv 0) (pe_op op_fdivZ (pv 1) (pv 3)) rfl) (pss_one (ps_fld (pv 0) (pe_op op_fdivZ (pv 2) (pv 3)) rfl))))))), ?_⟩
  refine ⟨_, rfl, .int a, true, false, false, rfl, kd_int R a, fun H1 e1 => ⟨_, rfl, ?_⟩⟩
  refine ⟨_, rfl, .int b, true, false, false, rfl, kd_int R b, fun H2 e2 => ⟨_, rfl, ?_⟩⟩
  refine ⟨_, rfl, rfl, _, rfl, ?_⟩
  rw [decide_eq_false (fun z => hb (by injection z))]
  refine ⟨_, rfl, _, rfl, a, b, rfl, fun H3 e3 => ?_⟩
  refine ⟨_, rfl, _, _, rfl, rfl, _, rfl, ?_⟩
  have e13 := e1.trans (e2.trans e3)
  have gl : (gI a b).natAbs.log2 < 9000 := Nat.lt_trans ((bb.le (gI_le (a := a) hb)).log (by decide)) (by decide)
  have hx3 := e13 _ _ hx
  have done : ∀ (H' : Hp), H' = upd (upd H3 x (.ins C dx (putF "own_top" (.int (a.fdiv (gI a b))) []))) x (.ins C dx (putF "own_bottom" (.int (b.fdiv (gI a b))) (putF "own_top" (.int (a.fdiv (gI a b))) []))) → Q .non H' := fun H' e => by
    subst e
    refine q _ (fun y o n h => by rw [upd_ne n, upd_ne n]; exact e13 y o h) ⟨dx, ?_⟩
    rw [upd_same, put_rf]
    rfl
  by_cases hn : b < 0
  · have eg : gI a b = 0 - ((Nat.gcd a.natAbs b.natAbs : Nat) : Int) := by unfold gI; rw [if_pos hn]
    rw [decide_eq_true hn]
    refine ⟨_, rfl, _, _, rfl, rfl, ?_⟩
    refine ⟨_, rfl, _, rfl, _, _, rfl, rfl, ⟨by rw [← eg]; exact gI_ne hb, by rw [← eg]; exact gl⟩, _, rfl, x, C, dx, [], rfl, hx3, R.cl, R.nT, (by show 0 < 1000; decide), ?_⟩
    refine ⟨_, rfl, _, rfl, _, _, rfl, rfl, ⟨by rw [← eg]; exact gI_ne hb, by rw [← eg]; exact gl⟩, _, rfl, x, C, dx, _, rfl, upd_same, R.cl, R.nB, (by show 1 < 1000; decide), ?_⟩
    refine done _ ?_
    rw [eg]
  · have eg : gI a b = ((Nat.gcd a.natAbs b.natAbs : Nat) : Int) := by unfold gI; rw [if_neg hn]
    rw [decide_eq_false hn]
    refine ⟨_, rfl, _, rfl, _, _, rfl, rfl, ⟨by rw [← eg]; exact gI_ne hb, by rw [← eg]; exact gl⟩, _, rfl, x, C, dx, [], rfl, hx3, R.cl, R.nT, (by show 0 < 1000; decide), ?_⟩
    refine ⟨_, rfl, _, rfl, _, _, rfl, rfl, ⟨by rw [← eg]; exact gI_ne hb, by rw [← eg]; exact gl⟩, _, rfl, x, C, dx, _, rfl, upd_same, R.cl, R.nB, (by show 1 < 1000; decide), ?_⟩
    refine done _ ?_
    rw [eg]
theorem sc_told_pair : FnScope ["value"] ["value"] (defScope (top 14)) := ⟨rfl, rfl, rfl, by decide +kernel, rfl, by decide +kernel, by decide +kernel⟩
theorem ok_told_pair (F : Fun K "told_pair" "told_pair" (top 14) f fd) (R : RCl K mg C) (T : Tx mg) (C_is_integer : ClO P w K mg base "is_integer" 1 ["value"] (spIsI K C)) : FnOk P w K mg base CX0 2 f fd ["value"] (spTold C) := by
  have sc := sc_told_pair
  refine F.ok sc (fun vs H Q E h => ?_) (fun cdv A outer s H vs Q E hr h => ?_)
  · obtain ⟨_, _, _, rfl, _⟩ := h; rfl
  obtain ⟨v, t, b, rfl, hv, q⟩ := h
  refine ⟨_, (pss_cons (ps_if (pt_val (pe_callB call_isi rfl T.b_isinstance bt_isinstance (pa_cons (pv 0) (pa_cons (pe_glob (v := .ref C) rfl R.mgC rfl) pa_nil)))) (pss_one (ps_ret (pe_tup (pa_cons (pe_fld (pv 0) rfl) (pa_cons (pe_fld (pv 0) rfl) pa_nil))))) pss_nil) (pss_cons (ps_if (pt_not (pt_val (pe_clo C_is_integer (hr.mono (by first | decide | omega)) (pa_cons (pv 0) pa_nil)))) (pss_one ps_never) pss_nil) (pss_one (ps_ret (pe_tup (pa_cons (pv 0) (pa_cons pe_int pa_nil))))))), ?_⟩
  rcases hv with ⟨rfl, rfl⟩ | ⟨a, rfl, dx, ha⟩
  · refine ⟨_, rfl, _, _, _, _, _, rfl, .own C, .base (.int t), R.kI, _, rfl, ?_⟩
    refine ⟨_, rfl, .int t, true, false, false, rfl, kd_int R t, fun H1 e1 => ⟨_, rfl, ?_⟩⟩
    refine ⟨_, rfl, (by show 2 ≤ sizeLine; decide), fun p hp => ?_⟩
    exact q p _ (fresh_back e1 hp) (e1.trans (Ex.new hp)) upd_same
  · refine ⟨_, rfl, _, _, _, _, _, rfl, .own C, R.ty ha, kt_own, _, rfl, ?_⟩
    refine ⟨_, rfl, a, C, dx, _, _, rfl, ha, R.cl, R.nT, rf_top, _, rfl, a, C, dx, _, _, rfl, ha, R.cl, R.nB, rf_bot, (by show 2 ≤ sizeLine; decide), fun p hp => ?_⟩
    exact q p _ hp (Ex.new hp) upd_same
end
end B71

namespace B71
open PySem PySem.Spec PyProof.Rows L2 Evl RZ SrtO

def spUn (C : Addr) (g : Int → Int) : Sp := fun vs H Q _ => ∃ (a : Addr) (t b : Int), vs = [.ref a] ∧ Rt C H a t b ∧ Bt 3000 t ∧ Bt 3000 b ∧ b ≠ 0 ∧ RetR C (low (g t) b) H Q
def spCmp (C : Addr) (g : Int → Int → Int → Int → Bool) : Sp := fun vs H Q _ => ∃ (a : Addr) (w : V) (t b t2 b2 : Int), vs = [.ref a, w] ∧ Rt C H a t b ∧ Num C H w t2 b2 ∧ Bt 3000 t ∧ Bt 3000 b ∧ Bt 3000 t2 ∧ Bt 3000 b2 ∧ RetV (.bl (g t b t2 b2)) H Q
def spEqR (C : Addr) : Sp := fun vs H Q _ => ∃ (a : Addr) (w : V) (t b : Int), vs = [.ref a, w] ∧ Rt C H a t b ∧ ((∃ i, w = .int i ∧ RetV (.bl false) H Q) ∨ ∃ a2 t2 b2, w = .ref a2 ∧ Rt C H a2 t2 b2 ∧ RetV (.bl (decide (t = t2 ∧ b = b2))) H Q)
def spGet (C : Addr) (g : Int → Int → V) : Sp := fun vs H Q _ => ∃ (a : Addr) (t b : Int), vs = [.ref a] ∧ Rt C H a t b ∧ RetV (g t b) H Q
section
variable {P : Program} {w : World} {K : PySem.W.Frag} {mg : Str → Option Value} {base : Heap} {f C : Addr} {fd : FuncData}

theorem sc_Ratio___add__ : FnScope ["self", "other", "top", "bottom"] ["self", "other"] (defScope (sm 6)) := ⟨rfl, rfl, rfl, by decide +kernel, rfl, by decide +kernel, by decide +kernel⟩
theorem ok_add (F : Fun K "__add__" "Ratio.__add__" (sm 6) f fd) (R : RCl K mg C) (T : Tx mg) (MR : MkR P w K mg base C) (C_told_pair : ClO P w K mg base "told_pair" 2 ["value"] (spTold C)) : FnOk P w K mg base CX0 4 f fd ["self", "other"] (spBin C gAdd) := by
  have sc := sc_Ratio___add__
  refine F.ok sc (fun vs H Q E h => ?_) (fun cdv A outer s H vs Q E hr h => ?_)
  · obtain ⟨_, _, _, _, _, _, rfl, _⟩ := h; rfl
  obtain ⟨a, w, t, b, t2, b2, rfl, ⟨dx, ha⟩, hw, bt, bb, bt2, bb2, hne, q⟩ := h
  refine ⟨_, (pss_cons (ps_asg (pe_clo C_told_pair (hr.mono (by first | decide | omega)) (pa_cons (pv 1) pa_nil)) (pg_tup rfl (pgs_cons (pg_name (i := 2) sc.nd rfl (Or.inl rfl)) (pgs_cons (pg_name (i := 3) sc.nd rfl (Or.inl rfl)) pgs_nil)))) (pss_one (ps_ret (pe_rat2 MR (hr.mono (by first | decide | omega)) (pa_cons (pe_op op_add (pe_op op_mulW (pe_fld (pv 0) rfl) (pv 3)) (pe_op op_mulW (pv 2) (pe_fld (pv 0) rfl))) (pa_cons (pe_op op_mulW (pe_fld (pv 0) rfl) (pv 3)) pa_nil)))))), ?_⟩
  refine ⟨_, rfl, w, t2, b2, rfl, hw, fun p H1 hp0 e1 hp1 => ?_⟩
  have ha1 := e1 _ _ ha
  refine ⟨p, _, rfl, st_of hp1, rfl, _, _, rfl, _, _, rfl, rfl, ?_⟩
  refine ⟨_, rfl, a, C, dx, _, _, rfl, ha1, R.cl, R.nT, rf_top, _, rfl, _, _, rfl, rfl, mulOk bt bb2 (by decide) (by decide) (by decide), _, rfl, _, rfl, a, C, dx, _, _, rfl, ha1, R.cl, R.nB, rf_bot, _, _, rfl, rfl, mulOk bt2 bb (by decide) (by decide) (by decide), _, _, rfl, rfl, _, rfl, a, C, dx, _, _, rfl, ha1, R.cl, R.nB, rf_bot, _, rfl, _, _, rfl, rfl, mulOk bb bb2 (by decide) (by decide) (by decide), fun x dx' hx hd ne => ?_⟩
  exact made_fits hx hd ne hne (Bt.mono (Bt.add (Bt.mul bt bb2) (Bt.mul bt2 bb)) (by decide)) (Bt.mono (Bt.mul bb bb2) (by decide)) fun x H' h0 e r => q x H' (fresh_back e1 h0) (e1.trans e) r

theorem sc_Ratio___radd__ : FnScope ["self", "other", "top", "bottom"] ["self", "other"] (defScope (sm 7)) := ⟨rfl, rfl, rfl, by decide +kernel, rfl, by decide +kernel, by decide +kernel⟩
theorem ok_radd (F : Fun K "__radd__" "Ratio.__radd__" (sm 7) f fd) (R : RCl K mg C) (T : Tx mg) (MR : MkR P w K mg base C) (C_told_pair : ClO P w K mg base "told_pair" 2 ["value"] (spTold C)) : FnOk P w K mg base CX0 4 f fd ["self", "other"] (spBin C gAdd) := by
  have sc := sc_Ratio___radd__
  refine F.ok sc (fun vs H Q E h => ?_) (fun cdv A outer s H vs Q E hr h => ?_)
  · obtain ⟨_, _, _, _, _, _, rfl, _⟩ := h; rfl
  obtain ⟨a, w, t, b, t2, b2, rfl, ⟨dx, ha⟩, hw, bt, bb, bt2, bb2, hne, q⟩ := h
  refine ⟨_, (pss_cons (ps_asg (pe_clo C_told_pair (hr.mono (by first | decide | omega)) (pa_cons (pv 1) pa_nil)) (pg_tup rfl (pgs_cons (pg_name (i := 2) sc.nd rfl (Or.inl rfl)) (pgs_cons (pg_name (i := 3) sc.nd rfl (Or.inl rfl)) pgs_nil)))) (pss_one (ps_ret (pe_rat2 MR (hr.mono (by first | decide | omega)) (pa_cons (pe_op op_add (pe_op op_mulW (pe_fld (pv 0) rfl) (pv 3)) (pe_op op_mulW (pv 2) (pe_fld (pv 0) rfl))) (pa_cons (pe_op op_mulW (pe_fld (pv 0) rfl) (pv 3)) pa_nil)))))), ?_⟩
  refine ⟨_, rfl, w, t2, b2, rfl, hw, fun p H1 hp0 e1 hp1 => ?_⟩
  have ha1 := e1 _ _ ha
  refine ⟨p, _, rfl, st_of hp1, rfl, _, _, rfl, _, _, rfl, rfl, ?_⟩
  refine ⟨_, rfl, a, C, dx, _, _, rfl, ha1, R.cl, R.nT, rf_top, _, rfl, _, _, rfl, rfl, mulOk bt bb2 (by decide) (by decide) (by decide), _, rfl, _, rfl, a, C, dx, _, _, rfl, ha1, R.cl, R.nB, rf_bot, _, _, rfl, rfl, mulOk bt2 bb (by decide) (by decide) (by decide), _, _, rfl, rfl, _, rfl, a, C, dx, _, _, rfl, ha1, R.cl, R.nB, rf_bot, _, rfl, _, _, rfl, rfl, mulOk bb bb2 (by decide) (by decide) (by decide), fun x dx' hx hd ne => ?_⟩
  exact made_fits hx hd ne hne (Bt.mono (Bt.add (Bt.mul bt bb2) (Bt.mul bt2 bb)) (by decide)) (Bt.mono (Bt.mul bb bb2) (by decide)) fun x H' h0 e r => q x H' (fresh_back e1 h0) (e1.trans e) r

theorem sc_Ratio___sub__ : FnScope ["self", "other", "top", "bottom"] ["self", "other"] (defScope (sm 8)) := ⟨rfl, rfl, rfl, by decide +kernel, rfl, by decide +kernel, by decide +kernel⟩
theorem ok_sub (F : Fun K "__sub__" "Ratio.__sub__" (sm 8) f fd) (R : RCl K mg C) (T : Tx mg) (MR : MkR P w K mg base C) (C_told_pair : ClO P w K mg base "told_pair" 2 ["value"] (spTold C)) : FnOk P w K mg base CX0 4 f fd ["self", "other"] (spBin C gSub) := by
  have sc := sc_Ratio___sub__
  refine F.ok sc (fun vs H Q E h => ?_) (fun cdv A outer s H vs Q E hr h => ?_)
  · obtain ⟨_, _, _, _, _, _, rfl, _⟩ := h; rfl
  obtain ⟨a, w, t, b, t2, b2, rfl, ⟨dx, ha⟩, hw, bt, bb, bt2, bb2, hne, q⟩ := h
  refine ⟨_, (pss_cons (ps_asg (pe_clo C_told_pair (hr.mono (by first | decide | omega)) (pa_cons (pv 1) pa_nil)) (pg_tup rfl (pgs_cons (pg_name (i := 2) sc.nd rfl (Or.inl rfl)) (pgs_cons (pg_name (i := 3) sc.nd rfl (Or.inl rfl)) pgs_nil)))) (pss_one (ps_ret (pe_rat2 MR (hr.mono (by first | decide | omega)) (pa_cons (pe_op op_sub (pe_op op_mulW (pe_fld (pv 0) rfl) (pv 3)) (pe_op op_mulW (pv 2) (pe_fld (pv 0) rfl))) (pa_cons (pe_op op_mulW (pe_fld (pv 0) rfl) (pv 3)) pa_nil)))))), ?_⟩
  refine ⟨_, rfl, w, t2, b2, rfl, hw, fun p H1 hp0 e1 hp1 => ?_⟩
  have ha1 := e1 _ _ ha
  refine ⟨p, _, rfl, st_of hp1, rfl, _, _, rfl, _, _, rfl, rfl, ?_⟩
  refine ⟨_, rfl, a, C, dx, _, _, rfl, ha1, R.cl, R.nT, rf_top, _, rfl, _, _, rfl, rfl, mulOk bt bb2 (by decide) (by decide) (by decide), _, rfl, _, rfl, a, C, dx, _, _, rfl, ha1, R.cl, R.nB, rf_bot, _, _, rfl, rfl, mulOk bt2 bb (by decide) (by decide) (by decide), _, _, rfl, rfl, _, rfl, a, C, dx, _, _, rfl, ha1, R.cl, R.nB, rf_bot, _, rfl, _, _, rfl, rfl, mulOk bb bb2 (by decide) (by decide) (by decide), fun x dx' hx hd ne => ?_⟩
  exact made_fits hx hd ne hne (Bt.mono (Bt.sub (Bt.mul bt bb2) (Bt.mul bt2 bb)) (by decide)) (Bt.mono (Bt.mul bb bb2) (by decide)) fun x H' h0 e r => q x H' (fresh_back e1 h0) (e1.trans e) r

theorem sc_Ratio___rsub__ : FnScope ["self", "other", "top", "bottom"] ["self", "other"] (defScope (sm 9)) := ⟨rfl, rfl, rfl, by decide +kernel, rfl, by decide +kernel, by decide +kernel⟩
theorem ok_rsub (F : Fun K "__rsub__" "Ratio.__rsub__" (sm 9) f fd) (R : RCl K mg C) (T : Tx mg) (MR : MkR P w K mg base C) (C_told_pair : ClO P w K mg base "told_pair" 2 ["value"] (spTold C)) : FnOk P w K mg base CX0 4 f fd ["self", "other"] (spBin C gSubR) := by
  have sc := sc_Ratio___rsub__
  refine F.ok sc (fun vs H Q E h => ?_) (fun cdv A outer s H vs Q E hr h => ?_)
  · obtain ⟨_, _, _, _, _, _, rfl, _⟩ := h; rfl
  obtain ⟨a, w, t, b, t2, b2, rfl, ⟨dx, ha⟩, hw, bt, bb, bt2, bb2, hne, q⟩ := h
  refine ⟨_, (pss_cons (ps_asg (pe_clo C_told_pair (hr.mono (by first | decide | omega)) (pa_cons (pv 1) pa_nil)) (pg_tup rfl (pgs_cons (pg_name (i := 2) sc.nd rfl (Or.inl rfl)) (pgs_cons (pg_name (i := 3) sc.nd rfl (Or.inl rfl)) pgs_nil)))) (pss_one (ps_ret (pe_rat2 MR (hr.mono (by first | decide | omega)) (pa_cons (pe_op op_sub (pe_op op_mulW (pv 2) (pe_fld (pv 0) rfl)) (pe_op op_mulW (pe_fld (pv 0) rfl) (pv 3))) (pa_cons (pe_op op_mulW (pe_fld (pv 0) rfl) (pv 3)) pa_nil)))))), ?_⟩
  refine ⟨_, rfl, w, t2, b2, rfl, hw, fun p H1 hp0 e1 hp1 => ?_⟩
  have ha1 := e1 _ _ ha
  refine ⟨p, _, rfl, st_of hp1, rfl, _, _, rfl, _, _, rfl, rfl, ?_⟩
  refine ⟨_, rfl, _, rfl, a, C, dx, _, _, rfl, ha1, R.cl, R.nB, rf_bot, _, _, rfl, rfl, mulOk bt2 bb (by decide) (by decide) (by decide), _, rfl, a, C, dx, _, _, rfl, ha1, R.cl, R.nT, rf_top, _, rfl, _, _, rfl, rfl, mulOk bt bb2 (by decide) (by decide) (by decide), _, _, rfl, rfl, _, rfl, a, C, dx, _, _, rfl, ha1, R.cl, R.nB, rf_bot, _, rfl, _, _, rfl, rfl, mulOk bb bb2 (by decide) (by decide) (by decide), fun x dx' hx hd ne => ?_⟩
  exact made_fits hx hd ne hne (Bt.mono (Bt.sub (Bt.mul bt2 bb) (Bt.mul bt bb2)) (by decide)) (Bt.mono (Bt.mul bb bb2) (by decide)) fun x H' h0 e r => q x H' (fresh_back e1 h0) (e1.trans e) r

theorem sc_Ratio___mul__ : FnScope ["self", "other", "top", "bottom"] ["self", "other"] (defScope (sm 10)) := ⟨rfl, rfl, rfl, by decide +kernel, rfl, by decide +kernel, by decide +kernel⟩
theorem ok_mul (F : Fun K "__mul__" "Ratio.__mul__" (sm 10) f fd) (R : RCl K mg C) (T : Tx mg) (MR : MkR P w K mg base C) (C_told_pair : ClO P w K mg base "told_pair" 2 ["value"] (spTold C)) : FnOk P w K mg base CX0 4 f fd ["self", "other"] (spBin C gMul) := by
  have sc := sc_Ratio___mul__
  refine F.ok sc (fun vs H Q E h => ?_) (fun cdv A outer s H vs Q E hr h => ?_)
  · obtain ⟨_, _, _, _, _, _, rfl, _⟩ := h; rfl
  obtain ⟨a, w, t, b, t2, b2, rfl, ⟨dx, ha⟩, hw, bt, bb, bt2, bb2, hne, q⟩ := h
  refine ⟨_, (pss_cons (ps_asg (pe_clo C_told_pair (hr.mono (by first | decide | omega)) (pa_cons (pv 1) pa_nil)) (pg_tup rfl (pgs_cons (pg_name (i := 2) sc.nd rfl (Or.inl rfl)) (pgs_cons (pg_name (i := 3) sc.nd rfl (Or.inl rfl)) pgs_nil)))) (pss_one (ps_ret (pe_rat2 MR (hr.mono (by first | decide | omega)) (pa_cons (pe_op op_mulW (pe_fld (pv 0) rfl) (pv 2)) (pa_cons (pe_op op_mulW (pe_fld (pv 0) rfl) (pv 3)) pa_nil)))))), ?_⟩
  refine ⟨_, rfl, w, t2, b2, rfl, hw, fun p H1 hp0 e1 hp1 => ?_⟩
  have ha1 := e1 _ _ ha
  refine ⟨p, _, rfl, st_of hp1, rfl, _, _, rfl, _, _, rfl, rfl, ?_⟩
  refine ⟨_, rfl, a, C, dx, _, _, rfl, ha1, R.cl, R.nT, rf_top, _, rfl, _, _, rfl, rfl, mulOk bt bt2 (by decide) (by decide) (by decide), _, rfl, a, C, dx, _, _, rfl, ha1, R.cl, R.nB, rf_bot, _, rfl, _, _, rfl, rfl, mulOk bb bb2 (by decide) (by decide) (by decide), fun x dx' hx hd ne => ?_⟩
  exact made_fits hx hd ne hne (Bt.mono (Bt.mul bt bt2) (by decide)) (Bt.mono (Bt.mul bb bb2) (by decide)) fun x H' h0 e r => q x H' (fresh_back e1 h0) (e1.trans e) r

theorem sc_Ratio___rmul__ : FnScope ["self", "other", "top", "bottom"] ["self", "other"] (defScope (sm 11)) := ⟨rfl, rfl, rfl, by decide +kernel, rfl, by decide +kernel, by decide +kernel⟩
theorem ok_rmul (F : Fun K "__rmul__" "Ratio.__rmul__" (sm 11) f fd) (R : RCl K mg C) (T : Tx mg) (MR : MkR P w K mg base C) (C_told_pair : ClO P w K mg base "told_pair" 2 ["value"] (spTold C)) : FnOk P w K mg base CX0 4 f fd ["self", "other"] (spBin C gMul) := by
  have sc := sc_Ratio___rmul__
  refine F.ok sc (fun vs H Q E h => ?_) (fun cdv A outer s H vs Q E hr h => ?_)
  · obtain ⟨_, _, _, _, _, _, rfl, _⟩ := h; rfl
  obtain ⟨a, w, t, b, t2, b2, rfl, ⟨dx, ha⟩, hw, bt, bb, bt2, bb2, hne, q⟩ := h
  refine ⟨_, (pss_cons (ps_asg (pe_clo C_told_pair (hr.mono (by first | decide | omega)) (pa_cons (pv 1) pa_nil)) (pg_tup rfl (pgs_cons (pg_name (i := 2) sc.nd rfl (Or.inl rfl)) (pgs_cons (pg_name (i := 3) sc.nd rfl (Or.inl rfl)) pgs_nil)))) (pss_one (ps_ret (pe_rat2 MR (hr.mono (by first | decide | omega)) (pa_cons (pe_op op_mulW (pe_fld (pv 0) rfl) (pv 2)) (pa_cons (pe_op op_mulW (pe_fld (pv 0) rfl) (pv 3)) pa_nil)))))), ?_⟩
  refine ⟨_, rfl, w, t2, b2, rfl, hw, fun p H1 hp0 e1 hp1 => ?_⟩
  have ha1 := e1 _ _ ha
  refine ⟨p, _, rfl, st_of hp1, rfl, _, _, rfl, _, _, rfl, rfl, ?_⟩
  refine ⟨_, rfl, a, C, dx, _, _, rfl, ha1, R.cl, R.nT, rf_top, _, rfl, _, _, rfl, rfl, mulOk bt bt2 (by decide) (by decide) (by decide), _, rfl, a, C, dx, _, _, rfl, ha1, R.cl, R.nB, rf_bot, _, rfl, _, _, rfl, rfl, mulOk bb bb2 (by decide) (by decide) (by decide), fun x dx' hx hd ne => ?_⟩
  exact made_fits hx hd ne hne (Bt.mono (Bt.mul bt bt2) (by decide)) (Bt.mono (Bt.mul bb bb2) (by decide)) fun x H' h0 e r => q x H' (fresh_back e1 h0) (e1.trans e) r

theorem sc_Ratio_over : FnScope ["self", "other", "top", "bottom"] ["self", "other"] (defScope (sm 13)) := ⟨rfl, rfl, rfl, by decide +kernel, rfl, by decide +kernel, by decide +kernel⟩
theorem ok_over (F : Fun K "over" "Ratio.over" (sm 13) f fd) (R : RCl K mg C) (T : Tx mg) (MR : MkR P w K mg base C) (C_told_pair : ClO P w K mg base "told_pair" 2 ["value"] (spTold C)) : FnOk P w K mg base CX0 4 f fd ["self", "other"] (spBin C gOver) := by
  have sc := sc_Ratio_over
  refine F.ok sc (fun vs H Q E h => ?_) (fun cdv A outer s H vs Q E hr h => ?_)
  · obtain ⟨_, _, _, _, _, _, rfl, _⟩ := h; rfl
  obtain ⟨a, w, t, b, t2, b2, rfl, ⟨dx, ha⟩, hw, bt, bb, bt2, bb2, hne, q⟩ := h
  refine ⟨_, (pss_cons (ps_asg (pe_clo C_told_pair (hr.mono (by first | decide | omega)) (pa_cons (pv 1) pa_nil)) (pg_tup rfl (pgs_cons (pg_name (i := 2) sc.nd rfl (Or.inl rfl)) (pgs_cons (pg_name (i := 3) sc.nd rfl (Or.inl rfl)) pgs_nil)))) (pss_cons (ps_if (pt_cmpR op_eq (pv 2) pe_int (nomark _)) (pss_one ps_never) pss_nil) (pss_one (ps_ret (pe_rat2 MR (hr.mono (by first | decide | omega)) (pa_cons (pe_op op_mulW (pe_fld (pv 0) rfl) (pv 3)) (pa_cons (pe_op op_mulW (pe_fld (pv 0) rfl) (pv 2)) pa_nil))))))), ?_⟩
  refine ⟨_, rfl, w, t2, b2, rfl, hw, fun p H1 hp0 e1 hp1 => ?_⟩
  have ha1 := e1 _ _ ha
  refine ⟨p, _, rfl, st_of hp1, rfl, _, _, rfl, _, _, rfl, rfl, ?_⟩
  refine ⟨_, rfl, rfl, _, rfl, ?_⟩
  rw [decide_eq_false (fun z => (show b * t2 ≠ 0 from hne) (by injection z with z; rw [z, Int.mul_zero]))]
  refine ⟨_, rfl, a, C, dx, _, _, rfl, ha1, R.cl, R.nT, rf_top, _, rfl, _, _, rfl, rfl, mulOk bt bb2 (by decide) (by decide) (by decide), _, rfl, a, C, dx, _, _, rfl, ha1, R.cl, R.nB, rf_bot, _, rfl, _, _, rfl, rfl, mulOk bb bt2 (by decide) (by decide) (by decide), fun x dx' hx hd ne => ?_⟩
  exact made_fits hx hd ne hne (Bt.mono (Bt.mul bt bb2) (by decide)) (Bt.mono (Bt.mul bb bt2) (by decide)) fun x H' h0 e r => q x H' (fresh_back e1 h0) (e1.trans e) r

theorem sc_Ratio___neg__ : FnScope ["self"] ["self"] (defScope (sm 12)) := ⟨rfl, rfl, rfl, by decide +kernel, rfl, by decide +kernel, by decide +kernel⟩
theorem ok_neg (F : Fun K "__neg__" "Ratio.__neg__" (sm 12) f fd) (R : RCl K mg C) (T : Tx mg) (MR : MkR P w K mg base C) : FnOk P w K mg base CX0 4 f fd ["self"] (spUn C (fun t => 0 - t)) := by
  have sc := sc_Ratio___neg__
  refine F.ok sc (fun vs H Q E h => ?_) (fun cdv A outer s H vs Q E hr h => ?_)
  · obtain ⟨_, _, _, rfl, _⟩ := h; rfl
  obtain ⟨a, t, b, rfl, ⟨dx, ha1⟩, bt, bb, hne, q⟩ := h
  refine ⟨_, (pss_one (ps_ret (pe_rat2 MR (hr.mono (by first | decide | omega)) (pa_cons (pe_op op_sub pe_int (pe_fld (pv 0) rfl)) (pa_cons (pe_fld (pv 0) rfl) pa_nil))))), ?_⟩
  refine ⟨_, rfl, a, C, dx, _, _, rfl, ha1, R.cl, R.nT, rf_top, _, _, rfl, rfl, _, rfl, a, C, dx, _, _, rfl, ha1, R.cl, R.nB, rf_bot, fun x dx' hx hd ne => ?_⟩
  exact made_fits hx hd ne hne (Bt.mono (Bt.le bt (by show (0 - t).natAbs ≤ t.natAbs; omega)) (by decide)) (Bt.mono bb (by decide)) q

theorem sc_Ratio_unsigned : FnScope ["self"] ["self"] (defScope (sm 14)) := ⟨rfl, rfl, rfl, by decide +kernel, rfl, by decide +kernel, by decide +kernel⟩
theorem ok_unsigned (F : Fun K "unsigned" "Ratio.unsigned" (sm 14) f fd) (R : RCl K mg C) (T : Tx mg) (MR : MkR P w K mg base C) : FnOk P w K mg base CX0 4 f fd ["self"] (spUn C (fun t => if t < 0 then -t else t)) := by
  have sc := sc_Ratio_unsigned
  refine F.ok sc (fun vs H Q E h => ?_) (fun cdv A outer s H vs Q E hr h => ?_)
  · obtain ⟨_, _, _, rfl, _⟩ := h; rfl
  obtain ⟨a, t, b, rfl, ⟨dx, ha1⟩, bt, bb, hne, q⟩ := h
  refine ⟨_, (pss_one (ps_ret (pe_rat2 MR (hr.mono (by first | decide | omega)) (pa_cons (pe_callB call_abs rfl T.b_abs bt_abs (pa_cons (pe_fld (pv 0) rfl) pa_nil)) (pa_cons (pe_fld (pv 0) rfl) pa_nil))))), ?_⟩
  refine ⟨_, rfl, a, C, dx, _, _, rfl, ha1, R.cl, R.nT, rf_top, _, rfl, _, rfl, a, C, dx, _, _, rfl, ha1, R.cl, R.nB, rf_bot, fun x dx' hx hd ne => ?_⟩
  exact made_fits hx hd ne hne (Bt.mono (Bt.le bt (by show (if t < 0 then -t else t).natAbs ≤ t.natAbs; split <;> omega)) (by decide)) (Bt.mono bb (by decide)) q

theorem sc_Ratio_is_below : FnScope ["self", "other", "top", "bottom"] ["self", "other"] (defScope (sm 15)) := ⟨rfl, rfl, rfl, by decide +kernel, rfl, by decide +kernel, by decide +kernel⟩
theorem ok_is_below (F : Fun K "is_below" "Ratio.is_below" (sm 15) f fd) (R : RCl K mg C) (T : Tx mg) (C_told_pair : ClO P w K mg base "told_pair" 2 ["value"] (spTold C)) : FnOk P w K mg base CX0 4 f fd ["self", "other"] (spCmp C (fun t b t2 b2 => decide (t * b2 < t2 * b))) := by
  have sc := sc_Ratio_is_below
  refine F.ok sc (fun vs H Q E h => ?_) (fun cdv A outer s H vs Q E hr h => ?_)
  · obtain ⟨_, _, _, _, _, _, rfl, _⟩ := h; rfl
  obtain ⟨a, w, t, b, t2, b2, rfl, ⟨dx, ha⟩, hw, bt, bb, bt2, bb2, q⟩ := h
  refine ⟨_, (pss_cons (ps_asg (pe_clo C_told_pair (hr.mono (by first | decide | omega)) (pa_cons (pv 1) pa_nil)) (pg_tup rfl (pgs_cons (pg_name (i := 2) sc.nd rfl (Or.inl rfl)) (pgs_cons (pg_name (i := 3) sc.nd rfl (Or.inl rfl)) pgs_nil)))) (pss_one (ps_ret (pe_cmpR op_lt (pe_op op_mulW (pe_fld (pv 0) rfl) (pv 3)) (pe_op op_mulW (pv 2) (pe_fld (pv 0) rfl)) (nomark _))))), ?_⟩
  refine ⟨_, rfl, w, t2, b2, rfl, hw, fun p H1 hp0 e1 hp1 => ?_⟩
  have ha1 := e1 _ _ ha
  refine ⟨p, _, rfl, st_of hp1, rfl, _, _, rfl, _, _, rfl, rfl, ?_⟩
  exact ⟨_, rfl, a, C, dx, _, _, rfl, ha1, R.cl, R.nT, rf_top, _, rfl, _, _, rfl, rfl, mulOk bt bb2 (by decide) (by decide) (by decide), _, rfl, _, rfl, a, C, dx, _, _, rfl, ha1, R.cl, R.nB, rf_bot, _, _, rfl, rfl, mulOk bt2 bb (by decide) (by decide) (by decide), _, _, rfl, rfl, q _ e1⟩

theorem sc_Ratio_is_at_most : FnScope ["self", "other", "top", "bottom"] ["self", "other"] (defScope (sm 16)) := ⟨rfl, rfl, rfl, by decide +kernel, rfl, by decide +kernel, by decide +kernel⟩
theorem ok_is_at_most (F : Fun K "is_at_most" "Ratio.is_at_most" (sm 16) f fd) (R : RCl K mg C) (T : Tx mg) (C_told_pair : ClO P w K mg base "told_pair" 2 ["value"] (spTold C)) : FnOk P w K mg base CX0 4 f fd ["self", "other"] (spCmp C (fun t b t2 b2 => decide (t * b2 ≤ t2 * b))) := by
  have sc := sc_Ratio_is_at_most
  refine F.ok sc (fun vs H Q E h => ?_) (fun cdv A outer s H vs Q E hr h => ?_)
  · obtain ⟨_, _, _, _, _, _, rfl, _⟩ := h; rfl
  obtain ⟨a, w, t, b, t2, b2, rfl, ⟨dx, ha⟩, hw, bt, bb, bt2, bb2, q⟩ := h
  refine ⟨_, (pss_cons (ps_asg (pe_clo C_told_pair (hr.mono (by first | decide | omega)) (pa_cons (pv 1) pa_nil)) (pg_tup rfl (pgs_cons (pg_name (i := 2) sc.nd rfl (Or.inl rfl)) (pgs_cons (pg_name (i := 3) sc.nd rfl (Or.inl rfl)) pgs_nil)))) (pss_one (ps_ret (pe_cmpR op_le (pe_op op_mulW (pe_fld (pv 0) rfl) (pv 3)) (pe_op op_mulW (pv 2) (pe_fld (pv 0) rfl)) (nomark _))))), ?_⟩
  refine ⟨_, rfl, w, t2, b2, rfl, hw, fun p H1 hp0 e1 hp1 => ?_⟩
  have ha1 := e1 _ _ ha
  refine ⟨p, _, rfl, st_of hp1, rfl, _, _, rfl, _, _, rfl, rfl, ?_⟩
  exact ⟨_, rfl, a, C, dx, _, _, rfl, ha1, R.cl, R.nT, rf_top, _, rfl, _, _, rfl, rfl, mulOk bt bb2 (by decide) (by decide) (by decide), _, rfl, _, rfl, a, C, dx, _, _, rfl, ha1, R.cl, R.nB, rf_bot, _, _, rfl, rfl, mulOk bt2 bb (by decide) (by decide) (by decide), _, _, rfl, rfl, q _ e1⟩

theorem sc_Ratio___eq__ : FnScope ["self", "other"] ["self", "other"] (defScope (sm 17)) := ⟨rfl, rfl, rfl, by decide +kernel, rfl, by decide +kernel, by decide +kernel⟩
theorem ok_eq (F : Fun K "__eq__" "Ratio.__eq__" (sm 17) f fd) (R : RCl K mg C) (T : Tx mg) : FnOk P w K mg base CX0 1 f fd ["self", "other"] (spEqR C) := by
  have sc := sc_Ratio___eq__
  refine F.ok sc (fun vs H Q E h => ?_) (fun cdv A outer s H vs Q E hr h => ?_)
  · obtain ⟨_, _, _, _, rfl, _⟩ := h; rfl
  obtain ⟨a, w, t, b, rfl, ⟨dx, ha1⟩, hw⟩ := h
  refine ⟨_, (pss_cons (ps_if (pt_not (pt_val (pe_callB call_isi rfl T.b_isinstance bt_isinstance (pa_cons (pv 1) (pa_cons (pe_glob (v := .ref C) rfl R.mgC rfl) pa_nil))))) (pss_one (ps_ret pe_bl)) pss_nil) (pss_one (ps_ret (pe_and (pe_cmpR op_eq (pe_fld (pv 0) rfl) (pe_fld (pv 1) rfl) (nomark _)) (pe_one (pe_cmpR op_eq (pe_fld (pv 0) rfl) (pe_fld (pv 1) rfl) (nomark _))))))), ?_⟩
  rcases hw with ⟨i, rfl, q⟩ | ⟨a2, t2, b2, rfl, ⟨dx2, ha2⟩, q⟩
  · refine ⟨_, rfl, _, _, _, _, _, rfl, .own C, .base (.int i), R.kI, _, rfl, ?_⟩
    exact q _ (Ex.refl _)
  · refine ⟨_, rfl, _, _, _, _, _, rfl, .own C, R.ty ha2, kt_own, _, rfl, ?_⟩
    refine ⟨_, rfl, a, C, dx, _, _, rfl, ha1, R.cl, R.nT, rf_top, _, rfl, a2, C, dx2, _, _, rfl, ha2, R.cl, R.nT, rf_top, rfl, _, rfl, ?_⟩
    refine ite2 (fun c => ?_) (fun c => ?_)
    · have c' : t = t2 := by
        have := of_decide_eq_true c
        injection this
      refine ⟨_, rfl, a, C, dx, _, _, rfl, ha1, R.cl, R.nB, rf_bot, _, rfl, a2, C, dx2, _, _, rfl, ha2, R.cl, R.nB, rf_bot, rfl, ?_⟩
      have e : decide (V.int b = V.int b2) = decide (t = t2 ∧ b = b2) := decide_eq_decide.mpr ⟨fun z => ⟨c', by injection z⟩, fun z => by rw [z.2]⟩
      show Q (.bl (decide (V.int b = V.int b2))) _
      rw [e]
      exact q _ (Ex.refl _)
    · have e : decide (t = t2 ∧ b = b2) = false := decide_eq_false fun z => c (by rw [z.1]; simp)
      rw [e] at q
      exact q _ (Ex.refl _)

theorem sc_Ratio_top : FnScope ["self"] ["self"] (defScope (sm 1)) := ⟨rfl, rfl, rfl, by decide +kernel, rfl, by decide +kernel, by decide +kernel⟩
theorem ok_topP (F : Fun K "top" "Ratio.top" (sm 1) f fd) (R : RCl K mg C) : FnOk P w K mg base CX0 1 f fd ["self"] (spGet C (fun t _ => .int t)) := by
  have sc := sc_Ratio_top
  refine F.ok sc (fun vs H Q E h => ?_) (fun cdv A outer s H vs Q E hr h => ?_)
  · obtain ⟨_, _, _, rfl, _⟩ := h; rfl
  obtain ⟨a, t, b, rfl, ⟨dx, ha1⟩, q⟩ := h
  refine ⟨_, (pss_one (ps_ret (pe_fld (pv 0) rfl))), ?_⟩
  exact ⟨_, rfl, a, C, dx, _, _, rfl, ha1, R.cl, R.nT, rf_top, q _ (Ex.refl _)⟩

theorem sc_Ratio_bottom : FnScope ["self"] ["self"] (defScope (sm 2)) := ⟨rfl, rfl, rfl, by decide +kernel, rfl, by decide +kernel, by decide +kernel⟩
theorem ok_bottomP (F : Fun K "bottom" "Ratio.bottom" (sm 2) f fd) (R : RCl K mg C) : FnOk P w K mg base CX0 1 f fd ["self"] (spGet C (fun _ b => .int b)) := by
  have sc := sc_Ratio_bottom
  refine F.ok sc (fun vs H Q E h => ?_) (fun cdv A outer s H vs Q E hr h => ?_)
  · obtain ⟨_, _, _, rfl, _⟩ := h; rfl
  obtain ⟨a, t, b, rfl, ⟨dx, ha1⟩, q⟩ := h
  refine ⟨_, (pss_one (ps_ret (pe_fld (pv 0) rfl))), ?_⟩
  exact ⟨_, rfl, a, C, dx, _, _, rfl, ha1, R.cl, R.nB, rf_bot, q _ (Ex.refl _)⟩

def sgI (t : Int) : Int := (if decide (t > 0) = true then 1 else 0) - (if decide (t < 0) = true then 1 else 0)
theorem sc_Ratio_sign : FnScope ["self"] ["self"] (defScope (sm 3)) := ⟨rfl, rfl, rfl, by decide +kernel, rfl, by decide +kernel, by decide +kernel⟩
theorem ok_sign (F : Fun K "sign" "Ratio.sign" (sm 3) f fd) (R : RCl K mg C) (T : Tx mg) : FnOk P w K mg base CX0 1 f fd ["self"] (spGet C fun t _ => .int (sgI t)) := by
  have sc := sc_Ratio_sign
  refine F.ok sc (fun vs H Q E h => ?_) (fun cdv A outer s H vs Q E hr h => ?_)
  · obtain ⟨_, _, _, rfl, _⟩ := h; rfl
  obtain ⟨a, t, b, rfl, ⟨dx, ha1⟩, q⟩ := h
  refine ⟨_, (pss_one (ps_ret (pe_op op_sub (pe_callTy call_int1 rfl T.b_int bt_int (pa_cons (pe_cmpR op_gt (pe_fld (pv 0) rfl) pe_int (nomark _)) pa_nil)) (pe_callTy call_int1 rfl T.b_int bt_int (pa_cons (pe_cmpR op_lt (pe_fld (pv 0) rfl) pe_int (nomark _)) pa_nil))))), ?_⟩
  refine ⟨_, rfl, a, C, dx, _, _, rfl, ha1, R.cl, R.nT, rf_top, _, _, rfl, rfl, .inr ⟨_, rfl, ?_⟩⟩
  refine ⟨_, rfl, a, C, dx, _, _, rfl, ha1, R.cl, R.nT, rf_top, _, _, rfl, rfl, .inr ⟨_, rfl, ?_⟩⟩
  exact ⟨_, _, rfl, rfl, q _ (Ex.refl _)⟩
theorem sc_Ratio_is_whole : FnScope ["self"] ["self"] (defScope (sm 4)) := ⟨rfl, rfl, rfl, by decide +kernel, rfl, by decide +kernel, by decide +kernel⟩
theorem ok_is_whole (F : Fun K "is_whole" "Ratio.is_whole" (sm 4) f fd) (R : RCl K mg C) : FnOk P w K mg base CX0 1 f fd ["self"] (spGet C fun _ b => .bl (decide (b = 1))) := by
  have sc := sc_Ratio_is_whole
  refine F.ok sc (fun vs H Q E h => ?_) (fun cdv A outer s H vs Q E hr h => ?_)
  · obtain ⟨_, _, _, rfl, _⟩ := h; rfl
  obtain ⟨a, t, b, rfl, ⟨dx, ha1⟩, q⟩ := h
  refine ⟨_, (pss_one (ps_ret (pe_cmpR op_eq (pe_fld (pv 0) rfl) pe_int (nomark _)))), ?_⟩
  refine ⟨_, rfl, a, C, dx, _, _, rfl, ha1, R.cl, R.nB, rf_bot, rfl, ?_⟩
  have e : decide (V.int b = V.int 1) = decide (b = 1) := decide_eq_decide.mpr ⟨fun z => by injection z, fun z => by rw [z]⟩
  show Q (.bl (decide (V.int b = V.int 1))) _
  rw [e]
  exact q _ (Ex.refl _)
end
end B71

namespace B71
open PySem PySem.Spec PyProof.Rows L2 Evl RZ SrtO

theorem ofS_app (a b : String) : Str.ofString (a ++ b) = Str.ofString a ++ Str.ofString b := by
  refine TL.ext_tl ?_
  rw [TL.tl_append, TL.tl_ofString, TL.tl_ofString, TL.tl_ofString, String.toList_append, List.map_append]
/-- a number's text -/
def tI (n : Int) : Str := Str.ofString (toString n)
theorem tI_len {n : Int} (h : n.natAbs < 10 ^ 60) : (tI n).length ≤ 61 := by
  unfold tI
  by_cases h0 : 0 ≤ n
  · have := toString_length_le h0 (k := 60) (by decide) (by omega)
    omega
  · rw [len_text_neg (by omega)]
    have := toString_length_le (v := 0 - n) (by omega) (k := 60) (by decide) (by omega)
    omega
theorem tI_neg {n : Int} (h : n < 0) : Str.ofString "-" ++ tI (0 - n) = tI n := by
  unfold tI
  rw [← ofS_app, ← toString_neg h]
def spDigits : Sp := fun vs H Q _ => ∃ n : Int, vs = [.int n] ∧ Bt 190 n ∧ RetV (.str (tI n)) H Q
def sS (t b : Int) : Str := if b = 1 then tI t else tI t ++ Str.ofString "/" ++ tI b
def sR (t b : Int) : Str := Str.ofString "Ratio(" ++ tI t ++ Str.ofString ", " ++ tI b ++ Str.ofString ")"
def spTxt (C : Addr) (g : Int → Int → Str) : Sp := fun vs H Q _ => ∃ (a : Addr) (t b : Int), vs = [.ref a] ∧ Rt C H a t b ∧ Bt 190 t ∧ Bt 190 b ∧ RetV (.str (g t b)) H Q
theorem bt190 {n : Int} (h : Bt 190 n) : n.natAbs < 10 ^ 60 := Nat.lt_of_lt_of_le h (by decide +kernel)
section
variable {P : Program} {w : World} {K : PySem.W.Frag} {mg : Str → Option Value} {base : Heap} {f C : Addr} {fd : FuncData}
theorem sc_digits_of : FnScope ["number", "left", "told", "part", "sign"] ["number"] (defScope (top 11)) := ⟨rfl, rfl, rfl, by decide +kernel, rfl, by decide +kernel, by decide +kernel⟩
theorem ok_digits_of (F : Fun K "digits_of" "digits_of" (top 11) f fd) (T : Tx mg) {tP : Tok} (mP : mg "PART" = some (.int (10 ^ 60) tP)) : FnOk P w K mg base CX0 1 f fd ["number"] spDigits := by
  have sc := sc_digits_of
  refine F.ok sc (fun vs H Q E h => ?_) (fun cdv A outer s H vs Q E hr h => ?_)
  · obtain ⟨_, rfl, _⟩ := h; rfl
  obtain ⟨n, rfl, bn, q⟩ := h
  have b60 := bt190 bn
  refine ⟨_, (pss_cons (ps_par (i := 1) (j := 2) rfl sc.nd rfl rfl (by decide) rfl rfl (pa_cons (pe_ifExp (pt_cmpR op_ge (pv 0) pe_int (nomark _)) (pv 0) (pe_op op_sub pe_int (pv 0))) (pa_cons pe_str pa_nil)) rfl) (pss_cons (ps_while PassesOwn.never (pt_cmpR op_ge (pv 1) (pe_glob (v := .int (10 ^ 60)) rfl mP ⟨_, rfl⟩) (nomark _)) pss_never) (pss_cons (ps_set (i := 4) sc.nd rfl (Or.inl rfl) (pe_ifExp (pt_cmpR op_lt (pv 0) pe_int (nomark _)) pe_str pe_str)) (pss_one (ps_ret (pe_joined (.cons (pe_fmt (pv 4)) (.cons (pe_fmt (pv 1)) (.cons (pe_fmt (pv 2)) .nil))))))))), ?_⟩
  have go : ∀ m : Int, 0 ≤ m → m.natAbs = n.natAbs → ∀ sg : Str, (if decide (n < 0) = true then Str.ofString "-" else Str.ofString "") = sg → sg ++ tI m = tI n := fun m h0 hm sg e => by
    subst e
    by_cases h : n < 0
    · rw [decide_eq_true h, if_pos rfl]
      have : m = 0 - n := by omega
      rw [this]
      exact tI_neg h
    · rw [decide_eq_false h, if_neg Bool.false_ne_true]
      have : m = n := by omega
      rw [this]
      exact Str.append_left_empty rfl
  have rest : ∀ m : Int, 0 ≤ m → m.natAbs = n.natAbs → (10 ^ 60 ≤ m) = False := fun m h0 hm => by
    refine eq_false fun z => ?_
    have : (10 : Int) ^ 60 = ((10 ^ 60 : Nat) : Int) := by decide +kernel
    omega
  have lens : ∀ m : Int, m.natAbs = n.natAbs → (tI m).length ≤ 61 := fun m hm => tI_len (by rw [hm]; exact b60)
  have logs : ∀ m : Int, m.natAbs = n.natAbs → m.natAbs.log2 < 1920 := fun m hm => by rw [hm]; exact Nat.lt_trans (bn.log (by decide)) (by decide)
  have sl : sizeLine = 16777216 := sizeLine_eq
  have fin : ∀ (sg : Str) (m : Int), sg.length ≤ 1 → 0 ≤ m → m.natAbs = n.natAbs → (if decide (n < 0) = true then Str.ofString "-" else Str.ofString "") = sg →
      sg.length ≤ sizeLine ∧ (Str.empty ++ sg).length ≤ sizeLine ∧ (Str.empty ++ sg ++ tI m).length ≤ sizeLine ∧ (Str.ofString "").length ≤ sizeLine ∧ (Str.empty ++ sg ++ tI m ++ Str.ofString "").length ≤ sizeLine ∧ Str.empty ++ sg ++ tI m ++ Str.ofString "" = tI n := fun sg m hl h0 hm e => by
    have l1 := lens m hm
    have e1 : Str.empty ++ sg = sg := Str.empty_append sg
    have e2 : sg ++ tI m ++ Str.ofString "" = sg ++ tI m := Str.append_right_empty rfl
    have e3 := go m h0 hm sg e
    rw [e1, e2, e3]
    have l2 := lens n rfl
    refine ⟨by omega, by omega, by omega, by rw [sl]; decide, by omega, rfl⟩
  refine ⟨_, rfl, _, _, rfl, rfl, _, rfl, ?_⟩
  refine ite2 (fun c => ?_) (fun c => ?_)
  · have c' : 0 ≤ n := of_decide_eq_true c
    refine ⟨_, rfl, _, _, rfl, ?_⟩
    refine ⟨fun _ σ' H' => σ' = [some (.int n), some (.int n), some (.str (Str.ofString "")), none, none] ∧ H' = H, ⟨0, rfl, rfl⟩, ?_⟩
    rintro m σ' H' ⟨rfl, rfl⟩
    refine ⟨_, rfl, _, _, rfl, rfl, _, rfl, ?_⟩
    have cf : decide ((10 : Int) ^ 60 ≤ n) = false := decide_eq_false (by rw [rest n c' rfl]; exact id)
    rw [cf]
    refine ⟨_, rfl, _, _, rfl, rfl, _, rfl, ?_⟩
    have nf : decide (n < 0) = false := decide_eq_false (by omega)
    rw [nf]
    obtain ⟨f1, f2, f3, f4, f5, f6⟩ := fin (Str.ofString "") n (by decide) c' rfl (by rw [nf]; rfl)
    refine ⟨_, rfl, .inl ⟨_, rfl, f1, _, rfl, f2, _, rfl, .inr ⟨n, rfl, logs n rfl, _, rfl, f3, _, rfl, .inl ⟨_, rfl, f4, _, rfl, f5, ?_⟩⟩⟩⟩
    have := q _ (Ex.refl _)
    rw [← f6] at this
    exact this
  · have c' : n < 0 := by
      have := of_decide_eq_false (Bool.eq_false_iff.mpr c)
      omega
    have hm : (0 - n).natAbs = n.natAbs := by omega
    have h0 : 0 ≤ 0 - n := by omega
    refine ⟨_, rfl, _, _, rfl, rfl, _, _, rfl, ?_⟩
    refine ⟨fun _ σ' H' => σ' = [some (.int n), some (.int (0 - n)), some (.str (Str.ofString "")), none, none] ∧ H' = H, ⟨0, rfl, rfl⟩, ?_⟩
    rintro m σ' H' ⟨rfl, rfl⟩
    refine ⟨_, rfl, _, _, rfl, rfl, _, rfl, ?_⟩
    have cf : decide ((10 : Int) ^ 60 ≤ 0 - n) = false := decide_eq_false (by rw [rest _ h0 hm]; exact id)
    rw [cf]
    refine ⟨_, rfl, _, _, rfl, rfl, _, rfl, ?_⟩
    have nf : decide (n < 0) = true := decide_eq_true c'
    rw [nf]
    obtain ⟨f1, f2, f3, f4, f5, f6⟩ := fin (Str.ofString "-") (0 - n) (by decide) h0 hm (by rw [nf]; rfl)
    refine ⟨_, rfl, .inl ⟨_, rfl, f1, _, rfl, f2, _, rfl, .inr ⟨_, rfl, logs _ hm, _, rfl, f3, _, rfl, .inl ⟨_, rfl, f4, _, rfl, f5, ?_⟩⟩⟩⟩
    have := q _ (Ex.refl _)
    rw [← f6] at this
    exact this
theorem sc_Ratio___str__ : FnScope ["self"] ["self"] (defScope (sm 18)) := ⟨rfl, rfl, rfl, by decide +kernel, rfl, by decide +kernel, by decide +kernel⟩
theorem ok_str (F : Fun K "__str__" "Ratio.__str__" (sm 18) f fd) (R : RCl K mg C) (T : Tx mg) (C_digits_of : ClO P w K mg base "digits_of" 1 ["number"] spDigits) : FnOk P w K mg base CX0 2 f fd ["self"] (spTxt C sS) := by
  have sc := sc_Ratio___str__
  refine F.ok sc (fun vs H Q E h => ?_) (fun cdv A outer s H vs Q E hr h => ?_)
  · obtain ⟨_, _, _, rfl, _⟩ := h; rfl
  obtain ⟨a, t, b, rfl, ⟨dx, ha⟩, bt, bb, q⟩ := h
  have sl : sizeLine = 16777216 := sizeLine_eq
  have l1 := tI_len (bt190 bt)
  have l2 := tI_len (bt190 bb)
  refine ⟨_, (pss_cons (ps_if (pt_cmpR op_eq (pe_fld (pv 0) rfl) pe_int (nomark _)) (pss_one (ps_ret (pe_joined1 (pe_fmt (pe_clo C_digits_of (hr.mono (by first | decide | omega)) (pa_cons (pe_fld (pv 0) rfl) pa_nil)))))) pss_nil) (pss_one (ps_ret (pe_joined (.cons (pe_fmt (pe_clo C_digits_of (hr.mono (by first | decide | omega)) (pa_cons (pe_fld (pv 0) rfl) pa_nil))) (.cons pe_str (.cons (pe_fmt (pe_clo C_digits_of (hr.mono (by first | decide | omega)) (pa_cons (pe_fld (pv 0) rfl) pa_nil))) .nil))))))), ?_⟩
  refine ⟨_, rfl, a, C, dx, _, _, rfl, ha, R.cl, R.nB, rf_bot, rfl, _, rfl, ?_⟩
  unfold sS at q
  by_cases c : b = 1
  · rw [if_pos c] at q
    rw [decide_eq_true (by rw [c])]
    refine ⟨_, rfl, a, C, dx, _, _, rfl, ha, R.cl, R.nT, rf_top, t, rfl, bt, fun H1 e1 => .inl ⟨_, rfl, by omega, q _ e1⟩⟩
  · rw [if_neg c] at q
    rw [decide_eq_false (fun z => c (by injection z))]
    refine ⟨_, rfl, a, C, dx, _, _, rfl, ha, R.cl, R.nT, rf_top, t, rfl, bt, fun H1 e1 => .inl ⟨_, rfl, by omega, _, rfl, ?_, _, rfl, ?_, _, rfl, a, C, dx, _, _, rfl, e1 _ _ ha, R.cl, R.nB, rf_bot, b, rfl, bb, fun H2 e2 => .inl ⟨_, rfl, by omega, _, rfl, ?_, ?_⟩⟩⟩
    · rw [Str.empty_append]; omega
    · rw [Str.empty_append, Str.length_append]
      have : (Str.ofString "/").length = 1 := rfl
      omega
    · rw [Str.empty_append, Str.length_append, Str.length_append]
      have : (Str.ofString "/").length = 1 := rfl
      omega
    · rw [Str.empty_append]
      exact q _ (e1.trans e2)
theorem sc_Ratio___repr__ : FnScope ["self"] ["self"] (defScope (sm 19)) := ⟨rfl, rfl, rfl, by decide +kernel, rfl, by decide +kernel, by decide +kernel⟩
theorem ok_repr (F : Fun K "__repr__" "Ratio.__repr__" (sm 19) f fd) (R : RCl K mg C) (T : Tx mg) (C_digits_of : ClO P w K mg base "digits_of" 1 ["number"] spDigits) : FnOk P w K mg base CX0 2 f fd ["self"] (spTxt C sR) := by
  have sc := sc_Ratio___repr__
  refine F.ok sc (fun vs H Q E h => ?_) (fun cdv A outer s H vs Q E hr h => ?_)
  · obtain ⟨_, _, _, rfl, _⟩ := h; rfl
  obtain ⟨a, t, b, rfl, ⟨dx, ha⟩, bt, bb, q⟩ := h
  have sl : sizeLine = 16777216 := sizeLine_eq
  have l1 := tI_len (bt190 bt)
  have l2 := tI_len (bt190 bb)
  have k1 : (Str.ofString "Ratio(").length = 6 := rfl
  have k2 : (Str.ofString ", ").length = 2 := rfl
  have k3 : (Str.ofString ")").length = 1 := rfl
  refine ⟨_, (pss_one (ps_ret (pe_joined (.cons pe_str (.cons (pe_fmt (pe_clo C_digits_of (hr.mono (by first | decide | omega)) (pa_cons (pe_fld (pv 0) rfl) pa_nil))) (.cons pe_str (.cons (pe_fmt (pe_clo C_digits_of (hr.mono (by first | decide | omega)) (pa_cons (pe_fld (pv 0) rfl) pa_nil))) (.cons pe_str .nil)))))))), ?_⟩
  refine ⟨_, rfl, ?_, _, rfl, a, C, dx, _, _, rfl, ha, R.cl, R.nT, rf_top, t, rfl, bt, fun H1 e1 => .inl ⟨_, rfl, by omega, _, rfl, ?_, _, rfl, ?_, _, rfl, a, C, dx, _, _, rfl, e1 _ _ ha, R.cl, R.nB, rf_bot, b, rfl, bb, fun H2 e2 => .inl ⟨_, rfl, by omega, _, rfl, ?_, _, rfl, ?_, ?_⟩⟩⟩
  · rw [Str.empty_append]; omega
  · rw [Str.empty_append, Str.length_append]; omega
  · rw [Str.empty_append, Str.length_append, Str.length_append]; omega
  · rw [Str.empty_append, Str.length_append, Str.length_append, Str.length_append]; omega
  · rw [Str.empty_append, Str.length_append, Str.length_append, Str.length_append, Str.length_append]; omega
  · rw [Str.empty_append]
    exact q _ (e1.trans e2)
end
end B71

namespace B71
open PySem PySem.Spec PyProof.Rows L2 Evl RZ SrtO

theorem low_one (t : Int) : low t 1 = (t, 1) := by
  have e : gI t 1 = 1 := by
    unfold gI
    rw [if_neg (by decide)]
    have : Nat.gcd t.natAbs (Int.natAbs 1) = 1 := Nat.gcd_one_right _
    rw [this]
    rfl
  unfold low
  rw [e, Int.fdiv_one, Int.fdiv_one]
theorem tyx_up {K : PySem.W.Frag} {H H' : Hp} {v : V} {t : Value} (e : Ex H H') (h : TyX K H v t) : TyX K H' v t := by
  cases h with
  | base b =>
    cases b with
    | non => exact .base .non
    | bl x => exact .base (.bl x)
    | int i => exact .base (.int i)
    | str x => exact .base (.str x)
    | flt x => exact .base (.flt x)
    | lst q => exact .base (.lst (e _ _ q))
    | frz q => exact .base (.frz (e _ _ q))
    | tup q => exact .base (.tup (e _ _ q))
    | dK q => exact .base (.dK (e _ _ q))
    | dT q => exact .base (.dT (e _ _ q))
    | ins q cl a b c d => exact .base (.ins (e _ _ q) cl a b c d)
  | byt b => exact .byt b
  | set q => exact .set (e _ _ q)
  | kList q c => exact .kList q c
  | kTuple q c => exact .kTuple q c
  | kDict q c => exact .kDict q c
  | fTuple q => exact .fTuple (e _ _ q)
  | fDict q => exact .fDict (e _ _ q)
theorem Kd.up {K : PySem.W.Frag} {C : Addr} {H H' : Hp} {v : V} {i b r : Bool} (k : Kd K C H v i b r) (e : Ex H H') : Kd K C H' v i b r := by
  obtain ⟨t, h, k⟩ := k
  exact ⟨t, tyx_up e h, k⟩
/-- an operator of the class -/
structure OpB (P : Program) (w : World) (K : PySem.W.Frag) (mg : Str → Option Value) (base : Heap) (C : Addr) (nm : String) (gL gR : Int → Int → Int → Int → Int × Int) : Prop where
  ex : ∃ (f g : Addr) (fd gd : FuncData), FnOk P w K mg base CX0 4 f fd ["self", "other"] (spBin C gL) ∧ Binds K fd ["self", "other"] [] ∧ FnOk P w K mg base CX0 4 g gd ["self", "other"] (spBin C gR) ∧ Binds K gd ["self", "other"] [] ∧ OpF K C f nm ∧ OpI K C g nm
  sub : PySem.W.subIn K (.ref C) (.type "int") = some false
section
variable {X : Cx} {C : Addr} {gL gR : Int → Int → Int → Int → Int × Int}
theorem opL_add (B : OpB X.prog X.w X.K X.mg X.base C "add" gL gR) (hr : Room 4 X.A) : OpR X (binaryOp .Add) (rOwn C (spBin C gL)) := by
  obtain ⟨f, g, fd, gd, F, b, G, c, o, oi⟩ := B.ex
  exact op_own (op := .Add) F o oi b hr
theorem opL_sub (B : OpB X.prog X.w X.K X.mg X.base C "sub" gL gR) (hr : Room 4 X.A) : OpR X (binaryOp .Sub) (rOwn C (spBin C gL)) := by
  obtain ⟨f, g, fd, gd, F, b, G, c, o, oi⟩ := B.ex
  exact op_own (op := .Sub) F o oi b hr
theorem opL_mul (B : OpB X.prog X.w X.K X.mg X.base C "mul" gL gR) (hr : Room 4 X.A) : OpR X (binaryOp .Mult) (rOwn C (spBin C gL)) := by
  obtain ⟨f, g, fd, gd, F, b, G, c, o, oi⟩ := B.ex
  exact op_own (op := .Mult) F o oi b hr
theorem opR_add (B : OpB X.prog X.w X.K X.mg X.base C "add" gL gR) (hr : Room 4 X.A) : OpR X (binaryOp .Add) (rOwnR C (spBin C gR)) := by
  obtain ⟨f, g, fd, gd, F, b, G, c, o, oi⟩ := B.ex
  exact op_ownR (op := .Add) G o oi B.sub PySem.F.slot_int_add PySem.F.fills_int_add no_add c hr
theorem opR_sub (B : OpB X.prog X.w X.K X.mg X.base C "sub" gL gR) (hr : Room 4 X.A) : OpR X (binaryOp .Sub) (rOwnR C (spBin C gR)) := by
  obtain ⟨f, g, fd, gd, F, b, G, c, o, oi⟩ := B.ex
  exact op_ownR (op := .Sub) G o oi B.sub PySem.F.slot_int_sub PySem.F.fills_int_sub no_sub c hr
theorem opR_mul (B : OpB X.prog X.w X.K X.mg X.base C "mul" gL gR) (hr : Room 4 X.A) : OpR X (binaryOp .Mult) (rOwnR C (spBin C gR)) := by
  obtain ⟨f, g, fd, gd, F, b, G, c, o, oi⟩ := B.ex
  exact op_ownR (op := .Mult) G o oi B.sub PySem.F.slot_int_mul PySem.F.fills_int_mul no_mul c hr
end
theorem made_z {C : Addr} {a b : Int} {H : Hp} {Z : VK} {x dx : Addr} (hx : H x = none) (hd : H dx = none) (ne : dx ≠ x) (hb : b ≠ 0) (ba : Bt 8000 a) (bb : Bt 8000 b) (q : ∀ H', Ex H H' → Rt C H' x (low a b).1 (low a b).2 → Z .non H') :
    spInit C [.ref x, .int a, .int b] (upd (upd H dx (.own x)) x (.ins C dx [])) Z E0 := by
  refine ⟨x, dx, a, b, rfl, upd_same, hb, ba, bb, fun H' k r => q H' (fun y o h => k y o (ne_of_none h hx) ?_) r⟩
  rw [upd_ne (ne_of_none h hx), upd_ne (ne_of_none h hd)]
  exact h
theorem bt0 : Bt 8000 0 := Bt.mono (n := 1) (show (0 : Int).natAbs < 2 ^ 1 by decide) (by decide)
/-- the sum of pairs, one by one -/
def sumP (f p : Int × Int) : Int × Int := low (f.1 * p.2 + p.1 * f.2) (f.2 * p.2)
def totalM (ps : List (Int × Int)) : Int × Int := ps.foldl sumP (0, 1)
structure Sm (ps : List (Int × Int)) : Prop where
  len : ps.length ≤ 10
  bt : ∀ p ∈ ps, Bt 140 p.1 ∧ Bt 140 p.2 ∧ 0 < p.2
theorem Sm.take {ps : List (Int × Int)} (h : Sm ps) : ∀ i, i ≤ ps.length → Bt (2 + 150 * i) (totalM (ps.take i)).1 ∧ Bt (2 + 150 * i) (totalM (ps.take i)).2 ∧ 0 < (totalM (ps.take i)).2
  | 0, _ => by
    rw [List.take_zero]
    exact ⟨show (0 : Int).natAbs < 2 ^ 2 by decide, show (1 : Int).natAbs < 2 ^ 2 by decide, by decide⟩
  | i + 1, hi => by
    obtain ⟨h1, h2, h3⟩ := h.take i (by omega)
    have hlt : i < ps.length := by omega
    obtain ⟨b1, b2, b3⟩ := h.bt ps[i] (List.getElem_mem hlt)
    have e : totalM (ps.take (i + 1)) = sumP (totalM (ps.take i)) ps[i] := by
      unfold totalM
      rw [List.take_add_one, List.getElem?_eq_getElem hlt, List.foldl_append]
      rfl
    rw [e]
    have pos : 0 < (totalM (ps.take i)).2 * ps[i].2 := Int.mul_pos h3 b3
    have k := low_bt (Bt.add (Bt.mul h1 b2) (Bt.mono (Bt.mul b1 h2) (show 140 + (2 + 150 * i) ≤ 2 + 150 * i + 140 by omega))) (Bt.mul h2 b2) (show (totalM (ps.take i)).2 * ps[i].2 ≠ 0 by omega)
    exact ⟨k.1.mono (by omega), k.2.mono (by omega), low_pos (by omega)⟩
/-- references to Ratios -/
def RtV (C : Addr) (p : Int × Int) (v : V) (H : Hp) : Prop := ∃ r, v = .ref r ∧ Rt C H r p.1 p.2
theorem Stab.rt {C : Addr} : Stab (RtV C) := ⟨fun _ _ _ _ e ⟨r, h1, h2⟩ => ⟨r, h1, h2.up e⟩, fun _ _ _ D _ _ hD ⟨r, h1, dx, h2⟩ => ⟨r, h1, dx, by
  have : r ≠ D := fun z => by rw [z, hD] at h2; cases h2
  rw [upd_ne this]; exact h2⟩⟩
theorem paired_at {α : Type} {F : α → V → Prop} : ∀ {ys : List α} {xs : List V}, Paired F ys xs → ∀ {i : Nat} {x : V}, xs[i]? = some x → ∃ y, ys[i]? = some y ∧ F y x
  | _, _, .nil, i, x, h => by simp at h
  | _, _, .cons (a := y) q t, 0, x, h => ⟨y, rfl, by simp at h; exact h ▸ q⟩
  | _, _, .cons q t, i + 1, x, h => by
    obtain ⟨y, h1, h2⟩ := paired_at t (i := i) (x := x) (by simpa using h)
    exact ⟨y, by simpa using h1, h2⟩
def RetO (C : Addr) (t b : Int) (H : Hp) (Q : VK) : Prop := ∀ x H', Ex H H' → Rt C H' x t b → Q (.ref x) H'
def spRatioOf (C : Addr) : Sp := fun vs H Q _ => ∃ (v : V) (t b : Int), vs = [v] ∧ Num C H v t b ∧ Bt 3000 t ∧ RetO C t b H Q
def spTotalOf (C : Addr) : Sp := fun vs H Q _ => ∃ (a : Addr) (xs : List V) (ps : List (Int × Int)), vs = [.ref a] ∧ H a = some (.lst xs) ∧ Paired (fun p v => RtV C p v H) ps xs ∧ Sm ps ∧ RetO C (totalM ps).1 (totalM ps).2 H Q
def spTotal (C : Addr) : Sp := fun vs H Q _ => ∃ (a : Addr) (xs : List V) (ps : List (Int × Int)), vs = [.ref C, .ref a] ∧ SqH H a xs ∧ Paired (fun (p : Int × Int) v => Num C H v p.1 p.2) ps xs ∧ Sm ps ∧ RetO C (totalM ps).1 (totalM ps).2 H Q
section
variable {P : Program} {w : World} {K : PySem.W.Frag} {mg : Str → Option Value} {base : Heap} {f C : Addr} {fd : FuncData}
theorem sc_is_number : FnScope ["value"] ["value"] (defScope (top 15)) := ⟨rfl, rfl, rfl, by decide +kernel, rfl, by decide +kernel, by decide +kernel⟩
theorem ok_is_number (F : Fun K "is_number" "is_number" (top 15) f fd) (R : RCl K mg C) (T : Tx mg) (C_is_integer : ClO P w K mg base "is_integer" 1 ["value"] (spIsI K C)) : FnOk P w K mg base CX0 2 f fd ["value"] (spIsN K C) := by
  have sc := sc_is_number
  refine F.ok sc (fun vs H Q E h => ?_) (fun cdv A outer s H vs Q E hr h => ?_)
  · obtain ⟨_, _, _, _, rfl, _⟩ := h; rfl
  obtain ⟨v, i, b, r, rfl, kd, q⟩ := h
  refine ⟨_, (pss_one (ps_ret (pe_or (pe_clo C_is_integer (hr.mono (by first | decide | omega)) (pa_cons (pv 0) pa_nil)) (pe_one (pe_callB call_isi rfl T.b_isinstance bt_isinstance (pa_cons (pv 0) (pa_cons (pe_glob (v := .ref C) rfl R.mgC rfl) pa_nil))))))), ?_⟩
  refine ⟨_, rfl, v, i, b, r, rfl, kd, fun H1 e1 => ⟨_, rfl, ?_⟩⟩
  obtain ⟨t, ty, k1, k2, k3⟩ := kd.up e1
  cases hk : (i && !b) with
  | true =>
    rw [hk] at q
    exact q _ e1
  | false =>
    rw [hk] at q
    refine ⟨_, rfl, _, _, _, _, _, rfl, .own C, ty, k3, ?_⟩
    exact q _ e1
theorem sc_ratio_of : FnScope ["number"] ["number"] (defScope (top 16)) := ⟨rfl, rfl, rfl, by decide +kernel, rfl, by decide +kernel, by decide +kernel⟩
theorem ok_ratio_of (F : Fun K "ratio_of" "ratio_of" (top 16) f fd) (R : RCl K mg C) (T : Tx mg) (MR : MkR P w K mg base C) : FnOk P w K mg base CX0 4 f fd ["number"] (spRatioOf C) := by
  have sc := sc_ratio_of
  refine F.ok sc (fun vs H Q E h => ?_) (fun cdv A outer s H vs Q E hr h => ?_)
  · obtain ⟨_, _, _, rfl, _⟩ := h; rfl
  obtain ⟨v, t, b, rfl, hv, bt, q⟩ := h
  refine ⟨_, (pss_one (ps_ret (pe_ifExp (pt_val (pe_callB call_isi rfl T.b_isinstance bt_isinstance (pa_cons (pv 0) (pa_cons (pe_glob (v := .ref C) rfl R.mgC rfl) pa_nil)))) (pv 0) (pe_rat1 MR (hr.mono (by first | decide | omega)) (pa_cons (pv 0) pa_nil))))), ?_⟩
  rcases hv with ⟨rfl, rfl⟩ | ⟨a, rfl, dx, ha⟩
  · refine ⟨_, rfl, _, _, _, _, _, rfl, .own C, .base (.int t), R.kI, _, rfl, ?_⟩
    refine ⟨_, rfl, fun x dx hx hd ne => ?_⟩
    refine made_fits hx hd ne (by decide) (bt.mono (by decide)) bt1 fun y H' h0 e r => q y H' e ?_
    rw [low_one] at r
    exact r
  · refine ⟨_, rfl, _, _, _, _, _, rfl, .own C, R.ty ha, kt_own, _, rfl, ?_⟩
    exact ⟨_, rfl, q a H (Ex.refl _) ⟨dx, ha⟩⟩
theorem sc_want_number : FnScope ["value"] ["value"] (defScope (top 17)) := ⟨rfl, rfl, rfl, by decide +kernel, rfl, by decide +kernel, by decide +kernel⟩
theorem ok_want_number (F : Fun K "want_number" "want_number" (top 17) f fd) (R : RCl K mg C) (T : Tx mg) (C_is_number : ClO P w K mg base "is_number" 2 ["value"] (spIsN K C)) (C_ratio_of : ClO P w K mg base "ratio_of" 4 ["number"] (spRatioOf C)) : FnOk P w K mg base CX0 5 f fd ["value"] (spRatioOf C) := by
  have sc := sc_want_number
  refine F.ok sc (fun vs H Q E h => ?_) (fun cdv A outer s H vs Q E hr h => ?_)
  · obtain ⟨_, _, _, rfl, _⟩ := h; rfl
  obtain ⟨v, t, b, rfl, hv, bt, q⟩ := h
  refine ⟨_, (pss_cons (ps_if (pt_not (pt_val (pe_clo C_is_number (hr.mono (by first | decide | omega)) (pa_cons (pv 0) pa_nil)))) (pss_one ps_never) pss_nil) (pss_one (ps_ret (pe_clo C_ratio_of (hr.mono (by first | decide | omega)) (pa_cons (pv 0) pa_nil))))), ?_⟩
  have kd : ∃ i b r, Kd K C H v i b r ∧ ((i && !b) || r) = true := by
    rcases hv with ⟨rfl, rfl⟩ | ⟨a, rfl, dx, ha⟩
    · exact ⟨_, _, _, kd_int R t, rfl⟩
    · exact ⟨_, _, _, kd_own R ha, rfl⟩
  obtain ⟨i, b1, r, kd, hk⟩ := kd
  refine ⟨_, rfl, v, i, b1, r, rfl, kd, fun H1 e1 => ⟨_, rfl, ?_⟩⟩
  rw [hk]
  exact ⟨_, rfl, v, t, b, rfl, hv.up e1, bt, fun x H' e r => q x H' (e1.trans e) r⟩
theorem sc_total_of : FnScope ["ratios", "found", "ratio"] ["ratios"] (defScope (top 18)) := ⟨rfl, rfl, rfl, by decide +kernel, rfl, by decide +kernel, by decide +kernel⟩
theorem ok_total_of (F : Fun K "total_of" "total_of" (top 18) f fd) (R : RCl K mg C) (T : Tx mg) (MR : MkR P w K mg base C) {gR : Int → Int → Int → Int → Int × Int} (OA : OpB P w K mg base C "add" gAdd gR) : FnOk P w K mg base CX0 5 f fd ["ratios"] (spTotalOf C) := by
  have sc := sc_total_of
  refine F.ok sc (fun vs H Q E h => ?_) (fun cdv A outer s H vs Q E hr h => ?_)
  · obtain ⟨_, _, _, rfl, _⟩ := h; rfl
  obtain ⟨a, xs, ps, rfl, ha, hps, sm, q⟩ := h
  have hl : ps.length = xs.length := Paired.length hps
  refine ⟨_, (pss_cons (ps_set (i := 1) sc.nd rfl (Or.inl rfl) (pe_rat1 MR (hr.mono (by first | decide | omega)) (pa_cons pe_int pa_nil))) (pss_cons (ps_for PassesOwn.never rfl (pi_list (pv 0)) (pg_name (i := 2) sc.nd rfl (Or.inl rfl)) (pss_one (ps_set (i := 1) sc.nd rfl (Or.inl rfl) (pe_op (opL_add OA (hr.mono (by first | decide | omega))) (pv 1) (pv 2))))) (pss_one (ps_ret (pv 1))))), ?_⟩
  refine fun x dx hx hd ne => ?_
  refine made_z hx hd ne (by decide) bt0 bt1 fun H1 e1 r1 => ⟨rfl, ?_⟩
  rw [low_one] at r1
  refine ⟨_, rfl, a, rfl, ⟨_, sq_of (e1 _ _ ha)⟩, for_list (K := K) (a := a) (xs := xs) (fun i σ H' => ∃ (z : Addr) (o : Option V), σ = [some (.ref a), some (.ref z), o] ∧ Ex H H' ∧ Rt C H' z (totalM (ps.take i)).1 (totalM (ps.take i)).2)
    ⟨x, _, rfl, e1, r1⟩ (fun i σ H' _ ⟨_, _, _, e, _⟩ => sq_of (e _ _ ha)) ?_ ?_⟩
  · rintro i v σ H2 hv ⟨z, o, rfl, e2, r2⟩
    obtain ⟨p, hp, r, rfl, hr2⟩ := paired_at (Paired.mapP hps fun _ _ h => Stab.rt.up _ _ _ _ e2 h) hv
    have hi : i < ps.length := (List.getElem?_eq_some_iff.mp hp).1
    have hpe : ps[i] = p := (List.getElem?_eq_some_iff.mp hp).2
    obtain ⟨b1, b2, b3⟩ := sm.take i (by omega)
    obtain ⟨c1, c2, c3⟩ := sm.bt p (List.mem_of_getElem? hp)
    have l10 := sm.len
    have e : totalM (ps.take (i + 1)) = sumP (totalM (ps.take i)) p := by
      unfold totalM
      rw [List.take_add_one, hp, List.foldl_append]
      rfl
    have pos : 0 < (totalM (ps.take i)).2 * p.2 := Int.mul_pos b3 c3
    obtain ⟨dx2, hz⟩ := id r2
    obtain ⟨dx3, hr3⟩ := id hr2
    refine ⟨_, rfl, _, rfl, ⟨z, dx2, _, rfl, hz⟩, .inr ⟨r, dx3, _, rfl, hr3⟩, ?_⟩
    refine ⟨z, .ref r, _, _, p.1, p.2, rfl, r2, .inr ⟨r, rfl, hr2⟩, b1.mono (by omega), b2.mono (by omega), c1.mono (by decide), c2.mono (by decide), (show (totalM (ps.take i)).2 * p.2 ≠ 0 by omega), fun x H3 h0 e3 r3 => ?_⟩
    exact ⟨x, _, rfl, e2.trans e3, by rw [e]; exact r3⟩
  · rintro σ H2 ⟨z, o, rfl, e2, r2⟩
    rw [← hl, List.take_length] at r2
    exact ⟨_, rfl, q z H2 e2 r2⟩
theorem sc_Ratio_total : FnScope ["cls", "numbers", "number"] ["cls", "numbers"] (defScope (sm 5)) := ⟨rfl, rfl, rfl, by decide +kernel, rfl, by decide +kernel, by decide +kernel⟩
theorem ok_total (F : Fun K "total" "Ratio.total" (sm 5) f fd) (R : RCl K mg C) (T : Tx mg) (C_is_list : ClO P w K mg base "is_list" 1 ["value"] spList) (C_want_number : ClO P w K mg base "want_number" 5 ["value"] (spRatioOf C)) (C_total_of : ClO P w K mg base "total_of" 5 ["ratios"] (spTotalOf C)) : FnOk P w K mg base CX0 6 f fd ["cls", "numbers"] (spTotal C) := by
  have sc := sc_Ratio_total
  refine F.ok sc (fun vs H Q E h => ?_) (fun cdv A outer s H vs Q E hr h => ?_)
  · obtain ⟨_, _, _, rfl, _⟩ := h; rfl
  obtain ⟨a, xs, ps, rfl, ha, hps, sml, q⟩ := h
  have hl : ps.length = xs.length := Paired.length hps
  have l10 := sml.len
  rcases ha with ha | ha
  · refine ⟨_, (pss_cons (ps_if (pt_not (pt_val (pe_clo C_is_list (hr.mono (by first | decide | omega)) (pa_cons (pv 1) pa_nil)))) (pss_one ps_never) pss_nil) (pss_one (ps_ret (pe_clo C_total_of (hr.mono (by first | decide | omega)) (pa_cons (pe_lc (own := [("number", 2)]) (g := (gName 2)) rfl sc.nd (pi_list (pv 1)) (blkOk_by (N := ["cls", "numbers", "number"]) (sc := defScope ((sm 5))) (by decide +kernel)) (fun _ _ _ _ _ => (pg_name (i := 2) sc.nd rfl (Or.inl rfl))) (fun _ _ _ _ _ => pts_nil) (fun _ _ _ _ _ => (pe_clo C_want_number (hr.mono (by first | decide | omega)) (pa_cons (pv 2) pa_nil)))) pa_nil))))), ?_⟩
    refine ⟨_, rfl, a, _, rfl, .inl ha, fun H1 e1 => ⟨_, rfl, ?_⟩⟩
    refine ⟨_, rfl, a, rfl, ⟨_, sq_of (e1 _ _ ha)⟩, fun D hD => ?_⟩
    refine lcW (walk_list (K := K) (a := a) (xs := xs)) ps hl.symm (by omega) (fun _ => true) (RtV C) Stab.rt hD (fun H5 e5 => sq_of (e5 _ _ (e1 _ _ ha))) ?_ ?_
    · rintro i y x H4 H5 N Gt hy e4 ⟨rfl, hx⟩ _ k
      obtain ⟨p, hp, hn⟩ := paired_at (Paired.mapP hps fun _ _ h => Num.up h (e1.trans e4)) hx
      cases hp.symm.trans hy
      refine ⟨Ex.refl _, rfl, ?_⟩
      exact ⟨_, rfl, x, y.1, y.2, rfl, hn, (sml.bt y (List.mem_of_getElem? hy)).1.mono (by decide), fun z H6 e6 r6 => k rfl _ _ e6 ⟨z, rfl, r6⟩⟩
    · intro acc H4 e4 hD4 hacc
      rw [filter_yes] at hacc
      exact ⟨D, acc, ps, rfl, hD4, hacc, sml, fun x H' e r => q x H' (e1.trans (e4.trans e)) r⟩
  · refine ⟨_, (pss_cons (ps_if (pt_not (pt_val (pe_clo C_is_list (hr.mono (by first | decide | omega)) (pa_cons (pv 1) pa_nil)))) (pss_one ps_never) pss_nil) (pss_one (ps_ret (pe_clo C_total_of (hr.mono (by first | decide | omega)) (pa_cons (pe_lc (own := [("number", 2)]) (g := (gName 2)) rfl sc.nd (pi_tup (pv 1)) (blkOk_by (N := ["cls", "numbers", "number"]) (sc := defScope ((sm 5))) (by decide +kernel)) (fun _ _ _ _ _ => (pg_name (i := 2) sc.nd rfl (Or.inl rfl))) (fun _ _ _ _ _ => pts_nil) (fun _ _ _ _ _ => (pe_clo C_want_number (hr.mono (by first | decide | omega)) (pa_cons (pv 2) pa_nil)))) pa_nil))))), ?_⟩
    refine ⟨_, rfl, a, _, rfl, .inr ha, fun H1 e1 => ⟨_, rfl, ?_⟩⟩
    refine ⟨_, rfl, a, rfl, ⟨_, st_of (e1 _ _ ha)⟩, fun D hD => ?_⟩
    refine lcW (walk_tup (K := K) (a := a) (xs := xs)) ps hl.symm (by omega) (fun _ => true) (RtV C) Stab.rt hD (fun H5 e5 => st_of (e5 _ _ (e1 _ _ ha))) ?_ ?_
    · rintro i y x H4 H5 N Gt hy e4 ⟨rfl, hx⟩ _ k
      obtain ⟨p, hp, hn⟩ := paired_at (Paired.mapP hps fun _ _ h => Num.up h (e1.trans e4)) hx
      cases hp.symm.trans hy
      refine ⟨Ex.refl _, rfl, ?_⟩
      exact ⟨_, rfl, x, y.1, y.2, rfl, hn, (sml.bt y (List.mem_of_getElem? hy)).1.mono (by decide), fun z H6 e6 r6 => k rfl _ _ e6 ⟨z, rfl, r6⟩⟩
    · intro acc H4 e4 hD4 hacc
      rw [filter_yes] at hacc
      exact ⟨D, acc, ps, rfl, hD4, hacc, sml, fun x H' e r => q x H' (e1.trans (e4.trans e)) r⟩
end
end B71

namespace B71
open PySem PySem.Spec PyProof.Rows L2 Evl RZ SrtO

def ExB (d : Addr) (H H' : Hp) : Prop := ∀ b o, b ≠ d → H b = some o → H' b = some o
theorem ExB.of {d : Addr} {H H' : Hp} (e : Ex H H') : ExB d H H' := fun b o _ h => e b o h
theorem ExB.trans {d : Addr} {H H1 H2 : Hp} (a : ExB d H H1) (b : ExB d H1 H2) : ExB d H H2 := fun x o n h => b x o n (a x o n h)
theorem ExB.put {d : Addr} {H H1 : Hp} {o : HO} (a : ExB d H H1) : ExB d H (upd H1 d o) := fun x u n h => by rw [upd_ne n]; exact a x u n h
theorem ExB.fresh {d p : Addr} {H H' : Hp} (e : ExB d H H') (n : p ≠ d) (h : H' p = none) : H p = none := by
  cases q : H p with
  | none => rfl
  | some o => rw [e p o n q] at h; cases h
def Pot (H : Hp) (p : Addr) : Prop := ∃ x y : Int, H p = some (.lst [.int x, .int y]) ∧ 0 ≤ x ∧ 0 ≤ y ∧ y < 2147483648
theorem Pot.same {H H' : Hp} {p : Addr} (h : Pot H p) (e : H' p = H p) : Pot H' p := by
  obtain ⟨x, y, h1, h2⟩ := h
  exact ⟨x, y, e.trans h1, h2⟩
theorem Pot.up {H H' : Hp} {p : Addr} (h : Pot H p) (e : Ex H H') : Pot H' p := by
  obtain ⟨x, y, h1, h2⟩ := h
  exact ⟨x, y, e _ _ h1, h2⟩
theorem pot_ne {H : Hp} {p r : Addr} {xs : List V} (h : Pot H p) (hr : H r = some (.tup xs)) : r ≠ p := fun z => by
  obtain ⟨x, y, h1, _⟩ := h
  rw [z, h1] at hr
  cases hr
def spPot (K : PySem.W.Frag) : Sp := fun vs H Q _ => ∃ (a : Addr) (ns : List Int), vs = [.ref a, .int 0] ∧ SqL K H a (ns.map V.int) ∧ ∀ p H', H p = none → Ex H H' → Pot H' p → Q (.ref p) H'
def spDraw : Sp := fun vs H Q _ => ∃ (p : Addr) (m : Nat), vs = [.ref p, .int m] ∧ Pot H p ∧ 1 ≤ m ∧ m ≤ 100 ∧ ∀ (d : Nat) H', ExB p H H' → Pot H' p → d < m → Q (.int d) H'
def spPick : Sp := fun vs H Q _ => ∃ (p a : Addr) (xs : List V), vs = [.ref p, .ref a] ∧ Pot H p ∧ H a = some (.lst xs) ∧ a ≠ p ∧ 1 ≤ xs.length ∧ xs.length ≤ 100 ∧ ∀ (d : Nat) x H', ExB p H H' → Pot H' p → xs[d]? = some x → Q x H'
def PtI (H : Hp) (r : Addr) (p : Int × Int) : Prop := H r = some (.tup [.int p.1, .int p.2])
theorem PtI.up {H H' : Hp} {r : Addr} {p : Int × Int} (h : PtI H r p) (e : Ex H H') : PtI H' r p := e _ _ h
def RetP (p : Int × Int) (H : Hp) (Q : VK) : Prop := ∀ r H', H r = none → Ex H H' → PtI H' r p → Q (.ref r) H'
def spLow : Sp := fun vs H Q _ => ∃ a b : Int, vs = [.int a, .int b] ∧ b ≠ 0 ∧ Bt 8000 b ∧ RetP (low a b) H Q
def spS2 (g : Int → Int → Int → Int → Int × Int) : Sp := fun vs H Q _ => ∃ (r r2 : Addr) (p p2 : Int × Int), vs = [.ref r, .ref r2] ∧ PtI H r p ∧ PtI H r2 p2 ∧ Bt 3000 p.1 ∧ Bt 3000 p.2 ∧ Bt 3000 p2.1 ∧ Bt 3000 p2.2 ∧ (g p.1 p.2 p2.1 p2.2).2 ≠ 0 ∧ RetP (low (g p.1 p.2 p2.1 p2.2).1 (g p.1 p.2 p2.1 p2.2).2) H Q
def gLess (t b t2 b2 : Int) : Int × Int := gAdd t b (0 - t2) b2
section
variable {P : Program} {w : World} {K : PySem.W.Frag} {mg : Str → Option Value} {base : Heap} {f C : Addr} {fd : FuncData}
theorem sc__law_pot : FnScope ["script", "k", "cell"] ["script", "k"] (defScope (top 20)) := ⟨rfl, rfl, rfl, by decide +kernel, rfl, by decide +kernel, by decide +kernel⟩
theorem ok_law_pot (F : Fun K "_law_pot" "_law_pot" (top 20) f fd) (T : Tx mg) : FnOk P w K mg base CX0 1 f fd ["script", "k"] (spPot K) := by
  have sc := sc__law_pot
  refine F.ok sc (fun vs H Q E h => ?_) (fun cdv A outer s H vs Q E hr h => ?_)
  · obtain ⟨a, ns, rfl, _⟩ := h; rfl
  obtain ⟨a, ns, rfl, hS, q⟩ := h
  have fin : ∀ (c e : Int), ∀ p, H p = none → ∀ H' : Hp, H' = upd H p (.lst [.int (if c - 10 ^ (18 : Int).toNat > 0 then c - 10 ^ (18 : Int).toNat else 0), .int (e % 2147483477 + 1)]) → Q (.ref p) H' := fun c e p hp H' z => by
    subst z
    refine q p _ hp (Ex.new hp) ⟨_, _, upd_same, ?_, ?_, ?_⟩
    · split <;> omega
    · omega
    · omega
  refine ⟨_, (pss_cons (ps_set (i := 2) sc.nd rfl (Or.inl rfl) (pe_op op_add (pe_op op_mul pe_int (pv 1)) pe_int)) (pss_cons (ps_if (pt_cmpR op_lt (pv 1) (pe_callB call_len_seq rfl T.b_len bt_len (pa_cons (pv 0) pa_nil)) (nomark _)) (pss_one (ps_set (i := 2) sc.nd rfl (Or.inl rfl) (pe_callB call_abs rfl T.b_abs bt_abs (pa_cons (pe_ix ix_list (pv 0) (pv 1) (fun _ _ => rfl)) pa_nil)))) pss_nil) (pss_one (ps_ret (pe_lst (pa_cons (pe_callB (call_max2 rfl) rfl T.b_max bt_max (pa_cons pe_int (pa_cons (pe_op op_sub (pv 2) (pe_op op_pow pe_int pe_int)) pa_nil))) (pa_cons (pe_op op_add (pe_op op_mod (pe_op op_mul (pe_callTy call_int1 rfl T.b_int bt_int (pa_cons (pe_op op_add (pe_op op_mod (pe_callTy call_int1 rfl T.b_int bt_int (pa_cons (pv 2) pa_nil)) pe_int) pe_int) pa_nil)) (pe_op op_pow (pe_op op_add (pe_op op_mul pe_int (pv 1)) pe_int) pe_int)) pe_int) pe_int) pa_nil))))))), ?_⟩
  refine ⟨_, rfl, _, _, rfl, rfl, .inl (by decide), _, _, rfl, rfl, ?_⟩
  refine ⟨_, rfl, _, rfl, a, _, rfl, .inl hS, _, _, rfl, rfl, _, rfl, ?_⟩
  refine ite2 (fun g => ?_) (fun g => ?_)
  · have g' := of_decide_eq_true g
    rw [List.length_map] at g'
    have hk' : 0 < ns.length := by omega
    have hat : atI (ns.map V.int) 0 = some (.int ns[0]) := atI_nat (j := 0) (by rw [List.getElem?_map, List.getElem?_eq_getElem hk'] <;> rfl)
    refine ⟨_, rfl, _, rfl, a, _, _, _, rfl, rfl, hS, hat, _, rfl, ?_⟩
    refine ⟨_, rfl, _, _, rfl, rfl, ⟨by decide, by decide, by decide⟩, _, _, rfl, rfl, _, _, rfl, ?_⟩
    refine ⟨_, rfl, .inl ⟨_, rfl, _, _, rfl, rfl, (by show (0 : Int) < _; decide), _, _, rfl, rfl, .inl ⟨_, rfl, _, rfl, _, _, rfl, rfl, .inl (by decide), _, _, rfl, rfl, _, _, rfl, rfl, ⟨by decide, by decide, by decide⟩, _, _, rfl, rfl, .inr (by decide), _, _, rfl, rfl, (by show (0 : Int) < _; decide), _, _, rfl, rfl, (by show 2 ≤ sizeLine; decide), fun p hp => ?_⟩⟩⟩
    exact fin _ _ p hp _ rfl
  · refine ⟨_, rfl, _, _, rfl, rfl, ⟨by decide, by decide, by decide⟩, _, _, rfl, rfl, _, _, rfl, ?_⟩
    refine ⟨_, rfl, .inl ⟨_, rfl, _, _, rfl, rfl, (by show (0 : Int) < _; decide), _, _, rfl, rfl, .inl ⟨_, rfl, _, rfl, _, _, rfl, rfl, .inl (by decide), _, _, rfl, rfl, _, _, rfl, rfl, ⟨by decide, by decide, by decide⟩, _, _, rfl, rfl, .inr (by decide), _, _, rfl, rfl, (by show (0 : Int) < _; decide), _, _, rfl, rfl, (by show 2 ≤ sizeLine; decide), fun p hp => ?_⟩⟩⟩
    exact fin _ _ p hp _ rfl
end
end B71

namespace B71
open PySem PySem.Spec PyProof.Rows L2 Evl RZ SrtO

section
variable {P : Program} {w : World} {K : PySem.W.Frag} {mg : Str → Option Value} {base : Heap} {f C : Addr} {fd : FuncData}
theorem sc__law_draw : FnScope ["pot", "size", "digit"] ["pot", "size"] (defScope (top 21)) := ⟨rfl, rfl, rfl, by decide +kernel, rfl, by decide +kernel, by decide +kernel⟩
theorem ok_law_draw (F : Fun K "_law_draw" "_law_draw" (top 21) f fd) (T : Tx mg) : FnOk P w K mg base CX0 1 f fd ["pot", "size"] spDraw := by
  have sc := sc__law_draw
  refine F.ok sc (fun vs H Q E h => ?_) (fun cdv A outer s H vs Q E hr h => ?_)
  · obtain ⟨a, k, rfl, _⟩ := h; rfl
  obtain ⟨p, m, rfl, ⟨x, y, hp, hx, hy, hy2⟩, h1, h2, q⟩ := h
  refine ⟨_, (pss_cons (ps_if (pt_cmpR op_gt (pe_ix ix_list (pv 0) pe_int (fun _ _ => rfl)) pe_int (nomark _)) (pss_cons (ps_asg (pe_callB call_divmod rfl T.b_divmod bt_divmod (pa_cons (pe_ix ix_list (pv 0) pe_int (fun _ _ => rfl)) (pa_cons (pv 1) pa_nil))) (pg_tup rfl (pgs_cons (pg_sub (pv 0) pe_int set_list) (pgs_cons (pg_name (i := 2) sc.nd rfl (Or.inl rfl)) pgs_nil)))) (pss_one (ps_ret (pv 2)))) pss_nil) (pss_cons (ps_asg (pe_op op_mod (pe_callTy call_int1 rfl T.b_int bt_int (pa_cons (pe_op op_add (pe_op op_mul (pe_ix ix_list (pv 0) pe_int (fun _ _ => rfl)) pe_int) pe_int) pa_nil)) pe_int) (pg_sub (pv 0) pe_int set_list)) (pss_one (ps_ret (pe_op op_mod (pe_callTy call_int1 rfl T.b_int bt_int (pa_cons (pe_op op_fdiv (pe_op op_mod (pe_callTy call_int1 rfl T.b_int bt_int (pa_cons (pe_op op_mul (pe_ix ix_list (pv 0) pe_int (fun _ _ => rfl)) (pe_ix ix_list (pv 0) pe_int (fun _ _ => rfl))) pa_nil)) pe_int) pe_int) pa_nil)) (pv 1)))))), ?_⟩
  refine ⟨_, rfl, p, _, 0, .int x, rfl, rfl, sq_of hp, rfl, _, _, rfl, rfl, _, rfl, ?_⟩
  refine ite2 (fun g => ?_) (fun g => ?_)
  · have mz : (0 : Int) < (m : Int) := by omega
    refine ⟨_, rfl, p, _, 0, .int x, rfl, rfl, sq_of hp, rfl, _, rfl, _, _, rfl, ⟨mz, by omega⟩, fun t ht => ?_⟩
    have nt : t ≠ p := fun z => by rw [z, hp] at ht; cases ht
    have x1 : Ex H (upd H t (.tup [.int (x / (m : Int)), .int (x % (m : Int))])) := Ex.new ht
    refine ⟨t, _, rfl, st_of upd_same, rfl, _, _, rfl, _, rfl, p, _, 0, 0, rfl, rfl, x1 _ _ hp, rfl, _, _, rfl, rfl, ?_⟩
    refine ⟨_, rfl, ?_⟩
    have hd : x % (m : Int) = ((x % (m : Int)).toNat : Int) := (Int.toNat_of_nonneg (Int.emod_nonneg _ (by omega))).symm
    have hlt : x % (m : Int) < m := Int.emod_lt_of_pos _ mz
    rw [show ([.int x, .int y] : List V).set 0 (.int (x / (m : Int))) = [.int (x / (m : Int)), .int y] from rfl]
    have key := q (x % (m : Int)).toNat _ (ExB.put (o := .lst [.int (x / (m : Int)), .int y]) (ExB.of x1)) ⟨_, _, upd_same, Int.ediv_nonneg hx (by omega), hy, hy2⟩ (by omega)
    rw [← hd] at key
    exact key
  · refine ⟨_, rfl, p, _, 1, .int y, rfl, rfl, sq_of hp, rfl, _, _, rfl, rfl, .inr (by decide), _, _, rfl, rfl, .inl ⟨_, rfl, _, _, rfl, rfl, (by show (0 : Int) < _; decide), _, rfl, p, _, 1, 1, rfl, rfl, hp, rfl, ?_⟩⟩
    rw [show ([.int x, .int y] : List V).set 1 (.int ((y * 48271 + 18140) % 2147483587)) = [.int x, .int ((y * 48271 + 18140) % 2147483587)] from rfl]
    have e1 : ExB p H (upd H p (.lst [.int x, .int ((y * 48271 + 18140) % 2147483587)])) := ExB.put (ExB.of (Ex.refl _))
    have hp1 : upd H p (.lst [.int x, .int ((y * 48271 + 18140) % 2147483587)]) p = some (.lst [.int x, .int ((y * 48271 + 18140) % 2147483587)]) := upd_same
    generalize upd H p (.lst [.int x, .int ((y * 48271 + 18140) % 2147483587)]) = H1 at e1 hp1 ⊢
    have y0 : 0 ≤ (y * 48271 + 18140) % 2147483587 := by omega
    have y1 : (y * 48271 + 18140) % 2147483587 < 2147483587 := by omega
    generalize (y * 48271 + 18140) % 2147483587 = y' at e1 hp1 y0 y1 ⊢
    refine ⟨_, rfl, p, _, 1, .int y', rfl, rfl, sq_of hp1, rfl, _, rfl, p, _, 1, .int y', rfl, rfl, sq_of hp1, rfl, _, _, rfl, rfl, .inl ⟨by omega, by omega⟩, .inl ⟨_, rfl, _, _, rfl, rfl, (by show (0 : Int) < _; decide), _, _, rfl, rfl, ⟨by decide, by decide⟩, .inl ⟨_, rfl, _, rfl, _, _, rfl, rfl, by omega, ?_⟩⟩⟩
    have mz : (0 : Int) < (m : Int) := by omega
    have hlt : (y' * y' % 2147483549 / 19) % (m : Int) < m := Int.emod_lt_of_pos _ mz
    have hnn : 0 ≤ (y' * y' % 2147483549 / 19) % (m : Int) := Int.emod_nonneg _ (by omega)
    show Q (.int ((y' * y' % 2147483549 / 19) % (m : Int))) H1
    generalize (y' * y' % 2147483549 / 19) % (m : Int) = d at hlt hnn ⊢
    have hd : d = (d.toNat : Int) := (Int.toNat_of_nonneg hnn).symm
    have key := q d.toNat H1 e1 ⟨_, _, hp1, hx, y0, by omega⟩ (by omega)
    rw [← hd] at key
    exact key
theorem sc__law_pick : FnScope ["pot", "some"] ["pot", "some"] (defScope (top 22)) := ⟨rfl, rfl, rfl, by decide +kernel, rfl, by decide +kernel, by decide +kernel⟩
theorem ok_law_pick (F : Fun K "_law_pick" "_law_pick" (top 22) f fd) (T : Tx mg) (C__law_draw : ClO P w K mg base "_law_draw" 1 ["pot", "size"] spDraw) : FnOk P w K mg base CX0 2 f fd ["pot", "some"] spPick := by
  have sc := sc__law_pick
  refine F.ok sc (fun vs H Q E h => ?_) (fun cdv A outer s H vs Q E hr h => ?_)
  · obtain ⟨a, k, _, rfl, _⟩ := h; rfl
  obtain ⟨p, a, xs, rfl, hp, ha, nap, h1, h2, q⟩ := h
  refine ⟨_, (pss_one (ps_ret (pe_ix ix_list (pv 1) (pe_clo C__law_draw (hr.mono (by first | decide | omega)) (pa_cons (pv 0) (pa_cons (pe_callB call_len_seq rfl T.b_len bt_len (pa_cons (pv 1) pa_nil)) pa_nil))) (fun _ _ => rfl)))), ?_⟩
  refine ⟨_, rfl, _, rfl, _, rfl, a, _, rfl, .inl (sq_of ha), p, xs.length, rfl, hp, h1, h2, fun d H1 e1 hp1 hd => ?_⟩
  have hx : xs[d]? = some xs[d] := List.getElem?_eq_getElem hd
  exact ⟨a, xs, _, xs[d], rfl, rfl, sq_of (e1 _ _ nap ha), atI_nat hx, q d _ H1 e1 hp1 hx⟩
theorem sc__law_low : FnScope ["top", "bottom", "one", "other"] ["top", "bottom"] (defScope (top 23)) := ⟨rfl, rfl, rfl, by decide +kernel, rfl, by decide +kernel, by decide +kernel⟩
theorem ok_law_low (F : Fun K "_law_low" "_law_low" (top 23) f fd) (T : Tx mg) : FnOk P w K mg base CX0 1 f fd ["top", "bottom"] spLow := by
  have sc := sc__law_low
  refine F.ok sc (fun vs H Q E h => ?_) (fun cdv A outer s H vs Q E hr h => ?_)
  · obtain ⟨a, k, rfl, _⟩ := h; rfl
  obtain ⟨a, b, rfl, hb, bb, q⟩ := h
  have ab : ∀ z : Int, (if z < 0 then -z else z) = ((z.natAbs : Nat) : Int) := fun z => by split <;> omega
  have gl : (gI a b).natAbs.log2 < 9000 := Nat.lt_trans ((bb.le (gI_le (a := a) hb)).log (by decide)) (by decide)
  refine ⟨_, (pss_cons (ps_par (i := 2) (j := 3) rfl sc.nd rfl rfl (by decide) rfl rfl (pa_cons (pe_callB call_abs rfl T.b_abs bt_abs (pa_cons (pv 0) pa_nil)) (pa_cons (pe_callB call_abs rfl T.b_abs bt_abs (pa_cons (pv 1) pa_nil)) pa_nil)) rfl) (pss_cons (ps_while PassesOwn.never (pt_cmpR op_gt (pv 3) pe_int (nomark _)) (pss_one (ps_par (i := 2) (j := 3) rfl sc.nd rfl rfl (by decide) rfl rfl (pa_cons (pv 3) (pa_cons (pe_op op_mod (pe_callTy call_int1 rfl T.b_int bt_int (pa_cons (pv 2) pa_nil)) (pv 3)) pa_nil)) rfl))) (pss_cons (ps_set (i := 2) sc.nd rfl (Or.inl rfl) (pe_ifExp (pt_cmpR op_gt (pv 1) pe_int (nomark _)) (pv 2) (pe_op op_sub pe_int (pv 2)))) (pss_one (ps_ret (pe_tup (pa_cons (pe_op op_fdivZ (pv 0) (pv 2)) (pa_cons (pe_op op_fdivZ (pv 1) (pv 2)) pa_nil)))))))), ?_⟩
  refine ⟨_, rfl, _, rfl, _, rfl, _, rfl, _, _, rfl, ?_⟩
  refine ⟨fun m σ' H' => H' = H ∧ ∃ x y : Nat, m = y ∧ σ' = [some (.int a), some (.int b), some (.int x), some (.int y)] ∧ Nat.gcd x y = Nat.gcd a.natAbs b.natAbs,
    ⟨b.natAbs, rfl, a.natAbs, b.natAbs, rfl, ?_, rfl⟩, ?_⟩
  · rw [ab, ab]; rfl
  rintro m σ' H' ⟨rfl, x, y, rfl, rfl, hg⟩
  refine ⟨_, rfl, _, _, rfl, rfl, _, rfl, ?_⟩
  refine ite2 (fun g => ?_) (fun g => ?_)
  · have hy : 0 < m := by
      have := of_decide_eq_true g
      omega
    refine ⟨fun σ' H1 => ∃ m', m' < m ∧ H1 = H' ∧ ∃ x y : Nat, m' = y ∧ σ' = [some (.int a), some (.int b), some (.int x), some (.int y)] ∧ Nat.gcd x y = Nat.gcd a.natAbs b.natAbs, fun σ' H1 ⟨m', h1, h2, h3⟩ => ⟨m', h1, h2, h3⟩, ?_⟩
    refine ⟨_, rfl, _, rfl, .inl ⟨_, rfl, _, rfl, _, _, rfl, rfl, (by omega), _, _, rfl, ?_⟩⟩
    refine ⟨x % m, Nat.mod_lt _ hy, rfl, m, x % m, rfl, ?_, ?_⟩
    · show [some (V.int a), some (V.int b), some (V.int (m : Int)), some (V.int ((x : Int) % (m : Int)))] = _
      rw [← Int.natCast_emod]
    · rw [← hg, Nat.gcd_comm m, ← Nat.gcd_rec, Nat.gcd_comm]
  · have hy : m = 0 := by
      have := of_decide_eq_false (Bool.eq_false_iff.mpr g)
      omega
    subst hy
    rw [Nat.gcd_zero_right] at hg
    subst hg
    refine ⟨_, rfl, _, _, rfl, rfl, _, rfl, ?_⟩
    by_cases hn : b < 0
    · have eg : gI a b = 0 - ((Nat.gcd a.natAbs b.natAbs : Nat) : Int) := by unfold gI; rw [if_pos hn]
      rw [decide_eq_false (by omega)]
      refine ⟨_, rfl, _, _, rfl, rfl, ?_⟩
      refine ⟨_, rfl, _, rfl, _, _, rfl, rfl, ⟨by rw [← eg]; exact gI_ne hb, by rw [← eg]; exact gl⟩, _, rfl, _, rfl, _, _, rfl, rfl, ⟨by rw [← eg]; exact gI_ne hb, by rw [← eg]; exact gl⟩, (by show 2 ≤ sizeLine; decide), fun r hr0 => ?_⟩
      refine q r _ hr0 (Ex.new hr0) ?_
      show upd _ r _ r = _
      rw [upd_same]
      unfold low
      rw [eg]
    · have eg : gI a b = ((Nat.gcd a.natAbs b.natAbs : Nat) : Int) := by unfold gI; rw [if_neg hn]
      rw [decide_eq_true (by omega)]
      refine ⟨_, rfl, ?_⟩
      refine ⟨_, rfl, _, rfl, _, _, rfl, rfl, ⟨by rw [← eg]; exact gI_ne hb, by rw [← eg]; exact gl⟩, _, rfl, _, rfl, _, _, rfl, rfl, ⟨by rw [← eg]; exact gI_ne hb, by rw [← eg]; exact gl⟩, (by show 2 ≤ sizeLine; decide), fun r hr0 => ?_⟩
      refine q r _ hr0 (Ex.new hr0) ?_
      show upd _ r _ r = _
      rw [upd_same]
      unfold low
      rw [eg]
theorem sc__law_sum : FnScope ["one", "other"] ["one", "other"] (defScope (top 24)) := ⟨rfl, rfl, rfl, by decide +kernel, rfl, by decide +kernel, by decide +kernel⟩
theorem ok_law_sum (F : Fun K "_law_sum" "_law_sum" (top 24) f fd) (T : Tx mg) (C__law_low : ClO P w K mg base "_law_low" 1 ["top", "bottom"] spLow) : FnOk P w K mg base CX0 2 f fd ["one", "other"] (spS2 gAdd) := by
  have sc := sc__law_sum
  refine F.ok sc (fun vs H Q E h => ?_) (fun cdv A outer s H vs Q E hr h => ?_)
  · obtain ⟨a, k, _, _, rfl, _⟩ := h; rfl
  obtain ⟨r, r2, ⟨t, b⟩, ⟨t2, b2⟩, rfl, h1, h2, bt, bb, bt2, bb2, hne, q⟩ := h
  refine ⟨_, (pss_one (ps_ret (pe_clo C__law_low (hr.mono (by first | decide | omega)) (pa_cons (pe_op op_add (pe_op op_mulW (pe_ix ix_tup (pv 0) pe_int (fun _ _ => rfl)) (pe_ix ix_tup (pv 1) pe_int (fun _ _ => rfl))) (pe_op op_mulW (pe_ix ix_tup (pv 1) pe_int (fun _ _ => rfl)) (pe_ix ix_tup (pv 0) pe_int (fun _ _ => rfl)))) (pa_cons (pe_op op_mulW (pe_ix ix_tup (pv 0) pe_int (fun _ _ => rfl)) (pe_ix ix_tup (pv 1) pe_int (fun _ _ => rfl))) pa_nil))))), ?_⟩
  refine ⟨_, rfl, r, _, 0, .int t, rfl, rfl, st_of h1, rfl, _, rfl, r2, _, 1, .int b2, rfl, rfl, st_of h2, rfl, _, _, rfl, rfl, mulOk bt bb2 (by decide) (by decide) (by decide), ?_⟩
  refine ⟨_, rfl, r2, _, 0, .int t2, rfl, rfl, st_of h2, rfl, _, rfl, r, _, 1, .int b, rfl, rfl, st_of h1, rfl, _, _, rfl, rfl, mulOk bt2 bb (by decide) (by decide) (by decide), _, _, rfl, rfl, ?_⟩
  refine ⟨_, rfl, r, _, 1, .int b, rfl, rfl, st_of h1, rfl, _, rfl, r2, _, 1, .int b2, rfl, rfl, st_of h2, rfl, _, _, rfl, rfl, mulOk bb bb2 (by decide) (by decide) (by decide), ?_⟩
  exact ⟨_, _, rfl, hne, Bt.mono (Bt.mul bb bb2) (by decide), q⟩
theorem sc__law_by : FnScope ["one", "other"] ["one", "other"] (defScope (top 25)) := ⟨rfl, rfl, rfl, by decide +kernel, rfl, by decide +kernel, by decide +kernel⟩
theorem ok_law_by (F : Fun K "_law_by" "_law_by" (top 25) f fd) (T : Tx mg) (C__law_low : ClO P w K mg base "_law_low" 1 ["top", "bottom"] spLow) : FnOk P w K mg base CX0 2 f fd ["one", "other"] (spS2 gMul) := by
  have sc := sc__law_by
  refine F.ok sc (fun vs H Q E h => ?_) (fun cdv A outer s H vs Q E hr h => ?_)
  · obtain ⟨a, k, _, _, rfl, _⟩ := h; rfl
  obtain ⟨r, r2, ⟨t, b⟩, ⟨t2, b2⟩, rfl, h1, h2, bt, bb, bt2, bb2, hne, q⟩ := h
  refine ⟨_, (pss_one (ps_ret (pe_clo C__law_low (hr.mono (by first | decide | omega)) (pa_cons (pe_op op_mulW (pe_ix ix_tup (pv 0) pe_int (fun _ _ => rfl)) (pe_ix ix_tup (pv 1) pe_int (fun _ _ => rfl))) (pa_cons (pe_op op_mulW (pe_ix ix_tup (pv 0) pe_int (fun _ _ => rfl)) (pe_ix ix_tup (pv 1) pe_int (fun _ _ => rfl))) pa_nil))))), ?_⟩
  refine ⟨_, rfl, r, _, 0, .int t, rfl, rfl, st_of h1, rfl, _, rfl, r2, _, 0, .int t2, rfl, rfl, st_of h2, rfl, _, _, rfl, rfl, mulOk bt bt2 (by decide) (by decide) (by decide), ?_⟩
  refine ⟨_, rfl, r, _, 1, .int b, rfl, rfl, st_of h1, rfl, _, rfl, r2, _, 1, .int b2, rfl, rfl, st_of h2, rfl, _, _, rfl, rfl, mulOk bb bb2 (by decide) (by decide) (by decide), ?_⟩
  exact ⟨_, _, rfl, hne, Bt.mono (Bt.mul bb bb2) (by decide), q⟩
theorem sc__law_over : FnScope ["one", "other"] ["one", "other"] (defScope (top 27)) := ⟨rfl, rfl, rfl, by decide +kernel, rfl, by decide +kernel, by decide +kernel⟩
theorem ok_law_over (F : Fun K "_law_over" "_law_over" (top 27) f fd) (T : Tx mg) (C__law_low : ClO P w K mg base "_law_low" 1 ["top", "bottom"] spLow) : FnOk P w K mg base CX0 2 f fd ["one", "other"] (spS2 gOver) := by
  have sc := sc__law_over
  refine F.ok sc (fun vs H Q E h => ?_) (fun cdv A outer s H vs Q E hr h => ?_)
  · obtain ⟨a, k, _, _, rfl, _⟩ := h; rfl
  obtain ⟨r, r2, ⟨t, b⟩, ⟨t2, b2⟩, rfl, h1, h2, bt, bb, bt2, bb2, hne, q⟩ := h
  refine ⟨_, (pss_one (ps_ret (pe_clo C__law_low (hr.mono (by first | decide | omega)) (pa_cons (pe_op op_mulW (pe_ix ix_tup (pv 0) pe_int (fun _ _ => rfl)) (pe_ix ix_tup (pv 1) pe_int (fun _ _ => rfl))) (pa_cons (pe_op op_mulW (pe_ix ix_tup (pv 0) pe_int (fun _ _ => rfl)) (pe_ix ix_tup (pv 1) pe_int (fun _ _ => rfl))) pa_nil))))), ?_⟩
  refine ⟨_, rfl, r, _, 0, .int t, rfl, rfl, st_of h1, rfl, _, rfl, r2, _, 1, .int b2, rfl, rfl, st_of h2, rfl, _, _, rfl, rfl, mulOk bt bb2 (by decide) (by decide) (by decide), ?_⟩
  refine ⟨_, rfl, r, _, 1, .int b, rfl, rfl, st_of h1, rfl, _, rfl, r2, _, 0, .int t2, rfl, rfl, st_of h2, rfl, _, _, rfl, rfl, mulOk bb bt2 (by decide) (by decide) (by decide), ?_⟩
  exact ⟨_, _, rfl, hne, Bt.mono (Bt.mul bb bt2) (by decide), q⟩
theorem sc__law_less : FnScope ["one", "other"] ["one", "other"] (defScope (top 26)) := ⟨rfl, rfl, rfl, by decide +kernel, rfl, by decide +kernel, by decide +kernel⟩
theorem ok_law_less (F : Fun K "_law_less" "_law_less" (top 26) f fd) (T : Tx mg) (C__law_sum : ClO P w K mg base "_law_sum" 2 ["one", "other"] (spS2 gAdd)) : FnOk P w K mg base CX0 3 f fd ["one", "other"] (spS2 gLess) := by
  have sc := sc__law_less
  refine F.ok sc (fun vs H Q E h => ?_) (fun cdv A outer s H vs Q E hr h => ?_)
  · obtain ⟨a, k, _, _, rfl, _⟩ := h; rfl
  obtain ⟨r, r2, ⟨t, b⟩, ⟨t2, b2⟩, rfl, h1, h2, bt, bb, bt2, bb2, hne, q⟩ := h
  refine ⟨_, (pss_one (ps_ret (pe_clo C__law_sum (hr.mono (by first | decide | omega)) (pa_cons (pv 0) (pa_cons (pe_tup (pa_cons (pe_op op_sub pe_int (pe_ix ix_tup (pv 1) pe_int (fun _ _ => rfl))) (pa_cons (pe_ix ix_tup (pv 1) pe_int (fun _ _ => rfl)) pa_nil))) pa_nil))))), ?_⟩
  refine ⟨_, rfl, _, rfl, r2, _, 0, .int t2, rfl, rfl, st_of h2, rfl, _, _, rfl, rfl, _, rfl, r2, _, 1, .int b2, rfl, rfl, st_of h2, rfl, (by show 2 ≤ sizeLine; decide), fun r3 hr3 => ?_⟩
  have x3 := Ex.new (o := .tup [.int (0 - t2), .int b2]) hr3
  refine ⟨r, r3, (t, b), (0 - t2, b2), rfl, h1.up x3, upd_same, bt, bb, Bt.le bt2 (by show (0 - t2).natAbs ≤ t2.natAbs; omega), bb2, hne, fun z H' h0 e k => ?_⟩
  exact q z H' (fresh_back x3 h0) (x3.trans e) k
theorem sc__law_total : FnScope ["pairs", "found", "pair"] ["pairs"] (defScope (top 28)) := ⟨rfl, rfl, rfl, by decide +kernel, rfl, by decide +kernel, by decide +kernel⟩
theorem ok_law_total (F : Fun K "_law_total" "_law_total" (top 28) f fd) (T : Tx mg) (C__law_sum : ClO P w K mg base "_law_sum" 2 ["one", "other"] (spS2 gAdd)) : FnOk P w K mg base CX0 3 f fd ["pairs"] (fun vs H Q _ => ∃ (a : Addr) (rs : List Addr) (ps : List (Int × Int)), vs = [.ref a] ∧ H a = some (.lst (rs.map V.ref)) ∧ Paired (PtI H) rs ps ∧ Sm ps ∧ ∀ r H', Ex H H' → PtI H' r (totalM ps) → Q (.ref r) H') := by
  have sc := sc__law_total
  refine F.ok sc (fun vs H Q E h => ?_) (fun cdv A outer s H vs Q E hr h => ?_)
  · obtain ⟨a, k, _, rfl, _⟩ := h; rfl
  obtain ⟨a, rs, ps, rfl, ha, hps, sm, q⟩ := h
  have hl : rs.length = ps.length := Paired.length hps
  refine ⟨_, (pss_cons (ps_set (i := 1) sc.nd rfl (Or.inl rfl) (pe_tup (pa_cons pe_int (pa_cons pe_int pa_nil)))) (pss_cons (ps_for PassesOwn.never rfl (pi_list (pv 0)) (pg_name (i := 2) sc.nd rfl (Or.inl rfl)) (pss_one (ps_set (i := 1) sc.nd rfl (Or.inl rfl) (pe_clo C__law_sum (hr.mono (by first | decide | omega)) (pa_cons (pv 1) (pa_cons (pv 2) pa_nil)))))) (pss_one (ps_ret (pv 1))))), ?_⟩
  refine ⟨(by show 2 ≤ sizeLine; decide), fun r0 hr0 => ?_⟩
  have x0 := Ex.new (o := .tup [.int 0, .int 1]) hr0
  refine ⟨_, rfl, a, rfl, ⟨_, sq_of (x0 _ _ ha)⟩, for_list (K := K) (a := a) (xs := rs.map V.ref) (fun i σ H' => ∃ (z : Addr) (o : Option V), σ = [some (.ref a), some (.ref z), o] ∧ Ex H H' ∧ PtI H' z (totalM (ps.take i)))
    ⟨r0, _, rfl, x0, upd_same⟩ (fun i σ H' _ ⟨_, _, _, e, _⟩ => sq_of (e _ _ ha)) ?_ ?_⟩
  · rintro i v σ H2 hv ⟨z, o, rfl, e2, r2⟩
    have hi : i < rs.length := by
      have := (List.getElem?_eq_some_iff.mp hv).1
      simpa using this
    have hi' : i < ps.length := by omega
    have hpi : PtI H2 rs[i] ps[i] := by
      have g : ∀ {as : List Addr} {bs : List (Int × Int)}, Paired (PtI H2) as bs → ∀ {i : Nat} (h1 : i < as.length) (h2 : i < bs.length), PtI H2 as[i] bs[i] := by
        intro as bs p
        induction p with
        | nil => intro i h1; exact absurd h1 (Nat.not_lt_zero _)
        | cons h _ ih =>
          intro i h1 h2
          cases i with
          | zero => exact h
          | succ i => exact ih (Nat.lt_of_succ_lt_succ h1) (Nat.lt_of_succ_lt_succ h2)
      exact g (Paired.mapP hps fun _ _ h => PtI.up h e2) hi hi'
    have hve : v = .ref rs[i] := by
      rw [List.getElem?_map, List.getElem?_eq_getElem hi] at hv
      exact (Option.some.inj hv).symm
    subst hve
    obtain ⟨b1, b2, b3⟩ := sm.take i (by omega)
    obtain ⟨c1, c2, c3⟩ := sm.bt ps[i] (List.getElem_mem hi')
    have l10 := sm.len
    have e : totalM (ps.take (i + 1)) = sumP (totalM (ps.take i)) ps[i] := by
      unfold totalM
      rw [List.take_add_one, List.getElem?_eq_getElem hi', List.foldl_append]
      rfl
    have pos : 0 < (totalM (ps.take i)).2 * ps[i].2 := Int.mul_pos b3 c3
    refine ⟨_, rfl, _, rfl, z, rs[i], totalM (ps.take i), ps[i], rfl, r2, hpi, b1.mono (by omega), b2.mono (by omega), c1.mono (by decide), c2.mono (by decide), (show (totalM (ps.take i)).2 * ps[i].2 ≠ 0 by omega), fun x H3 h0 e3 r3 => ?_⟩
    exact ⟨x, _, rfl, e2.trans e3, by rw [e]; exact r3⟩
  · rintro σ H2 ⟨z, o, rfl, e2, r2⟩
    rw [List.length_map, hl, List.take_length] at r2
    exact ⟨_, rfl, q z H2 e2 r2⟩
end
end B71

namespace B71
open PySem PySem.Spec PyProof.Rows L2 Evl RZ SrtO

/-- a property of the class -/
structure PrB (P : Program) (w : World) (K : PySem.W.Frag) (mg : Str → Option Value) (base : Heap) (C : Addr) (nm : Str) (g : Int → Int → V) : Prop where
  ex : ∃ (p fa : Addr) (fd : FuncData), PropOf K C nm p fa ∧ FnOk P w K mg base CX0 1 fa fd ["self"] (spGet C g) ∧ Binds K fd ["self"] []
theorem pe_prB {X : Cx} {C : Addr} {nm : Str} {g : Int → Int → V} {e : Expr} {te : TE} {pos : Pos} (B : PrB X.prog X.w X.K X.mg X.base C nm g) (cl : Cls X.K C) (hr : Room 2 X.A) (he : PE X e te) (hab : attributeBase e nm X.env (eval e X.env) = eval e X.env := by rfl) :
    PE X (.Attribute e nm pos) (tProp C (spGet C g) [] E0 te) := by
  obtain ⟨p, fa, fd, hp, F, b⟩ := B.ex
  exact pe_prop he cl hp F hr b .nil pass0 hab
def spPairOf (C : Addr) : Sp := fun vs H Q _ => ∃ (a : Addr) (t b : Int), vs = [.ref a] ∧ Rt C H a t b ∧ RetP (t, b) H Q
def spPairs (C : Addr) : Sp := fun vs H Q _ => ∃ (a : Addr) (xs : List V) (ps : List (Int × Int)), vs = [.ref a] ∧ H a = some (.lst xs) ∧ Paired (fun p v => RtV C p v H) ps xs ∧ ps.length ≤ 100 ∧
  ∀ l rs H', H l = none → Ex H H' → H' l = some (.lst (rs.map V.ref)) → Paired (PtI H') rs ps → Q (.ref l) H'
def spShown : Sp := fun vs H Q _ => ∃ (r : Addr) (p : Int × Int), vs = [.ref r] ∧ PtI H r p ∧ Bt 190 p.1 ∧ Bt 190 p.2 ∧ RetV (.str (sS p.1 p.2)) H Q
def spRaw : Sp := fun vs H Q _ => ∃ p : Addr, vs = [.ref p] ∧ Pot H p ∧ ∀ (r : Addr) (z : Int × Int) H', ExB p H H' → Pot H' p → H r = none → PtI H' r z → z.2 ≠ 0 → Bt 130 z.1 → Bt 130 z.2 → Q (.ref r) H'
theorem tu_list {α : Type} {g : α → List V} {H : Hp} : ∀ {ys : List α} {acc : List V}, Paired (fun y v => Tu g y v H) ys acc → ∃ rs : List Addr, acc = rs.map V.ref ∧ rs.length = ys.length ∧ Paired (fun r y => H r = some (.tup (g y))) rs ys
  | _, _, .nil => ⟨[], rfl, rfl, .nil⟩
  | _, _, .cons ⟨r, h1, h2⟩ t => by
    obtain ⟨rs, e, l, p⟩ := tu_list t
    exact ⟨r :: rs, by rw [h1, e]; rfl, by simp [l], .cons h2 p⟩
section
variable {P : Program} {w : World} {K : PySem.W.Frag} {mg : Str → Option Value} {base : Heap} {f C : Addr} {fd : FuncData}
theorem sc__law_pair : FnScope ["value"] ["value"] (defScope (top 29)) := ⟨rfl, rfl, rfl, by decide +kernel, rfl, by decide +kernel, by decide +kernel⟩
theorem ok_law_pair (F : Fun K "_law_pair" "_law_pair" (top 29) f fd) (R : RCl K mg C) (T : Tx mg) (PB_top : PrB P w K mg base C "top" fun t _ => .int t) (PB_bottom : PrB P w K mg base C "bottom" fun _ b => .int b) : FnOk P w K mg base CX0 3 f fd ["value"] (spPairOf C) := by
  have sc := sc__law_pair
  refine F.ok sc (fun vs H Q E h => ?_) (fun cdv A outer s H vs Q E hr h => ?_)
  · obtain ⟨_, _, _, rfl, _⟩ := h; rfl
  obtain ⟨a, t, b, rfl, ⟨dx, ha⟩, q⟩ := h
  refine ⟨_, (pss_one (ps_ret (pe_ifExp (pt_val (pe_callB call_isi rfl T.b_isinstance bt_isinstance (pa_cons (pv 0) (pa_cons (pe_glob (v := .ref C) rfl R.mgC rfl) pa_nil)))) (pe_tup (pa_cons (pe_prB PB_top R.cl (hr.mono (by first | decide | omega)) (pv 0)) (pa_cons (pe_prB PB_bottom R.cl (hr.mono (by first | decide | omega)) (pv 0)) pa_nil))) pe_non))), ?_⟩
  refine ⟨_, rfl, _, _, _, _, _, rfl, .own C, R.ty ha, kt_own, _, rfl, ?_⟩
  refine ⟨_, rfl, a, dx, _, rfl, ha, a, t, b, rfl, ⟨dx, ha⟩, fun H1 e1 => ?_⟩
  refine ⟨_, rfl, a, dx, _, rfl, e1 _ _ ha, a, t, b, rfl, ⟨dx, e1 _ _ ha⟩, fun H2 e2 => ⟨(by show 2 ≤ sizeLine; decide), fun r hr0 => ?_⟩⟩
  have e := e1.trans e2
  exact q r _ (fresh_back e hr0) (e.trans (Ex.new hr0)) upd_same
theorem sc__law_pairs : FnScope ["value", "one"] ["value"] (defScope (top 30)) := ⟨rfl, rfl, rfl, by decide +kernel, rfl, by decide +kernel, by decide +kernel⟩
theorem ok_law_pairs (F : Fun K "_law_pairs" "_law_pairs" (top 30) f fd) (R : RCl K mg C) (T : Tx mg) (C__law_pair : ClO P w K mg base "_law_pair" 3 ["value"] (spPairOf C)) : FnOk P w K mg base CX0 4 f fd ["value"] (spPairs C) := by
  have sc := sc__law_pairs
  refine F.ok sc (fun vs H Q E h => ?_) (fun cdv A outer s H vs Q E hr h => ?_)
  · obtain ⟨_, _, _, rfl, _⟩ := h; rfl
  obtain ⟨a, xs, ps, rfl, ha, hps, l100, q⟩ := h
  have hl : ps.length = xs.length := Paired.length hps
  refine ⟨_, (pss_one (ps_ret (pe_ifExp (pt_val (pe_callB call_isi rfl T.b_isinstance bt_isinstance (pa_cons (pv 0) (pa_cons (pe_bltn (v := .ty "list") rfl T.b_list bt_list rfl) pa_nil)))) (pe_lc (own := [("one", 1)]) (g := (gName 1)) rfl sc.nd (pi_list (pv 0)) (blkOk_by (N := ["value", "one"]) (sc := defScope ((top 30))) (by decide +kernel)) (fun _ _ _ _ _ => (pg_name (i := 1) sc.nd rfl (Or.inl rfl))) (fun _ _ _ _ _ => pts_nil) (fun _ _ _ _ _ => (pe_clo C__law_pair (hr.mono (by first | decide | omega)) (pa_cons (pv 1) pa_nil)))) pe_non))), ?_⟩
  refine ⟨_, rfl, _, _, _, _, _, rfl, .ty "list", .base (.lst ha), kt_list_list, _, rfl, ?_⟩
  refine ⟨_, rfl, a, rfl, ⟨_, sq_of ha⟩, fun D hD => ?_⟩
  refine lcW (walk_list (K := K) (a := a) (xs := xs)) ps hl.symm (by omega) (fun _ => true) (Tu fun (p : Int × Int) => [.int p.1, .int p.2]) Stab.tu hD (fun H5 e5 => sq_of (e5 _ _ ha)) ?_ ?_
  · rintro i y x H4 H5 N Gt hy e4 ⟨rfl, hx⟩ _ k
    obtain ⟨p, hp, r, rfl, hr2⟩ := paired_at (Paired.mapP hps fun _ _ h => Stab.rt.up _ _ _ _ e4 h) hx
    cases hp.symm.trans hy
    refine ⟨Ex.refl _, rfl, ?_⟩
    exact ⟨_, rfl, r, y.1, y.2, rfl, hr2, fun z H6 h0 e6 k6 => k rfl _ _ e6 ⟨z, rfl, k6⟩⟩
  · intro acc H4 e4 hD4 hacc
    rw [filter_yes] at hacc
    obtain ⟨rs, rfl, lrs, hrs⟩ := tu_list hacc
    exact q D rs H4 hD e4 hD4 hrs
theorem sc__law_shown : FnScope ["pair"] ["pair"] (defScope (top 31)) := ⟨rfl, rfl, rfl, by decide +kernel, rfl, by decide +kernel, by decide +kernel⟩
theorem ok_law_shown (F : Fun K "_law_shown" "_law_shown" (top 31) f fd) (T : Tx mg) : FnOk P w K mg base CX0 1 f fd ["pair"] spShown := by
  have sc := sc__law_shown
  refine F.ok sc (fun vs H Q E h => ?_) (fun cdv A outer s H vs Q E hr h => ?_)
  · obtain ⟨_, _, rfl, _⟩ := h; rfl
  obtain ⟨r, ⟨t, b⟩, rfl, h1, bt, bb, q⟩ := h
  have sl : sizeLine = 16777216 := sizeLine_eq
  have l1 : (tI t).length ≤ 61 := tI_len (bt190 bt)
  have l2 : (tI b).length ≤ 61 := tI_len (bt190 bb)
  have lt : t.natAbs.log2 < 1920 := Nat.lt_trans (bt.log (by decide)) (by decide)
  have lb : b.natAbs.log2 < 1920 := Nat.lt_trans (bb.log (by decide)) (by decide)
  have k1 : (Str.ofString "/").length = 1 := rfl
  refine ⟨_, (pss_one (ps_ret (pe_ifExp (pt_cmpR op_eq (pe_ix ix_tup (pv 0) pe_int (fun _ _ => rfl)) pe_int (nomark _)) (pe_callTy call_str_int rfl T.b_str bt_str (pa_cons (pe_ix ix_tup (pv 0) pe_int (fun _ _ => rfl)) pa_nil)) (pe_op op_add_str (pe_op op_add_str (pe_callTy call_str_int rfl T.b_str bt_str (pa_cons (pe_ix ix_tup (pv 0) pe_int (fun _ _ => rfl)) pa_nil)) pe_str) (pe_callTy call_str_int rfl T.b_str bt_str (pa_cons (pe_ix ix_tup (pv 0) pe_int (fun _ _ => rfl)) pa_nil)))))), ?_⟩
  refine ⟨_, rfl, r, _, 1, .int b, rfl, rfl, st_of h1, rfl, rfl, _, rfl, ?_⟩
  unfold sS at q
  dsimp only at q
  by_cases c : b = 1
  · rw [if_pos c] at q
    rw [decide_eq_true (by rw [c])]
    exact ⟨_, rfl, r, _, 0, .int t, rfl, rfl, st_of h1, rfl, t, rfl, lt, q _ (Ex.refl _)⟩
  · rw [if_neg c] at q
    rw [decide_eq_false (fun z => c (by injection z))]
    refine ⟨_, rfl, r, _, 0, .int t, rfl, rfl, st_of h1, rfl, t, rfl, lt, _, _, rfl, rfl, ?_, _, rfl, r, _, 1, .int b, rfl, rfl, st_of h1, rfl, b, rfl, lb, _, _, rfl, rfl, ?_, q _ (Ex.refl _)⟩
    · show (tI t).length + (Str.ofString "/").length ≤ sizeLine
      omega
    · show (tI t ++ Str.ofString "/").length + (tI b).length ≤ sizeLine
      rw [Str.length_append]
      omega
theorem pick_at {n : Nat} {zs : List Int} {x : V} (h : (zs.map V.int)[n]? = some x) : ∃ c ∈ zs, x = .int c := by
  rw [List.getElem?_map] at h
  cases e : zs[n]? with
  | none => rw [e] at h; cases h
  | some c => rw [e] at h; exact ⟨c, List.mem_of_getElem? e, (Option.some.inj h).symm⟩
theorem sc__law_raw : FnScope ["pot", "top", "bottom", "common", "sign"] ["pot"] (defScope (top 32)) := ⟨rfl, rfl, rfl, by decide +kernel, rfl, by decide +kernel, by decide +kernel⟩
theorem ok_law_raw (F : Fun K "_law_raw" "_law_raw" (top 32) f fd) (T : Tx mg) (C__law_draw : ClO P w K mg base "_law_draw" 1 ["pot", "size"] spDraw) (C__law_pick : ClO P w K mg base "_law_pick" 2 ["pot", "some"] spPick) : FnOk P w K mg base CX0 3 f fd ["pot"] spRaw := by
  have sc := sc__law_raw
  refine F.ok sc (fun vs H Q E h => ?_) (fun cdv A outer s H vs Q E hr h => ?_)
  · obtain ⟨_, rfl, _⟩ := h; rfl
  obtain ⟨p, rfl, hp, q⟩ := h
  refine ⟨_, (pss_cons (ps_set (i := 1) sc.nd rfl (Or.inl rfl) (pe_op op_sub (pe_clo C__law_draw (hr.mono (by first | decide | omega)) (pa_cons (pv 0) (pa_cons pe_int pa_nil))) pe_int)) (pss_cons (ps_set (i := 2) sc.nd rfl (Or.inl rfl) (pe_op op_add pe_int (pe_clo C__law_draw (hr.mono (by first | decide | omega)) (pa_cons (pv 0) (pa_cons pe_int pa_nil))))) (pss_cut (ps_if (pt_cmpR op_eq (pe_clo C__law_draw (hr.mono (by first | decide | omega)) (pa_cons (pv 0) (pa_cons pe_int pa_nil))) pe_int (nomark _)) (pss_cons (ps_set (i := 1) sc.nd rfl (Or.inl rfl) (pe_op op_add (pe_op op_mulW (pv 1) (pe_op op_pow pe_int pe_int)) (pe_clo C__law_draw (hr.mono (by first | decide | omega)) (pa_cons (pv 0) (pa_cons pe_int pa_nil))))) (pss_one (ps_set (i := 2) sc.nd rfl (Or.inl rfl) (pe_op op_add (pe_op op_add (pe_op op_mulW (pv 2) (pe_op op_pow pe_int pe_int)) (pe_clo C__law_draw (hr.mono (by first | decide | omega)) (pa_cons (pv 0) (pa_cons pe_int pa_nil)))) pe_int)))) pss_nil) (pss_cons (ps_set (i := 3) sc.nd rfl (Or.inl rfl) (pe_clo C__law_pick (hr.mono (by first | decide | omega)) (pa_cons (pv 0) (pa_cons (pe_lst (pa_cons pe_int (pa_cons pe_int (pa_cons pe_int (pa_cons (pe_op op_pow pe_int pe_int) pa_nil))))) pa_nil)))) (pss_cons (ps_set (i := 4) sc.nd rfl (Or.inl rfl) (pe_clo C__law_pick (hr.mono (by first | decide | omega)) (pa_cons (pv 0) (pa_cons (pe_lst (pa_cons pe_int (pa_cons (pe_un un_neg pe_int) pa_nil))) pa_nil)))) (pss_one (ps_ret (pe_tup (pa_cons (pe_op op_mulW (pe_op op_mulW (pv 1) (pv 3)) (pv 4)) (pa_cons (pe_op op_mulW (pe_op op_mulW (pv 2) (pv 3)) (pv 4)) pa_nil)))))))))), ?_⟩
  refine ⟨_, rfl, p, 25, rfl, hp, by decide, by decide, fun d1 H1 e1 hp1 hd1 => ⟨_, _, rfl, rfl, ?_⟩⟩
  refine ⟨_, rfl, p, 12, rfl, hp1, by decide, by decide, fun d2 H2 e2 hp2 hd2 => ⟨_, _, rfl, rfl, ?_⟩⟩
  have b1 : Bt 5 ((d1 : Int) - 12) := by unfold Bt; omega
  have b2 : Bt 4 (1 + (d2 : Int)) := by unfold Bt; omega
  refine ⟨fun σ' H' => ∃ t b : Int, σ' = [some (.ref p), some (.int t), some (.int b), none, none] ∧ ExB p H H' ∧ Pot H' p ∧ 0 < b ∧ Bt 90 t ∧ Bt 80 b, ?_, ?_⟩
  · refine ⟨_, rfl, p, 3, rfl, hp2, by decide, by decide, fun d3 H3 e3 hp3 hd3 => ⟨rfl, _, rfl, ?_⟩⟩
    have e03 := e1.trans (e2.trans e3)
    refine ite2 (fun g => ?_) (fun g => ?_)
    · have w1 : Bt 80 ((10007 : Int) ^ (6 : Int).toNat) := by unfold Bt; decide +kernel
      have w2 : Bt 67 ((10 : Int) ^ (20 : Int).toNat) := by unfold Bt; decide +kernel
      have w2p : (0 : Int) < (10 : Int) ^ (20 : Int).toNat := by decide +kernel
      refine ⟨_, rfl, _, _, rfl, rfl, ⟨by decide, by decide, by decide⟩, _, _, rfl, rfl, mulOk b1 w1 (by decide) (by decide) (by decide), ?_⟩
      refine ⟨_, rfl, p, 9, rfl, hp3, by decide, by decide, fun d4 H4 e4 hp4 hd4 => ⟨_, _, rfl, rfl, ?_⟩⟩
      refine ⟨_, rfl, _, _, rfl, rfl, ⟨by decide, by decide, by decide⟩, _, _, rfl, rfl, mulOk b2 w2 (by decide) (by decide) (by decide), ?_⟩
      refine ⟨_, rfl, p, 9, rfl, hp4, by decide, by decide, fun d5 H5 e5 hp5 hd5 => ⟨_, _, rfl, rfl, _, _, rfl, rfl, ?_⟩⟩
      have m1 := Bt.mul b1 w1
      have m2 := Bt.mul b2 w2
      have k4 : Bt 85 (d4 : Int) := by unfold Bt; exact Nat.lt_of_lt_of_le (show (d4 : Int).natAbs < 2 ^ 4 by omega) (by decide)
      have k5 : Bt 71 (d5 : Int) := by unfold Bt; exact Nat.lt_of_lt_of_le (show (d5 : Int).natAbs < 2 ^ 4 by omega) (by decide)
      have k1 : Bt 72 (1 : Int) := by unfold Bt; decide
      have pos : 0 < (1 + (d2 : Int)) * (10 : Int) ^ (20 : Int).toNat := Int.mul_pos (by omega) w2p
      exact ⟨_, _, rfl, e03.trans (e4.trans e5), hp5, by omega, (Bt.add m1 k4).mono (by decide), (Bt.add (Bt.add m2 k5) k1).mono (by decide)⟩
    · exact ⟨_, _, rfl, e03, hp3, by omega, b1.mono (by decide), b2.mono (by decide)⟩
  rintro σ' H3 ⟨t, b, rfl, e3, hp3, pb, bt, bb⟩
  -- common, sign
  refine ⟨_, rfl, _, _, rfl, rfl, ⟨by decide, by decide, by decide⟩, (by show 4 ≤ sizeLine; decide), fun l1 hl1 => ?_⟩
  have x4 := Ex.new (o := .lst ([1, 6, 35, (10 : Int) ^ (9 : Int).toNat].map V.int)) hl1
  have np1 : l1 ≠ p := fun z => by
    obtain ⟨x, y, h1, _⟩ := hp3
    rw [z, h1] at hl1; cases hl1
  refine ⟨p, l1, _, rfl, hp3.up x4, (show upd H3 l1 (.lst ([1, 6, 35, (10 : Int) ^ (9 : Int).toNat].map V.int)) l1 = _ from upd_same), np1, (by show 1 ≤ 4; decide), (by show 4 ≤ 100; decide), fun d5 c H5 e5 hp5 hc => ?_⟩
  obtain ⟨c, hcm, rfl⟩ := pick_at hc
  have bc : Bt 30 c ∧ c ≠ 0 := by
    have hc' : c = 1 ∨ c = 6 ∨ c = 35 ∨ c = (10 : Int) ^ (9 : Int).toNat := by simpa using hcm
    unfold Bt
    rcases hc' with rfl | rfl | rfl | rfl <;> decide +kernel
  refine ⟨_, rfl, _, rfl, (by show 2 ≤ sizeLine; decide), fun l2 hl2 => ?_⟩
  have x6 := Ex.new (o := .lst ([1, -1].map V.int)) hl2
  have np2 : l2 ≠ p := fun z => by
    obtain ⟨x, y, h1, _⟩ := hp5
    rw [z, h1] at hl2; cases hl2
  refine ⟨p, l2, _, rfl, hp5.up x6, (show upd H5 l2 (.lst ([1, -1].map V.int)) l2 = _ from upd_same), np2, (by show 1 ≤ 2; decide), (by show 2 ≤ 100; decide), fun d6 sg H7 e7 hp7 hsg => ?_⟩
  obtain ⟨sg, hsm, rfl⟩ := pick_at hsg
  have bs : Bt 2 sg ∧ sg ≠ 0 := by
    have h' : sg = 1 ∨ sg = -1 := by simpa using hsm
    unfold Bt
    rcases h' with rfl | rfl <;> decide +kernel
  have m1 := Bt.mul bt bc.1
  have m2 := Bt.mul bb bc.1
  refine ⟨_, rfl, _, rfl, _, _, rfl, rfl, mulOk bt bc.1 (by decide) (by decide) (by decide), _, rfl, _, _, rfl, rfl, mulOk m1 bs.1 (by decide) (by decide) (by decide), ?_⟩
  refine ⟨_, rfl, _, rfl, _, _, rfl, rfl, mulOk bb bc.1 (by decide) (by decide) (by decide), _, rfl, _, _, rfl, rfl, mulOk m2 bs.1 (by decide) (by decide) (by decide), (by show 2 ≤ sizeLine; decide), fun r hr0 => ?_⟩
  have x8 := Ex.new (o := .tup [.int (t * c * sg), .int (b * c * sg)]) hr0
  have e := e3.trans ((ExB.of x4).trans (e5.trans ((ExB.of x6).trans (e7.trans (ExB.of x8)))))
  have e' := e3.trans ((ExB.of x4).trans (e5.trans ((ExB.of x6).trans e7)))
  have nrp : r ≠ p := fun z => by
    obtain ⟨x, y, h1, _⟩ := hp7
    rw [z, h1] at hr0; cases hr0
  have ne : b * c * sg ≠ 0 := Int.mul_ne_zero (Int.mul_ne_zero (by omega) bc.2) bs.2
  exact q r (t * c * sg, b * c * sg) _ e (hp7.up x8) (e'.fresh nrp hr0) upd_same ne ((Bt.mul m1 bs.1).mono (by decide)) ((Bt.mul m2 bs.1).mono (by decide))
end
end B71

namespace B71
open PySem PySem.Spec PyProof.Rows L2 Evl RZ SrtO
/-! ### data: pairs of ints, truth values -/
def pI (p : Int × Int) : PyData := .tuple [.int p.1, .int p.2]
theorem pI_lay (p : Int × Int) : (pI p).canLay0 = true := by simp [pI, PyData.canLay0, PyData.canLayAll0]
theorem pI_depth (p : Int × Int) : (pI p).depth ≤ 1 := by simp [pI, PyData.depth, PyData.depthAll]
theorem pI_sh (p : Int × Int) : SeqAt.shaped (pI p) = true := sh_of (pI_lay p) (by have := pI_depth p; omega)
theorem pI_eqv (p q : Int × Int) : PyData.eqv (pI p) (pI q) = decide (p = q) := by
  obtain ⟨a, b⟩ := p
  obtain ⟨c, d⟩ := q
  have e : PyData.eqv (pI (a, b)) (pI (c, d)) = ((a == c) && ((b == d) && true)) := by simp only [pI, PyData.eqv, PyData.eqvAll]
  rw [e]
  by_cases h1 : a = c
  · by_cases h2 : b = d
    · simp [h1, h2]
    · simp [h2]
  · simp [h1]
theorem psI_sh (l : List (Int × Int)) : SeqAt.shaped (.list (l.map pI)) = true := list_sh pI_lay pI_depth l
theorem psI_eqv (l m : List (Int × Int)) : PyData.eqv (.list (l.map pI)) (.list (m.map pI)) = decide (l = m) := by
  show PyData.eqvAll _ _ = _
  exact all_eqv pI_eqv l m
theorem bD_lay (b : Bool) : (PyData.bool b).canLay0 = true := by simp [PyData.canLay0]
theorem bD_depth (b : Bool) : (PyData.bool b).depth ≤ 1 := by simp [PyData.depth]
theorem bD_eqv (a b : Bool) : PyData.eqv (.bool a) (.bool b) = decide (a = b) := by
  show (a == b) = _
  cases a <;> cases b <;> rfl
theorem bs_sh (l : List Bool) : SeqAt.shaped (.list (l.map .bool)) = true := list_sh bD_lay bD_depth l
theorem bs_eqv (l m : List Bool) : PyData.eqv (.list (l.map .bool)) (.list (m.map .bool)) = decide (l = m) := by
  show PyData.eqvAll _ _ = _
  exact all_eqv bD_eqv l m
section
variable {K : PySem.W.Frag} {H : Hp}
theorem dp_pI {r : Addr} {p : Int × Int} (h : PtI H r p) : Dp K H (.ref r) (pI p) := .tup (.inl (.inl h)) (.cons (.int _) (.cons (.int _) .nil))
theorem dp_psI : ∀ {rs : List Addr} {l : List (Int × Int)}, Paired (PtI H) rs l → DpAll K H (rs.map V.ref) (l.map pI)
  | _, _, .nil => .nil
  | _, _, .cons h t => .cons (dp_pI h) (dp_psI t)
theorem dp_plI {a : Addr} {rs : List Addr} {l : List (Int × Int)} (h : H a = some (.lst (rs.map V.ref))) (hp : Paired (PtI H) rs l) : Dp K H (.ref a) (.list (l.map pI)) := .lst (.inl (.inl h)) (dp_psI hp)
theorem dp_b : ∀ l : List Bool, DpAll K H (l.map V.bl) (l.map .bool)
  | [] => .nil
  | b :: l => .cons (.bl b) (dp_b l)
theorem dp_bl {a : Addr} {l : List Bool} (h : H a = some (.lst (l.map V.bl))) : Dp K H (.ref a) (.list (l.map .bool)) := .lst (.inl (.inl h)) (dp_b l)
end
/-! ### lowest terms are lowest -/
theorem low_gcd {a b : Int} (h : b ≠ 0) : Nat.gcd (low a b).1.natAbs (low a b).2.natAbs = 1 := by
  obtain ⟨c, hc⟩ := gI_dvd_l a b
  obtain ⟨d, hd⟩ := gI_dvd_r a b
  have g0 := gI_ne (a := a) h
  have e1 : (low a b).1 = c := by
    have key : ∀ g : Int, g ≠ 0 → a = g * c → a.fdiv g = c := fun g h0 hb => by rw [hb, Int.mul_fdiv_cancel_left _ h0]
    exact key _ g0 hc
  have e2 : (low a b).2 = d := by
    have key : ∀ g : Int, g ≠ 0 → b = g * d → b.fdiv g = d := fun g h0 hb => by rw [hb, Int.mul_fdiv_cancel_left _ h0]
    exact key _ g0 hd
  rw [e1, e2]
  have hg := gI_abs a b
  have ha : a.natAbs = (gI a b).natAbs * c.natAbs := by
    have := congrArg Int.natAbs hc
    rwa [Int.natAbs_mul] at this
  have hb : b.natAbs = (gI a b).natAbs * d.natAbs := by
    have := congrArg Int.natAbs hd
    rwa [Int.natAbs_mul] at this
  rw [ha, hb, Nat.gcd_mul_left] at hg
  have gp : 0 < (gI a b).natAbs := Int.natAbs_pos.mpr g0
  exact Nat.eq_of_mul_eq_mul_left gp (by omega)
theorem low_same {t b : Int} (g : Nat.gcd t.natAbs b.natAbs = 1) (pb : 0 < b) : low t b = (t, b) := by
  have e : gI t b = 1 := by
    unfold gI
    rw [if_neg (by omega), g]
    rfl
  unfold low
  rw [e, Int.fdiv_one, Int.fdiv_one]
theorem low_like {t t' b : Int} (g : Nat.gcd t.natAbs b.natAbs = 1) (pb : 0 < b) (h : t'.natAbs = t.natAbs) : low t' b = (t', b) := low_same (by rw [h]; exact g) pb
/-! ### bundles -/
theorem rf_no {t b : Int} {m : Str} (h1 : (m == "own_top") = false) (h2 : (m == "own_bottom") = false) : (rf t b).lookup m = none := by
  unfold rf
  rw [List.lookup_cons, h1]
  show List.lookup m [(("own_bottom" : Str), V.int b)] = none
  rw [List.lookup_cons, h2]
  rfl
structure MeB (P : Program) (w : World) (K : PySem.W.Frag) (mg : Str → Option Value) (base : Heap) (C : Addr) (m : Str) (k : Nat) (ps : List Str) (sp : Sp) : Prop where
  ex : ∃ (f : Addr) (fd : FuncData), Meth K C m f ∧ FnOk P w K mg base CX0 k f fd ps sp ∧ Binds K fd ps []
structure TxB (P : Program) (w : World) (K : PySem.W.Frag) (mg : Str → Option Value) (base : Heap) (C : Addr) (m : Str) (g : Int → Int → Str) : Prop where
  ex : ∃ (f : Addr) (fd : FuncData), FnOk P w K mg base CX0 2 f fd ["self"] (spTxt C g) ∧ Binds K fd ["self"] [] ∧ PySem.W.findIn K (.ref C) m = some (some (.ref f)) ∧ PySem.W.isFn K (.ref f) = true
structure NeB (P : Program) (w : World) (K : PySem.W.Frag) (mg : Str → Option Value) (base : Heap) (C : Addr) : Prop where
  ex : ∃ (f : Addr) (fd : FuncData), FnOk P w K mg base CX0 4 f fd ["self"] (spUn C fun t => 0 - t) ∧ Binds K fd ["self"] [] ∧ PySem.W.findIn K (.ref C) "__neg__" = some (some (.ref f)) ∧ PySem.W.isFn K (.ref f) = true
structure EqB (P : Program) (w : World) (K : PySem.W.Frag) (mg : Str → Option Value) (base : Heap) (C : Addr) : Prop where
  ex : ∃ (f : Addr) (fd : FuncData), FnOk P w K mg base CX0 1 f fd ["self", "other"] (spEqR C) ∧ Binds K fd ["self", "other"] [] ∧ PySem.W.findIn K (.ref C) "__eq__" = some (some (.ref f)) ∧ PySem.W.isFn K (.ref f) = true
  nf : PySem.W.notFirst K C (.type "int") = true
  sub : PySem.W.subIn K (.ref C) (.type "int") = some false
  fne : PySem.W.findIn K (.ref C) "__ne__" = some (some (.builtin "object.__ne__"))
  obj : PySem.W.mroIn K C (.type "object") = some true
section
variable {X : Cx} {C : Addr} {g : Int → Int → Str}
theorem strO (B : TxB X.prog X.w X.K X.mg X.base C "__str__" g) (hr : Room 4 X.A) : CallR X (.type "str") (fun xs H Q => ∃ a dx fs, xs = [.ref a] ∧ H a = some (.ins C dx fs) ∧ spTxt C g [.ref a] H (StrP Q) E0) := by
  obtain ⟨f, fd, F, b, fe, fn⟩ := B.ex
  exact call_strOwn F fe fn b hr
theorem reprO (B : TxB X.prog X.w X.K X.mg X.base C "__repr__" g) (hr : Room 3 X.A) : CallR X (.builtin "repr") (fun xs H Q => ∃ a dx fs, xs = [.ref a] ∧ H a = some (.ins C dx fs) ∧ spTxt C g [.ref a] H (StrP Q) E0) := by
  obtain ⟨f, fd, F, b, fe, fn⟩ := B.ex
  exact call_reprOwn F fe fn b hr
theorem negO (B : NeB X.prog X.w X.K X.mg X.base C) (hr : Room 4 X.A) : UnR X (unaryOp .USub) (fun x H Q => IsOwn C H x ∧ spUn C (fun t => 0 - t) [x] H Q E0) := by
  obtain ⟨f, fd, F, b, fe, fn⟩ := B.ex
  exact op_ownNeg F fe fn b hr
theorem eqO (B : EqB X.prog X.w X.K X.mg X.base C) (hr : Room 1 X.A) : OpR X (compareOp .Eq) (rOwn C (spEqR C)) := by
  obtain ⟨f, fd, F, b, fe, fn⟩ := B.ex
  exact op_eqOwn F fe fn B.nf b hr
theorem eqRO (B : EqB X.prog X.w X.K X.mg X.base C) (hr : Room 1 X.A) : OpR X (compareOp .Eq) (rOwnR C (spEqR C)) := by
  obtain ⟨f, fd, F, b, fe, fn⟩ := B.ex
  exact op_eqRev F fe fn B.sub b hr
theorem neO (B : EqB X.prog X.w X.K X.mg X.base C) (hr : Room 2 X.A) : OpR X (compareOp .NotEq) (fun x y H Q => IsOwn C H x ∧ IsOwn C H y ∧ spEqR C [x, y] H (fun v H' => ∃ k, v = .bl k ∧ Q (.bl (!k)) H') E0) := by
  obtain ⟨f, fd, F, b, fe, fn⟩ := B.ex
  exact op_neOwn F fe fn B.fne B.obj b hr
end
end B71

namespace B71
open PySem PySem.Spec PyProof.Rows L2 Evl RZ SrtO
/-! ### methods by position and by name -/
structure MeK (P : Program) (w : World) (K : PySem.W.Frag) (mg : Str → Option Value) (base : Heap) (C : Addr) (m kn : Str) (k : Nat) (ps : List Str) (sp : Sp) : Prop where
  ex : ∃ (f : Addr) (fd : FuncData), Meth K C m f ∧ FnOk P w K mg base CX0 k f fd ps sp ∧ ∀ s u v, BindsTo s fd ⟨[u], [(kn, v)]⟩ (ps.zip [u, v])
structure CmB (P : Program) (w : World) (K : PySem.W.Frag) (mg : Str → Option Value) (base : Heap) (C : Addr) (m : Str) (k : Nat) (ps : List Str) (sp : Sp) : Prop where
  ex : ∃ (mc : Value) (p g : Addr) (fd : FuncData), ClX.CRead K C mc ∧ ClX.CMet K C mc m p g ∧ FnOk P w K mg base CX0 k g fd ps sp ∧ Binds K fd ps []
structure CmK (P : Program) (w : World) (K : PySem.W.Frag) (mg : Str → Option Value) (base : Heap) (C : Addr) (m kn : Str) (k : Nat) (ps : List Str) (sp : Sp) : Prop where
  ex : ∃ (mc : Value) (p g : Addr) (fd : FuncData), ClX.CRead K C mc ∧ ClX.CMet K C mc m p g ∧ FnOk P w K mg base CX0 k g fd ps sp ∧ ∀ s u v, BindsTo s fd ⟨[u], [(kn, v)]⟩ (ps.zip [u, v])
structure MkK (P : Program) (w : World) (K : PySem.W.Frag) (mg : Str → Option Value) (base : Heap) (C : Addr) : Prop where
  ex : ∃ (f : Addr) (fd : FuncData) (g : List Value → List Value → List Value), Mk K C f ∧ FnOk P w K mg base CX0 2 f fd ["self", "top", "bottom"] (spInit C) ∧ KBn K fd ["self", "top", "bottom"] 1 ["top", "bottom"] g (fun vs zs => vs ++ zs)
  mgC : mg "Ratio" = some (.ref C)
section
variable {X : Cx} {C : Addr} {m kn : Str} {k : Nat} {ps : List Str} {sp : Sp} {o e : Expr} {es : List Expr} {kws : List Keyword} {ta : TE} {t tk : TA} {p apos pos : Pos} {pl : Sem Bool}
theorem pe_me (B : MeB X.prog X.w X.K X.mg X.base C m k ps sp) (cl : Cls X.K C) (hr : Room k X.A) (he : PE X o ta) (ha : PA X (e :: es) t)
    (hst : starEach (e :: es) X.env = (false, eval e X.env) :: starEach es X.env := by rfl) (hpl : (backTo pos (starEach es X.env)).any (·.1) = false := by rfl)
    (ht : eval (.Call (.Attribute o m apos) (e :: es) [] pos) X.env = (do
      let ov ← eval o X.env
      standAt apos.atName
      let (f, first) ← holding [ov] (getMethod ov m pl)
      callWith pos f first (backTo pos (starEach (e :: es) X.env)) (backToKw pos (keywordEach [] X.env))) := by rfl) :
    PE X (.Call (.Attribute o m apos) (e :: es) [] pos) (tMeth C m sp [] E0 ta t) := by
  obtain ⟨f, fd, mm, F, b⟩ := B.ex
  exact pe_meth he cl mm F hr b .nil pass0 ha hst hpl ht
theorem pe_me0 (B : MeB X.prog X.w X.K X.mg X.base C m k ps sp) (cl : Cls X.K C) (hr : Room k X.A) (he : PE X o ta)
    (ht : eval (.Call (.Attribute o m apos) [] [] pos) X.env = (do
      let ov ← eval o X.env
      standAt apos.atName
      let (f, first) ← holding [ov] (getMethod ov m pl)
      callWith pos f first (backTo pos (starEach [] X.env)) (backToKw pos (keywordEach [] X.env))) := by rfl) :
    PE X (.Call (.Attribute o m apos) [] [] pos) (tMeth C m sp [] E0 ta tNil) := by
  obtain ⟨f, fd, mm, F, b⟩ := B.ex
  exact pe_meth0 he cl mm F hr b .nil pass0 ht
def tMeK (C : Addr) (m : Str) (sp : Sp) (ta : TE) (tk : TA) : TE := fun σ H Q => ta σ H fun x H1 => ∃ a dx fs, x = .ref a ∧ H1 a = some (.ins C dx fs) ∧ fs.lookup m = none ∧ tk σ H1 fun zs H2 => ∃ z, zs = [z] ∧ sp [x, z] H2 Q E0
theorem pe_meK (B : MeK X.prog X.w X.K X.mg X.base C m kn k ps sp) (cl : Cls X.K C) (hr : Room k X.A) (he : PE X o ta) (hkw : PK X kws tk)
    (hall : (backToKw pos (keywordEach kws X.env)).all (·.1.isSome) = true := by rfl) (hks : (backToKw pos (keywordEach kws X.env)).filterMap (·.1) = [kn] := by rfl)
    (hpl : ((backTo pos (starEach [] X.env)).any (·.1) || (backToKw pos (keywordEach kws X.env)).any (·.1.isNone)) = false := by rfl)
    (ht : eval (.Call (.Attribute o m apos) [] kws pos) X.env = (do
      let ov ← eval o X.env
      standAt apos.atName
      let (f, first) ← holding [ov] (getMethod ov m pl)
      callWith pos f first (backTo pos (starEach [] X.env)) (backToKw pos (keywordEach kws X.env))) := by rfl) :
    PE X (.Call (.Attribute o m apos) [] kws pos) (tMeK C m sp ta tk) := by
  obtain ⟨f, fd, mm, F, b⟩ := B.ex
  refine ⟨fun pins s σ H Q I h => ?_⟩
  refine PySem.W.methodCall_KW (pl := pl) (thn (he.run pins s σ H _ I h) fun u s1 ⟨x, H1, I1, rx, a, dx, fs, ex, ea, l, q⟩ => ?_) ht
  subst ex
  obtain rfl : u = Value.ref a := rx
  refine getmeth_ok I1 ea cl mm l ?_
  refine PySem.W.callWith_KW0 (first := [.ref a]) (h₀ := X.base) I.ok.mod.kin mm.kp hall ?_ hpl
  refine thn (hkw.run pos pins s1 σ H1 _ I1 q) fun ws s2 ⟨zs, H2, I2, rz, z, e, q2⟩ => ⟨I2.kIn, ?_⟩
  rw [hks]
  subst e
  obtain ⟨u, rfl, ru⟩ := rz.one
  refine wpAny_call (codeAny_mono (F.run X.A X.stack s2 H2 ⟨[.ref a], [(kn, u)]⟩ [.ref a, u] [.ref a, z] Q E0 hr I2.env0 (b s2 (.ref a) u) (.cons rfl (.cons ru .nil)) q2) fun r s' hq => ?_)
  cases r with
  | error e => exact pass0 pins σ H2 s2 e s' I2 hq
  | ok fl =>
    cases fl with
    | ret u => exact I2.after hq
    | next => exact False.elim hq
    | brk => exact False.elim hq
    | cont => exact False.elim hq
theorem pe_cmB (B : CmB X.prog X.w X.K X.mg X.base C m k ps sp) (hr : Room k X.A) (he : PE X o ta) (ha : PA X (e :: es) t)
    (hst : starEach (e :: es) X.env = (false, eval e X.env) :: starEach es X.env := by rfl) (hpl : (backTo pos (starEach es X.env)).any (·.1) = false := by rfl)
    (ht : eval (.Call (.Attribute o m apos) (e :: es) [] pos) X.env = (do
      let ov ← eval o X.env
      standAt apos.atName
      let (f, first) ← holding [ov] (getMethod ov m pl)
      callWith pos f first (backTo pos (starEach (e :: es) X.env)) (backToKw pos (keywordEach [] X.env))) := by rfl) :
    PE X (.Call (.Attribute o m apos) (e :: es) [] pos) (fun σ H Q => ta σ H fun x H1 => x = .ref C ∧ t σ H1 fun vs H2 => sp (.ref C :: vs) H2 Q E0) := by
  obtain ⟨mc, p, g, fd, r, c, F, b⟩ := B.ex
  have F' : FnR X.prog X.w X.K X.mg X.base CX0 k g sp := FnR.imp (F.raw b .nil) fun vs H Q E h => by rw [List.append_nil]; exact h
  exact ClX.pe_cmeth he r c F' hr pass0 ha hst hpl ht
theorem pe_cmK (B : CmK X.prog X.w X.K X.mg X.base C m kn k ps sp) (hr : Room k X.A) (he : PE X o ta) (hkw : PK X kws tk)
    (hall : (backToKw pos (keywordEach kws X.env)).all (·.1.isSome) = true := by rfl) (hks : (backToKw pos (keywordEach kws X.env)).filterMap (·.1) = [kn] := by rfl)
    (hpl : ((backTo pos (starEach [] X.env)).any (·.1) || (backToKw pos (keywordEach kws X.env)).any (·.1.isNone)) = false := by rfl)
    (ht : eval (.Call (.Attribute o m apos) [] kws pos) X.env = (do
      let ov ← eval o X.env
      standAt apos.atName
      let (f, first) ← holding [ov] (getMethod ov m pl)
      callWith pos f first (backTo pos (starEach [] X.env)) (backToKw pos (keywordEach kws X.env))) := by rfl) :
    PE X (.Call (.Attribute o m apos) [] kws pos) (fun σ H Q => ta σ H fun x H1 => x = .ref C ∧ tk σ H1 fun zs H2 => ∃ z, zs = [z] ∧ sp [.ref C, z] H2 Q E0) := by
  obtain ⟨mc, p, g, fd, r, c, F, b⟩ := B.ex
  refine ⟨fun pins s σ H Q I h => ?_⟩
  refine PySem.W.methodCall_KW (pl := pl) (thn (he.run pins s σ H _ I h) fun u s1 ⟨x, H1, I1, rx, ex, q⟩ => ?_) ht
  subst ex
  obtain rfl : u = Value.ref C := rx
  refine ClX.getmethcm_ok I1 r c fun s2 I2 => ?_
  refine PySem.W.callWith_of (P := PySem.W.MethP X.K s1.heap.objs.size g (.ref C)) hpl (PySem.W.keeps_M c.fi) (evalArgs_kw2_nil hall (thn (hkw.run pos _ s2 σ H1 _ I2 q) fun ws s3 ⟨zs, H2, I3, rz, z, e, q2⟩ => ⟨⟨ClX.pin_at I3, I3.kIn⟩, ?_⟩))
  rw [hks]
  subst e
  obtain ⟨u, rfl, ru⟩ := rz.one
  have zz : wpAny (model X.prog X.w) X.A (call (.ref s1.heap.objs.size) [] [(kn, u)]) (EP X ((s1.heap.objs.size, PySem.W.methodObj (.ref g) (.ref C)) :: pins) σ Q) X.xe s3 := by
    refine wpAny_call (PySem.W.method_call (ClX.pin_at I3) (codeAny_mono (F.run X.A X.stack s3 H2 ⟨[.ref C], [(kn, u)]⟩ [.ref C, u] [.ref C, z] Q E0 hr I3.env0 (b s3 (.ref C) u) (.cons rfl (.cons ru .nil)) q2) fun r s' hq => ?_))
    cases r with
    | error e => exact pass0 _ σ H2 s3 e s' I3 hq
    | ok fl =>
      cases fl with
      | ret u => exact I3.after hq
      | next => exact False.elim hq
      | brk => exact False.elim hq
      | cont => exact False.elim hq
  exact thn zz fun _ _ y => ClX.unpinE y
theorem pe_ratK (M : MkK X.prog X.w X.K X.mg X.base C) (hr : Room 3 X.A) (hkw : PK X kws tk) (hg : Gl X "Ratio" := by rfl)
    (hall : (backToKw pos (keywordEach kws X.env)).all (·.1.isSome) = true := by rfl) (hks : (backToKw pos (keywordEach kws X.env)).filterMap (·.1) = (["top", "bottom"] : List Str) := by rfl)
    (hpl : ((backTo pos (starEach [] X.env)).any (·.1) || (backToKw pos (keywordEach kws X.env)).any (·.1.isNone)) = false := by rfl) :
    PE X (.Call (.Name "Ratio" p) [] kws pos) (tMakeK C 0 2 (spInit C) (fun vs zs => vs ++ zs) E0 tNil tk) := by
  obtain ⟨f, fd, g, m, F, b⟩ := M.ex
  exact pe_makeK0 (E := E0) m F hr hg M.mgC b pass0 hkw hall hks (by decide) hpl
end
end B71

namespace B71
open PySem PySem.Spec PyProof.Rows L2 Evl RZ SrtO

def spOne : Sp := fun vs H Q _ => ∃ (r : Addr) (z : Int × Int), vs = [.ref r] ∧ PtI H r z ∧ z.2 ≠ 0 ∧ Bt 140 z.1 ∧ Bt 140 z.2 ∧ RetV (.bl true) H Q
theorem itf {P Q : Prop} (h : Q) : if false = true then P else Q := by rw [if_neg Bool.false_ne_true]; exact h
theorem ro_sw {s : Int} (w : Bool) (h : s = -1 ∨ s = 0 ∨ s = 1) : Ro (.list [.int s, .bool w]) := by
  rcases h with rfl | rfl | rfl <;> cases w <;> exact ro_of (by decide +kernel) (by decide +kernel) (by decide +kernel) (by decide +kernel) (by decide +kernel) (by decide +kernel)
theorem sgI_3 (t : Int) : sgI t = -1 ∨ sgI t = 0 ∨ sgI t = 1 := by
  unfold sgI
  repeat' split
  all_goals omega
theorem dVI (a b : Int) : decide (V.int a = V.int b) = decide (a = b) := by
  by_cases h : a = b
  · rw [decide_eq_true h, decide_eq_true (by rw [h])]
  · rw [decide_eq_false h, decide_eq_false (fun z => h (by injection z))]
section
variable {P : Program} {w : World} {K : PySem.W.Frag} {mg : Str → Option Value} {base : Heap} {f C : Addr} {fd : FuncData}
theorem sc__law_one_right : FnScope ["raw", "made", "pair", "sign"] ["raw"] (defScope (top 33)) := ⟨rfl, rfl, rfl, by decide +kernel, rfl, by decide +kernel, by decide +kernel⟩
theorem ok_law_one (F : Fun K "_law_one_right" "_law_one_right" (top 33) f fd) (R : RCl K mg C) (T : Tx mg) (MR : MkR P w K mg base C) (MK : MkK P w K mg base C) (C__law_low : ClO P w K mg base "_law_low" 1 ["top", "bottom"] spLow) (C__law_pair : ClO P w K mg base "_law_pair" 3 ["value"] (spPairOf C)) (C__law_shown : ClO P w K mg base "_law_shown" 1 ["pair"] spShown) (C_is_number : ClO P w K mg base "is_number" 2 ["value"] (spIsN K C)) (C_is_integer : ClO P w K mg base "is_integer" 1 ["value"] (spIsI K C)) (C_is_count : ClO P w K mg base "is_count" 2 ["value"] (spIsC K C))
    (SB : TxB P w K mg base C "__str__" sS) (RB : TxB P w K mg base C "__repr__" sR) (PB_sign : PrB P w K mg base C "sign" fun t _ => .int (sgI t)) (PB_is_whole : PrB P w K mg base C "is_whole" fun _ b => .bl (decide (b = 1)))
    (M_unsigned : MeB P w K mg base C "unsigned" 4 ["self"] (spUn C fun t => (t.natAbs : Int))) (O_sub : OpB P w K mg base C "sub" gSub gSubR) (NB : NeB P w K mg base C) : FnG P w K mg base 8 f fd ["raw"] spOne := by
  have sc := sc__law_one_right
  refine okG F sc (fun vs H Q E h => ?_) (fun cdv A outer s H vs Q gd0 hr h => ?_)
  · obtain ⟨_, _, rfl, _⟩ := h; rfl
  have gd := deeper_guards (env := envOfC "_law_one_right" (defScope (top 33)) s.heap.objs.size f cdv) gd0
  obtain ⟨r, ⟨z1, z2⟩, rfl, hr1, nz, b1, b2, q⟩ := h
  dsimp only at nz b1 b2
  have lb := low_bt b1 b2 nz
  have lp := low_pos (a := z1) nz
  have lg := low_gcd (a := z1) nz
  refine ⟨_, (pss_cut (ps_par (i := 1) (j := 2) rfl sc.nd rfl rfl (by decide) rfl rfl (pa_cons (pe_rat2 MR (hr.mono (by first | decide | omega)) (pa_cons (pe_ix ix_tup (pv 0) pe_int (fun _ _ => rfl)) (pa_cons (pe_ix ix_tup (pv 0) pe_int (fun _ _ => rfl)) pa_nil))) (pa_cons (pe_clo C__law_low (hr.mono (by first | decide | omega)) (pa_cons (pe_ix ix_tup (pv 0) pe_int (fun _ _ => rfl)) (pa_cons (pe_ix ix_tup (pv 0) pe_int (fun _ _ => rfl)) pa_nil))) pa_nil)) rfl) (pss_cut (ps_if (PW.pt (pw_or (pt_cmpR (op_neD hr.units) (pe_clo C__law_pair (hr.mono (by first | decide | omega)) (pa_cons (pv 1) pa_nil)) (pv 2) (nomark _)) (pw_or1 (pt_cmpR op_ne (pe_callTy (strO SB (hr.mono (by first | decide | omega))) rfl T.b_str bt_str (pa_cons (pv 1) pa_nil)) (pe_clo C__law_shown (hr.mono (by first | decide | omega)) (pa_cons (pv 2) pa_nil)) (nomark _))))) (pss_one (ps_ret pe_bl)) pss_nil) (pss_cut (ps_if (pt_cmpR op_ne (pe_callB (reprO RB (hr.mono (by first | decide | omega))) rfl T.b_repr bt_repr (pa_cons (pv 1) pa_nil)) (pe_op op_add_str (pe_op op_add_str (pe_op op_add_str (pe_op op_add_str pe_str (pe_callTy call_str_int rfl T.b_str bt_str (pa_cons (pe_ix ix_tup (pv 2) pe_int (fun _ _ => rfl)) pa_nil))) pe_str) (pe_callTy call_str_int rfl T.b_str bt_str (pa_cons (pe_ix ix_tup (pv 2) pe_int (fun _ _ => rfl)) pa_nil))) pe_str) (nomark _)) (pss_one (ps_ret pe_bl)) pss_nil) (pss_cut (ps_set (i := 3) sc.nd rfl (Or.inl rfl) (pe_ifExp (pt_cmpR op_eq (pe_ix ix_tup (pv 2) pe_int (fun _ _ => rfl)) pe_int (nomark _)) pe_int (pe_ifExp (pt_cmpR op_gt (pe_ix ix_tup (pv 2) pe_int (fun _ _ => rfl)) pe_int (nomark _)) pe_int (pe_un un_neg pe_int)))) (pss_cut (ps_if (pt_cmpR op_ne (pe_callB (call_reprD gd hr.units) rfl T.b_repr bt_repr (pa_cons (pe_lst (pa_cons (pe_prB PB_sign R.cl (hr.mono (by first | decide | omega)) (pv 1)) (pa_cons (pe_prB PB_is_whole R.cl (hr.mono (by first | decide | omega)) (pv 1)) pa_nil))) pa_nil)) (pe_callB (call_reprD gd hr.units) rfl T.b_repr bt_repr (pa_cons (pe_lst (pa_cons (pv 3) (pa_cons (pe_cmpR op_eq (pe_ix ix_tup (pv 2) pe_int (fun _ _ => rfl)) pe_int (nomark _)) pa_nil))) pa_nil)) (nomark _)) (pss_one (ps_ret pe_bl)) pss_nil) (pss_cut (ps_if (pt_cmpR (op_neD hr.units) (pe_clo C__law_pair (hr.mono (by first | decide | omega)) (pa_cons (pe_me0 M_unsigned R.cl (hr.mono (by first | decide | omega)) (pv 1)) pa_nil)) (pe_tup (pa_cons (pe_callB call_abs rfl T.b_abs bt_abs (pa_cons (pe_ix ix_tup (pv 2) pe_int (fun _ _ => rfl)) pa_nil)) (pa_cons (pe_ix ix_tup (pv 2) pe_int (fun _ _ => rfl)) pa_nil))) (nomark _)) (pss_one (ps_ret pe_bl)) pss_nil) (pss_cut (ps_if (PW.pt (pw_or (pt_cmpR (op_neD hr.units) (pe_clo C__law_pair (hr.mono (by first | decide | omega)) (pa_cons (pe_op (opR_sub O_sub (hr.mono (by first | decide | omega))) pe_int (pv 1)) pa_nil)) (pe_tup (pa_cons (pe_op op_sub pe_int (pe_ix ix_tup (pv 2) pe_int (fun _ _ => rfl))) (pa_cons (pe_ix ix_tup (pv 2) pe_int (fun _ _ => rfl)) pa_nil))) (nomark _)) (pw_or1 (pt_cmpR (op_neD hr.units) (pe_clo C__law_pair (hr.mono (by first | decide | omega)) (pa_cons (pe_un (negO NB (hr.mono (by first | decide | omega))) (pv 1)) pa_nil)) (pe_tup (pa_cons (pe_op op_sub pe_int (pe_ix ix_tup (pv 2) pe_int (fun _ _ => rfl))) (pa_cons (pe_ix ix_tup (pv 2) pe_int (fun _ _ => rfl)) pa_nil))) (nomark _))))) (pss_one (ps_ret pe_bl)) pss_nil) (pss_cut (ps_if (pt_cmpR (op_neD hr.units) (pe_lst (pa_cons (pe_clo C_is_number (hr.mono (by first | decide | omega)) (pa_cons (pv 1) pa_nil)) (pa_cons (pe_clo C_is_integer (hr.mono (by first | decide | omega)) (pa_cons (pv 1) pa_nil)) (pa_cons (pe_clo C_is_count (hr.mono (by first | decide | omega)) (pa_cons (pv 1) pa_nil)) pa_nil)))) (pe_lst (pa_cons pe_bl (pa_cons pe_bl (pa_cons pe_bl pa_nil)))) (nomark _)) (pss_one (ps_ret pe_bl)) pss_nil) (pss_one (ps_ret (pe_cmpR (op_eqD hr.units) (pe_clo C__law_pair (hr.mono (by first | decide | omega)) (pa_cons (pe_ratK MK (hr.mono (by first | decide | omega)) (pk_cons (pe_ix ix_tup (pv 0) pe_int (fun _ _ => rfl)) (pk_cons (pe_ix ix_tup (pv 0) pe_int (fun _ _ => rfl)) pk_nil))) pa_nil)) (pv 2) (nomark _)))))))))))), ?_⟩
  generalize hl : low z1 z2 = pr at *
  obtain ⟨t, b⟩ := pr
  dsimp only at lb lp lg
  refine ⟨fun σ' H' => ∃ m p, σ' = [some (.ref r), some (.ref m), some (.ref p), none] ∧ Ex H H' ∧ Rt C H' m t b ∧ PtI H' p (t, b), ?_, ?_⟩
  · refine ⟨_, rfl, r, _, 0, .int z1, rfl, rfl, st_of hr1, rfl, _, rfl, r, _, 1, .int z2, rfl, rfl, st_of hr1, rfl, fun x dx hx hd ne => ?_⟩
    refine made_z hx hd ne nz (b1.mono (by decide)) (b2.mono (by decide)) fun H1 e1 r1 => ⟨rfl, ?_⟩
    rw [hl] at r1
    refine ⟨_, rfl, r, _, 0, .int z1, rfl, rfl, st_of (e1 _ _ hr1), rfl, _, rfl, r, _, 1, .int z2, rfl, rfl, st_of (e1 _ _ hr1), rfl, z1, z2, rfl, nz, b2.mono (by decide), fun p H2 h2 e2 p2 => ?_⟩
    rw [hl] at p2
    exact ⟨_, _, rfl, x, p, rfl, e1.trans e2, r1.up e2, p2⟩
  rintro σ' H1 ⟨m, p, rfl, e1, rt, hp⟩
  have hr2 := hr1.up e1
  obtain ⟨dx, hm⟩ := id rt
  refine ⟨fun σ' H' => σ' = [some (.ref r), some (.ref m), some (.ref p), none] ∧ Ex H1 H', ?_, ?_⟩
  · refine ⟨_, rfl, m, t, b, rfl, rt, fun r1 H2 h2 e2 p1 => ⟨_, rfl, _, _, dp_pI p1, dp_pI (hp.up e2), pI_sh _, pI_sh _, ?_⟩⟩
    rw [pI_eqv, decide_eq_true rfl]
    refine ⟨_, rfl, itf ?_⟩
    refine ⟨_, rfl, m, dx, _, rfl, e2 _ _ hm, m, t, b, rfl, rt.up e2, lb.1.mono (by decide), lb.2.mono (by decide), fun H3 e3 => ⟨_, rfl, ?_⟩⟩
    refine ⟨_, rfl, p, (t, b), rfl, hp.up (e2.trans e3), lb.1.mono (by decide), lb.2.mono (by decide), fun H4 e4 => ⟨rfl, ?_⟩⟩
    rw [decide_eq_true rfl]
    exact ⟨_, rfl, itf ⟨rfl, e2.trans (e3.trans e4)⟩⟩
  rintro σ' H2 ⟨rfl, e2⟩
  replace e1 := e1.trans e2
  replace rt := rt.up e2
  replace hp := hp.up e2
  replace hr2 := hr2.up e2
  replace hm := e2 _ _ hm
  clear e2
  have sl : sizeLine = 16777216 := sizeLine_eq
  have l1 : (tI t).length ≤ 61 := tI_len (bt190 (lb.1.mono (by decide)))
  have l2 : (tI b).length ≤ 61 := tI_len (bt190 (lb.2.mono (by decide)))
  have lt : t.natAbs.log2 < 1920 := Nat.lt_trans (lb.1.log (by decide)) (by decide)
  have lb' : b.natAbs.log2 < 1920 := Nat.lt_trans (lb.2.log (by decide)) (by decide)
  have k1 : (Str.ofString "Ratio(").length = 6 := rfl
  have k2 : (Str.ofString ", ").length = 2 := rfl
  have k3 : (Str.ofString ")").length = 1 := rfl
  refine ⟨fun σ' H' => σ' = [some (.ref r), some (.ref m), some (.ref p), none] ∧ Ex H2 H', ?_, ?_⟩
  · refine ⟨_, rfl, m, dx, _, rfl, hm, m, t, b, rfl, rt, lb.1.mono (by decide), lb.2.mono (by decide), fun H3 e3 => ⟨_, rfl, ?_⟩⟩
    refine ⟨_, rfl, p, _, 0, .int t, rfl, rfl, st_of (hp.up e3), rfl, t, rfl, lt, _, _, rfl, rfl, ?_, _, _, rfl, rfl, ?_, _, rfl, p, _, 1, .int b, rfl, rfl, st_of (hp.up e3), rfl, b, rfl, lb', _, _, rfl, rfl, ?_, _, _, rfl, rfl, ?_, rfl, ?_⟩
    · show (Str.ofString "Ratio(").length + (tI t).length ≤ sizeLine
      omega
    · show (Str.ofString "Ratio(" ++ tI t).length + (Str.ofString ", ").length ≤ sizeLine
      simp only [Str.length_append]
      omega
    · show (Str.ofString "Ratio(" ++ tI t ++ Str.ofString ", ").length + (tI b).length ≤ sizeLine
      simp only [Str.length_append]
      omega
    · show (Str.ofString "Ratio(" ++ tI t ++ Str.ofString ", " ++ tI b).length + (Str.ofString ")").length ≤ sizeLine
      simp only [Str.length_append]
      omega
    · have e : decide (V.str (sR t b) = V.str (Str.ofString "Ratio(" ++ Str.ofString (toString t) ++ Str.ofString ", " ++ Str.ofString (toString b) ++ Str.ofString ")")) = true := decide_eq_true rfl
      rw [e]
      exact ⟨_, rfl, itf ⟨rfl, e3⟩⟩
  rintro σ' H2b ⟨rfl, e3⟩
  replace e1 := e1.trans e3
  replace rt := rt.up e3
  replace hp := hp.up e3
  replace hr2 := hr2.up e3
  replace hm := e3 _ _ hm
  clear e3
  refine ⟨fun σ' H' => σ' = [some (.ref r), some (.ref m), some (.ref p), some (.int (sgI t))] ∧ Ex H2b H', ?_, ?_⟩
  · refine ⟨_, rfl, p, _, 0, .int t, rfl, rfl, st_of hp, rfl, rfl, _, rfl, ?_⟩
    rw [dVI]
    by_cases c0 : t = 0
    · rw [decide_eq_true c0]
      exact ⟨by rw [show sgI t = 0 from by subst c0; rfl]; rfl, Ex.refl _⟩
    · rw [decide_eq_false c0]
      refine ⟨_, rfl, p, _, 0, .int t, rfl, rfl, st_of hp, rfl, _, _, rfl, rfl, _, rfl, ?_⟩
      by_cases c1 : t > 0
      · rw [decide_eq_true c1]
        exact ⟨by rw [show sgI t = 1 from by unfold sgI; rw [decide_eq_true c1, decide_eq_false (by omega)]; rfl]; rfl, Ex.refl _⟩
      · rw [decide_eq_false c1]
        refine ⟨_, rfl, ?_⟩
        exact ⟨by rw [show sgI t = -1 from by unfold sgI; rw [decide_eq_false c1, decide_eq_true (by omega)]; rfl]; rfl, Ex.refl _⟩
  rintro σ' H3 ⟨rfl, e3⟩
  replace e1 := e1.trans e3
  replace rt := rt.up e3
  replace hp := hp.up e3
  replace hr2 := hr2.up e3
  replace hm := e3 _ _ hm
  clear e3
  refine ⟨fun σ' H' => σ' = [some (.ref r), some (.ref m), some (.ref p), some (.int (sgI t))] ∧ Ex H3 H', ?_, ?_⟩
  · refine ⟨_, rfl, m, dx, _, rfl, hm, m, t, b, rfl, rt, fun H4 e4 => ?_⟩
    refine ⟨_, rfl, m, dx, _, rfl, e4 _ _ hm, m, t, b, rfl, rt.up e4, fun H5 e5 => ⟨(by show 2 ≤ sizeLine; decide), fun l1 hl1 => ?_⟩⟩
    have ro := ro_sw (decide (b = 1)) (sgI_3 t)
    have x5 := Ex.new (o := .lst [.int (sgI t), .bl (decide (b = 1))]) hl1
    refine ⟨l1, .list [.int (sgI t), .bool (decide (b = 1))], rfl, .lst (.inl (.inl upd_same)) (.cons (.int _) (.cons (.bl _) .nil)), ro.sh, ro.nd, ro.dp, ro.ln, ?_⟩
    refine ⟨_, rfl, _, rfl, p, _, 1, .int b, rfl, rfl, st_of (hp.up (e4.trans (e5.trans x5))), rfl, rfl, ?_⟩
    rw [dVI]
    refine ⟨(by show 2 ≤ sizeLine; decide), fun l2 hl2 => ?_⟩
    have x6 := Ex.new (o := .lst [.int (sgI t), .bl (decide (b = 1))]) hl2
    refine ⟨l2, .list [.int (sgI t), .bool (decide (b = 1))], rfl, .lst (.inl (.inl upd_same)) (.cons (.int _) (.cons (.bl _) .nil)), ro.sh, ro.nd, ro.dp, ro.ln, rfl, ?_⟩
    rw [decide_eq_true rfl]
    exact ⟨_, rfl, itf ⟨rfl, e4.trans (e5.trans (x5.trans x6))⟩⟩
  rintro σ' H4 ⟨rfl, e4⟩
  replace e1 := e1.trans e4
  replace rt := rt.up e4
  replace hp := hp.up e4
  replace hr2 := hr2.up e4
  replace hm := e4 _ _ hm
  clear e4
  refine ⟨fun σ' H' => σ' = [some (.ref r), some (.ref m), some (.ref p), some (.int (sgI t))] ∧ Ex H4 H', ?_, ?_⟩
  · refine ⟨_, rfl, m, dx, _, rfl, hm, rf_no (by decide +kernel) (by decide +kernel), m, t, b, rfl, rt, lb.1.mono (by decide), lb.2.mono (by decide), by omega, fun x H5 h5 e5 r5 => ?_⟩
    rw [low_like lg lp (show ((t.natAbs : Int)).natAbs = t.natAbs by omega)] at r5
    refine ⟨x, _, _, rfl, r5, fun r6 H6 h6 e6 p6 => ?_⟩
    refine ⟨_, rfl, p, _, 0, .int t, rfl, rfl, st_of (hp.up (e5.trans e6)), rfl, t, rfl, _, rfl, p, _, 1, .int b, rfl, rfl, st_of (hp.up (e5.trans e6)), rfl, (by show 2 ≤ sizeLine; decide), fun r7 h7 => ?_⟩
    rw [show (if t < 0 then -t else t) = ((t.natAbs : Nat) : Int) from by split <;> omega]
    have x7 := Ex.new (o := .tup [.int (t.natAbs : Int), .int b]) h7
    refine ⟨_, _, dp_pI (p := ((t.natAbs : Int), b)) (p6.up x7), dp_pI (p := ((t.natAbs : Int), b)) upd_same, pI_sh _, pI_sh _, ?_⟩
    rw [pI_eqv, decide_eq_true rfl]
    exact ⟨_, rfl, itf ⟨rfl, e5.trans (e6.trans x7)⟩⟩
  rintro σ' H5 ⟨rfl, e5⟩
  replace e1 := e1.trans e5
  replace rt := rt.up e5
  replace hp := hp.up e5
  replace hr2 := hr2.up e5
  replace hm := e5 _ _ hm
  clear e5
  refine ⟨fun σ' H' => σ' = [some (.ref r), some (.ref m), some (.ref p), some (.int (sgI t))] ∧ Ex H5 H', ?_, ?_⟩
  · refine ⟨_, rfl, ⟨0, rfl⟩, ⟨m, dx, _, rfl, hm⟩, m, .int 0, t, b, 0, 1, rfl, rt, .inl ⟨rfl, rfl⟩, lb.1.mono (by decide), lb.2.mono (by decide), (show Bt 3000 0 by unfold Bt; decide +kernel), (show Bt 3000 1 by unfold Bt; decide +kernel), (by show b * 1 ≠ 0; omega), fun x H6 h6 e6 r6 => ?_⟩
    rw [show gSubR t b 0 1 = (0 - t, b) from by unfold gSubR; rw [Int.zero_mul, Int.mul_one, Int.mul_one], low_like lg lp (show (0 - t).natAbs = t.natAbs by omega)] at r6
    refine ⟨x, _, _, rfl, r6, fun r7 H7 h7 e7 p7 => ?_⟩
    refine ⟨_, rfl, p, _, 0, .int t, rfl, rfl, st_of (hp.up (e6.trans e7)), rfl, _, _, rfl, rfl, _, rfl, p, _, 1, .int b, rfl, rfl, st_of (hp.up (e6.trans e7)), rfl, (by show 2 ≤ sizeLine; decide), fun r8 h8 => ?_⟩
    have x8 := Ex.new (o := .tup [.int (0 - t), .int b]) h8
    refine ⟨_, _, dp_pI (p := (0 - t, b)) (p7.up x8), dp_pI (p := (0 - t, b)) upd_same, pI_sh _, pI_sh _, ?_⟩
    rw [pI_eqv, decide_eq_true rfl]
    refine ⟨_, rfl, itf ?_⟩
    have e68 := e6.trans (e7.trans x8)
    have hm8 := e68 _ _ hm
    have rt8 := rt.up e68
    have hp8 := hp.up e68
    generalize upd H7 r8 (.tup [.int (0 - t), .int b]) = H8 at e68 hm8 rt8 hp8 ⊢
    refine ⟨_, rfl, ⟨m, dx, _, rfl, hm8⟩, m, t, b, rfl, rt8, lb.1.mono (by decide), lb.2.mono (by decide), by omega, fun x9 H9 h9 e9 r9 => ?_⟩
    rw [low_like lg lp (show (0 - t).natAbs = t.natAbs by omega)] at r9
    refine ⟨x9, _, _, rfl, r9, fun ra Ha ha ea pa => ?_⟩
    refine ⟨_, rfl, p, _, 0, .int t, rfl, rfl, st_of (hp8.up (e9.trans ea)), rfl, _, _, rfl, rfl, _, rfl, p, _, 1, .int b, rfl, rfl, st_of (hp8.up (e9.trans ea)), rfl, (by show 2 ≤ sizeLine; decide), fun rb hb => ?_⟩
    have xb := Ex.new (o := .tup [.int (0 - t), .int b]) hb
    refine ⟨_, _, dp_pI (p := (0 - t, b)) (pa.up xb), dp_pI (p := (0 - t, b)) upd_same, pI_sh _, pI_sh _, ?_⟩
    rw [pI_eqv, decide_eq_true rfl]
    exact ⟨_, rfl, itf ⟨rfl, e68.trans (e9.trans (ea.trans xb))⟩⟩
  rintro σ' H6 ⟨rfl, e6⟩
  replace e1 := e1.trans e6
  replace rt := rt.up e6
  replace hp := hp.up e6
  replace hr2 := hr2.up e6
  replace hm := e6 _ _ hm
  clear e6
  refine ⟨fun σ' H' => σ' = [some (.ref r), some (.ref m), some (.ref p), some (.int (sgI t))] ∧ Ex H6 H', ?_, ?_⟩
  · refine ⟨_, rfl, .ref m, false, false, true, rfl, kd_own R hm, fun H7 e7 => ?_⟩
    refine ⟨_, rfl, .ref m, false, false, true, rfl, kd_own R (e7 _ _ hm), fun H8 e8 => ?_⟩
    refine ⟨_, rfl, .ref m, false, false, true, false, rfl, kd_own R (e8 _ _ (e7 _ _ hm)), .inl ⟨rfl, rfl⟩, fun H9 e9 => ⟨(by show 3 ≤ sizeLine; decide), fun l1 hl1 => ⟨(by show 3 ≤ sizeLine; decide), fun l2 hl2 => ?_⟩⟩⟩
    have x1 := Ex.new (o := .lst ([true, false, false].map V.bl)) hl1
    have x2 := Ex.new (o := .lst ([true, false, false].map V.bl)) hl2
    refine ⟨_, _, dp_bl (l := [true, false, false]) (x2 _ _ upd_same), dp_bl (l := [true, false, false]) upd_same, bs_sh _, bs_sh _, ?_⟩
    rw [bs_eqv, decide_eq_true rfl]
    exact ⟨_, rfl, itf ⟨rfl, e7.trans (e8.trans (e9.trans (x1.trans x2)))⟩⟩
  rintro σ' H7 ⟨rfl, e7⟩
  replace e1 := e1.trans e7
  replace hp := hp.up e7
  replace hr2 := hr2.up e7
  refine ⟨_, rfl, r, _, 0, .int z1, rfl, rfl, st_of hr2, rfl, _, rfl, r, _, 1, .int z2, rfl, rfl, st_of hr2, rfl, rfl, rfl, fun x dx hx hd ne => ?_⟩
  refine made_z hx hd ne nz (b1.mono (by decide)) (b2.mono (by decide)) fun H8 e8 r8 => ⟨rfl, ?_⟩
  rw [hl] at r8
  refine ⟨x, _, _, rfl, r8, fun r9 H9 h9 e9 p9 => ⟨_, rfl, _, _, dp_pI (p := (t, b)) p9, dp_pI (hp.up (e8.trans e9)), pI_sh _, pI_sh _, ?_⟩⟩
  rw [pI_eqv, decide_eq_true rfl]
  exact q _ (e1.trans (e8.trans e9))
end
end B71

namespace B71
open PySem PySem.Spec PyProof.Rows L2 Evl RZ SrtO

def spTwo : Sp := fun vs H Q _ => ∃ (r r2 : Addr) (n : Int) (z y : Int × Int), vs = [.ref r, .ref r2, .int n] ∧ PtI H r z ∧ PtI H r2 y ∧ z.2 ≠ 0 ∧ y.2 ≠ 0 ∧ Bt 140 z.1 ∧ Bt 140 z.2 ∧ Bt 140 y.1 ∧ Bt 140 y.2 ∧ Bt 140 n ∧ RetV (.bl true) H Q
/-- two Ratios made, their pairs, a number's pair -/
structure Two (C : Addr) (H : Hp) (m m2 p1 p2 p3 : Addr) (t b u c n : Int) : Prop where
  rm : Rt C H m t b
  rm2 : Rt C H m2 u c
  k1 : PtI H p1 (t, b)
  k2 : PtI H p2 (u, c)
  k3 : PtI H p3 (n, 1)
structure Nums (t b u c n : Int) : Prop where
  bt : Bt 140 t
  bb : Bt 140 b
  bu : Bt 140 u
  bc : Bt 140 c
  bn : Bt 140 n
  pb : 0 < b
  pc : 0 < c
  gt : Nat.gcd t.natAbs b.natAbs = 1
  gu : Nat.gcd u.natAbs c.natAbs = 1
theorem b3k {x : Int} (h : Bt 140 x) : Bt 3000 x := h.mono (by decide)
theorem b3k1 : Bt 3000 1 := by unfold Bt; decide +kernel
section
variable {C : Addr} {H H1 : Hp} {m m2 p1 p2 p3 : Addr} {t b u c n : Int}
theorem Two.up (k : Two C H m m2 p1 p2 p3 t b u c n) (e : Ex H H1) : Two C H1 m m2 p1 p2 p3 t b u c n := ⟨k.rm.up e, k.rm2.up e, k.k1.up e, k.k2.up e, k.k3.up e⟩
theorem Rt.own {a : Addr} {t b : Int} (h : Rt C H a t b) : IsOwn C H (.ref a) := by
  obtain ⟨dx, h⟩ := h
  exact ⟨a, dx, _, rfl, h⟩
theorem bin2 {Z : VK} {g : Int → Int → Int → Int → Int × Int} (N : Nums t b u c n) (k : Two C H m m2 p1 p2 p3 t b u c n) (hne : (g t b u c).2 ≠ 0) (q : RetR C (low (g t b u c).1 (g t b u c).2) H Z) : rOwn C (spBin C g) (.ref m) (.ref m2) H Z :=
  ⟨k.rm.own, .inr k.rm2.own, m, .ref m2, t, b, u, c, rfl, k.rm, .inr ⟨m2, rfl, k.rm2⟩, b3k N.bt, b3k N.bb, b3k N.bu, b3k N.bc, hne, q⟩
theorem binN {Z : VK} {g : Int → Int → Int → Int → Int × Int} (N : Nums t b u c n) (k : Two C H m m2 p1 p2 p3 t b u c n) (hne : (g t b n 1).2 ≠ 0) (q : RetR C (low (g t b n 1).1 (g t b n 1).2) H Z) : rOwn C (spBin C g) (.ref m) (.int n) H Z :=
  ⟨k.rm.own, .inl ⟨n, rfl⟩, m, .int n, t, b, n, 1, rfl, k.rm, .inl ⟨rfl, rfl⟩, b3k N.bt, b3k N.bb, b3k N.bn, b3k1, hne, q⟩
theorem binR {Z : VK} {g : Int → Int → Int → Int → Int × Int} (N : Nums t b u c n) (k : Two C H m m2 p1 p2 p3 t b u c n) (hne : (g t b n 1).2 ≠ 0) (q : RetR C (low (g t b n 1).1 (g t b n 1).2) H Z) : rOwnR C (spBin C g) (.int n) (.ref m) H Z :=
  ⟨⟨n, rfl⟩, k.rm.own, m, .int n, t, b, n, 1, rfl, k.rm, .inl ⟨rfl, rfl⟩, b3k N.bt, b3k N.bb, b3k N.bn, b3k1, hne, q⟩
theorem s2 {Z : VK} {g : Int → Int → Int → Int → Int × Int} {r r2 : Addr} {t b u c : Int} (h1 : PtI H r (t, b)) (h2 : PtI H r2 (u, c)) (bt : Bt 140 t) (bb : Bt 140 b) (bu : Bt 140 u) (bc : Bt 140 c) (hne : (g t b u c).2 ≠ 0) (q : RetP (low (g t b u c).1 (g t b u c).2) H Z) : spS2 g [.ref r, .ref r2] H Z E0 :=
  ⟨r, r2, (t, b), (u, c), rfl, h1, h2, b3k bt, b3k bb, b3k bu, b3k bc, hne, q⟩
theorem cmp2 {Z : VK} {g : Int → Int → Int → Int → Bool} {m m2 : Addr} {t b u c : Int} (h1 : Rt C H m t b) (h2 : Rt C H m2 u c) (bt : Bt 140 t) (bb : Bt 140 b) (bu : Bt 140 u) (bc : Bt 140 c) (q : RetV (.bl (g t b u c)) H Z) : spCmp C g [.ref m, .ref m2] H Z E0 :=
  ⟨m, .ref m2, t, b, u, c, rfl, h1, .inr ⟨m2, rfl, h2⟩, b3k bt, b3k bb, b3k bu, b3k bc, q⟩
theorem cmpN {Z : VK} {g : Int → Int → Int → Int → Bool} {m : Addr} {t b n : Int} (h1 : Rt C H m t b) (bt : Bt 140 t) (bb : Bt 140 b) (bn : Bt 140 n) (q : RetV (.bl (g t b n 1)) H Z) : spCmp C g [.ref m, .int n] H Z E0 :=
  ⟨m, .int n, t, b, n, 1, rfl, h1, .inl ⟨rfl, rfl⟩, b3k bt, b3k bb, b3k bn, b3k1, q⟩
theorem eq2 {Z : VK} {m m2 : Addr} {t b u c : Int} (h1 : Rt C H m t b) (h2 : Rt C H m2 u c) (q : RetV (.bl (decide (t = u ∧ b = c))) H Z) : rOwn C (spEqR C) (.ref m) (.ref m2) H Z :=
  ⟨h1.own, .inr h2.own, m, .ref m2, t, b, rfl, h1, .inr ⟨m2, u, c, rfl, h2, q⟩⟩
theorem eqN {Z : VK} {m : Addr} {t b n : Int} (h1 : Rt C H m t b) (q : RetV (.bl false) H Z) : rOwn C (spEqR C) (.ref m) (.int n) H Z :=
  ⟨h1.own, .inl ⟨n, rfl⟩, m, .int n, t, b, rfl, h1, .inl ⟨n, rfl, q⟩⟩
theorem eqNR {Z : VK} {m : Addr} {t b n : Int} (h1 : Rt C H m t b) (q : RetV (.bl false) H Z) : rOwnR C (spEqR C) (.int n) (.ref m) H Z :=
  ⟨⟨n, rfl⟩, h1.own, m, .int n, t, b, rfl, h1, .inl ⟨n, rfl, q⟩⟩
theorem ne2 {Z : VK} {m m2 : Addr} {t b u c : Int} (h1 : Rt C H m t b) (h2 : Rt C H m2 u c) (q : RetV (.bl (!decide (t = u ∧ b = c))) H Z) : IsOwn C H (.ref m) ∧ IsOwn C H (.ref m2) ∧ spEqR C [.ref m, .ref m2] H (fun v H' => ∃ k, v = .bl k ∧ Z (.bl (!k)) H') E0 :=
  ⟨h1.own, h2.own, m, .ref m2, t, b, rfl, h1, .inr ⟨m2, u, c, rfl, h2, fun H' e => ⟨_, rfl, q H' e⟩⟩⟩
theorem itt {P Q : Prop} (h : P) : if true = true then P else Q := by rw [if_pos rfl]; exact h
theorem less_sub (t b u c : Int) : gLess t b u c = gSub t b u c := by
  unfold gLess gSub gAdd
  simp only [Int.sub_mul, Int.zero_mul, Int.zero_sub, Int.sub_eq_add_neg, Int.zero_add, Int.neg_mul]
theorem less_rsub (t b n : Int) : gLess n 1 t b = gSubR t b n 1 := by
  unfold gLess gSubR gAdd
  simp only [Int.mul_one, Int.one_mul, Int.sub_eq_add_neg, Int.zero_add]
theorem paired_app {α β : Type} {F : α → β → Prop} : ∀ {as as2 : List α} {bs bs2 : List β}, Paired F as bs → Paired F as2 bs2 → Paired F (as ++ as2) (bs ++ bs2)
  | _, _, _, _, .nil, q => q
  | _, _, _, _, .cons h t, q => .cons h (paired_app t q)
theorem Rt.v {p : Int × Int} {a : Addr} (h : Rt C H a p.1 p.2) : RtV C p (.ref a) H := ⟨a, rfl, h⟩
theorem RtV.up {p : Int × Int} {v : V} (h : RtV C p v H) (e : Ex H H1) : RtV C p v H1 := by
  obtain ⟨r, h1, h2⟩ := h
  exact ⟨r, h1, h2.up e⟩
end
theorem pt_ap {H : Hp} {D r : Addr} {acc acc' : List V} {p : Int × Int} (hD : H D = some (.lst acc)) (h : PtI H r p) : PtI (upd H D (.lst acc')) r p := by
  unfold PtI at *
  have : r ≠ D := fun z => by rw [z, hD] at h; cases h
  rw [upd_ne this]; exact h
theorem ls_1 (t b u : Int) : t + (0 - u) * b = t - u * b := by rw [Int.sub_mul, Int.zero_mul]; omega
theorem ls_2 (b : Int) : 1 * b = b * 1 := Int.mul_comm _ _
theorem five (t b u c : Int) : [decide (t * c < u * b), decide (u * b < t * c), decide (t * c ≤ u * b), decide (t = u ∧ b = c), !decide (t = u ∧ b = c)] = [decide (t * c < u * b), decide (t * c > u * b), !decide (t * c > u * b), decide ((t, b) = (u, c)), !decide ((t, b) = (u, c))] := by
  have e1 : decide (t * c ≤ u * b) = !decide (t * c > u * b) := by
    rw [← decide_not]
    exact decide_eq_decide.mpr (by omega)
  have e2 : decide ((t, b) = (u, c)) = decide (t = u ∧ b = c) := decide_eq_decide.mpr (by simp)
  rw [e1, e2]
section
variable {C : Addr} {H : Hp} {m m2 p1 p2 p3 : Addr} {t b u c n : Int}
theorem po2 {Z : VK} (N : Nums t b u c n) (k : Two C H m m2 p1 p2 p3 t b u c n) (hne : b * u ≠ 0) (q : RetR C (low (t * c) (b * u)) H Z) : spBin C gOver [.ref m, .ref m2] H Z E0 :=
  ⟨m, .ref m2, t, b, u, c, rfl, k.rm, .inr ⟨m2, rfl, k.rm2⟩, b3k N.bt, b3k N.bb, b3k N.bu, b3k N.bc, hne, q⟩
theorem poN {Z : VK} (N : Nums t b u c n) (k : Two C H m m2 p1 p2 p3 t b u c n) (hne : b * n ≠ 0) (q : RetR C (low (t * 1) (b * n)) H Z) : spBin C gOver [.ref m, .int n] H Z E0 :=
  ⟨m, .int n, t, b, n, 1, rfl, k.rm, .inl ⟨rfl, rfl⟩, b3k N.bt, b3k N.bb, b3k N.bn, b3k1, hne, q⟩
end
section
variable {P : Program} {w : World} {K : PySem.W.Frag} {mg : Str → Option Value} {base : Heap} {f C : Addr} {fd : FuncData}
theorem sc__law_two_right : FnScope ["raw", "other_raw", "number", "made", "mate", "one", "two", "whole", "told", "due", "below", "above"] ["raw", "other_raw", "number"] (defScope (top 34)) := ⟨rfl, rfl, rfl, by decide +kernel, rfl, by decide +kernel, by decide +kernel⟩
theorem ok_law_two (F : Fun K "_law_two_right" "_law_two_right" (top 34) f fd) (R : RCl K mg C) (T : Tx mg) (MR : MkR P w K mg base C) (C__law_low : ClO P w K mg base "_law_low" 1 ["top", "bottom"] spLow) (C__law_pair : ClO P w K mg base "_law_pair" 3 ["value"] (spPairOf C)) (C__law_pairs : ClO P w K mg base "_law_pairs" 4 ["value"] (spPairs C)) (C__law_sum : ClO P w K mg base "_law_sum" 2 ["one", "other"] (spS2 gAdd)) (C__law_by : ClO P w K mg base "_law_by" 2 ["one", "other"] (spS2 gMul)) (C__law_over : ClO P w K mg base "_law_over" 2 ["one", "other"] (spS2 gOver)) (C__law_less : ClO P w K mg base "_law_less" 3 ["one", "other"] (spS2 gLess))
    (O_add : OpB P w K mg base C "add" gAdd gAdd) (O_sub : OpB P w K mg base C "sub" gSub gSubR) (O_mul : OpB P w K mg base C "mul" gMul gMul) (M_over : MeB P w K mg base C "over" 4 ["self", "other"] (spBin C gOver)) (MK_over : MeK P w K mg base C "over" "other" 4 ["self", "other"] (spBin C gOver))
    (M_is_below : MeB P w K mg base C "is_below" 4 ["self", "other"] (spCmp C fun t b t2 b2 => decide (t * b2 < t2 * b))) (M_is_at_most : MeB P w K mg base C "is_at_most" 4 ["self", "other"] (spCmp C fun t b t2 b2 => decide (t * b2 ≤ t2 * b))) (EB : EqB P w K mg base C) : FnG P w K mg base 8 f fd ["raw", "other_raw", "number"] spTwo := by
  have sc := sc__law_two_right
  refine okG F sc (fun vs H Q E h => ?_) (fun cdv A outer s H vs Q gd0 hr h => ?_)
  · obtain ⟨_, _, _, _, _, rfl, _⟩ := h; rfl
  have gd := deeper_guards (env := envOfC "_law_two_right" (defScope (top 34)) s.heap.objs.size f cdv) gd0
  obtain ⟨r, r2, n, ⟨z1, z2⟩, ⟨y1, y2⟩, rfl, hr1, hr2, nz, ny, bz1, bz2, by1, by2, bn, q⟩ := h
  dsimp only at nz ny bz1 bz2 by1 by2
  have lbz := low_bt bz1 bz2 nz
  have lpz := low_pos (a := z1) nz
  have lgz := low_gcd (a := z1) nz
  have lby := low_bt by1 by2 ny
  have lpy := low_pos (a := y1) ny
  have lgy := low_gcd (a := y1) ny
  refine ⟨_, (pss_cut (ps_par (i := 3) (j := 4) rfl sc.nd rfl rfl (by decide) rfl rfl (pa_cons (pe_rat2 MR (hr.mono (by first | decide | omega)) (pa_cons (pe_ix ix_tup (pv 0) pe_int (fun _ _ => rfl)) (pa_cons (pe_ix ix_tup (pv 0) pe_int (fun _ _ => rfl)) pa_nil))) (pa_cons (pe_rat2 MR (hr.mono (by first | decide | omega)) (pa_cons (pe_ix ix_tup (pv 1) pe_int (fun _ _ => rfl)) (pa_cons (pe_ix ix_tup (pv 1) pe_int (fun _ _ => rfl)) pa_nil))) pa_nil)) rfl) (pss_cut (ps_par3 (i := 5) (j := 6) (l := 7) rfl sc.nd rfl rfl rfl (by decide) (by decide) (by decide) rfl rfl rfl (pa_cons (pe_clo C__law_low (hr.mono (by first | decide | omega)) (pa_cons (pe_ix ix_tup (pv 0) pe_int (fun _ _ => rfl)) (pa_cons (pe_ix ix_tup (pv 0) pe_int (fun _ _ => rfl)) pa_nil))) (pa_cons (pe_clo C__law_low (hr.mono (by first | decide | omega)) (pa_cons (pe_ix ix_tup (pv 1) pe_int (fun _ _ => rfl)) (pa_cons (pe_ix ix_tup (pv 1) pe_int (fun _ _ => rfl)) pa_nil))) (pa_cons (pe_tup (pa_cons (pv 2) (pa_cons pe_int pa_nil))) pa_nil))) rfl) (pss_cut (ps_set (i := 8) sc.nd rfl (Or.inl rfl) (pe_lst (pa_cons (pe_op (opL_add O_add (hr.mono (by first | decide | omega))) (pv 3) (pv 4)) (pa_cons (pe_op (opL_sub O_sub (hr.mono (by first | decide | omega))) (pv 3) (pv 4)) (pa_cons (pe_op (opL_mul O_mul (hr.mono (by first | decide | omega))) (pv 3) (pv 4)) (pa_cons (pe_op (opL_add O_add (hr.mono (by first | decide | omega))) (pv 3) (pv 2)) (pa_cons (pe_op (opR_add O_add (hr.mono (by first | decide | omega))) (pv 2) (pv 3)) (pa_cons (pe_op (opL_mul O_mul (hr.mono (by first | decide | omega))) (pv 3) (pv 2)) (pa_cons (pe_op (opR_mul O_mul (hr.mono (by first | decide | omega))) (pv 2) (pv 3)) pa_nil))))))))) (pss_cut (ps_expr (pe_bm PySem.F.plainAttrs_list PySem.F.slot_list_extend PySem.F.type_list_extend mt_extend (pv 8) (pa_cons (pe_lst (pa_cons (pe_op (opR_sub O_sub (hr.mono (by first | decide | omega))) (pv 2) (pv 3)) (pa_cons (pe_op (opL_sub O_sub (hr.mono (by first | decide | omega))) (pv 3) (pv 2)) pa_nil))) pa_nil))) (pss_cut (ps_set (i := 9) sc.nd rfl (Or.inl rfl) (pe_lst (pa_cons (pe_clo C__law_sum (hr.mono (by first | decide | omega)) (pa_cons (pv 5) (pa_cons (pv 6) pa_nil))) (pa_cons (pe_clo C__law_less (hr.mono (by first | decide | omega)) (pa_cons (pv 5) (pa_cons (pv 6) pa_nil))) (pa_cons (pe_clo C__law_by (hr.mono (by first | decide | omega)) (pa_cons (pv 5) (pa_cons (pv 6) pa_nil))) (pa_cons (pe_clo C__law_sum (hr.mono (by first | decide | omega)) (pa_cons (pv 5) (pa_cons (pv 7) pa_nil))) (pa_cons (pe_clo C__law_sum (hr.mono (by first | decide | omega)) (pa_cons (pv 5) (pa_cons (pv 7) pa_nil))) pa_nil))))))) (pss_cut (ps_expr (pe_bm PySem.F.plainAttrs_list PySem.F.slot_list_extend PySem.F.type_list_extend mt_extend (pv 9) (pa_cons (pe_lst (pa_cons (pe_clo C__law_by (hr.mono (by first | decide | omega)) (pa_cons (pv 5) (pa_cons (pv 7) pa_nil))) (pa_cons (pe_clo C__law_by (hr.mono (by first | decide | omega)) (pa_cons (pv 5) (pa_cons (pv 7) pa_nil))) (pa_cons (pe_clo C__law_less (hr.mono (by first | decide | omega)) (pa_cons (pv 7) (pa_cons (pv 5) pa_nil))) (pa_cons (pe_clo C__law_less (hr.mono (by first | decide | omega)) (pa_cons (pv 5) (pa_cons (pv 7) pa_nil))) pa_nil))))) pa_nil))) (pss_cut (ps_if (pt_cmpR (op_neD hr.units) (pe_clo C__law_pairs (hr.mono (by first | decide | omega)) (pa_cons (pv 8) pa_nil)) (pv 9) (nomark _)) (pss_one (ps_ret pe_bl)) pss_nil) (pss_cut (ps_if (PW.pt (pw_and (pt_cmpR op_ne (pe_ix ix_tup (pv 6) pe_int (fun _ _ => rfl)) pe_int (nomark _)) (pw_and1 (pt_cmpR (op_neD hr.units) (pe_lst (pa_cons (pe_clo C__law_pair (hr.mono (by first | decide | omega)) (pa_cons (pe_me M_over R.cl (hr.mono (by first | decide | omega)) (pv 3) (pa_cons (pv 4) pa_nil)) pa_nil)) (pa_cons (pe_clo C__law_pair (hr.mono (by first | decide | omega)) (pa_cons (pe_meK MK_over R.cl (hr.mono (by first | decide | omega)) (pv 3) (pk_cons (pv 4) pk_nil)) pa_nil)) pa_nil))) (pe_op op_rep (pe_lst (pa_cons (pe_clo C__law_over (hr.mono (by first | decide | omega)) (pa_cons (pv 5) (pa_cons (pv 6) pa_nil))) pa_nil)) pe_int) (nomark _))))) (pss_one (ps_ret pe_bl)) pss_nil) (pss_cut (ps_if (PW.pt (pw_and (pt_cmpR op_ne (pv 2) pe_int (nomark _)) (pw_and1 (pt_cmpR (op_neD hr.units) (pe_clo C__law_pair (hr.mono (by first | decide | omega)) (pa_cons (pe_me M_over R.cl (hr.mono (by first | decide | omega)) (pv 3) (pa_cons (pv 2) pa_nil)) pa_nil)) (pe_clo C__law_over (hr.mono (by first | decide | omega)) (pa_cons (pv 5) (pa_cons (pv 7) pa_nil))) (nomark _))))) (pss_one (ps_ret pe_bl)) pss_nil) (pss_cut (ps_set (i := 10) sc.nd rfl (Or.inl rfl) (pe_cmpR op_lt (pe_op op_mulW (pe_ix ix_tup (pv 5) pe_int (fun _ _ => rfl)) (pe_ix ix_tup (pv 6) pe_int (fun _ _ => rfl))) (pe_op op_mulW (pe_ix ix_tup (pv 6) pe_int (fun _ _ => rfl)) (pe_ix ix_tup (pv 5) pe_int (fun _ _ => rfl))) (nomark _))) (pss_cut (ps_set (i := 8) sc.nd rfl (Or.inl rfl) (pe_lst (pa_cons (pe_me M_is_below R.cl (hr.mono (by first | decide | omega)) (pv 3) (pa_cons (pv 4) pa_nil)) (pa_cons (pe_me M_is_below R.cl (hr.mono (by first | decide | omega)) (pv 4) (pa_cons (pv 3) pa_nil)) (pa_cons (pe_me M_is_at_most R.cl (hr.mono (by first | decide | omega)) (pv 3) (pa_cons (pv 4) pa_nil)) (pa_cons (pe_cmpR (eqO EB (hr.mono (by first | decide | omega))) (pv 3) (pv 4) (nomark _)) (pa_cons (pe_cmpR (neO EB (hr.mono (by first | decide | omega))) (pv 3) (pv 4) (nomark _)) pa_nil))))))) (pss_cut (ps_set (i := 11) sc.nd rfl (Or.inl rfl) (pe_cmpR op_gt (pe_op op_mulW (pe_ix ix_tup (pv 5) pe_int (fun _ _ => rfl)) (pe_ix ix_tup (pv 6) pe_int (fun _ _ => rfl))) (pe_op op_mulW (pe_ix ix_tup (pv 6) pe_int (fun _ _ => rfl)) (pe_ix ix_tup (pv 5) pe_int (fun _ _ => rfl))) (nomark _))) (pss_cut (ps_if (pt_cmpR (op_neD hr.units) (pv 8) (pe_lst (pa_cons (pv 10) (pa_cons (pv 11) (pa_cons (pe_not (pv 11)) (pa_cons (pe_cmpR (op_eqD hr.units) (pv 5) (pv 6) (nomark _)) (pa_cons (pe_cmpR (op_neD hr.units) (pv 5) (pv 6) (nomark _)) pa_nil)))))) (nomark _)) (pss_one (ps_ret pe_bl)) pss_nil) (pss_cut (ps_set (i := 8) sc.nd rfl (Or.inl rfl) (pe_lst (pa_cons (pe_me M_is_below R.cl (hr.mono (by first | decide | omega)) (pv 3) (pa_cons (pv 2) pa_nil)) (pa_cons (pe_me M_is_at_most R.cl (hr.mono (by first | decide | omega)) (pv 3) (pa_cons (pv 2) pa_nil)) (pa_cons (pe_cmpR (eqO EB (hr.mono (by first | decide | omega))) (pv 3) (pv 2) (nomark _)) (pa_cons (pe_cmpR (eqRO EB (hr.mono (by first | decide | omega))) (pv 2) (pv 3) (nomark _)) pa_nil)))))) (pss_one (ps_ret (pe_cmpR (op_eqD hr.units) (pv 8) (pe_lst (pa_cons (pe_cmpR op_lt (pe_ix ix_tup (pv 5) pe_int (fun _ _ => rfl)) (pe_op op_mulW (pv 2) (pe_ix ix_tup (pv 5) pe_int (fun _ _ => rfl))) (nomark _)) (pa_cons (pe_cmpR op_le (pe_ix ix_tup (pv 5) pe_int (fun _ _ => rfl)) (pe_op op_mulW (pv 2) (pe_ix ix_tup (pv 5) pe_int (fun _ _ => rfl))) (nomark _)) (pa_cons pe_bl (pa_cons pe_bl pa_nil))))) (nomark _)))))))))))))))))), ?_⟩
  generalize hlz : low z1 z2 = pz at *
  obtain ⟨t, b⟩ := pz
  generalize hly : low y1 y2 = py at *
  obtain ⟨u, c⟩ := py
  dsimp only at lbz lpz lgz lby lpy lgy
  have N : Nums t b u c n := ⟨lbz.1, lbz.2, lby.1, lby.2, bn, lpz, lpy, lgz, lgy⟩
  have sl : sizeLine = 16777216 := sizeLine_eq
  have hbc : b * c ≠ 0 := by
    have := Int.mul_pos lpz lpy
    omega
  have hb1 : b * 1 ≠ 0 := by omega
  have h1b : 1 * b ≠ 0 := by omega
  have bi1 : Bt 140 1 := by unfold Bt; decide +kernel
  refine ⟨fun σ' H' => ∃ m m2, σ' = [some (.ref r), some (.ref r2), some (.int n), some (.ref m), some (.ref m2), none, none, none, none, none, none, none] ∧ Ex H H' ∧ Rt C H' m t b ∧ Rt C H' m2 u c, ?_, ?_⟩
  · refine ⟨_, rfl, r, _, 0, .int z1, rfl, rfl, st_of hr1, rfl, _, rfl, r, _, 1, .int z2, rfl, rfl, st_of hr1, rfl, fun x dx hx hd ne => ?_⟩
    refine made_z hx hd ne nz (bz1.mono (by decide)) (bz2.mono (by decide)) fun H1 e1 r1 => ⟨rfl, ?_⟩
    rw [hlz] at r1
    refine ⟨_, rfl, r2, _, 0, .int y1, rfl, rfl, st_of (hr2.up e1), rfl, _, rfl, r2, _, 1, .int y2, rfl, rfl, st_of (hr2.up e1), rfl, fun x2 dx2 hx2 hd2 ne2 => ?_⟩
    refine made_z hx2 hd2 ne2 ny (by1.mono (by decide)) (by2.mono (by decide)) fun H2 e2 r2' => ⟨rfl, ?_⟩
    rw [hly] at r2'
    exact ⟨_, _, rfl, x, x2, rfl, e1.trans e2, r1.up e2, r2'⟩
  rintro σ' H1 ⟨m, m2, rfl, e1, rm, rm2⟩
  replace hr1 := hr1.up e1
  replace hr2 := hr2.up e1
  refine ⟨fun σ' H' => ∃ p1 p2 p3, σ' = [some (.ref r), some (.ref r2), some (.int n), some (.ref m), some (.ref m2), some (.ref p1), some (.ref p2), some (.ref p3), none, none, none, none] ∧ Ex H H' ∧ Two C H' m m2 p1 p2 p3 t b u c n, ?_, ?_⟩
  · refine ⟨_, rfl, r, _, 0, .int z1, rfl, rfl, st_of hr1, rfl, _, rfl, r, _, 1, .int z2, rfl, rfl, st_of hr1, rfl, z1, z2, rfl, nz, bz2.mono (by decide), fun p1 H2 h2 e2 q1 => ?_⟩
    rw [hlz] at q1
    refine ⟨_, rfl, r2, _, 0, .int y1, rfl, rfl, st_of (hr2.up e2), rfl, _, rfl, r2, _, 1, .int y2, rfl, rfl, st_of (hr2.up e2), rfl, y1, y2, rfl, ny, by2.mono (by decide), fun p2 H3 h3 e3 q2 => ?_⟩
    rw [hly] at q2
    refine ⟨_, rfl, (by show 2 ≤ sizeLine; decide), fun p3 h4 => ?_⟩
    have x4 := Ex.new (o := .tup [.int n, .int 1]) h4
    have e := e2.trans (e3.trans x4)
    exact ⟨_, _, _, rfl, p1, p2, p3, rfl, e1.trans e, rm.up e, rm2.up e, q1.up (e3.trans x4), q2.up x4, upd_same⟩
  rintro σ' Hb ⟨p1, p2, p3, rfl, e0, k⟩
  clear hr1 hr2 rm rm2 e1 H1
  refine ⟨fun σ' H' => ∃ l xs, σ' = [some (.ref r), some (.ref r2), some (.int n), some (.ref m), some (.ref m2), some (.ref p1), some (.ref p2), some (.ref p3), some (.ref l), none, none, none] ∧ Hb l = none ∧ Ex Hb H' ∧ H' l = some (.lst xs) ∧ xs.length = 7 ∧ Paired (fun (p : Int × Int) v => RtV C p v H') [low (t * c + u * b) (b * c), low (t * c - u * b) (b * c), low (t * u) (b * c), low (t * 1 + n * b) (b * 1), low (t * 1 + n * b) (b * 1), low (t * n) (b * 1), low (t * n) (b * 1)] xs, ?_, ?_⟩
  · skip
    refine ⟨_, rfl, _, rfl, bin2 N (k.up (Ex.refl _)) (g := gAdd) hbc fun x2 H2 h2 e2 r2 => ?_⟩
    refine ⟨_, rfl, _, rfl, bin2 N (k.up e2) (g := gSub) hbc fun x3 H3 h3 e3 r3 => ?_⟩
    refine ⟨_, rfl, _, rfl, bin2 N (k.up (e2.trans e3)) (g := gMul) hbc fun x4 H4 h4 e4 r4 => ?_⟩
    refine ⟨_, rfl, _, rfl, binN N (k.up (e2.trans (e3.trans e4))) (g := gAdd) hb1 fun x5 H5 h5 e5 r5 => ?_⟩
    refine ⟨_, rfl, _, rfl, binR N (k.up (e2.trans (e3.trans (e4.trans e5)))) (g := gAdd) hb1 fun x6 H6 h6 e6 r6 => ?_⟩
    refine ⟨_, rfl, _, rfl, binN N (k.up (e2.trans (e3.trans (e4.trans (e5.trans e6))))) (g := gMul) hb1 fun x7 H7 h7 e7 r7 => ?_⟩
    refine ⟨_, rfl, _, rfl, binR N (k.up (e2.trans (e3.trans (e4.trans (e5.trans (e6.trans e7)))))) (g := gMul) hb1 fun x8 H8 h8 e8 r8 => ?_⟩
    refine ⟨(by show 7 ≤ sizeLine; decide), fun l hl => ?_⟩
    have xl := Ex.new (o := .lst [.ref x2, .ref x3, .ref x4, .ref x5, .ref x6, .ref x7, .ref x8]) hl
    exact ⟨l, _, rfl, fresh_back (e2.trans (e3.trans (e4.trans (e5.trans (e6.trans (e7.trans e8)))))) hl, (e2.trans (e3.trans (e4.trans (e5.trans (e6.trans (e7.trans (e8.trans xl))))))), upd_same, rfl, .cons (r2.up (e3.trans (e4.trans (e5.trans (e6.trans (e7.trans (e8.trans xl))))))).v <| .cons (r3.up (e4.trans (e5.trans (e6.trans (e7.trans (e8.trans xl)))))).v <| .cons (r4.up (e5.trans (e6.trans (e7.trans (e8.trans xl))))).v <| .cons (r5.up (e6.trans (e7.trans (e8.trans xl)))).v <| .cons (r6.up (e7.trans (e8.trans xl))).v <| .cons (r7.up (e8.trans xl)).v <| .cons (r8.up xl).v <| .nil⟩
  rintro σ' H2 ⟨l, xs, rfl, hl0, e2, hl, h7, hp⟩
  refine ⟨fun σ' H' => ∃ xs, σ' = [some (.ref r), some (.ref r2), some (.int n), some (.ref m), some (.ref m2), some (.ref p1), some (.ref p2), some (.ref p3), some (.ref l), none, none, none] ∧ Ex Hb H' ∧ H' l = some (.lst xs) ∧ Paired (fun (p : Int × Int) v => RtV C p v H') [low (t * c + u * b) (b * c), low (t * c - u * b) (b * c), low (t * u) (b * c), low (t * 1 + n * b) (b * 1), low (t * 1 + n * b) (b * 1), low (t * n) (b * 1), low (t * n) (b * 1), low (n * b - t * 1) (b * 1), low (t * 1 - n * b) (b * 1)] xs, ?_, ?_⟩
  · refine ⟨_, rfl, .inl ⟨rfl, xs, sq_of hl⟩, ?_⟩
    refine ⟨_, rfl, _, rfl, binR N (k.up e2) (g := gSubR) hb1 fun x2 H3 h3 e3 r2 => ?_⟩
    refine ⟨_, rfl, _, rfl, binN N (k.up (e2.trans e3)) (g := gSub) hb1 fun x3 H4 h4 e4 r3 => ?_⟩
    refine ⟨(by show 2 ≤ sizeLine; decide), fun l2 hl2 => ?_⟩
    have xl := Ex.new (o := .lst [.ref x2, .ref x3]) hl2
    have e := e3.trans (e4.trans xl)
    have hl' := e _ _ hl
    refine ⟨l, l2, xs, _, rfl, rfl, hl', upd_same, (by rw [h7]; show 9 ≤ sizeLine; decide), _, rfl, (e2.trans e).mut hl0, upd_same, ?_⟩
    exact Paired.mapP (paired_app (Paired.mapP hp fun _ _ h => h.up e) (.cons (r2.up (e4.trans xl)).v <| .cons (r3.up xl).v .nil)) fun y v h => Stab.rt.ap y v _ _ _ _ hl' h
  rintro σ' H3 ⟨ys, rfl, e3, hl3, hp3⟩
  clear hl hp h7 e2 xs H2
  refine ⟨fun σ' H' => ∃ d rs, σ' = [some (.ref r), some (.ref r2), some (.int n), some (.ref m), some (.ref m2), some (.ref p1), some (.ref p2), some (.ref p3), some (.ref l), some (.ref d), none, none] ∧ Hb d = none ∧ d ≠ l ∧ Ex Hb H' ∧ H' l = some (.lst ys) ∧ Paired (fun (p : Int × Int) v => RtV C p v H') [low (t * c + u * b) (b * c), low (t * c - u * b) (b * c), low (t * u) (b * c), low (t * 1 + n * b) (b * 1), low (t * 1 + n * b) (b * 1), low (t * n) (b * 1), low (t * n) (b * 1), low (n * b - t * 1) (b * 1), low (t * 1 - n * b) (b * 1)] ys ∧ H' d = some (.lst (rs.map V.ref)) ∧ rs.length = 5 ∧ Paired (PtI H') rs [low (t * c + u * b) (b * c), low (t * c + (0 - u) * b) (b * c), low (t * u) (b * c), low (t * 1 + n * b) (b * 1), low (t * 1 + n * b) (b * 1)], ?_, ?_⟩
  · skip
    refine ⟨_, rfl, _, rfl, s2 (k.up e3).k1 (k.up e3).k2 N.bt N.bb N.bu N.bc (g := gAdd) hbc fun x12 H12 h12 e12 r12 => ?_⟩
    refine ⟨_, rfl, _, rfl, s2 (k.up (e3.trans e12)).k1 (k.up (e3.trans e12)).k2 N.bt N.bb N.bu N.bc (g := gLess) hbc fun x13 H13 h13 e13 r13 => ?_⟩
    refine ⟨_, rfl, _, rfl, s2 (k.up (e3.trans (e12.trans e13))).k1 (k.up (e3.trans (e12.trans e13))).k2 N.bt N.bb N.bu N.bc (g := gMul) hbc fun x14 H14 h14 e14 r14 => ?_⟩
    refine ⟨_, rfl, _, rfl, s2 (k.up (e3.trans (e12.trans (e13.trans e14)))).k1 (k.up (e3.trans (e12.trans (e13.trans e14)))).k3 N.bt N.bb N.bn bi1 (g := gAdd) hb1 fun x15 H15 h15 e15 r15 => ?_⟩
    refine ⟨_, rfl, _, rfl, s2 (k.up (e3.trans (e12.trans (e13.trans (e14.trans e15))))).k1 (k.up (e3.trans (e12.trans (e13.trans (e14.trans e15))))).k3 N.bt N.bb N.bn bi1 (g := gAdd) hb1 fun x16 H16 h16 e16 r16 => ?_⟩
    refine ⟨(by show 5 ≤ sizeLine; decide), fun d hd => ?_⟩
    have xl := Ex.new (o := .lst [.ref x12, .ref x13, .ref x14, .ref x15, .ref x16]) hd
    have e := (e12.trans (e13.trans (e14.trans (e15.trans (e16.trans xl)))))
    refine ⟨d, [x12, x13, x14, x15, x16], rfl, fresh_back (e3.trans (e12.trans (e13.trans (e14.trans (e15.trans e16))))) hd, fun z => ?_, e3.trans e, e _ _ hl3, Paired.mapP hp3 fun _ _ h => h.up e, upd_same, rfl, .cons (r12.up (e13.trans (e14.trans (e15.trans (e16.trans xl))))) <| .cons (r13.up (e14.trans (e15.trans (e16.trans xl)))) <| .cons (r14.up (e15.trans (e16.trans xl))) <| .cons (r15.up (e16.trans xl)) <| .cons (r16.up xl) <| .nil⟩
    rw [z, (e12.trans (e13.trans (e14.trans (e15.trans e16)))) _ _ hl3] at hd
    cases hd
  rintro σ' H4 ⟨d, rs, rfl, hd0, ndl, e4, hl4, hp4, hd, h5, hq⟩
  clear hl3 hp3 e3 H3
  refine ⟨fun σ' H' => ∃ rs, σ' = [some (.ref r), some (.ref r2), some (.int n), some (.ref m), some (.ref m2), some (.ref p1), some (.ref p2), some (.ref p3), some (.ref l), some (.ref d), none, none] ∧ Ex Hb H' ∧ H' l = some (.lst ys) ∧ Paired (fun (p : Int × Int) v => RtV C p v H') [low (t * c + u * b) (b * c), low (t * c - u * b) (b * c), low (t * u) (b * c), low (t * 1 + n * b) (b * 1), low (t * 1 + n * b) (b * 1), low (t * n) (b * 1), low (t * n) (b * 1), low (n * b - t * 1) (b * 1), low (t * 1 - n * b) (b * 1)] ys ∧ H' d = some (.lst (rs.map V.ref)) ∧ Paired (PtI H') rs [low (t * c + u * b) (b * c), low (t * c + (0 - u) * b) (b * c), low (t * u) (b * c), low (t * 1 + n * b) (b * 1), low (t * 1 + n * b) (b * 1), low (t * n) (b * 1), low (t * n) (b * 1), low (n * b + (0 - t) * 1) (1 * b), low (t * 1 + (0 - n) * b) (b * 1)], ?_, ?_⟩
  · refine ⟨_, rfl, .inl ⟨rfl, _, sq_of hd⟩, ?_⟩
    refine ⟨_, rfl, _, rfl, s2 (k.up e4).k1 (k.up e4).k3 N.bt N.bb N.bn bi1 (g := gMul) hb1 fun x12 H12 h12 e12 r12 => ?_⟩
    refine ⟨_, rfl, _, rfl, s2 (k.up (e4.trans e12)).k1 (k.up (e4.trans e12)).k3 N.bt N.bb N.bn bi1 (g := gMul) hb1 fun x13 H13 h13 e13 r13 => ?_⟩
    refine ⟨_, rfl, _, rfl, s2 (k.up (e4.trans (e12.trans e13))).k3 (k.up (e4.trans (e12.trans e13))).k1 N.bn bi1 N.bt N.bb (g := gLess) h1b fun x14 H14 h14 e14 r14 => ?_⟩
    refine ⟨_, rfl, _, rfl, s2 (k.up (e4.trans (e12.trans (e13.trans e14)))).k1 (k.up (e4.trans (e12.trans (e13.trans e14)))).k3 N.bt N.bb N.bn bi1 (g := gLess) hb1 fun x15 H15 h15 e15 r15 => ?_⟩
    refine ⟨(by show 4 ≤ sizeLine; decide), fun l2 hl2 => ?_⟩
    have xl := Ex.new (o := .lst [.ref x12, .ref x13, .ref x14, .ref x15]) hl2
    have e := (e12.trans (e13.trans (e14.trans (e15.trans xl))))
    have hd' := e _ _ hd
    refine ⟨d, l2, rs.map V.ref, _, rfl, rfl, hd', upd_same, (by rw [List.length_map, h5]; show 9 ≤ sizeLine; decide), rs ++ [x12, x13, x14, x15], rfl, (e4.trans e).mut hd0, ?_, ?_, ?_, ?_⟩
    · rw [upd_ne (Ne.symm ndl)]
      exact e _ _ hl4
    · exact Paired.mapP (Paired.mapP hp4 fun _ _ h => h.up e) fun y v h => Stab.rt.ap y v _ _ _ _ hd' h
    · rw [upd_same, List.map_append]; rfl
    · exact Paired.mapP (paired_app (Paired.mapP hq fun _ _ h => PtI.up h e) (.cons (r12.up (e13.trans (e14.trans (e15.trans xl)))) <| .cons (r13.up (e14.trans (e15.trans xl))) <| .cons (r14.up (e15.trans xl)) <| .cons (r15.up xl) <| .nil)) fun y v h => pt_ap hd' h
  rintro σ' H5 ⟨rs', rfl, e5, hl5, hp5, hd5, hq5⟩
  clear hl4 hp4 e4 hd hq h5 rs H4
  rw [show ([low (t * c + u * b) (b * c), low (t * c + (0 - u) * b) (b * c), low (t * u) (b * c), low (t * 1 + n * b) (b * 1), low (t * 1 + n * b) (b * 1), low (t * n) (b * 1), low (t * n) (b * 1), low (n * b + (0 - t) * 1) (1 * b), low (t * 1 + (0 - n) * b) (b * 1)] : List (Int × Int)) = [low (t * c + u * b) (b * c), low (t * c - u * b) (b * c), low (t * u) (b * c), low (t * 1 + n * b) (b * 1), low (t * 1 + n * b) (b * 1), low (t * n) (b * 1), low (t * n) (b * 1), low (n * b - t * 1) (b * 1), low (t * 1 - n * b) (b * 1)] from by simp only [ls_1, ls_2]] at hq5
  refine ⟨fun σ' H' => σ' = [some (.ref r), some (.ref r2), some (.int n), some (.ref m), some (.ref m2), some (.ref p1), some (.ref p2), some (.ref p3), some (.ref l), some (.ref d), none, none] ∧ Ex Hb H', ?_, ?_⟩
  · refine ⟨_, rfl, l, ys, _, rfl, hl5, hp5, (by show 9 ≤ 100; decide), fun lp rs H6 h6 e6 k6 q6 => ?_⟩
    refine ⟨_, rfl, _, _, dp_plI k6 q6, dp_plI (e6 _ _ hd5) (Paired.mapP hq5 fun _ _ h => PtI.up h e6), psI_sh _, psI_sh _, ?_⟩
    rw [psI_eqv, decide_eq_true rfl]
    exact ⟨_, rfl, itf ⟨rfl, e5.trans e6⟩⟩
  rintro σ' H6 ⟨rfl, e6⟩
  replace k := k.up e6
  replace e0 := e0.trans e6
  clear hl5 hp5 hd5 hq5 e5 H5 hl0 hd0 ndl e6 rs' ys
  refine ⟨fun σ' H' => σ' = [some (.ref r), some (.ref r2), some (.int n), some (.ref m), some (.ref m2), some (.ref p1), some (.ref p2), some (.ref p3), some (.ref l), some (.ref d), none, none] ∧ Ex H6 H', ?_, ?_⟩
  · refine ⟨_, rfl, p2, _, 0, .int u, rfl, rfl, st_of k.k2, rfl, rfl, _, rfl, ?_⟩
    rw [dVI]
    by_cases u0 : u = 0
    · rw [decide_eq_true u0]
      exact itf (itf ⟨rfl, Ex.refl _⟩)
    rw [decide_eq_false u0]
    have hbu : b * u ≠ 0 := Int.mul_ne_zero (by omega) u0
    obtain ⟨dx, hm⟩ := k.rm
    refine itt ?_
    refine ⟨_, rfl, m, dx, _, rfl, hm, rf_no (by decide +kernel) (by decide +kernel), _, rfl, po2 N k hbu fun x1 H7 h7 e7 r7 => ?_⟩
    refine ⟨x1, _, _, rfl, r7, fun y1 H8 h8 e8 q8 => ?_⟩
    refine ⟨_, rfl, m, dx, _, rfl, (e7.trans e8) _ _ hm, rf_no (by decide +kernel) (by decide +kernel), _, rfl, _, rfl, po2 N (k.up (e7.trans e8)) hbu fun x2 H9 h9 e9 r9 => ?_⟩
    refine ⟨x2, _, _, rfl, r9, fun y2 Ha ha ea qa => ?_⟩
    refine ⟨(by show 2 ≤ sizeLine; decide), fun l3 hl3 => ?_⟩
    have x3 := Ex.new (o := .lst [.ref y1, .ref y2]) hl3
    have ek := e7.trans (e8.trans (e9.trans (ea.trans x3)))
    refine ⟨_, rfl, _, rfl, s2 (k.up ek).k1 (k.up ek).k2 N.bt N.bb N.bu N.bc (g := gOver) hbu fun x4 Hc hc ec q4 => ?_⟩
    refine ⟨(by show 1 ≤ sizeLine; decide), fun l4 hl4 => ?_⟩
    have x5 := Ex.new (o := .lst [.ref x4]) hl4
    refine ⟨l4, 2, [.ref x4], rfl, rfl, upd_same, by decide, by decide, by show 2 ≤ sizeLine; decide, fun l5 hl5 => ?_⟩
    have x6 := Ex.new (o := .lst [.ref x4, .ref x4]) hl5
    have e3 := ec.trans (x5.trans x6)
    refine ⟨_, _, dp_plI (rs := [y1, y2]) (l := [low (t * c) (b * u), low (t * c) (b * u)]) (e3 _ _ upd_same) (.cons (q8.up (e9.trans (ea.trans (x3.trans e3)))) <| .cons (qa.up (x3.trans e3)) .nil), dp_plI (rs := [x4, x4]) (l := [low (t * c) (b * u), low (t * c) (b * u)]) upd_same (.cons (q4.up (x5.trans x6)) <| .cons (q4.up (x5.trans x6)) .nil), psI_sh _, psI_sh _, ?_⟩
    rw [psI_eqv, decide_eq_true rfl]
    exact ⟨_, rfl, itf ⟨rfl, ek.trans e3⟩⟩
  rintro σ' H7 ⟨rfl, e7⟩
  replace k := k.up e7
  replace e0 := e0.trans e7
  clear e7 H6
  refine ⟨fun σ' H' => σ' = [some (.ref r), some (.ref r2), some (.int n), some (.ref m), some (.ref m2), some (.ref p1), some (.ref p2), some (.ref p3), some (.ref l), some (.ref d), none, none] ∧ Ex H7 H', ?_, ?_⟩
  · refine ⟨_, rfl, rfl, _, rfl, ?_⟩
    rw [dVI]
    by_cases n0 : n = 0
    · rw [decide_eq_true n0]
      exact itf (itf ⟨rfl, Ex.refl _⟩)
    rw [decide_eq_false n0]
    have hbn : b * n ≠ 0 := Int.mul_ne_zero (by omega) n0
    obtain ⟨dx, hm⟩ := k.rm
    refine itt ?_
    refine ⟨_, rfl, m, dx, _, rfl, hm, rf_no (by decide +kernel) (by decide +kernel), _, rfl, poN N k hbn fun x1 H8 h8 e8 r8 => ?_⟩
    refine ⟨x1, _, _, rfl, r8, fun y1 H9 h9 e9 q9 => ?_⟩
    have ek := e8.trans e9
    refine ⟨_, rfl, _, rfl, s2 (k.up ek).k1 (k.up ek).k3 N.bt N.bb N.bn bi1 (g := gOver) hbn fun x4 Hc hc ec q4 => ?_⟩
    refine ⟨_, _, dp_pI (p := low (t * 1) (b * n)) (q9.up ec), dp_pI (p := low (t * 1) (b * n)) q4, pI_sh _, pI_sh _, ?_⟩
    rw [pI_eqv, decide_eq_true rfl]
    exact ⟨_, rfl, itf ⟨rfl, ek.trans ec⟩⟩
  rintro σ' H8 ⟨rfl, e8⟩
  replace k := k.up e8
  replace e0 := e0.trans e8
  clear e8 H7
  refine ⟨fun σ' H' => σ' = [some (.ref r), some (.ref r2), some (.int n), some (.ref m), some (.ref m2), some (.ref p1), some (.ref p2), some (.ref p3), some (.ref l), some (.ref d), some (.bl (decide (t * c < u * b))), none] ∧ Ex H8 H', ?_, ?_⟩
  · exact ⟨_, rfl, p1, _, 0, .int t, rfl, rfl, st_of k.k1, rfl, _, rfl, p2, _, 1, .int c, rfl, rfl, st_of k.k2, rfl, _, _, rfl, rfl, mulOk N.bt N.bc (by decide) (by decide) (by decide), _, rfl, p2, _, 0, .int u, rfl, rfl, st_of k.k2, rfl, _, rfl, p1, _, 1, .int b, rfl, rfl, st_of k.k1, rfl, _, _, rfl, rfl, mulOk N.bu N.bb (by decide) (by decide) (by decide), _, _, rfl, rfl, rfl, Ex.refl _⟩
  rintro σ' H9 ⟨rfl, e9⟩
  replace k := k.up e9
  replace e0 := e0.trans e9
  clear e9 H8
  refine ⟨fun σ' H' => ∃ l2, σ' = [some (.ref r), some (.ref r2), some (.int n), some (.ref m), some (.ref m2), some (.ref p1), some (.ref p2), some (.ref p3), some (.ref l2), some (.ref d), some (.bl (decide (t * c < u * b))), none] ∧ Ex H9 H' ∧ H' l2 = some (.lst ([decide (t * c < u * b), decide (u * b < t * c), decide (t * c ≤ u * b), decide (t = u ∧ b = c), !decide (t = u ∧ b = c)].map V.bl)), ?_, ?_⟩
  · obtain ⟨dx, hm⟩ := k.rm
    obtain ⟨dx2, hm2⟩ := k.rm2
    refine ⟨_, rfl, m, dx, _, rfl, hm, rf_no (by decide +kernel) (by decide +kernel), _, rfl, cmp2 k.rm k.rm2 N.bt N.bb N.bu N.bc fun H1 e1 => ?_⟩
    refine ⟨_, rfl, m2, dx2, _, rfl, e1 _ _ hm2, rf_no (by decide +kernel) (by decide +kernel), _, rfl, cmp2 (k.rm2.up e1) (k.rm.up e1) N.bu N.bc N.bt N.bb fun H2 e2 => ?_⟩
    replace e2 := e1.trans e2
    refine ⟨_, rfl, m, dx, _, rfl, e2 _ _ hm, rf_no (by decide +kernel) (by decide +kernel), _, rfl, cmp2 (k.rm.up e2) (k.rm2.up e2) N.bt N.bb N.bu N.bc fun H3 e3 => ?_⟩
    replace e3 := e2.trans e3
    refine ⟨_, rfl, _, rfl, eq2 (k.rm.up e3) (k.rm2.up e3) fun H4 e4 => ?_⟩
    replace e4 := e3.trans e4
    refine ⟨_, rfl, _, rfl, (k.rm.up e4).own, (k.rm2.up e4).own, m, .ref m2, t, b, rfl, k.rm.up e4, .inr ⟨m2, u, c, rfl, k.rm2.up e4, fun H5 e5 => ⟨_, rfl, ?_⟩⟩⟩
    replace e5 := e4.trans e5
    refine ⟨(by show 5 ≤ sizeLine; decide), fun l2 hl2 => ?_⟩
    exact ⟨l2, rfl, e5.trans (Ex.new hl2), upd_same⟩
  rintro σ' Ha ⟨l2, rfl, ea, hl2⟩
  replace k := k.up ea
  replace e0 := e0.trans ea
  clear ea H9
  refine ⟨fun σ' H' => σ' = [some (.ref r), some (.ref r2), some (.int n), some (.ref m), some (.ref m2), some (.ref p1), some (.ref p2), some (.ref p3), some (.ref l2), some (.ref d), some (.bl (decide (t * c < u * b))), some (.bl (decide (t * c > u * b)))] ∧ H' = Ha, ?_, ?_⟩
  · exact ⟨_, rfl, p1, _, 0, .int t, rfl, rfl, st_of k.k1, rfl, _, rfl, p2, _, 1, .int c, rfl, rfl, st_of k.k2, rfl, _, _, rfl, rfl, mulOk N.bt N.bc (by decide) (by decide) (by decide), _, rfl, p2, _, 0, .int u, rfl, rfl, st_of k.k2, rfl, _, rfl, p1, _, 1, .int b, rfl, rfl, st_of k.k1, rfl, _, _, rfl, rfl, mulOk N.bu N.bb (by decide) (by decide) (by decide), _, _, rfl, rfl, rfl, rfl⟩
  rintro σ' H9 ⟨rfl, rfl⟩
  refine ⟨fun σ' H' => σ' = [some (.ref r), some (.ref r2), some (.int n), some (.ref m), some (.ref m2), some (.ref p1), some (.ref p2), some (.ref p3), some (.ref l2), some (.ref d), some (.bl (decide (t * c < u * b))), some (.bl (decide (t * c > u * b)))] ∧ Ex H9 H', ?_, ?_⟩
  · refine ⟨_, rfl, _, rfl, _, rfl, _, rfl, _, rfl, ?_⟩
    refine ⟨_, rfl, _, rfl, _, _, dp_pI k.k1, dp_pI k.k2, pI_sh _, pI_sh _, ?_⟩
    refine ⟨_, rfl, _, rfl, _, _, dp_pI k.k1, dp_pI k.k2, pI_sh _, pI_sh _, ?_⟩
    rw [pI_eqv]
    refine ⟨(by show 5 ≤ sizeLine; decide), fun l3 hl3 => ?_⟩
    have x3 := Ex.new (o := .lst ([decide (t * c < u * b), decide (t * c > u * b), !decide (t * c > u * b), decide ((t, b) = (u, c)), !decide ((t, b) = (u, c))].map V.bl)) hl3
    refine ⟨_, _, dp_bl (x3 _ _ hl2), dp_bl (l := [decide (t * c < u * b), decide (t * c > u * b), !decide (t * c > u * b), decide ((t, b) = (u, c)), !decide ((t, b) = (u, c))]) upd_same, bs_sh _, bs_sh _, ?_⟩
    rw [bs_eqv, decide_eq_true (five t b u c)]
    exact ⟨_, rfl, itf ⟨rfl, x3⟩⟩
  rintro σ' Ha ⟨rfl, ea⟩
  replace k := k.up ea
  replace e0 := e0.trans ea
  clear ea hl2 H9
  refine ⟨fun σ' H' => ∃ l4, σ' = [some (.ref r), some (.ref r2), some (.int n), some (.ref m), some (.ref m2), some (.ref p1), some (.ref p2), some (.ref p3), some (.ref l4), some (.ref d), some (.bl (decide (t * c < u * b))), some (.bl (decide (t * c > u * b)))] ∧ Ex Ha H' ∧ H' l4 = some (.lst ([decide (t * 1 < n * b), decide (t * 1 ≤ n * b), false, false].map V.bl)), ?_, ?_⟩
  · obtain ⟨dx, hm⟩ := k.rm
    refine ⟨_, rfl, m, dx, _, rfl, hm, rf_no (by decide +kernel) (by decide +kernel), _, rfl, cmpN k.rm N.bt N.bb N.bn fun H1 e1 => ?_⟩
    refine ⟨_, rfl, m, dx, _, rfl, e1 _ _ hm, rf_no (by decide +kernel) (by decide +kernel), _, rfl, cmpN (k.rm.up e1) N.bt N.bb N.bn fun H2 e2 => ?_⟩
    replace e2 := e1.trans e2
    refine ⟨_, rfl, _, rfl, eqN (k.rm.up e2) fun H3 e3 => ?_⟩
    replace e3 := e2.trans e3
    refine ⟨_, rfl, _, rfl, eqNR (k.rm.up e3) fun H4 e4 => ?_⟩
    replace e4 := e3.trans e4
    refine ⟨(by show 4 ≤ sizeLine; decide), fun l4 hl4 => ?_⟩
    exact ⟨l4, rfl, e4.trans (Ex.new hl4), upd_same⟩
  rintro σ' Hb2 ⟨l4, rfl, eb, hl4⟩
  replace k := k.up eb
  replace e0 := e0.trans eb
  refine ⟨_, rfl, _, rfl, p1, _, 0, .int t, rfl, rfl, st_of k.k1, rfl, _, rfl, _, rfl, p1, _, 1, .int b, rfl, rfl, st_of k.k1, rfl, _, _, rfl, rfl, mulOk N.bn N.bb (by decide) (by decide) (by decide), _, _, rfl, rfl, ?_⟩
  refine ⟨_, rfl, p1, _, 0, .int t, rfl, rfl, st_of k.k1, rfl, _, rfl, _, rfl, p1, _, 1, .int b, rfl, rfl, st_of k.k1, rfl, _, _, rfl, rfl, mulOk N.bn N.bb (by decide) (by decide) (by decide), _, _, rfl, rfl, ?_⟩
  refine ⟨(by show 4 ≤ sizeLine; decide), fun l5 hl5 => ?_⟩
  have x5 := Ex.new (o := .lst ([decide (t < n * b), decide (t ≤ n * b), false, false].map V.bl)) hl5
  refine ⟨_, _, dp_bl (x5 _ _ hl4), dp_bl (l := [decide (t < n * b), decide (t ≤ n * b), false, false]) upd_same, bs_sh _, bs_sh _, ?_⟩
  rw [bs_eqv, Int.mul_one, decide_eq_true rfl]
  exact q _ (e0.trans x5)
end
end B71

namespace B71
open PySem PySem.Spec PyProof.Rows L2 Evl RZ SrtO
/-- what a comprehension gives while heaps change as E tells -/
structure Chg (E : Hp → Hp → Prop) (H1 : Hp) (D : Addr) : Prop where
  tr : ∀ {a b c}, E a b → E b c → E a c
  new : E H1 (upd H1 D (.lst []))
  app : ∀ H acc acc', E H1 H → H D = some (.lst acc) → E H1 (upd H D (.lst acc'))
  keep : ∀ H H' acc, E H1 H → E H H' → H D = some (.lst acc) → H' D = some (.lst acc)
theorem Chg.ex {H1 : Hp} {D : Addr} (hD : H1 D = none) : Chg Ex H1 D := ⟨Ex.trans, Ex.new hD, fun _ _ _ e _ => e.mut hD, fun _ _ _ _ e h => e _ _ h⟩
def ExP (p : Addr) (H H' : Hp) : Prop := ExB p H H' ∧ (Pot H p → Pot H' p)
theorem ExB.mut {p D : Addr} {H H' : Hp} {o : HO} (e : ExB p H H') (hD : H D = none) : ExB p H (upd H' D o) := fun x u n h => by
  rw [upd_ne (ne_of_none h hD)]
  exact e x u n h
theorem ExP.of {p : Addr} {H H' : Hp} (e : Ex H H') : ExP p H H' := ⟨ExB.of e, fun h => h.up e⟩
theorem ExP.trans {p : Addr} {a b c : Hp} (x : ExP p a b) (y : ExP p b c) : ExP p a c := ⟨x.1.trans y.1, fun h => y.2 (x.2 h)⟩
theorem ExP.pti {p r : Addr} {H H' : Hp} {z : Int × Int} (e : ExP p H H') (hp : Pot H p) (h : PtI H r z) : PtI H' r z := e.1 _ _ (pot_ne hp h) h
theorem pot_nn {H : Hp} {p D : Addr} (h : Pot H p) (hD : H D = none) : D ≠ p := fun z => by
  obtain ⟨x, y, h1, _⟩ := h
  rw [z, h1] at hD
  cases hD
theorem Chg.pot {p : Addr} {H1 : Hp} {D : Addr} (hD : H1 D = none) (hp : Pot H1 p) : Chg (ExP p) H1 D :=
  have nd := pot_nn hp hD
  ⟨ExP.trans, ExP.of (Ex.new hD), fun H _ _ e _ => ⟨e.1.mut hD, fun h => (e.2 h).same (upd_ne (Ne.symm nd))⟩, fun _ _ _ _ e h => e.1 _ _ nd h⟩
theorem lcE {α : Type} {J : It} {n : Nat} {Gd : Hp → Prop} {Y : Nat → Hp → V → Hp → Prop} (w : Walk J n Gd Y) {g : TG} {tt : TT} {te : TE} {vs : List Nat} {σ : L2.St} {H1 : Hp} {D : Addr} {Qd : Hp → Prop} {E : Hp → Hp → Prop} (C : Chg E H1 D)
    (ys : List α) (hn : n = ys.length) (hz : n ≤ 1000) (f : α → Bool) (R : α → V → Hp → Prop) (up : ∀ y v H H', E H1 H → E H H' → R y v H → R y v H') (ap : ∀ y v H acc acc', H D = some (.lst acc) → R y v H → R y v (upd H D (.lst acc'))) (hG : ∀ H, E H1 H → Gd H)
    (hs : ∀ i y x H H' (N : Hp → Prop) (Gt : VK), ys[i]? = some y → E H1 H → (∃ acc, H D = some (.lst acc)) → Y i H x H' → (f y = false → ∀ H2, E H H2 → N H2) → (f y = true → ∀ v H2, E H H2 → R y v H2 → Gt v H2) →
      g x (wipe σ vs) H' fun σ2 H2 => wipe σ2 vs = wipe σ vs ∧ tt σ2 H2 fun b H3 => if b = true then te σ2 H3 Gt else N H3)
    (hd : ∀ acc H, E H1 H → H D = some (.lst acc) → Paired (fun y v => R y v H) (ys.filter f) acc → Qd H) :
    ∃ W : Nat → Nat → Hp → Prop, (∃ m, W 0 m (upd H1 D (.lst []))) ∧ ∀ i m H, W i m H →
      (J.stop i H ∧ Qd H) ∨ (J.go i H ∧ ∃ Nx : Hp → Prop, (∀ H', Nx H' → ∃ m', m' < m ∧ W (i + 1) m' H') ∧ ∀ x H', J.yld i H x H' → g x (wipe σ vs) H' fun σ2 H2 => wipe σ2 vs = wipe σ vs ∧ tt σ2 H2 fun b H3 =>
        if b = true then te σ2 H3 fun y H4 => ∃ acc, H4 D = some (.lst acc) ∧ acc.length < sizeLine ∧ Nx (upd H4 D (.lst (acc ++ [y]))) else Nx H3) := by
  refine lc_it w (fun i H => E H1 H ∧ ∃ acc, H D = some (.lst acc) ∧ acc.length ≤ i ∧ Paired (fun y v => R y v H) ((ys.take i).filter f) acc) ⟨C.new, [], upd_same, Nat.le_refl _, .nil⟩ (fun i H _ p => hG H p.1) ?_ ?_
  · rintro i x H H' hi ⟨e1, acc, hacc, hl, hp⟩ hy
    have hi' : i < ys.length := hn ▸ hi
    have et : ys.take (i + 1) = ys.take i ++ [ys[i]] := by rw [List.take_add_one, List.getElem?_eq_getElem hi']; rfl
    refine hs i ys[i] x H H' _ _ (List.getElem?_eq_getElem hi') e1 ⟨acc, hacc⟩ hy (fun hf H2 e2 => ?_) (fun hf v H2 e2 hR => ?_)
    · refine ⟨C.tr e1 e2, acc, C.keep _ _ _ e1 e2 hacc, by omega, ?_⟩
      rw [et, List.filter_append, List.filter_cons_of_neg (by rw [hf]; exact Bool.false_ne_true), List.filter_nil, List.append_nil]
      exact Paired.mapP hp fun _ _ h => up _ _ _ _ e1 e2 h
    · have h2 := C.keep _ _ _ e1 e2 hacc
      refine ⟨acc, h2, Nat.lt_of_le_of_lt hl (small1000 (by omega)), C.app _ _ _ (C.tr e1 e2) h2, acc ++ [v], upd_same, by simp; omega, ?_⟩
      rw [et, List.filter_append, List.filter_cons_of_pos hf, List.filter_nil]
      exact paired_snoc (Paired.mapP hp fun _ _ h => ap _ _ _ _ _ h2 (up _ _ _ _ e1 e2 h)) (ap _ _ _ _ _ h2 hR)
  · rintro H ⟨e1, acc, hacc, _, hp⟩
    rw [hn, List.take_length] at hp
    exact hd acc H e1 hacc hp
/-- references in pairs -/
theorem pair_refs {α : Type} {F : α → Addr → Prop} : ∀ {ys : List α} {acc : List V}, Paired (fun y v => ∃ r, v = V.ref r ∧ F y r) ys acc → ∃ rs : List Addr, acc = rs.map V.ref ∧ rs.length = ys.length ∧ Paired (fun r y => F y r) rs ys
  | _, _, .nil => ⟨[], rfl, rfl, .nil⟩
  | _, _, .cons ⟨r, h1, h2⟩ t => by
    obtain ⟨rs, e, l, p⟩ := pair_refs t
    exact ⟨r :: rs, by rw [h1, e]; rfl, by simp [l], .cons h2 p⟩
theorem paired_at2 {α β : Type} {F : α → β → Prop} : ∀ {ys : List α} {xs : List β}, Paired F ys xs → ∀ {i : Nat} {x : α}, ys[i]? = some x → ∃ y, xs[i]? = some y ∧ F x y
  | _, _, .nil, i, x, h => by simp at h
  | _, _, .cons (b := y) q t, 0, x, h => ⟨y, rfl, by simp at h; exact h ▸ q⟩
  | _, _, .cons q t, i + 1, x, h => by
    obtain ⟨y, h1, h2⟩ := paired_at2 t (i := i) (x := x) (by simpa using h)
    exact ⟨y, by simpa using h1, h2⟩
end B71

namespace B71
open PySem PySem.Spec PyProof.Rows L2 Evl RZ SrtO

def Okz (n : Nat) (z : Int × Int) : Prop := z.2 ≠ 0 ∧ Bt n z.1 ∧ Bt n z.2
theorem Okz.mono {n m : Nat} {z : Int × Int} (h : Okz n z) (k : n ≤ m) : Okz m z := ⟨h.1, h.2.1.mono k, h.2.2.mono k⟩
def RawV {α : Type} (n : Nat) (_ : α) (v : V) (H : Hp) : Prop := ∃ r z, v = .ref r ∧ PtI H r z ∧ Okz n z
theorem raws_split {α : Type} {n : Nat} {H : Hp} : ∀ {ys : List α} {acc : List V}, Paired (fun y v => RawV n y v H) ys acc → ∃ (rs : List Addr) (zs : List (Int × Int)), acc = rs.map V.ref ∧ rs.length = ys.length ∧ Paired (PtI H) rs zs ∧ ∀ z ∈ zs, Okz n z
  | _, _, .nil => ⟨[], [], rfl, rfl, .nil, fun _ h => nomatch h⟩
  | _, _, .cons ⟨r, z, h1, h2, h3⟩ t => by
    obtain ⟨rs, zs, e, l, p, q⟩ := raws_split t
    refine ⟨r :: rs, z :: zs, by rw [h1, e]; rfl, by simp [l], .cons h2 p, fun y hy => ?_⟩
    rcases List.mem_cons.mp hy with rfl | hy
    · exact h3
    · exact q y hy
def lw (z : Int × Int) : Int × Int := low z.1 z.2
theorem paired_mapR {α β γ : Type} {F : α → β → Prop} {G : α → γ → Prop} {g : β → γ} (h : ∀ a b, F a b → G a (g b)) : ∀ {as : List α} {bs : List β}, Paired F as bs → Paired G as (bs.map g)
  | _, _, .nil => .nil
  | _, _, .cons q t => .cons (h _ _ q) (paired_mapR h t)
theorem paired_swap {α β : Type} {F : α → β → Prop} : ∀ {as : List α} {bs : List β}, Paired F as bs → Paired (fun b a => F a b) bs as
  | _, _, .nil => .nil
  | _, _, .cons q t => .cons q (paired_swap t)
/-- what the three judges tell of a value -/
def KV (K : PySem.W.Frag) (C : Addr) (H : Hp) (y : Bool × Bool) (v : V) : Prop := ∃ i b r, Kd K C H v i b r ∧ ((i && !b) || r) = y.1 ∧ (i && !b) = y.1 ∧ ((y.1 = false ∧ y.2 = false) ∨ (y.1 = true ∧ ∃ n : Int, v = .int n ∧ y.2 = decide (0 ≤ n)))
theorem KV.up {K : PySem.W.Frag} {C : Addr} {H H' : Hp} {y : Bool × Bool} {v : V} (h : KV K C H y v) (e : Ex H H') : KV K C H' y v := by
  obtain ⟨i, b, r, k, q⟩ := h
  exact ⟨i, b, r, k.up e, q⟩
section
variable {K : PySem.W.Frag} {mg : Str → Option Value} {C : Addr} {H : Hp}
theorem kv_int (R : RCl K mg C) (n : Int) : KV K C H (true, decide (0 ≤ n)) (.int n) := ⟨_, _, _, kd_int R n, rfl, rfl, .inr ⟨rfl, n, rfl, rfl⟩⟩
theorem kv_bl (R : RCl K mg C) (b : Bool) : KV K C H (false, false) (.bl b) := ⟨true, true, false, ⟨_, .base (.bl b), kit_ty (by decide +kernel), kit_ty (by decide +kernel), R.kB⟩, rfl, rfl, .inl ⟨rfl, rfl⟩⟩
theorem kv_non (R : RCl K mg C) : KV K C H (false, false) .non := ⟨false, false, false, ⟨_, .base .non, kit_ty (by decide +kernel), kit_ty (by decide +kernel), R.kN⟩, rfl, rfl, .inl ⟨rfl, rfl⟩⟩
theorem kv_str (R : RCl K mg C) (x : Str) : KV K C H (false, false) (.str x) := ⟨false, false, false, ⟨_, .base (.str x), kit_ty (by decide +kernel), kit_ty (by decide +kernel), R.kS⟩, rfl, rfl, .inl ⟨rfl, rfl⟩⟩
theorem kv_lst (R : RCl K mg C) {a : Addr} {xs : List V} (h : H a = some (.lst xs)) : KV K C H (false, false) (.ref a) := ⟨false, false, false, ⟨_, .base (.lst h), kit_ty (by decide +kernel), kit_ty (by decide +kernel), R.kL⟩, rfl, rfl, .inl ⟨rfl, rfl⟩⟩
theorem kv_tup (R : RCl K mg C) {a : Addr} {xs : List V} (h : H a = some (.tup xs)) : KV K C H (false, false) (.ref a) := ⟨false, false, false, ⟨_, .base (.tup h), kit_ty (by decide +kernel), kit_ty (by decide +kernel), R.kT⟩, rfl, rfl, .inl ⟨rfl, rfl⟩⟩
end
/-- a list of truth values -/
def RowB (D : Addr) (y : List Bool) (v : V) (H : Hp) : Prop := ∃ r, v = .ref r ∧ r ≠ D ∧ H r = some (.lst (y.map V.bl))
theorem dp_rows {K : PySem.W.Frag} {H : Hp} : ∀ {ys : List (List Bool)} {vs : List V}, Paired (fun (y : List Bool) v => ∃ r, v = V.ref r ∧ H r = some (.lst (y.map V.bl))) ys vs → DpAll K H vs (ys.map fun y => .list (y.map .bool))
  | _, _, .nil => .nil
  | _, _, .cons ⟨r, h1, h2⟩ t => by
    subst h1
    exact .cons (dp_bl h2) (dp_rows t)
def spTot : Sp := fun vs H Q _ => ∃ (a : Addr) (rs : List Addr) (ps : List (Int × Int)), vs = [.ref a] ∧ H a = some (.lst (rs.map V.ref)) ∧ Paired (PtI H) rs ps ∧ Sm ps ∧ ∀ r H', Ex H H' → PtI H' r (totalM ps) → Q (.ref r) H'
def spRight : Sp := fun vs H Q _ => ∃ p : Addr, vs = [.ref p] ∧ Pot H p ∧ ∀ H', Q (.bl true) H'
def spLaw (K : PySem.W.Frag) : Sp := fun vs H Q _ => ∃ (a : Addr) (ns : List Int), vs = [.ref a] ∧ SqL K H a (ns.map V.int) ∧ ns.length ≤ 63 ∧ ∀ H', Q (.bl true) H'
section
variable {P : Program} {w : World} {K : PySem.W.Frag} {mg : Str → Option Value} {base : Heap} {f C : Addr} {fd : FuncData}
theorem sc__law_right : FnScope ["pot", "raws", "raw", "turn", "pairs", "given", "told", "values", "due", "one"] ["pot"] (defScope (top 35)) := ⟨rfl, rfl, rfl, by decide +kernel, rfl, by decide +kernel, by decide +kernel⟩
theorem ok_law_right (F : Fun K "_law_right" "_law_right" (top 35) f fd) (R : RCl K mg C) (T : Tx mg) (MR : MkR P w K mg base C) (C__law_raw : ClO P w K mg base "_law_raw" 3 ["pot"] spRaw) (C__law_draw : ClO P w K mg base "_law_draw" 1 ["pot", "size"] spDraw) (C__law_pick : ClO P w K mg base "_law_pick" 2 ["pot", "some"] spPick) (C__law_low : ClO P w K mg base "_law_low" 1 ["top", "bottom"] spLow) (C__law_pairs : ClO P w K mg base "_law_pairs" 4 ["value"] (spPairs C)) (C_is_number : ClO P w K mg base "is_number" 2 ["value"] (spIsN K C)) (C_is_integer : ClO P w K mg base "is_integer" 1 ["value"] (spIsI K C)) (C_is_count : ClO P w K mg base "is_count" 2 ["value"] (spIsC K C))
    (C__law_total : ClO P w K mg base "_law_total" 3 ["pairs"] spTot) (C__law_one_right : Cl P w K mg base "_law_one_right" 8 ["raw"] spOne) (C__law_two_right : Cl P w K mg base "_law_two_right" 8 ["raw", "other_raw", "number"] spTwo)
    (CM_total : CmB P w K mg base C "total" 6 ["cls", "numbers"] (spTotal C)) (CK_total : CmK P w K mg base C "total" "numbers" 6 ["cls", "numbers"] (spTotal C)) : FnG P w K mg base 9 f fd ["pot"] spRight := by
  have sc := sc__law_right
  refine okG F sc (fun vs H Q E h => ?_) (fun cdv A outer s H vs Q gd0 hr h => ?_)
  · obtain ⟨_, rfl, _⟩ := h; rfl
  have gd := deeper_guards (env := envOfC "_law_right" (defScope (top 35)) s.heap.objs.size f cdv) gd0
  obtain ⟨p, rfl, hp, q⟩ := h
  refine ⟨_, (pss_cut (ps_setLc (i := 1) (own := [("turn", 3)]) (g := (gName 3)) rfl sc.nd rfl rfl (sw_true rfl rfl rfl (by decide +kernel)) (pi_range1 rfl T.b_range (pa_cons pe_int pa_nil)) (blkOk_by (N := ["pot", "raws", "raw", "turn", "pairs", "given", "told", "values", "due", "one"]) (sc := defScope ((top 35))) (by decide +kernel)) (fun _ _ _ _ _ => (pg_name (i := 3) sc.nd rfl (Or.inl rfl))) (fun _ _ _ _ _ => pts_nil) (fun _ _ _ _ _ => (pe_clo C__law_raw (hr.mono (by first | decide | omega)) (pa_cons (pv 0) pa_nil)))) (pss_cut (ps_expr (pe_bm PySem.F.plainAttrs_list PySem.F.slot_list_append PySem.F.type_list_append mt_append (pv 1) (pa_cons (pe_tup (pa_cons (pe_op op_mulW (pe_ix ix_tup (pe_ix ix_list (pv 1) pe_int (fun _ _ => rfl)) pe_int (fun _ _ => rfl)) pe_int) (pa_cons (pe_op op_mulW (pe_ix ix_tup (pe_ix ix_list (pv 1) pe_int (fun _ _ => rfl)) pe_int (fun _ _ => rfl)) pe_int) pa_nil))) pa_nil))) (pss_cut (ps_expr (pe_bm PySem.F.plainAttrs_list PySem.F.slot_list_append PySem.F.type_list_append mt_append (pv 1) (pa_cons (pe_tup (pa_cons pe_int (pa_cons (pe_ix ix_tup (pe_ix ix_list (pv 1) pe_int (fun _ _ => rfl)) pe_int (fun _ _ => rfl)) pa_nil))) pa_nil))) (pss_cut (ps_for PassesOwn.never rfl (pi_list (pv 1)) (pg_name (i := 2) sc.nd rfl (Or.inl rfl)) (pss_one (ps_if (pt_not (pt_val (pe_cl C__law_one_right gd (hr.mono (by first | decide | omega)) (pa_cons (pv 2) pa_nil)))) (pss_one (ps_ret pe_bl)) pss_nil))) (pss_cut (ps_for PassesOwn.never rfl (pi_range1 rfl T.b_range (pa_cons pe_int pa_nil)) (pg_name (i := 3) sc.nd rfl (Or.inl rfl)) (pss_one (ps_if (pt_not (pt_val (pe_cl C__law_two_right gd (hr.mono (by first | decide | omega)) (pa_cons (pe_clo C__law_pick (hr.mono (by first | decide | omega)) (pa_cons (pv 0) (pa_cons (pv 1) pa_nil))) (pa_cons (pe_clo C__law_pick (hr.mono (by first | decide | omega)) (pa_cons (pv 0) (pa_cons (pv 1) pa_nil))) (pa_cons (pe_op op_sub (pe_clo C__law_draw (hr.mono (by first | decide | omega)) (pa_cons (pv 0) (pa_cons pe_int pa_nil))) pe_int) pa_nil)))))) (pss_one (ps_ret pe_bl)) pss_nil))) (pss_cut (ps_setLc (i := 4) (own := [("raw", 2)]) (g := (gName 2)) rfl sc.nd rfl rfl (sw_true rfl rfl rfl (by decide +kernel)) (pi_list (pv 1)) (blkOk_by (N := ["pot", "raws", "raw", "turn", "pairs", "given", "told", "values", "due", "one"]) (sc := defScope ((top 35))) (by decide +kernel)) (fun _ _ _ _ _ => (pg_name (i := 2) sc.nd rfl (Or.inl rfl))) (fun _ _ _ _ _ => pts_nil) (fun _ _ _ _ _ => (pe_clo C__law_low (hr.mono (by first | decide | omega)) (pa_cons (pe_ix (show IxR _ (rIxT K) from ix_tup) (pv 2) pe_int (fun _ _ => rfl)) (pa_cons (pe_ix (show IxR _ (rIxT K) from ix_tup) (pv 2) pe_int (fun _ _ => rfl)) pa_nil))))) (pss_cut (ps_set (i := 5) sc.nd rfl (Or.inl rfl) (pe_op op_cat (pe_lc (own := [("raw", 2)]) (g := (gName 2)) rfl sc.nd (pi_list (pv 1)) (blkOk_by (N := ["pot", "raws", "raw", "turn", "pairs", "given", "told", "values", "due", "one"]) (sc := defScope ((top 35))) (by decide +kernel)) (fun _ _ _ _ _ => (pg_name (i := 2) sc.nd rfl (Or.inl rfl))) (fun _ _ _ _ _ => pts_nil) (fun _ _ _ _ _ => (pe_rat2 MR (hr.mono (by first | decide | omega)) (pa_cons (pe_ix (show IxR _ (rIxT K) from ix_tup) (pv 2) pe_int (fun _ _ => rfl)) (pa_cons (pe_ix (show IxR _ (rIxT K) from ix_tup) (pv 2) pe_int (fun _ _ => rfl)) pa_nil))))) (pe_lst (pa_cons pe_int pa_nil)))) (pss_cut (ps_set (i := 6) sc.nd rfl (Or.inl rfl) (pe_lst (pa_cons (pe_cmB CM_total (hr.mono (by first | decide | omega)) (pe_glob (v := .ref C) rfl R.mgC rfl) (pa_cons (pv 5) pa_nil)) (pa_cons (pe_cmB CM_total (hr.mono (by first | decide | omega)) (pe_glob (v := .ref C) rfl R.mgC rfl) (pa_cons (pe_callTy call_tuple_of rfl T.b_tuple bt_tuple (pa_cons (pv 5) pa_nil)) pa_nil)) (pa_cons (pe_cmK CK_total (hr.mono (by first | decide | omega)) (pe_glob (v := .ref C) rfl R.mgC rfl) (pk_cons (pv 5) pk_nil)) (pa_cons (pe_cmB CM_total (hr.mono (by first | decide | omega)) (pe_glob (v := .ref C) rfl R.mgC rfl) (pa_cons (pe_lst pa_nil) pa_nil)) pa_nil)))))) (pss_cut (ps_if (pt_cmpR (op_neD hr.units) (pe_clo C__law_pairs (hr.mono (by first | decide | omega)) (pa_cons (pv 6) pa_nil)) (pe_op op_cat (pe_op op_rep (pe_lst (pa_cons (pe_clo C__law_total (hr.mono (by first | decide | omega)) (pa_cons (pe_op op_cat (pv 4) (pe_lst (pa_cons (pe_tup (pa_cons pe_int (pa_cons pe_int pa_nil))) pa_nil))) pa_nil)) pa_nil)) pe_int) (pe_lst (pa_cons (pe_tup (pa_cons pe_int (pa_cons pe_int pa_nil))) pa_nil))) (nomark _)) (pss_one (ps_ret pe_bl)) pss_nil) (pss_cut (ps_set (i := 7) sc.nd rfl (Or.inl rfl) (pe_lst (pa_cons pe_int (pa_cons pe_int (pa_cons (pe_un un_neg pe_int) (pa_cons pe_int (pa_cons pe_bl (pa_cons pe_bl (pa_cons pe_non (pa_cons pe_str (pa_cons (pe_lst (pa_cons pe_int pa_nil)) (pa_cons (pe_tup (pa_cons pe_int (pa_cons pe_int pa_nil))) (pa_cons (pe_op op_pow pe_int pe_int) pa_nil))))))))))))) (pss_cut (ps_setLc (i := 6) (own := [("one", 9)]) (g := (gName 9)) rfl sc.nd rfl rfl (sw_true rfl rfl rfl (by decide +kernel)) (pi_list (pv 7)) (blkOk_by (N := ["pot", "raws", "raw", "turn", "pairs", "given", "told", "values", "due", "one"]) (sc := defScope ((top 35))) (by decide +kernel)) (fun _ _ _ _ _ => (pg_name (i := 9) sc.nd rfl (Or.inl rfl))) (fun _ _ _ _ _ => pts_nil) (fun _ _ _ _ _ => (pe_lst (pa_cons (pe_clo C_is_number (hr.mono (by first | decide | omega)) (pa_cons (pv 9) pa_nil)) (pa_cons (pe_clo C_is_integer (hr.mono (by first | decide | omega)) (pa_cons (pv 9) pa_nil)) (pa_cons (pe_clo C_is_count (hr.mono (by first | decide | omega)) (pa_cons (pv 9) pa_nil)) pa_nil)))))) (pss_cut (ps_set (i := 8) sc.nd rfl (Or.inl rfl) (pe_lst (pa_cons (pe_lst (pa_cons pe_bl (pa_cons pe_bl (pa_cons pe_bl pa_nil)))) (pa_cons (pe_lst (pa_cons pe_bl (pa_cons pe_bl (pa_cons pe_bl pa_nil)))) (pa_cons (pe_lst (pa_cons pe_bl (pa_cons pe_bl (pa_cons pe_bl pa_nil)))) (pa_cons (pe_lst (pa_cons pe_bl (pa_cons pe_bl (pa_cons pe_bl pa_nil)))) pa_nil)))))) (pss_one (ps_ret (pe_cmpR (op_eqD hr.units) (pv 6) (pe_op op_cat (pe_op op_cat (pv 8) (pe_lc (own := [("turn", 3)]) (g := (gName 3)) rfl sc.nd (pi_range1 rfl T.b_range (pa_cons pe_int pa_nil)) (blkOk_by (N := ["pot", "raws", "raw", "turn", "pairs", "given", "told", "values", "due", "one"]) (sc := defScope ((top 35))) (by decide +kernel)) (fun _ _ _ _ _ => (pg_name (i := 3) sc.nd rfl (Or.inl rfl))) (fun _ _ _ _ _ => pts_nil) (fun _ _ _ _ _ => (pe_op op_rep (pe_lst (pa_cons pe_bl pa_nil)) pe_int)))) (pe_lst (pa_cons (pe_lst (pa_cons pe_bl (pa_cons pe_bl (pa_cons pe_bl pa_nil)))) pa_nil))) (nomark _)))))))))))))))), ?_⟩
  refine ⟨fun σ' H' => ∃ l rs zs, σ' = [some (.ref p), some (.ref l), none, none, none, none, none, none, none, none] ∧ Pot H' p ∧ H' l = some (.lst (rs.map V.ref)) ∧ rs.length = 6 ∧ Paired (PtI H') rs zs ∧ ∀ z ∈ zs, Okz 130 z, ?_, ?_⟩
  · refine ⟨6, rfl, by decide, by decide, fun D hD => ?_⟩
    have nd := pot_nn hp hD
    refine lcE (walk_range (lo := 0) (n := 6)) (Chg.pot (p := p) hD hp) (List.range 6) rfl (by decide) (fun _ => true) (RawV 130) ?_ ?_ (fun _ _ => trivial) ?_ ?_
    · rintro y v H1 H2 e1 e2 ⟨r, z, h1, h2, h3⟩
      exact ⟨r, z, h1, e2.pti (e1.2 hp) h2, h3⟩
    · rintro y v H1 acc acc' hd ⟨r, z, h1, h2, h3⟩
      exact ⟨r, z, h1, pt_ap hd h2, h3⟩
    · rintro i y x H4 H5 N Gt hy e4 _ ⟨rfl, rfl⟩ _ k
      refine ⟨rfl, _, rfl, p, rfl, e4.2 hp, fun r z H6 e6 hp6 h0 hz nz b1 b2 => k rfl _ _ ⟨e6, fun _ => hp6⟩ ⟨r, z, rfl, hz, nz, b1, b2⟩⟩
    · intro acc H4 e4 hD4 hacc
      obtain ⟨rs, zs, rfl, l6, hz, oz⟩ := raws_split hacc
      exact ⟨D, rs, zs, rfl, e4.2 hp, hD4, by rw [l6, filter_yes]; rfl, hz, oz⟩
  rintro σ' H1 ⟨l, rs, zs, rfl, hp1, hl, h6, hz, oz⟩
  have nl : l ≠ p := fun z => by
    obtain ⟨x, y, h1, _⟩ := hp1
    rw [z, h1] at hl
    have := congrArg List.length (HO.lst.inj (Option.some.inj hl))
    rw [List.length_map, h6] at this
    cases this
  have l6 : zs.length = 6 := by rw [← Paired.length hz]; exact h6
  obtain ⟨r0, r1, rt, rfl⟩ : ∃ r0 r1 rt, rs = r0 :: r1 :: rt := by
    match rs, h6 with
    | r0 :: r1 :: rt, _ => exact ⟨r0, r1, rt, rfl⟩
  obtain ⟨z0, z1, zt, rfl⟩ : ∃ z0 z1 zt, zs = z0 :: z1 :: zt := by
    match zs, l6 with
    | z0 :: z1 :: zt, _ => exact ⟨z0, z1, zt, rfl⟩
  have hz0 : PtI H1 r0 z0 := by cases hz; assumption
  have hz1 : PtI H1 r1 z1 := by cases hz with | cons _ t => cases t; assumption
  obtain ⟨nz0, ba, bb⟩ := oz z0 (by simp)
  obtain ⟨nz1, ba1, bb1⟩ := oz z1 (by simp)
  have m3 : Bt 2 3 := by unfold Bt; decide
  refine ⟨fun σ' H' => ∃ x, σ' = [some (.ref p), some (.ref l), none, none, none, none, none, none, none, none] ∧ Pot H' p ∧ H' l = some (.lst ((r0 :: r1 :: rt ++ [x]).map V.ref)) ∧ Paired (PtI H') (r0 :: r1 :: rt ++ [x]) (z0 :: z1 :: zt ++ [(z0.1 * 3, z0.2 * 3)]), ?_, ?_⟩
  · refine ⟨_, rfl, .inl ⟨rfl, _, sq_of hl⟩, ?_⟩
    refine ⟨_, rfl, l, _, 0, .ref r0, rfl, rfl, sq_of hl, atI_nat (show (List.map V.ref (r0 :: r1 :: rt))[0]? = some (V.ref r0) from rfl), r0, _, 0, .int z0.1, rfl, rfl, st_of hz0, rfl, _, _, rfl, rfl, mulOk ba m3 (by decide) (by decide) (by decide), ?_⟩
    refine ⟨_, rfl, l, _, 0, .ref r0, rfl, rfl, sq_of hl, atI_nat (show (List.map V.ref (r0 :: r1 :: rt))[0]? = some (V.ref r0) from rfl), r0, _, 1, .int z0.2, rfl, rfl, st_of hz0, rfl, _, _, rfl, rfl, mulOk bb m3 (by decide) (by decide) (by decide), ?_⟩
    refine ⟨(by show 2 ≤ sizeLine; decide), fun x hx => ?_⟩
    have e1 := Ex.new (o := .tup [.int (z0.1 * 3), .int (z0.2 * 3)]) hx
    have hl' := e1 _ _ hl
    refine ⟨l, _, .ref x, rfl, rfl, hl', (by rw [List.length_map, h6]; show 6 < sizeLine; decide), x, rfl, ((hp1.up e1).same (upd_ne (Ne.symm nl))), ?_, ?_⟩
    · rw [upd_same, List.map_append]; rfl
    · exact Paired.mapP (paired_app (Paired.mapP hz fun _ _ h => PtI.up h e1) (.cons (b := (z0.1 * 3, z0.2 * 3)) upd_same .nil)) fun y v h => pt_ap hl' h
  rintro σ' H2 ⟨x7, rfl, hp2, hl2, hz2⟩
  clear hz hl hp1 hz0 hz1
  have hz1 : PtI H2 r1 z1 := by cases hz2 with | cons _ t => cases t; assumption
  refine ⟨fun σ' H' => ∃ rs zs, σ' = [some (.ref p), some (.ref l), none, none, none, none, none, none, none, none] ∧ Pot H' p ∧ H' l = some (.lst (rs.map V.ref)) ∧ rs.length = 8 ∧ Paired (PtI H') rs zs ∧ ∀ z ∈ zs, Okz 140 z, ?_, ?_⟩
  · refine ⟨_, rfl, .inl ⟨rfl, _, sq_of hl2⟩, ?_⟩
    refine ⟨_, rfl, l, _, 1, .ref r1, rfl, rfl, sq_of hl2, atI_nat (show (List.map V.ref (r0 :: r1 :: rt ++ [x7]))[1]? = some (V.ref r1) from rfl), r1, _, 1, .int z1.2, rfl, rfl, st_of hz1, rfl, ?_⟩
    refine ⟨(by show 2 ≤ sizeLine; decide), fun x hx => ?_⟩
    have e1 := Ex.new (o := .tup [.int 0, .int z1.2]) hx
    have hl' := e1 _ _ hl2
    refine ⟨l, _, .ref x, rfl, rfl, hl', (by rw [List.length_map, List.length_append, h6]; show 7 < sizeLine; decide), r0 :: r1 :: rt ++ [x7] ++ [x], z0 :: z1 :: zt ++ [(z0.1 * 3, z0.2 * 3)] ++ [(0, z1.2)], rfl, ((hp2.up e1).same (upd_ne (Ne.symm nl))), ?_, ?_, ?_, ?_⟩
    · rw [upd_same, List.map_append (l₂ := [x])]; rfl
    · rw [List.length_append, List.length_append, h6]; rfl
    · exact Paired.mapP (paired_app (Paired.mapP hz2 fun _ _ h => PtI.up h e1) (.cons (b := ((0 : Int), z1.2)) upd_same .nil)) fun y v h => pt_ap hl' h
    · intro z hzm
      rcases List.mem_append.mp hzm with hzm | hzm
      · rcases List.mem_append.mp hzm with hzm | hzm
        · exact (oz z hzm).mono (by decide)
        · obtain rfl := List.mem_singleton.mp hzm
          exact ⟨by show z0.2 * 3 ≠ 0; omega, (ba.mul m3).mono (by decide), (bb.mul m3).mono (by decide)⟩
      · obtain rfl := List.mem_singleton.mp hzm
        exact ⟨nz1, by show (0 : Int).natAbs < 2 ^ 140; decide +kernel, bb1.mono (by decide)⟩
  clear hz2 hl2 hp2 hz1 oz h6 l6 ba bb nz0 ba1 bb1 nz1
  rintro σ' H3 ⟨rs, zs, rfl, hp3, hl3, h8, hz3, oz⟩
  have l8 : zs.length = 8 := by rw [← Paired.length hz3]; exact h8
  clear H1 H2 x7 r0 r1 rt z0 z1 zt
  refine ⟨fun σ' H' => ∃ o, σ' = [some (.ref p), some (.ref l), o, none, none, none, none, none, none, none] ∧ Ex H3 H', ?_, ?_⟩
  · refine ⟨_, rfl, l, rfl, ⟨_, sq_of hl3⟩, for_list (K := K) (a := l) (xs := rs.map V.ref) (fun i σ H' => ∃ o, σ = [some (.ref p), some (.ref l), o, none, none, none, none, none, none, none] ∧ Ex H3 H') ⟨_, rfl, Ex.refl _⟩ (fun i σ H' _ ⟨_, _, e⟩ => sq_of (e _ _ hl3)) ?_ fun _ _ h => h⟩
    rintro i x σ H4 hx ⟨o, rfl, e4⟩
    rw [List.getElem?_map] at hx
    cases hr0 : rs[i]? with
    | none => rw [hr0] at hx; cases hx
    | some r =>
      rw [hr0] at hx
      cases hx
      obtain ⟨z, hzi, hzr⟩ := paired_at2 hz3 hr0
      obtain ⟨nz, b1, b2⟩ := oz z (List.mem_of_getElem? hzi)
      exact ⟨_, rfl, r, z, rfl, hzr.up e4, nz, b1, b2, fun H5 e5 => ⟨_, rfl, itf ⟨_, rfl, e4.trans e5⟩⟩⟩
  rintro σ' H4 ⟨o2, rfl, e4⟩
  replace hp3 := hp3.up e4
  replace hl3 := e4 _ _ hl3
  replace hz3 := Paired.mapP hz3 fun _ _ h => PtI.up h e4
  clear e4 H3
  refine ⟨fun σ' H' => ∃ o3, σ' = [some (.ref p), some (.ref l), o2, o3, none, none, none, none, none, none] ∧ Pot H' p ∧ H' l = some (.lst (rs.map V.ref)) ∧ Paired (PtI H') rs zs, ?_, ?_⟩
  · refine ⟨12, rfl, by decide, by decide, for_range (lo := 0) (n := 12) (fun i σ H' => ∃ o3, σ = [some (.ref p), some (.ref l), o2, o3, none, none, none, none, none, none] ∧ Pot H' p ∧ H' l = some (.lst (rs.map V.ref)) ∧ Paired (PtI H') rs zs) ⟨_, rfl, hp3, hl3, hz3⟩ ?_ fun _ _ h => h⟩
    rintro i σ H5 _ ⟨o3, rfl, hp5, hl5, hz5⟩
    have pick : ∀ {d : Nat} {x : V}, (rs.map V.ref)[d]? = some x → ∃ r z, x = .ref r ∧ rs[d]? = some r ∧ zs[d]? = some z := by
      intro d x hx
      rw [List.getElem?_map] at hx
      cases hr0 : rs[d]? with
      | none => rw [hr0] at hx; cases hx
      | some r =>
        rw [hr0] at hx
        cases hx
        obtain ⟨z, hzi, _⟩ := paired_at2 hz5 hr0
        exact ⟨r, z, rfl, rfl, hzi⟩
    have len : (rs.map V.ref).length = 8 := by rw [List.length_map, h8]
    have step : ∀ {H6 H7 : Hp}, Pot H6 p → H6 l = some (.lst (rs.map V.ref)) → Paired (PtI H6) rs zs → ExB p H6 H7 → H7 l = some (.lst (rs.map V.ref)) ∧ Paired (PtI H7) rs zs := fun a b c e => ⟨e _ _ nl b, Paired.mapP c fun _ _ h => e _ _ (pot_ne a h) h⟩
    refine ⟨_, rfl, _, rfl, p, l, _, rfl, hp5, hl5, nl, by rw [len]; decide, by rw [len]; decide, fun d1 x1 H6 e6 hp6 hx1 => ?_⟩
    obtain ⟨hl6, hz6⟩ := step hp5 hl5 hz5 e6
    refine ⟨_, rfl, _, rfl, p, l, _, rfl, hp6, hl6, nl, by rw [len]; decide, by rw [len]; decide, fun d2 x2 H7 e7 hp7 hx2 => ?_⟩
    obtain ⟨hl7, hz7⟩ := step hp6 hl6 hz6 e7
    refine ⟨_, rfl, p, 41, rfl, hp7, by decide, by decide, fun d3 H8 e8 hp8 hd3 => ⟨_, _, rfl, rfl, ?_⟩⟩
    obtain ⟨hl8, hz8⟩ := step hp7 hl7 hz7 e8
    obtain ⟨ra, za, rfl, ha1, ha2⟩ := pick hx1
    obtain ⟨rb, zb, rfl, hb1, hb2⟩ := pick hx2
    obtain ⟨nza, a1, a2⟩ := oz za (List.mem_of_getElem? ha2)
    obtain ⟨nzb, b1, b2⟩ := oz zb (List.mem_of_getElem? hb2)
    obtain ⟨za', ha3, ha4⟩ := paired_at2 hz8 ha1
    obtain ⟨zb', hb3, hb4⟩ := paired_at2 hz8 hb1
    cases ha2.symm.trans ha3
    cases hb2.symm.trans hb3
    refine ⟨ra, rb, (d3 : Int) - 20, za, zb, rfl, ha4, hb4, nza, nzb, a1, a2, b1, b2, (Bt.mono (n := 6) (by unfold Bt; omega) (by decide)), fun H9 e9 => ⟨_, rfl, itf ⟨_, rfl, hp8.up e9, e9 _ _ hl8, Paired.mapP hz8 fun _ _ h => PtI.up h e9⟩⟩⟩
  clear hp3 hl3 hz3 H4
  rintro σ' H3 ⟨o3, rfl, hp3, hl3, hz3⟩
  clear hp3
  refine ⟨fun σ' H' => ∃ lp qs, σ' = [some (.ref p), some (.ref l), o2, o3, some (.ref lp), none, none, none, none, none] ∧ Ex H3 H' ∧ H' lp = some (.lst (qs.map V.ref)) ∧ Paired (PtI H') qs (zs.map lw), ?_, ?_⟩
  · refine ⟨_, rfl, l, rfl, ⟨_, sq_of hl3⟩, fun D hD => ?_⟩
    refine lcE (walk_list (K := K) (a := l) (xs := rs.map V.ref)) (Chg.ex hD) zs (by rw [List.length_map, h8, l8]) (by rw [List.length_map, h8]; decide) (fun _ => true) (fun z v H => ∃ r, v = .ref r ∧ PtI H r (lw z)) ?_ ?_ (fun H5 e5 => sq_of (e5 _ _ hl3)) ?_ ?_
    · rintro y v H1 H2 e1 e2 ⟨r, h1, h2⟩
      exact ⟨r, h1, h2.up e2⟩
    · rintro y v H1 acc acc' hd ⟨r, h1, h2⟩
      exact ⟨r, h1, pt_ap hd h2⟩
    · rintro i y x H4 H5 N Gt hy e4 _ ⟨rfl, hx⟩ _ k
      rw [List.getElem?_map] at hx
      cases hr0 : rs[i]? with
      | none => rw [hr0] at hx; cases hx
      | some r =>
        rw [hr0] at hx
        cases hx
        obtain ⟨z, hzi, hzr⟩ := paired_at2 hz3 hr0
        cases hzi.symm.trans hy
        obtain ⟨nz, b1, b2⟩ := oz y (List.mem_of_getElem? hy)
        replace hzr := hzr.up e4
        refine ⟨rfl, ?_⟩
        refine ⟨_, rfl, r, _, 0, .int y.1, rfl, rfl, st_of hzr, rfl, _, rfl, r, _, 1, .int y.2, rfl, rfl, st_of hzr, rfl, y.1, y.2, rfl, nz, b2.mono (by decide), fun x H6 h6 e6 k6 => k rfl _ _ e6 ⟨x, rfl, k6⟩⟩
    · intro acc H4 e4 hD4 hacc
      rw [filter_yes] at hacc
      obtain ⟨qs, rfl, _, hq⟩ := pair_refs hacc
      exact ⟨D, qs, rfl, e4, hD4, paired_mapR (g := lw) (fun _ _ h => h) hq⟩
  rintro σ' H4 ⟨lp, qs, rfl, e4, hlp, hq⟩
  replace hl3 := e4 _ _ hl3
  replace hz3 := Paired.mapP hz3 fun _ _ h => PtI.up h e4
  clear e4 H3
  refine ⟨fun σ' H' => ∃ lg xs, σ' = [some (.ref p), some (.ref l), o2, o3, some (.ref lp), some (.ref lg), none, none, none, none] ∧ Ex H4 H' ∧ H' lg = some (.lst xs) ∧ Paired (fun (q : Int × Int) v => Num C H' v q.1 q.2) (zs.map lw ++ [(7, 1)]) xs, ?_, ?_⟩
  · refine ⟨_, rfl, l, rfl, ⟨_, sq_of hl3⟩, fun D hD => ?_⟩
    refine lcE (walk_list (K := K) (a := l) (xs := rs.map V.ref)) (Chg.ex hD) zs (by rw [List.length_map, h8, l8]) (by rw [List.length_map, h8]; decide) (fun _ => true) (fun z v H => RtV C (lw z) v H) ?_ ?_ (fun H5 e5 => sq_of (e5 _ _ hl3)) ?_ ?_
    · rintro y v H1 H2 e1 e2 h
      exact h.up e2
    · intro y v H1 acc acc' hd h
      exact Stab.rt.ap _ _ _ _ _ _ hd h
    · rintro i y x H5 H6 N Gt hy e5 _ ⟨rfl, hx⟩ _ k
      rw [List.getElem?_map] at hx
      cases hr0 : rs[i]? with
      | none => rw [hr0] at hx; cases hx
      | some r =>
        rw [hr0] at hx
        cases hx
        obtain ⟨z, hzi, hzr⟩ := paired_at2 hz3 hr0
        cases hzi.symm.trans hy
        obtain ⟨nz, b1, b2⟩ := oz y (List.mem_of_getElem? hy)
        replace hzr := hzr.up e5
        refine ⟨rfl, ?_⟩
        refine ⟨_, rfl, r, _, 0, .int y.1, rfl, rfl, st_of hzr, rfl, _, rfl, r, _, 1, .int y.2, rfl, rfl, st_of hzr, rfl, fun x dx hx hd ne => ?_⟩
        exact made_z hx hd ne nz (b1.mono (by decide)) (b2.mono (by decide)) fun H7 e7 r7 => ⟨rfl, k rfl _ _ e7 ⟨x, rfl, r7⟩⟩
    · intro acc H5 e5 hD5 hacc
      rw [filter_yes] at hacc
      have la : acc.length = 8 := by rw [← Paired.length hacc, l8]
      refine ⟨(by show 1 ≤ sizeLine; decide), fun l2 hl2 => ?_⟩
      have x2 := Ex.new (o := .lst [.int 7]) hl2
      refine ⟨D, l2, acc, _, rfl, rfl, x2 _ _ hD5, upd_same, (by rw [la]; show 9 ≤ sizeLine; decide), fun l3 h3 => ?_⟩
      have x3 := Ex.new (o := .lst (acc ++ [.int 7])) h3
      refine ⟨l3, _, rfl, e5.trans (x2.trans x3), upd_same, paired_app (paired_swap (paired_mapR (g := lw) (fun _ _ h => h) (paired_swap (Paired.mapP hacc fun y v h => ?_)))) (.cons (.inl ⟨rfl, rfl⟩) .nil)⟩
      obtain ⟨r, h1, h2⟩ := h.up (x2.trans x3)
      exact .inr ⟨r, h1, h2⟩
  rintro σ' H5 ⟨lg, gs, rfl, e5, hlg, hg⟩
  replace hlp := e5 _ _ hlp
  replace hq := Paired.mapP hq fun _ _ h => PtI.up h e5
  clear e5 hl3 hz3 H4
  have sm : Sm (zs.map lw ++ [(7, 1)]) := by
    refine ⟨by rw [List.length_append, List.length_map, l8]; decide, fun q hqm => ?_⟩
    rcases List.mem_append.mp hqm with hqm | hqm
    · obtain ⟨z, hzm, rfl⟩ := List.mem_map.mp hqm
      obtain ⟨nz, b1, b2⟩ := oz z hzm
      have := low_bt b1 b2 nz
      exact ⟨this.1, this.2, low_pos nz⟩
    · obtain rfl := List.mem_singleton.mp hqm
      exact ⟨by unfold Bt; decide +kernel, by unfold Bt; decide +kernel, by decide⟩
  have sm0 : Sm [] := ⟨by decide, fun _ h => nomatch h⟩
  have t0 : totalM [] = (0, 1) := rfl
  have hl9 : gs.length = 9 := by rw [← Paired.length hg, List.length_append, List.length_map, l8]; rfl
  generalize hT : totalM (zs.map lw ++ [(7, 1)]) = tt
  have NU : ∀ {H6 : Hp}, Ex H5 H6 → Paired (fun (q : Int × Int) v => Num C H6 v q.1 q.2) (zs.map lw ++ [(7, 1)]) gs := fun e => Paired.mapP hg fun _ _ h => h.up e
  refine ⟨fun σ' H' => ∃ lt xs, σ' = [some (.ref p), some (.ref l), o2, o3, some (.ref lp), some (.ref lg), some (.ref lt), none, none, none] ∧ Ex H5 H' ∧ H' lt = some (.lst xs) ∧ Paired (fun (q : Int × Int) v => RtV C q v H') [tt, tt, tt, (0, 1)] xs, ?_, ?_⟩
  · refine ⟨rfl, _, rfl, lg, gs, _, rfl, .inl hlg, hg, sm, fun x1 H6 e6 r6 => ?_⟩
    refine ⟨rfl, _, rfl, lg, gs, rfl, .inl ⟨sq_of (e6 _ _ hlg), fun lq hlq => ?_⟩⟩
    have xq := Ex.new (o := .tup gs) hlq
    refine ⟨lq, gs, _, rfl, .inr upd_same, NU (e6.trans xq), sm, fun x2 H7 e7 r7 => ?_⟩
    have e57 := e6.trans (xq.trans e7)
    refine ⟨rfl, _, rfl, _, rfl, lg, gs, _, rfl, .inl (e57 _ _ hlg), NU e57, sm, fun x3 H8 e8 r8 => ?_⟩
    refine ⟨rfl, (by show 0 ≤ sizeLine; decide), fun l0 hl0 => ?_⟩
    have x0 := Ex.new (o := .lst []) hl0
    refine ⟨l0, [], [], rfl, .inl upd_same, .nil, sm0, fun x4 H9 e9 r9 => ?_⟩
    refine ⟨(by show 4 ≤ sizeLine; decide), fun lt hlt => ?_⟩
    have xt := Ex.new (o := .lst [.ref x1, .ref x2, .ref x3, .ref x4]) hlt
    rw [hT] at r6 r7 r8
    have e9t := e9.trans xt
    have e8t := x0.trans e9t
    have e7t := e8.trans e8t
    have e6t := xq.trans (e7.trans e7t)
    exact ⟨lt, _, rfl, e6.trans e6t, upd_same, .cons ⟨x1, rfl, r6.up e6t⟩ (.cons ⟨x2, rfl, r7.up e7t⟩ (.cons ⟨x3, rfl, r8.up e8t⟩ (.cons ⟨x4, rfl, r9.up xt⟩ .nil)))⟩
  rintro σ' H6 ⟨lt, xs, rfl, e6, hlt, hx⟩
  replace hlp := e6 _ _ hlp
  replace hq := Paired.mapP hq fun _ _ h => PtI.up h e6
  clear e6 hg hlg NU H5
  have q8 : qs.length = 8 := by rw [Paired.length hq, List.length_map, l8]
  refine ⟨fun σ' H' => σ' = [some (.ref p), some (.ref l), o2, o3, some (.ref lp), some (.ref lg), some (.ref lt), none, none, none], ?_, ?_⟩
  · refine ⟨_, rfl, lt, xs, _, rfl, hlt, hx, (by show 4 ≤ 100; decide), fun lz rz H7 h7 e7 k7 p7 => ?_⟩
    refine ⟨_, rfl, (by show 2 ≤ sizeLine; decide), fun t1 ht1 => ?_⟩
    have x1 := Ex.new (o := .tup [.int 7, .int 1]) ht1
    refine ⟨(by show 1 ≤ sizeLine; decide), fun t2 ht2 => ?_⟩
    have x2 := Ex.new (o := .lst [.ref t1]) ht2
    refine ⟨lp, t2, _, [.ref t1], rfl, rfl, (e7.trans (x1.trans x2)) _ _ hlp, upd_same, (by rw [List.length_map, q8]; show 9 ≤ sizeLine; decide), fun t3 ht3 => ?_⟩
    have x3 := Ex.new (o := .lst (qs.map V.ref ++ [.ref t1])) ht3
    refine ⟨t3, qs ++ [t1], _, rfl, (by rw [upd_same, List.map_append]; rfl), paired_app (Paired.mapP hq fun _ _ h => PtI.up h (e7.trans (x1.trans (x2.trans x3)))) (.cons (b := ((7 : Int), (1 : Int))) ((x2.trans x3) _ _ upd_same) .nil), sm, fun rT H8 e8 p8 => ?_⟩
    rw [hT] at p8
    refine ⟨(by show 1 ≤ sizeLine; decide), fun t4 ht4 => ?_⟩
    have x4 := Ex.new (o := .lst [.ref rT]) ht4
    refine ⟨t4, 3, [.ref rT], rfl, rfl, upd_same, by decide, by decide, by show 3 ≤ sizeLine; decide, fun t5 ht5 => ?_⟩
    have x5 := Ex.new (o := .lst [.ref rT, .ref rT, .ref rT]) ht5
    refine ⟨(by show 2 ≤ sizeLine; decide), fun t6 ht6 => ?_⟩
    have x6 := Ex.new (o := .tup [.int 0, .int 1]) ht6
    refine ⟨(by show 1 ≤ sizeLine; decide), fun t7 ht7 => ?_⟩
    have x7 := Ex.new (o := .lst [.ref t6]) ht7
    refine ⟨t5, t7, [.ref rT, .ref rT, .ref rT], [.ref t6], rfl, rfl, (x6.trans x7) _ _ upd_same, upd_same, (by show 4 ≤ sizeLine; decide), fun t8 ht8 => ?_⟩
    have x8 := Ex.new (o := .lst [.ref rT, .ref rT, .ref rT, .ref t6]) ht8
    have e58 := x6.trans (x7.trans x8)
    have e48 := x4.trans (x5.trans e58)
    have e78 := x1.trans (x2.trans (x3.trans (e8.trans e48)))
    have pT := PtI.up p8 e48
    refine ⟨_, _, dp_plI (rs := rz) (l := [tt, tt, tt, (0, 1)]) (e78 _ _ k7) (Paired.mapP p7 fun _ _ h => PtI.up h e78), dp_plI (rs := [rT, rT, rT, t6]) (l := [tt, tt, tt, (0, 1)]) upd_same (.cons pT (.cons pT (.cons pT (.cons ((x7.trans x8) _ _ upd_same) .nil)))), psI_sh _, psI_sh _, ?_⟩
    rw [psI_eqv, decide_eq_true rfl]
    exact ⟨_, rfl, itf rfl⟩
  rintro σ' H7 rfl
  clear hx hlt hlp hq H6
  refine ⟨fun σ' H' => ∃ lv xs, σ' = [some (.ref p), some (.ref l), o2, o3, some (.ref lp), some (.ref lg), some (.ref lt), some (.ref lv), none, none] ∧ H' lv = some (.lst xs) ∧ Paired (KV K C H') [(true, true), (true, true), (true, false), (true, true), (false, false), (false, false), (false, false), (false, false), (false, false), (false, false), (true, true)] xs, ?_, ?_⟩
  · refine ⟨_, rfl, ?_⟩
    refine ⟨(by show 1 ≤ sizeLine; decide), fun a1 h1 => ?_⟩
    have x1 := Ex.new (o := .lst [.int 1]) h1
    refine ⟨(by show 2 ≤ sizeLine; decide), fun a2 h2 => ?_⟩
    have x2 := Ex.new (o := .tup [.int 1, .int 2]) h2
    refine ⟨_, _, rfl, rfl, ⟨by decide, by decide, by decide⟩, ?_⟩
    refine ⟨(by show 11 ≤ sizeLine; decide), fun a3 h3 => ?_⟩
    have x3 : Ex _ (upd _ a3 (.lst [.int 0, .int 1, .int (-1), .int 5, .bl true, .bl false, .non, .str "1", .ref a1, .ref a2, .int (10 ^ 5)])) := Ex.new h3
    exact ⟨a3, _, rfl, upd_same, .cons (kv_int R 0) (.cons (kv_int R 1) (.cons (kv_int R (-1)) (.cons (kv_int R 5) (.cons (kv_bl R true) (.cons (kv_bl R false) (.cons (kv_non R) (.cons (kv_str R _) (.cons (kv_lst R ((x2.trans x3) _ _ upd_same)) (.cons (kv_tup R (x3 _ _ upd_same)) (.cons (kv_int R (10 ^ 5)) .nil))))))))))⟩
  rintro σ' H8 ⟨lv, xs, rfl, hlv, hx⟩
  have l11 : xs.length = 11 := by rw [← Paired.length hx]; rfl
  refine ⟨fun σ' H' => ∃ lt ys, σ' = [some (.ref p), some (.ref l), o2, o3, some (.ref lp), some (.ref lg), some (.ref lt), some (.ref lv), none, none] ∧ H' lt = some (.lst ys) ∧ Paired (fun (y : List Bool) v => ∃ r, v = V.ref r ∧ H' r = some (.lst (y.map V.bl))) [[true, true, true], [true, true, true], [true, true, false], [true, true, true], [false, false, false], [false, false, false], [false, false, false], [false, false, false], [false, false, false], [false, false, false], [true, true, true]] ys, ?_, ?_⟩
  · refine ⟨_, rfl, lv, rfl, ⟨_, sq_of hlv⟩, fun D hD => ?_⟩
    refine lcE (walk_list (K := K) (a := lv) (xs := xs)) (Chg.ex hD) [(true, true), (true, true), (true, false), (true, true), (false, false), (false, false), (false, false), (false, false), (false, false), (false, false), (true, true)] l11 (by rw [l11]; decide) (fun _ => true) (fun z v H => RowB D [z.1, z.1, z.2] v H) ?_ ?_ (fun H5 e5 => sq_of (e5 _ _ hlv)) ?_ ?_
    · rintro y v H1 H2 e1 e2 ⟨r, h1, h2, h3⟩
      exact ⟨r, h1, h2, e2 _ _ h3⟩
    · rintro y v H1 acc acc' hd ⟨r, h1, h2, h3⟩
      exact ⟨r, h1, h2, by rw [upd_ne h2]; exact h3⟩
    · rintro i y x H5 H6 N Gt hy e5 ⟨ac, hac⟩ ⟨rfl, hxi⟩ _ k
      obtain ⟨y', hy', i1, b1, r1, kd, k1, k2, k3⟩ := paired_at hx hxi
      cases hy'.symm.trans hy
      refine ⟨rfl, ?_⟩
      replace kd := kd.up e5
      refine ⟨_, rfl, x, i1, b1, r1, rfl, kd, fun H7 e7 => ?_⟩
      refine ⟨_, rfl, x, i1, b1, r1, rfl, kd.up e7, fun H8 e8 => ?_⟩
      refine ⟨_, rfl, x, i1, b1, r1, y.2, rfl, kd.up (e7.trans e8), ?_, fun H9 e9 => ?_⟩
      · rw [k2]; exact k3
      refine ⟨(by show 3 ≤ sizeLine; decide), fun r hr => ?_⟩
      rw [k1, k2]
      have e := e7.trans (e8.trans e9)
      refine k rfl _ _ (e.trans (Ex.new hr)) ⟨r, rfl, fun z => ?_, upd_same⟩
      rw [z, e _ _ hac] at hr
      cases hr
    · intro acc H5 e5 hD5 hacc
      rw [filter_yes] at hacc
      refine ⟨D, acc, rfl, hD5, ?_⟩
      exact paired_swap (paired_mapR (g := fun z : Bool × Bool => [z.1, z.1, z.2]) (G := fun v (y : List Bool) => ∃ r, v = V.ref r ∧ H5 r = some (.lst (y.map V.bl))) (fun _ _ h => h) (paired_swap (Paired.mapP hacc fun y v ⟨r, h1, _, h3⟩ => ⟨r, h1, h3⟩)))
  rintro σ' H9 ⟨l2, ys, rfl, hl2, hy⟩
  clear hx hlv l11
  refine ⟨fun σ' H' => ∃ ld ds, σ' = [some (.ref p), some (.ref l), o2, o3, some (.ref lp), some (.ref lg), some (.ref l2), some (.ref lv), some (.ref ld), none] ∧ Ex H9 H' ∧ H' ld = some (.lst ds) ∧ ds.length = 4 ∧ Paired (fun (y : List Bool) v => ∃ r, v = V.ref r ∧ H' r = some (.lst (y.map V.bl))) [[true, true, true], [true, true, true], [true, true, false], [true, true, true]] ds, ?_, ?_⟩
  · refine ⟨(by show 3 ≤ sizeLine; decide), fun a1 h1 => ?_⟩
    have x1 := Ex.new (o := .lst ([true, true, true].map V.bl)) h1
    refine ⟨(by show 3 ≤ sizeLine; decide), fun a2 h2 => ?_⟩
    have x2 := Ex.new (o := .lst ([true, true, true].map V.bl)) h2
    refine ⟨(by show 3 ≤ sizeLine; decide), fun a3 h3 => ?_⟩
    have x3 := Ex.new (o := .lst ([true, true, false].map V.bl)) h3
    refine ⟨(by show 3 ≤ sizeLine; decide), fun a4 h4 => ?_⟩
    have x4 := Ex.new (o := .lst ([true, true, true].map V.bl)) h4
    refine ⟨(by show 4 ≤ sizeLine; decide), fun a5 h5 => ?_⟩
    have x5 := Ex.new (o := .lst [.ref a1, .ref a2, .ref a3, .ref a4]) h5
    exact ⟨a5, _, rfl, x1.trans (x2.trans (x3.trans (x4.trans x5))), upd_same, rfl, .cons ⟨a1, rfl, (x2.trans (x3.trans (x4.trans x5))) _ _ upd_same⟩ (.cons ⟨a2, rfl, (x3.trans (x4.trans x5)) _ _ upd_same⟩ (.cons ⟨a3, rfl, (x4.trans x5) _ _ upd_same⟩ (.cons ⟨a4, rfl, x5 _ _ upd_same⟩ .nil)))⟩
  rintro σ' Ha ⟨ld, ds, rfl, ea, hld, ld4, hds⟩
  replace hl2 := ea _ _ hl2
  replace hy := Paired.mapP hy fun y v ⟨r, h1, h2⟩ => (⟨r, h1, ea _ _ h2⟩ : ∃ r, v = V.ref r ∧ Ha r = some (HO.lst (y.map V.bl)))
  clear ea H9
  refine ⟨_, rfl, _, rfl, 6, rfl, by decide, by decide, fun D hD => ?_⟩
  refine lcE (walk_range (lo := 0) (n := 6)) (Chg.ex hD) (List.range 6) rfl (by decide) (fun _ => true) (fun z v H => RowB D [false, false, false] v H) ?_ ?_ (fun _ _ => trivial) ?_ ?_
  · rintro y v H1 H2 e1 e2 ⟨r, h1, h2, h3⟩
    exact ⟨r, h1, h2, e2 _ _ h3⟩
  · rintro y v H1 acc acc' hd ⟨r, h1, h2, h3⟩
    exact ⟨r, h1, h2, by rw [upd_ne h2]; exact h3⟩
  · rintro i y x H5 H6 N Gt hy e5 ⟨ac, hac⟩ ⟨rfl, rfl⟩ _ k
    refine ⟨rfl, ?_⟩
    refine ⟨(by show 1 ≤ sizeLine; decide), fun r hr => ?_⟩
    have x1 := Ex.new (o := .lst [.bl false]) hr
    refine ⟨r, 3, [.bl false], rfl, rfl, upd_same, by decide, by decide, by show 3 ≤ sizeLine; decide, fun r2 hr2 => ?_⟩
    refine k rfl _ _ (x1.trans (Ex.new hr2)) ⟨r2, rfl, fun z => ?_, upd_same⟩
    rw [z, x1 _ _ hac] at hr2
    cases hr2
  · intro acc H5 e5 hD5 hacc
    rw [filter_yes] at hacc
    have l6 : acc.length = 6 := by rw [← Paired.length hacc]; rfl
    refine ⟨ld, D, ds, acc, rfl, rfl, e5 _ _ hld, hD5, (by rw [ld4, l6]; show 10 ≤ sizeLine; decide), fun b1 hb1 => ?_⟩
    have x1 := Ex.new (o := .lst (ds ++ acc)) hb1
    refine ⟨(by show 3 ≤ sizeLine; decide), fun b2 hb2 => ?_⟩
    have x2 := Ex.new (o := .lst ([true, true, true].map V.bl)) hb2
    refine ⟨(by show 1 ≤ sizeLine; decide), fun b3 hb3 => ?_⟩
    have x3 := Ex.new (o := .lst [.ref b2]) hb3
    refine ⟨b1, b3, ds ++ acc, [.ref b2], rfl, rfl, (x2.trans x3) _ _ upd_same, upd_same, (by rw [List.length_append, ld4, l6]; show 11 ≤ sizeLine; decide), fun b4 hb4 => ?_⟩
    have x4 := Ex.new (o := .lst (ds ++ acc ++ [.ref b2])) hb4
    have e := x1.trans (x2.trans (x3.trans x4))
    have er := e5.trans e
    have hb4' : upd (upd (upd (upd H5 b1 (.lst (ds ++ acc))) b2 (.lst [.bl true, .bl true, .bl true])) b3 (.lst [.ref b2])) b4 (.lst (ds ++ acc ++ [.ref b2])) b4 = some (.lst (ds ++ acc ++ [.ref b2])) := upd_same
    have hb2' := (x3.trans x4) _ _ (upd_same (H := upd H5 b1 (.lst (ds ++ acc))) (a := b2) (o := .lst [.bl true, .bl true, .bl true]))
    generalize upd (upd (upd (upd H5 b1 (.lst (ds ++ acc))) b2 (.lst [.bl true, .bl true, .bl true])) b3 (.lst [.ref b2])) b4 (.lst (ds ++ acc ++ [.ref b2])) = HF at e er hb4' hb2' ⊢
    have P1 : Paired (fun (y : List Bool) v => ∃ r, v = V.ref r ∧ HF r = some (.lst (y.map V.bl))) [[true, true, true], [true, true, true], [true, true, false], [true, true, true]] ds := Paired.mapP hds fun y v ⟨r, h1, h2⟩ => ⟨r, h1, er _ _ h2⟩
    have P2 : Paired (fun (y : List Bool) v => ∃ r, v = V.ref r ∧ HF r = some (.lst (y.map V.bl))) ((List.range 6).map fun _ => [false, false, false]) acc := paired_swap (paired_mapR (g := fun _ : Nat => [false, false, false]) (G := fun v (y : List Bool) => ∃ r, v = V.ref r ∧ HF r = some (HO.lst (y.map V.bl))) (fun _ _ h => h) (paired_swap (Paired.mapP hacc fun y v ⟨r, h1, _, h3⟩ => ⟨r, h1, e _ _ h3⟩)))
    have P3 : Paired (fun (y : List Bool) v => ∃ r, v = V.ref r ∧ HF r = some (.lst (y.map V.bl))) [[true, true, true]] [V.ref b2] := .cons ⟨b2, rfl, hb2'⟩ .nil
    have P0 : Paired (fun (y : List Bool) v => ∃ r, v = V.ref r ∧ HF r = some (.lst (y.map V.bl))) [[true, true, true], [true, true, true], [true, true, false], [true, true, true], [false, false, false], [false, false, false], [false, false, false], [false, false, false], [false, false, false], [false, false, false], [true, true, true]] ys := Paired.mapP hy fun y v ⟨r, h1, h2⟩ => ⟨r, h1, er _ _ h2⟩
    refine ⟨_, _, Dp.lst (.inl (.inl (er _ _ hl2))) (dp_rows P0), Dp.lst (.inl (.inl hb4')) (dp_rows (paired_app (paired_app P1 P2) P3)), (by decide +kernel), (by decide +kernel), ?_⟩
    exact q _
theorem sc_law : FnScope ["script"] ["script"] (defScope (top 36)) := ⟨rfl, rfl, rfl, by decide +kernel, rfl, by decide +kernel, by decide +kernel⟩
theorem ok_law (F : Fun K "law" "law" (top 36) f fd) (T : Tx mg) (C__law_pot : ClO P w K mg base "_law_pot" 1 ["script", "k"] (spPot K)) (C__law_right : Cl P w K mg base "_law_right" 9 ["pot"] spRight) : FnG P w K mg base 10 f fd ["script"] (spLaw K) := by
  have sc := sc_law
  refine okG F sc (fun vs H Q E h => ?_) (fun cdv A outer s H vs Q gd0 hr h => ?_)
  · obtain ⟨a, ns, rfl, _⟩ := h; rfl
  have gd := deeper_guards (env := envOfC "law" (defScope (top 36)) s.heap.objs.size f cdv) gd0
  obtain ⟨a, ns, rfl, hS, h63, q⟩ := h
  refine ⟨_, (pss_one (ps_ret (pe_cl C__law_right gd (hr.mono (by first | decide | omega)) (pa_cons (pe_clo C__law_pot (hr.mono (by first | decide | omega)) (pa_cons (pv 0) (pa_cons pe_int pa_nil))) pa_nil)))), ?_⟩
  exact ⟨_, rfl, a, ns, rfl, hS, fun p H1 h0 e1 hp => ⟨p, rfl, hp, q⟩⟩
end
end B71

namespace B71
open PySem PySem.Spec PyProof.Rows L2
/-! ### from a guarded promise of the law's def to the row's walk -/
/-- a heap of which at most the script at a is known, as a frozen list that is none of the written part's -/
def Sole (K : PySem.W.Frag) (a : Addr) (H : Hp) : Prop := ∀ b, H b = none ∨ (b = a ∧ K.lookup a = none ∧ ∃ ob zs, H b = some (.frz ob (.lst zs)))
section
variable {P : Program} {w : World} {K : PySem.W.Frag} {mg mb : Str → Option Value} {k : Nat} {fa a : Addr} {fd : FuncData} {x : Str} {sp : Sp} {st : Shared} {us : List Value}
theorem law_from {H : Hp} (kin : K.In st.heap) (ng : st.heap.Ns mainGlobals mg) (nb : st.heap.Ns builtinsNs mb) (bt : ∀ y : Str, y ≠ "__name__" → mb y = bootBuiltins y) (nl : st.heap.NoLimit) (ge : st.gens = #[])
    (hs : st.heap.get? a = some { cls := .type "list", data := .seq us.toArray }) (room : Room k callerA) (FG : ∀ bs : Heap, K.In bs → bs.Ns mainGlobals mg → FnG P w K mg bs k fa fd [x] sp)
    (bd : ∀ (s : Shared) (u : Value), BindsTo s fd ⟨[u], []⟩ [(x, u)]) (sole : Sole K a H) (ok : HOk P w H st.heap) (ask : sp [.ref a] H (fun r _ => r = .bl true) E0) :
    codeAny (model P w) callerA (.call (.ref fa) ⟨[.ref a], []⟩) (fun r t => r = .ok (.ret (.bool true)) ∧ OldK st.heap t.heap ∧ t.os = st.os ∧ AllBare t.gens) st := by
  -- what is not the script is hidden from nobody
  have away : ∀ {b : Addr}, H b ≠ none → b = a ∧ K.lookup a = none := fun {b} h => (sole b).elim (fun z => absurd z h) fun z => ⟨z.1, z.2.1⟩
  have dicts : ∀ {b : Addr} {m : Str → Option Value}, st.heap.Ns b m → (hidT st.heap H).Ns b m := by
    rintro b m ⟨ob, es, ep, g1, g2, g3⟩
    refine ⟨ob, es, ep, hidT_get g1 ?_, g2, g3⟩
    refine Classical.byContradiction fun h => ?_
    obtain ⟨rfl, _⟩ := away h
    cases hs.symm.trans g1
    cases g2
  have kin' : K.In (hidT st.heap H) := fun b ob g => hidT_get (kin b ob g) (Classical.byContradiction fun h => by
    obtain ⟨rfl, h2⟩ := away h
    cases h2.symm.trans g)
  obtain ⟨mc, c1, c2⟩ := nl
  have env : Env0 P w K mg (hidT st.heap H) callerA [] st H :=
    { frames := rfl, mod := { kin := kin', glob := dicts ng, blt := ⟨mb, dicts nb, bt⟩, nolimit := ⟨mc, dicts c1, c2⟩ }, bs := fun b ob g => of_hidT g, bsz := Nat.le_of_eq (hidT_size _ _), funs := trivial, frf := fun b hb => (List.not_mem_nil hb).elim, hok := ok, bare := .of_eq ge }
  have run := (FG _ kin' (dicts ng)).go callerA [] st H ⟨[.ref a], []⟩ [.ref a] [.ref a] (fun r _ => r = .bl true) rfl room env (bd st (.ref a)) (.cons rfl .nil) ask
  refine codeAny_mono run fun r t h => ?_
  match r, h with
  | .error e, h => exact False.elim h
  | .ok .next, h => exact False.elim h
  | .ok .brk, h => exact False.elim h
  | .ok .cont, h => exact False.elim h
  | .ok (.ret u), h =>
    obtain ⟨v, G, o1, o2, un, ok', rv, hv⟩ := h
    subst hv
    cases (show u = Value.bool true from rv)
    refine ⟨rfl, OldK.of_keep fun b ob g => ?_, o1, o2⟩
    rcases sole b with z | ⟨_, _, o', zs, z⟩
    · exact un.keep b ob g z (List.not_mem_nil) (List.not_mem_nil)
    · have k1 := (ok b _ z).1
      have k2 := (ok' b _ (un.frzs b o' _ z)).1
      rw [g] at k1
      rw [k2, ← k1]
end
theorem walkG {l : PySem.W.OpenLaw} {n k : Nat} {q : Program} {loose : List Str} {XP : (Str → Option Value) → Heap → Prop} {YP : World → Heap → Prop} {d : DefRec} {K : Params → PySem.W.Frag} {sp : PySem.W.Frag → Sp} {x : Str}
    (most : l.most = some n) (small : n ≤ sizeLine) (plain : d.params.defaults = []) (room : Room k callerA) (kin : ∀ (w : World) (h : Heap), YP w h → (K w.params).In h)
    (defs : ∀ (w : World) (mg : Str → Option Value) (fa : Addr) (h : Heap), (K w.params).In h → h.Ns mainGlobals mg → mg d.name = some (.ref fa) →
      ∃ fd : FuncData, (∀ (s : Shared) (u : Value), BindsTo s fd ⟨[u], []⟩ [(x, u)]) ∧ ∀ bs : Heap, (K w.params).In bs → bs.Ns mainGlobals mg → FnG l.prog w (K w.params) mg bs k fa fd [x] (sp (K w.params)))
    (ask : ∀ (F : PySem.W.Frag) (H : Hp) (a : Addr) (ns : List Int), ns.length ≤ n → SqL F H a (ns.map V.int) → sp F [.ref a] H (fun r _ => r = .bl true) E0) : PySem.W.WalkO q loose XP YP l.row.toRowW d [] (fun f vs => PySem.call f vs) := by
  refine Att.attach_call most plain fun w s0 st mg mb fa o pm cd doc a us ns G Y ho hd hcd hmg hobj hni len gens => ?_
  have KX := kin w _ Y
  obtain ⟨fd, bd, FG⟩ := defs w mg fa _ KX G.T.g hmg
  have rv := vals_ints hni
  have lu := hni.length
  have len' : ns.length ≤ sizeLine := Nat.le_trans len small
  cases hk : (K w.params).lookup a with
  | some ob =>
    -- the script stands in the written part
    have g := KX a ob hk
    cases hobj.symm.trans g
    have sq : SqL (K w.params) (fun _ => none) a (ns.map V.int) := .inr ⟨_, us.toArray, _, hk, rfl, rfl, rfl, by rw [List.size_toArray, lu]; exact len', by simpa using rv⟩
    exact law_from (H := fun _ => none) KX G.T.g G.T.b G.T.builtins G.T.nolimit gens hobj room FG bd (fun _ => .inl rfl) (fun b u z => by cases (show (none : Option HO) = some u from z)) (ask _ _ a ns len sq)
  | none =>
    have at_a : ∀ {u : HO}, (fun b => if b = a then some (HO.frz { cls := .type "list", data := .seq us.toArray } (.lst (ns.map V.int))) else none : Hp) a = some u → u = .frz { cls := .type "list", data := .seq us.toArray } (.lst (ns.map V.int)) := fun z => by
      simp only [if_pos] at z
      exact (Option.some.inj z).symm
    refine law_from (H := fun b => if b = a then some (.frz { cls := .type "list", data := .seq us.toArray } (.lst (ns.map V.int))) else none) KX G.T.g G.T.b G.T.builtins G.T.nolimit gens hobj room FG bd (fun b => ?_) (fun b u z => ?_) (ask _ _ a ns len (.inl (.inr ⟨{ cls := .type "list", data := .seq us.toArray }, if_pos rfl⟩)))
    · by_cases e : b = a
      · exact .inr ⟨e, hk, _, _, if_pos e⟩
      · exact .inl (if_neg e)
    · by_cases e : b = a
      · subst e
        cases at_a z
        exact ⟨hobj, by rw [List.length_map]; exact len', us, _, rv, hobj⟩
      · simp only [if_neg e] at z
        cases z
end B71

namespace B71
open PySem PySem.Spec PyProof.Rows L2
theorem kit_to {K : PySem.W.Frag} {C : Addr} {T : String} {cd : ClassData} {b : Bool} (h1 : PySem.W.clsIn K C = some cd) (h2 : PySem.W.typeIn K (.ref C) = some (.type "type")) (h3 : PySem.W.subIn K (.type T) (.ref C) = some b) : PySem.W.kitOne K (.type T) (.ref C) = some b := by
  have e : (Value.type T == Value.ref C) = false := Bool.eq_false_iff.mpr fun q => by cases beq_iff_eq.mp q
  unfold PySem.W.kitOne
  rw [e, if_neg Bool.false_ne_true]
  show (if ((PySem.W.clsIn K C).isSome && PySem.W.typeIn K (.ref C) == some (.type "type")) = true then PySem.W.subIn K (.type T) (.ref C) else none) = some b
  rw [h1, h2, if_pos (by simp), h3]
theorem kit_from {K : PySem.W.Frag} {C : Addr} {T : String} {b : Bool} (h1 : PySem.W.kitMeta T = true) (h3 : PySem.W.subIn K (.ref C) (.type T) = some b) : PySem.W.kitOne K (.ref C) (.type T) = some b := by
  have e : (Value.ref C == Value.type T) = false := Bool.eq_false_iff.mpr fun q => by cases beq_iff_eq.mp q
  unfold PySem.W.kitOne
  rw [e, if_neg Bool.false_ne_true]
  show (if PySem.W.kitMeta T = true then PySem.W.subIn K (.ref C) (.type T) else none) = some b
  rw [if_pos h1, h3]
theorem all_mk {l : PySem.W.OpenLaw} {w : World} {K : PySem.W.Frag} {h : Heap} {mg : Str → Option Value} {fa C T0 q5 : Addr} (X : K.In h) (G : h.Ns mainGlobals mg) (hfa : mg "law" = some (.ref fa))
    {f6 : Addr} {od6 an6 : Option Addr} {sl6 : Array (Option Value)} {oc6 kV6 dc6 pm6 cd6 ct6 : Value}
    {f7 : Addr} {od7 an7 : Option Addr} {sl7 : Array (Option Value)} {oc7 kV7 dc7 pm7 cd7 ct7 : Value}
    {f8 : Addr} {od8 an8 : Option Addr} {sl8 : Array (Option Value)} {oc8 kV8 dc8 pm8 cd8 ct8 : Value}
    {f11 : Addr} {od11 an11 : Option Addr} {sl11 : Array (Option Value)} {oc11 kV11 dc11 pm11 cd11 ct11 : Value}
    {f12 : Addr} {od12 an12 : Option Addr} {sl12 : Array (Option Value)} {oc12 kV12 dc12 pm12 cd12 ct12 : Value}
    {f14 : Addr} {od14 an14 : Option Addr} {sl14 : Array (Option Value)} {oc14 kV14 dc14 pm14 cd14 ct14 : Value}
    {f15 : Addr} {od15 an15 : Option Addr} {sl15 : Array (Option Value)} {oc15 kV15 dc15 pm15 cd15 ct15 : Value}
    {f16 : Addr} {od16 an16 : Option Addr} {sl16 : Array (Option Value)} {oc16 kV16 dc16 pm16 cd16 ct16 : Value}
    {f17 : Addr} {od17 an17 : Option Addr} {sl17 : Array (Option Value)} {oc17 kV17 dc17 pm17 cd17 ct17 : Value}
    {f18 : Addr} {od18 an18 : Option Addr} {sl18 : Array (Option Value)} {oc18 kV18 dc18 pm18 cd18 ct18 : Value}
    {f20 : Addr} {od20 an20 : Option Addr} {sl20 : Array (Option Value)} {oc20 kV20 dc20 pm20 cd20 ct20 : Value}
    {f21 : Addr} {od21 an21 : Option Addr} {sl21 : Array (Option Value)} {oc21 kV21 dc21 pm21 cd21 ct21 : Value}
    {f22 : Addr} {od22 an22 : Option Addr} {sl22 : Array (Option Value)} {oc22 kV22 dc22 pm22 cd22 ct22 : Value}
    {f23 : Addr} {od23 an23 : Option Addr} {sl23 : Array (Option Value)} {oc23 kV23 dc23 pm23 cd23 ct23 : Value}
    {f24 : Addr} {od24 an24 : Option Addr} {sl24 : Array (Option Value)} {oc24 kV24 dc24 pm24 cd24 ct24 : Value}
    {f25 : Addr} {od25 an25 : Option Addr} {sl25 : Array (Option Value)} {oc25 kV25 dc25 pm25 cd25 ct25 : Value}
    {f26 : Addr} {od26 an26 : Option Addr} {sl26 : Array (Option Value)} {oc26 kV26 dc26 pm26 cd26 ct26 : Value}
    {f27 : Addr} {od27 an27 : Option Addr} {sl27 : Array (Option Value)} {oc27 kV27 dc27 pm27 cd27 ct27 : Value}
    {f28 : Addr} {od28 an28 : Option Addr} {sl28 : Array (Option Value)} {oc28 kV28 dc28 pm28 cd28 ct28 : Value}
    {f29 : Addr} {od29 an29 : Option Addr} {sl29 : Array (Option Value)} {oc29 kV29 dc29 pm29 cd29 ct29 : Value}
    {f30 : Addr} {od30 an30 : Option Addr} {sl30 : Array (Option Value)} {oc30 kV30 dc30 pm30 cd30 ct30 : Value}
    {f31 : Addr} {od31 an31 : Option Addr} {sl31 : Array (Option Value)} {oc31 kV31 dc31 pm31 cd31 ct31 : Value}
    {f32 : Addr} {od32 an32 : Option Addr} {sl32 : Array (Option Value)} {oc32 kV32 dc32 pm32 cd32 ct32 : Value}
    {f33 : Addr} {od33 an33 : Option Addr} {sl33 : Array (Option Value)} {oc33 kV33 dc33 pm33 cd33 ct33 : Value}
    {f34 : Addr} {od34 an34 : Option Addr} {sl34 : Array (Option Value)} {oc34 kV34 dc34 pm34 cd34 ct34 : Value}
    {f35 : Addr} {od35 an35 : Option Addr} {sl35 : Array (Option Value)} {oc35 kV35 dc35 pm35 cd35 ct35 : Value}
    {f36 : Addr} {od36 an36 : Option Addr} {sl36 : Array (Option Value)} {oc36 kV36 dc36 pm36 cd36 ct36 : Value}
    {m0 : Addr} {mod0 man0 : Option Addr} {msl0 : Array (Option Value)} {moc0 mkV0 mdc0 mpm0 mcd0 mct0 : Value}
    {m1 : Addr} {mod1 man1 : Option Addr} {msl1 : Array (Option Value)} {moc1 mkV1 mdc1 mpm1 mcd1 mct1 : Value}
    {q1 : Addr} {rs1 : List Value}
    {m2 : Addr} {mod2 man2 : Option Addr} {msl2 : Array (Option Value)} {moc2 mkV2 mdc2 mpm2 mcd2 mct2 : Value}
    {q2 : Addr} {rs2 : List Value}
    {m3 : Addr} {mod3 man3 : Option Addr} {msl3 : Array (Option Value)} {moc3 mkV3 mdc3 mpm3 mcd3 mct3 : Value}
    {q3 : Addr} {rs3 : List Value}
    {m4 : Addr} {mod4 man4 : Option Addr} {msl4 : Array (Option Value)} {moc4 mkV4 mdc4 mpm4 mcd4 mct4 : Value}
    {q4 : Addr} {rs4 : List Value}
    {m5 : Addr} {mod5 man5 : Option Addr} {msl5 : Array (Option Value)} {moc5 mkV5 mdc5 mpm5 mcd5 mct5 : Value}
    {m6 : Addr} {mod6 man6 : Option Addr} {msl6 : Array (Option Value)} {moc6 mkV6 mdc6 mpm6 mcd6 mct6 : Value}
    {m7 : Addr} {mod7 man7 : Option Addr} {msl7 : Array (Option Value)} {moc7 mkV7 mdc7 mpm7 mcd7 mct7 : Value}
    {m8 : Addr} {mod8 man8 : Option Addr} {msl8 : Array (Option Value)} {moc8 mkV8 mdc8 mpm8 mcd8 mct8 : Value}
    {m9 : Addr} {mod9 man9 : Option Addr} {msl9 : Array (Option Value)} {moc9 mkV9 mdc9 mpm9 mcd9 mct9 : Value}
    {m10 : Addr} {mod10 man10 : Option Addr} {msl10 : Array (Option Value)} {moc10 mkV10 mdc10 mpm10 mcd10 mct10 : Value}
    {m11 : Addr} {mod11 man11 : Option Addr} {msl11 : Array (Option Value)} {moc11 mkV11 mdc11 mpm11 mcd11 mct11 : Value}
    {m12 : Addr} {mod12 man12 : Option Addr} {msl12 : Array (Option Value)} {moc12 mkV12 mdc12 mpm12 mcd12 mct12 : Value}
    {m13 : Addr} {mod13 man13 : Option Addr} {msl13 : Array (Option Value)} {moc13 mkV13 mdc13 mpm13 mcd13 mct13 : Value}
    {m14 : Addr} {mod14 man14 : Option Addr} {msl14 : Array (Option Value)} {moc14 mkV14 mdc14 mpm14 mcd14 mct14 : Value}
    {m15 : Addr} {mod15 man15 : Option Addr} {msl15 : Array (Option Value)} {moc15 mkV15 mdc15 mpm15 mcd15 mct15 : Value}
    {m16 : Addr} {mod16 man16 : Option Addr} {msl16 : Array (Option Value)} {moc16 mkV16 mdc16 mpm16 mcd16 mct16 : Value}
    {m17 : Addr} {mod17 man17 : Option Addr} {msl17 : Array (Option Value)} {moc17 mkV17 mdc17 mpm17 mcd17 mct17 : Value}
    {m18 : Addr} {mod18 man18 : Option Addr} {msl18 : Array (Option Value)} {moc18 mkV18 mdc18 mpm18 mcd18 mct18 : Value}
    {m19 : Addr} {mod19 man19 : Option Addr} {msl19 : Array (Option Value)} {moc19 mkV19 mdc19 mpm19 mcd19 mct19 : Value}
    {rs5 : List Value} {cdat : ClassData} {d0 : Option Addr} {n0 : Nat} {s0 : Array (Option Value)} {t0 : Tok} {tP : Tok}
    {ia ira is irs im irm : Option Value}
    (a6 : PySem.W.nsIn K mainGlobals "is_integer" = some (some (.ref f6)))
    (l6 : K.lookup f6 = some ⟨oc6, od6, .func (PySem.W.fnOf "is_integer" "is_integer" (defArgs (top 6)) (defBody (top 6)) (defScope (top 6)) .none kV6 dc6 pm6 an6 cd6 ct6), sl6⟩)
    (c6 : PySem.W.codeIn K cd6 "is_integer" = true)
    (k6 : PySem.W.keepIn K (.ref f6) = true)
    (a7 : PySem.W.nsIn K mainGlobals "is_count" = some (some (.ref f7)))
    (l7 : K.lookup f7 = some ⟨oc7, od7, .func (PySem.W.fnOf "is_count" "is_count" (defArgs (top 7)) (defBody (top 7)) (defScope (top 7)) .none kV7 dc7 pm7 an7 cd7 ct7), sl7⟩)
    (c7 : PySem.W.codeIn K cd7 "is_count" = true)
    (k7 : PySem.W.keepIn K (.ref f7) = true)
    (a8 : PySem.W.nsIn K mainGlobals "is_list" = some (some (.ref f8)))
    (l8 : K.lookup f8 = some ⟨oc8, od8, .func (PySem.W.fnOf "is_list" "is_list" (defArgs (top 8)) (defBody (top 8)) (defScope (top 8)) .none kV8 dc8 pm8 an8 cd8 ct8), sl8⟩)
    (c8 : PySem.W.codeIn K cd8 "is_list" = true)
    (k8 : PySem.W.keepIn K (.ref f8) = true)
    (a11 : PySem.W.nsIn K mainGlobals "digits_of" = some (some (.ref f11)))
    (l11 : K.lookup f11 = some ⟨oc11, od11, .func (PySem.W.fnOf "digits_of" "digits_of" (defArgs (top 11)) (defBody (top 11)) (defScope (top 11)) .none kV11 dc11 pm11 an11 cd11 ct11), sl11⟩)
    (c11 : PySem.W.codeIn K cd11 "digits_of" = true)
    (k11 : PySem.W.keepIn K (.ref f11) = true)
    (a12 : PySem.W.nsIn K mainGlobals "common_part" = some (some (.ref f12)))
    (l12 : K.lookup f12 = some ⟨oc12, od12, .func (PySem.W.fnOf "common_part" "common_part" (defArgs (top 12)) (defBody (top 12)) (defScope (top 12)) .none kV12 dc12 pm12 an12 cd12 ct12), sl12⟩)
    (c12 : PySem.W.codeIn K cd12 "common_part" = true)
    (k12 : PySem.W.keepIn K (.ref f12) = true)
    (a14 : PySem.W.nsIn K mainGlobals "told_pair" = some (some (.ref f14)))
    (l14 : K.lookup f14 = some ⟨oc14, od14, .func (PySem.W.fnOf "told_pair" "told_pair" (defArgs (top 14)) (defBody (top 14)) (defScope (top 14)) .none kV14 dc14 pm14 an14 cd14 ct14), sl14⟩)
    (c14 : PySem.W.codeIn K cd14 "told_pair" = true)
    (k14 : PySem.W.keepIn K (.ref f14) = true)
    (a15 : PySem.W.nsIn K mainGlobals "is_number" = some (some (.ref f15)))
    (l15 : K.lookup f15 = some ⟨oc15, od15, .func (PySem.W.fnOf "is_number" "is_number" (defArgs (top 15)) (defBody (top 15)) (defScope (top 15)) .none kV15 dc15 pm15 an15 cd15 ct15), sl15⟩)
    (c15 : PySem.W.codeIn K cd15 "is_number" = true)
    (k15 : PySem.W.keepIn K (.ref f15) = true)
    (a16 : PySem.W.nsIn K mainGlobals "ratio_of" = some (some (.ref f16)))
    (l16 : K.lookup f16 = some ⟨oc16, od16, .func (PySem.W.fnOf "ratio_of" "ratio_of" (defArgs (top 16)) (defBody (top 16)) (defScope (top 16)) .none kV16 dc16 pm16 an16 cd16 ct16), sl16⟩)
    (c16 : PySem.W.codeIn K cd16 "ratio_of" = true)
    (k16 : PySem.W.keepIn K (.ref f16) = true)
    (a17 : PySem.W.nsIn K mainGlobals "want_number" = some (some (.ref f17)))
    (l17 : K.lookup f17 = some ⟨oc17, od17, .func (PySem.W.fnOf "want_number" "want_number" (defArgs (top 17)) (defBody (top 17)) (defScope (top 17)) .none kV17 dc17 pm17 an17 cd17 ct17), sl17⟩)
    (c17 : PySem.W.codeIn K cd17 "want_number" = true)
    (k17 : PySem.W.keepIn K (.ref f17) = true)
    (a18 : PySem.W.nsIn K mainGlobals "total_of" = some (some (.ref f18)))
    (l18 : K.lookup f18 = some ⟨oc18, od18, .func (PySem.W.fnOf "total_of" "total_of" (defArgs (top 18)) (defBody (top 18)) (defScope (top 18)) .none kV18 dc18 pm18 an18 cd18 ct18), sl18⟩)
    (c18 : PySem.W.codeIn K cd18 "total_of" = true)
    (k18 : PySem.W.keepIn K (.ref f18) = true)
    (a20 : PySem.W.nsIn K mainGlobals "_law_pot" = some (some (.ref f20)))
    (l20 : K.lookup f20 = some ⟨oc20, od20, .func (PySem.W.fnOf "_law_pot" "_law_pot" (defArgs (top 20)) (defBody (top 20)) (defScope (top 20)) .none kV20 dc20 pm20 an20 cd20 ct20), sl20⟩)
    (c20 : PySem.W.codeIn K cd20 "_law_pot" = true)
    (k20 : PySem.W.keepIn K (.ref f20) = true)
    (a21 : PySem.W.nsIn K mainGlobals "_law_draw" = some (some (.ref f21)))
    (l21 : K.lookup f21 = some ⟨oc21, od21, .func (PySem.W.fnOf "_law_draw" "_law_draw" (defArgs (top 21)) (defBody (top 21)) (defScope (top 21)) .none kV21 dc21 pm21 an21 cd21 ct21), sl21⟩)
    (c21 : PySem.W.codeIn K cd21 "_law_draw" = true)
    (k21 : PySem.W.keepIn K (.ref f21) = true)
    (a22 : PySem.W.nsIn K mainGlobals "_law_pick" = some (some (.ref f22)))
    (l22 : K.lookup f22 = some ⟨oc22, od22, .func (PySem.W.fnOf "_law_pick" "_law_pick" (defArgs (top 22)) (defBody (top 22)) (defScope (top 22)) .none kV22 dc22 pm22 an22 cd22 ct22), sl22⟩)
    (c22 : PySem.W.codeIn K cd22 "_law_pick" = true)
    (k22 : PySem.W.keepIn K (.ref f22) = true)
    (a23 : PySem.W.nsIn K mainGlobals "_law_low" = some (some (.ref f23)))
    (l23 : K.lookup f23 = some ⟨oc23, od23, .func (PySem.W.fnOf "_law_low" "_law_low" (defArgs (top 23)) (defBody (top 23)) (defScope (top 23)) .none kV23 dc23 pm23 an23 cd23 ct23), sl23⟩)
    (c23 : PySem.W.codeIn K cd23 "_law_low" = true)
    (k23 : PySem.W.keepIn K (.ref f23) = true)
    (a24 : PySem.W.nsIn K mainGlobals "_law_sum" = some (some (.ref f24)))
    (l24 : K.lookup f24 = some ⟨oc24, od24, .func (PySem.W.fnOf "_law_sum" "_law_sum" (defArgs (top 24)) (defBody (top 24)) (defScope (top 24)) .none kV24 dc24 pm24 an24 cd24 ct24), sl24⟩)
    (c24 : PySem.W.codeIn K cd24 "_law_sum" = true)
    (k24 : PySem.W.keepIn K (.ref f24) = true)
    (a25 : PySem.W.nsIn K mainGlobals "_law_by" = some (some (.ref f25)))
    (l25 : K.lookup f25 = some ⟨oc25, od25, .func (PySem.W.fnOf "_law_by" "_law_by" (defArgs (top 25)) (defBody (top 25)) (defScope (top 25)) .none kV25 dc25 pm25 an25 cd25 ct25), sl25⟩)
    (c25 : PySem.W.codeIn K cd25 "_law_by" = true)
    (k25 : PySem.W.keepIn K (.ref f25) = true)
    (a26 : PySem.W.nsIn K mainGlobals "_law_less" = some (some (.ref f26)))
    (l26 : K.lookup f26 = some ⟨oc26, od26, .func (PySem.W.fnOf "_law_less" "_law_less" (defArgs (top 26)) (defBody (top 26)) (defScope (top 26)) .none kV26 dc26 pm26 an26 cd26 ct26), sl26⟩)
    (c26 : PySem.W.codeIn K cd26 "_law_less" = true)
    (k26 : PySem.W.keepIn K (.ref f26) = true)
    (a27 : PySem.W.nsIn K mainGlobals "_law_over" = some (some (.ref f27)))
    (l27 : K.lookup f27 = some ⟨oc27, od27, .func (PySem.W.fnOf "_law_over" "_law_over" (defArgs (top 27)) (defBody (top 27)) (defScope (top 27)) .none kV27 dc27 pm27 an27 cd27 ct27), sl27⟩)
    (c27 : PySem.W.codeIn K cd27 "_law_over" = true)
    (k27 : PySem.W.keepIn K (.ref f27) = true)
    (a28 : PySem.W.nsIn K mainGlobals "_law_total" = some (some (.ref f28)))
    (l28 : K.lookup f28 = some ⟨oc28, od28, .func (PySem.W.fnOf "_law_total" "_law_total" (defArgs (top 28)) (defBody (top 28)) (defScope (top 28)) .none kV28 dc28 pm28 an28 cd28 ct28), sl28⟩)
    (c28 : PySem.W.codeIn K cd28 "_law_total" = true)
    (k28 : PySem.W.keepIn K (.ref f28) = true)
    (a29 : PySem.W.nsIn K mainGlobals "_law_pair" = some (some (.ref f29)))
    (l29 : K.lookup f29 = some ⟨oc29, od29, .func (PySem.W.fnOf "_law_pair" "_law_pair" (defArgs (top 29)) (defBody (top 29)) (defScope (top 29)) .none kV29 dc29 pm29 an29 cd29 ct29), sl29⟩)
    (c29 : PySem.W.codeIn K cd29 "_law_pair" = true)
    (k29 : PySem.W.keepIn K (.ref f29) = true)
    (a30 : PySem.W.nsIn K mainGlobals "_law_pairs" = some (some (.ref f30)))
    (l30 : K.lookup f30 = some ⟨oc30, od30, .func (PySem.W.fnOf "_law_pairs" "_law_pairs" (defArgs (top 30)) (defBody (top 30)) (defScope (top 30)) .none kV30 dc30 pm30 an30 cd30 ct30), sl30⟩)
    (c30 : PySem.W.codeIn K cd30 "_law_pairs" = true)
    (k30 : PySem.W.keepIn K (.ref f30) = true)
    (a31 : PySem.W.nsIn K mainGlobals "_law_shown" = some (some (.ref f31)))
    (l31 : K.lookup f31 = some ⟨oc31, od31, .func (PySem.W.fnOf "_law_shown" "_law_shown" (defArgs (top 31)) (defBody (top 31)) (defScope (top 31)) .none kV31 dc31 pm31 an31 cd31 ct31), sl31⟩)
    (c31 : PySem.W.codeIn K cd31 "_law_shown" = true)
    (k31 : PySem.W.keepIn K (.ref f31) = true)
    (a32 : PySem.W.nsIn K mainGlobals "_law_raw" = some (some (.ref f32)))
    (l32 : K.lookup f32 = some ⟨oc32, od32, .func (PySem.W.fnOf "_law_raw" "_law_raw" (defArgs (top 32)) (defBody (top 32)) (defScope (top 32)) .none kV32 dc32 pm32 an32 cd32 ct32), sl32⟩)
    (c32 : PySem.W.codeIn K cd32 "_law_raw" = true)
    (k32 : PySem.W.keepIn K (.ref f32) = true)
    (a33 : PySem.W.nsIn K mainGlobals "_law_one_right" = some (some (.ref f33)))
    (l33 : K.lookup f33 = some ⟨oc33, od33, .func (PySem.W.fnOf "_law_one_right" "_law_one_right" (defArgs (top 33)) (defBody (top 33)) (defScope (top 33)) .none kV33 dc33 pm33 an33 cd33 ct33), sl33⟩)
    (c33 : PySem.W.codeIn K cd33 "_law_one_right" = true)
    (k33 : PySem.W.keepIn K (.ref f33) = true)
    (a34 : PySem.W.nsIn K mainGlobals "_law_two_right" = some (some (.ref f34)))
    (l34 : K.lookup f34 = some ⟨oc34, od34, .func (PySem.W.fnOf "_law_two_right" "_law_two_right" (defArgs (top 34)) (defBody (top 34)) (defScope (top 34)) .none kV34 dc34 pm34 an34 cd34 ct34), sl34⟩)
    (c34 : PySem.W.codeIn K cd34 "_law_two_right" = true)
    (k34 : PySem.W.keepIn K (.ref f34) = true)
    (a35 : PySem.W.nsIn K mainGlobals "_law_right" = some (some (.ref f35)))
    (l35 : K.lookup f35 = some ⟨oc35, od35, .func (PySem.W.fnOf "_law_right" "_law_right" (defArgs (top 35)) (defBody (top 35)) (defScope (top 35)) .none kV35 dc35 pm35 an35 cd35 ct35), sl35⟩)
    (c35 : PySem.W.codeIn K cd35 "_law_right" = true)
    (k35 : PySem.W.keepIn K (.ref f35) = true)
    (a36 : PySem.W.nsIn K mainGlobals "law" = some (some (.ref f36)))
    (l36 : K.lookup f36 = some ⟨oc36, od36, .func (PySem.W.fnOf "law" "law" (defArgs (top 36)) (defBody (top 36)) (defScope (top 36)) .none kV36 dc36 pm36 an36 cd36 ct36), sl36⟩)
    (c36 : PySem.W.codeIn K cd36 "law" = true)
    (k36 : PySem.W.keepIn K (.ref f36) = true)
    (aC : PySem.W.nsIn K mainGlobals "Ratio" = some (some (.ref C)))
    (e0 : PySem.W.findIn K (.ref C) "__init__" = some (some (.ref m0)))
    (i0 : PySem.W.isFn K (.ref m0) = true)
    (ml0 : K.lookup m0 = some ⟨moc0, mod0, .func (PySem.W.fnOf "__init__" "Ratio.__init__" (defArgs (sm 0)) (defBody (sm 0)) (defScope (sm 0)) (.ref T0) mkV0 mdc0 mpm0 man0 mcd0 mct0), msl0⟩)
    (mc0 : PySem.W.codeIn K mcd0 "Ratio.__init__" = true)
    (mk0 : PySem.W.keepIn K (.ref m0) = true)
    (e1 : PySem.W.findIn K (.ref C) "top" = some (some (.ref q1)))
    (pg1 : PySem.W.specialIn K (.ref q1) "__get__" = some (some (.builtin "property.__get__")))
    (pt1 : PySem.W.takesIn K (.ref q1) = some true)
    (pr1 : PySem.W.recIn K q1 "property" = some (.ref m1 :: rs1))
    (ml1 : K.lookup m1 = some ⟨moc1, mod1, .func (PySem.W.fnOf "top" "Ratio.top" (defArgs (sm 1)) (defBody (sm 1)) (defScope (sm 1)) .none mkV1 mdc1 mpm1 man1 mcd1 mct1), msl1⟩)
    (mc1 : PySem.W.codeIn K mcd1 "Ratio.top" = true)
    (mk1 : PySem.W.keepIn K (.ref m1) = true)
    (e2 : PySem.W.findIn K (.ref C) "bottom" = some (some (.ref q2)))
    (pg2 : PySem.W.specialIn K (.ref q2) "__get__" = some (some (.builtin "property.__get__")))
    (pt2 : PySem.W.takesIn K (.ref q2) = some true)
    (pr2 : PySem.W.recIn K q2 "property" = some (.ref m2 :: rs2))
    (ml2 : K.lookup m2 = some ⟨moc2, mod2, .func (PySem.W.fnOf "bottom" "Ratio.bottom" (defArgs (sm 2)) (defBody (sm 2)) (defScope (sm 2)) .none mkV2 mdc2 mpm2 man2 mcd2 mct2), msl2⟩)
    (mc2 : PySem.W.codeIn K mcd2 "Ratio.bottom" = true)
    (mk2 : PySem.W.keepIn K (.ref m2) = true)
    (e3 : PySem.W.findIn K (.ref C) "sign" = some (some (.ref q3)))
    (pg3 : PySem.W.specialIn K (.ref q3) "__get__" = some (some (.builtin "property.__get__")))
    (pt3 : PySem.W.takesIn K (.ref q3) = some true)
    (pr3 : PySem.W.recIn K q3 "property" = some (.ref m3 :: rs3))
    (ml3 : K.lookup m3 = some ⟨moc3, mod3, .func (PySem.W.fnOf "sign" "Ratio.sign" (defArgs (sm 3)) (defBody (sm 3)) (defScope (sm 3)) .none mkV3 mdc3 mpm3 man3 mcd3 mct3), msl3⟩)
    (mc3 : PySem.W.codeIn K mcd3 "Ratio.sign" = true)
    (mk3 : PySem.W.keepIn K (.ref m3) = true)
    (e4 : PySem.W.findIn K (.ref C) "is_whole" = some (some (.ref q4)))
    (pg4 : PySem.W.specialIn K (.ref q4) "__get__" = some (some (.builtin "property.__get__")))
    (pt4 : PySem.W.takesIn K (.ref q4) = some true)
    (pr4 : PySem.W.recIn K q4 "property" = some (.ref m4 :: rs4))
    (ml4 : K.lookup m4 = some ⟨moc4, mod4, .func (PySem.W.fnOf "is_whole" "Ratio.is_whole" (defArgs (sm 4)) (defBody (sm 4)) (defScope (sm 4)) .none mkV4 mdc4 mpm4 man4 mcd4 mct4), msl4⟩)
    (mc4 : PySem.W.codeIn K mcd4 "Ratio.is_whole" = true)
    (mk4 : PySem.W.keepIn K (.ref m4) = true)
    (cr1 : PySem.W.readsIn K C (.type "type") = true)
    (cr2 : PySem.W.specialIn K (.ref C) "__getattribute__" = some (some (.builtin "type.__getattribute__")))
    (cm1 : PySem.W.findCls K (.ref C) (.type "type") "total" = some (.get (.builtin "classmethod.__get__") (.ref q5) .none (.ref C)))
    (cm2 : PySem.W.recIn K q5 "classmethod" = some (.ref m5 :: rs5))
    (cm3 : PySem.W.fnIn K m5 = true)
    (ml5 : K.lookup m5 = some ⟨moc5, mod5, .func (PySem.W.fnOf "total" "Ratio.total" (defArgs (sm 5)) (defBody (sm 5)) (defScope (sm 5)) .none mkV5 mdc5 mpm5 man5 mcd5 mct5), msl5⟩)
    (mc5 : PySem.W.codeIn K mcd5 "Ratio.total" = true)
    (mk5 : PySem.W.keepIn K (.ref m5) = true)
    (e6 : PySem.W.findIn K (.ref C) "__add__" = some (some (.ref m6)))
    (i6 : PySem.W.isFn K (.ref m6) = true)
    (ml6 : K.lookup m6 = some ⟨moc6, mod6, .func (PySem.W.fnOf "__add__" "Ratio.__add__" (defArgs (sm 6)) (defBody (sm 6)) (defScope (sm 6)) .none mkV6 mdc6 mpm6 man6 mcd6 mct6), msl6⟩)
    (mc6 : PySem.W.codeIn K mcd6 "Ratio.__add__" = true)
    (mk6 : PySem.W.keepIn K (.ref m6) = true)
    (e7 : PySem.W.findIn K (.ref C) "__radd__" = some (some (.ref m7)))
    (i7 : PySem.W.isFn K (.ref m7) = true)
    (ml7 : K.lookup m7 = some ⟨moc7, mod7, .func (PySem.W.fnOf "__radd__" "Ratio.__radd__" (defArgs (sm 7)) (defBody (sm 7)) (defScope (sm 7)) .none mkV7 mdc7 mpm7 man7 mcd7 mct7), msl7⟩)
    (mc7 : PySem.W.codeIn K mcd7 "Ratio.__radd__" = true)
    (mk7 : PySem.W.keepIn K (.ref m7) = true)
    (e8 : PySem.W.findIn K (.ref C) "__sub__" = some (some (.ref m8)))
    (i8 : PySem.W.isFn K (.ref m8) = true)
    (ml8 : K.lookup m8 = some ⟨moc8, mod8, .func (PySem.W.fnOf "__sub__" "Ratio.__sub__" (defArgs (sm 8)) (defBody (sm 8)) (defScope (sm 8)) .none mkV8 mdc8 mpm8 man8 mcd8 mct8), msl8⟩)
    (mc8 : PySem.W.codeIn K mcd8 "Ratio.__sub__" = true)
    (mk8 : PySem.W.keepIn K (.ref m8) = true)
    (e9 : PySem.W.findIn K (.ref C) "__rsub__" = some (some (.ref m9)))
    (i9 : PySem.W.isFn K (.ref m9) = true)
    (ml9 : K.lookup m9 = some ⟨moc9, mod9, .func (PySem.W.fnOf "__rsub__" "Ratio.__rsub__" (defArgs (sm 9)) (defBody (sm 9)) (defScope (sm 9)) .none mkV9 mdc9 mpm9 man9 mcd9 mct9), msl9⟩)
    (mc9 : PySem.W.codeIn K mcd9 "Ratio.__rsub__" = true)
    (mk9 : PySem.W.keepIn K (.ref m9) = true)
    (e10 : PySem.W.findIn K (.ref C) "__mul__" = some (some (.ref m10)))
    (i10 : PySem.W.isFn K (.ref m10) = true)
    (ml10 : K.lookup m10 = some ⟨moc10, mod10, .func (PySem.W.fnOf "__mul__" "Ratio.__mul__" (defArgs (sm 10)) (defBody (sm 10)) (defScope (sm 10)) .none mkV10 mdc10 mpm10 man10 mcd10 mct10), msl10⟩)
    (mc10 : PySem.W.codeIn K mcd10 "Ratio.__mul__" = true)
    (mk10 : PySem.W.keepIn K (.ref m10) = true)
    (e11 : PySem.W.findIn K (.ref C) "__rmul__" = some (some (.ref m11)))
    (i11 : PySem.W.isFn K (.ref m11) = true)
    (ml11 : K.lookup m11 = some ⟨moc11, mod11, .func (PySem.W.fnOf "__rmul__" "Ratio.__rmul__" (defArgs (sm 11)) (defBody (sm 11)) (defScope (sm 11)) .none mkV11 mdc11 mpm11 man11 mcd11 mct11), msl11⟩)
    (mc11 : PySem.W.codeIn K mcd11 "Ratio.__rmul__" = true)
    (mk11 : PySem.W.keepIn K (.ref m11) = true)
    (e12 : PySem.W.findIn K (.ref C) "__neg__" = some (some (.ref m12)))
    (i12 : PySem.W.isFn K (.ref m12) = true)
    (ml12 : K.lookup m12 = some ⟨moc12, mod12, .func (PySem.W.fnOf "__neg__" "Ratio.__neg__" (defArgs (sm 12)) (defBody (sm 12)) (defScope (sm 12)) .none mkV12 mdc12 mpm12 man12 mcd12 mct12), msl12⟩)
    (mc12 : PySem.W.codeIn K mcd12 "Ratio.__neg__" = true)
    (mk12 : PySem.W.keepIn K (.ref m12) = true)
    (e13 : PySem.W.findIn K (.ref C) "over" = some (some (.ref m13)))
    (i13 : PySem.W.isFn K (.ref m13) = true)
    (ml13 : K.lookup m13 = some ⟨moc13, mod13, .func (PySem.W.fnOf "over" "Ratio.over" (defArgs (sm 13)) (defBody (sm 13)) (defScope (sm 13)) .none mkV13 mdc13 mpm13 man13 mcd13 mct13), msl13⟩)
    (mc13 : PySem.W.codeIn K mcd13 "Ratio.over" = true)
    (mk13 : PySem.W.keepIn K (.ref m13) = true)
    (e14 : PySem.W.findIn K (.ref C) "unsigned" = some (some (.ref m14)))
    (i14 : PySem.W.isFn K (.ref m14) = true)
    (ml14 : K.lookup m14 = some ⟨moc14, mod14, .func (PySem.W.fnOf "unsigned" "Ratio.unsigned" (defArgs (sm 14)) (defBody (sm 14)) (defScope (sm 14)) .none mkV14 mdc14 mpm14 man14 mcd14 mct14), msl14⟩)
    (mc14 : PySem.W.codeIn K mcd14 "Ratio.unsigned" = true)
    (mk14 : PySem.W.keepIn K (.ref m14) = true)
    (e15 : PySem.W.findIn K (.ref C) "is_below" = some (some (.ref m15)))
    (i15 : PySem.W.isFn K (.ref m15) = true)
    (ml15 : K.lookup m15 = some ⟨moc15, mod15, .func (PySem.W.fnOf "is_below" "Ratio.is_below" (defArgs (sm 15)) (defBody (sm 15)) (defScope (sm 15)) .none mkV15 mdc15 mpm15 man15 mcd15 mct15), msl15⟩)
    (mc15 : PySem.W.codeIn K mcd15 "Ratio.is_below" = true)
    (mk15 : PySem.W.keepIn K (.ref m15) = true)
    (e16 : PySem.W.findIn K (.ref C) "is_at_most" = some (some (.ref m16)))
    (i16 : PySem.W.isFn K (.ref m16) = true)
    (ml16 : K.lookup m16 = some ⟨moc16, mod16, .func (PySem.W.fnOf "is_at_most" "Ratio.is_at_most" (defArgs (sm 16)) (defBody (sm 16)) (defScope (sm 16)) .none mkV16 mdc16 mpm16 man16 mcd16 mct16), msl16⟩)
    (mc16 : PySem.W.codeIn K mcd16 "Ratio.is_at_most" = true)
    (mk16 : PySem.W.keepIn K (.ref m16) = true)
    (e17 : PySem.W.findIn K (.ref C) "__eq__" = some (some (.ref m17)))
    (i17 : PySem.W.isFn K (.ref m17) = true)
    (ml17 : K.lookup m17 = some ⟨moc17, mod17, .func (PySem.W.fnOf "__eq__" "Ratio.__eq__" (defArgs (sm 17)) (defBody (sm 17)) (defScope (sm 17)) .none mkV17 mdc17 mpm17 man17 mcd17 mct17), msl17⟩)
    (mc17 : PySem.W.codeIn K mcd17 "Ratio.__eq__" = true)
    (mk17 : PySem.W.keepIn K (.ref m17) = true)
    (e18 : PySem.W.findIn K (.ref C) "__str__" = some (some (.ref m18)))
    (i18 : PySem.W.isFn K (.ref m18) = true)
    (ml18 : K.lookup m18 = some ⟨moc18, mod18, .func (PySem.W.fnOf "__str__" "Ratio.__str__" (defArgs (sm 18)) (defBody (sm 18)) (defScope (sm 18)) .none mkV18 mdc18 mpm18 man18 mcd18 mct18), msl18⟩)
    (mc18 : PySem.W.codeIn K mcd18 "Ratio.__str__" = true)
    (mk18 : PySem.W.keepIn K (.ref m18) = true)
    (e19 : PySem.W.findIn K (.ref C) "__repr__" = some (some (.ref m19)))
    (i19 : PySem.W.isFn K (.ref m19) = true)
    (ml19 : K.lookup m19 = some ⟨moc19, mod19, .func (PySem.W.fnOf "__repr__" "Ratio.__repr__" (defArgs (sm 19)) (defBody (sm 19)) (defScope (sm 19)) .none mkV19 mdc19 mpm19 man19 mcd19 mct19), msl19⟩)
    (mc19 : PySem.W.codeIn K mcd19 "Ratio.__repr__" = true)
    (mk19 : PySem.W.keepIn K (.ref m19) = true)
    (l0T : K.lookup T0 = some ⟨.type "tuple", d0, .seq #[.int 1 t0] n0, s0⟩)
    (pg : PySem.W.plainGet K C Str.empty = true)
    (hd : PySem.W.hasDictIn K C = true)
    (po : PySem.W.plainOver K C = true)
    (sa : PySem.W.findIn K (.ref C) "__setattr__" = some (some (.builtin "object.__setattr__")))
    (nT : PySem.W.findIn K (.ref C) "own_top" = some none)
    (nB : PySem.W.findIn K (.ref C) "own_bottom" = some none)
    (cc1 : PySem.W.findIn K (.ref C) "__class__" = some (some (.builtin "object.__class__")))
    (cc2 : PySem.W.specialIn K (.builtin "object.__class__") "__get__" = some (some (.builtin "getset_descriptor.__get__")))
    (cc3 : PySem.W.takesIn K (.builtin "object.__class__") = some true)
    (cc4 : PySem.W.mroIn K C (.type "object") = some true)
    (ci : PySem.W.clsIn K C = some cdat)
    (ct : PySem.W.typeIn K (.ref C) = some (.type "type"))
    (uint : PySem.W.subIn K (.type "int") (.ref C) = some false)
    (ubool : PySem.W.subIn K (.type "bool") (.ref C) = some false)
    (uNoneType : PySem.W.subIn K (.type "NoneType") (.ref C) = some false)
    (ustr : PySem.W.subIn K (.type "str") (.ref C) = some false)
    (ulist : PySem.W.subIn K (.type "list") (.ref C) = some false)
    (utuple : PySem.W.subIn K (.type "tuple") (.ref C) = some false)
    (sI : PySem.W.subIn K (.ref C) (.type "int") = some false)
    (sB : PySem.W.subIn K (.ref C) (.type "bool") = some false)
    (mkC : PySem.W.makesIn K C = true)
    (kC : PySem.W.keepIn K (.ref C) = true)
    (sf : PySem.W.selfFirst K C = true)
    (nf : PySem.W.notFirst K C (.type "int") = true)
    (sx : PySem.W.subIn K (.ref C) (.type "int") = some false)
    (su : PySem.W.subIn K (.type "int") (.ref C) = some false)
    (fne : PySem.W.findIn K (.ref C) "__ne__" = some (some (.builtin "object.__ne__")))
    (hia : PySem.W.findIn K (.type "int") "__add__" = some ia)
    (hira : PySem.W.findIn K (.type "int") "__radd__" = some ira)
    (his : PySem.W.findIn K (.type "int") "__sub__" = some is)
    (hirs : PySem.W.findIn K (.type "int") "__rsub__" = some irs)
    (him : PySem.W.findIn K (.type "int") "__mul__" = some im)
    (hirm : PySem.W.findIn K (.type "int") "__rmul__" = some irm)
    (gP : PySem.W.nsIn K mainGlobals "PART" = some (some (.int (10 ^ 60) tP)))
    (gG : PySem.W.nsIn K mainGlobals "gcd" = some (some (.builtin "math.gcd")))
    (z_len : PySem.W.nsIn K mainGlobals "len" = some none)
    (z_abs : PySem.W.nsIn K mainGlobals "abs" = some none)
    (z_max : PySem.W.nsIn K mainGlobals "max" = some none)
    (z_repr : PySem.W.nsIn K mainGlobals "repr" = some none)
    (z_divmod : PySem.W.nsIn K mainGlobals "divmod" = some none)
    (z_isinstance : PySem.W.nsIn K mainGlobals "isinstance" = some none)
    (z_int : PySem.W.nsIn K mainGlobals "int" = some none)
    (z_bool : PySem.W.nsIn K mainGlobals "bool" = some none)
    (z_list : PySem.W.nsIn K mainGlobals "list" = some none)
    (z_tuple : PySem.W.nsIn K mainGlobals "tuple" = some none)
    (z_str : PySem.W.nsIn K mainGlobals "str" = some none)
    (z_range : PySem.W.nsIn K mainGlobals "range" = some none)
    : ∃ fd : FuncData, (∀ (s : Shared) (v : Value), BindsTo s fd ⟨[v], []⟩ [("script", v)]) ∧ ∀ base : Heap, K.In base → base.Ns mainGlobals mg → FnG l.prog w K mg base 10 fa fd ["script"] (spLaw K) := by
  have e := hfa.symm.trans (PySem.W.mg_of X G a36)
  cases e
  have T : Tx mg := { b_len := PySem.W.mg_none_of X G z_len, b_abs := PySem.W.mg_none_of X G z_abs, b_max := PySem.W.mg_none_of X G z_max, b_repr := PySem.W.mg_none_of X G z_repr, b_divmod := PySem.W.mg_none_of X G z_divmod, b_isinstance := PySem.W.mg_none_of X G z_isinstance, b_int := PySem.W.mg_none_of X G z_int, b_bool := PySem.W.mg_none_of X G z_bool, b_list := PySem.W.mg_none_of X G z_list, b_tuple := PySem.W.mg_none_of X G z_tuple, b_str := PySem.W.mg_none_of X G z_str, b_range := PySem.W.mg_none_of X G z_range }
  have R : RCl K mg C := ⟨⟨pg, hd, po, sa⟩, PySem.W.mg_of X G aC, nT, nB, cc1, cc2, cc3, cc4, kit_to ci ct uint, kit_to ci ct ubool, kit_to ci ct uNoneType, kit_to ci ct ustr, kit_to ci ct ulist, kit_to ci ct utuple, kit_from (by decide +kernel) sI, kit_from (by decide +kernel) sB⟩
  have obj := cc4
  have mk : Mk K C m0 := ⟨mkC, e0, i0, kC⟩
  have F6 := fun_mk (st := top 6) l6 c6 k6
  have b6 := F6.binds (ps := ["value"]) fun _ _ _ _ _ _ us hl => match us, hl with | [_], _ => rfl
  have F7 := fun_mk (st := top 7) l7 c7 k7
  have b7 := F7.binds (ps := ["value"]) fun _ _ _ _ _ _ us hl => match us, hl with | [_], _ => rfl
  have F8 := fun_mk (st := top 8) l8 c8 k8
  have b8 := F8.binds (ps := ["value"]) fun _ _ _ _ _ _ us hl => match us, hl with | [_], _ => rfl
  have F11 := fun_mk (st := top 11) l11 c11 k11
  have b11 := F11.binds (ps := ["number"]) fun _ _ _ _ _ _ us hl => match us, hl with | [_], _ => rfl
  have F12 := fun_mk (st := top 12) l12 c12 k12
  have b12 := F12.binds (ps := ["one", "other"]) fun _ _ _ _ _ _ us hl => match us, hl with | [_, _], _ => rfl
  have F14 := fun_mk (st := top 14) l14 c14 k14
  have b14 := F14.binds (ps := ["value"]) fun _ _ _ _ _ _ us hl => match us, hl with | [_], _ => rfl
  have F15 := fun_mk (st := top 15) l15 c15 k15
  have b15 := F15.binds (ps := ["value"]) fun _ _ _ _ _ _ us hl => match us, hl with | [_], _ => rfl
  have F16 := fun_mk (st := top 16) l16 c16 k16
  have b16 := F16.binds (ps := ["number"]) fun _ _ _ _ _ _ us hl => match us, hl with | [_], _ => rfl
  have F17 := fun_mk (st := top 17) l17 c17 k17
  have b17 := F17.binds (ps := ["value"]) fun _ _ _ _ _ _ us hl => match us, hl with | [_], _ => rfl
  have F18 := fun_mk (st := top 18) l18 c18 k18
  have b18 := F18.binds (ps := ["ratios"]) fun _ _ _ _ _ _ us hl => match us, hl with | [_], _ => rfl
  have F20 := fun_mk (st := top 20) l20 c20 k20
  have b20 := F20.binds (ps := ["script", "k"]) fun _ _ _ _ _ _ us hl => match us, hl with | [_, _], _ => rfl
  have F21 := fun_mk (st := top 21) l21 c21 k21
  have b21 := F21.binds (ps := ["pot", "size"]) fun _ _ _ _ _ _ us hl => match us, hl with | [_, _], _ => rfl
  have F22 := fun_mk (st := top 22) l22 c22 k22
  have b22 := F22.binds (ps := ["pot", "some"]) fun _ _ _ _ _ _ us hl => match us, hl with | [_, _], _ => rfl
  have F23 := fun_mk (st := top 23) l23 c23 k23
  have b23 := F23.binds (ps := ["top", "bottom"]) fun _ _ _ _ _ _ us hl => match us, hl with | [_, _], _ => rfl
  have F24 := fun_mk (st := top 24) l24 c24 k24
  have b24 := F24.binds (ps := ["one", "other"]) fun _ _ _ _ _ _ us hl => match us, hl with | [_, _], _ => rfl
  have F25 := fun_mk (st := top 25) l25 c25 k25
  have b25 := F25.binds (ps := ["one", "other"]) fun _ _ _ _ _ _ us hl => match us, hl with | [_, _], _ => rfl
  have F26 := fun_mk (st := top 26) l26 c26 k26
  have b26 := F26.binds (ps := ["one", "other"]) fun _ _ _ _ _ _ us hl => match us, hl with | [_, _], _ => rfl
  have F27 := fun_mk (st := top 27) l27 c27 k27
  have b27 := F27.binds (ps := ["one", "other"]) fun _ _ _ _ _ _ us hl => match us, hl with | [_, _], _ => rfl
  have F28 := fun_mk (st := top 28) l28 c28 k28
  have b28 := F28.binds (ps := ["pairs"]) fun _ _ _ _ _ _ us hl => match us, hl with | [_], _ => rfl
  have F29 := fun_mk (st := top 29) l29 c29 k29
  have b29 := F29.binds (ps := ["value"]) fun _ _ _ _ _ _ us hl => match us, hl with | [_], _ => rfl
  have F30 := fun_mk (st := top 30) l30 c30 k30
  have b30 := F30.binds (ps := ["value"]) fun _ _ _ _ _ _ us hl => match us, hl with | [_], _ => rfl
  have F31 := fun_mk (st := top 31) l31 c31 k31
  have b31 := F31.binds (ps := ["pair"]) fun _ _ _ _ _ _ us hl => match us, hl with | [_], _ => rfl
  have F32 := fun_mk (st := top 32) l32 c32 k32
  have b32 := F32.binds (ps := ["pot"]) fun _ _ _ _ _ _ us hl => match us, hl with | [_], _ => rfl
  have F33 := fun_mk (st := top 33) l33 c33 k33
  have b33 := F33.binds (ps := ["raw"]) fun _ _ _ _ _ _ us hl => match us, hl with | [_], _ => rfl
  have F34 := fun_mk (st := top 34) l34 c34 k34
  have b34 := F34.binds (ps := ["raw", "other_raw", "number"]) fun _ _ _ _ _ _ us hl => match us, hl with | [_, _, _], _ => rfl
  have F35 := fun_mk (st := top 35) l35 c35 k35
  have b35 := F35.binds (ps := ["pot"]) fun _ _ _ _ _ _ us hl => match us, hl with | [_], _ => rfl
  have F36 := fun_mk (st := top 36) l36 c36 k36
  have M0 : FunD K "__init__" "Ratio.__init__" (defArgs (sm 0)) (defBody (sm 0)) (defScope (sm 0)) [.int 1] [] m0 _ := ⟨⟨moc0, mod0, .ref T0, mkV0, mdc0, mpm0, man0, mcd0, mct0, msl0, rfl, ml0, mc0, .inr ⟨by simp, T0, _, [.int 1 t0], n0, rfl, l0T, rfl, .cons ⟨_, rfl⟩ .nil⟩, .inl rfl⟩, mk0⟩
  obtain ⟨ds0, v0, mb0⟩ := M0.binds1 (ps := ["self", "top", "bottom"]) 3 1 (by simp) rfl fun _ _ _ _ _ _ _ us its hl hi => match us, its, hl, hi with | [_, _, _], [_], _, _ => ⟨_, rfl, rfl⟩
  cases v0
  obtain ⟨ds1, v1, b1⟩ := M0.binds1 (ps := ["self", "top", "bottom"]) 2 0 (by simp) rfl fun _ _ _ _ _ _ _ us its hl hi => match us, its, hl, hi with | [_, _], [_], _, _ => ⟨_, rfl, rfl⟩
  obtain ⟨its0, kb0⟩ := M0.kbindsD (ps := ["self", "top", "bottom"]) 1 ["top", "bottom"] (fun us _ ws => us ++ ws) (by simp) (fun a _ c => a.append c) fun _ _ _ _ _ _ _ us its ws hl hi hw => match us, its, ws, hl, hi, hw with | [_], [_], [_, _], _, _, _ => ⟨_, rfl, rfl⟩
  have M1 := fun_mk (st := sm 1) ml1 mc1 mk1
  have mb1 := M1.binds (ps := ["self"]) fun _ _ _ _ _ _ us hl => match us, hl with | [_], _ => rfl
  have M2 := fun_mk (st := sm 2) ml2 mc2 mk2
  have mb2 := M2.binds (ps := ["self"]) fun _ _ _ _ _ _ us hl => match us, hl with | [_], _ => rfl
  have M3 := fun_mk (st := sm 3) ml3 mc3 mk3
  have mb3 := M3.binds (ps := ["self"]) fun _ _ _ _ _ _ us hl => match us, hl with | [_], _ => rfl
  have M4 := fun_mk (st := sm 4) ml4 mc4 mk4
  have mb4 := M4.binds (ps := ["self"]) fun _ _ _ _ _ _ us hl => match us, hl with | [_], _ => rfl
  have M5 := fun_mk (st := sm 5) ml5 mc5 mk5
  have mb5 := M5.binds (ps := ["cls", "numbers"]) fun _ _ _ _ _ _ us hl => match us, hl with | [_, _], _ => rfl
  have M6 := fun_mk (st := sm 6) ml6 mc6 mk6
  have mb6 := M6.binds (ps := ["self", "other"]) fun _ _ _ _ _ _ us hl => match us, hl with | [_, _], _ => rfl
  have M7 := fun_mk (st := sm 7) ml7 mc7 mk7
  have mb7 := M7.binds (ps := ["self", "other"]) fun _ _ _ _ _ _ us hl => match us, hl with | [_, _], _ => rfl
  have M8 := fun_mk (st := sm 8) ml8 mc8 mk8
  have mb8 := M8.binds (ps := ["self", "other"]) fun _ _ _ _ _ _ us hl => match us, hl with | [_, _], _ => rfl
  have M9 := fun_mk (st := sm 9) ml9 mc9 mk9
  have mb9 := M9.binds (ps := ["self", "other"]) fun _ _ _ _ _ _ us hl => match us, hl with | [_, _], _ => rfl
  have M10 := fun_mk (st := sm 10) ml10 mc10 mk10
  have mb10 := M10.binds (ps := ["self", "other"]) fun _ _ _ _ _ _ us hl => match us, hl with | [_, _], _ => rfl
  have M11 := fun_mk (st := sm 11) ml11 mc11 mk11
  have mb11 := M11.binds (ps := ["self", "other"]) fun _ _ _ _ _ _ us hl => match us, hl with | [_, _], _ => rfl
  have M12 := fun_mk (st := sm 12) ml12 mc12 mk12
  have mb12 := M12.binds (ps := ["self"]) fun _ _ _ _ _ _ us hl => match us, hl with | [_], _ => rfl
  have M13 := fun_mk (st := sm 13) ml13 mc13 mk13
  have mb13 := M13.binds (ps := ["self", "other"]) fun _ _ _ _ _ _ us hl => match us, hl with | [_, _], _ => rfl
  have M14 := fun_mk (st := sm 14) ml14 mc14 mk14
  have mb14 := M14.binds (ps := ["self"]) fun _ _ _ _ _ _ us hl => match us, hl with | [_], _ => rfl
  have M15 := fun_mk (st := sm 15) ml15 mc15 mk15
  have mb15 := M15.binds (ps := ["self", "other"]) fun _ _ _ _ _ _ us hl => match us, hl with | [_, _], _ => rfl
  have M16 := fun_mk (st := sm 16) ml16 mc16 mk16
  have mb16 := M16.binds (ps := ["self", "other"]) fun _ _ _ _ _ _ us hl => match us, hl with | [_, _], _ => rfl
  have M17 := fun_mk (st := sm 17) ml17 mc17 mk17
  have mb17 := M17.binds (ps := ["self", "other"]) fun _ _ _ _ _ _ us hl => match us, hl with | [_, _], _ => rfl
  have M18 := fun_mk (st := sm 18) ml18 mc18 mk18
  have mb18 := M18.binds (ps := ["self"]) fun _ _ _ _ _ _ us hl => match us, hl with | [_], _ => rfl
  have M19 := fun_mk (st := sm 19) ml19 mc19 mk19
  have mb19 := M19.binds (ps := ["self"]) fun _ _ _ _ _ _ us hl => match us, hl with | [_], _ => rfl
  refine ⟨PySem.W.fnOf "law" "law" (defArgs (top 36)) (defBody (top 36)) (defScope (top 36)) .none kV36 dc36 pm36 an36 cd36 ct36, fun s v => .of_eq rfl, fun base _ _ => ?_⟩
  have C_is_integer : ClO l.prog w K mg base "is_integer" 1 ["value"] (spIsI K C) := ⟨⟨_, _, ok_is_integer F6 T, b6, k6, PySem.W.mg_of X G a6⟩⟩
  have C_is_count : ClO l.prog w K mg base "is_count" 2 ["value"] (spIsC K C) := ⟨⟨_, _, ok_is_count F7 T C_is_integer, b7, k7, PySem.W.mg_of X G a7⟩⟩
  have C_is_list : ClO l.prog w K mg base "is_list" 1 ["value"] spList := ⟨⟨_, _, ok_is_list F8 T, b8, k8, PySem.W.mg_of X G a8⟩⟩
  have C_digits_of : ClO l.prog w K mg base "digits_of" 1 ["number"] spDigits := ⟨⟨_, _, ok_digits_of F11 T (PySem.W.mg_of X G gP), b11, k11, PySem.W.mg_of X G a11⟩⟩
  have C_common_part : ClO l.prog w K mg base "common_part" 1 ["one", "other"] spCommon := ⟨⟨_, _, ok_common_part F12 (PySem.W.mg_of X G gG), b12, k12, PySem.W.mg_of X G a12⟩⟩
  have MI : FnOk l.prog w K mg base CX0 2 m0 _ ["self", "top", "bottom"] (spInit C) := ok_init M0 R T C_is_integer C_common_part
  have MR : MkR l.prog w K mg base C := ⟨⟨m0, _, mk, MI, mb0, ds1, v1, b1⟩, R.mgC⟩
  have MK : MkK l.prog w K mg base C := ⟨⟨m0, _, _, mk, MI, kb0⟩, R.mgC⟩
  have C_told_pair : ClO l.prog w K mg base "told_pair" 2 ["value"] (spTold C) := ⟨⟨_, _, ok_told_pair F14 R T C_is_integer, b14, k14, PySem.W.mg_of X G a14⟩⟩
  have O_add : OpB l.prog w K mg base C "add" gAdd gAdd := ⟨⟨m6, m7, _, _, ok_add M6 R T MR C_told_pair, mb6, ok_radd M7 R T MR C_told_pair, mb7, ⟨sf, e6, i6⟩, ⟨e7, i7, ⟨_, hia⟩, ⟨_, hira⟩, su⟩⟩, sx⟩
  have O_sub : OpB l.prog w K mg base C "sub" gSub gSubR := ⟨⟨m8, m9, _, _, ok_sub M8 R T MR C_told_pair, mb8, ok_rsub M9 R T MR C_told_pair, mb9, ⟨sf, e8, i8⟩, ⟨e9, i9, ⟨_, his⟩, ⟨_, hirs⟩, su⟩⟩, sx⟩
  have O_mul : OpB l.prog w K mg base C "mul" gMul gMul := ⟨⟨m10, m11, _, _, ok_mul M10 R T MR C_told_pair, mb10, ok_rmul M11 R T MR C_told_pair, mb11, ⟨sf, e10, i10⟩, ⟨e11, i11, ⟨_, him⟩, ⟨_, hirm⟩, su⟩⟩, sx⟩
  have NB : NeB l.prog w K mg base C := ⟨⟨m12, _, ok_neg M12 R T MR, mb12, e12, i12⟩⟩
  have M_over : MeB l.prog w K mg base C "over" 4 ["self", "other"] (spBin C gOver) := ⟨⟨m13, _, ⟨e13, i13, mk13⟩, ok_over M13 R T MR C_told_pair, mb13⟩⟩
  have MK_over : MeK l.prog w K mg base C "over" "other" 4 ["self", "other"] (spBin C gOver) := ⟨⟨m13, _, ⟨e13, i13, mk13⟩, ok_over M13 R T MR C_told_pair, fun s u v => .of_eq rfl⟩⟩
  have M_unsigned : MeB l.prog w K mg base C "unsigned" 4 ["self"] (spUn C fun t => (t.natAbs : Int)) := by
    have z := ok_unsigned (P := l.prog) (w := w) (mg := mg) (base := base) M14 R T MR
    rw [show (fun t : Int => if t < 0 then -t else t) = (fun t : Int => (t.natAbs : Int)) from funext fun t => by split <;> omega] at z
    exact ⟨⟨m14, _, ⟨e14, i14, mk14⟩, z, mb14⟩⟩
  have M_is_below : MeB l.prog w K mg base C "is_below" 4 ["self", "other"] (spCmp C fun t b t2 b2 => decide (t * b2 < t2 * b)) := ⟨⟨m15, _, ⟨e15, i15, mk15⟩, ok_is_below M15 R T C_told_pair, mb15⟩⟩
  have M_is_at_most : MeB l.prog w K mg base C "is_at_most" 4 ["self", "other"] (spCmp C fun t b t2 b2 => decide (t * b2 ≤ t2 * b)) := ⟨⟨m16, _, ⟨e16, i16, mk16⟩, ok_is_at_most M16 R T C_told_pair, mb16⟩⟩
  have EB : EqB l.prog w K mg base C := ⟨⟨m17, _, ok_eq M17 R T, mb17, e17, i17⟩, nf, sx, fne, obj⟩
  have SB : TxB l.prog w K mg base C "__str__" sS := ⟨⟨m18, _, ok_str M18 R T C_digits_of, mb18, e18, i18⟩⟩
  have RB : TxB l.prog w K mg base C "__repr__" sR := ⟨⟨m19, _, ok_repr M19 R T C_digits_of, mb19, e19, i19⟩⟩
  have PB_top : PrB l.prog w K mg base C "top" (fun t _ => .int t) := ⟨⟨q1, m1, _, ⟨e1, pg1, pt1, rs1, pr1⟩, ok_topP M1 R, mb1⟩⟩
  have PB_bottom : PrB l.prog w K mg base C "bottom" (fun _ b => .int b) := ⟨⟨q2, m2, _, ⟨e2, pg2, pt2, rs2, pr2⟩, ok_bottomP M2 R, mb2⟩⟩
  have PB_sign : PrB l.prog w K mg base C "sign" (fun t _ => .int (sgI t)) := ⟨⟨q3, m3, _, ⟨e3, pg3, pt3, rs3, pr3⟩, ok_sign M3 R T, mb3⟩⟩
  have PB_is_whole : PrB l.prog w K mg base C "is_whole" (fun _ b => .bl (decide (b = 1))) := ⟨⟨q4, m4, _, ⟨e4, pg4, pt4, rs4, pr4⟩, ok_is_whole M4 R, mb4⟩⟩
  have C_is_number : ClO l.prog w K mg base "is_number" 2 ["value"] (spIsN K C) := ⟨⟨_, _, ok_is_number F15 R T C_is_integer, b15, k15, PySem.W.mg_of X G a15⟩⟩
  have C_ratio_of : ClO l.prog w K mg base "ratio_of" 4 ["number"] (spRatioOf C) := ⟨⟨_, _, ok_ratio_of F16 R T MR, b16, k16, PySem.W.mg_of X G a16⟩⟩
  have C_want_number : ClO l.prog w K mg base "want_number" 5 ["value"] (spRatioOf C) := ⟨⟨_, _, ok_want_number F17 R T C_is_number C_ratio_of, b17, k17, PySem.W.mg_of X G a17⟩⟩
  have C_total_of : ClO l.prog w K mg base "total_of" 5 ["ratios"] (spTotalOf C) := ⟨⟨_, _, ok_total_of F18 R T MR O_add, b18, k18, PySem.W.mg_of X G a18⟩⟩
  have CM_total : CmB l.prog w K mg base C "total" 6 ["cls", "numbers"] (spTotal C) := ⟨⟨_, q5, m5, _, ⟨cr1, cr2⟩, ⟨cm1, ⟨rs5, cm2⟩, cm3⟩, ok_total M5 R T C_is_list C_want_number C_total_of, mb5⟩⟩
  have CK_total : CmK l.prog w K mg base C "total" "numbers" 6 ["cls", "numbers"] (spTotal C) := ⟨⟨_, q5, m5, _, ⟨cr1, cr2⟩, ⟨cm1, ⟨rs5, cm2⟩, cm3⟩, ok_total M5 R T C_is_list C_want_number C_total_of, fun s u v => .of_eq rfl⟩⟩
  have C__law_pot : ClO l.prog w K mg base "_law_pot" 1 ["script", "k"] (spPot K) := ⟨⟨_, _, ok_law_pot F20 T, b20, k20, PySem.W.mg_of X G a20⟩⟩
  have C__law_draw : ClO l.prog w K mg base "_law_draw" 1 ["pot", "size"] spDraw := ⟨⟨_, _, ok_law_draw F21 T, b21, k21, PySem.W.mg_of X G a21⟩⟩
  have C__law_pick : ClO l.prog w K mg base "_law_pick" 2 ["pot", "some"] spPick := ⟨⟨_, _, ok_law_pick F22 T C__law_draw, b22, k22, PySem.W.mg_of X G a22⟩⟩
  have C__law_low : ClO l.prog w K mg base "_law_low" 1 ["top", "bottom"] spLow := ⟨⟨_, _, ok_law_low F23 T, b23, k23, PySem.W.mg_of X G a23⟩⟩
  have C__law_sum : ClO l.prog w K mg base "_law_sum" 2 ["one", "other"] (spS2 gAdd) := ⟨⟨_, _, ok_law_sum F24 T C__law_low, b24, k24, PySem.W.mg_of X G a24⟩⟩
  have C__law_by : ClO l.prog w K mg base "_law_by" 2 ["one", "other"] (spS2 gMul) := ⟨⟨_, _, ok_law_by F25 T C__law_low, b25, k25, PySem.W.mg_of X G a25⟩⟩
  have C__law_less : ClO l.prog w K mg base "_law_less" 3 ["one", "other"] (spS2 gLess) := ⟨⟨_, _, ok_law_less F26 T C__law_sum, b26, k26, PySem.W.mg_of X G a26⟩⟩
  have C__law_over : ClO l.prog w K mg base "_law_over" 2 ["one", "other"] (spS2 gOver) := ⟨⟨_, _, ok_law_over F27 T C__law_low, b27, k27, PySem.W.mg_of X G a27⟩⟩
  have C__law_total : ClO l.prog w K mg base "_law_total" 3 ["pairs"] spTot := ⟨⟨_, _, ok_law_total F28 T C__law_sum, b28, k28, PySem.W.mg_of X G a28⟩⟩
  have C__law_pair : ClO l.prog w K mg base "_law_pair" 3 ["value"] (spPairOf C) := ⟨⟨_, _, ok_law_pair F29 R T PB_top PB_bottom, b29, k29, PySem.W.mg_of X G a29⟩⟩
  have C__law_pairs : ClO l.prog w K mg base "_law_pairs" 4 ["value"] (spPairs C) := ⟨⟨_, _, ok_law_pairs F30 R T C__law_pair, b30, k30, PySem.W.mg_of X G a30⟩⟩
  have C__law_shown : ClO l.prog w K mg base "_law_shown" 1 ["pair"] spShown := ⟨⟨_, _, ok_law_shown F31 T, b31, k31, PySem.W.mg_of X G a31⟩⟩
  have C__law_raw : ClO l.prog w K mg base "_law_raw" 3 ["pot"] spRaw := ⟨⟨_, _, ok_law_raw F32 T C__law_draw C__law_pick, b32, k32, PySem.W.mg_of X G a32⟩⟩
  have C__law_one_right : Cl l.prog w K mg base "_law_one_right" 8 ["raw"] spOne := ⟨_, _, ok_law_one F33 R T MR MK C__law_low C__law_pair C__law_shown C_is_number C_is_integer C_is_count SB RB PB_sign PB_is_whole M_unsigned O_sub NB, b33, k33, PySem.W.mg_of X G a33⟩
  have C__law_two_right : Cl l.prog w K mg base "_law_two_right" 8 ["raw", "other_raw", "number"] spTwo := ⟨_, _, ok_law_two F34 R T MR C__law_low C__law_pair C__law_pairs C__law_sum C__law_by C__law_over C__law_less O_add O_sub O_mul M_over MK_over M_is_below M_is_at_most EB, b34, k34, PySem.W.mg_of X G a34⟩
  have C__law_right : Cl l.prog w K mg base "_law_right" 9 ["pot"] spRight := ⟨_, _, ok_law_right F35 R T MR C__law_raw C__law_draw C__law_pick C__law_low C__law_pairs C_is_number C_is_integer C_is_count C__law_total C__law_one_right C__law_two_right CM_total CK_total, b35, k35, PySem.W.mg_of X G a35⟩
  exact ok_law F36 T C__law_pot C__law_right
end B71

open PySem PySem.W PyProof.Rows in
set_option maxRecDepth 100000 in
set_option maxHeartbeats 0 in
theorem PySem.Challenge.cw_shrunkrooms_k11_ratios_reckoned_holds : PySem.Challenge.rw_shrunkrooms_k11_ratios_reckoned.Holds := by
  w_on; o_law; k_head; (case hw => w_witness2)
  k_fill
  refine B71.walkG (l := PySem.Challenge.rw_shrunkrooms_k11_ratios_reckoned) (n := 63) (k := 10) (x := "script") (sp := B71.spLaw) rfl (by decide) rfl ⟨rfl, by decide, by decide⟩ (fun w h Y => PySem.W.kIn_of Y) ?F (fun _ _ a ns hl hS => ⟨a, ns, rfl, hS, hl, fun _ => rfl⟩)
  case F =>
    intro w mg fa h KX G hmg
    refine' B71.all_mk KX G hmg ?a6 ?l6 ?c6 ?k6 ?a7 ?l7 ?c7 ?k7 ?a8 ?l8 ?c8 ?k8 ?a11 ?l11 ?c11 ?k11 ?a12 ?l12 ?c12 ?k12 ?a14 ?l14 ?c14 ?k14 ?a15 ?l15 ?c15 ?k15 ?a16 ?l16 ?c16 ?k16 ?a17 ?l17 ?c17 ?k17 ?a18 ?l18 ?c18 ?k18 ?a20 ?l20 ?c20 ?k20 ?a21 ?l21 ?c21 ?k21 ?a22 ?l22 ?c22 ?k22 ?a23 ?l23 ?c23 ?k23 ?a24 ?l24 ?c24 ?k24 ?a25 ?l25 ?c25 ?k25 ?a26 ?l26 ?c26 ?k26 ?a27 ?l27 ?c27 ?k27 ?a28 ?l28 ?c28 ?k28 ?a29 ?l29 ?c29 ?k29 ?a30 ?l30 ?c30 ?k30 ?a31 ?l31 ?c31 ?k31 ?a32 ?l32 ?c32 ?k32 ?a33 ?l33 ?c33 ?k33 ?a34 ?l34 ?c34 ?k34 ?a35 ?l35 ?c35 ?k35 ?a36 ?l36 ?c36 ?k36 ?aC ?e0 ?i0 ?ml0 ?mc0 ?mk0 ?e1 ?pg1 ?pt1 ?pr1 ?ml1 ?mc1 ?mk1 ?e2 ?pg2 ?pt2 ?pr2 ?ml2 ?mc2 ?mk2 ?e3 ?pg3 ?pt3 ?pr3 ?ml3 ?mc3 ?mk3 ?e4 ?pg4 ?pt4 ?pr4 ?ml4 ?mc4 ?mk4 ?cr1 ?cr2 ?cm1 ?cm2 ?cm3 ?ml5 ?mc5 ?mk5 ?e6 ?i6 ?ml6 ?mc6 ?mk6 ?e7 ?i7 ?ml7 ?mc7 ?mk7 ?e8 ?i8 ?ml8 ?mc8 ?mk8 ?e9 ?i9 ?ml9 ?mc9 ?mk9 ?e10 ?i10 ?ml10 ?mc10 ?mk10 ?e11 ?i11 ?ml11 ?mc11 ?mk11 ?e12 ?i12 ?ml12 ?mc12 ?mk12 ?e13 ?i13 ?ml13 ?mc13 ?mk13 ?e14 ?i14 ?ml14 ?mc14 ?mk14 ?e15 ?i15 ?ml15 ?mc15 ?mk15 ?e16 ?i16 ?ml16 ?mc16 ?mk16 ?e17 ?i17 ?ml17 ?mc17 ?mk17 ?e18 ?i18 ?ml18 ?mc18 ?mk18 ?e19 ?i19 ?ml19 ?mc19 ?mk19 ?l0T ?pg ?hd ?po ?sa ?nT ?nB ?cc1 ?cc2 ?cc3 ?cc4 ?ci ?ct ?uint ?ubool ?uNoneType ?ustr ?ulist ?utuple ?sI ?sB ?mkC ?kC ?sf ?nf ?sx ?su ?fne ?hia ?hira ?his ?hirs ?him ?hirm ?gP ?gG ?z_len ?z_abs ?z_max ?z_repr ?z_divmod ?z_isinstance ?z_int ?z_bool ?z_list ?z_tuple ?z_str ?z_range
    (case a6 => k_is)
    (case l6 => k_is)
    (case c6 => k_is)
    (case k6 => k_is)
    (case a7 => k_is)
    (case l7 => k_is)
    (case c7 => k_is)
    (case k7 => k_is)
    (case a8 => k_is)
    (case l8 => k_is)
    (case c8 => k_is)
    (case k8 => k_is)
    (case a11 => k_is)
    (case l11 => k_is)
    (case c11 => k_is)
    (case k11 => k_is)
    (case a12 => k_is)
    (case l12 => k_is)
    (case c12 => k_is)
    (case k12 => k_is)
    (case a14 => k_is)
    (case l14 => k_is)
    (case c14 => k_is)
    (case k14 => k_is)
    (case a15 => k_is)
    (case l15 => k_is)
    (case c15 => k_is)
    (case k15 => k_is)
    (case a16 => k_is)
    (case l16 => k_is)
    (case c16 => k_is)
    (case k16 => k_is)
    (case a17 => k_is)
    (case l17 => k_is)
    (case c17 => k_is)
    (case k17 => k_is)
    (case a18 => k_is)
    (case l18 => k_is)
    (case c18 => k_is)
    (case k18 => k_is)
    (case a20 => k_is)
    (case l20 => k_is)
    (case c20 => k_is)
    (case k20 => k_is)
    (case a21 => k_is)
    (case l21 => k_is)
    (case c21 => k_is)
    (case k21 => k_is)
    (case a22 => k_is)
    (case l22 => k_is)
    (case c22 => k_is)
    (case k22 => k_is)
    (case a23 => k_is)
    (case l23 => k_is)
    (case c23 => k_is)
    (case k23 => k_is)
    (case a24 => k_is)
    (case l24 => k_is)
    (case c24 => k_is)
    (case k24 => k_is)
    (case a25 => k_is)
    (case l25 => k_is)
    (case c25 => k_is)
    (case k25 => k_is)
    (case a26 => k_is)
    (case l26 => k_is)
    (case c26 => k_is)
    (case k26 => k_is)
    (case a27 => k_is)
    (case l27 => k_is)
    (case c27 => k_is)
    (case k27 => k_is)
    (case a28 => k_is)
    (case l28 => k_is)
    (case c28 => k_is)
    (case k28 => k_is)
    (case a29 => k_is)
    (case l29 => k_is)
    (case c29 => k_is)
    (case k29 => k_is)
    (case a30 => k_is)
    (case l30 => k_is)
    (case c30 => k_is)
    (case k30 => k_is)
    (case a31 => k_is)
    (case l31 => k_is)
    (case c31 => k_is)
    (case k31 => k_is)
    (case a32 => k_is)
    (case l32 => k_is)
    (case c32 => k_is)
    (case k32 => k_is)
    (case a33 => k_is)
    (case l33 => k_is)
    (case c33 => k_is)
    (case k33 => k_is)
    (case a34 => k_is)
    (case l34 => k_is)
    (case c34 => k_is)
    (case k34 => k_is)
    (case a35 => k_is)
    (case l35 => k_is)
    (case c35 => k_is)
    (case k35 => k_is)
    (case a36 => k_is)
    (case l36 => k_is)
    (case c36 => k_is)
    (case k36 => k_is)
    (case aC => k_is)
    (case e0 => k_is)
    (case i0 => k_is)
    (case ml0 => k_is)
    (case mc0 => k_is)
    (case mk0 => k_is)
    (case e1 => k_is)
    (case pg1 => k_is)
    (case pt1 => k_is)
    (case pr1 => k_is)
    (case ml1 => k_is)
    (case mc1 => k_is)
    (case mk1 => k_is)
    (case e2 => k_is)
    (case pg2 => k_is)
    (case pt2 => k_is)
    (case pr2 => k_is)
    (case ml2 => k_is)
    (case mc2 => k_is)
    (case mk2 => k_is)
    (case e3 => k_is)
    (case pg3 => k_is)
    (case pt3 => k_is)
    (case pr3 => k_is)
    (case ml3 => k_is)
    (case mc3 => k_is)
    (case mk3 => k_is)
    (case e4 => k_is)
    (case pg4 => k_is)
    (case pt4 => k_is)
    (case pr4 => k_is)
    (case ml4 => k_is)
    (case mc4 => k_is)
    (case mk4 => k_is)
    (case cr1 => k_is)
    (case cr2 => k_is)
    (case cm1 => k_is)
    (case cm2 => k_is)
    (case cm3 => k_is)
    (case ml5 => k_is)
    (case mc5 => k_is)
    (case mk5 => k_is)
    (case e6 => k_is)
    (case i6 => k_is)
    (case ml6 => k_is)
    (case mc6 => k_is)
    (case mk6 => k_is)
    (case e7 => k_is)
    (case i7 => k_is)
    (case ml7 => k_is)
    (case mc7 => k_is)
    (case mk7 => k_is)
    (case e8 => k_is)
    (case i8 => k_is)
    (case ml8 => k_is)
    (case mc8 => k_is)
    (case mk8 => k_is)
    (case e9 => k_is)
    (case i9 => k_is)
    (case ml9 => k_is)
    (case mc9 => k_is)
    (case mk9 => k_is)
    (case e10 => k_is)
    (case i10 => k_is)
    (case ml10 => k_is)
    (case mc10 => k_is)
    (case mk10 => k_is)
    (case e11 => k_is)
    (case i11 => k_is)
    (case ml11 => k_is)
    (case mc11 => k_is)
    (case mk11 => k_is)
    (case e12 => k_is)
    (case i12 => k_is)
    (case ml12 => k_is)
    (case mc12 => k_is)
    (case mk12 => k_is)
    (case e13 => k_is)
    (case i13 => k_is)
    (case ml13 => k_is)
    (case mc13 => k_is)
    (case mk13 => k_is)
    (case e14 => k_is)
    (case i14 => k_is)
    (case ml14 => k_is)
    (case mc14 => k_is)
    (case mk14 => k_is)
    (case e15 => k_is)
    (case i15 => k_is)
    (case ml15 => k_is)
    (case mc15 => k_is)
    (case mk15 => k_is)
    (case e16 => k_is)
    (case i16 => k_is)
    (case ml16 => k_is)
    (case mc16 => k_is)
    (case mk16 => k_is)
    (case e17 => k_is)
    (case i17 => k_is)
    (case ml17 => k_is)
    (case mc17 => k_is)
    (case mk17 => k_is)
    (case e18 => k_is)
    (case i18 => k_is)
    (case ml18 => k_is)
    (case mc18 => k_is)
    (case mk18 => k_is)
    (case e19 => k_is)
    (case i19 => k_is)
    (case ml19 => k_is)
    (case mc19 => k_is)
    (case mk19 => k_is)
    (case l0T => k_is)
    (case pg => k_is)
    (case hd => k_is)
    (case po => k_is)
    (case sa => k_is)
    (case nT => k_is)
    (case nB => k_is)
    (case cc1 => k_is)
    (case cc2 => k_is)
    (case cc3 => k_is)
    (case cc4 => k_is)
    (case ci => k_is)
    (case ct => k_is)
    (case uint => k_is)
    (case ubool => k_is)
    (case uNoneType => k_is)
    (case ustr => k_is)
    (case ulist => k_is)
    (case utuple => k_is)
    (case sI => k_is)
    (case sB => k_is)
    (case mkC => k_is)
    (case kC => k_is)
    (case sf => k_is)
    (case nf => k_is)
    (case sx => k_is)
    (case su => k_is)
    (case fne => k_is)
    (case hia => k_is)
    (case hira => k_is)
    (case his => k_is)
    (case hirs => k_is)
    (case him => k_is)
    (case hirm => k_is)
    (case gP => k_is)
    (case gG => k_is)
    (case z_len => k_is)
    (case z_abs => k_is)
    (case z_max => k_is)
    (case z_repr => k_is)
    (case z_divmod => k_is)
    (case z_isinstance => k_is)
    (case z_int => k_is)
    (case z_bool => k_is)
    (case z_list => k_is)
    (case z_tuple => k_is)
    (case z_str => k_is)
    (case z_range => k_is)

