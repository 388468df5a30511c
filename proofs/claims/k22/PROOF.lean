import PyProof.Rows.All
import Wide.All
import OpenK.AllK
import Wide.FinOn
import HandS.ForMost
import HandS.Zip
import HandS.Deep
import HandS.Style
import HandS.IsInst
import HandS.Evl
import HandS.SortRule
import HandS.Walk
import HandS.More
import HandS.Defaults
import HandS.WordsDict
import HandS.OwnEq
import HandS.Property
import HandS.ClsMeth
import HandS.Gcd
import HandS.FStr
import HandS.MakeKw
import HandS.RaiseMore
import KE.KOpsOwn
import KE.KCallOwn
import KE.KFmtOwn
import HandS.Wide
import HandS.Codes
import PySem.Challenge.RW_shrunkrooms_k22_tables_and_helpers_any_v
import PyProof.Rows.StrDigitsNeg
import PyProof.Rows.StrJoinMade
import HandS.MakeKwOnly
import PyProof.ReprDict
import KE.KMathGC
import HandS.Ends
set_option Elab.async false
set_option maxRecDepth 100000
set_option maxHeartbeats 4000000
namespace B71
/-! ### lowest terms -/
def gI (a b : Int) : Int := if b < 0 then 0 - ((Nat.gcd a.natAbs b.natAbs : Nat) : Int) else ((Nat.gcd a.natAbs b.natAbs : Nat) : Int)
def low (a b : Int) : Int × Int := (a.fdiv (gI a b), b.fdiv (gI a b))
theorem gcd_pos {a b : Int} (h : b ≠ 0) : 0 < Nat.gcd a.natAbs b.natAbs := Nat.gcd_pos_of_pos_right _ (Int.natAbs_pos.mpr h)
theorem gI_ne {a b : Int} (h : b ≠ 0) : gI a b ≠ 0 := by
  have := gcd_pos (a := a) h
  unfold gI
  split <;> omega
theorem gI_abs (a b : Int) : (gI a b).natAbs = Nat.gcd a.natAbs b.natAbs := by
  unfold gI
  split <;> omega
theorem gI_le {a b : Int} (h : b ≠ 0) : (gI a b).natAbs ≤ b.natAbs := by
  rw [gI_abs]
  exact Nat.le_of_dvd (Int.natAbs_pos.mpr h) (Nat.gcd_dvd_right _ _)
theorem log_mono {a b : Nat} (h : a ≤ b) : a.log2 ≤ b.log2 := by
  by_cases h0 : a = 0
  · subst h0; simp
  · exact (Nat.le_log2 (by omega)).mpr (Nat.le_trans (Nat.log2_self_le h0) h)
theorem gI_dvd_l (a b : Int) : gI a b ∣ a := by
  rw [← Int.natAbs_dvd_natAbs, gI_abs]; exact Nat.gcd_dvd_left _ _
theorem gI_dvd_r (a b : Int) : gI a b ∣ b := by
  rw [← Int.natAbs_dvd_natAbs, gI_abs]; exact Nat.gcd_dvd_right _ _
theorem fdiv_abs {a g : Int} (h : g ∣ a) (g0 : g ≠ 0) : (a.fdiv g).natAbs ≤ a.natAbs := by
  obtain ⟨c, rfl⟩ := h
  rw [Int.mul_fdiv_cancel_left _ g0, Int.natAbs_mul]
  exact Nat.le_mul_of_pos_left _ (Int.natAbs_pos.mpr g0)
theorem low_top {a b : Int} (h : b ≠ 0) : (low a b).1.natAbs ≤ a.natAbs := fdiv_abs (gI_dvd_l a b) (gI_ne h)
theorem low_bot {a b : Int} (h : b ≠ 0) : (low a b).2.natAbs ≤ b.natAbs := fdiv_abs (gI_dvd_r a b) (gI_ne h)
theorem low_pos {a b : Int} (h : b ≠ 0) : 0 < (low a b).2 := by
  obtain ⟨c, hc⟩ := gI_dvd_r a b
  have g0 := gI_ne (a := a) h
  have e : (low a b).2 = c := by
    show b.fdiv (gI a b) = c
    have key : ∀ g : Int, g ≠ 0 → b = g * c → b.fdiv g = c := fun g h0 hb => by rw [hb, Int.mul_fdiv_cancel_left _ h0]
    exact key _ g0 hc
  rw [e]
  have gp := gcd_pos (a := a) h
  have hs : (b < 0 ∧ gI a b < 0) ∨ (0 < b ∧ 0 < gI a b) := by
    unfold gI
    split
    · left; omega
    · right; omega
  rcases hs with ⟨h1, h2⟩ | ⟨h1, h2⟩
  · refine Int.lt_of_not_ge fun q => ?_
    have := Int.mul_nonneg_of_nonpos_of_nonpos (Int.le_of_lt h2) q
    omega
  · refine Int.lt_of_not_ge fun q => ?_
    have := Int.mul_nonpos_of_nonneg_of_nonpos (Int.le_of_lt h2) q
    omega
/-- numbers of less than n bits -/
def Bt (n : Nat) (x : Int) : Prop := x.natAbs < 2 ^ n
theorem Bt.mono {n m : Nat} {x : Int} (h : Bt n x) (k : n ≤ m) : Bt m x := Nat.lt_of_lt_of_le h (Nat.pow_le_pow_right (by decide) k)
theorem Bt.mul {n m : Nat} {x y : Int} (h : Bt n x) (k : Bt m y) : Bt (n + m) (x * y) := by
  unfold Bt at *
  rw [Int.natAbs_mul, Nat.pow_add]
  exact Nat.mul_lt_mul'' h k
theorem Bt.add {n : Nat} {x y : Int} (h : Bt n x) (k : Bt n y) : Bt (n + 1) (x + y) := by
  unfold Bt at *
  rw [Nat.pow_succ]
  have := Int.natAbs_add_le x y
  omega
theorem Bt.sub {n : Nat} {x y : Int} (h : Bt n x) (k : Bt n y) : Bt (n + 1) (x - y) := by
  unfold Bt at *
  rw [Nat.pow_succ]
  have := Int.natAbs_sub_le x y
  omega
theorem Bt.le {n : Nat} {x y : Int} (h : Bt n x) (k : y.natAbs ≤ x.natAbs) : Bt n y := Nat.lt_of_le_of_lt k h
theorem Bt.log {n : Nat} {x : Int} (h : Bt n x) (h0 : 0 < n) : x.natAbs.log2 < n := by
  by_cases z : x.natAbs = 0
  · rw [z]; simpa using h0
  · exact (Nat.log2_lt z).mpr h
theorem low_bt {n m : Nat} {a b : Int} (ha : Bt n a) (hb : Bt m b) (h : b ≠ 0) : Bt n (low a b).1 ∧ Bt m (low a b).2 := ⟨ha.le (low_top h), hb.le (low_bot h)⟩
end B71

/-! ### promises where nothing is being shown (guards: none) -/
namespace B71
open PySem PySem.Spec PyProof.Rows L2
/-- a promise that is kept wherever no repr is under way -/
structure FnG (P : Program) (w : World) (K : PySem.W.Frag) (mg : Str → Option Value) (base : Heap) (k : Nat) (f : Addr) (fd : FuncData) (ps : List Str) (sp : Sp) : Prop where
  many : ∀ vs H Q E, sp vs H Q E → vs.length = ps.length
  go : ∀ (A : Around) (outer : List Env) (s : Shared) (H : Hp) (args : Args) (us : List Value) (vs : List V) (Q : VK), A.guards = some [] → Room k A →
    Env0 P w K mg base A outer s H → BindsTo s fd args (ps.zip us) → Vals vs us → sp vs H Q E0 → codeAny (model P w) A (.call (.ref f) args) (CR CX0 outer P w H s Q E0) s
section
variable {P : Program} {w : World} {K : PySem.W.Frag} {mg : Str → Option Value} {base : Heap}
theorem FnG.of {k : Nat} {f : Addr} {fd : FuncData} {ps : List Str} {sp : Sp} (F : FnOk P w K mg base CX0 k f fd ps sp) : FnG P w K mg base k f fd ps sp :=
  ⟨F.len, fun A outer s H args us vs Q _ => F.run A outer s H args us vs Q E0⟩
theorem FnG.up {j k : Nat} {f : Addr} {fd : FuncData} {ps : List Str} {sp : Sp} (F : FnG P w K mg base j f fd ps sp) (h : j ≤ k) : FnG P w K mg base k f fd ps sp :=
  ⟨F.many, fun A outer s H args us vs Q g hr => F.go A outer s H args us vs Q g (hr.mono h)⟩
theorem deeper_guards {A : Around} {env : Env} (h : A.guards = some []) : (A.deeper env).guards = some [] := by
  first
    | exact h
    | (unfold Around.deeper; exact h)
    | (simp [Around.deeper, h])
/-- .. by the body -/
theorem okG {x qual : Str} {st : Stmt} {f : Addr} {fd : FuncData} {N ps : List Str} {k : Nat} {sp : Sp} (F : Fun K x qual st f fd) (S : FnScope N ps (defScope st)) (many : ∀ vs H Q E, sp vs H Q E → vs.length = ps.length)
    (walk : ∀ (cdv : Value) (A : Around) (outer : List Env) (s : Shared) (H : Hp) (vs : List V) (Q : VK), A.guards = some [] → Room k (A.deeper (envOfC qual (defScope st) s.heap.objs.size f cdv)) → sp vs H Q E0 →
      ∃ t, PSs (cxOf CX0 P w K mg base N qual (defScope st) f cdv A outer s H E0).nox (defBody st) t ∧ t { nx := fun _ H' => Q .non H', rt := Q } (start N vs) H) : FnG P w K mg base (k + 1) f fd ps sp := by
  obtain ⟨oc, od, kV, doc, pm, an, cdv, ct, osl, rfl, lk, hcd⟩ := F.ex
  refine ⟨many, fun A outer s H args us vs Q g hr e0 hb r hsp => ?_⟩
  have back := fun b o e => (e0.bs b o e).1
  have KX := e0.mod.kin.keeps back
  have kinds : ∀ y ∈ ps.zip us, (defScope st).names.lookup y.1 = some .local ∨ ((defScope st).names.lookup y.1 = some .cell ∧ ((cellsFrom (s.heap.objs.size + 1) (defScope st).names []).lookup y.1).isSome = true) := by
    rintro ⟨n, v⟩ hy
    exact (S.par n (List.of_mem_zip hy).1).imp id fun q => ⟨q, PySem.W.cellsFrom_some _ _ _ (.inl q)⟩
  refine codeAny_call_function hr.depth (KX _ _ lk) rfl S.co S.gen rfl (PySem.W.codeRec_of KX hcd) (hb _ _ _ _ (wpAny_newFunctionEnv_cells S.kind kinds fun env he s1 inC => ?_))
  subst he
  refine ⟨(e0.mod.nolimit.keeps back).keeps inC.toInCall.keep, codeAny_func ?_⟩
  obtain ⟨t, ht, hq⟩ := walk cdv A outer s H vs Q g (hr.deeper _) hsp
  have J0 := inv_start (CX := CX0) (E := E0) S hr.hd e0 (many _ _ _ _ hsp) r inC
  refine wpAny_mono (ht.nox.run [] s1 (start N vs) H _ J0 hq) (fun fl s' hs => ?_) fun e s' hs => hs
  cases fl with
  | ret u =>
    obtain ⟨v, σ', H', J, rv, q⟩ := hs
    exact ⟨v, H', J.os, J.bare, J.base, J.hok, rv, q⟩
  | next =>
    obtain ⟨σ', H', J, q⟩ := hs
    exact ⟨V.non, H', J.os, J.bare, J.base, J.hok, rfl, q⟩
  | brk => exact hs.elim fun _ z => z.elim fun _ y => y.2.elim
  | cont => exact hs.elim fun _ z => z.elim fun _ y => y.2.elim
end
section
variable {X : Cx} {k : Nat} {f : Addr} {fd : FuncData} {ps : List Str} {sp : Sp} {x : Str} {p pos : Pos} {e : Expr} {es : List Expr} {t : TA}
theorem runG {pins : List (Addr × Obj)} {σ : L2.St} {H : Hp} {s : Shared} {Q : VK} {args : Args} {ws : List Value} {zs : List V} (F : FnG X.prog X.w X.K X.mg X.base k f fd ps sp) (hg : X.A.guards = some []) (hr : Room k X.A)
    (hb : (ws.length = ps.length) → BindsTo s fd args (ps.zip ws)) (I : Inv X pins σ H s) (r : Vals zs ws) (h : sp zs H Q E0) : codeAny (model X.prog X.w) X.A (.call (.ref f) args) (fun r s' => match r with | .ok (.ret u) => EP X pins σ Q u s' | _ => False) s := by
  have hl : ws.length = ps.length := by rw [← r.length]; exact F.many _ _ _ _ h
  refine codeAny_mono (F.go X.A X.stack s H args ws zs Q hg hr I.env0 (hb hl) r h) fun r s' hq => ?_
  cases r with
  | error e => exact False.elim hq
  | ok fl =>
    cases fl with
    | ret u => exact I.after hq
    | next => exact False.elim hq
    | brk => exact False.elim hq
    | cont => exact False.elim hq
theorem pe_callG (F : FnG X.prog X.w X.K X.mg X.base k f fd ps sp) (hgd : X.A.guards = some []) (hr : Room k X.A) (hm : X.mg x = some (.ref f)) (hk : PySem.W.keepIn X.K (.ref f) = true) (hb : Binds X.K fd ps [])
    (ha : PA X (e :: es) t) (hg : Gl X x := by rfl) (hdb : (x == ("__debug__" : Str)) = false := by decide) (he : starEach (e :: es) X.env = (false, eval e X.env) :: starEach es X.env := by rfl)
    (hpl : (backTo pos (starEach es X.env)).any (·.1) = false := by rfl) : PE X (.Call (.Name x p) (e :: es) [] pos) (fun σ H Q => t σ H fun vs H1 => sp vs H1 Q E0) := by
  refine ⟨fun pins s σ H Q I h => wpAny_Call_Name_kw (ld_glob I hg hm ?_ hdb)⟩
  refine PySem.W.callWith_K (h₀ := X.base) I.ok.mod.kin hk (thn (ha.run pos pins s σ H _ I h) fun us s1 ⟨vs, H1, I1, r, q⟩ => ⟨I1.kIn, ?_⟩) he hpl
  refine wpAny_call (codeAny_mono (runG F hgd hr (fun hl => by have z := hb s1 us I1.kIn (by rw [List.append_nil]; exact hl); rw [List.append_nil] at z; exact z) I1 r q) fun r s' hq => ?_)
  cases r with
  | error e => exact hq.elim
  | ok fl =>
    cases fl with
    | ret u => exact hq
    | next => exact hq.elim
    | brk => exact hq.elim
    | cont => exact hq.elim
end
/-! ### repr of data -/
section
variable {X : Cx}
def rReprD (K : PySem.W.Frag) : List V → Hp → VK → Prop := fun xs H Q => ∃ (a : Addr) (d : PyData), xs = [.ref a] ∧ Dp K H (.ref a) d ∧ d.showable = true ∧ d.hasDict = false ∧ d.depth ≤ 60 ∧ d.shown.length ≤ sizeLine ∧ Q (.str d.shown) H
theorem call_reprD (hg : X.A.guards = some []) (hu : X.A.units + 64 < cLine) : CallR X (.builtin "repr") (rReprD X.K) := by
  intro pins s σ H xs us Q I r h
  obtain ⟨a, d, rfl, hd, h1, h2, h3, h4, q⟩ := h
  obtain rfl := Vals.ref1 r
  obtain ⟨as, rd⟩ := Dp.reads I d _ _ hd rfl
  exact repr_of_reads' rd h1 (fun z => by rw [h2] at z; cases z) hg (by omega) (fun _ _ e => e) (fun h' u tk hk => ⟨.str d.shown, H, I.kept (t' := tk) hk, ⟨_, rfl⟩, q⟩) h4
end
/-! ### x not in d.values(): by going through -/
theorem plain_scan : plainId "proto.contains_iter" = true := by decide +kernel
theorem entry_scan : entryFor table "proto.contains_iter" = some Builtin.«proto.contains_iter» := entryFor_of_fast (by kernel_rfl)
theorem no_in_values : typeLookup (.type "dict_values") "__contains__" = pure none := by rw [typeLookup_type, builtinLookup_eq_fast]; kernel_rfl
section
variable {P : Program} {w : World} {A : Around}
theorem scan_ints {it d : Addr} {ep : Nat} {kvs : List (Key × Value)} {i : Int} {t : Tok} {R : Result → Shared → Prop} (hh : A.handled = none) (hints : ∀ p ∈ kvs, ∃ n u, p.2 = Value.int n u) :
    ∀ (m j : Nat) (s : Shared), kvs.length - j = m → j ≤ kvs.length → s.heap.IsValIter it d j kvs.length ep → s.heap.DictAt (mixKind P w) d kvs ep →
    (∀ h', (∀ b o, b ≠ it → s.heap.get? b = some o → h'.get? b = some o) → R (.ok (.ret (.bool ((kvs.drop j).any fun p => match p.2 with | .int n _ => n == i | _ => false)))) { s with heap := h' }) →
    codeAny (model P w) A (.builtin "proto.contains_iter" ⟨[.ref it, .int i t], []⟩) R s := by
  intro m
  induction m with
  | zero =>
    intro j s hk hj hit hd hR
    have e : kvs[j]? = none := List.getElem?_eq_none (by omega)
    refine codeAny_builtin entry_scan ?_
    rw [Around.under_plainId plain_scan _]
    show wpAny _ A.in1 (pyNext (.ref it) >>= _) _ _ s
    refine wpAny_bind (wpAny_pyNext_values_end (knd := mixKind P w) (kvs := kvs) hh hit hd e fun h' hb => ?_)
    have q := hR h' (fun b o hne ho => hb b o hne ho)
    rw [List.drop_of_length_le (by omega)] at q
    exact wpAny_bind (wpAny_rule (wpAny_pure q))
  | succ m ih =>
    intro j s hk hj hit hd hR
    have hlt : j < kvs.length := by omega
    have hg : kvs[j]? = some kvs[j] := List.getElem?_eq_getElem hlt
    obtain ⟨n, u, hn⟩ := hints kvs[j] (List.getElem_mem hlt)
    have hdrop : kvs.drop j = kvs[j] :: kvs.drop (j + 1) := List.drop_eq_getElem_cons hlt
    have ne : d ≠ it := fun z => by
      obtain ⟨o, ho, hc, hdat⟩ := hit
      obtain ⟨od, es, hod, _, hdd, _⟩ := hd
      rw [z, ho] at hod
      cases hod
      rw [hdd] at hdat
      cases hdat
    refine codeAny_builtin entry_scan ?_
    rw [Around.under_plainId plain_scan _]
    show wpAny _ A.in1 (pyNext (.ref it) >>= _) _ _ s
    refine wpAny_bind (wpAny_pyNext_values_item (knd := mixKind P w) (k := kvs[j].1) (v := kvs[j].2) hit hd hg fun h' hit' hs => ?_)
    rw [hn]
    show wpAny _ A.in1 (eqBool (.int n u) (.int i t) >>= _) _ _ _
    refine wpAny_bind (wpAny_eqBool_int ?_)
    by_cases e : n = i
    · have e' : (n == i) = true := by simpa using e
      have q := hR h' (fun b o hne ho => (hs.2 b hne).trans ho)
      rw [hdrop, List.any_cons, hn] at q
      simp only [e', Bool.true_or] at q
      rw [if_pos e']
      exact wpAny_bind (wpAny_rule (wpAny_pure q))
    · have e' : (n == i) = false := by simpa using e
      rw [if_neg (by rw [e']; exact Bool.false_ne_true)]
      refine wpAny_pure ⟨plainId_quiet plain_scan _, ih (j + 1) _ (by omega) (by omega) hit' (hd.at fun o ho => (hs.2 d ne).trans ho) fun h2 k2 => ?_⟩
      have q := hR h2 (fun b o hne ho => k2 b o hne ((hs.2 b hne).trans ho))
      rw [hdrop, List.any_cons, hn] at q
      simpa only [e', Bool.false_or] using q
end
section
variable {X : Cx} {a e : Expr} {ta td : TE} {apos cpos pos : Pos}
def tNotVals (ta td : TE) : TT := fun σ H Q => ta σ H fun x H1 => td σ H1 fun y H2 => ∃ (i : Int) (d : Addr) (kvs : List (Key × V)) (is : List Int), x = .int i ∧ y = .ref d ∧ H2 d = some (.dK kvs) ∧ kvs.map (·.2) = is.map V.int ∧ Q (!decide (i ∈ is)) H2
/-- x not in d.values(), ints -/
theorem pt_notVals (hc : X.calm = true) (ha : PE X a ta) (he : PE X e td) (hm : attributeBase e "values" X.env (eval e X.env) = eval e X.env := by rfl) (hline : (apos.endLine == cpos.line) = true := by rfl) :
    PT X (.Compare a [.NotIn] [.Call (.Attribute e "values" apos) [] [] cpos] pos) (tNotVals ta td) := by
  refine ⟨fun pins s σ H Q I hw => ?_⟩
  refine wpAny_isTrue_Compare1 (thn (ha.run pins s σ H _ I hw) fun v s1 ⟨x, H1, I1, rx, q1⟩ => ?_) (by first | rfl | exact nobehind _ (by decide) (by decide))
  refine wpAny_Call_method (T := "dict") (id := "dict.values") hm rfl hline F.plainAttrs_dict F.slot_dict_values F.type_dict_values (thn (he.run pins s1 σ H1 _ I1 q1) fun u s2 ⟨y, H2, I2, ry, i, d, kvs, is, ex, ey, hd, hi, q⟩ => ?_)
  subst ex ey
  obtain rfl : u = Value.ref d := ry
  obtain ⟨t, rfl⟩ := rx
  obtain ⟨z, hsys, vs, kv, o, es, ep, ho, hx, hdt, r⟩ := I2.hok d _ hd
  have hat : s2.heap.DictAt (mixKind X.prog X.w) d vs ep := ⟨o, es, ho, hx, hdt, r⟩
  refine ⟨hat.dictOf.typeIs, hat.dictOf.mapOf.noDict, ?_⟩
  have I3 : Inv X pins σ H2 { s2 with heap := s2.heap.push { cls := .type "dict_values", data := .fields #[.ref d] } } := I2.kept (t' := s2.toks) fun b ob q => Heap.get?_push_of_some _ q
  have hints : ∀ p ∈ vs, ∃ n u, p.2 = Value.int n u := by
    have key : ∀ {ks : List (Key × V)} {ws : List (Key × Value)} {js : List Int}, KV ks ws → ks.map (·.2) = js.map V.int → ∀ p ∈ ws, ∃ n u, p.2 = Value.int n u := by
      intro ks ws js k
      induction k generalizing js with
      | nil => intro _ p hp; cases hp
      | cons h _ ih =>
        intro hj p hp
        cases js with
        | nil => cases hj
        | cons j js =>
          simp only [List.map_cons, List.cons.injEq] at hj
          rcases List.mem_cons.mp hp with rfl | hp
          · have := h.2
            rw [hj.1] at this
            obtain ⟨u, hu⟩ := this
            exact ⟨j, u, hu⟩
          · exact ih hj.2 p hp
    exact key kv hi
  have hany : (vs.any fun p => match p.2 with | .int n _ => n == i | _ => false) = decide (i ∈ is) := by
    have key : ∀ {ks : List (Key × V)} {ws : List (Key × Value)} {js : List Int}, KV ks ws → ks.map (·.2) = js.map V.int → (ws.any fun p => match p.2 with | .int n _ => n == i | _ => false) = decide (i ∈ js) := by
      intro ks ws js k
      induction k generalizing js with
      | nil =>
        intro hj
        cases js with
        | nil => rfl
        | cons j js => cases hj
      | cons h _ ih =>
        intro hj
        cases js with
        | nil => cases hj
        | cons j js =>
          simp only [List.map_cons, List.cons.injEq] at hj
          have hv := h.2
          rw [hj.1] at hv
          obtain ⟨u, hu⟩ := hv
          rw [List.any_cons, ih hj.2, hu]
          by_cases e : j = i
          · simp [e]
          · have : (j == i) = false := by simpa using e
            simp [this, Ne.symm e]
    exact key kv hi
  have fin : ∀ {E : Value → Shared → Prop}, wpAny (model X.prog X.w) X.A (compareOp .NotIn (.int i t) (.ref s2.heap.objs.size)) (fun c s3 => wpAny (model X.prog X.w) X.A (truthy c) (TP X pins σ Q) X.xe s3) X.xe { s2 with heap := s2.heap.push { cls := .type "dict_values", data := .fields #[.ref d] } } := by
    intro E
    have hview : (s2.heap.push { cls := .type "dict_values", data := .fields #[.ref d] }).IsValuesView s2.heap.objs.size d := ⟨_, Heap.get?_push_size _ rfl, rfl, rfl⟩
    show wpAny _ _ (contains (.ref s2.heap.objs.size) (.int i t) >>= _) _ _ _
    refine wpAny_bind ?_
    unfold contains
    refine wpAny_holding ?_
    refine wpAny_bind (wpAny_specialOf (s := { s2 with heap := _ }) hview.typeIs no_in_values ?_)
    show wpAny _ _ (callSpecialUnlessNone? _ _ _ _ >>= _) _ _ _
    refine wpAny_bind ?_
    unfold callSpecialUnlessNone?
    refine wpAny_bind (wpAny_specialOf (s := { s2 with heap := _ }) hview.typeIs no_in_values (wpAny_pure ?_))
    refine wpAny_bind (wpAny_rule (wpAny_bind (wpAny_tryCatch (wpAny_pyIter_values (knd := mixKind X.prog X.w) (s := { s2 with heap := _ }) hview (hat.push _) ?_))))
    have hsz : (s2.heap.push { cls := .type "dict_values", data := .fields #[.ref d] }).objs.size = s2.heap.objs.size + 1 := by simp [Heap.size_push]
    refine wpAny_bind (wpAny_runValue (scan_ints (I2.ok.hd hc) hints _ 0 _ rfl (Nat.zero_le _) ⟨_, Heap.get?_push_size _ rfl, rfl, rfl⟩ ((hat.push _).push _) fun h' hk => ?_))
    rw [List.drop_zero, hany]
    refine wpAny_pure (wpAny_pure (wpAny_truthy_bool ⟨H2, I2.kept (t' := s2.toks) fun b ob q => hk b ob (fun z => ?_) (Heap.get?_push_of_some _ (Heap.get?_push_of_some _ q)), q⟩))
    have l1 := Heap.lt_size q
    have l2 : b = s2.heap.objs.size + 1 := z.trans hsz
    rw [l2] at l1
    exact absurd l1 (by simp)
  show wpAny _ _ (callWith cpos (.builtin "dict.values") [.ref d] [] []) _ X.xe s2
  exact method_meetsIn F.slot_dict_values F.entry_dict_values rfl (PySem.evalArgs_none ⟨rfl, hat.dictOf.typeIs, F.args_dict_values_1 _, _, meets_dict_values (mixKind X.prog X.w) d hsys, ⟨vs, hat.dictOf⟩, fin (E := X.xe)⟩)
end
end B71

namespace B71
open PySem PySem.Spec PyProof.Rows L2 Evl RZ SrtO
/-- a name that stands for a def that keeps a promise -/
structure Cl (P : Program) (w : World) (K : PySem.W.Frag) (mg : Str → Option Value) (base : Heap) (x : Str) (k : Nat) (ps : List Str) (sp : Sp) : Prop where
  ex : ∃ (f : Addr) (fd : FuncData), FnG P w K mg base k f fd ps sp ∧ Binds K fd ps [] ∧ PySem.W.keepIn K (.ref f) = true ∧ mg x = some (.ref f)
def tCl (sp : Sp) (t : TA) : TE := fun σ H Q => t σ H fun vs H1 => sp vs H1 Q E0
theorem pe_cl {X : Cx} {x : Str} {k : Nat} {ps : List Str} {sp : Sp} {p pos : Pos} {e : Expr} {es : List Expr} {t : TA} (C : Cl X.prog X.w X.K X.mg X.base x k ps sp) (gd : X.A.guards = some []) (hr : Room k X.A) (ha : PA X (e :: es) t)
    (hg : Gl X x := by rfl) (hdb : (x == ("__debug__" : Str)) = false := by decide) (he : starEach (e :: es) X.env = (false, eval e X.env) :: starEach es X.env := by rfl)
    (hpl : (backTo pos (starEach es X.env)).any (·.1) = false := by rfl) : PE X (.Call (.Name x p) (e :: es) [] pos) (tCl sp t) := by
  obtain ⟨f, fd, F, b, kp, m⟩ := C.ex
  exact pe_callG F gd hr m kp b ha hg hdb he hpl
/-- the built-in names are free; the constants -/
theorem u65 {k : Nat} {A : Around} (r : Room k A) : A.units + 65 < cLine := by have := r.un; omega
theorem u1 {k : Nat} {A : Around} (r : Room k A) : A.units + 1 < cLine := by have := r.un; omega
/-! ### heaps -/
theorem ex_upd {H H1 H' : Hp} {p : Addr} {o : HO} (h : H p = none) (e : Ex H H1) (e2 : Ex (upd H1 p o) H') : Ex H H' := (e.mut h).trans e2
/-- a walk over a dict's keys: the lock undone -/
theorem ex_lock {H H1 : Hp} {d : Addr} {u : HO} {od : Obj} (hd : H d = some u) (e : Ex (upd H d (.frz od u)) H1) : Ex H (upd H1 d u) := fun b o h => by
  by_cases z : b = d
  · subst z
    rw [hd] at h
    cases h
    exact upd_same
  · rw [upd_ne z]
    exact e b o (by rw [upd_ne z]; exact h)
/-- what a comprehension gives: from a walk -/
structure Stab {α : Type} (R : α → V → Hp → Prop) : Prop where
  up : ∀ y v H H', Ex H H' → R y v H → R y v H'
  ap : ∀ y v H D acc acc', H D = some (.lst acc) → R y v H → R y v (upd H D (.lst acc'))
theorem Stab.bl {α : Type} {g : α → Bool} : Stab (fun (y : α) v (_ : Hp) => v = .bl (g y)) := ⟨fun _ _ _ _ _ h => h, fun _ _ _ _ _ _ _ h => h⟩
theorem Stab.int {α : Type} {g : α → Int} : Stab (fun (y : α) v (_ : Hp) => v = .int (g y)) := ⟨fun _ _ _ _ _ h => h, fun _ _ _ _ _ _ _ h => h⟩
/-- a new tuple -/
def Tu {α : Type} (g : α → List V) (y : α) (v : V) (H : Hp) : Prop := ∃ r, v = .ref r ∧ H r = some (.tup (g y))
theorem Stab.tu {α : Type} {g : α → List V} : Stab (Tu g) := ⟨fun _ _ _ _ e ⟨r, h1, h2⟩ => ⟨r, h1, e _ _ h2⟩, fun _ _ _ D _ _ hD ⟨r, h1, h2⟩ => ⟨r, h1, by
  have : r ≠ D := fun z => by rw [z, hD] at h2; cases h2
  rw [upd_ne this]; exact h2⟩⟩
theorem paired_snoc {α β : Type} {F : α → β → Prop} : ∀ {as : List α} {bs : List β} {a : α} {b : β}, Paired F as bs → F a b → Paired F (as ++ [a]) (bs ++ [b])
  | _, _, _, _, .nil, h => .cons h .nil
  | _, _, _, _, .cons r t, h => .cons r (paired_snoc t h)
theorem lcW {α : Type} {J : It} {n : Nat} {Gd : Hp → Prop} {Y : Nat → Hp → V → Hp → Prop} (w : Walk J n Gd Y) {g : TG} {tt : TT} {te : TE} {vs : List Nat} {σ : L2.St} {H1 : Hp} {D : Addr} {Qd : Hp → Prop}
    (ys : List α) (hn : n = ys.length) (hz : n ≤ 1000) (f : α → Bool) (R : α → V → Hp → Prop) (st : Stab R) (hD : H1 D = none) (hG : ∀ H, Ex H1 H → Gd H)
    (hs : ∀ i y x H H' (N : Hp → Prop) (Gt : VK), ys[i]? = some y → Ex H1 H → Y i H x H' → (f y = false → ∀ H2, Ex H' H2 → N H2) → (f y = true → ∀ v H2, Ex H' H2 → R y v H2 → Gt v H2) →
      Ex H H' ∧ g x (wipe σ vs) H' fun σ2 H2 => wipe σ2 vs = wipe σ vs ∧ tt σ2 H2 fun b H3 => if b = true then te σ2 H3 Gt else N H3)
    (hd : ∀ acc H, Ex H1 H → H D = some (.lst acc) → Paired (fun y v => R y v H) (ys.filter f) acc → Qd H) :
    ∃ W : Nat → Nat → Hp → Prop, (∃ m, W 0 m (upd H1 D (.lst []))) ∧ ∀ i m H, W i m H →
      (J.stop i H ∧ Qd H) ∨ (J.go i H ∧ ∃ Nx : Hp → Prop, (∀ H', Nx H' → ∃ m', m' < m ∧ W (i + 1) m' H') ∧ ∀ x H', J.yld i H x H' → g x (wipe σ vs) H' fun σ2 H2 => wipe σ2 vs = wipe σ vs ∧ tt σ2 H2 fun b H3 =>
        if b = true then te σ2 H3 fun y H4 => ∃ acc, H4 D = some (.lst acc) ∧ acc.length < sizeLine ∧ Nx (upd H4 D (.lst (acc ++ [y]))) else Nx H3) := by
  have Rup : ∀ {l : List α} {acc : List V} {H H' : Hp}, Ex H H' → Paired (fun y v => R y v H) l acc → Paired (fun y v => R y v H') l acc := fun e p => Paired.mapP p fun _ _ h => st.up _ _ _ _ e h
  refine lc_it w (fun i H => Ex H1 H ∧ ∃ acc, H D = some (.lst acc) ∧ acc.length ≤ i ∧ Paired (fun y v => R y v H) ((ys.take i).filter f) acc) ⟨Ex.new hD, [], upd_same, Nat.le_refl _, .nil⟩ (fun i H _ p => hG H p.1) ?_ ?_
  · rintro i x H H' hi ⟨e1, acc, hacc, hl, hp⟩ hy
    have hi' : i < ys.length := hn ▸ hi
    have et : ys.take (i + 1) = ys.take i ++ [ys[i]] := by rw [List.take_add_one, List.getElem?_eq_getElem hi']; rfl
    refine (hs i ys[i] x H H' _ _ (List.getElem?_eq_getElem hi') e1 hy (fun hf H2 e2 => ?_) (fun hf v H2 e2 hR => ?_)).2
    · have e3 : Ex H H' := (hs i ys[i] x H H' (fun _ => True) (fun _ _ => True) (List.getElem?_eq_getElem hi') e1 hy (fun _ _ _ => trivial) (fun _ _ _ _ _ => trivial)).1
      refine ⟨e1.trans (e3.trans e2), acc, e2 _ _ (e3 _ _ hacc), by omega, ?_⟩
      rw [et, List.filter_append, List.filter_cons_of_neg (by rw [hf]; exact Bool.false_ne_true), List.filter_nil, List.append_nil]
      exact Rup (e3.trans e2) hp
    · have e3 : Ex H H' := (hs i ys[i] x H H' (fun _ => True) (fun _ _ => True) (List.getElem?_eq_getElem hi') e1 hy (fun _ _ _ => trivial) (fun _ _ _ _ _ => trivial)).1
      have h2 := e2 _ _ (e3 _ _ hacc)
      refine ⟨acc, h2, Nat.lt_of_le_of_lt hl (small1000 (by omega)), (e1.trans (e3.trans e2)).mut hD, acc ++ [v], upd_same, by simp; omega, ?_⟩
      rw [et, List.filter_append, List.filter_cons_of_pos hf, List.filter_nil]
      exact paired_snoc (Paired.mapP (Rup (e3.trans e2) hp) fun _ _ h => st.ap _ _ _ _ _ _ h2 h) (st.ap _ _ _ _ _ _ h2 hR)
  · rintro H ⟨e1, acc, hacc, _, hp⟩
    rw [hn, List.take_length] at hp
    exact hd acc H e1 hacc hp
theorem paired_bl {α : Type} {g : α → Bool} : ∀ {l : List α} {acc : List V}, Paired (fun y v => v = V.bl (g y)) l acc → acc = (l.map g).map V.bl
  | _, _, .nil => rfl
  | _, _, .cons r t => by rw [List.map_cons, List.map_cons, ← paired_bl t, r]
theorem paired_int {α : Type} {g : α → Int} : ∀ {l : List α} {acc : List V}, Paired (fun y v => v = V.int (g y)) l acc → acc = (l.map g).map V.int
  | _, _, .nil => rfl
  | _, _, .cons r t => by rw [List.map_cons, List.map_cons, ← paired_int t, r]
theorem filter_yes {α : Type} (l : List α) : l.filter (fun _ => true) = l := List.filter_eq_self.mpr fun _ _ => rfl
theorem bt_len : bootBuiltins "len" = some (.builtin "len") := by decide +kernel
theorem bt_abs : bootBuiltins "abs" = some (.builtin "abs") := by decide +kernel
theorem bt_max : bootBuiltins "max" = some (.builtin "max") := by decide +kernel
theorem bt_min : bootBuiltins "min" = some (.builtin "min") := by decide +kernel
theorem bt_repr : bootBuiltins "repr" = some (.builtin "repr") := by decide +kernel
theorem bt_divmod : bootBuiltins "divmod" = some (.builtin "divmod") := by decide +kernel
theorem bt_all : bootBuiltins "all" = some (.builtin "all") := by decide +kernel
theorem bt_isinstance : bootBuiltins "isinstance" = some (.builtin "isinstance") := by decide +kernel
theorem bt_sorted : bootBuiltins "sorted" = some (.builtin "sorted") := by decide +kernel
theorem bt_int : bootBuiltins "int" = some (.type "int") := by decide +kernel
theorem bt_bool : bootBuiltins "bool" = some (.type "bool") := by decide +kernel
theorem bt_list : bootBuiltins "list" = some (.type "list") := by decide +kernel
theorem bt_tuple : bootBuiltins "tuple" = some (.type "tuple") := by decide +kernel
theorem bt_dict : bootBuiltins "dict" = some (.type "dict") := by decide +kernel
theorem kt_int_int {K : PySem.W.Frag} : PySem.W.kitOne K (.type "int") (.type "int") = some true := kit_ty (by decide +kernel)
theorem kt_int_bool {K : PySem.W.Frag} : PySem.W.kitOne K (.type "int") (.type "bool") = some false := kit_ty (by decide +kernel)
theorem kt_tuple_tuple {K : PySem.W.Frag} : PySem.W.kitOne K (.type "tuple") (.type "tuple") = some true := kit_ty (by decide +kernel)
theorem kt_list_list {K : PySem.W.Frag} : PySem.W.kitOne K (.type "list") (.type "list") = some true := kit_ty (by decide +kernel)
end B71

namespace B71
open PySem PySem.Spec PyProof.Rows L2
/-! ### data: ints, pairs, rows of them -/
def iD (n : Nat) : PyData := .int (n : Int)
def pD (p : Nat × Nat) : PyData := .tuple [.int (p.1 : Int), .int (p.2 : Int)]
theorem iD_lay (n : Nat) : (iD n).canLay0 = true := by simp [iD, PyData.canLay0]
theorem pD_lay (p : Nat × Nat) : (pD p).canLay0 = true := by simp [pD, PyData.canLay0, PyData.canLayAll0]
theorem iD_depth (n : Nat) : (iD n).depth ≤ 1 := by simp [iD, PyData.depth]
theorem pD_depth (p : Nat × Nat) : (pD p).depth ≤ 1 := by simp [pD, PyData.depth, PyData.depthAll]
theorem all_lay {α : Type} {f : α → PyData} (h : ∀ x, (f x).canLay0 = true) : ∀ l : List α, PyData.canLayAll0 (l.map f) = true
  | [] => by simp [PyData.canLayAll0]
  | x :: l => by simp [PyData.canLayAll0, h x, all_lay h l]
theorem all_depth {α : Type} {f : α → PyData} (h : ∀ x, (f x).depth ≤ 1) : ∀ l : List α, PyData.depthAll (l.map f) ≤ 1
  | [] => by simp [PyData.depthAll]
  | x :: l => by
    have h1 := h x
    have h2 := all_depth h l
    simp only [List.map_cons, PyData.depthAll]
    omega
theorem sh_of {d : PyData} (h : d.canLay0 = true) (h2 : d.depth ≤ 64) : SeqAt.shaped d = true := by
  show (d.canLay0 && decide (d.depth ≤ 64)) = true
  rw [Bool.and_eq_true]
  exact ⟨h, decide_eq_true h2⟩
theorem list_sh {α : Type} {f : α → PyData} (h : ∀ x, (f x).canLay0 = true) (h1 : ∀ x, (f x).depth ≤ 1) (l : List α) : SeqAt.shaped (.list (l.map f)) = true :=
  sh_of (by simp only [PyData.canLay0]; exact all_lay h l) (by have := all_depth h1 l; simp only [PyData.depth]; omega)
theorem tup_sh {α : Type} {f : α → PyData} (h : ∀ x, (f x).canLay0 = true) (h1 : ∀ x, (f x).depth ≤ 1) (l : List α) : SeqAt.shaped (.tuple (l.map f)) = true :=
  sh_of (by simp only [PyData.canLay0]; exact all_lay h l) (by have := all_depth h1 l; simp only [PyData.depth]; omega)
theorem is_sh (l : List Nat) : SeqAt.shaped (.list (l.map iD)) = true := list_sh iD_lay iD_depth l
theorem ps_sh (l : List (Nat × Nat)) : SeqAt.shaped (.list (l.map pD)) = true := list_sh pD_lay pD_depth l
theorem p_sh (p : Nat × Nat) : SeqAt.shaped (pD p) = true := sh_of (pD_lay p) (by have := pD_depth p; omega)
theorem iD_eqv (a b : Nat) : PyData.eqv (iD a) (iD b) = decide (a = b) := by
  show ((a : Int) == (b : Int)) = _
  by_cases h : a = b
  · simp [h]
  · rw [decide_eq_false h]; exact beq_eq_false_iff_ne.mpr (by omega)
theorem pD_eqv (p q : Nat × Nat) : PyData.eqv (pD p) (pD q) = decide (p = q) := by
  obtain ⟨a, b⟩ := p
  obtain ⟨c, d⟩ := q
  have e : PyData.eqv (pD (a, b)) (pD (c, d)) = (((a : Int) == (c : Int)) && (((b : Int) == (d : Int)) && true)) := by simp only [pD, PyData.eqv, PyData.eqvAll]
  rw [e]
  by_cases h1 : a = c
  · by_cases h2 : b = d
    · simp [h1, h2]
    · have q : ((b : Int) == (d : Int)) = false := beq_eq_false_iff_ne.mpr (by omega)
      rw [q]; simp [h2]
  · have q : ((a : Int) == (c : Int)) = false := beq_eq_false_iff_ne.mpr (by omega)
    rw [q]; simp [h1]
theorem all_eqv {α : Type} [DecidableEq α] {f : α → PyData} (h : ∀ a b, PyData.eqv (f a) (f b) = decide (a = b)) : ∀ l m : List α, PyData.eqvAll (l.map f) (m.map f) = decide (l = m)
  | [], [] => by simp [PyData.eqvAll]
  | [], _ :: _ => by simp [PyData.eqvAll]
  | _ :: _, [] => by simp [PyData.eqvAll]
  | a :: l, b :: m => by
    simp only [List.map_cons, PyData.eqvAll, h a b, all_eqv h l m, List.cons.injEq]
    by_cases e : a = b <;> simp [e]
theorem is_eqv (l m : List Nat) : PyData.eqv (.list (l.map iD)) (.list (m.map iD)) = decide (l = m) := by
  show PyData.eqvAll _ _ = _
  exact all_eqv iD_eqv l m
theorem ps_eqv (l m : List (Nat × Nat)) : PyData.eqv (.list (l.map pD)) (.list (m.map pD)) = decide (l = m) := by
  show PyData.eqvAll _ _ = _
  exact all_eqv pD_eqv l m
section
variable {K : PySem.W.Frag} {H : Hp}
/-- a list of ints as values -/
def vI (l : List Nat) : List V := l.map fun (n : Nat) => V.int (n : Int)
theorem vI_len (l : List Nat) : (vI l).length = l.length := List.length_map _
theorem dp_is : ∀ l : List Nat, DpAll K H (vI l) (l.map iD)
  | [] => .nil
  | n :: l => .cons (.int _) (dp_is l)
theorem dp_il {a : Addr} {l : List Nat} (h : H a = some (.lst (vI l))) : Dp K H (.ref a) (.list (l.map iD)) := .lst (.inl (.inl h)) (dp_is l)
theorem dp_p {r : Addr} {p : Nat × Nat} (h : H r = some (.tup [.int (p.1 : Nat), .int (p.2 : Nat)])) : Dp K H (.ref r) (pD p) := .tup (.inl (.inl h)) (.cons (.int _) (.cons (.int _) .nil))
theorem dp_ps : ∀ {rs : List Addr} {l : List (Nat × Nat)}, Paired (fun (r : Addr) (p : Nat × Nat) => H r = some (.tup [.int (p.1 : Nat), .int (p.2 : Nat)])) rs l → DpAll K H (rs.map V.ref) (l.map pD)
  | _, _, .nil => .nil
  | _, _, .cons h t => .cons (dp_p h) (dp_ps t)
theorem dp_pl {a : Addr} {rs : List Addr} {l : List (Nat × Nat)} (h : H a = some (.lst (rs.map V.ref))) (hp : Paired (fun (r : Addr) (p : Nat × Nat) => H r = some (.tup [.int (p.1 : Nat), .int (p.2 : Nat)])) rs l) : Dp K H (.ref a) (.list (l.map pD)) := .lst (.inl (.inl h)) (dp_ps hp)
theorem dp_pt {a : Addr} {rs : List Addr} {l : List (Nat × Nat)} (h : H a = some (.tup (rs.map V.ref))) (hp : Paired (fun (r : Addr) (p : Nat × Nat) => H r = some (.tup [.int (p.1 : Nat), .int (p.2 : Nat)])) rs l) : Dp K H (.ref a) (.tuple (l.map pD)) := .tup (.inl (.inl h)) (dp_ps hp)
end
end B71

namespace B71
open PySem PySem.Spec PyProof.Rows L2
structure Rp (d : PyData) : Prop where
  lay : d.canLay0 = true
  dp : d.depth ≤ 3
  wt : d.weight ≤ 20
  sh : d.showable = true
  nd : d.hasDict = false
  ish : d.intsShort 13 = true
theorem rp_i {n : Nat} (h : n < 4) : Rp (iD n) := by
  have hs : ∀ m : Nat, m < 4 → (PyData.intsShort 13 (iD m)) = true ∧ (PyData.showable (iD m)) = true := by decide +kernel
  refine ⟨iD_lay n, Nat.le_trans (iD_depth n) (by decide), ?_, (hs n h).2, rfl, (hs n h).1⟩
  match n, h with
  | 0, _ => decide +kernel
  | 1, _ => decide +kernel
  | 2, _ => decide +kernel
  | 3, _ => decide +kernel
theorem rp_p {p : Nat × Nat} (h1 : p.1 < 4) (h2 : p.2 < 4) : Rp (pD p) := by
  have a := rp_i h1
  have b := rp_i h2
  have w : ∀ m : Nat, m < 4 → PyData.weight (iD m) ≤ 5 := by decide +kernel
  have w1 := w p.1 h1
  have w2 := w p.2 h2
  unfold iD at a b w1 w2
  refine ⟨pD_lay p, Nat.le_trans (pD_depth p) (by decide), ?_, ?_, rfl, ?_⟩
  · simp only [pD, PyData.weight, PyData.weightAll] at w1 w2 ⊢
    omega
  · have := a.sh
    have := b.sh
    simp only [pD, PyData.showable, PyData.showableAll] at *
    simp_all
  · have := a.ish
    have := b.ish
    simp only [pD, PyData.intsShort, PyData.intsShortAll] at *
    simp_all
section
variable {α : Type} {f : α → PyData}
theorem rp_all : ∀ l : List α, (∀ x ∈ l, Rp (f x)) → PyData.canLayAll0 (l.map f) = true ∧ PyData.depthAll (l.map f) ≤ 3 ∧ PyData.weightAll (l.map f) ≤ 21 * l.length ∧ PyData.showableAll (l.map f) = true ∧ PyData.hasDictAll (l.map f) = false ∧ PyData.intsShortAll 13 (l.map f) = true
  | [], _ => by simp [PyData.canLayAll0, PyData.depthAll, PyData.weightAll, PyData.showableAll, PyData.hasDictAll, PyData.intsShortAll]
  | x :: l, h => by
    have hx := h x (List.mem_cons_self ..)
    obtain ⟨h1, h2, h3, h4, h5, h6⟩ := rp_all l fun y hy => h y (List.mem_cons_of_mem _ hy)
    have hd := hx.dp
    have hw := hx.wt
    simp only [List.map_cons, PyData.canLayAll0, PyData.depthAll, PyData.weightAll, PyData.showableAll, PyData.hasDictAll, PyData.intsShortAll, hx.lay, hx.sh, hx.nd, hx.ish, h1, h4, h5, h6, List.length_cons, Bool.and_self, Bool.or_self, true_and, and_true]
    omega
structure Ro (d : PyData) : Prop where
  sh : d.showable = true
  nd : d.hasDict = false
  dp : d.depth ≤ 60
  ln : d.shown.length ≤ sizeLine
theorem ro_of {d : PyData} (lay : d.canLay0 = true) (dp : d.depth ≤ 60) (wt : d.weight ≤ 2 ^ 20) (sh : d.showable = true) (nd : d.hasDict = false) (ish : d.intsShort 13 = true) : Ro d := by
  refine ⟨sh, nd, dp, ?_⟩
  have hl : PyData.layable0 d = true := by
    show (PyData.canLay0 d && decide (PyData.depth d ≤ 64) && decide (PyData.weight d ≤ 2 ^ 20)) = true
    simp only [Bool.and_eq_true, decide_eq_true_eq]
    exact ⟨⟨lay, by omega⟩, wt⟩
  have := shown_le13 hl ish
  have := sizeLine_eq
  omega
theorem ro_list {l : List α} (h : ∀ x ∈ l, Rp (f x)) (hl : l.length ≤ 1000) : Ro (.list (l.map f)) := by
  obtain ⟨h1, h2, h3, h4, h5, h6⟩ := rp_all l h
  have e : (2 : Nat) ^ 20 = 1048576 := by decide
  refine ro_of ?_ ?_ ?_ ?_ ?_ ?_
  · simp only [PyData.canLay0]; exact h1
  · simp only [PyData.depth]; omega
  · simp only [PyData.weight]; omega
  · simp only [PyData.showable]; exact h4
  · simp only [PyData.hasDict]; exact h5
  · simp only [PyData.intsShort]; exact h6
theorem ro_tup {l : List α} (h : ∀ x ∈ l, Rp (f x)) (hl : l.length ≤ 1000) : Ro (.tuple (l.map f)) := by
  obtain ⟨h1, h2, h3, h4, h5, h6⟩ := rp_all l h
  have e : (2 : Nat) ^ 20 = 1048576 := by decide
  refine ro_of ?_ ?_ ?_ ?_ ?_ ?_
  · simp only [PyData.canLay0]; exact h1
  · simp only [PyData.depth]; omega
  · simp only [PyData.weight]; omega
  · simp only [PyData.showable]; exact h4
  · simp only [PyData.hasDict]; exact h5
  · simp only [PyData.intsShort]; exact h6
end
end B71

/-! ### own operators -/
namespace B71
open PySem PySem.Spec PyProof.Rows L2
/-- what an own method gives back: no NotImplemented -/
theorem back_of {X : Cx} {pins : List (Addr × Obj)} {σ : L2.St} {Q : VK} {u : Value} {s : Shared} (h : EP X pins σ Q u s) : PySem.W.CmpBack (EP X pins σ Q) u s := by
  obtain ⟨v, H', I, r, q⟩ := h
  cases u <;> first | exact ⟨v, H', I, r, q⟩ | (cases v <;> first | exact (nomatch r) | (obtain ⟨_, z⟩ := r; cases z))
section
variable {X : Cx} {n : Nat} {C f : Addr} {fd : FuncData} {sp : Sp}
/-- the call of an own method on values, at the place -/
theorem own_run {A : Around} {ps : List Str} {pins : List (Addr × Obj)} {σ : L2.St} {H : Hp} {s : Shared} {Q : VK} {us : List Value} {vs : List V} (F : FnOk X.prog X.w X.K X.mg X.base CX0 n f fd ps sp) (b : Binds X.K fd ps []) (hr : Room n A) (fr : A.frames = X.A.frames)
    (I : Inv X pins σ H s) (r : Vals vs us) (h : sp vs H Q E0) : wpAny (model X.prog X.w) A (call (.ref f) us) (EP X pins σ Q) X.xe s := by
  have hl := F.len _ _ _ _ h
  have e := I.env0
  have e0 : Env0 X.prog X.w X.K X.mg X.base A X.stack s H := ⟨fr.trans e.frames, e.mod, e.bs, e.bsz, e.funs, e.frf, e.hok, e.bare⟩
  refine wpAny_call (codeAny_mono (F.run A X.stack s H ⟨us, []⟩ us vs Q E0 hr e0 (by
    have z := b s us I.kIn (by rw [List.append_nil, ← r.length]; exact hl)
    rw [List.append_nil] at z
    exact z) r h) fun r s' hq => ?_)
  cases r with
  | error e => exact False.elim hq
  | ok fl =>
    cases fl with
    | ret w => exact I.after hq
    | next => exact False.elim hq
    | brk => exact False.elim hq
    | cont => exact False.elim hq
/-- what the class has for the operator named nm -/
structure OpF (K : PySem.W.Frag) (C f : Addr) (nm : String) : Prop where
  slf : PySem.W.selfFirst K C = true
  fi : PySem.W.findIn K (.ref C) (dunder nm) = some (some (.ref f))
  fn : PySem.W.isFn K (.ref f) = true
/-- .. beside ints -/
structure OpI (K : PySem.W.Frag) (C g : Addr) (nm : String) : Prop where
  rf : PySem.W.findIn K (.ref C) (dunderR nm) = some (some (.ref g))
  rfn : PySem.W.isFn K (.ref g) = true
  i1 : ∃ fo, PySem.W.findIn K (.type "int") (dunder nm) = some fo
  i2 : ∃ ro, PySem.W.findIn K (.type "int") (dunderR nm) = some ro
  sub : PySem.W.subIn K (.type "int") (.ref C) = some false
def IsOwn (C : Addr) (H : Hp) (x : V) : Prop := ∃ a dx fs, x = .ref a ∧ H a = some (.ins C dx fs)
def rOwn (C : Addr) (sp : Sp) : R2 := fun x y H Q => IsOwn C H x ∧ ((∃ i, y = .int i) ∨ IsOwn C H y) ∧ sp [x, y] H Q E0
theorem op_own {op : Operator} {g : Addr} (F : FnOk X.prog X.w X.K X.mg X.base CX0 n f fd ["self", "other"] sp) (o : OpF X.K C f op.info.2) (oi : OpI X.K C g op.info.2) (b : Binds X.K fd ["self", "other"] []) (hr : Room n X.A) : OpR X (binaryOp op) (rOwn C sp) := by
  intro pins s σ H x y v u Q I rx ry h
  obtain ⟨⟨a, dx, fs, rfl, ha⟩, hy, hs⟩ := h
  cases rx
  obtain ⟨mA, J, _⟩ := ins_get I.hok ha
  obtain ⟨od, J, _⟩ := J.look
  obtain ⟨m, hF⟩ := I.fr
  rcases hy with ⟨i, rfl⟩ | ⟨a2, dx2, fs2, rfl, ha2⟩
  · obtain ⟨t, rfl⟩ := ry
    obtain ⟨fo, h1⟩ := oi.i1
    obtain ⟨ro, h2⟩ := oi.i2
    refine PySem.W.ksp_binT (T := "int") hF I.ok.mod.kin J rfl o.slf o.fi o.fn oi.rf (.inr ⟨g, rfl⟩) h1 h2 oi.sub ?_
    exact wpAny_mono (own_run (vs := [.ref a, .int i]) F b hr rfl I (.cons rfl (.cons ⟨t, rfl⟩ .nil)) hs) (fun _ _ q => back_of q) fun _ _ z => z
  · cases ry
    obtain ⟨mB, J2, _⟩ := ins_get I.hok ha2
    obtain ⟨od2, J2, _⟩ := J2.look
    refine PySem.W.binop_K hF I.ok.mod.kin J J2.type o.slf o.fi o.fn ?_
    exact wpAny_mono (own_run (vs := [.ref a, .ref a2]) F b hr rfl I (.cons rfl (.cons rfl .nil)) hs) (fun _ _ q => back_of q) fun _ _ z => z
/-- - x -/
theorem op_ownNeg (F : FnOk X.prog X.w X.K X.mg X.base CX0 n f fd ["self"] sp) (fi : PySem.W.findIn X.K (.ref C) "__neg__" = some (some (.ref f))) (fn : PySem.W.isFn X.K (.ref f) = true) (b : Binds X.K fd ["self"] []) (hr : Room n X.A) :
    UnR X (unaryOp .USub) (fun x H Q => IsOwn C H x ∧ sp [x] H Q E0) := by
  intro pins s σ H x v Q I rx h
  obtain ⟨⟨a, dx, fs, rfl, ha⟩, hs⟩ := h
  cases rx
  obtain ⟨mA, J, _⟩ := ins_get I.hok ha
  obtain ⟨od, J, _⟩ := J.look
  obtain ⟨m, hF⟩ := I.fr
  exact PySem.W.ksp_neg hF I.ok.mod.kin J fi fn (own_run (vs := [.ref a]) F b hr rfl I (.cons rfl .nil) hs)
end
end B71

namespace B71
open PySem PySem.Spec PyProof.Rows L2
section
variable {prog : Program} {w : World} {A : Around} {E : Value → Shared → Prop} {s : Shared} {a C dx : Addr} {i : Int} {t : Tok} {Q : Value → Shared → Prop}
open AutoSeq1 (wpAny_loadPart') in
theorem no_add (ho : s.heap.get? a = some (PySem.W.instObj C dx)) (h : Q .notImplemented s) : wpAny (model prog w) A (call (.builtin "int.__add__") [.int i t, .ref a]) Q E s := by
  refine GQ.call_here PySem.F.slot_int_add (typeIs_int _ _ _) PySem.F.entry_int_add (PySem.F.args_int_add_2 _ _) ?_
  obtain ⟨hp, g, d, tk, os⟩ := s
  wp_walk using wpAny_loadPart' ho
  exact h
open AutoSeq1 (wpAny_loadPart') in
theorem no_sub (ho : s.heap.get? a = some (PySem.W.instObj C dx)) (h : Q .notImplemented s) : wpAny (model prog w) A (call (.builtin "int.__sub__") [.int i t, .ref a]) Q E s := by
  refine GQ.call_here PySem.F.slot_int_sub (typeIs_int _ _ _) PySem.F.entry_int_sub (PySem.F.args_int_sub_2 _ _) ?_
  obtain ⟨hp, g, d, tk, os⟩ := s
  wp_walk using wpAny_loadPart' ho
  exact h
open AutoSeq1 (wpAny_loadPart') in
theorem no_mul (ho : s.heap.get? a = some (PySem.W.instObj C dx)) (h : Q .notImplemented s) : wpAny (model prog w) A (call (.builtin "int.__mul__") [.int i t, .ref a]) Q E s := by
  refine GQ.call_here PySem.F.slot_int_mul (typeIs_int _ _ _) PySem.F.entry_int_mul (PySem.F.args_int_mul_2 _ _) ?_
  obtain ⟨hp, g, d, tk, os⟩ := s
  wp_walk using wpAny_loadPart' ho
  exact h
open AutoSeq1 (wpAny_loadPart') in
theorem no_eq (ho : s.heap.get? a = some (PySem.W.instObj C dx)) (h : Q .notImplemented s) : wpAny (model prog w) A (call (.builtin "int.__eq__") [.int i t, .ref a]) Q E s := by
  refine GQ.call_here PySem.F.slot_int_eq (typeIs_int _ _ _) PySem.F.entry_int_eq (PySem.F.args_int_eq_2 _ _) ?_
  obtain ⟨hp, g, d, tk, os⟩ := s
  wp_walk using wpAny_loadPart' ho
  exact h
/-- an int ahead of an own one: the right one's reflected method is asked -/
theorem refl_own {K : PySem.W.Frag} {op : Operator} {id : String} {f g : Addr} {ox : Obj} {od : Option Obj} (kin : K.In s.heap) (J : PySem.W.InstAt s.heap a ox C od) (sl : Slot "int" (dunder op.info.2) id) (fT : fillsNumberSlot (.type "int") op.info.2 = pure true)
    (slf : PySem.W.selfFirst K C = true) (fi : PySem.W.findIn K (.ref C) (dunder op.info.2) = some (some (.ref f))) (rf : PySem.W.findIn K (.ref C) (dunderR op.info.2) = some (some (.ref g))) (rfn : PySem.W.isFn K (.ref g) = true) (sub : PySem.W.subIn K (.ref C) (.type "int") = some false)
    (no : ∀ R : Value → Shared → Prop, R .notImplemented s → wpAny (model prog w) A (call (.builtin id) [.int i t, .ref a]) R E s)
    (h : wpAny (model prog w) A (call (.ref g) [.ref a, .int i t]) (PySem.W.CmpBack Q) E s) : wpAny (model prog w) A (binaryOp op (.int i t) (.ref a)) Q E s := by
  obtain ⟨cd, rest, hcd, hm⟩ := PySem.W.ksp_first slf
  have right := PySem.W.ksp_try kin J rf rfn h
  rcases ho : op.info with ⟨sg, nm⟩
  rw [ho] at sl fT fi right
  dsimp only at sl fT fi right
  have M1 : PySem.W.Looks (model prog w) s.heap (typeOf (.ref a)) (.ref C) := J.type
  have M2 : PySem.W.Looks (model prog w) s.heap (fillsNumberSlot (.ref C) nm) true := PySem.W.fills_K kin hcd hm fi
  have M3 : PySem.W.Looks (model prog w) s.heap (isSubtype (.ref C) (.type "int")) false := PySem.W.looks_subIn kin sub
  have unl : (Value.type "int" == Value.ref C) = false := Bool.eq_false_iff.mpr fun q => by cases beq_iff_eq.mp q
  have py : numberSlotInPython (.type "int") nm = pure false := rfl
  simp only [binaryOp, ho]
  refine wpAny_holding (wpAny_bind ?_)
  unfold binaryOp1
  refine wpAny_bind (wpAny_typeOf (typeIs_int _ _ _) (wpAny_bind (M1.here (wpAny_bind (wpAny_of_eq fT ?_)))))
  simp only [unl, Bool.false_eq_true, if_false]
  refine wpAny_bind (M2.here ?_)
  simp only [Bool.and_self, if_true]
  refine wpAny_bind (M3.here ?_)
  simp only [Bool.false_eq_true, if_false, pure_bind, Bool.not_false, Bool.and_self, if_true, py]
  refine wpAny_bind (wpAny_tryMethod_declines (typeIs_int _ _ _) sl (no _ ⟨rfl, ?_⟩))
  refine wpAny_bind (wpAny_mono right (fun r s' hr => ?_) fun _ _ e => e)
  obtain ⟨v, rfl, q⟩ := hr
  exact wpAny_bind (wpAny_rule (wpAny_pure (wpAny_pure q)))
end
section
variable {X : Cx} {n : Nat} {C g : Addr} {fd : FuncData} {sp : Sp}
def rOwnR (C : Addr) (sp : Sp) : R2 := fun x y H Q => (∃ i, x = .int i) ∧ IsOwn C H y ∧ sp [y, x] H Q E0
theorem op_ownR {op : Operator} {id : String} {f : Addr} (F : FnOk X.prog X.w X.K X.mg X.base CX0 n g fd ["self", "other"] sp) (o : OpF X.K C f op.info.2) (oi : OpI X.K C g op.info.2) (sub : PySem.W.subIn X.K (.ref C) (.type "int") = some false)
    (sl : Slot "int" (dunder op.info.2) id) (fT : fillsNumberSlot (.type "int") op.info.2 = pure true)
    (no : ∀ {prog : Program} {w : World} {A : Around} {E : Value → Shared → Prop} {s : Shared} {a C dx : Addr} {i : Int} {t : Tok} {Q : Value → Shared → Prop}, s.heap.get? a = some (PySem.W.instObj C dx) → Q .notImplemented s → wpAny (model prog w) A (call (.builtin id) [.int i t, .ref a]) Q E s)
    (b : Binds X.K fd ["self", "other"] []) (hr : Room n X.A) : OpR X (binaryOp op) (rOwnR C sp) := by
  intro pins s σ H x y v u Q I rx ry h
  obtain ⟨⟨i, rfl⟩, ⟨a, dx, fs, rfl, ha⟩, hs⟩ := h
  obtain ⟨t, rfl⟩ := rx
  cases ry
  have hob := (show ObjOk X.prog X.w H s.heap a (.ins C dx fs) from I.hok a _ ha).2.2.2.1
  obtain ⟨mA, J, _⟩ := ins_get I.hok ha
  obtain ⟨od, J, _⟩ := J.look
  refine refl_own I.kIn J sl fT o.slf o.fi oi.rf oi.rfn sub (fun R q => no hob q) ?_
  exact wpAny_mono (own_run (vs := [.ref a, .int i]) F b hr rfl I (.cons rfl (.cons ⟨t, rfl⟩ .nil)) hs) (fun _ _ q => back_of q) fun _ _ z => z
end
end B71

namespace B71
open PySem PySem.Spec PyProof.Rows L2
section
variable {X : Cx} {n : Nat} {C f : Addr} {fd : FuncData} {sp : Sp}
theorem op_eqOwn (F : FnOk X.prog X.w X.K X.mg X.base CX0 n f fd ["self", "other"] sp) (fe : PySem.W.findIn X.K (.ref C) "__eq__" = some (some (.ref f))) (fn : PySem.W.isFn X.K (.ref f) = true) (nf : PySem.W.notFirst X.K C (.type "int") = true) (b : Binds X.K fd ["self", "other"] []) (hr : Room n X.A) : OpR X (compareOp .Eq) (rOwn C sp) := by
  intro pins s σ H x y v u Q I rx ry h
  obtain ⟨⟨a, dx, fs, rfl, ha⟩, hy, hs⟩ := h
  cases rx
  obtain ⟨mA, J, _⟩ := ins_get I.hok ha
  obtain ⟨od, J, _⟩ := J.look
  obtain ⟨m, hF⟩ := I.fr
  rcases hy with ⟨i, rfl⟩ | ⟨a2, dx2, fs2, rfl, ha2⟩
  · obtain ⟨t, rfl⟩ := ry
    refine PySem.W.cmp_K (op := .Eq) (tb := .type "int") hr.units0 hF I.ok.mod.kin J (PySem.W.Looks.of_pure rfl) nf fe fn ?_
    exact wpAny_mono (own_run (vs := [.ref a, .int i]) F b hr rfl I (.cons rfl (.cons ⟨t, rfl⟩ .nil)) hs) (fun _ _ q => back_of q) fun _ _ z => z
  · cases ry
    obtain ⟨mB, J2, _⟩ := ins_get I.hok ha2
    obtain ⟨od2, J2, _⟩ := J2.look
    refine PySem.W.cmp_K (op := .Eq) (tb := .ref C) hr.units0 hF I.ok.mod.kin J J2.type (by simp [PySem.W.notFirst]) fe fn ?_
    exact wpAny_mono (own_run (vs := [.ref a, .ref a2]) F b hr rfl I (.cons rfl (.cons rfl .nil)) hs) (fun _ _ q => back_of q) fun _ _ z => z
/-- int == own -/
theorem op_eqRev (F : FnOk X.prog X.w X.K X.mg X.base CX0 n f fd ["self", "other"] sp) (fe : PySem.W.findIn X.K (.ref C) "__eq__" = some (some (.ref f))) (fn : PySem.W.isFn X.K (.ref f) = true) (sub : PySem.W.subIn X.K (.ref C) (.type "int") = some false) (b : Binds X.K fd ["self", "other"] []) (hr : Room n X.A) : OpR X (compareOp .Eq) (rOwnR C sp) := by
  intro pins s σ H x y v u Q I rx ry h
  obtain ⟨⟨i, rfl⟩, ⟨a, dx, fs, rfl, ha⟩, hs⟩ := h
  obtain ⟨t, rfl⟩ := rx
  cases ry
  have hob := (show ObjOk X.prog X.w H s.heap a (.ins C dx fs) from I.hok a _ ha).2.2.2.1
  obtain ⟨mA, J, _⟩ := ins_get I.hok ha
  obtain ⟨od, J, _⟩ := J.look
  have M1 : PySem.W.Looks (model X.prog X.w) s.heap (typeOf (.ref a)) (.ref C) := J.type
  have M3 : PySem.W.Looks (model X.prog X.w) s.heap (isSubtype (.ref C) (.type "int")) false := PySem.W.looks_subIn I.kIn sub
  have unl : (Value.type "int" != Value.ref C) = true := by
    rw [bne, Bool.not_eq_true']
    exact Bool.eq_false_iff.mpr fun q => by cases beq_iff_eq.mp q
  show wpAny _ _ (richCompare .Eq (.int i t) (.ref a)) _ _ _
  unfold richCompare
  have no1 : oneThing? .Eq (.int i t) (.ref a) = none := rfl
  simp only [no1]
  refine wpAny_holding (wpAny_bind (wpAny_cRoomFor hr.units0 ?_))
  refine wpAny_bind (wpAny_typeOf (typeIs_int _ _ _) (wpAny_bind (M1.here ?_)))
  simp only [unl, if_true]
  refine wpAny_bind (M3.here ?_)
  simp only [Bool.false_eq_true, if_false]
  refine wpAny_bind (wpAny_tryCompare_declines (typeIs_int _ _ _) PySem.F.slot_int_eq (no_eq hob ⟨rfl, ?_⟩))
  simp only [Bool.not_false, if_true]
  refine wpAny_bind (m := tryCompare (.ref a) _ (.int i t)) ?_
  unfold tryCompare
  refine wpAny_bind (PySem.W.ifBound_K I.kIn J fe fn (wpAny_mono (own_run (vs := [.ref a, .int i]) F b hr rfl I (.cons rfl (.cons ⟨t, rfl⟩ .nil)) hs) (fun v s' hv => ?_) fun _ _ z => z))
  have hb := back_of hv
  cases v <;> first | exact hb.elim | exact wpAny_pure (wpAny_pure hv)
/-- str(x) by the class's own __str__ -/
def StrP (Q : VK) : VK := fun v H => ∃ z : Str, v = .str z ∧ Q v H
theorem strBack {pins : List (Addr × Obj)} {σ : L2.St} {Q : VK} {u : Value} {s : Shared} (h : EP X pins σ (StrP Q) u s) : PySem.W.StrBack (EP X pins σ Q) u s := by
  obtain ⟨v, H', I, r, z, rfl, q⟩ := h
  obtain ⟨t, rfl⟩ := r
  exact ⟨.str z, H', I, ⟨t, rfl⟩, q⟩
theorem call_strOwn (F : FnOk X.prog X.w X.K X.mg X.base CX0 n f fd ["self"] sp) (fe : PySem.W.findIn X.K (.ref C) "__str__" = some (some (.ref f))) (fn : PySem.W.isFn X.K (.ref f) = true) (b : Binds X.K fd ["self"] []) (hr : Room (n + 2) X.A) :
    CallR X (.type "str") (fun xs H Q => ∃ a dx fs, xs = [.ref a] ∧ H a = some (.ins C dx fs) ∧ sp [.ref a] H (StrP Q) E0) := by
  intro pins s σ H xs us Q I r h
  obtain ⟨a, dx, fs, rfl, ha, hs⟩ := h
  obtain rfl := Vals.ref1 r
  obtain ⟨mA, J, _⟩ := ins_get I.hok ha
  obtain ⟨od, J, _⟩ := J.look
  have hr1 : Room (n + 1) X.A.in1 := hr.in1
  have hr2 : Room n X.A.in1.in1 := hr1.in1
  exact PySem.W.kso_call hr2.units0 I.kIn J fe fn (wpAny_mono (own_run (A := X.A.in1.in1) (vs := [.ref a]) F b hr2 rfl I (.cons rfl .nil) hs) (fun _ _ q => strBack q) fun _ _ z => z)
/-- repr(x) by the class's own __repr__ -/
theorem call_reprOwn (F : FnOk X.prog X.w X.K X.mg X.base CX0 n f fd ["self"] sp) (fe : PySem.W.findIn X.K (.ref C) "__repr__" = some (some (.ref f))) (fn : PySem.W.isFn X.K (.ref f) = true) (b : Binds X.K fd ["self"] []) (hr : Room (n + 1) X.A) :
    CallR X (.builtin "repr") (fun xs H Q => ∃ a dx fs, xs = [.ref a] ∧ H a = some (.ins C dx fs) ∧ sp [.ref a] H (StrP Q) E0) := by
  intro pins s σ H xs us Q I r h
  obtain ⟨a, dx, fs, rfl, ha, hs⟩ := h
  obtain rfl := Vals.ref1 r
  obtain ⟨mA, J, _⟩ := ins_get I.hok ha
  obtain ⟨od, J, _⟩ := J.look
  have hr1 : Room n X.A.in1 := hr.in1
  refine Calls.call_function_entry PySem.F.kind_repr PySem.F.plain_repr PySem.F.entry_repr (PySem.F.args_repr1 _) ?_
  unfold Builtin.«repr»
  refine wpAny_bind (m := oneArg "repr" _) (wpAny_pure ?_)
  refine wpAny_bind (m := cRoomFor _ _) (wpAny_cRoomFor hr1.units0 ?_)
  have M1 : PySem.W.Looks (model X.prog X.w) s.heap (typeOf (.ref a)) (.ref C) := J.type
  have M2 : PySem.W.Looks (model X.prog X.w) s.heap (typeLookup (.ref C) "__repr__") (some (.ref f)) := PySem.W.looks_findIn I.kIn fe
  refine wpAny_bind (m := specialOf (.ref a) _) ?_
  unfold specialOf
  refine wpAny_bind (M1.here (M2.here ?_))
  refine wpAny_bind (m := callSpecialIfBound? (.ref a) (Str.ofString "__repr__") _) (PySem.W.ifBound_K I.kIn J fe fn (wpAny_mono (own_run (A := X.A.in1) (vs := [.ref a]) F b hr1 rfl I (.cons rfl .nil) hs) (fun v s' hv => ?_) fun _ _ z => ?_))
  · obtain ⟨v', H', I', r', z, rfl, q⟩ := hv
    obtain ⟨t, rfl⟩ := r'
    refine wpAny_bind (wpAny_isInstance (T := "str") (b := true) (typeIs_str _ _ _) isSubtype_str_str ?_)
    exact wpAny_pure ⟨_, rfl, .str z, H', I', ⟨t, rfl⟩, q⟩
  · exact z
/-- x != y: object.__ne__ by the own == -/
theorem op_neOwn (F : FnOk X.prog X.w X.K X.mg X.base CX0 n f fd ["self", "other"] sp) (fe : PySem.W.findIn X.K (.ref C) "__eq__" = some (some (.ref f))) (fn : PySem.W.isFn X.K (.ref f) = true)
    (fne : PySem.W.findIn X.K (.ref C) "__ne__" = some (some (.builtin "object.__ne__"))) (obj : PySem.W.mroIn X.K C (.type "object") = some true) (b : Binds X.K fd ["self", "other"] []) (hr : Room (n + 1) X.A) :
    OpR X (compareOp .NotEq) (fun x y H Q => IsOwn C H x ∧ IsOwn C H y ∧ sp [x, y] H (fun v H' => ∃ k, v = .bl k ∧ Q (.bl (!k)) H') E0) := by
  intro pins s σ H x y v u Q I rx ry h
  obtain ⟨⟨a, dx, fs, rfl, ha⟩, ⟨a2, dx2, fs2, rfl, ha2⟩, hs⟩ := h
  cases rx
  cases ry
  obtain ⟨mA, J, _⟩ := ins_get I.hok ha
  obtain ⟨od, J, _⟩ := J.look
  obtain ⟨mB, J2, _⟩ := ins_get I.hok ha2
  obtain ⟨od2, J2, _⟩ := J2.look
  have hr1 : Room n X.A.in1 := hr.in1
  have M1 : PySem.W.Looks (model X.prog X.w) s.heap (typeOf (.ref a)) (.ref C) := J.type
  have M2 : PySem.W.Looks (model X.prog X.w) s.heap (typeOf (.ref a2)) (.ref C) := J2.type
  have M3 : PySem.W.Looks (model X.prog X.w) s.heap (typeLookup (.ref C) (cmpInfo .NotEq).2.1) (some (.builtin "object.__ne__")) := PySem.W.looks_findIn I.kIn fne
  have key : wpAny (model X.prog X.w) X.A (call (.builtin "object.__ne__") [.ref a, .ref a2]) (fun r s' => (∃ k, r = .bool k) ∧ EP X pins σ Q r s') X.xe s := by
    refine wpAny_call (codeAny_call_builtin PySem.F.slot_object_ne.plain PySem.F.entry_object_ne (PySem.W.check_slot (i := "object.__ne__") (owner := "object") (n := "__ne__") (by decide +kernel) (by decide +kernel) (J.type.andThen (PySem.W.looks_mroIn I.kIn obj)) (PySem.F.args_object_ne_2 _ _) ?_))
    unfold Builtin.«object.__ne__»
    refine wpAny_bind (m := slotArgs "__ne__" 1 _) (wpAny_pure ?_)
    refine wpAny_bind (m := cRoomFor _ _) (wpAny_cRoomFor hr1.units0 ?_)
    refine wpAny_bind (m := callSpecialIfBound? (.ref a) (Str.ofString "__eq__") _) (PySem.W.ifBound_K I.kIn J fe fn (wpAny_mono (own_run (A := X.A.in1) (vs := [.ref a, .ref a2]) F b hr1 rfl I (.cons rfl (.cons rfl .nil)) hs) (fun v s' hv => ?_) fun _ _ z => ?_))
    · obtain ⟨v', H', I', r', k, rfl, q⟩ := hv
      cases (show v = Value.bool k from r')
      refine wpAny_bind (wpAny_truthy_bool (wpAny_pure ⟨⟨_, rfl⟩, .bl (!k), H', I', rfl, q⟩))
    · exact z
  show wpAny _ _ (richCompare .NotEq (.ref a) (.ref a2)) _ _ _
  unfold richCompare
  simp only [oneThing_ref]
  refine wpAny_holding (wpAny_bind (wpAny_cRoomFor hr.units0 ?_))
  refine wpAny_bind (M1.here (wpAny_bind (M2.here ?_)))
  have same : (Value.ref C != Value.ref C) = false := by simp
  simp only [same, Bool.false_eq_true, if_false]
  refine wpAny_bind (wpAny_pure ?_)
  simp only [Bool.false_eq_true, if_false]
  refine wpAny_bind (m := tryCompare (.ref a) _ (.ref a2)) ?_
  unfold tryCompare
  refine wpAny_bind (m := callSpecialIfBound? (.ref a) _ _) ?_
  simp only [callSpecialIfBound?, bindSpecialIfBound?]
  refine wpAny_holding (wpAny_bind (wpAny_bind (wpAny_bind (M1.here (M3.here ?_)))))
  refine wpAny_bind (wpAny_askSetting (wpAny_ite ?_))
  have bd : PySem.W.Looks (model X.prog X.w) s.heap (bindSpecial (.builtin "object.__ne__") (.ref a)) (.builtin "object.__ne__", [.ref a]) := PySem.W.Looks.of_pure (PySem.F.slot_object_ne.bind _)
  have tail : wpAny (model X.prog X.w) X.A (call (.builtin "object.__ne__") ([.ref a] ++ [.ref a2]) >>= fun v => pure (some v)) (fun r s' => ∃ k, r = some (.bool k) ∧ EP X pins σ Q (.bool k) s') X.xe s :=
    wpAny_bind (wpAny_mono key (fun v s' hv => by obtain ⟨⟨k, rfl⟩, q⟩ := hv; exact wpAny_pure ⟨k, rfl, q⟩) fun _ _ z => z)
  have fin : ∀ {E' : Value → Shared → Prop} {R : Option Value → Shared → Prop}, (∀ k s', EP X pins σ Q (.bool k) s' → R (some (.bool k)) s') → (∀ e s', X.xe e s' → E' e s') → wpAny (model X.prog X.w) X.A (call (.builtin "object.__ne__") ([.ref a] ++ [.ref a2]) >>= fun v => pure (some v)) R E' s :=
    fun hR hE => wpAny_mono tail (fun r s' hv => by obtain ⟨k, rfl, q⟩ := hv; exact hR k s' q) hE
  split
  · exact wpAny_bind (bd.here (wpAny_pure (by exact fin (fun k s' q => wpAny_pure (wpAny_pure q)) fun _ _ z => z)))
  · exact wpAny_tryCatch (wpAny_bind (bd.here (wpAny_pure (by exact fin (fun k s' q => wpAny_pure (wpAny_pure q)) fun _ _ z => z))))
end
end B71

namespace B71
open PySem PySem.Spec PyProof.Rows L2 Evl RZ SrtO
def top (i : Nat) : Stmt := PySem.Challenge.pw_shrunkrooms_k22_tables_and_helpers_any_v.main.body.getD i (.Pass ⟨0, 0, 0, 0⟩)
abbrev sm (i : Nat) : Stmt := inClass (top 16) i
/-- a name that stands for a def that keeps a promise whatever is under way -/
structure ClO (P : Program) (w : World) (K : PySem.W.Frag) (mg : Str → Option Value) (base : Heap) (x : Str) (k : Nat) (ps : List Str) (sp : Sp) : Prop where
  ex : ∃ (f : Addr) (fd : FuncData), FnOk P w K mg base CX0 k f fd ps sp ∧ Binds K fd ps [] ∧ PySem.W.keepIn K (.ref f) = true ∧ mg x = some (.ref f)
theorem pe_clo {X : Cx} {x : Str} {k : Nat} {ps : List Str} {sp : Sp} {p pos : Pos} {e : Expr} {es : List Expr} {t : TA} (C : ClO X.prog X.w X.K X.mg X.base x k ps sp) (hr : Room k X.A) (ha : PA X (e :: es) t)
    (hg : Gl X x := by rfl) (hdb : (x == ("__debug__" : Str)) = false := by decide) (he : starEach (e :: es) X.env = (false, eval e X.env) :: starEach es X.env := by rfl)
    (hpl : (backTo pos (starEach es X.env)).any (·.1) = false := by rfl) : PE X (.Call (.Name x p) (e :: es) [] pos) (tCl sp t) := by
  obtain ⟨f, fd, F, b, kp, m⟩ := C.ex
  refine ⟨fun pins s σ H Q I h => ?_⟩
  have z := (pe_call (X := X) (p := p) (pos := pos) (E := E0) F hr hg m kp b .nil pass0 ha hdb he hpl).run pins s σ H Q I
  refine z ?_
  show t σ H fun vs H1 => sp (vs ++ []) H1 Q E0
  simp only [List.append_nil]
  exact h
theorem op_fdivZ {X : Cx} : OpR X (binaryOp .FloorDiv) (rI (fun _ j => j ≠ 0 ∧ j.natAbs.log2 < 9000) fun i j => .int (i.fdiv j)) := opI fun _ _ _ _ _ _ _ hc q => floordiv_int hc.1 q (.inl (PyProof.noPylong_of_log2 hc.2))
theorem mulOk {n m : Nat} {x y : Int} (h : Bt n x) (k : Bt m y) (h0 : 0 < n) (h1 : 0 < m) (h2 : n + m ≤ 1000000) : CMulW x y := wide_mul h k h0 h1 h2
/-! ### the class -/
structure RCl (K : PySem.W.Frag) (mg : Str → Option Value) (C : Addr) : Prop where
  cl : Cls K C
  mgC : mg "Ratio" = some (.ref C)
  nT : NoAttr K C "own_top"
  nB : NoAttr K C "own_bottom"
  c1 : PySem.W.findIn K (.ref C) "__class__" = some (some (.builtin "object.__class__"))
  c2 : PySem.W.specialIn K (.builtin "object.__class__") "__get__" = some (some (.builtin "getset_descriptor.__get__"))
  c3 : PySem.W.takesIn K (.builtin "object.__class__") = some true
  c4 : PySem.W.mroIn K C (.type "object") = some true
  kI : PySem.W.kitOne K (.type "int") (.ref C) = some false
  kB : PySem.W.kitOne K (.type "bool") (.ref C) = some false
  kN : PySem.W.kitOne K (.type "NoneType") (.ref C) = some false
  kS : PySem.W.kitOne K (.type "str") (.ref C) = some false
  kL : PySem.W.kitOne K (.type "list") (.ref C) = some false
  kT : PySem.W.kitOne K (.type "tuple") (.ref C) = some false
  rI : PySem.W.kitOne K (.ref C) (.type "int") = some false
  rB : PySem.W.kitOne K (.ref C) (.type "bool") = some false
theorem kt_own {K : PySem.W.Frag} {C : Addr} : PySem.W.kitOne K (.ref C) (.ref C) = some true := by
  unfold PySem.W.kitOne
  rw [if_pos (by simp)]
/-- a Ratio of top t, bottom b at a -/
def rf (t b : Int) : List (Str × V) := [("own_top", .int t), ("own_bottom", .int b)]
def Rt (C : Addr) (H : Hp) (a : Addr) (t b : Int) : Prop := ∃ dx, H a = some (.ins C dx (rf t b))
theorem Rt.up {C : Addr} {H H' : Hp} {a : Addr} {t b : Int} (h : Rt C H a t b) (e : Ex H H') : Rt C H' a t b := h.imp fun _ q => e _ _ q
theorem tb_ne : ¬ (("own_top" : Str) = "own_bottom") := by decide +kernel
theorem rf_top {t b : Int} : (rf t b).lookup ("own_top" : Str) = some (.int t) := rfl
theorem rf_bot {t b : Int} : (rf t b).lookup ("own_bottom" : Str) = some (.int b) := by
  have e : (("own_bottom" : Str) == "own_top") = false := by decide +kernel
  unfold rf
  rw [List.lookup_cons, e]
  rfl
theorem put_rf {t b : Int} : putF "own_bottom" (.int b) (putF "own_top" (.int t) []) = rf t b := by
  show (if ("own_top" : Str) = "own_bottom" then [(("own_top" : Str), V.int b)] else (("own_top" : Str), V.int t) :: putF "own_bottom" (V.int b) []) = rf t b
  rw [if_neg tb_ne]
  rfl
theorem RCl.ty {K : PySem.W.Frag} {mg : Str → Option Value} {C : Addr} (R : RCl K mg C) {H : Hp} {a dx : Addr} {fs : List (Str × V)} (h : H a = some (.ins C dx fs)) : TyX K H (.ref a) (.ref C) := .base (.ins h R.cl R.c1 R.c2 R.c3 R.c4)
/-- an int or a Ratio, as a pair -/
def Num (C : Addr) (H : Hp) (v : V) (t b : Int) : Prop := (v = .int t ∧ b = 1) ∨ ∃ a, v = .ref a ∧ Rt C H a t b
theorem Num.up {C : Addr} {H H' : Hp} {v : V} {t b : Int} (h : Num C H v t b) (e : Ex H H') : Num C H' v t b := h.imp id fun ⟨a, h1, h2⟩ => ⟨a, h1, h2.up e⟩
/-- the promise to hand back a new Ratio -/
def RetR (C : Addr) (p : Int × Int) (H : Hp) (Q : VK) : Prop := ∀ x H', H x = none → Ex H H' → Rt C H' x p.1 p.2 → Q (.ref x) H'
structure Tx (mg : Str → Option Value) : Prop where
  b_len : mg "len" = none
  b_abs : mg "abs" = none
  b_max : mg "max" = none
  b_repr : mg "repr" = none
  b_divmod : mg "divmod" = none
  b_isinstance : mg "isinstance" = none
  b_int : mg "int" = none
  b_bool : mg "bool" = none
  b_list : mg "list" = none
  b_tuple : mg "tuple" = none
  b_str : mg "str" = none
  b_range : mg "range" = none
  b_all : mg "all" = none
  b_sum : mg "sum" = none
theorem bt_str : bootBuiltins "str" = some (.type "str") := by decide +kernel
end B71

namespace B71
open PySem PySem.Spec PyProof.Rows L2 Evl RZ SrtO
/-- a value's kind: is it an int, a bool, a Ratio -/
structure Kd (K : PySem.W.Frag) (C : Addr) (H : Hp) (v : V) (i b r : Bool) : Prop where
  ex : ∃ t, TyX K H v t ∧ PySem.W.kitOne K t (.type "int") = some i ∧ PySem.W.kitOne K t (.type "bool") = some b ∧ PySem.W.kitOne K t (.ref C) = some r
theorem kd_int {K : PySem.W.Frag} {mg : Str → Option Value} {C : Addr} (R : RCl K mg C) {H : Hp} (i : Int) : Kd K C H (.int i) true false false := ⟨_, .base (.int i), kt_int_int, kt_int_bool, R.kI⟩
theorem kd_own {K : PySem.W.Frag} {mg : Str → Option Value} {C : Addr} (R : RCl K mg C) {H : Hp} {a dx : Addr} {fs : List (Str × V)} (h : H a = some (.ins C dx fs)) : Kd K C H (.ref a) false false true := ⟨_, R.ty h, R.rI, R.rB, kt_own⟩
def spIsI (K : PySem.W.Frag) (C : Addr) : Sp := fun vs H Q _ => ∃ (v : V) (i b r : Bool), vs = [v] ∧ Kd K C H v i b r ∧ RetV (.bl (i && !b)) H Q
def spIsC (K : PySem.W.Frag) (C : Addr) : Sp := fun vs H Q _ => ∃ (v : V) (i b r : Bool) (k : Bool), vs = [v] ∧ Kd K C H v i b r ∧ (((i && !b) = false ∧ k = false) ∨ ((i && !b) = true ∧ ∃ n : Int, v = .int n ∧ k = decide (0 ≤ n))) ∧ RetV (.bl k) H Q
def spIsN (K : PySem.W.Frag) (C : Addr) : Sp := fun vs H Q _ => ∃ (v : V) (i b r : Bool), vs = [v] ∧ Kd K C H v i b r ∧ RetV (.bl ((i && !b) || r)) H Q
def SqH (H : Hp) (a : Addr) (xs : List V) : Prop := H a = some (.lst xs) ∨ H a = some (.tup xs)
theorem SqH.up {H H' : Hp} {a : Addr} {xs : List V} (h : SqH H a xs) (e : Ex H H') : SqH H' a xs := h.elim (fun h => .inl (e _ _ h)) (fun h => .inr (e _ _ h))
def spList : Sp := fun vs H Q _ => ∃ (a : Addr) (xs : List V), vs = [.ref a] ∧ SqH H a xs ∧ RetV (.bl true) H Q
def spCommon : Sp := fun vs H Q _ => ∃ a b : Int, vs = [.int a, .int b] ∧ RetV (.int ((Nat.gcd a.natAbs b.natAbs : Nat) : Int)) H Q
def spInit (C : Addr) : Sp := fun vs H Q _ => ∃ (x dx : Addr) (a b : Int), vs = [.ref x, .int a, .int b] ∧ H x = some (.ins C dx []) ∧ b ≠ 0 ∧ Bt 8000 a ∧ Bt 8000 b ∧ ∀ H', (∀ y o, y ≠ x → H y = some o → H' y = some o) → Rt C H' x (low a b).1 (low a b).2 → Q .non H'
section
variable {P : Program} {w : World} {K : PySem.W.Frag} {mg : Str → Option Value} {base : Heap} {f C : Addr} {fd : FuncData}
theorem sc_is_integer : FnScope ["value"] ["value"] (defScope (top 10)) := ⟨rfl, rfl, rfl, by decide +kernel, rfl, by decide +kernel, by decide +kernel⟩
theorem ok_is_integer (F : Fun K "is_integer" "is_integer" (top 10) f fd) (T : Tx mg) : FnOk P w K mg base CX0 1 f fd ["value"] (spIsI K C) := by
  have sc := sc_is_integer
  refine F.ok sc (fun vs H Q E h => ?_) (fun cdv A outer s H vs Q E hr h => ?_)
  · obtain ⟨v, _, _, _, rfl, _⟩ := h; rfl
  obtain ⟨v, i, b, r, rfl, ⟨t, ty, k1, k2, k3⟩, q⟩ := h
  refine ⟨_, (pss_one (ps_ret (pe_and (pe_callB call_isi rfl T.b_isinstance bt_isinstance (pa_cons (pv 0) (pa_cons (pe_bltn (v := .ty "int") rfl T.b_int bt_int rfl) pa_nil))) (pe_one (pe_not (pe_callB call_isi rfl T.b_isinstance bt_isinstance (pa_cons (pv 0) (pa_cons (pe_bltn (v := .ty "bool") rfl T.b_bool bt_bool rfl) pa_nil)))))))), ?_⟩
  refine ⟨_, rfl, _, _, _, _, _, rfl, .ty "int", ty, k1, _, rfl, ?_⟩
  cases i with
  | false => exact q _ (Ex.refl _)
  | true =>
    refine ⟨_, rfl, _, _, _, _, _, rfl, .ty "bool", ty, k2, _, rfl, ?_⟩
    exact q _ (Ex.refl _)
theorem sc_is_list : FnScope ["value"] ["value"] (defScope (top 11)) := ⟨rfl, rfl, rfl, by decide +kernel, rfl, by decide +kernel, by decide +kernel⟩
theorem ok_is_list (F : Fun K "is_list" "is_list" (top 11) f fd) (T : Tx mg) : FnOk P w K mg base CX0 1 f fd ["value"] spList := by
  have sc := sc_is_list
  refine F.ok sc (fun vs H Q E h => ?_) (fun cdv A outer s H vs Q E hr h => ?_)
  · obtain ⟨i, _, rfl, _⟩ := h; rfl
  obtain ⟨a, xs, rfl, hs, q⟩ := h
  refine ⟨_, (pss_one (ps_ret (pe_callB call_isiT rfl T.b_isinstance bt_isinstance (pa_cons (pv 0) (pa_cons (pe_tup (pa_cons (pe_bltn (v := .ty "list") rfl T.b_list bt_list rfl) (pa_cons (pe_bltn (v := .ty "tuple") rfl T.b_tuple bt_tuple rfl) pa_nil))) pa_nil))))), ?_⟩
  refine ⟨_, rfl, (by show 2 ≤ sizeLine; decide), fun p hp => ?_⟩
  have e1 : Ex H (upd H p (.tup [.ty "list", .ty "tuple"])) := Ex.new hp
  rcases hs with hs | hs
  · exact ⟨_, p, _, _, _, true, rfl, upd_same, .cons (.ty "list") (.cons (.ty "tuple") .nil), .base (.lst (e1 _ _ hs)), rfl, q _ e1⟩
  · exact ⟨_, p, _, _, _, true, rfl, upd_same, .cons (.ty "list") (.cons (.ty "tuple") .nil), .base (.tup (e1 _ _ hs)), rfl, q _ e1⟩
theorem sc_common_part : FnScope ["one", "other"] ["one", "other"] (defScope (top 15)) := ⟨rfl, rfl, rfl, by decide +kernel, rfl, by decide +kernel, by decide +kernel⟩
theorem ok_common_part (F : Fun K "common_part" "common_part" (top 15) f fd) (mgG : mg "gcd" = some (.builtin "math.gcd")) : FnOk P w K mg base CX0 1 f fd ["one", "other"] spCommon := by
  have sc := sc_common_part
  refine F.ok sc (fun vs H Q E h => ?_) (fun cdv A outer s H vs Q E hr h => ?_)
  · obtain ⟨i, _, rfl, _⟩ := h; rfl
  obtain ⟨a, b, rfl, q⟩ := h
  refine ⟨_, (pss_one (ps_ret (pe_callBfun cr_gcd rfl mgG (pa_cons (pv 0) (pa_cons (pv 1) pa_nil))))), ?_⟩
  exact ⟨_, rfl, _, rfl, a, b, rfl, q _ (Ex.refl _)⟩
end
end B71

namespace B71
open PySem PySem.Spec PyProof.Rows L2 Evl RZ SrtO

/-- the class can be called -/
structure MkR (P : Program) (w : World) (K : PySem.W.Frag) (mg : Str → Option Value) (base : Heap) (C : Addr) : Prop where
  ex : ∃ (f : Addr) (fd : FuncData), Mk K C f ∧ FnOk P w K mg base CX0 2 f fd ["self", "top", "bottom"] (spInit C) ∧ Binds K fd ["self", "top", "bottom"] [] ∧ ∃ ds, Vals [V.int 1] ds ∧ Binds K fd ["self", "top", "bottom"] ds
  mgC : mg "Ratio" = some (.ref C)
theorem made_fits {C : Addr} {a b : Int} {H : Hp} {Q : VK} {x dx : Addr} (hx : H x = none) (hd : H dx = none) (ne : dx ≠ x) (hb : b ≠ 0) (ba : Bt 8000 a) (bb : Bt 8000 b) (q : RetR C (low a b) H Q) :
    spInit C [.ref x, .int a, .int b] (upd (upd H dx (.own x)) x (.ins C dx [])) (fun v H2 => v = .non ∧ Q (.ref x) H2) E0 := by
  refine ⟨x, dx, a, b, rfl, upd_same, hb, ba, bb, fun H' k r => ⟨rfl, q x H' hx (fun y o h => k y o (ne_of_none h hx) ?_) r⟩⟩
  rw [upd_ne (ne_of_none h hx), upd_ne (ne_of_none h hd)]
  exact h
theorem bt1 : Bt 8000 1 := Bt.mono (n := 1) (show (1 : Int).natAbs < 2 ^ 1 by decide) (by decide)
section
variable {X : Cx} {C : Addr} {p pos : Pos} {e e2 : Expr} {t : TA}
theorem pe_rat2 (M : MkR X.prog X.w X.K X.mg X.base C) (hr : Room 3 X.A) (ha : PA X [e, e2] t) (hg : Gl X "Ratio" := by rfl) (he : starEach [e, e2] X.env = (false, eval e X.env) :: starEach [e2] X.env := by rfl)
    (hpl : (backTo pos (starEach [e2] X.env)).any (·.1) = false := by rfl) : PE X (.Call (.Name "Ratio" p) [e, e2] [] pos) (tMake C (spInit C) [] E0 t) := by
  obtain ⟨f, fd, m, F, b, _⟩ := M.ex
  exact pe_make (E := E0) m F hr hg M.mgC b .nil pass0 ha (by decide) he hpl
theorem pe_rat1 (M : MkR X.prog X.w X.K X.mg X.base C) (hr : Room 3 X.A) (ha : PA X [e] t) (hg : Gl X "Ratio" := by rfl) (he : starEach [e] X.env = (false, eval e X.env) :: starEach [] X.env := by rfl)
    (hpl : (backTo pos (starEach [] X.env)).any (·.1) = false := by rfl) : PE X (.Call (.Name "Ratio" p) [e] [] pos) (tMake C (spInit C) [.int 1] E0 t) := by
  obtain ⟨f, fd, m, F, _, ds, v, b⟩ := M.ex
  exact pe_make (E := E0) m F hr hg M.mgC b v pass0 ha (by decide) he hpl
end
def spTold (C : Addr) : Sp := fun vs H Q _ => ∃ (v : V) (t b : Int), vs = [v] ∧ Num C H v t b ∧ ∀ p H', H p = none → Ex H H' → H' p = some (.tup [.int t, .int b]) → Q (.ref p) H'
/-- an operator's promise: g tells the pair ahead of the lowest terms -/
def spBin (C : Addr) (g : Int → Int → Int → Int → Int × Int) : Sp := fun vs H Q _ => ∃ (a : Addr) (w : V) (t b t2 b2 : Int), vs = [.ref a, w] ∧ Rt C H a t b ∧ Num C H w t2 b2 ∧ Bt 3000 t ∧ Bt 3000 b ∧ Bt 3000 t2 ∧ Bt 3000 b2 ∧ (g t b t2 b2).2 ≠ 0 ∧ RetR C (low (g t b t2 b2).1 (g t b t2 b2).2) H Q
def gAdd (t b t2 b2 : Int) : Int × Int := (t * b2 + t2 * b, b * b2)
def gSub (t b t2 b2 : Int) : Int × Int := (t * b2 - t2 * b, b * b2)
def gSubR (t b t2 b2 : Int) : Int × Int := (t2 * b - t * b2, b * b2)
def gMul (t b t2 b2 : Int) : Int × Int := (t * t2, b * b2)
def gOver (t b t2 b2 : Int) : Int × Int := (t * b2, b * t2)
section
variable {P : Program} {w : World} {K : PySem.W.Frag} {mg : Str → Option Value} {base : Heap} {f C : Addr} {fd : FuncData}
theorem sc_Ratio___init__ : FnScope ["self", "top", "bottom", "common"] ["self", "top", "bottom"] (defScope (sm 0)) := ⟨rfl, rfl, rfl, by decide +kernel, rfl, by decide +kernel, by decide +kernel⟩
theorem ok_init (F : FunD K "__init__" "Ratio.__init__" (defArgs (sm 0)) (defBody (sm 0)) (defScope (sm 0)) [.int 1] [] f fd) (R : RCl K mg C) (T : Tx mg) (C_is_integer : ClO P w K mg base "is_integer" 1 ["value"] (spIsI K C)) (C_common_part : ClO P w K mg base "common_part" 1 ["one", "other"] spCommon) : FnOk P w K mg base CX0 2 f fd ["self", "top", "bottom"] (spInit C) := by
  have sc := sc_Ratio___init__
  refine F.ok sc (fun vs H Q E h => ?_) (fun cdv A outer s H vs Q E hr h => ?_)
  · obtain ⟨_, _, _, _, rfl, _⟩ := h; rfl
  obtain ⟨x, dx, a, b, rfl, hx, hb, ba, bb, q⟩ := h
  refine ⟨_, (pss_cons (ps_if (pt_not (pt_val (pe_clo C_is_integer (hr.mono (by first | decide | omega)) (pa_cons (pv 1) pa_nil)))) (pss_one ps_never) pss_nil) (pss_cons (ps_if (PW.pt (pw_or (pt_not (pt_val (pe_clo C_is_integer (hr.mono (by first | decide | omega)) (pa_cons (pv 2) pa_nil)))) (pw_or1 (pt_cmpR op_eq (pv 2) pe_int (nomark _))))) (pss_one ps_never) pss_nil) (pss_cons (ps_set (i := 3) sc.nd rfl (Or.inl rfl) (pe_clo C_common_part (hr.mono (by first | decide | omega)) (pa_cons (pv 1) (pa_cons (pv 2) pa_nil)))) (pss_cons (ps_if (pt_cmpR op_lt (pv 2) pe_int (nomark _)) (pss_one (ps_set (i := 3) sc.nd rfl (Or.inl rfl) (pe_op op_sub pe_int (pv 3)))) pss_nil) (pss_cons (ps_fld (pv 0) (pe_op op_fdivZ (pv 1) (pv 3)) rfl) (pss_one (ps_fld (pv 0) (pe_op op_fdivZ (pv 2) (pv 3)) rfl))))))), ?_⟩
  refine ⟨_, rfl, .int a, true, false, false, rfl, kd_int R a, fun H1 e1 => ⟨_, rfl, ?_⟩⟩
  refine ⟨_, rfl, .int b, true, false, false, rfl, kd_int R b, fun H2 e2 => ⟨_, rfl, ?_⟩⟩
  refine ⟨_, rfl, rfl, _, rfl, ?_⟩
  rw [decide_eq_false (fun z => hb (by injection z))]
  refine ⟨_, rfl, _, rfl, a, b, rfl, fun H3 e3 => ?_⟩
  refine ⟨_, rfl, _, _, rfl, rfl, _, rfl, ?_⟩
  have e13 := e1.trans (e2.trans e3)
  have gl : (gI a b).natAbs.log2 < 9000 := Nat.lt_trans ((bb.le (gI_le (a := a) hb)).log (by decide)) (by decide)
  have hx3 := e13 _ _ hx
  have done : ∀ (H' : Hp), H' = upd (upd H3 x (.ins C dx (putF "own_top" (.int (a.fdiv (gI a b))) []))) x (.ins C dx (putF "own_bottom" (.int (b.fdiv (gI a b))) (putF "own_top" (.int (a.fdiv (gI a b))) []))) → Q .non H' := fun H' e => by
    subst e
    refine q _ (fun y o n h => by rw [upd_ne n, upd_ne n]; exact e13 y o h) ⟨dx, ?_⟩
    rw [upd_same, put_rf]
    rfl
  by_cases hn : b < 0
  · have eg : gI a b = 0 - ((Nat.gcd a.natAbs b.natAbs : Nat) : Int) := by unfold gI; rw [if_pos hn]
    rw [decide_eq_true hn]
    refine ⟨_, rfl, _, _, rfl, rfl, ?_⟩
    refine ⟨_, rfl, _, rfl, _, _, rfl, rfl, ⟨by rw [← eg]; exact gI_ne hb, by rw [← eg]; exact gl⟩, _, rfl, x, C, dx, [], rfl, hx3, R.cl, R.nT, (by show 0 < 1000; decide), ?_⟩
    refine ⟨_, rfl, _, rfl, _, _, rfl, rfl, ⟨by rw [← eg]; exact gI_ne hb, by rw [← eg]; exact gl⟩, _, rfl, x, C, dx, _, rfl, upd_same, R.cl, R.nB, (by show 1 < 1000; decide), ?_⟩
    refine done _ ?_
    rw [eg]
  · have eg : gI a b = ((Nat.gcd a.natAbs b.natAbs : Nat) : Int) := by unfold gI; rw [if_neg hn]
    rw [decide_eq_false hn]
    refine ⟨_, rfl, _, rfl, _, _, rfl, rfl, ⟨by rw [← eg]; exact gI_ne hb, by rw [← eg]; exact gl⟩, _, rfl, x, C, dx, [], rfl, hx3, R.cl, R.nT, (by show 0 < 1000; decide), ?_⟩
    refine ⟨_, rfl, _, rfl, _, _, rfl, rfl, ⟨by rw [← eg]; exact gI_ne hb, by rw [← eg]; exact gl⟩, _, rfl, x, C, dx, _, rfl, upd_same, R.cl, R.nB, (by show 1 < 1000; decide), ?_⟩
    refine done _ ?_
    rw [eg]
theorem sc_told_pair : FnScope ["value"] ["value"] (defScope (top 17)) := ⟨rfl, rfl, rfl, by decide +kernel, rfl, by decide +kernel, by decide +kernel⟩
theorem ok_told_pair (F : Fun K "told_pair" "told_pair" (top 17) f fd) (R : RCl K mg C) (T : Tx mg) (C_is_integer : ClO P w K mg base "is_integer" 1 ["value"] (spIsI K C)) : FnOk P w K mg base CX0 2 f fd ["value"] (spTold C) := by
  have sc := sc_told_pair
  refine F.ok sc (fun vs H Q E h => ?_) (fun cdv A outer s H vs Q E hr h => ?_)
  · obtain ⟨_, _, _, rfl, _⟩ := h; rfl
  obtain ⟨v, t, b, rfl, hv, q⟩ := h
  refine ⟨_, (pss_cons (ps_if (pt_val (pe_callB call_isi rfl T.b_isinstance bt_isinstance (pa_cons (pv 0) (pa_cons (pe_glob (v := .ref C) rfl R.mgC rfl) pa_nil)))) (pss_one (ps_ret (pe_tup (pa_cons (pe_fld (pv 0) rfl) (pa_cons (pe_fld (pv 0) rfl) pa_nil))))) pss_nil) (pss_cons (ps_if (pt_not (pt_val (pe_clo C_is_integer (hr.mono (by first | decide | omega)) (pa_cons (pv 0) pa_nil)))) (pss_one ps_never) pss_nil) (pss_one (ps_ret (pe_tup (pa_cons (pv 0) (pa_cons pe_int pa_nil))))))), ?_⟩
  rcases hv with ⟨rfl, rfl⟩ | ⟨a, rfl, dx, ha⟩
  · refine ⟨_, rfl, _, _, _, _, _, rfl, .own C, .base (.int t), R.kI, _, rfl, ?_⟩
    refine ⟨_, rfl, .int t, true, false, false, rfl, kd_int R t, fun H1 e1 => ⟨_, rfl, ?_⟩⟩
    refine ⟨_, rfl, (by show 2 ≤ sizeLine; decide), fun p hp => ?_⟩
    exact q p _ (fresh_back e1 hp) (e1.trans (Ex.new hp)) upd_same
  · refine ⟨_, rfl, _, _, _, _, _, rfl, .own C, R.ty ha, kt_own, _, rfl, ?_⟩
    refine ⟨_, rfl, a, C, dx, _, _, rfl, ha, R.cl, R.nT, rf_top, _, rfl, a, C, dx, _, _, rfl, ha, R.cl, R.nB, rf_bot, (by show 2 ≤ sizeLine; decide), fun p hp => ?_⟩
    exact q p _ hp (Ex.new hp) upd_same
end
end B71

namespace B71
open PySem PySem.Spec PyProof.Rows L2 Evl RZ SrtO

def spUn (C : Addr) (g : Int → Int) : Sp := fun vs H Q _ => ∃ (a : Addr) (t b : Int), vs = [.ref a] ∧ Rt C H a t b ∧ Bt 3000 t ∧ Bt 3000 b ∧ b ≠ 0 ∧ RetR C (low (g t) b) H Q
def spCmp (C : Addr) (g : Int → Int → Int → Int → Bool) : Sp := fun vs H Q _ => ∃ (a : Addr) (w : V) (t b t2 b2 : Int), vs = [.ref a, w] ∧ Rt C H a t b ∧ Num C H w t2 b2 ∧ Bt 3000 t ∧ Bt 3000 b ∧ Bt 3000 t2 ∧ Bt 3000 b2 ∧ RetV (.bl (g t b t2 b2)) H Q
def spEqR (C : Addr) : Sp := fun vs H Q _ => ∃ (a : Addr) (w : V) (t b : Int), vs = [.ref a, w] ∧ Rt C H a t b ∧ ((∃ i, w = .int i ∧ RetV (.bl false) H Q) ∨ ∃ a2 t2 b2, w = .ref a2 ∧ Rt C H a2 t2 b2 ∧ RetV (.bl (decide (t = t2 ∧ b = b2))) H Q)
def spGet (C : Addr) (g : Int → Int → V) : Sp := fun vs H Q _ => ∃ (a : Addr) (t b : Int), vs = [.ref a] ∧ Rt C H a t b ∧ RetV (g t b) H Q
section
variable {P : Program} {w : World} {K : PySem.W.Frag} {mg : Str → Option Value} {base : Heap} {f C : Addr} {fd : FuncData}

theorem sc_Ratio___add__ : FnScope ["self", "other", "top", "bottom"] ["self", "other"] (defScope (sm 6)) := ⟨rfl, rfl, rfl, by decide +kernel, rfl, by decide +kernel, by decide +kernel⟩
theorem ok_add (F : Fun K "__add__" "Ratio.__add__" (sm 6) f fd) (R : RCl K mg C) (T : Tx mg) (MR : MkR P w K mg base C) (C_told_pair : ClO P w K mg base "told_pair" 2 ["value"] (spTold C)) : FnOk P w K mg base CX0 4 f fd ["self", "other"] (spBin C gAdd) := by
  have sc := sc_Ratio___add__
  refine F.ok sc (fun vs H Q E h => ?_) (fun cdv A outer s H vs Q E hr h => ?_)
  · obtain ⟨_, _, _, _, _, _, rfl, _⟩ := h; rfl
  obtain ⟨a, w, t, b, t2, b2, rfl, ⟨dx, ha⟩, hw, bt, bb, bt2, bb2, hne, q⟩ := h
  refine ⟨_, (pss_cons (ps_asg (pe_clo C_told_pair (hr.mono (by first | decide | omega)) (pa_cons (pv 1) pa_nil)) (pg_tup rfl (pgs_cons (pg_name (i := 2) sc.nd rfl (Or.inl rfl)) (pgs_cons (pg_name (i := 3) sc.nd rfl (Or.inl rfl)) pgs_nil)))) (pss_one (ps_ret (pe_rat2 MR (hr.mono (by first | decide | omega)) (pa_cons (pe_op op_add (pe_op op_mulW (pe_fld (pv 0) rfl) (pv 3)) (pe_op op_mulW (pv 2) (pe_fld (pv 0) rfl))) (pa_cons (pe_op op_mulW (pe_fld (pv 0) rfl) (pv 3)) pa_nil)))))), ?_⟩
  refine ⟨_, rfl, w, t2, b2, rfl, hw, fun p H1 hp0 e1 hp1 => ?_⟩
  have ha1 := e1 _ _ ha
  refine ⟨p, _, rfl, st_of hp1, rfl, _, _, rfl, _, _, rfl, rfl, ?_⟩
  refine ⟨_, rfl, a, C, dx, _, _, rfl, ha1, R.cl, R.nT, rf_top, _, rfl, _, _, rfl, rfl, mulOk bt bb2 (by decide) (by decide) (by decide), _, rfl, _, rfl, a, C, dx, _, _, rfl, ha1, R.cl, R.nB, rf_bot, _, _, rfl, rfl, mulOk bt2 bb (by decide) (by decide) (by decide), _, _, rfl, rfl, _, rfl, a, C, dx, _, _, rfl, ha1, R.cl, R.nB, rf_bot, _, rfl, _, _, rfl, rfl, mulOk bb bb2 (by decide) (by decide) (by decide), fun x dx' hx hd ne => ?_⟩
  exact made_fits hx hd ne hne (Bt.mono (Bt.add (Bt.mul bt bb2) (Bt.mul bt2 bb)) (by decide)) (Bt.mono (Bt.mul bb bb2) (by decide)) fun x H' h0 e r => q x H' (fresh_back e1 h0) (e1.trans e) r

theorem sc_Ratio___radd__ : FnScope ["self", "other", "top", "bottom"] ["self", "other"] (defScope (sm 7)) := ⟨rfl, rfl, rfl, by decide +kernel, rfl, by decide +kernel, by decide +kernel⟩
theorem ok_radd (F : Fun K "__radd__" "Ratio.__radd__" (sm 7) f fd) (R : RCl K mg C) (T : Tx mg) (MR : MkR P w K mg base C) (C_told_pair : ClO P w K mg base "told_pair" 2 ["value"] (spTold C)) : FnOk P w K mg base CX0 4 f fd ["self", "other"] (spBin C gAdd) := by
  have sc := sc_Ratio___radd__
  refine F.ok sc (fun vs H Q E h => ?_) (fun cdv A outer s H vs Q E hr h => ?_)
  · obtain ⟨_, _, _, _, _, _, rfl, _⟩ := h; rfl
  obtain ⟨a, w, t, b, t2, b2, rfl, ⟨dx, ha⟩, hw, bt, bb, bt2, bb2, hne, q⟩ := h
  refine ⟨_, (pss_cons (ps_asg (pe_clo C_told_pair (hr.mono (by first | decide | omega)) (pa_cons (pv 1) pa_nil)) (pg_tup rfl (pgs_cons (pg_name (i := 2) sc.nd rfl (Or.inl rfl)) (pgs_cons (pg_name (i := 3) sc.nd rfl (Or.inl rfl)) pgs_nil)))) (pss_one (ps_ret (pe_rat2 MR (hr.mono (by first | decide | omega)) (pa_cons (pe_op op_add (pe_op op_mulW (pe_fld (pv 0) rfl) (pv 3)) (pe_op op_mulW (pv 2) (pe_fld (pv 0) rfl))) (pa_cons (pe_op op_mulW (pe_fld (pv 0) rfl) (pv 3)) pa_nil)))))), ?_⟩
  refine ⟨_, rfl, w, t2, b2, rfl, hw, fun p H1 hp0 e1 hp1 => ?_⟩
  have ha1 := e1 _ _ ha
  refine ⟨p, _, rfl, st_of hp1, rfl, _, _, rfl, _, _, rfl, rfl, ?_⟩
  refine ⟨_, rfl, a, C, dx, _, _, rfl, ha1, R.cl, R.nT, rf_top, _, rfl, _, _, rfl, rfl, mulOk bt bb2 (by decide) (by decide) (by decide), _, rfl, _, rfl, a, C, dx, _, _, rfl, ha1, R.cl, R.nB, rf_bot, _, _, rfl, rfl, mulOk bt2 bb (by decide) (by decide) (by decide), _, _, rfl, rfl, _, rfl, a, C, dx, _, _, rfl, ha1, R.cl, R.nB, rf_bot, _, rfl, _, _, rfl, rfl, mulOk bb bb2 (by decide) (by decide) (by decide), fun x dx' hx hd ne => ?_⟩
  exact made_fits hx hd ne hne (Bt.mono (Bt.add (Bt.mul bt bb2) (Bt.mul bt2 bb)) (by decide)) (Bt.mono (Bt.mul bb bb2) (by decide)) fun x H' h0 e r => q x H' (fresh_back e1 h0) (e1.trans e) r

theorem sc_Ratio___sub__ : FnScope ["self", "other", "top", "bottom"] ["self", "other"] (defScope (sm 8)) := ⟨rfl, rfl, rfl, by decide +kernel, rfl, by decide +kernel, by decide +kernel⟩
theorem ok_sub (F : Fun K "__sub__" "Ratio.__sub__" (sm 8) f fd) (R : RCl K mg C) (T : Tx mg) (MR : MkR P w K mg base C) (C_told_pair : ClO P w K mg base "told_pair" 2 ["value"] (spTold C)) : FnOk P w K mg base CX0 4 f fd ["self", "other"] (spBin C gSub) := by
  have sc := sc_Ratio___sub__
  refine F.ok sc (fun vs H Q E h => ?_) (fun cdv A outer s H vs Q E hr h => ?_)
  · obtain ⟨_, _, _, _, _, _, rfl, _⟩ := h; rfl
  obtain ⟨a, w, t, b, t2, b2, rfl, ⟨dx, ha⟩, hw, bt, bb, bt2, bb2, hne, q⟩ := h
  refine ⟨_, (pss_cons (ps_asg (pe_clo C_told_pair (hr.mono (by first | decide | omega)) (pa_cons (pv 1) pa_nil)) (pg_tup rfl (pgs_cons (pg_name (i := 2) sc.nd rfl (Or.inl rfl)) (pgs_cons (pg_name (i := 3) sc.nd rfl (Or.inl rfl)) pgs_nil)))) (pss_one (ps_ret (pe_rat2 MR (hr.mono (by first | decide | omega)) (pa_cons (pe_op op_sub (pe_op op_mulW (pe_fld (pv 0) rfl) (pv 3)) (pe_op op_mulW (pv 2) (pe_fld (pv 0) rfl))) (pa_cons (pe_op op_mulW (pe_fld (pv 0) rfl) (pv 3)) pa_nil)))))), ?_⟩
  refine ⟨_, rfl, w, t2, b2, rfl, hw, fun p H1 hp0 e1 hp1 => ?_⟩
  have ha1 := e1 _ _ ha
  refine ⟨p, _, rfl, st_of hp1, rfl, _, _, rfl, _, _, rfl, rfl, ?_⟩
  refine ⟨_, rfl, a, C, dx, _, _, rfl, ha1, R.cl, R.nT, rf_top, _, rfl, _, _, rfl, rfl, mulOk bt bb2 (by decide) (by decide) (by decide), _, rfl, _, rfl, a, C, dx, _, _, rfl, ha1, R.cl, R.nB, rf_bot, _, _, rfl, rfl, mulOk bt2 bb (by decide) (by decide) (by decide), _, _, rfl, rfl, _, rfl, a, C, dx, _, _, rfl, ha1, R.cl, R.nB, rf_bot, _, rfl, _, _, rfl, rfl, mulOk bb bb2 (by decide) (by decide) (by decide), fun x dx' hx hd ne => ?_⟩
  exact made_fits hx hd ne hne (Bt.mono (Bt.sub (Bt.mul bt bb2) (Bt.mul bt2 bb)) (by decide)) (Bt.mono (Bt.mul bb bb2) (by decide)) fun x H' h0 e r => q x H' (fresh_back e1 h0) (e1.trans e) r

theorem sc_Ratio___rsub__ : FnScope ["self", "other", "top", "bottom"] ["self", "other"] (defScope (sm 9)) := ⟨rfl, rfl, rfl, by decide +kernel, rfl, by decide +kernel, by decide +kernel⟩
theorem ok_rsub (F : Fun K "__rsub__" "Ratio.__rsub__" (sm 9) f fd) (R : RCl K mg C) (T : Tx mg) (MR : MkR P w K mg base C) (C_told_pair : ClO P w K mg base "told_pair" 2 ["value"] (spTold C)) : FnOk P w K mg base CX0 4 f fd ["self", "other"] (spBin C gSubR) := by
  have sc := sc_Ratio___rsub__
  refine F.ok sc (fun vs H Q E h => ?_) (fun cdv A outer s H vs Q E hr h => ?_)
  · obtain ⟨_, _, _, _, _, _, rfl, _⟩ := h; rfl
  obtain ⟨a, w, t, b, t2, b2, rfl, ⟨dx, ha⟩, hw, bt, bb, bt2, bb2, hne, q⟩ := h
  refine ⟨_, (pss_cons (ps_asg (pe_clo C_told_pair (hr.mono (by first | decide | omega)) (pa_cons (pv 1) pa_nil)) (pg_tup rfl (pgs_cons (pg_name (i := 2) sc.nd rfl (Or.inl rfl)) (pgs_cons (pg_name (i := 3) sc.nd rfl (Or.inl rfl)) pgs_nil)))) (pss_one (ps_ret (pe_rat2 MR (hr.mono (by first | decide | omega)) (pa_cons (pe_op op_sub (pe_op op_mulW (pv 2) (pe_fld (pv 0) rfl)) (pe_op op_mulW (pe_fld (pv 0) rfl) (pv 3))) (pa_cons (pe_op op_mulW (pe_fld (pv 0) rfl) (pv 3)) pa_nil)))))), ?_⟩
  refine ⟨_, rfl, w, t2, b2, rfl, hw, fun p H1 hp0 e1 hp1 => ?_⟩
  have ha1 := e1 _ _ ha
  refine ⟨p, _, rfl, st_of hp1, rfl, _, _, rfl, _, _, rfl, rfl, ?_⟩
  refine ⟨_, rfl, _, rfl, a, C, dx, _, _, rfl, ha1, R.cl, R.nB, rf_bot, _, _, rfl, rfl, mulOk bt2 bb (by decide) (by decide) (by decide), _, rfl, a, C, dx, _, _, rfl, ha1, R.cl, R.nT, rf_top, _, rfl, _, _, rfl, rfl, mulOk bt bb2 (by decide) (by decide) (by decide), _, _, rfl, rfl, _, rfl, a, C, dx, _, _, rfl, ha1, R.cl, R.nB, rf_bot, _, rfl, _, _, rfl, rfl, mulOk bb bb2 (by decide) (by decide) (by decide), fun x dx' hx hd ne => ?_⟩
  exact made_fits hx hd ne hne (Bt.mono (Bt.sub (Bt.mul bt2 bb) (Bt.mul bt bb2)) (by decide)) (Bt.mono (Bt.mul bb bb2) (by decide)) fun x H' h0 e r => q x H' (fresh_back e1 h0) (e1.trans e) r

theorem sc_Ratio___mul__ : FnScope ["self", "other", "top", "bottom"] ["self", "other"] (defScope (sm 10)) := ⟨rfl, rfl, rfl, by decide +kernel, rfl, by decide +kernel, by decide +kernel⟩
theorem ok_mul (F : Fun K "__mul__" "Ratio.__mul__" (sm 10) f fd) (R : RCl K mg C) (T : Tx mg) (MR : MkR P w K mg base C) (C_told_pair : ClO P w K mg base "told_pair" 2 ["value"] (spTold C)) : FnOk P w K mg base CX0 4 f fd ["self", "other"] (spBin C gMul) := by
  have sc := sc_Ratio___mul__
  refine F.ok sc (fun vs H Q E h => ?_) (fun cdv A outer s H vs Q E hr h => ?_)
  · obtain ⟨_, _, _, _, _, _, rfl, _⟩ := h; rfl
  obtain ⟨a, w, t, b, t2, b2, rfl, ⟨dx, ha⟩, hw, bt, bb, bt2, bb2, hne, q⟩ := h
  refine ⟨_, (pss_cons (ps_asg (pe_clo C_told_pair (hr.mono (by first | decide | omega)) (pa_cons (pv 1) pa_nil)) (pg_tup rfl (pgs_cons (pg_name (i := 2) sc.nd rfl (Or.inl rfl)) (pgs_cons (pg_name (i := 3) sc.nd rfl (Or.inl rfl)) pgs_nil)))) (pss_one (ps_ret (pe_rat2 MR (hr.mono (by first | decide | omega)) (pa_cons (pe_op op_mulW (pe_fld (pv 0) rfl) (pv 2)) (pa_cons (pe_op op_mulW (pe_fld (pv 0) rfl) (pv 3)) pa_nil)))))), ?_⟩
  refine ⟨_, rfl, w, t2, b2, rfl, hw, fun p H1 hp0 e1 hp1 => ?_⟩
  have ha1 := e1 _ _ ha
  refine ⟨p, _, rfl, st_of hp1, rfl, _, _, rfl, _, _, rfl, rfl, ?_⟩
  refine ⟨_, rfl, a, C, dx, _, _, rfl, ha1, R.cl, R.nT, rf_top, _, rfl, _, _, rfl, rfl, mulOk bt bt2 (by decide) (by decide) (by decide), _, rfl, a, C, dx, _, _, rfl, ha1, R.cl, R.nB, rf_bot, _, rfl, _, _, rfl, rfl, mulOk bb bb2 (by decide) (by decide) (by decide), fun x dx' hx hd ne => ?_⟩
  exact made_fits hx hd ne hne (Bt.mono (Bt.mul bt bt2) (by decide)) (Bt.mono (Bt.mul bb bb2) (by decide)) fun x H' h0 e r => q x H' (fresh_back e1 h0) (e1.trans e) r

theorem sc_Ratio___rmul__ : FnScope ["self", "other", "top", "bottom"] ["self", "other"] (defScope (sm 11)) := ⟨rfl, rfl, rfl, by decide +kernel, rfl, by decide +kernel, by decide +kernel⟩
theorem ok_rmul (F : Fun K "__rmul__" "Ratio.__rmul__" (sm 11) f fd) (R : RCl K mg C) (T : Tx mg) (MR : MkR P w K mg base C) (C_told_pair : ClO P w K mg base "told_pair" 2 ["value"] (spTold C)) : FnOk P w K mg base CX0 4 f fd ["self", "other"] (spBin C gMul) := by
  have sc := sc_Ratio___rmul__
  refine F.ok sc (fun vs H Q E h => ?_) (fun cdv A outer s H vs Q E hr h => ?_)
  · obtain ⟨_, _, _, _, _, _, rfl, _⟩ := h; rfl
  obtain ⟨a, w, t, b, t2, b2, rfl, ⟨dx, ha⟩, hw, bt, bb, bt2, bb2, hne, q⟩ := h
  refine ⟨_, (pss_cons (ps_asg (pe_clo C_told_pair (hr.mono (by first | decide | omega)) (pa_cons (pv 1) pa_nil)) (pg_tup rfl (pgs_cons (pg_name (i := 2) sc.nd rfl (Or.inl rfl)) (pgs_cons (pg_name (i := 3) sc.nd rfl (Or.inl rfl)) pgs_nil)))) (pss_one (ps_ret (pe_rat2 MR (hr.mono (by first | decide | omega)) (pa_cons (pe_op op_mulW (pe_fld (pv 0) rfl) (pv 2)) (pa_cons (pe_op op_mulW (pe_fld (pv 0) rfl) (pv 3)) pa_nil)))))), ?_⟩
  refine ⟨_, rfl, w, t2, b2, rfl, hw, fun p H1 hp0 e1 hp1 => ?_⟩
  have ha1 := e1 _ _ ha
  refine ⟨p, _, rfl, st_of hp1, rfl, _, _, rfl, _, _, rfl, rfl, ?_⟩
  refine ⟨_, rfl, a, C, dx, _, _, rfl, ha1, R.cl, R.nT, rf_top, _, rfl, _, _, rfl, rfl, mulOk bt bt2 (by decide) (by decide) (by decide), _, rfl, a, C, dx, _, _, rfl, ha1, R.cl, R.nB, rf_bot, _, rfl, _, _, rfl, rfl, mulOk bb bb2 (by decide) (by decide) (by decide), fun x dx' hx hd ne => ?_⟩
  exact made_fits hx hd ne hne (Bt.mono (Bt.mul bt bt2) (by decide)) (Bt.mono (Bt.mul bb bb2) (by decide)) fun x H' h0 e r => q x H' (fresh_back e1 h0) (e1.trans e) r

theorem sc_Ratio_over : FnScope ["self", "other", "top", "bottom"] ["self", "other"] (defScope (sm 13)) := ⟨rfl, rfl, rfl, by decide +kernel, rfl, by decide +kernel, by decide +kernel⟩
theorem ok_over (F : Fun K "over" "Ratio.over" (sm 13) f fd) (R : RCl K mg C) (T : Tx mg) (MR : MkR P w K mg base C) (C_told_pair : ClO P w K mg base "told_pair" 2 ["value"] (spTold C)) : FnOk P w K mg base CX0 4 f fd ["self", "other"] (spBin C gOver) := by
  have sc := sc_Ratio_over
  refine F.ok sc (fun vs H Q E h => ?_) (fun cdv A outer s H vs Q E hr h => ?_)
  · obtain ⟨_, _, _, _, _, _, rfl, _⟩ := h; rfl
  obtain ⟨a, w, t, b, t2, b2, rfl, ⟨dx, ha⟩, hw, bt, bb, bt2, bb2, hne, q⟩ := h
  refine ⟨_, (pss_cons (ps_asg (pe_clo C_told_pair (hr.mono (by first | decide | omega)) (pa_cons (pv 1) pa_nil)) (pg_tup rfl (pgs_cons (pg_name (i := 2) sc.nd rfl (Or.inl rfl)) (pgs_cons (pg_name (i := 3) sc.nd rfl (Or.inl rfl)) pgs_nil)))) (pss_cons (ps_if (pt_cmpR op_eq (pv 2) pe_int (nomark _)) (pss_one ps_never) pss_nil) (pss_one (ps_ret (pe_rat2 MR (hr.mono (by first | decide | omega)) (pa_cons (pe_op op_mulW (pe_fld (pv 0) rfl) (pv 3)) (pa_cons (pe_op op_mulW (pe_fld (pv 0) rfl) (pv 2)) pa_nil))))))), ?_⟩
  refine ⟨_, rfl, w, t2, b2, rfl, hw, fun p H1 hp0 e1 hp1 => ?_⟩
  have ha1 := e1 _ _ ha
  refine ⟨p, _, rfl, st_of hp1, rfl, _, _, rfl, _, _, rfl, rfl, ?_⟩
  refine ⟨_, rfl, rfl, _, rfl, ?_⟩
  rw [decide_eq_false (fun z => (show b * t2 ≠ 0 from hne) (by injection z with z; rw [z, Int.mul_zero]))]
  refine ⟨_, rfl, a, C, dx, _, _, rfl, ha1, R.cl, R.nT, rf_top, _, rfl, _, _, rfl, rfl, mulOk bt bb2 (by decide) (by decide) (by decide), _, rfl, a, C, dx, _, _, rfl, ha1, R.cl, R.nB, rf_bot, _, rfl, _, _, rfl, rfl, mulOk bb bt2 (by decide) (by decide) (by decide), fun x dx' hx hd ne => ?_⟩
  exact made_fits hx hd ne hne (Bt.mono (Bt.mul bt bb2) (by decide)) (Bt.mono (Bt.mul bb bt2) (by decide)) fun x H' h0 e r => q x H' (fresh_back e1 h0) (e1.trans e) r

theorem sc_Ratio___neg__ : FnScope ["self"] ["self"] (defScope (sm 12)) := ⟨rfl, rfl, rfl, by decide +kernel, rfl, by decide +kernel, by decide +kernel⟩
theorem ok_neg (F : Fun K "__neg__" "Ratio.__neg__" (sm 12) f fd) (R : RCl K mg C) (T : Tx mg) (MR : MkR P w K mg base C) : FnOk P w K mg base CX0 4 f fd ["self"] (spUn C (fun t => 0 - t)) := by
  have sc := sc_Ratio___neg__
  refine F.ok sc (fun vs H Q E h => ?_) (fun cdv A outer s H vs Q E hr h => ?_)
  · obtain ⟨_, _, _, rfl, _⟩ := h; rfl
  obtain ⟨a, t, b, rfl, ⟨dx, ha1⟩, bt, bb, hne, q⟩ := h
  refine ⟨_, (pss_one (ps_ret (pe_rat2 MR (hr.mono (by first | decide | omega)) (pa_cons (pe_op op_sub pe_int (pe_fld (pv 0) rfl)) (pa_cons (pe_fld (pv 0) rfl) pa_nil))))), ?_⟩
  refine ⟨_, rfl, a, C, dx, _, _, rfl, ha1, R.cl, R.nT, rf_top, _, _, rfl, rfl, _, rfl, a, C, dx, _, _, rfl, ha1, R.cl, R.nB, rf_bot, fun x dx' hx hd ne => ?_⟩
  exact made_fits hx hd ne hne (Bt.mono (Bt.le bt (by show (0 - t).natAbs ≤ t.natAbs; omega)) (by decide)) (Bt.mono bb (by decide)) q

theorem sc_Ratio___eq__ : FnScope ["self", "other"] ["self", "other"] (defScope (sm 17)) := ⟨rfl, rfl, rfl, by decide +kernel, rfl, by decide +kernel, by decide +kernel⟩
theorem ok_eq (F : Fun K "__eq__" "Ratio.__eq__" (sm 17) f fd) (R : RCl K mg C) (T : Tx mg) : FnOk P w K mg base CX0 1 f fd ["self", "other"] (spEqR C) := by
  have sc := sc_Ratio___eq__
  refine F.ok sc (fun vs H Q E h => ?_) (fun cdv A outer s H vs Q E hr h => ?_)
  · obtain ⟨_, _, _, _, rfl, _⟩ := h; rfl
  obtain ⟨a, w, t, b, rfl, ⟨dx, ha1⟩, hw⟩ := h
  refine ⟨_, (pss_cons (ps_if (pt_not (pt_val (pe_callB call_isi rfl T.b_isinstance bt_isinstance (pa_cons (pv 1) (pa_cons (pe_glob (v := .ref C) rfl R.mgC rfl) pa_nil))))) (pss_one (ps_ret pe_bl)) pss_nil) (pss_one (ps_ret (pe_and (pe_cmpR op_eq (pe_fld (pv 0) rfl) (pe_fld (pv 1) rfl) (nomark _)) (pe_one (pe_cmpR op_eq (pe_fld (pv 0) rfl) (pe_fld (pv 1) rfl) (nomark _))))))), ?_⟩
  rcases hw with ⟨i, rfl, q⟩ | ⟨a2, t2, b2, rfl, ⟨dx2, ha2⟩, q⟩
  · refine ⟨_, rfl, _, _, _, _, _, rfl, .own C, .base (.int i), R.kI, _, rfl, ?_⟩
    exact q _ (Ex.refl _)
  · refine ⟨_, rfl, _, _, _, _, _, rfl, .own C, R.ty ha2, kt_own, _, rfl, ?_⟩
    refine ⟨_, rfl, a, C, dx, _, _, rfl, ha1, R.cl, R.nT, rf_top, _, rfl, a2, C, dx2, _, _, rfl, ha2, R.cl, R.nT, rf_top, rfl, _, rfl, ?_⟩
    refine ite2 (fun c => ?_) (fun c => ?_)
    · have c' : t = t2 := by
        have := of_decide_eq_true c
        injection this
      refine ⟨_, rfl, a, C, dx, _, _, rfl, ha1, R.cl, R.nB, rf_bot, _, rfl, a2, C, dx2, _, _, rfl, ha2, R.cl, R.nB, rf_bot, rfl, ?_⟩
      have e : decide (V.int b = V.int b2) = decide (t = t2 ∧ b = b2) := decide_eq_decide.mpr ⟨fun z => ⟨c', by injection z⟩, fun z => by rw [z.2]⟩
      show Q (.bl (decide (V.int b = V.int b2))) _
      rw [e]
      exact q _ (Ex.refl _)
    · have e : decide (t = t2 ∧ b = b2) = false := decide_eq_false fun z => c (by rw [z.1]; simp)
      rw [e] at q
      exact q _ (Ex.refl _)

theorem sc_Ratio_top : FnScope ["self"] ["self"] (defScope (sm 1)) := ⟨rfl, rfl, rfl, by decide +kernel, rfl, by decide +kernel, by decide +kernel⟩
theorem ok_topP (F : Fun K "top" "Ratio.top" (sm 1) f fd) (R : RCl K mg C) : FnOk P w K mg base CX0 1 f fd ["self"] (spGet C (fun t _ => .int t)) := by
  have sc := sc_Ratio_top
  refine F.ok sc (fun vs H Q E h => ?_) (fun cdv A outer s H vs Q E hr h => ?_)
  · obtain ⟨_, _, _, rfl, _⟩ := h; rfl
  obtain ⟨a, t, b, rfl, ⟨dx, ha1⟩, q⟩ := h
  refine ⟨_, (pss_one (ps_ret (pe_fld (pv 0) rfl))), ?_⟩
  exact ⟨_, rfl, a, C, dx, _, _, rfl, ha1, R.cl, R.nT, rf_top, q _ (Ex.refl _)⟩

theorem sc_Ratio_bottom : FnScope ["self"] ["self"] (defScope (sm 2)) := ⟨rfl, rfl, rfl, by decide +kernel, rfl, by decide +kernel, by decide +kernel⟩
theorem ok_bottomP (F : Fun K "bottom" "Ratio.bottom" (sm 2) f fd) (R : RCl K mg C) : FnOk P w K mg base CX0 1 f fd ["self"] (spGet C (fun _ b => .int b)) := by
  have sc := sc_Ratio_bottom
  refine F.ok sc (fun vs H Q E h => ?_) (fun cdv A outer s H vs Q E hr h => ?_)
  · obtain ⟨_, _, _, rfl, _⟩ := h; rfl
  obtain ⟨a, t, b, rfl, ⟨dx, ha1⟩, q⟩ := h
  refine ⟨_, (pss_one (ps_ret (pe_fld (pv 0) rfl))), ?_⟩
  exact ⟨_, rfl, a, C, dx, _, _, rfl, ha1, R.cl, R.nB, rf_bot, q _ (Ex.refl _)⟩

def sgI (t : Int) : Int := (if decide (t > 0) = true then 1 else 0) - (if decide (t < 0) = true then 1 else 0)
theorem sc_Ratio_sign : FnScope ["self"] ["self"] (defScope (sm 3)) := ⟨rfl, rfl, rfl, by decide +kernel, rfl, by decide +kernel, by decide +kernel⟩
theorem ok_sign (F : Fun K "sign" "Ratio.sign" (sm 3) f fd) (R : RCl K mg C) (T : Tx mg) : FnOk P w K mg base CX0 1 f fd ["self"] (spGet C fun t _ => .int (sgI t)) := by
  have sc := sc_Ratio_sign
  refine F.ok sc (fun vs H Q E h => ?_) (fun cdv A outer s H vs Q E hr h => ?_)
  · obtain ⟨_, _, _, rfl, _⟩ := h; rfl
  obtain ⟨a, t, b, rfl, ⟨dx, ha1⟩, q⟩ := h
  refine ⟨_, (pss_one (ps_ret (pe_op op_sub (pe_callTy call_int1 rfl T.b_int bt_int (pa_cons (pe_cmpR op_gt (pe_fld (pv 0) rfl) pe_int (nomark _)) pa_nil)) (pe_callTy call_int1 rfl T.b_int bt_int (pa_cons (pe_cmpR op_lt (pe_fld (pv 0) rfl) pe_int (nomark _)) pa_nil))))), ?_⟩
  refine ⟨_, rfl, a, C, dx, _, _, rfl, ha1, R.cl, R.nT, rf_top, _, _, rfl, rfl, .inr ⟨_, rfl, ?_⟩⟩
  refine ⟨_, rfl, a, C, dx, _, _, rfl, ha1, R.cl, R.nT, rf_top, _, _, rfl, rfl, .inr ⟨_, rfl, ?_⟩⟩
  exact ⟨_, _, rfl, rfl, q _ (Ex.refl _)⟩
end
end B71

namespace B71
open PySem PySem.Spec PyProof.Rows L2 Evl RZ SrtO

theorem ofS_app (a b : String) : Str.ofString (a ++ b) = Str.ofString a ++ Str.ofString b := by
  refine TL.ext_tl ?_
  rw [TL.tl_append, TL.tl_ofString, TL.tl_ofString, TL.tl_ofString, String.toList_append, List.map_append]
/-- a number's text -/
def tI (n : Int) : Str := Str.ofString (toString n)
theorem tI_len {n : Int} (h : n.natAbs < 10 ^ 60) : (tI n).length ≤ 61 := by
  unfold tI
  by_cases h0 : 0 ≤ n
  · have := toString_length_le h0 (k := 60) (by decide) (by omega)
    omega
  · rw [len_text_neg (by omega)]
    have := toString_length_le (v := 0 - n) (by omega) (k := 60) (by decide) (by omega)
    omega
theorem tI_neg {n : Int} (h : n < 0) : Str.ofString "-" ++ tI (0 - n) = tI n := by
  unfold tI
  rw [← ofS_app, ← toString_neg h]
def spDigits : Sp := fun vs H Q _ => ∃ n : Int, vs = [.int n] ∧ Bt 190 n ∧ RetV (.str (tI n)) H Q
def sS (t b : Int) : Str := if b = 1 then tI t else tI t ++ Str.ofString "/" ++ tI b
def sR (t b : Int) : Str := Str.ofString "Ratio(" ++ tI t ++ Str.ofString ", " ++ tI b ++ Str.ofString ")"
def spTxt (C : Addr) (g : Int → Int → Str) : Sp := fun vs H Q _ => ∃ (a : Addr) (t b : Int), vs = [.ref a] ∧ Rt C H a t b ∧ Bt 190 t ∧ Bt 190 b ∧ RetV (.str (g t b)) H Q
theorem bt190 {n : Int} (h : Bt 190 n) : n.natAbs < 10 ^ 60 := Nat.lt_of_lt_of_le h (by decide +kernel)
section
variable {P : Program} {w : World} {K : PySem.W.Frag} {mg : Str → Option Value} {base : Heap} {f C : Addr} {fd : FuncData}
theorem sc_digits_of : FnScope ["number", "left", "told", "part", "sign"] ["number"] (defScope (top 14)) := ⟨rfl, rfl, rfl, by decide +kernel, rfl, by decide +kernel, by decide +kernel⟩
theorem ok_digits_of (F : Fun K "digits_of" "digits_of" (top 14) f fd) (T : Tx mg) {tP : Tok} (mP : mg "PART" = some (.int (10 ^ 60) tP)) : FnOk P w K mg base CX0 1 f fd ["number"] spDigits := by
  have sc := sc_digits_of
  refine F.ok sc (fun vs H Q E h => ?_) (fun cdv A outer s H vs Q E hr h => ?_)
  · obtain ⟨_, rfl, _⟩ := h; rfl
  obtain ⟨n, rfl, bn, q⟩ := h
  have b60 := bt190 bn
  refine ⟨_, (pss_cons (ps_par (i := 1) (j := 2) rfl sc.nd rfl rfl (by decide) rfl rfl (pa_cons (pe_ifExp (pt_cmpR op_ge (pv 0) pe_int (nomark _)) (pv 0) (pe_op op_sub pe_int (pv 0))) (pa_cons pe_str pa_nil)) rfl) (pss_cons (ps_while PassesOwn.never (pt_cmpR op_ge (pv 1) (pe_glob (v := .int (10 ^ 60)) rfl mP ⟨_, rfl⟩) (nomark _)) pss_never) (pss_cons (ps_set (i := 4) sc.nd rfl (Or.inl rfl) (pe_ifExp (pt_cmpR op_lt (pv 0) pe_int (nomark _)) pe_str pe_str)) (pss_one (ps_ret (pe_joined (.cons (pe_fmt (pv 4)) (.cons (pe_fmt (pv 1)) (.cons (pe_fmt (pv 2)) .nil))))))))), ?_⟩
  have go : ∀ m : Int, 0 ≤ m → m.natAbs = n.natAbs → ∀ sg : Str, (if decide (n < 0) = true then Str.ofString "-" else Str.ofString "") = sg → sg ++ tI m = tI n := fun m h0 hm sg e => by
    subst e
    by_cases h : n < 0
    · rw [decide_eq_true h, if_pos rfl]
      have : m = 0 - n := by omega
      rw [this]
      exact tI_neg h
    · rw [decide_eq_false h, if_neg Bool.false_ne_true]
      have : m = n := by omega
      rw [this]
      exact Str.append_left_empty rfl
  have rest : ∀ m : Int, 0 ≤ m → m.natAbs = n.natAbs → (10 ^ 60 ≤ m) = False := fun m h0 hm => by
    refine eq_false fun z => ?_
    have : (10 : Int) ^ 60 = ((10 ^ 60 : Nat) : Int) := by decide +kernel
    omega
  have lens : ∀ m : Int, m.natAbs = n.natAbs → (tI m).length ≤ 61 := fun m hm => tI_len (by rw [hm]; exact b60)
  have logs : ∀ m : Int, m.natAbs = n.natAbs → m.natAbs.log2 < 1920 := fun m hm => by rw [hm]; exact Nat.lt_trans (bn.log (by decide)) (by decide)
  have sl : sizeLine = 16777216 := sizeLine_eq
  have fin : ∀ (sg : Str) (m : Int), sg.length ≤ 1 → 0 ≤ m → m.natAbs = n.natAbs → (if decide (n < 0) = true then Str.ofString "-" else Str.ofString "") = sg →
      sg.length ≤ sizeLine ∧ (Str.empty ++ sg).length ≤ sizeLine ∧ (Str.empty ++ sg ++ tI m).length ≤ sizeLine ∧ (Str.ofString "").length ≤ sizeLine ∧ (Str.empty ++ sg ++ tI m ++ Str.ofString "").length ≤ sizeLine ∧ Str.empty ++ sg ++ tI m ++ Str.ofString "" = tI n := fun sg m hl h0 hm e => by
    have l1 := lens m hm
    have e1 : Str.empty ++ sg = sg := Str.empty_append sg
    have e2 : sg ++ tI m ++ Str.ofString "" = sg ++ tI m := Str.append_right_empty rfl
    have e3 := go m h0 hm sg e
    rw [e1, e2, e3]
    have l2 := lens n rfl
    refine ⟨by omega, by omega, by omega, by rw [sl]; decide, by omega, rfl⟩
  refine ⟨_, rfl, _, _, rfl, rfl, _, rfl, ?_⟩
  refine ite2 (fun c => ?_) (fun c => ?_)
  · have c' : 0 ≤ n := of_decide_eq_true c
    refine ⟨_, rfl, _, _, rfl, ?_⟩
    refine ⟨fun _ σ' H' => σ' = [some (.int n), some (.int n), some (.str (Str.ofString "")), none, none] ∧ H' = H, ⟨0, rfl, rfl⟩, ?_⟩
    rintro m σ' H' ⟨rfl, rfl⟩
    refine ⟨_, rfl, _, _, rfl, rfl, _, rfl, ?_⟩
    have cf : decide ((10 : Int) ^ 60 ≤ n) = false := decide_eq_false (by rw [rest n c' rfl]; exact id)
    rw [cf]
    refine ⟨_, rfl, _, _, rfl, rfl, _, rfl, ?_⟩
    have nf : decide (n < 0) = false := decide_eq_false (by omega)
    rw [nf]
    obtain ⟨f1, f2, f3, f4, f5, f6⟩ := fin (Str.ofString "") n (by decide) c' rfl (by rw [nf]; rfl)
    refine ⟨_, rfl, .inl ⟨_, rfl, f1, _, rfl, f2, _, rfl, .inr ⟨n, rfl, logs n rfl, _, rfl, f3, _, rfl, .inl ⟨_, rfl, f4, _, rfl, f5, ?_⟩⟩⟩⟩
    have := q _ (Ex.refl _)
    rw [← f6] at this
    exact this
  · have c' : n < 0 := by
      have := of_decide_eq_false (Bool.eq_false_iff.mpr c)
      omega
    have hm : (0 - n).natAbs = n.natAbs := by omega
    have h0 : 0 ≤ 0 - n := by omega
    refine ⟨_, rfl, _, _, rfl, rfl, _, _, rfl, ?_⟩
    refine ⟨fun _ σ' H' => σ' = [some (.int n), some (.int (0 - n)), some (.str (Str.ofString "")), none, none] ∧ H' = H, ⟨0, rfl, rfl⟩, ?_⟩
    rintro m σ' H' ⟨rfl, rfl⟩
    refine ⟨_, rfl, _, _, rfl, rfl, _, rfl, ?_⟩
    have cf : decide ((10 : Int) ^ 60 ≤ 0 - n) = false := decide_eq_false (by rw [rest _ h0 hm]; exact id)
    rw [cf]
    refine ⟨_, rfl, _, _, rfl, rfl, _, rfl, ?_⟩
    have nf : decide (n < 0) = true := decide_eq_true c'
    rw [nf]
    obtain ⟨f1, f2, f3, f4, f5, f6⟩ := fin (Str.ofString "-") (0 - n) (by decide) h0 hm (by rw [nf]; rfl)
    refine ⟨_, rfl, .inl ⟨_, rfl, f1, _, rfl, f2, _, rfl, .inr ⟨_, rfl, logs _ hm, _, rfl, f3, _, rfl, .inl ⟨_, rfl, f4, _, rfl, f5, ?_⟩⟩⟩⟩
    have := q _ (Ex.refl _)
    rw [← f6] at this
    exact this
theorem sc_Ratio___str__ : FnScope ["self"] ["self"] (defScope (sm 18)) := ⟨rfl, rfl, rfl, by decide +kernel, rfl, by decide +kernel, by decide +kernel⟩
theorem ok_str (F : Fun K "__str__" "Ratio.__str__" (sm 18) f fd) (R : RCl K mg C) (T : Tx mg) (C_digits_of : ClO P w K mg base "digits_of" 1 ["number"] spDigits) : FnOk P w K mg base CX0 2 f fd ["self"] (spTxt C sS) := by
  have sc := sc_Ratio___str__
  refine F.ok sc (fun vs H Q E h => ?_) (fun cdv A outer s H vs Q E hr h => ?_)
  · obtain ⟨_, _, _, rfl, _⟩ := h; rfl
  obtain ⟨a, t, b, rfl, ⟨dx, ha⟩, bt, bb, q⟩ := h
  have sl : sizeLine = 16777216 := sizeLine_eq
  have l1 := tI_len (bt190 bt)
  have l2 := tI_len (bt190 bb)
  refine ⟨_, (pss_cons (ps_if (pt_cmpR op_eq (pe_fld (pv 0) rfl) pe_int (nomark _)) (pss_one (ps_ret (pe_joined1 (pe_fmt (pe_clo C_digits_of (hr.mono (by first | decide | omega)) (pa_cons (pe_fld (pv 0) rfl) pa_nil)))))) pss_nil) (pss_one (ps_ret (pe_joined (.cons (pe_fmt (pe_clo C_digits_of (hr.mono (by first | decide | omega)) (pa_cons (pe_fld (pv 0) rfl) pa_nil))) (.cons pe_str (.cons (pe_fmt (pe_clo C_digits_of (hr.mono (by first | decide | omega)) (pa_cons (pe_fld (pv 0) rfl) pa_nil))) .nil))))))), ?_⟩
  refine ⟨_, rfl, a, C, dx, _, _, rfl, ha, R.cl, R.nB, rf_bot, rfl, _, rfl, ?_⟩
  unfold sS at q
  by_cases c : b = 1
  · rw [if_pos c] at q
    rw [decide_eq_true (by rw [c])]
    refine ⟨_, rfl, a, C, dx, _, _, rfl, ha, R.cl, R.nT, rf_top, t, rfl, bt, fun H1 e1 => .inl ⟨_, rfl, by omega, q _ e1⟩⟩
  · rw [if_neg c] at q
    rw [decide_eq_false (fun z => c (by injection z))]
    refine ⟨_, rfl, a, C, dx, _, _, rfl, ha, R.cl, R.nT, rf_top, t, rfl, bt, fun H1 e1 => .inl ⟨_, rfl, by omega, _, rfl, ?_, _, rfl, ?_, _, rfl, a, C, dx, _, _, rfl, e1 _ _ ha, R.cl, R.nB, rf_bot, b, rfl, bb, fun H2 e2 => .inl ⟨_, rfl, by omega, _, rfl, ?_, ?_⟩⟩⟩
    · rw [Str.empty_append]; omega
    · rw [Str.empty_append, Str.length_append]
      have : (Str.ofString "/").length = 1 := rfl
      omega
    · rw [Str.empty_append, Str.length_append, Str.length_append]
      have : (Str.ofString "/").length = 1 := rfl
      omega
    · rw [Str.empty_append]
      exact q _ (e1.trans e2)
theorem sc_Ratio___repr__ : FnScope ["self"] ["self"] (defScope (sm 19)) := ⟨rfl, rfl, rfl, by decide +kernel, rfl, by decide +kernel, by decide +kernel⟩
theorem ok_repr (F : Fun K "__repr__" "Ratio.__repr__" (sm 19) f fd) (R : RCl K mg C) (T : Tx mg) (C_digits_of : ClO P w K mg base "digits_of" 1 ["number"] spDigits) : FnOk P w K mg base CX0 2 f fd ["self"] (spTxt C sR) := by
  have sc := sc_Ratio___repr__
  refine F.ok sc (fun vs H Q E h => ?_) (fun cdv A outer s H vs Q E hr h => ?_)
  · obtain ⟨_, _, _, rfl, _⟩ := h; rfl
  obtain ⟨a, t, b, rfl, ⟨dx, ha⟩, bt, bb, q⟩ := h
  have sl : sizeLine = 16777216 := sizeLine_eq
  have l1 := tI_len (bt190 bt)
  have l2 := tI_len (bt190 bb)
  have k1 : (Str.ofString "Ratio(").length = 6 := rfl
  have k2 : (Str.ofString ", ").length = 2 := rfl
  have k3 : (Str.ofString ")").length = 1 := rfl
  refine ⟨_, (pss_one (ps_ret (pe_joined (.cons pe_str (.cons (pe_fmt (pe_clo C_digits_of (hr.mono (by first | decide | omega)) (pa_cons (pe_fld (pv 0) rfl) pa_nil))) (.cons pe_str (.cons (pe_fmt (pe_clo C_digits_of (hr.mono (by first | decide | omega)) (pa_cons (pe_fld (pv 0) rfl) pa_nil))) (.cons pe_str .nil)))))))), ?_⟩
  refine ⟨_, rfl, ?_, _, rfl, a, C, dx, _, _, rfl, ha, R.cl, R.nT, rf_top, t, rfl, bt, fun H1 e1 => .inl ⟨_, rfl, by omega, _, rfl, ?_, _, rfl, ?_, _, rfl, a, C, dx, _, _, rfl, e1 _ _ ha, R.cl, R.nB, rf_bot, b, rfl, bb, fun H2 e2 => .inl ⟨_, rfl, by omega, _, rfl, ?_, _, rfl, ?_, ?_⟩⟩⟩
  · rw [Str.empty_append]; omega
  · rw [Str.empty_append, Str.length_append]; omega
  · rw [Str.empty_append, Str.length_append, Str.length_append]; omega
  · rw [Str.empty_append, Str.length_append, Str.length_append, Str.length_append]; omega
  · rw [Str.empty_append, Str.length_append, Str.length_append, Str.length_append, Str.length_append]; omega
  · rw [Str.empty_append]
    exact q _ (e1.trans e2)
end
end B71

namespace B71
open PySem PySem.Spec PyProof.Rows L2 Evl RZ SrtO

theorem low_one (t : Int) : low t 1 = (t, 1) := by
  have e : gI t 1 = 1 := by
    unfold gI
    rw [if_neg (by decide)]
    have : Nat.gcd t.natAbs (Int.natAbs 1) = 1 := Nat.gcd_one_right _
    rw [this]
    rfl
  unfold low
  rw [e, Int.fdiv_one, Int.fdiv_one]
theorem tyx_up {K : PySem.W.Frag} {H H' : Hp} {v : V} {t : Value} (e : Ex H H') (h : TyX K H v t) : TyX K H' v t := by
  cases h with
  | base b =>
    cases b with
    | non => exact .base .non
    | bl x => exact .base (.bl x)
    | int i => exact .base (.int i)
    | str x => exact .base (.str x)
    | flt x => exact .base (.flt x)
    | lst q => exact .base (.lst (e _ _ q))
    | frz q => exact .base (.frz (e _ _ q))
    | tup q => exact .base (.tup (e _ _ q))
    | dK q => exact .base (.dK (e _ _ q))
    | dT q => exact .base (.dT (e _ _ q))
    | ins q cl a b c d => exact .base (.ins (e _ _ q) cl a b c d)
  | byt b => exact .byt b
  | set q => exact .set (e _ _ q)
  | kList q c => exact .kList q c
  | kTuple q c => exact .kTuple q c
  | kDict q c => exact .kDict q c
  | fTuple q => exact .fTuple (e _ _ q)
  | fDict q => exact .fDict (e _ _ q)
theorem Kd.up {K : PySem.W.Frag} {C : Addr} {H H' : Hp} {v : V} {i b r : Bool} (k : Kd K C H v i b r) (e : Ex H H') : Kd K C H' v i b r := by
  obtain ⟨t, h, k⟩ := k
  exact ⟨t, tyx_up e h, k⟩
/-- an operator of the class -/
structure OpB (P : Program) (w : World) (K : PySem.W.Frag) (mg : Str → Option Value) (base : Heap) (C : Addr) (nm : String) (gL gR : Int → Int → Int → Int → Int × Int) : Prop where
  ex : ∃ (f g : Addr) (fd gd : FuncData), FnOk P w K mg base CX0 4 f fd ["self", "other"] (spBin C gL) ∧ Binds K fd ["self", "other"] [] ∧ FnOk P w K mg base CX0 4 g gd ["self", "other"] (spBin C gR) ∧ Binds K gd ["self", "other"] [] ∧ OpF K C f nm ∧ OpI K C g nm
  sub : PySem.W.subIn K (.ref C) (.type "int") = some false
section
variable {X : Cx} {C : Addr} {gL gR : Int → Int → Int → Int → Int × Int}
theorem opL_add (B : OpB X.prog X.w X.K X.mg X.base C "add" gL gR) (hr : Room 4 X.A) : OpR X (binaryOp .Add) (rOwn C (spBin C gL)) := by
  obtain ⟨f, g, fd, gd, F, b, G, c, o, oi⟩ := B.ex
  exact op_own (op := .Add) F o oi b hr
theorem opL_sub (B : OpB X.prog X.w X.K X.mg X.base C "sub" gL gR) (hr : Room 4 X.A) : OpR X (binaryOp .Sub) (rOwn C (spBin C gL)) := by
  obtain ⟨f, g, fd, gd, F, b, G, c, o, oi⟩ := B.ex
  exact op_own (op := .Sub) F o oi b hr
theorem opL_mul (B : OpB X.prog X.w X.K X.mg X.base C "mul" gL gR) (hr : Room 4 X.A) : OpR X (binaryOp .Mult) (rOwn C (spBin C gL)) := by
  obtain ⟨f, g, fd, gd, F, b, G, c, o, oi⟩ := B.ex
  exact op_own (op := .Mult) F o oi b hr
theorem opR_add (B : OpB X.prog X.w X.K X.mg X.base C "add" gL gR) (hr : Room 4 X.A) : OpR X (binaryOp .Add) (rOwnR C (spBin C gR)) := by
  obtain ⟨f, g, fd, gd, F, b, G, c, o, oi⟩ := B.ex
  exact op_ownR (op := .Add) G o oi B.sub PySem.F.slot_int_add PySem.F.fills_int_add no_add c hr
theorem opR_sub (B : OpB X.prog X.w X.K X.mg X.base C "sub" gL gR) (hr : Room 4 X.A) : OpR X (binaryOp .Sub) (rOwnR C (spBin C gR)) := by
  obtain ⟨f, g, fd, gd, F, b, G, c, o, oi⟩ := B.ex
  exact op_ownR (op := .Sub) G o oi B.sub PySem.F.slot_int_sub PySem.F.fills_int_sub no_sub c hr
theorem opR_mul (B : OpB X.prog X.w X.K X.mg X.base C "mul" gL gR) (hr : Room 4 X.A) : OpR X (binaryOp .Mult) (rOwnR C (spBin C gR)) := by
  obtain ⟨f, g, fd, gd, F, b, G, c, o, oi⟩ := B.ex
  exact op_ownR (op := .Mult) G o oi B.sub PySem.F.slot_int_mul PySem.F.fills_int_mul no_mul c hr
end
theorem made_z {C : Addr} {a b : Int} {H : Hp} {Z : VK} {x dx : Addr} (hx : H x = none) (hd : H dx = none) (ne : dx ≠ x) (hb : b ≠ 0) (ba : Bt 8000 a) (bb : Bt 8000 b) (q : ∀ H', Ex H H' → Rt C H' x (low a b).1 (low a b).2 → Z .non H') :
    spInit C [.ref x, .int a, .int b] (upd (upd H dx (.own x)) x (.ins C dx [])) Z E0 := by
  refine ⟨x, dx, a, b, rfl, upd_same, hb, ba, bb, fun H' k r => q H' (fun y o h => k y o (ne_of_none h hx) ?_) r⟩
  rw [upd_ne (ne_of_none h hx), upd_ne (ne_of_none h hd)]
  exact h
theorem bt0 : Bt 8000 0 := Bt.mono (n := 1) (show (0 : Int).natAbs < 2 ^ 1 by decide) (by decide)
/-- the sum of pairs, one by one -/
def sumP (f p : Int × Int) : Int × Int := low (f.1 * p.2 + p.1 * f.2) (f.2 * p.2)
def totalM (ps : List (Int × Int)) : Int × Int := ps.foldl sumP (0, 1)
structure Sm (ps : List (Int × Int)) : Prop where
  len : ps.length ≤ 10
  bt : ∀ p ∈ ps, Bt 140 p.1 ∧ Bt 140 p.2 ∧ 0 < p.2
theorem Sm.take {ps : List (Int × Int)} (h : Sm ps) : ∀ i, i ≤ ps.length → Bt (2 + 150 * i) (totalM (ps.take i)).1 ∧ Bt (2 + 150 * i) (totalM (ps.take i)).2 ∧ 0 < (totalM (ps.take i)).2
  | 0, _ => by
    rw [List.take_zero]
    exact ⟨show (0 : Int).natAbs < 2 ^ 2 by decide, show (1 : Int).natAbs < 2 ^ 2 by decide, by decide⟩
  | i + 1, hi => by
    obtain ⟨h1, h2, h3⟩ := h.take i (by omega)
    have hlt : i < ps.length := by omega
    obtain ⟨b1, b2, b3⟩ := h.bt ps[i] (List.getElem_mem hlt)
    have e : totalM (ps.take (i + 1)) = sumP (totalM (ps.take i)) ps[i] := by
      unfold totalM
      rw [List.take_add_one, List.getElem?_eq_getElem hlt, List.foldl_append]
      rfl
    rw [e]
    have pos : 0 < (totalM (ps.take i)).2 * ps[i].2 := Int.mul_pos h3 b3
    have k := low_bt (Bt.add (Bt.mul h1 b2) (Bt.mono (Bt.mul b1 h2) (show 140 + (2 + 150 * i) ≤ 2 + 150 * i + 140 by omega))) (Bt.mul h2 b2) (show (totalM (ps.take i)).2 * ps[i].2 ≠ 0 by omega)
    exact ⟨k.1.mono (by omega), k.2.mono (by omega), low_pos (by omega)⟩
/-- references to Ratios -/
def RtV (C : Addr) (p : Int × Int) (v : V) (H : Hp) : Prop := ∃ r, v = .ref r ∧ Rt C H r p.1 p.2
theorem Stab.rt {C : Addr} : Stab (RtV C) := ⟨fun _ _ _ _ e ⟨r, h1, h2⟩ => ⟨r, h1, h2.up e⟩, fun _ _ _ D _ _ hD ⟨r, h1, dx, h2⟩ => ⟨r, h1, dx, by
  have : r ≠ D := fun z => by rw [z, hD] at h2; cases h2
  rw [upd_ne this]; exact h2⟩⟩
theorem paired_at {α : Type} {F : α → V → Prop} : ∀ {ys : List α} {xs : List V}, Paired F ys xs → ∀ {i : Nat} {x : V}, xs[i]? = some x → ∃ y, ys[i]? = some y ∧ F y x
  | _, _, .nil, i, x, h => by simp at h
  | _, _, .cons (a := y) q t, 0, x, h => ⟨y, rfl, by simp at h; exact h ▸ q⟩
  | _, _, .cons q t, i + 1, x, h => by
    obtain ⟨y, h1, h2⟩ := paired_at t (i := i) (x := x) (by simpa using h)
    exact ⟨y, by simpa using h1, h2⟩
def RetO (C : Addr) (t b : Int) (H : Hp) (Q : VK) : Prop := ∀ x H', Ex H H' → Rt C H' x t b → Q (.ref x) H'
def spRatioOf (C : Addr) : Sp := fun vs H Q _ => ∃ (v : V) (t b : Int), vs = [v] ∧ Num C H v t b ∧ Bt 3000 t ∧ RetO C t b H Q
def spTotalOf (C : Addr) : Sp := fun vs H Q _ => ∃ (a : Addr) (xs : List V) (ps : List (Int × Int)), vs = [.ref a] ∧ H a = some (.lst xs) ∧ Paired (fun p v => RtV C p v H) ps xs ∧ Sm ps ∧ RetO C (totalM ps).1 (totalM ps).2 H Q
def spTotal (C : Addr) : Sp := fun vs H Q _ => ∃ (a : Addr) (xs : List V) (ps : List (Int × Int)), vs = [.ref C, .ref a] ∧ SqH H a xs ∧ Paired (fun (p : Int × Int) v => Num C H v p.1 p.2) ps xs ∧ Sm ps ∧ RetO C (totalM ps).1 (totalM ps).2 H Q
section
variable {P : Program} {w : World} {K : PySem.W.Frag} {mg : Str → Option Value} {base : Heap} {f C : Addr} {fd : FuncData}
theorem sc_is_number : FnScope ["value"] ["value"] (defScope (top 18)) := ⟨rfl, rfl, rfl, by decide +kernel, rfl, by decide +kernel, by decide +kernel⟩
theorem ok_is_number (F : Fun K "is_number" "is_number" (top 18) f fd) (R : RCl K mg C) (T : Tx mg) (C_is_integer : ClO P w K mg base "is_integer" 1 ["value"] (spIsI K C)) : FnOk P w K mg base CX0 2 f fd ["value"] (spIsN K C) := by
  have sc := sc_is_number
  refine F.ok sc (fun vs H Q E h => ?_) (fun cdv A outer s H vs Q E hr h => ?_)
  · obtain ⟨_, _, _, _, rfl, _⟩ := h; rfl
  obtain ⟨v, i, b, r, rfl, kd, q⟩ := h
  refine ⟨_, (pss_one (ps_ret (pe_or (pe_clo C_is_integer (hr.mono (by first | decide | omega)) (pa_cons (pv 0) pa_nil)) (pe_one (pe_callB call_isi rfl T.b_isinstance bt_isinstance (pa_cons (pv 0) (pa_cons (pe_glob (v := .ref C) rfl R.mgC rfl) pa_nil))))))), ?_⟩
  refine ⟨_, rfl, v, i, b, r, rfl, kd, fun H1 e1 => ⟨_, rfl, ?_⟩⟩
  obtain ⟨t, ty, k1, k2, k3⟩ := kd.up e1
  cases hk : (i && !b) with
  | true =>
    rw [hk] at q
    exact q _ e1
  | false =>
    rw [hk] at q
    refine ⟨_, rfl, _, _, _, _, _, rfl, .own C, ty, k3, ?_⟩
    exact q _ e1
theorem sc_ratio_of : FnScope ["number"] ["number"] (defScope (top 19)) := ⟨rfl, rfl, rfl, by decide +kernel, rfl, by decide +kernel, by decide +kernel⟩
theorem ok_ratio_of (F : Fun K "ratio_of" "ratio_of" (top 19) f fd) (R : RCl K mg C) (T : Tx mg) (MR : MkR P w K mg base C) : FnOk P w K mg base CX0 4 f fd ["number"] (spRatioOf C) := by
  have sc := sc_ratio_of
  refine F.ok sc (fun vs H Q E h => ?_) (fun cdv A outer s H vs Q E hr h => ?_)
  · obtain ⟨_, _, _, rfl, _⟩ := h; rfl
  obtain ⟨v, t, b, rfl, hv, bt, q⟩ := h
  refine ⟨_, (pss_one (ps_ret (pe_ifExp (pt_val (pe_callB call_isi rfl T.b_isinstance bt_isinstance (pa_cons (pv 0) (pa_cons (pe_glob (v := .ref C) rfl R.mgC rfl) pa_nil)))) (pv 0) (pe_rat1 MR (hr.mono (by first | decide | omega)) (pa_cons (pv 0) pa_nil))))), ?_⟩
  rcases hv with ⟨rfl, rfl⟩ | ⟨a, rfl, dx, ha⟩
  · refine ⟨_, rfl, _, _, _, _, _, rfl, .own C, .base (.int t), R.kI, _, rfl, ?_⟩
    refine ⟨_, rfl, fun x dx hx hd ne => ?_⟩
    refine made_fits hx hd ne (by decide) (bt.mono (by decide)) bt1 fun y H' h0 e r => q y H' e ?_
    rw [low_one] at r
    exact r
  · refine ⟨_, rfl, _, _, _, _, _, rfl, .own C, R.ty ha, kt_own, _, rfl, ?_⟩
    exact ⟨_, rfl, q a H (Ex.refl _) ⟨dx, ha⟩⟩
end
end B71

namespace B71
open PySem PySem.Spec PyProof.Rows L2 Evl RZ SrtO
/-! ### data: pairs of ints, truth values -/
def pI (p : Int × Int) : PyData := .tuple [.int p.1, .int p.2]
theorem pI_lay (p : Int × Int) : (pI p).canLay0 = true := by simp [pI, PyData.canLay0, PyData.canLayAll0]
theorem pI_depth (p : Int × Int) : (pI p).depth ≤ 1 := by simp [pI, PyData.depth, PyData.depthAll]
theorem pI_sh (p : Int × Int) : SeqAt.shaped (pI p) = true := sh_of (pI_lay p) (by have := pI_depth p; omega)
theorem pI_eqv (p q : Int × Int) : PyData.eqv (pI p) (pI q) = decide (p = q) := by
  obtain ⟨a, b⟩ := p
  obtain ⟨c, d⟩ := q
  have e : PyData.eqv (pI (a, b)) (pI (c, d)) = ((a == c) && ((b == d) && true)) := by simp only [pI, PyData.eqv, PyData.eqvAll]
  rw [e]
  by_cases h1 : a = c
  · by_cases h2 : b = d
    · simp [h1, h2]
    · simp [h2]
  · simp [h1]
theorem psI_sh (l : List (Int × Int)) : SeqAt.shaped (.list (l.map pI)) = true := list_sh pI_lay pI_depth l
theorem psI_eqv (l m : List (Int × Int)) : PyData.eqv (.list (l.map pI)) (.list (m.map pI)) = decide (l = m) := by
  show PyData.eqvAll _ _ = _
  exact all_eqv pI_eqv l m
theorem bD_lay (b : Bool) : (PyData.bool b).canLay0 = true := by simp [PyData.canLay0]
theorem bD_depth (b : Bool) : (PyData.bool b).depth ≤ 1 := by simp [PyData.depth]
theorem bD_eqv (a b : Bool) : PyData.eqv (.bool a) (.bool b) = decide (a = b) := by
  show (a == b) = _
  cases a <;> cases b <;> rfl
theorem bs_sh (l : List Bool) : SeqAt.shaped (.list (l.map .bool)) = true := list_sh bD_lay bD_depth l
theorem bs_eqv (l m : List Bool) : PyData.eqv (.list (l.map .bool)) (.list (m.map .bool)) = decide (l = m) := by
  show PyData.eqvAll _ _ = _
  exact all_eqv bD_eqv l m
section
variable {K : PySem.W.Frag} {H : Hp}
theorem dp_b : ∀ l : List Bool, DpAll K H (l.map V.bl) (l.map .bool)
  | [] => .nil
  | b :: l => .cons (.bl b) (dp_b l)
theorem dp_bl {a : Addr} {l : List Bool} (h : H a = some (.lst (l.map V.bl))) : Dp K H (.ref a) (.list (l.map .bool)) := .lst (.inl (.inl h)) (dp_b l)
end
/-! ### lowest terms are lowest -/
theorem low_gcd {a b : Int} (h : b ≠ 0) : Nat.gcd (low a b).1.natAbs (low a b).2.natAbs = 1 := by
  obtain ⟨c, hc⟩ := gI_dvd_l a b
  obtain ⟨d, hd⟩ := gI_dvd_r a b
  have g0 := gI_ne (a := a) h
  have e1 : (low a b).1 = c := by
    have key : ∀ g : Int, g ≠ 0 → a = g * c → a.fdiv g = c := fun g h0 hb => by rw [hb, Int.mul_fdiv_cancel_left _ h0]
    exact key _ g0 hc
  have e2 : (low a b).2 = d := by
    have key : ∀ g : Int, g ≠ 0 → b = g * d → b.fdiv g = d := fun g h0 hb => by rw [hb, Int.mul_fdiv_cancel_left _ h0]
    exact key _ g0 hd
  rw [e1, e2]
  have hg := gI_abs a b
  have ha : a.natAbs = (gI a b).natAbs * c.natAbs := by
    have := congrArg Int.natAbs hc
    rwa [Int.natAbs_mul] at this
  have hb : b.natAbs = (gI a b).natAbs * d.natAbs := by
    have := congrArg Int.natAbs hd
    rwa [Int.natAbs_mul] at this
  rw [ha, hb, Nat.gcd_mul_left] at hg
  have gp : 0 < (gI a b).natAbs := Int.natAbs_pos.mpr g0
  exact Nat.eq_of_mul_eq_mul_left gp (by omega)
theorem low_same {t b : Int} (g : Nat.gcd t.natAbs b.natAbs = 1) (pb : 0 < b) : low t b = (t, b) := by
  have e : gI t b = 1 := by
    unfold gI
    rw [if_neg (by omega), g]
    rfl
  unfold low
  rw [e, Int.fdiv_one, Int.fdiv_one]
theorem low_like {t t' b : Int} (g : Nat.gcd t.natAbs b.natAbs = 1) (pb : 0 < b) (h : t'.natAbs = t.natAbs) : low t' b = (t', b) := low_same (by rw [h]; exact g) pb
/-! ### bundles -/
theorem rf_no {t b : Int} {m : Str} (h1 : (m == "own_top") = false) (h2 : (m == "own_bottom") = false) : (rf t b).lookup m = none := by
  unfold rf
  rw [List.lookup_cons, h1]
  show List.lookup m [(("own_bottom" : Str), V.int b)] = none
  rw [List.lookup_cons, h2]
  rfl
structure MeB (P : Program) (w : World) (K : PySem.W.Frag) (mg : Str → Option Value) (base : Heap) (C : Addr) (m : Str) (k : Nat) (ps : List Str) (sp : Sp) : Prop where
  ex : ∃ (f : Addr) (fd : FuncData), Meth K C m f ∧ FnOk P w K mg base CX0 k f fd ps sp ∧ Binds K fd ps []
structure TxB (P : Program) (w : World) (K : PySem.W.Frag) (mg : Str → Option Value) (base : Heap) (C : Addr) (m : Str) (g : Int → Int → Str) : Prop where
  ex : ∃ (f : Addr) (fd : FuncData), FnOk P w K mg base CX0 2 f fd ["self"] (spTxt C g) ∧ Binds K fd ["self"] [] ∧ PySem.W.findIn K (.ref C) m = some (some (.ref f)) ∧ PySem.W.isFn K (.ref f) = true
structure NeB (P : Program) (w : World) (K : PySem.W.Frag) (mg : Str → Option Value) (base : Heap) (C : Addr) : Prop where
  ex : ∃ (f : Addr) (fd : FuncData), FnOk P w K mg base CX0 4 f fd ["self"] (spUn C fun t => 0 - t) ∧ Binds K fd ["self"] [] ∧ PySem.W.findIn K (.ref C) "__neg__" = some (some (.ref f)) ∧ PySem.W.isFn K (.ref f) = true
structure EqB (P : Program) (w : World) (K : PySem.W.Frag) (mg : Str → Option Value) (base : Heap) (C : Addr) : Prop where
  ex : ∃ (f : Addr) (fd : FuncData), FnOk P w K mg base CX0 1 f fd ["self", "other"] (spEqR C) ∧ Binds K fd ["self", "other"] [] ∧ PySem.W.findIn K (.ref C) "__eq__" = some (some (.ref f)) ∧ PySem.W.isFn K (.ref f) = true
  nf : PySem.W.notFirst K C (.type "int") = true
  sub : PySem.W.subIn K (.ref C) (.type "int") = some false
  fne : PySem.W.findIn K (.ref C) "__ne__" = some (some (.builtin "object.__ne__"))
  obj : PySem.W.mroIn K C (.type "object") = some true
section
variable {X : Cx} {C : Addr} {g : Int → Int → Str}
theorem strO (B : TxB X.prog X.w X.K X.mg X.base C "__str__" g) (hr : Room 4 X.A) : CallR X (.type "str") (fun xs H Q => ∃ a dx fs, xs = [.ref a] ∧ H a = some (.ins C dx fs) ∧ spTxt C g [.ref a] H (StrP Q) E0) := by
  obtain ⟨f, fd, F, b, fe, fn⟩ := B.ex
  exact call_strOwn F fe fn b hr
theorem reprO (B : TxB X.prog X.w X.K X.mg X.base C "__repr__" g) (hr : Room 3 X.A) : CallR X (.builtin "repr") (fun xs H Q => ∃ a dx fs, xs = [.ref a] ∧ H a = some (.ins C dx fs) ∧ spTxt C g [.ref a] H (StrP Q) E0) := by
  obtain ⟨f, fd, F, b, fe, fn⟩ := B.ex
  exact call_reprOwn F fe fn b hr
theorem negO (B : NeB X.prog X.w X.K X.mg X.base C) (hr : Room 4 X.A) : UnR X (unaryOp .USub) (fun x H Q => IsOwn C H x ∧ spUn C (fun t => 0 - t) [x] H Q E0) := by
  obtain ⟨f, fd, F, b, fe, fn⟩ := B.ex
  exact op_ownNeg F fe fn b hr
theorem eqO (B : EqB X.prog X.w X.K X.mg X.base C) (hr : Room 1 X.A) : OpR X (compareOp .Eq) (rOwn C (spEqR C)) := by
  obtain ⟨f, fd, F, b, fe, fn⟩ := B.ex
  exact op_eqOwn F fe fn B.nf b hr
theorem eqRO (B : EqB X.prog X.w X.K X.mg X.base C) (hr : Room 1 X.A) : OpR X (compareOp .Eq) (rOwnR C (spEqR C)) := by
  obtain ⟨f, fd, F, b, fe, fn⟩ := B.ex
  exact op_eqRev F fe fn B.sub b hr
theorem neO (B : EqB X.prog X.w X.K X.mg X.base C) (hr : Room 2 X.A) : OpR X (compareOp .NotEq) (fun x y H Q => IsOwn C H x ∧ IsOwn C H y ∧ spEqR C [x, y] H (fun v H' => ∃ k, v = .bl k ∧ Q (.bl (!k)) H') E0) := by
  obtain ⟨f, fd, F, b, fe, fn⟩ := B.ex
  exact op_neOwn F fe fn B.fne B.obj b hr
end
/-- a property of the class -/
structure PrB (P : Program) (w : World) (K : PySem.W.Frag) (mg : Str → Option Value) (base : Heap) (C : Addr) (nm : Str) (g : Int → Int → V) : Prop where
  ex : ∃ (p fa : Addr) (fd : FuncData), PropOf K C nm p fa ∧ FnOk P w K mg base CX0 1 fa fd ["self"] (spGet C g) ∧ Binds K fd ["self"] []
theorem pe_prB {X : Cx} {C : Addr} {nm : Str} {g : Int → Int → V} {e : Expr} {te : TE} {pos : Pos} (B : PrB X.prog X.w X.K X.mg X.base C nm g) (cl : Cls X.K C) (hr : Room 2 X.A) (he : PE X e te) (hab : attributeBase e nm X.env (eval e X.env) = eval e X.env := by rfl) :
    PE X (.Attribute e nm pos) (tProp C (spGet C g) [] E0 te) := by
  obtain ⟨p, fa, fd, hp, F, b⟩ := B.ex
  exact pe_prop he cl hp F hr b .nil pass0 hab
/-! ### methods by position and by name -/
structure MeK (P : Program) (w : World) (K : PySem.W.Frag) (mg : Str → Option Value) (base : Heap) (C : Addr) (m kn : Str) (k : Nat) (ps : List Str) (sp : Sp) : Prop where
  ex : ∃ (f : Addr) (fd : FuncData), Meth K C m f ∧ FnOk P w K mg base CX0 k f fd ps sp ∧ ∀ s u v, BindsTo s fd ⟨[u], [(kn, v)]⟩ (ps.zip [u, v])
structure CmB (P : Program) (w : World) (K : PySem.W.Frag) (mg : Str → Option Value) (base : Heap) (C : Addr) (m : Str) (k : Nat) (ps : List Str) (sp : Sp) : Prop where
  ex : ∃ (mc : Value) (p g : Addr) (fd : FuncData), ClX.CRead K C mc ∧ ClX.CMet K C mc m p g ∧ FnOk P w K mg base CX0 k g fd ps sp ∧ Binds K fd ps []
structure CmK (P : Program) (w : World) (K : PySem.W.Frag) (mg : Str → Option Value) (base : Heap) (C : Addr) (m kn : Str) (k : Nat) (ps : List Str) (sp : Sp) : Prop where
  ex : ∃ (mc : Value) (p g : Addr) (fd : FuncData), ClX.CRead K C mc ∧ ClX.CMet K C mc m p g ∧ FnOk P w K mg base CX0 k g fd ps sp ∧ ∀ s u v, BindsTo s fd ⟨[u], [(kn, v)]⟩ (ps.zip [u, v])
structure MkK (P : Program) (w : World) (K : PySem.W.Frag) (mg : Str → Option Value) (base : Heap) (C : Addr) : Prop where
  ex : ∃ (f : Addr) (fd : FuncData) (g : List Value → List Value → List Value), Mk K C f ∧ FnOk P w K mg base CX0 2 f fd ["self", "top", "bottom"] (spInit C) ∧ KBn K fd ["self", "top", "bottom"] 1 ["top", "bottom"] g (fun vs zs => vs ++ zs)
  mgC : mg "Ratio" = some (.ref C)
section
variable {X : Cx} {C : Addr} {m kn : Str} {k : Nat} {ps : List Str} {sp : Sp} {o e : Expr} {es : List Expr} {kws : List Keyword} {ta : TE} {t tk : TA} {p apos pos : Pos} {pl : Sem Bool}
theorem pe_me (B : MeB X.prog X.w X.K X.mg X.base C m k ps sp) (cl : Cls X.K C) (hr : Room k X.A) (he : PE X o ta) (ha : PA X (e :: es) t)
    (hst : starEach (e :: es) X.env = (false, eval e X.env) :: starEach es X.env := by rfl) (hpl : (backTo pos (starEach es X.env)).any (·.1) = false := by rfl)
    (ht : eval (.Call (.Attribute o m apos) (e :: es) [] pos) X.env = (do
      let ov ← eval o X.env
      standAt apos.atName
      let (f, first) ← holding [ov] (getMethod ov m pl)
      callWith pos f first (backTo pos (starEach (e :: es) X.env)) (backToKw pos (keywordEach [] X.env))) := by rfl) :
    PE X (.Call (.Attribute o m apos) (e :: es) [] pos) (tMeth C m sp [] E0 ta t) := by
  obtain ⟨f, fd, mm, F, b⟩ := B.ex
  exact pe_meth he cl mm F hr b .nil pass0 ha hst hpl ht
theorem pe_me0 (B : MeB X.prog X.w X.K X.mg X.base C m k ps sp) (cl : Cls X.K C) (hr : Room k X.A) (he : PE X o ta)
    (ht : eval (.Call (.Attribute o m apos) [] [] pos) X.env = (do
      let ov ← eval o X.env
      standAt apos.atName
      let (f, first) ← holding [ov] (getMethod ov m pl)
      callWith pos f first (backTo pos (starEach [] X.env)) (backToKw pos (keywordEach [] X.env))) := by rfl) :
    PE X (.Call (.Attribute o m apos) [] [] pos) (tMeth C m sp [] E0 ta tNil) := by
  obtain ⟨f, fd, mm, F, b⟩ := B.ex
  exact pe_meth0 he cl mm F hr b .nil pass0 ht
def tMeK (C : Addr) (m : Str) (sp : Sp) (ta : TE) (tk : TA) : TE := fun σ H Q => ta σ H fun x H1 => ∃ a dx fs, x = .ref a ∧ H1 a = some (.ins C dx fs) ∧ fs.lookup m = none ∧ tk σ H1 fun zs H2 => ∃ z, zs = [z] ∧ sp [x, z] H2 Q E0
theorem pe_meK (B : MeK X.prog X.w X.K X.mg X.base C m kn k ps sp) (cl : Cls X.K C) (hr : Room k X.A) (he : PE X o ta) (hkw : PK X kws tk)
    (hall : (backToKw pos (keywordEach kws X.env)).all (·.1.isSome) = true := by rfl) (hks : (backToKw pos (keywordEach kws X.env)).filterMap (·.1) = [kn] := by rfl)
    (hpl : ((backTo pos (starEach [] X.env)).any (·.1) || (backToKw pos (keywordEach kws X.env)).any (·.1.isNone)) = false := by rfl)
    (ht : eval (.Call (.Attribute o m apos) [] kws pos) X.env = (do
      let ov ← eval o X.env
      standAt apos.atName
      let (f, first) ← holding [ov] (getMethod ov m pl)
      callWith pos f first (backTo pos (starEach [] X.env)) (backToKw pos (keywordEach kws X.env))) := by rfl) :
    PE X (.Call (.Attribute o m apos) [] kws pos) (tMeK C m sp ta tk) := by
  obtain ⟨f, fd, mm, F, b⟩ := B.ex
  refine ⟨fun pins s σ H Q I h => ?_⟩
  refine PySem.W.methodCall_KW (pl := pl) (thn (he.run pins s σ H _ I h) fun u s1 ⟨x, H1, I1, rx, a, dx, fs, ex, ea, l, q⟩ => ?_) ht
  subst ex
  obtain rfl : u = Value.ref a := rx
  refine getmeth_ok I1 ea cl mm l ?_
  refine PySem.W.callWith_KW0 (first := [.ref a]) (h₀ := X.base) I.ok.mod.kin mm.kp hall ?_ hpl
  refine thn (hkw.run pos pins s1 σ H1 _ I1 q) fun ws s2 ⟨zs, H2, I2, rz, z, e, q2⟩ => ⟨I2.kIn, ?_⟩
  rw [hks]
  subst e
  obtain ⟨u, rfl, ru⟩ := rz.one
  refine wpAny_call (codeAny_mono (F.run X.A X.stack s2 H2 ⟨[.ref a], [(kn, u)]⟩ [.ref a, u] [.ref a, z] Q E0 hr I2.env0 (b s2 (.ref a) u) (.cons rfl (.cons ru .nil)) q2) fun r s' hq => ?_)
  cases r with
  | error e => exact pass0 pins σ H2 s2 e s' I2 hq
  | ok fl =>
    cases fl with
    | ret u => exact I2.after hq
    | next => exact False.elim hq
    | brk => exact False.elim hq
    | cont => exact False.elim hq
theorem pe_cmB (B : CmB X.prog X.w X.K X.mg X.base C m k ps sp) (hr : Room k X.A) (he : PE X o ta) (ha : PA X (e :: es) t)
    (hst : starEach (e :: es) X.env = (false, eval e X.env) :: starEach es X.env := by rfl) (hpl : (backTo pos (starEach es X.env)).any (·.1) = false := by rfl)
    (ht : eval (.Call (.Attribute o m apos) (e :: es) [] pos) X.env = (do
      let ov ← eval o X.env
      standAt apos.atName
      let (f, first) ← holding [ov] (getMethod ov m pl)
      callWith pos f first (backTo pos (starEach (e :: es) X.env)) (backToKw pos (keywordEach [] X.env))) := by rfl) :
    PE X (.Call (.Attribute o m apos) (e :: es) [] pos) (fun σ H Q => ta σ H fun x H1 => x = .ref C ∧ t σ H1 fun vs H2 => sp (.ref C :: vs) H2 Q E0) := by
  obtain ⟨mc, p, g, fd, r, c, F, b⟩ := B.ex
  have F' : FnR X.prog X.w X.K X.mg X.base CX0 k g sp := FnR.imp (F.raw b .nil) fun vs H Q E h => by rw [List.append_nil]; exact h
  exact ClX.pe_cmeth he r c F' hr pass0 ha hst hpl ht
theorem pe_cmK (B : CmK X.prog X.w X.K X.mg X.base C m kn k ps sp) (hr : Room k X.A) (he : PE X o ta) (hkw : PK X kws tk)
    (hall : (backToKw pos (keywordEach kws X.env)).all (·.1.isSome) = true := by rfl) (hks : (backToKw pos (keywordEach kws X.env)).filterMap (·.1) = [kn] := by rfl)
    (hpl : ((backTo pos (starEach [] X.env)).any (·.1) || (backToKw pos (keywordEach kws X.env)).any (·.1.isNone)) = false := by rfl)
    (ht : eval (.Call (.Attribute o m apos) [] kws pos) X.env = (do
      let ov ← eval o X.env
      standAt apos.atName
      let (f, first) ← holding [ov] (getMethod ov m pl)
      callWith pos f first (backTo pos (starEach [] X.env)) (backToKw pos (keywordEach kws X.env))) := by rfl) :
    PE X (.Call (.Attribute o m apos) [] kws pos) (fun σ H Q => ta σ H fun x H1 => x = .ref C ∧ tk σ H1 fun zs H2 => ∃ z, zs = [z] ∧ sp [.ref C, z] H2 Q E0) := by
  obtain ⟨mc, p, g, fd, r, c, F, b⟩ := B.ex
  refine ⟨fun pins s σ H Q I h => ?_⟩
  refine PySem.W.methodCall_KW (pl := pl) (thn (he.run pins s σ H _ I h) fun u s1 ⟨x, H1, I1, rx, ex, q⟩ => ?_) ht
  subst ex
  obtain rfl : u = Value.ref C := rx
  refine ClX.getmethcm_ok I1 r c fun s2 I2 => ?_
  refine PySem.W.callWith_of (P := PySem.W.MethP X.K s1.heap.objs.size g (.ref C)) hpl (PySem.W.keeps_M c.fi) (evalArgs_kw2_nil hall (thn (hkw.run pos _ s2 σ H1 _ I2 q) fun ws s3 ⟨zs, H2, I3, rz, z, e, q2⟩ => ⟨⟨ClX.pin_at I3, I3.kIn⟩, ?_⟩))
  rw [hks]
  subst e
  obtain ⟨u, rfl, ru⟩ := rz.one
  have zz : wpAny (model X.prog X.w) X.A (call (.ref s1.heap.objs.size) [] [(kn, u)]) (EP X ((s1.heap.objs.size, PySem.W.methodObj (.ref g) (.ref C)) :: pins) σ Q) X.xe s3 := by
    refine wpAny_call (PySem.W.method_call (ClX.pin_at I3) (codeAny_mono (F.run X.A X.stack s3 H2 ⟨[.ref C], [(kn, u)]⟩ [.ref C, u] [.ref C, z] Q E0 hr I3.env0 (b s3 (.ref C) u) (.cons rfl (.cons ru .nil)) q2) fun r s' hq => ?_))
    cases r with
    | error e => exact pass0 _ σ H2 s3 e s' I3 hq
    | ok fl =>
      cases fl with
      | ret u => exact I3.after hq
      | next => exact False.elim hq
      | brk => exact False.elim hq
      | cont => exact False.elim hq
  exact thn zz fun _ _ y => ClX.unpinE y
theorem pe_ratK (M : MkK X.prog X.w X.K X.mg X.base C) (hr : Room 3 X.A) (hkw : PK X kws tk) (hg : Gl X "Ratio" := by rfl)
    (hall : (backToKw pos (keywordEach kws X.env)).all (·.1.isSome) = true := by rfl) (hks : (backToKw pos (keywordEach kws X.env)).filterMap (·.1) = (["top", "bottom"] : List Str) := by rfl)
    (hpl : ((backTo pos (starEach [] X.env)).any (·.1) || (backToKw pos (keywordEach kws X.env)).any (·.1.isNone)) = false := by rfl) :
    PE X (.Call (.Name "Ratio" p) [] kws pos) (tMakeK C 0 2 (spInit C) (fun vs zs => vs ++ zs) E0 tNil tk) := by
  obtain ⟨f, fd, g, m, F, b⟩ := M.ex
  exact pe_makeK0 (E := E0) m F hr hg M.mgC b pass0 hkw hall hks (by decide) hpl
end
end B71

namespace B71
open PySem PySem.Spec PyProof.Rows L2 Evl RZ SrtO
/-! ### nested values with Ratios at their leaves -/
inductive Tr where
  | non
  | bl (b : Bool)
  | int (i : Int)
  | str (x : Str)
  | rat (t b : Int)
  | lst (l : List Tr)
  | tup (l : List Tr)
  | emp
mutual
inductive TrV (C : Addr) (H : Hp) : V → Tr → Prop
  | non : TrV C H .non .non
  | bl (b : Bool) : TrV C H (.bl b) (.bl b)
  | int (i : Int) : TrV C H (.int i) (.int i)
  | str (x : Str) : TrV C H (.str x) (.str x)
  | rat {a : Addr} {t b : Int} : Rt C H a t b → TrV C H (.ref a) (.rat t b)
  | lst {a : Addr} {xs : List V} {l : List Tr} : H a = some (.lst xs) → TrVs C H xs l → TrV C H (.ref a) (.lst l)
  | tup {a : Addr} {xs : List V} {l : List Tr} : H a = some (.tup xs) → TrVs C H xs l → TrV C H (.ref a) (.tup l)
  | emp {a : Addr} : H a = some (.dK []) → TrV C H (.ref a) .emp
inductive TrVs (C : Addr) (H : Hp) : List V → List Tr → Prop
  | nil : TrVs C H [] []
  | cons {v : V} {vs : List V} {t : Tr} {l : List Tr} : TrV C H v t → TrVs C H vs l → TrVs C H (v :: vs) (t :: l)
end
mutual
def Tr.text : Tr → Str
  | .non => "None"
  | .bl b => if b then "True" else "False"
  | .int i => toString i
  | .str x => reprText x
  | .rat t b => sR t b
  | .lst l => listText (textAll l)
  | .tup l => tupleText (textAll l)
  | .emp => "{}"
def textAll : List Tr → List Str
  | [] => []
  | t :: l => t.text :: textAll l
end
mutual
def Tr.dep : Tr → Nat
  | .lst l => depAll l + 1
  | .tup l => depAll l + 1
  | .non => 0
  | .bl _ => 0
  | .int _ => 0
  | .str _ => 0
  | .rat _ _ => 0
  | .emp => 0
def depAll : List Tr → Nat
  | [] => 0
  | t :: l => max t.dep (depAll l)
end
/-! leaves that can be shown -/
mutual
def Tr.Fit : Tr → Prop
  | .int i => i.natAbs.log2 < 1920
  | .str x => (reprText x).length ≤ sizeLine
  | .rat t b => Bt 190 t ∧ Bt 190 b
  | .lst l => FitAll l
  | .tup l => FitAll l
  | .non => True
  | .bl _ => True
  | .emp => True
def FitAll : List Tr → Prop
  | [] => True
  | t :: l => t.Fit ∧ FitAll l
end
theorem text_len : ∀ l : List Tr, (textAll l).length = l.length
  | [] => rfl
  | _ :: l => by rw [textAll, List.length_cons, List.length_cons, text_len l]
theorem TrVs.len {C : Addr} {H : Hp} : ∀ {xs : List V} {l : List Tr}, TrVs C H xs l → l.length = xs.length
  | _, _, .nil => rfl
  | _, _, .cons _ q => by rw [List.length_cons, List.length_cons, q.len]
theorem TrVs.at_ {C : Addr} {H : Hp} : ∀ {xs : List V} {l : List Tr}, TrVs C H xs l → ∀ {i : Nat} {x : V}, xs[i]? = some x → ∃ t, l[i]? = some t ∧ TrV C H x t
  | _, _, .nil, i, x, h => by simp at h
  | _, _, .cons (t := t) q r, 0, x, h => ⟨t, rfl, by simp at h; exact h ▸ q⟩
  | _, _, .cons q r, i + 1, x, h => by
    obtain ⟨t, h1, h2⟩ := r.at_ (i := i) (x := x) (by simpa using h)
    exact ⟨t, by simpa using h1, h2⟩
theorem text_at : ∀ {l : List Tr} {i : Nat} {t : Tr}, l[i]? = some t → (textAll l)[i]? = some t.text
  | [], i, t, h => by simp at h
  | x :: l, 0, t, h => by simp at h; subst h; rfl
  | x :: l, i + 1, t, h => by
    rw [textAll]
    simpa using text_at (l := l) (i := i) (t := t) (by simpa using h)
theorem fit_at : ∀ {l : List Tr} {i : Nat} {t : Tr}, l[i]? = some t → FitAll l → t.Fit
  | [], i, t, h, _ => by simp at h
  | x :: l, 0, t, h, f => by
    simp at h; subst h
    rw [FitAll] at f
    exact f.1
  | x :: l, i + 1, t, h, f => by
    rw [FitAll] at f
    exact fit_at (l := l) (i := i) (by simpa using h) f.2
theorem dep_at : ∀ {l : List Tr} {i : Nat} {t : Tr}, l[i]? = some t → t.dep ≤ depAll l
  | [], i, t, h => by simp at h
  | x :: l, 0, t, h => by
    simp at h; subst h
    rw [depAll]
    exact Nat.le_max_left _ _
  | x :: l, i + 1, t, h => by
    rw [depAll]
    exact Nat.le_trans (dep_at (l := l) (i := i) (by simpa using h)) (Nat.le_max_right _ _)
section
variable {C : Addr} {H H' : Hp}
mutual
theorem TrV.up (e : Ex H H') : ∀ (t : Tr) (v : V), TrV C H v t → TrV C H' v t
  | .non, _, h => by cases h; exact .non
  | .bl b, _, h => by cases h; exact .bl b
  | .int i, _, h => by cases h; exact .int i
  | .str x, _, h => by cases h; exact .str x
  | .rat t b, _, h => by cases h with | rat h => exact .rat (h.up e)
  | .lst l, _, h => by cases h with | lst h q => exact .lst (e _ _ h) (TrVs.up e l _ q)
  | .tup l, _, h => by cases h with | tup h q => exact .tup (e _ _ h) (TrVs.up e l _ q)
  | .emp, _, h => by cases h with | emp h => exact .emp (e _ _ h)
theorem TrVs.up (e : Ex H H') : ∀ (l : List Tr) (vs : List V), TrVs C H vs l → TrVs C H' vs l
  | [], _, h => by cases h; exact .nil
  | t :: l, _, h => by cases h with | cons h q => exact .cons (TrV.up e t _ h) (TrVs.up e l _ q)
end
mutual
theorem TrV.uniq : ∀ (t t' : Tr) (v : V), TrV C H v t → TrV C H v t' → t = t'
  | .non, t', _, h, h' => by cases h; cases h'; rfl
  | .bl b, t', _, h, h' => by cases h; cases h'; rfl
  | .int i, t', _, h, h' => by cases h; cases h'; rfl
  | .str x, t', _, h, h' => by cases h; cases h'; rfl
  | .rat t b, t', _, h, h' => by
    cases h with
    | rat h =>
      obtain ⟨dx, h⟩ := h
      cases h' with
      | rat h2 =>
        obtain ⟨dx2, h2⟩ := h2
        rw [h] at h2
        have z := Option.some.inj h2
        injection z with _ _ z
        unfold rf at z
        injection z with z1 z2
        injection z1 with _ z1
        injection z1 with z1
        injection z2 with z2 _
        injection z2 with _ z2
        injection z2 with z2
        subst z1
        subst z2
        rfl
      | lst h2 => rw [h] at h2; cases h2
      | tup h2 => rw [h] at h2; cases h2
      | emp h2 => rw [h] at h2; cases h2
  | .lst l, t', _, h, h' => by
    cases h with
    | lst h q =>
      cases h' with
      | rat h2 => obtain ⟨dx2, h2⟩ := h2; rw [h] at h2; cases h2
      | lst h2 q2 =>
        rw [h] at h2
        cases h2
        rw [TrVs.uniq l _ _ q q2]
      | tup h2 => rw [h] at h2; cases h2
      | emp h2 => rw [h] at h2; cases h2
  | .tup l, t', _, h, h' => by
    cases h with
    | tup h q =>
      cases h' with
      | rat h2 => obtain ⟨dx2, h2⟩ := h2; rw [h] at h2; cases h2
      | lst h2 => rw [h] at h2; cases h2
      | tup h2 q2 =>
        rw [h] at h2
        cases h2
        rw [TrVs.uniq l _ _ q q2]
      | emp h2 => rw [h] at h2; cases h2
  | .emp, t', _, h, h' => by
    cases h with
    | emp h =>
      cases h' with
      | rat h2 => obtain ⟨dx2, h2⟩ := h2; rw [h] at h2; cases h2
      | lst h2 => rw [h] at h2; cases h2
      | tup h2 => rw [h] at h2; cases h2
      | emp h2 => rfl
theorem TrVs.uniq : ∀ (l l' : List Tr) (vs : List V), TrVs C H vs l → TrVs C H vs l' → l = l'
  | [], _, _, h, h' => by cases h; cases h'; rfl
  | t :: l, _, _, h, h' => by
    cases h with
    | cons h q =>
      cases h' with
      | cons h' q' => rw [TrV.uniq t _ _ h h', TrVs.uniq l _ _ q q']
end
end
end B71

namespace B71
open PySem PySem.Spec PyProof.Rows L2 Evl RZ SrtO
/-! ### repr of nested values -/
theorem sub_under {X : Cx} {n : Nat} {A : Around} {id : String} {args : Args} (sb : Sub X (n + 1) A) (h1 : (Code.builtin id args).frames = 0) (h2 : (Code.builtin id args).isCreation = false) (h3 : (Code.builtin id args).isCaller = false) : Sub X n (A.under (.builtin id args)) := by
  have hw : (Code.builtin id args).weight ≤ 1 := by
    unfold Code.weight
    rw [h1, h2, h3]
    simp only [Bool.false_eq_true, if_false]
    split <;> omega
  have hu : (Code.builtin id args).cUnits = 1 := by
    show 1 + 3 * (Code.builtin id args).frames = 1
    rw [h1]
  refine ⟨⟨sb.room.hd, ?_, ?_⟩, sb.fr⟩
  · have := sb.room.dp
    show A.depth + (Code.builtin id args).weight + 3 * n + 5 < _
    omega
  · have := sb.room.un
    show A.units + (Code.builtin id args).cUnits + 16 * n + 200 < _
    omega
theorem sub_loop {X : Cx} {n : Nat} {A : Around} {args : Args} (sb : Sub X (n + 1) A) : Sub X n (A.under (.builtin "list.__repr__.loop" args)) := sub_under sb rfl rfl rfl
theorem sub_tup {X : Cx} {n : Nat} {A : Around} {args : Args} (sb : Sub X (n + 1) A) : Sub X n (A.under (.builtin "tuple.__repr__" args)) := sub_under sb rfl rfl rfl
theorem sub_tupU {X : Cx} {n : Nat} {A : Around} {args : Args} (sb : Sub X (n + 1) A) : Sub X n (A.under (.builtin "tuple.__repr__.under" args)) := sub_under sb rfl rfl rfl
/-- every repr under way is of a container deeper than n -/
def Clr (C : Addr) (H : Hp) (n : Nat) (g : List Code) : Prop := ∀ id v rest kw, Code.builtin id ⟨v :: rest, kw⟩ ∈ g → ∃ a t, v = .ref a ∧ TrV C H (.ref a) t ∧ n < t.dep
theorem Clr.clear {C : Addr} {H : Hp} {n : Nat} {g : List Code} {b : Addr} {t : Tr} (c : Clr C H n g) (h : TrV C H (.ref b) t) (hd : t.dep ≤ n) : Clear g b := by
  intro id v rest kw hm z
  obtain ⟨a, t', rfl, h', hn⟩ := c id v rest kw hm
  cases z
  rw [TrV.uniq _ _ _ h h'] at hd
  omega
theorem Clr.up {C : Addr} {H H' : Hp} {n : Nat} {g : List Code} (c : Clr C H n g) (e : Ex H H') : Clr C H' n g := fun id v rest kw hm => by
  obtain ⟨a, t, h1, h2, h3⟩ := c id v rest kw hm
  exact ⟨a, t, h1, TrV.up e _ _ h2, h3⟩
theorem Clr.push {C : Addr} {H : Hp} {n m : Nat} {g : List Code} {a : Addr} {t : Tr} {id : String} {rest : List Value} {kw : List (Str × Value)} (c : Clr C H m g) (h : TrV C H (.ref a) t) (hn : n < t.dep) (hm : n ≤ m) : Clr C H n (.builtin id ⟨.ref a :: rest, kw⟩ :: g) := by
  intro id' v rest' kw' hmem
  rcases List.mem_cons.mp hmem with e | hmem
  · cases e
    exact ⟨a, t, rfl, h, hn⟩
  · obtain ⟨b, u, h1, h2, h3⟩ := c id' v rest' kw' hmem
    exact ⟨b, u, h1, h2, by omega⟩
theorem strs_of : ∀ {l : List Str} {its : List Value}, Vals (l.map V.str) its → ∃ done : List (Str × Tok), its = strValues done ∧ done.map (·.1) = l
  | [], _, h => by cases h; exact ⟨[], rfl, rfl⟩
  | x :: l, _, h => by
    cases h with
    | cons r q =>
      obtain ⟨t, rfl⟩ := r
      obtain ⟨done, rfl, rfl⟩ := strs_of q
      exact ⟨(x, t) :: done, rfl, rfl⟩
/-- how v is shown wherever H0 holds, in n levels -/
def ShE (X : Cx) (C : Addr) (n : Nat) (H0 : Hp) (v : V) (d : Nat) (x : Str) : Prop :=
  ∀ (b : Nat) (A : Around) (g : List Code) (pins : List (Addr × Obj)) (s : Shared) (σ : L2.St) (H : Hp) (u : Value) (E : Value → Shared → Prop) (Q : Str → Shared → Prop), b + x.length ≤ sizeLine → Sub X n A → A.guards = some g → Clr C H d g → Ex H0 H → Inv X pins σ H s → RelV v u →
    (∀ H' s', Ex H H' → Inv X pins σ H' s' → Q x s') → wpAny (model X.prog X.w) A (pyReprUnder b u) Q E s
section
variable {X : Cx} {C : Addr}
theorem ShE.leaf {n d : Nat} {H0 : Hp} {v : V} {x : Str} (h : ∀ u, RelV v u → ReprIs X.prog X.w u x) : ShE X C n H0 v d x := by
  intro b A g pins s σ H u E Q hb sb hg hc e0 I r q
  exact h u r b hb A E s Q fun tk => q H _ (Ex.refl _) (I.tok tk)
theorem ifBoundBy_K {M : Model} {A : Around} {E : Value → Shared → Prop} {s : Shared} {K : PySem.W.Frag} {x D f : Addr} {ox : Obj} {od : Option Obj} {name : Str} {last : Value → List Value → Sem Value} {Q : Option Value → Shared → Prop} (hK : K.In s.heap) (J : PySem.W.InstAt s.heap x ox D od) (hs : PySem.W.findIn K (.ref D) name = some (some (.ref f))) (hf : PySem.W.isFn K (.ref f) = true)
    (h : wpAny M A (last (.ref f) [.ref x]) (fun v => Q (some v)) E s) : wpAny M A (callSpecialIfBoundBy? last (.ref x) name) Q E s := by
  simp only [callSpecialIfBoundBy?, bindSpecialIfBound?]
  have ends : wpAny M A (last (.ref f) [.ref x] >>= fun v => (pure (some v) : Sem (Option Value))) Q E s :=
    wpAny_bind (wpAny_mono h (fun v s' z => wpAny_pure z) fun _ _ z => z)
  have bnd := PySem.W.bind_fn (M := M) hK (.ref x) (beq_iff_eq.mp hf)
  refine wpAny_holding (wpAny_bind (wpAny_bind (wpAny_bind (J.type.here ((PySem.W.looks_findIn hK hs).here ?_)))))
  refine wpAny_bind (wpAny_askSetting (wpAny_ite ?_))
  split
  · exact wpAny_bind (bnd.here (wpAny_pure (by exact ends)))
  · exact wpAny_tryCatch (wpAny_bind (bnd.here (wpAny_pure (by exact ends))))
theorem ShE.own {n d : Nat} {H0 : Hp} {a : Addr} {t b : Int} (B : TxB X.prog X.w X.K X.mg X.base C "__repr__" sR) (hn : 3 ≤ n) (h : Rt C H0 a t b) (bt : Bt 190 t) (bb : Bt 190 b) : ShE X C n H0 (.ref a) d (sR t b) := by
  intro k A g pins s σ H u E Q hb sb hg hc e0 I r q
  obtain ⟨f, fd, F, bd, fe, fn⟩ := B.ex
  obtain rfl : u = Value.ref a := r
  have hr := h.up e0
  obtain ⟨dx, ha⟩ := id hr
  obtain ⟨mA, J, _⟩ := ins_get I.hok ha
  obtain ⟨od, J, _⟩ := J.look
  refine wpAny_pyReprUnder_ref (by omega) ?_
  unfold pyReprObjUnder pyReprObjBy
  have sb2 : Sub X 2 A := sb.mono (by omega)
  refine wpAny_bind (m := cRoomFor _ _) (wpAny_cRoomFor sb2.room.units0 ?_)
  have M1 : PySem.W.Looks (model X.prog X.w) s.heap (typeOf (.ref a)) (.ref C) := J.type
  have M2 : PySem.W.Looks (model X.prog X.w) s.heap (typeLookup (.ref C) "__repr__") (some (.ref f)) := PySem.W.looks_findIn I.kIn fe
  refine wpAny_bind (m := specialOf (.ref a) _) ?_
  unfold specialOf
  refine wpAny_bind (M1.here (M2.here ?_))
  refine wpAny_bind (ifBoundBy_K (name := Str.ofString "__repr__") I.kIn J fe fn ?_)
  have run := own_run (X := X.wish E) (A := A) (pins := pins) (σ := σ) (Q := fun v H' => v = .str (sR t b) ∧ Ex H H') (vs := [.ref a]) F bd sb2.room sb2.fr (I.wish E) (.cons rfl .nil) ⟨a, t, b, rfl, hr, bt, bb, fun H' e => ⟨rfl, e⟩⟩
  refine wpAny_mono run (fun v s' hv => ?_) fun _ _ z => z
  obtain ⟨v', H', I', r', rfl, e⟩ := hv
  obtain ⟨tk, rfl⟩ := r'
  refine wpAny_bind (wpAny_isInstance (T := "str") (b := true) (typeIs_str _ _ _) isSubtype_str_str ?_)
  exact wpAny_pure ⟨_, _, rfl, q H' s' e I'.unwish⟩
theorem vals_at : ∀ {xs : List V} {us : List Value}, Vals xs us → ∀ {i : Nat} {x : V}, xs[i]? = some x → ∃ u, us[i]? = some u ∧ RelV x u
  | _, _, .nil, i, x, h => by simp at h
  | _, _, .cons (b := u) q t, 0, x, h => ⟨u, rfl, by simp at h; exact h ▸ q⟩
  | _, _, .cons q t, i + 1, x, h => by
    obtain ⟨u, h1, h2⟩ := vals_at t (i := i) (x := x) (by simpa using h)
    exact ⟨u, by simpa using h1, h2⟩
theorem list_loop {a P : Addr} {xs : List V} {ts : List Str} {l : List Tr} {n m b : Nat} {H0 : Hp} {A : Around} {g : List Code} {pins : List (Addr × Obj)} {σ : L2.St} {R : Result → Shared → Prop}
    (ht : TrV C H0 (.ref a) (.lst l)) (ha : H0 a = some (.lst xs)) (hl : ts.length = xs.length) (hP : H0 P = none) (el : ∀ (i : Nat) x t, xs[i]? = some x → ts[i]? = some t → ShE X C n H0 x (depAll l) t)
    (sb : Sub X (n + 1) A) (hg : A.guards = some g) (hsz : b + (listText ts).length ≤ sizeLine) (cl : Clr C H0 m g) (hm : depAll l ≤ m) (ends : ∀ H' s' u, Ex H0 H' → Inv X pins σ H' s' → R (.ok (.ret (.str (listText ts) u))) s') :
    ∀ (k i : Nat) (H : Hp) (s : Shared), xs.length - i = k → i ≤ xs.length → Ex H0 H → H P = some (.lst ((ts.take i).map V.str)) → Inv X pins σ H s →
      codeAny (model X.prog X.w) A (.builtin "list.__repr__.loop" ⟨[.ref a, rawInt i, .ref P, rawInt ((b + piled (ts.take i) : Nat) : Int)], []⟩) R s := by
  have lens := textFrom_len ts 0 "["
  have full : (listText ts).length = (textFrom 0 "[" ts).length + 1 := by
    show (textFrom 0 "[" ts ++ "]").length = _
    rw [strLen_append]; rfl
  have heap_ := piled_le_listText ts
  have each : ∀ t ∈ ts, t.length ≤ sizeLine := fun t h => by
    have := lens.2.1 t h
    omega
  have small : xs.length ≤ sizeLine := by
    have := lens.1
    rw [if_neg (Nat.lt_irrefl 0)] at this
    omega
  intro k
  induction k with
  | zero =>
    intro i H s hk hi e0 hp I
    obtain rfl : i = xs.length := by omega
    obtain ⟨_, its, na, rs, ln, oa⟩ := I.lstM (e0 _ _ ha)
    obtain ⟨_, parts, np, rp, _, op⟩ := I.lstM hp
    obtain ⟨done, rfl, hd⟩ := strs_of rp
    refine codeAny_builtin F.entry_list_repr_loop ?_
    show wpAny _ _ (Builtin.«list.__repr__.loop» ⟨[.ref a, .int (xs.length : Nat) 0, .ref P, .int ((b + piled (ts.take xs.length) : Nat) : Int) 0], []⟩) _ _ s
    rw [repr_loop_tree]
    refine wpAny_bind (wpAny_listItems oa rfl ?_)
    have none_ : its.toArray[((xs.length : Nat) : Int).toNat]? = none := by simp [ln]
    rw [none_]
    dsimp only
    unfold reprEnd
    refine wpAny_bind (wpAny_listItems op rfl ?_)
    rw [show (strValues done).toArray.toList = strValues done from rfl, repr_fold, hd, ← hl, List.take_length]
    refine wpAny_bind (wpAny_pure ?_)
    refine wpAny_bind (wpAny_mkStr (wpAny_pure ?_) (by show (listText ts).length ≤ sizeLine; omega))
    exact ends H _ _ e0 (I.tok _)
  | succ k ih =>
    intro i H s hk hi e0 hp I
    have hlt : i < xs.length := by omega
    have hx : xs[i]? = some xs[i] := List.getElem?_eq_getElem hlt
    have ht2 : ts[i]? = some ts[i] := List.getElem?_eq_getElem (by omega)
    obtain ⟨_, its, na, rs, ln, oa⟩ := I.lstM (e0 _ _ ha)
    obtain ⟨u, hu, ru⟩ := vals_at rs hx
    have more := piled_take_succ ht2
    have most := piled_take_le ts (i + 1)
    refine codeAny_builtin F.entry_list_repr_loop ?_
    show wpAny _ _ (Builtin.«list.__repr__.loop» ⟨[.ref a, .int i 0, .ref P, .int ((b + piled (ts.take i) : Nat) : Int) 0], []⟩) _ _ s
    rw [repr_loop_tree]
    refine wpAny_bind (wpAny_listItems oa rfl ?_)
    have some_ : its.toArray[((i : Nat) : Int).toNat]? = some u := by simpa using hu
    rw [some_]
    dsimp only
    rw [Int.toNat_natCast]
    have cl' := (cl.up e0).push (n := depAll l) (id := "list.__repr__.loop") (rest := [.int i 0, .ref P, .int ((b + piled (ts.take i) : Nat) : Int) 0]) (kw := []) (TrV.up e0 _ _ ht) (by show depAll l < Tr.dep (.lst l); rw [Tr.dep]; omega) hm
    refine wpAny_bind (wpAny_holding (el i _ _ hx ht2 (b + piled (ts.take i) + 1) _ _ pins s σ H u _ _ (by omega) (sub_loop sb) (guards_under_guard (isGuard_list_loop _) hg) cl' e0 I ru fun H2 s2 e2 I2 => ?_))
    refine wpAny_bind (wpAny_mkStr ?_ (each _ (List.mem_of_getElem? ht2)))
    refine wpAny_bind ?_
    have hp2 := e2 _ _ hp
    obtain ⟨zp, parts, np, rp, lp, op⟩ := I2.lstM hp2
    show wpAny _ _ (updateSeq P _) _ _ _
    have hpl : (ts.take i).length ≤ i := by rw [List.length_take]; omega
    refine wpAny_updateSeq op rfl (wpAny_pure ⟨F.quiet_list_repr_loop _, ?_⟩) (by rw [List.size_toArray, ← lp, List.length_map]; omega)
    have st : ts.take (i + 1) = ts.take i ++ [ts[i]] := by rw [List.take_add_one, ht2]; rfl
    have I3 := I2.lset (f := (·.push (.str ts[i] s2.toks))) (its' := parts ++ [.str ts[i] s2.toks]) (ys := (ts.take (i + 1)).map V.str) (t' := s2.toks + 1) hp2 op (by simp) (by rw [st, List.map_append]; exact rp.append (.cons ⟨_, rfl⟩ .nil)) (by rw [List.length_map, List.length_take]; omega)
    have e3 : Ex H0 (upd H2 P (.lst ((ts.take (i + 1)).map V.str))) := (e0.trans e2).mut hP
    have k1 : ((i : Int) + 1) = ((i + 1 : Nat) : Int) := by omega
    have k2 : b + piled (ts.take i) + (ts[i].length + 2) = b + piled (ts.take (i + 1)) := by omega
    rw [k1, k2]
    exact ih (i + 1) _ _ (by omega) hlt e3 upd_same I3
theorem list_at {a : Addr} {xs : List V} {ts : List Str} {l : List Tr} {n m b : Nat} {H : Hp} {A : Around} {g : List Code} {pins : List (Addr × Obj)} {σ : L2.St} {s : Shared} {R : Result → Shared → Prop} {y : Value} {its : List Value} {na : Nat}
    (ht : TrV C H (.ref a) (.lst l)) (ha : H a = some (.lst xs)) (hl : ts.length = xs.length) (hm : depAll l ≤ m) (el : ∀ (i : Nat) x t, xs[i]? = some x → ts[i]? = some t → ShE X C n H x (depAll l) t)
    (sb : Sub X (n + 1) A) (hg : A.guards = some g) (hc : Clr C H m g) (clr : Clear g a) (hb : b + (listText ts).length ≤ sizeLine) (I : Inv X pins σ H s) (oa : s.heap.get? a = some { cls := .type "list", data := .seq (y :: its).toArray na })
    (ends : ∀ H' s' u, Ex H H' → Inv X pins σ H' s' → R (.ok (.ret (.str (listText ts) u))) s') :
    wpAny (model X.prog X.w) A.in1 (Builtin.listReprAt b ⟨[.ref a], []⟩) (fun r s' => match r with | .done f => R (.ok f) s' | .again c => c.quiet = true ∧ codeAny (model X.prog X.w) A c R s') (fun e s' => R (.error e) s') s := by
  refine wpAny_list_repr_head (A := A.in1) hg (fun v rest kw hmem => listSameRef_of_ne (clr _ _ _ _ hmem)) oa rfl ?_
  refine wpAny_bind (m := newList []) (wpAny_newObj_type ?_)
  refine wpAny_pure ⟨F.quiet_list_repr_loop _, ?_⟩
  have fr := I.fresh
  have I2 := I.lnew (ys := []) (its := []) (t' := s.toks) .nil (Nat.zero_le _)
  exact list_loop (P := s.heap.objs.size) (H0 := H) (m := m) ht ha hl fr el sb hg hb hc hm ends xs.length 0 _ _ rfl (Nat.zero_le _) (Ex.new fr) upd_same I2
theorem ShE.list {a : Addr} {xs : List V} {ts : List Str} {l : List Tr} {n m : Nat} {H0 : Hp} (ht : TrV C H0 (.ref a) (.lst l)) (ha : H0 a = some (.lst xs)) (hl : ts.length = xs.length) (hm : Tr.dep (.lst l) ≤ m)
    (el : ∀ (i : Nat) x t, xs[i]? = some x → ts[i]? = some t → ∀ H1, Ex H0 H1 → ShE X C n H1 x (depAll l) t) : ShE X C (n + 3) H0 (.ref a) m (listText ts) := by
  intro b A g pins s σ H u E Q hb sb hg hc e0 I r q
  obtain rfl : u = Value.ref a := r
  have sb2 : Sub X (n + 1) A := sb.mono (by omega)
  have clr := hc.clear (TrV.up e0 _ _ ht) hm
  obtain ⟨_, its, na, rs, ln, oa⟩ := I.lstM (e0 _ _ ha)
  have hd : Tr.dep (.lst l) = depAll l + 1 := by rw [Tr.dep]
  cases its with
  | nil =>
    cases rs
    obtain rfl : ts = [] := List.eq_nil_of_length_eq_zero hl
    exact wpAny_pyReprUnder_ref (by omega) (wpAny_pyReprObjUnder_list_empty ⟨_, oa, rfl⟩ sb2.room.units0 oa rfl ⟨_, _, rfl, q H _ (Ex.refl _) (I.tok _)⟩)
  | cons y its =>
    refine wpAny_pyReprUnder_ref (by omega) (wpAny_pyReprObjUnder_twin (twin := "list.__repr__.under") ⟨_, oa, rfl⟩ F.slot_list_repr.toG rfl sb2.room.units0 ?_)
    refine call_twin_plain F.plain_list_repr_under F.entry_list_repr_under F.check_list_repr_under ⟨_, oa, rfl⟩ F.slot_list_repr.toG (F.args_list_repr_1 _) ?_
    exact list_at (m := m) (TrV.up e0 _ _ ht) (e0 _ _ ha) hl (by omega) (fun i x t h1 h2 => el i x t h1 h2 H e0) sb2 hg hc clr hb I oa fun H' s' u e' I' => ⟨⟨_, _, rfl⟩, _, _, rfl, q H' s' e' I'⟩
inductive ShAll (X : Cx) (C : Addr) (n : Nat) (H0 : Hp) (d : Nat) : List V → List Str → Prop
  | nil : ShAll X C n H0 d [] []
  | cons {v : V} {x : Str} {vs : List V} {ts : List Str} : (∀ H1, Ex H0 H1 → ShE X C n H1 v d x) → ShAll X C n H0 d vs ts → ShAll X C n H0 d (v :: vs) (x :: ts)
theorem ShAll.len {n d : Nat} {H0 : Hp} : ∀ {vs : List V} {ts : List Str}, ShAll X C n H0 d vs ts → ts.length = vs.length
  | _, _, .nil => rfl
  | _, _, .cons _ q => by rw [List.length_cons, List.length_cons, q.len]
theorem ShAll.up {n d : Nat} {H0 H1 : Hp} (e : Ex H0 H1) : ∀ {vs : List V} {ts : List Str}, ShAll X C n H0 d vs ts → ShAll X C n H1 d vs ts
  | _, _, .nil => .nil
  | _, _, .cons q r => .cons (fun H2 e2 => q H2 (e.trans e2)) (r.up e)
theorem ShAll.at_ {n d : Nat} {H0 : Hp} : ∀ {vs : List V} {ts : List Str}, ShAll X C n H0 d vs ts → ∀ (i : Nat) v x, vs[i]? = some v → ts[i]? = some x → ∀ H1, Ex H0 H1 → ShE X C n H1 v d x
  | _, _, .nil, i, v, x, h, _ => by simp at h
  | _, _, .cons q _, 0, v, x, h, k => by simp at h k; subst h; subst k; exact q
  | _, _, .cons _ r, i + 1, v, x, h, k => r.at_ i v x (by simpa using h) (by simpa using k)
theorem tup_fold {n d : Nat} {H0 : Hp} {A : Around} {g : List Code} {pins : List (Addr × Obj)} {σ : L2.St} {E : Value → Shared → Prop} (sb : Sub X n A) (hg : A.guards = some g) (cl : Clr C H0 d g) :
    ∀ (us : List Value) (vs : List V) (ts : List Str) (acc : Array Str) (k : Nat) (H : Hp) (s : Shared) (Q : Array Str × Nat → Shared → Prop), Vals vs us → ShAll X C n H0 d vs ts → k + piled ts ≤ sizeLine → Ex H0 H → Inv X pins σ H s →
      (∀ H' s', Ex H H' → Inv X pins σ H' s' → Q ⟨acc ++ ts.toArray, k + piled ts⟩ s') → wpAny (model X.prog X.w) A (forIn us (⟨acc, k⟩ : Array Str × Nat) tupBody) Q E s := by
  intro us
  induction us with
  | nil =>
    intro vs ts acc k H s Q r sh hk e0 I q
    cases r
    cases sh
    rw [List.forIn_nil]
    refine wpAny_pure ?_
    simpa [piled] using q H s (Ex.refl _) I
  | cons u us ih =>
    intro vs ts acc k H s Q r sh hk e0 I q
    cases r with
    | cons ru r =>
      cases sh with
      | cons h1 sh =>
        rename_i x ts
        rw [piled_cons] at hk
        rw [List.forIn_cons]
        refine wpAny_bind (wpAny_bind (h1 H e0 (k + 1) A g pins s σ H u _ _ (by omega) sb hg (cl.up e0) (Ex.refl _) I ru fun H2 s2 e2 I2 => wpAny_pure ?_))
        refine ih _ ts (acc.push x) (k + (x.length + 2)) H2 s2 Q r sh (by omega) (e0.trans e2) I2 fun H3 s3 e3 I3 => ?_
        have z := q H3 s3 (e2.trans e3) I3
        rw [piled_cons, show k + (x.length + 2 + piled ts) = k + (x.length + 2) + piled ts by omega] at z
        simpa using z
theorem ShE.mono {n n' d : Nat} {H0 : Hp} {v : V} {x : Str} (h : ShE X C n H0 v d x) (k : n ≤ n') : ShE X C n' H0 v d x :=
  fun b A g pins s σ H u E Q hb sb => h b A g pins s σ H u E Q hb (sb.mono k)
theorem tup_at {a : Addr} {xs : List V} {ts : List Str} {l : List Tr} {n m b : Nat} {H : Hp} {A : Around} {g : List Code} {pins : List (Addr × Obj)} {σ : L2.St} {s : Shared} {R : Result → Shared → Prop} {its : List Value} {na : Nat} {o : Obj} {id : String} {rest : List Value}
    (ht : TrV C H (.ref a) (.tup l)) (hm : depAll l ≤ m) (el : ShAll X C n H (depAll l) xs ts) (hu : ∀ args, Sub X n (A.under (.builtin id args))) (hgd : ∀ args, (Code.builtin id args).isGuard = true) (hg : A.guards = some g) (hc : Clr C H m g) (clr : Clear g a) (hb : b + (tupleText ts).length ≤ sizeLine) (I : Inv X pins σ H s)
    (rs : Vals xs its) (ho : s.heap.get? a = some o) (hd : o.data = .seq its.toArray na) (ends : ∀ H' s' u, Ex H H' → Inv X pins σ H' s' → R (.ok (.ret (.str (tupleText ts) u))) s') :
    wpOwn (model X.prog X.w) A (.builtin id ⟨.ref a :: rest, []⟩) (Builtin.tupleReprAt b ⟨[.ref a], []⟩) (fun r s' => match r with | .done f => R (.ok f) s' | .again c => c.quiet = true ∧ codeAny (model X.prog X.w) A c R s') (fun e s' => R (.error e) s') s := by
  have hlen : ts.length = its.length := el.len.trans rs.length
  have hp := piled_le_tupleText ts
  rw [tuple_repr_tree, tupleReprUnderWay_eq]
  refine wpOwn_bind (wpOwn_stackTailAny hg (tupGuardF_off _) (tupGuardF_pos _) ?_)
  have hno : (g.any fun c => tupGuardF (.ref a) (c, default)) = false := by
    rw [List.any_eq_false]
    intro c hcm
    rw [tupGuardF_of_clear clr c hcm]
    exact Bool.false_ne_true
  rw [hno]
  refine wpOwn_of_wpAny ?_
  show wpAny _ _ (tupleReprRest b (.ref a)) _ _ s
  unfold tupleReprRest
  refine wpAny_bind (wpAny_tupleItemsOf ho hd ?_)
  rw [← Array.forIn_toList]
  have hc2 : Clr C H (depAll l) (Code.builtin id ⟨.ref a :: rest, []⟩ :: g) := hc.push ht (by rw [Tr.dep]; omega) hm
  refine wpAny_bind (tup_fold (H0 := H) (hu _) (guards_under_guard (hgd _) hg) hc2 _ xs ts _ _ H _ _ rs el (by omega) (Ex.refl _) I fun H2 s2 e2 I2 => ?_)
  have same : (Str.ofString "(" ++ (Str.ofString ", ").join ((#[] ++ ts.toArray, b + piled ts) : Array Str × Nat).fst.toList ++ Str.ofString (if (its.toArray.size == 1) = true then ",)" else ")")) = tupleText ts := by
    simp [tupleText, hlen]
  refine wpAny_bind (wpAny_mkStr (wpAny_pure ?_) (by rw [same]; omega))
  rw [same]
  exact ends H2 _ _ e2 (I2.tok _)
theorem ShE.tuple {a : Addr} {xs : List V} {ts : List Str} {l : List Tr} {n m : Nat} {H0 : Hp} (ht : TrV C H0 (.ref a) (.tup l)) (ha : H0 a = some (.tup xs)) (hm : Tr.dep (.tup l) ≤ m) (el : ShAll X C n H0 (depAll l) xs ts) : ShE X C (n + 3) H0 (.ref a) m (tupleText ts) := by
  intro b A g pins s σ H u E Q hb sb hg hc e0 I r q
  obtain rfl : u = Value.ref a := r
  have sb2 : Sub X (n + 1) A := sb.mono (by omega)
  have clr := hc.clear (TrV.up e0 _ _ ht) hm
  obtain ⟨_, its, rs, o, ho, hcl, na, hd⟩ := (show ObjOk X.prog X.w H s.heap a (.tup xs) from I.hok a _ (e0 _ _ ha))
  have hdp : Tr.dep (.tup l) = depAll l + 1 := by rw [Tr.dep]
  refine wpAny_pyReprUnder_ref (by omega) (wpAny_pyReprObjUnder_twin (twin := "tuple.__repr__.under") ⟨o, ho, hcl⟩ F.slot_tuple_repr rfl sb2.room.units0 ?_)
  refine call_twin_own (F.quiet_tuple_repr_under _) F.entry_tuple_repr_under F.check_tuple_repr_under ⟨o, ho, hcl⟩ F.slot_tuple_repr (F.args_tuple_repr_1 _) ?_
  exact tup_at (m := m) (TrV.up e0 _ _ ht) (by omega) (el.up e0) (fun _ => sub_tupU sb2) isGuard_tuple_repr_under hg hc clr hb I rs ho hd fun H' s' u e' I' => ⟨⟨_, _, rfl⟩, _, _, rfl, q H' s' e' I'⟩
theorem ShE.emp {n m : Nat} {a : Addr} {H0 : Hp} (ha : H0 a = some (.dK [])) (hn : 2 ≤ n) : ShE X C n H0 (.ref a) m "{}" := by
  intro b A g pins s σ H u E Q hb sb hg hc e0 I r q
  obtain rfl : u = Value.ref a := r
  have clr := hc.clear (TrV.emp (e0 _ _ ha)) (Nat.zero_le _)
  obtain ⟨_, sy, vs, kv, o, es, ep, ho, hx, hd, hko, hes⟩ := dk_of I.hok (e0 _ _ ha)
  cases kv
  have hes' : es.toList = [] := by
    have z := hes.1
    generalize es.toList = el at z ⊢
    cases z
    rfl
  have z := ReprK.dict (prog := X.prog) (w := X.w) (as := []) (h₀ := s.heap) (d := 0) (ps := []) ho hx.1 hd sy (List.not_mem_nil) (by rw [hes']; exact .nil)
  exact z b hb A g E s Q hg (fun c hcm => by rw [List.mem_singleton.mp hcm]; exact clr) (by have := sb.room.un; omega) (fun _ _ e => e) fun h' tk k => q H _ (Ex.refl _) (I.kept (t' := tk) k)
section
variable (B : TxB X.prog X.w X.K X.mg X.base C "__repr__" sR)
include B
mutual
theorem tr_sh : ∀ (t : Tr) (v : V) (m : Nat) (H0 : Hp), TrV C H0 v t → t.Fit → t.dep ≤ m → ShE X C (3 * t.dep + 3) H0 v m t.text
  | .non, _, m, H0, h, _, _ => by
    cases h
    exact .leaf fun u r => by cases r; exact .none
  | .bl b, _, m, H0, h, _, _ => by
    cases h
    exact .leaf fun u r => by cases r; exact .bool b
  | .int i, _, m, H0, h, f, _ => by
    cases h
    rw [Tr.Fit] at f
    exact .leaf fun u r => by obtain ⟨t, rfl⟩ := r; exact .int t f
  | .str x, _, m, H0, h, f, _ => by
    cases h
    rw [Tr.Fit] at f
    exact .leaf fun u r => by obtain ⟨t, rfl⟩ := r; exact .str x t f
  | .rat t b, _, m, H0, h, f, _ => by
    cases h with
    | rat h =>
      rw [Tr.Fit] at f
      exact .own B (Nat.le_refl _) h f.1 f.2
  | .emp, _, m, H0, h, _, _ => by
    cases h with
    | emp h => exact .emp h (by show 2 ≤ 3 * Tr.dep .emp + 3; omega)
  | .lst l, _, m, H0, h, f, hm => by
    cases h with
    | lst ha q =>
      rw [Tr.Fit] at f
      have z := trs_sh l _ (depAll l) H0 q f (Nat.le_refl _)
      rw [show 3 * Tr.dep (.lst l) + 3 = 3 * depAll l + 3 + 3 by rw [Tr.dep]; omega]
      exact .list (.lst ha q) ha (by rw [text_len, q.len]) hm (z.at_)
  | .tup l, _, m, H0, h, f, hm => by
    cases h with
    | tup ha q =>
      rw [Tr.Fit] at f
      have z := trs_sh l _ (depAll l) H0 q f (Nat.le_refl _)
      rw [show 3 * Tr.dep (.tup l) + 3 = 3 * depAll l + 3 + 3 by rw [Tr.dep]; omega]
      exact .tuple (.tup ha q) ha hm z
theorem trs_sh : ∀ (l : List Tr) (vs : List V) (m : Nat) (H0 : Hp), TrVs C H0 vs l → FitAll l → depAll l ≤ m → ShAll X C (3 * depAll l + 3) H0 m vs (textAll l)
  | [], _, m, H0, h, _, _ => by cases h; exact .nil
  | t :: l, _, m, H0, h, f, hm => by
    cases h with
    | cons h q =>
      rw [FitAll] at f
      rw [depAll] at hm ⊢
      have z1 := fun H1 (e : Ex H0 H1) => (tr_sh t _ m H1 (TrV.up e _ _ h) f.1 (by omega)).mono (n' := 3 * max t.dep (depAll l) + 3) (by omega)
      have z2 := trs_sh l _ m H0 q f.2 (by omega)
      refine .cons z1 ?_
      have up : ∀ {vs : List V} {ts : List Str}, ShAll X C (3 * depAll l + 3) H0 m vs ts → ShAll X C (3 * max t.dep (depAll l) + 3) H0 m vs ts := by
        intro vs ts z
        induction z with
        | nil => exact .nil
        | cons a _ ih => exact .cons (fun H1 e => (a H1 e).mono (by omega)) ih
      exact up z2
end
end
/-- repr(x) of nested values -/
def rReprT (C : Addr) : List V → Hp → VK → Prop := fun xs H Q => ∃ (v : V) (t : Tr), xs = [v] ∧ TrV C H v t ∧ t.Fit ∧ t.dep ≤ 6 ∧ t.text.length ≤ sizeLine ∧ RetV (.str t.text) H Q
theorem call_reprT (B : TxB X.prog X.w X.K X.mg X.base C "__repr__" sR) (hg : X.A.guards = some []) (hr : Room 24 X.A) : CallR X (.builtin "repr") (rReprT C) := by
  intro pins s σ H xs us Q I r h
  obtain ⟨v, t, rfl, ht, hf, hd, hz, q⟩ := h
  obtain ⟨u, rfl, ru⟩ := r.one
  have c0 : Clr C H 6 [] := fun _ _ _ _ z => nomatch z
  have sb1 : Sub X 23 X.A.in1 := ⟨hr.in1, rfl⟩
  have fin : ∀ H' s' tk, Ex H H' → Inv X pins σ H' s' → EP X pins σ Q (.str t.text tk) s' := fun H' s' tk e I' => ⟨.str t.text, H', I', ⟨tk, rfl⟩, q H' e⟩
  have z0 : X.A.units + 1 < cLine := by have := hr.un; omega
  cases ht with
  | non => cases ru; exact P.repr_of_none (fin H _ _ (Ex.refl _) (I.tok _))
  | bl b => cases ru; exact P.repr_of_bool (fin H _ _ (Ex.refl _) (I.tok _))
  | int i =>
    obtain ⟨tk, rfl⟩ := ru
    rw [Tr.Fit] at hf
    exact P.repr_of_int hf (fin H _ _ (Ex.refl _) (I.tok _))
  | str x =>
    obtain ⟨tk, rfl⟩ := ru
    rw [Tr.Fit] at hf
    exact P.repr_of_str (fin H _ _ (Ex.refl _) (I.tok _)) hf
  | rat ha =>
    obtain ⟨dx, ha⟩ := id ha
    rename_i a t b h1
    rw [Tr.Fit] at hf
    obtain ⟨f, fd, F, bd, fe, fn⟩ := B.ex
    exact call_reprOwn F fe fn bd (hr.mono (by omega)) pins s σ H _ _ Q I r ⟨a, dx, _, rfl, ha, a, t, b, rfl, h1, hf.1, hf.2, fun H' e => ⟨_, rfl, q H' e⟩⟩
  | emp ha =>
    rename_i a
    obtain rfl : u = Value.ref a := ru
    obtain ⟨_, sy, vs, kv, o, es, ep, ho, hx, hdt, hko, hes⟩ := dk_of I.hok ha
    cases kv
    have hes' : es.toList = [] := by
      have z := hes.1
      generalize es.toList = el at z ⊢
      cases z
      rfl
    refine call_repr_slot z0 ⟨o, ho, hx.1⟩ F.slot_dict_repr ?_
    exact call_dict_reprK (prog := X.prog) (w := X.w) (as := []) (h₀ := s.heap) (d := 0) (ps := []) ho hx.1 hdt sy (List.not_mem_nil) (by rw [hes']; exact .nil) hg (fun b _ => Clear.nil b) (by have := hr.un; show X.A.units + 1 + (0 + 1) < cLine; omega) (fun _ _ e => e) (fun h' u tk k => ⟨_, _, rfl, fin H _ _ (Ex.refl _) (I.kept (t' := tk) k)⟩) (by decide)
  | lst ha qs =>
    rename_i a xs l
    obtain rfl : u = Value.ref a := ru
    rw [Tr.Fit] at hf
    rw [Tr.dep] at hd
    have z := trs_sh B l _ (depAll l) H qs hf (Nat.le_refl _)
    obtain ⟨_, its, na, rs, ln, oa⟩ := I.lstM ha
    refine call_repr_slot z0 ⟨_, oa, rfl⟩ F.slot_list_repr.toG ?_
    cases its with
    | nil =>
      cases rs
      cases qs
      exact call_list_repr_empty ⟨_, oa, rfl⟩ oa rfl ⟨_, _, rfl, fin H _ _ (Ex.refl _) (I.tok _)⟩
    | cons y its =>
      refine wpAny_call (codeAny_call_builtin F.slot_list_repr.plain F.entry_list_repr (F.slot_list_repr.check _ _ _ _ _ _ _ _ ⟨_, oa, rfl⟩ (F.args_list_repr_1 _) ?_))
      exact list_at (R := callEnd (fun v s' => ∃ x t, v = Value.str x t ∧ EP X pins σ Q v s') X.xe) (b := 0) (m := 6) (n := 3 * depAll l + 3) (.lst ha qs) ha (by rw [text_len, qs.len]) (by omega) (fun i x t h1 h2 => z.at_ i x t h1 h2 H (Ex.refl _)) (sb1.mono (by omega)) hg c0 (Clear.nil a) (by rw [Tr.text] at hz; omega) I oa fun H' s' u e' I' => ⟨_, _, rfl, fin H' s' u e' I'⟩
  | tup ha qs =>
    rename_i a xs l
    obtain rfl : u = Value.ref a := ru
    rw [Tr.Fit] at hf
    rw [Tr.dep] at hd
    have z := trs_sh B l _ (depAll l) H qs hf (Nat.le_refl _)
    obtain ⟨_, its, rs, o, ho, hcl, na, hdt⟩ := (show ObjOk X.prog X.w H s.heap a (.tup xs) from I.hok a _ ha)
    refine call_repr_slot z0 ⟨o, ho, hcl⟩ F.slot_tuple_repr ?_
    refine wpAny_call (codeAny_call_builtin_own (Code.quiet_builtin _ (by decide +kernel)) F.entry_tuple_repr (F.slot_tuple_repr.check _ _ _ _ _ _ _ _ ⟨o, ho, hcl⟩ (F.args_tuple_repr_1 _) ?_))
    exact tup_at (R := callEnd (fun v s' => ∃ x t, v = Value.str x t ∧ EP X pins σ Q v s') X.xe) (rest := []) (b := 0) (m := 6) (n := 3 * depAll l + 3) (.tup ha qs) (by omega) z (fun _ => sub_tup (sb1.mono (by omega))) isGuard_tuple_repr hg c0 (Clear.nil a) (by rw [Tr.text] at hz; omega) I rs ho hdt fun H' s' u e' I' => ⟨_, _, rfl, fin H' s' u e' I'⟩
end
end B71

namespace B71
open PySem PySem.Spec PyProof.Rows L2 Evl RZ SrtO
def ExB (d : Addr) (H H' : Hp) : Prop := ∀ b o, b ≠ d → H b = some o → H' b = some o
theorem ExB.of {d : Addr} {H H' : Hp} (e : Ex H H') : ExB d H H' := fun b o _ h => e b o h
theorem ExB.trans {d : Addr} {H H1 H2 : Hp} (a : ExB d H H1) (b : ExB d H1 H2) : ExB d H H2 := fun x o n h => b x o n (a x o n h)
theorem ExB.put {d : Addr} {H H1 : Hp} {o : HO} (a : ExB d H H1) : ExB d H (upd H1 d o) := fun x u n h => by rw [upd_ne n]; exact a x u n h
theorem ExB.fresh {d p : Addr} {H H' : Hp} (e : ExB d H H') (n : p ≠ d) (h : H' p = none) : H p = none := by
  cases q : H p with
  | none => rfl
  | some o => rw [e p o n q] at h; cases h
def Pot (H : Hp) (p : Addr) : Prop := ∃ x y : Int, H p = some (.lst [.int x, .int y]) ∧ 0 ≤ x ∧ 0 ≤ y ∧ y < 2147483648
theorem Pot.same {H H' : Hp} {p : Addr} (h : Pot H p) (e : H' p = H p) : Pot H' p := by
  obtain ⟨x, y, h1, h2⟩ := h
  exact ⟨x, y, e.trans h1, h2⟩
theorem Pot.up {H H' : Hp} {p : Addr} (h : Pot H p) (e : Ex H H') : Pot H' p := by
  obtain ⟨x, y, h1, h2⟩ := h
  exact ⟨x, y, e _ _ h1, h2⟩
theorem pot_ne {H : Hp} {p r : Addr} {xs : List V} (h : Pot H p) (hr : H r = some (.tup xs)) : r ≠ p := fun z => by
  obtain ⟨x, y, h1, _⟩ := h
  rw [z, h1] at hr
  cases hr
def spPot (K : PySem.W.Frag) : Sp := fun vs H Q _ => ∃ (a : Addr) (ns : List Int), vs = [.ref a, .int 0] ∧ SqL K H a (ns.map V.int) ∧ ∀ p H', H p = none → Ex H H' → Pot H' p → Q (.ref p) H'
def spDraw : Sp := fun vs H Q _ => ∃ (p : Addr) (m : Nat), vs = [.ref p, .int m] ∧ Pot H p ∧ 1 ≤ m ∧ m ≤ 100 ∧ ∀ (d : Nat) H', ExB p H H' → Pot H' p → d < m → Q (.int d) H'
def spPick : Sp := fun vs H Q _ => ∃ (p a : Addr) (xs : List V), vs = [.ref p, .ref a] ∧ Pot H p ∧ H a = some (.lst xs) ∧ a ≠ p ∧ 1 ≤ xs.length ∧ xs.length ≤ 100 ∧ ∀ (d : Nat) x H', ExB p H H' → Pot H' p → xs[d]? = some x → Q x H'
def PtI (H : Hp) (r : Addr) (p : Int × Int) : Prop := H r = some (.tup [.int p.1, .int p.2])
theorem PtI.up {H H' : Hp} {r : Addr} {p : Int × Int} (h : PtI H r p) (e : Ex H H') : PtI H' r p := e _ _ h
def RetP (p : Int × Int) (H : Hp) (Q : VK) : Prop := ∀ r H', H r = none → Ex H H' → PtI H' r p → Q (.ref r) H'
theorem pt_ap {H : Hp} {D r : Addr} {acc acc' : List V} {p : Int × Int} (hD : H D = some (.lst acc)) (h : PtI H r p) : PtI (upd H D (.lst acc')) r p := by
  unfold PtI at *
  have : r ≠ D := fun z => by rw [z, hD] at h; cases h
  rw [upd_ne this]; exact h
/-- what a comprehension gives while heaps change as E tells -/
structure Chg (E : Hp → Hp → Prop) (H1 : Hp) (D : Addr) : Prop where
  tr : ∀ {a b c}, E a b → E b c → E a c
  new : E H1 (upd H1 D (.lst []))
  app : ∀ H acc acc', E H1 H → H D = some (.lst acc) → E H1 (upd H D (.lst acc'))
  keep : ∀ H H' acc, E H1 H → E H H' → H D = some (.lst acc) → H' D = some (.lst acc)
theorem Chg.ex {H1 : Hp} {D : Addr} (hD : H1 D = none) : Chg Ex H1 D := ⟨Ex.trans, Ex.new hD, fun _ _ _ e _ => e.mut hD, fun _ _ _ _ e h => e _ _ h⟩
def ExP (p : Addr) (H H' : Hp) : Prop := ExB p H H' ∧ (Pot H p → Pot H' p)
theorem ExB.mut {p D : Addr} {H H' : Hp} {o : HO} (e : ExB p H H') (hD : H D = none) : ExB p H (upd H' D o) := fun x u n h => by
  rw [upd_ne (ne_of_none h hD)]
  exact e x u n h
theorem ExP.of {p : Addr} {H H' : Hp} (e : Ex H H') : ExP p H H' := ⟨ExB.of e, fun h => h.up e⟩
theorem ExP.trans {p : Addr} {a b c : Hp} (x : ExP p a b) (y : ExP p b c) : ExP p a c := ⟨x.1.trans y.1, fun h => y.2 (x.2 h)⟩
theorem ExP.pti {p r : Addr} {H H' : Hp} {z : Int × Int} (e : ExP p H H') (hp : Pot H p) (h : PtI H r z) : PtI H' r z := e.1 _ _ (pot_ne hp h) h
theorem pot_nn {H : Hp} {p D : Addr} (h : Pot H p) (hD : H D = none) : D ≠ p := fun z => by
  obtain ⟨x, y, h1, _⟩ := h
  rw [z, h1] at hD
  cases hD
theorem Chg.pot {p : Addr} {H1 : Hp} {D : Addr} (hD : H1 D = none) (hp : Pot H1 p) : Chg (ExP p) H1 D :=
  have nd := pot_nn hp hD
  ⟨ExP.trans, ExP.of (Ex.new hD), fun H _ _ e _ => ⟨e.1.mut hD, fun h => (e.2 h).same (upd_ne (Ne.symm nd))⟩, fun _ _ _ _ e h => e.1 _ _ nd h⟩
theorem lcE {α : Type} {J : It} {n : Nat} {Gd : Hp → Prop} {Y : Nat → Hp → V → Hp → Prop} (w : Walk J n Gd Y) {g : TG} {tt : TT} {te : TE} {vs : List Nat} {σ : L2.St} {H1 : Hp} {D : Addr} {Qd : Hp → Prop} {E : Hp → Hp → Prop} (C : Chg E H1 D)
    (ys : List α) (hn : n = ys.length) (hz : n ≤ 1000) (f : α → Bool) (R : α → V → Hp → Prop) (up : ∀ y v H H', E H1 H → E H H' → R y v H → R y v H') (ap : ∀ y v H acc acc', H D = some (.lst acc) → R y v H → R y v (upd H D (.lst acc'))) (hG : ∀ H, E H1 H → Gd H)
    (hs : ∀ i y x H H' (N : Hp → Prop) (Gt : VK), ys[i]? = some y → E H1 H → (∃ acc, H D = some (.lst acc)) → Y i H x H' → (f y = false → ∀ H2, E H H2 → N H2) → (f y = true → ∀ v H2, E H H2 → R y v H2 → Gt v H2) →
      g x (wipe σ vs) H' fun σ2 H2 => wipe σ2 vs = wipe σ vs ∧ tt σ2 H2 fun b H3 => if b = true then te σ2 H3 Gt else N H3)
    (hd : ∀ acc H, E H1 H → H D = some (.lst acc) → Paired (fun y v => R y v H) (ys.filter f) acc → Qd H) :
    ∃ W : Nat → Nat → Hp → Prop, (∃ m, W 0 m (upd H1 D (.lst []))) ∧ ∀ i m H, W i m H →
      (J.stop i H ∧ Qd H) ∨ (J.go i H ∧ ∃ Nx : Hp → Prop, (∀ H', Nx H' → ∃ m', m' < m ∧ W (i + 1) m' H') ∧ ∀ x H', J.yld i H x H' → g x (wipe σ vs) H' fun σ2 H2 => wipe σ2 vs = wipe σ vs ∧ tt σ2 H2 fun b H3 =>
        if b = true then te σ2 H3 fun y H4 => ∃ acc, H4 D = some (.lst acc) ∧ acc.length < sizeLine ∧ Nx (upd H4 D (.lst (acc ++ [y]))) else Nx H3) := by
  refine lc_it w (fun i H => E H1 H ∧ ∃ acc, H D = some (.lst acc) ∧ acc.length ≤ i ∧ Paired (fun y v => R y v H) ((ys.take i).filter f) acc) ⟨C.new, [], upd_same, Nat.le_refl _, .nil⟩ (fun i H _ p => hG H p.1) ?_ ?_
  · rintro i x H H' hi ⟨e1, acc, hacc, hl, hp⟩ hy
    have hi' : i < ys.length := hn ▸ hi
    have et : ys.take (i + 1) = ys.take i ++ [ys[i]] := by rw [List.take_add_one, List.getElem?_eq_getElem hi']; rfl
    refine hs i ys[i] x H H' _ _ (List.getElem?_eq_getElem hi') e1 ⟨acc, hacc⟩ hy (fun hf H2 e2 => ?_) (fun hf v H2 e2 hR => ?_)
    · refine ⟨C.tr e1 e2, acc, C.keep _ _ _ e1 e2 hacc, by omega, ?_⟩
      rw [et, List.filter_append, List.filter_cons_of_neg (by rw [hf]; exact Bool.false_ne_true), List.filter_nil, List.append_nil]
      exact Paired.mapP hp fun _ _ h => up _ _ _ _ e1 e2 h
    · have h2 := C.keep _ _ _ e1 e2 hacc
      refine ⟨acc, h2, Nat.lt_of_le_of_lt hl (small1000 (by omega)), C.app _ _ _ (C.tr e1 e2) h2, acc ++ [v], upd_same, by simp; omega, ?_⟩
      rw [et, List.filter_append, List.filter_cons_of_pos hf, List.filter_nil]
      exact paired_snoc (Paired.mapP hp fun _ _ h => ap _ _ _ _ _ h2 (up _ _ _ _ e1 e2 h)) (ap _ _ _ _ _ h2 hR)
  · rintro H ⟨e1, acc, hacc, _, hp⟩
    rw [hn, List.take_length] at hp
    exact hd acc H e1 hacc hp
/-- references in pairs -/
theorem pair_refs {α : Type} {F : α → Addr → Prop} : ∀ {ys : List α} {acc : List V}, Paired (fun y v => ∃ r, v = V.ref r ∧ F y r) ys acc → ∃ rs : List Addr, acc = rs.map V.ref ∧ rs.length = ys.length ∧ Paired (fun r y => F y r) rs ys
  | _, _, .nil => ⟨[], rfl, rfl, .nil⟩
  | _, _, .cons ⟨r, h1, h2⟩ t => by
    obtain ⟨rs, e, l, p⟩ := pair_refs t
    exact ⟨r :: rs, by rw [h1, e]; rfl, by simp [l], .cons h2 p⟩
theorem paired_at2 {α β : Type} {F : α → β → Prop} : ∀ {ys : List α} {xs : List β}, Paired F ys xs → ∀ {i : Nat} {x : α}, ys[i]? = some x → ∃ y, xs[i]? = some y ∧ F x y
  | _, _, .nil, i, x, h => by simp at h
  | _, _, .cons (b := y) q t, 0, x, h => ⟨y, rfl, by simp at h; exact h ▸ q⟩
  | _, _, .cons q t, i + 1, x, h => by
    obtain ⟨y, h1, h2⟩ := paired_at2 t (i := i) (x := x) (by simpa using h)
    exact ⟨y, by simpa using h1, h2⟩
end B71

namespace B71
open PySem PySem.Spec PyProof.Rows L2 Evl RZ SrtO

def rLenS (K : PySem.W.Frag) : List V → Hp → VK → Prop := fun xs H Q => ∃ p ys, xs = [.ref p] ∧ (SqL K H p ys ∨ SqT K H p ys) ∧ Q (.int ys.length) H
/-! ### lists or tuples -/
theorem SqH.sq {K : PySem.W.Frag} {H : Hp} {a : Addr} {xs : List V} (h : SqH H a xs) : SqL K H a xs ∨ SqT K H a xs := h.elim (fun h => .inl (sq_of h)) fun h => .inr (st_of h)
def rIxQ (K : PySem.W.Frag) : R2 := fun x y H Q => ∃ p xs i v, x = .ref p ∧ y = .int i ∧ SqH H p xs ∧ atI xs i = some v ∧ Q v H
theorem ix_sq {X : Cx} : IxR X (rIxQ X.K) := by
  intro e1 e2 pins s σ H x y v u Q I rx ry h hs
  obtain ⟨p, xs, i, z, hx, hy, hq, he, q⟩ := h
  rcases hq with hq | hq
  · exact ix_list e1 e2 pins s σ H x y v u Q I rx ry ⟨p, xs, i, z, hx, hy, sq_of hq, he, q⟩ hs
  · exact ix_tup e1 e2 pins s σ H x y v u Q I rx ry ⟨p, xs, i, z, hx, hy, st_of hq, he, q⟩ hs
/-- going through a list or a tuple -/
def iSq (tl : TE) : TI := fun σ H R => tl σ H fun x H1 => ∃ a xs, x = .ref a ∧ SqH H1 a xs ∧ ∀ (J : It) (Gd : Hp → Prop), Walk J xs.length Gd (YAt xs) → (∀ H, Ex H1 H → Gd H) → R J H1
theorem pi_sq {X : Cx} {tg l : Expr} {tl : TE} (hl : PE X l tl) : PI X tg l (iSq tl) := by
  refine ⟨fun pins s σ H R I h => thn (hl.run pins s σ H _ I h) fun v s1 ⟨x, H1, I1, r1, a, xs, ex, sq, q⟩ => ?_⟩
  subst ex
  obtain rfl : v = Value.ref a := r1
  have own : ∀ b ∈ [s1.heap.objs.size], FpOk X pins H1 b := fun b hb => by
    obtain rfl := List.mem_singleton.mp hb
    exact I1.fpOk (Nat.le_refl _) I1.fresh
  have grow : ∀ o : Obj, Inv X pins σ H1 { s1 with heap := s1.heap.push o } := fun o => I1.kept (t' := s1.toks) fun b ob e => Heap.get?_push_of_some _ e
  rcases sq with sq | sq
  · obtain ⟨its, rv, pl, _⟩ := I1.list (sq_of (K := X.K) sq)
    have w := walk_list (K := X.K) (a := a) (xs := xs)
    exact wpAny_pyIter_list pl.isList ⟨s1.heap.objs.size, [s1.heap.objs.size], _, Itl X.K a, H1, rfl, grow _, turn_list a _, ⟨_, Heap.get?_push_size _ rfl, rfl, rfl⟩, own, q _ _ w fun H e => sq_of (e _ _ sq)⟩
  · obtain ⟨its, rv, pl, _⟩ := I1.tuple (st_of (K := X.K) sq)
    have w := walk_tup (K := X.K) (a := a) (xs := xs)
    exact wpAny_pyIter_tuple (show s1.heap.IsTuple a its.toArray from pl) ⟨s1.heap.objs.size, [s1.heap.objs.size], _, Itt X.K a, H1, rfl, grow _, turn_tuple a _, ⟨_, Heap.get?_push_size _ rfl, rfl, rfl⟩, own, q _ _ w fun H e => st_of (e _ _ sq)⟩
/-! ### what a nested value is -/
structure RCm (K : PySem.W.Frag) (C : Addr) : Prop where
  kD : PySem.W.kitOne K (.type "dict") (.ref C) = some false
  rL : PySem.W.kitOne K (.ref C) (.type "list") = some false
  rT : PySem.W.kitOne K (.ref C) (.type "tuple") = some false
def Tr.isI : Tr → Bool
  | .int _ => true
  | .bl _ => true
  | _ => false
def Tr.isB : Tr → Bool
  | .bl _ => true
  | _ => false
def Tr.isR : Tr → Bool
  | .rat _ _ => true
  | _ => false
def Tr.isL : Tr → Bool
  | .lst _ => true
  | _ => false
def Tr.isU : Tr → Bool
  | .tup _ => true
  | _ => false
def Tr.sq? : Tr → Option (List Tr)
  | .lst l => some l
  | .tup l => some l
  | _ => none
def Tr.isQ (t : Tr) : Bool := t.isL || t.isU
def Tr.isN (t : Tr) : Bool := (t.isI && !t.isB) || t.isR
structure TyAll (K : PySem.W.Frag) (C : Addr) (H : Hp) (v : V) (t : Tr) (ty : Value) : Prop where
  tx : TyX K H v ty
  kI : PySem.W.kitOne K ty (.type "int") = some t.isI
  kB : PySem.W.kitOne K ty (.type "bool") = some t.isB
  kR : PySem.W.kitOne K ty (.ref C) = some t.isR
  kL : PySem.W.kitOne K ty (.type "list") = some t.isL
  kT : PySem.W.kitOne K ty (.type "tuple") = some t.isU
theorem TrV.ty {K : PySem.W.Frag} {mg : Str → Option Value} {C : Addr} {H : Hp} {v : V} {t : Tr} (R : RCl K mg C) (M : RCm K C) (h : TrV C H v t) : ∃ ty, TyAll K C H v t ty := by
  cases h with
  | non => exact ⟨_, .base .non, kit_ty (r := false) (by decide +kernel), kit_ty (r := false) (by decide +kernel), R.kN, kit_ty (r := false) (by decide +kernel), kit_ty (r := false) (by decide +kernel)⟩
  | bl b => exact ⟨_, .base (.bl b), kit_ty (r := true) (by decide +kernel), kit_ty (r := true) (by decide +kernel), R.kB, kit_ty (r := false) (by decide +kernel), kit_ty (r := false) (by decide +kernel)⟩
  | int i => exact ⟨_, .base (.int i), kit_ty (r := true) (by decide +kernel), kit_ty (r := false) (by decide +kernel), R.kI, kit_ty (r := false) (by decide +kernel), kit_ty (r := false) (by decide +kernel)⟩
  | str x => exact ⟨_, .base (.str x), kit_ty (r := false) (by decide +kernel), kit_ty (r := false) (by decide +kernel), R.kS, kit_ty (r := false) (by decide +kernel), kit_ty (r := false) (by decide +kernel)⟩
  | rat h =>
    obtain ⟨dx, h⟩ := h
    exact ⟨_, R.ty h, R.rI, R.rB, kt_own, M.rL, M.rT⟩
  | lst h _ => exact ⟨_, .base (.lst h), kit_ty (r := false) (by decide +kernel), kit_ty (r := false) (by decide +kernel), R.kL, kit_ty (r := true) (by decide +kernel), kit_ty (r := false) (by decide +kernel)⟩
  | tup h _ => exact ⟨_, .base (.tup h), kit_ty (r := false) (by decide +kernel), kit_ty (r := false) (by decide +kernel), R.kT, kit_ty (r := false) (by decide +kernel), kit_ty (r := true) (by decide +kernel)⟩
  | emp h => exact ⟨_, .base (.dK h), kit_ty (r := false) (by decide +kernel), kit_ty (r := false) (by decide +kernel), M.kD, kit_ty (r := false) (by decide +kernel), kit_ty (r := false) (by decide +kernel)⟩
theorem TrV.kd {K : PySem.W.Frag} {mg : Str → Option Value} {C : Addr} {H : Hp} {v : V} {t : Tr} (R : RCl K mg C) (M : RCm K C) (h : TrV C H v t) : Kd K C H v t.isI t.isB t.isR := by
  obtain ⟨ty, z⟩ := h.ty R M
  exact ⟨ty, z.tx, z.kI, z.kB, z.kR⟩
theorem TrV.seq {C : Addr} {H : Hp} {v : V} {t : Tr} {l : List Tr} (h : TrV C H v t) (hl : t.sq? = some l) : ∃ a xs, v = .ref a ∧ SqH H a xs ∧ TrVs C H xs l := by
  cases h with
  | lst h q => cases hl; exact ⟨_, _, rfl, .inl h, q⟩
  | tup h q => cases hl; exact ⟨_, _, rfl, .inr h, q⟩
  | non => cases hl
  | bl _ => cases hl
  | int _ => cases hl
  | str _ => cases hl
  | rat _ => cases hl
  | emp _ => cases hl
theorem Tr.isQ_of {t : Tr} : t.isQ = t.sq?.isSome := by cases t <;> rfl
theorem itt {P Q : Prop} (h : P) : if true = true then P else Q := by rw [if_pos rfl]; exact h
theorem itf {P Q : Prop} (h : Q) : if false = true then P else Q := by rw [if_neg Bool.false_ne_true]; exact h
theorem kit_any2 {K : PySem.W.Frag} {t a b : Value} {x y : Bool} (h1 : PySem.W.kitOne K t a = some x) (h2 : PySem.W.kitOne K t b = some y) : PySem.W.kitAny K t [a, b] = some (x || y) := by
  unfold PySem.W.kitAny
  rw [h1]
  cases x
  · dsimp only
    unfold PySem.W.kitAny
    rw [h2]
    cases y <;> rfl
  · rfl
theorem lc_bl {α : Type} {J : It} {n : Nat} {xs : List V} {Gd : Hp → Prop} (w : Walk J n Gd (YAt xs)) {g : TG} {te : TE} {vs : List Nat} {σ : L2.St} {H1 : Hp} {D : Addr} {Qd : Hp → Prop} (hD : H1 D = none) (hG : ∀ H, Ex H1 H → Gd H) (ys : List α) (hn : n = ys.length) (hz : n ≤ 1000) (f : α → Bool)
    (hs : ∀ (i : Nat) y x H (Gt : VK), ys[i]? = some y → xs[i]? = some x → Ex H1 H → (∀ H2, Ex H H2 → Gt (.bl (f y)) H2) → g x (wipe σ vs) H fun σ2 H2 => wipe σ2 vs = wipe σ vs ∧ te σ2 H2 Gt)
    (hd : ∀ H, Ex H1 H → H D = some (.lst ((ys.map f).map V.bl)) → Qd H) :
    ∃ W : Nat → Nat → Hp → Prop, (∃ m, W 0 m (upd H1 D (.lst []))) ∧ ∀ i m H, W i m H →
      (J.stop i H ∧ Qd H) ∨ (J.go i H ∧ ∃ Nx : Hp → Prop, (∀ H', Nx H' → ∃ m', m' < m ∧ W (i + 1) m' H') ∧ ∀ x H', J.yld i H x H' → g x (wipe σ vs) H' fun σ2 H2 => wipe σ2 vs = wipe σ vs ∧ tYes σ2 H2 fun b H3 =>
        if b = true then te σ2 H3 fun y H4 => ∃ acc, H4 D = some (.lst acc) ∧ acc.length < sizeLine ∧ Nx (upd H4 D (.lst (acc ++ [y]))) else Nx H3) := by
  refine lcE w (Chg.ex hD) ys hn hz (fun _ => true) (fun y v _ => v = .bl (f y)) (fun _ _ _ _ _ _ h => h) (fun _ _ _ _ _ _ h => h) hG ?_ ?_
  · rintro i y x H H' N Gt hy e _ ⟨rfl, hx⟩ _ k
    exact hs i y x H' Gt hy hx e fun H2 e2 => k rfl _ _ e2 rfl
  · intro acc H e hD2 hacc
    rw [filter_yes] at hacc
    exact hd H e (by rw [hD2, paired_bl hacc])
theorem all_map {α : Type} (f : α → Bool) : ∀ ys : List α, (ys.map f).all id = ys.all f
  | [] => rfl
  | y :: ys => by rw [List.map_cons, List.all_cons, List.all_cons, all_map f ys]; rfl
/-! ### is_list, is_number, are_numbers of nested values -/
def spIsL (C : Addr) : Sp := fun vs H Q _ => ∃ (v : V) (t : Tr), vs = [v] ∧ TrV C H v t ∧ RetV (.bl t.isQ) H Q
def numsOk (n : Nat) (t : Tr) : Bool := match t.sq? with
  | some l => decide (l.length = n) && l.all Tr.isN
  | none => false
def spNums (C : Addr) : Sp := fun vs H Q _ => ∃ (v : V) (t : Tr) (n : Nat), vs = [v, .int n] ∧ TrV C H v t ∧ (∀ l, t.sq? = some l → l.length ≤ 1000) ∧ RetV (.bl (numsOk n t)) H Q
section
variable {P : Program} {w : World} {K : PySem.W.Frag} {mg : Str → Option Value} {base : Heap} {f C : Addr} {fd : FuncData}
theorem isi_sq {H : Hp} {p : Addr} {v : V} {t : Tr} {R : RCl K mg C} (M : RCm K C) (hp : H p = some (.tup [.ty "list", .ty "tuple"])) (h : TrV C H v t) {Q : VK} (q : Q (.bl t.isQ) H) : rIsiT K [v, .ref p] H Q := by
  obtain ⟨ty, z⟩ := h.ty R M
  exact ⟨v, p, _, ty, _, t.isQ, rfl, hp, .cons (.ty "list") (.cons (.ty "tuple") .nil), z.tx, kit_any2 z.kL z.kT, q⟩
theorem ok_is_listT (F : Fun K "is_list" "is_list" (top 11) f fd) (R : RCl K mg C) (M : RCm K C) (T : Tx mg) : FnOk P w K mg base CX0 1 f fd ["value"] (spIsL C) := by
  have sc := sc_is_list
  refine F.ok sc (fun vs H Q E h => ?_) (fun cdv A outer s H vs Q E hr h => ?_)
  · obtain ⟨i, _, rfl, _⟩ := h; rfl
  obtain ⟨v, t, rfl, ht, q⟩ := h
  refine ⟨_, (pss_one (ps_ret (pe_callB call_isiT rfl T.b_isinstance bt_isinstance (pa_cons (pv 0) (pa_cons (pe_tup (pa_cons (pe_bltn (v := .ty "list") rfl T.b_list bt_list rfl) (pa_cons (pe_bltn (v := .ty "tuple") rfl T.b_tuple bt_tuple rfl) pa_nil))) pa_nil))))), ?_⟩
  refine ⟨_, rfl, (by show 2 ≤ sizeLine; decide), fun p hp => ?_⟩
  have e1 : Ex H (upd H p (.tup [.ty "list", .ty "tuple"])) := Ex.new hp
  exact isi_sq (R := R) M upd_same (TrV.up e1 _ _ ht) (q _ e1)
theorem sc_are_numbers : FnScope ["value", "wide", "number"] ["value", "wide"] (defScope (top 22)) := ⟨rfl, rfl, rfl, by decide +kernel, rfl, by decide +kernel, by decide +kernel⟩
theorem ok_are_numbers (F : Fun K "are_numbers" "are_numbers" (top 22) f fd) (R : RCl K mg C) (M : RCm K C) (T : Tx mg) (C_is_list : ClO P w K mg base "is_list" 1 ["value"] (spIsL C)) (C_is_number : ClO P w K mg base "is_number" 2 ["value"] (spIsN K C)) : FnOk P w K mg base CX0 3 f fd ["value", "wide"] (spNums C) := by
  have sc := sc_are_numbers
  refine F.ok sc (fun vs H Q E h => ?_) (fun cdv A outer s H vs Q E hr h => ?_)
  · obtain ⟨_, _, _, rfl, _⟩ := h; rfl
  obtain ⟨v, t, n, rfl, ht, lim, q⟩ := h
  refine ⟨_, (pss_one (ps_ret (pe_and (pe_clo C_is_list (hr.mono (by first | decide | omega)) (pa_cons (pv 0) pa_nil)) (pe_and (pe_cmpR op_eq (pe_callB call_len_seq rfl T.b_len bt_len (pa_cons (pv 0) pa_nil)) (pv 1) (nomark _)) (pe_one (pe_callB (cr_all rfl) rfl T.b_all bt_all (pa_cons (pe_lc (own := [("number", 2)]) (g := (gName 2)) rfl sc.nd (pi_sq (pv 0)) (blkOk_by (N := ["value", "wide", "number"]) (sc := defScope ((top 22))) (by decide +kernel)) (fun _ _ _ _ _ => (pg_name (i := 2) sc.nd rfl (Or.inl rfl))) (fun _ _ _ _ _ => pts_nil) (fun _ _ _ _ _ => (pe_clo C_is_number (hr.mono (by first | decide | omega)) (pa_cons (pv 2) pa_nil)))) pa_nil))))))), ?_⟩
  refine ⟨_, rfl, v, t, rfl, ht, fun H1 e1 => ⟨_, rfl, ?_⟩⟩
  rw [Tr.isQ_of]
  unfold numsOk at q
  cases hs : t.sq? with
  | none =>
    rw [hs] at q
    exact q _ e1
  | some l =>
    rw [hs] at q
    dsimp only at q
    obtain ⟨a, xs, rfl, sq, tv⟩ := (TrV.up e1 _ _ ht).seq hs
    refine itt ?_
    refine ⟨_, rfl, a, xs, rfl, sq.sq, _, rfl, rfl, _, rfl, ?_⟩
    have hln : (decide (V.int (xs.length : Nat) = V.int n)) = decide (l.length = n) := by
      rw [tv.len]
      exact decide_eq_decide.mpr ⟨fun z => by injection z with z; omega, fun z => by rw [z]⟩
    rw [hln]
    cases hd : decide (l.length = n) with
    | false =>
      rw [hd] at q
      exact itf (q _ e1)
    | true =>
      rw [hd, Bool.true_and] at q
      refine itt ?_
      refine ⟨_, rfl, a, xs, rfl, sq, fun J Gd wk hG D hD => lc_bl wk hD hG l tv.len.symm (by rw [← tv.len]; exact lim l hs) Tr.isN ?_ ?_⟩
      · rintro i y x H4 Gt hy hx e4 k
        obtain ⟨y', hy', hv⟩ := tv.at_ hx
        cases hy.symm.trans hy'
        exact ⟨rfl, _, rfl, x, _, _, _, rfl, (TrV.up e4 _ _ hv).kd R M, fun H5 e5 => k _ e5⟩
      · intro H4 e4 hD4
        refine ⟨D, l.map Tr.isN, rfl, sq_of hD4, ?_⟩
        rw [all_map]
        exact q _ (e1.trans e4)
end
end B71

namespace B71
open PySem PySem.Spec PyProof.Rows L2 Evl RZ SrtO

mutual
def Tr.Good : Tr → Prop
  | .int i => i.natAbs < 10 ^ 50
  | .str x => (reprText x).length ≤ 100
  | .rat t b => Bt 150 t ∧ Bt 150 b ∧ 0 < b
  | .lst l => GoodAll l
  | .tup l => GoodAll l
  | .non => True
  | .bl _ => True
  | .emp => True
def GoodAll : List Tr → Prop
  | [] => True
  | t :: l => t.Good ∧ GoodAll l
end
mutual
def Tr.cnt : Tr → Nat
  | .lst l => cntAll l + 1
  | .tup l => cntAll l + 1
  | .non => 1
  | .bl _ => 1
  | .int _ => 1
  | .str _ => 1
  | .rat _ _ => 1
  | .emp => 1
def cntAll : List Tr → Nat
  | [] => 0
  | t :: l => t.cnt + cntAll l
end
theorem cnt_pos : ∀ t : Tr, 1 ≤ t.cnt
  | .lst l => by rw [Tr.cnt]; omega
  | .tup l => by rw [Tr.cnt]; omega
  | .non => Nat.le_refl _
  | .bl _ => Nat.le_refl _
  | .int _ => Nat.le_refl _
  | .str _ => Nat.le_refl _
  | .rat _ _ => Nat.le_refl _
  | .emp => Nat.le_refl _
theorem len_cnt : ∀ l : List Tr, l.length ≤ cntAll l
  | [] => Nat.le_refl _
  | t :: l => by
    rw [List.length_cons, cntAll]
    have := cnt_pos t
    have := len_cnt l
    omega
theorem cnt_mem : ∀ {l : List Tr} {t : Tr}, t ∈ l → t.cnt ≤ cntAll l
  | [], _, h => nomatch h
  | x :: l, t, h => by
    rw [cntAll]
    rcases List.mem_cons.mp h with rfl | h
    · omega
    · have := cnt_mem h
      omega
theorem sq_cnt {t : Tr} {l : List Tr} (h : t.sq? = some l) : cntAll l + 1 ≤ t.cnt := by
  cases t <;> first | (cases h; rw [Tr.cnt]; omega) | cases h
theorem good_mem : ∀ {l : List Tr} {t : Tr}, GoodAll l → t ∈ l → t.Good
  | [], _, _, h => nomatch h
  | x :: l, t, g, h => by
    rw [GoodAll] at g
    rcases List.mem_cons.mp h with rfl | h
    · exact g.1
    · exact good_mem g.2 h
theorem len_of {t : Tr} {l : List Tr} {n : Nat} (h : t.sq? = some l) (k : t.cnt ≤ n) : l.length ≤ n := by
  have := len_cnt l
  have := sq_cnt h
  omega
theorem b190 {x : Int} (h : Bt 150 x) : Bt 190 x := h.mono (by decide)
mutual
theorem good_fit : ∀ t : Tr, t.Good → t.Fit
  | .int i, h => by
    rw [Tr.Good] at h
    rw [Tr.Fit]
    exact Nat.lt_trans (Bt.log (n := 190) (x := i) (Nat.lt_of_lt_of_le h (by decide +kernel)) (by decide)) (by decide)
  | .str x, h => by
    rw [Tr.Good] at h
    rw [Tr.Fit, sizeLine_eq]
    omega
  | .rat t b, h => by
    rw [Tr.Good] at h
    rw [Tr.Fit]
    exact ⟨b190 h.1, b190 h.2.1⟩
  | .lst l, h => by
    rw [Tr.Good] at h
    rw [Tr.Fit]
    exact good_fits l h
  | .tup l, h => by
    rw [Tr.Good] at h
    rw [Tr.Fit]
    exact good_fits l h
  | .non, _ => by rw [Tr.Fit]; trivial
  | .bl _, _ => by rw [Tr.Fit]; trivial
  | .emp, _ => by rw [Tr.Fit]; trivial
theorem good_fits : ∀ l : List Tr, GoodAll l → FitAll l
  | [], _ => by rw [FitAll]; trivial
  | t :: l, h => by
    rw [GoodAll] at h
    rw [FitAll]
    exact ⟨good_fit t h.1, good_fits l h.2⟩
end
theorem list_text_le (ts : List Str) : (listText ts).length ≤ piled ts + 2 := by
  cases ts with
  | nil => decide
  | cons t r =>
    have h := textFrom_length_pos r 1 (("[" : Str) ++ (if (0 : Nat) > 0 then ", " else "" : String) ++ t) (Nat.succ_pos 0)
    have e : ((("[" : Str) ++ (if (0 : Nat) > 0 then ", " else "" : String) ++ t)).length = 1 + t.length := by
      rw [strLen_append, strLen_append]; rfl
    have a : (listText (t :: r)).length = (textFrom 1 (("[" : Str) ++ (if (0 : Nat) > 0 then ", " else "" : String) ++ t) r).length + 1 := by
      show (textFrom 0 "[" (t :: r) ++ "]").length = _
      rw [strLen_append]; rfl
    rw [a, h, e, piled_cons]
    omega
theorem tup_text_le (ts : List Str) : (tupleText ts).length ≤ piled ts + 3 := by
  unfold tupleText
  rw [strLen_append, strLen_append]
  have e1 : ((("(" : String) : Str)).length = 1 := rfl
  have e3 : (((if ts.length == 1 then ",)" else ")" : String) : Str)).length ≤ 2 := by split <;> decide
  rw [e1]
  by_cases h : ts = []
  · subst h
    have : (Str.join ", " ([] : List Str)).length = 0 := rfl
    omega
  · have := join_length_add ts h
    omega
theorem bool_text (b : Bool) : (Tr.text (.bl b)).length ≤ 5 := by cases b <;> decide
mutual
theorem text_le : ∀ t : Tr, t.Good → t.text.length + 6 ≤ 150 * t.cnt
  | .int i, h => by
    rw [Tr.Good] at h
    have := tI_len (n := i) (Nat.lt_of_lt_of_le h (by decide +kernel))
    show (tI i).length + 6 ≤ 150 * 1
    omega
  | .str x, h => by
    rw [Tr.Good] at h
    rw [Tr.text]
    show _ ≤ 150 * 1
    omega
  | .rat t b, h => by
    rw [Tr.Good] at h
    have l1 := tI_len (n := t) (bt190 (b190 h.1))
    have l2 := tI_len (n := b) (bt190 (b190 h.2.1))
    have k1 : (Str.ofString "Ratio(").length = 6 := rfl
    have k2 : (Str.ofString ", ").length = 2 := rfl
    have k3 : (Str.ofString ")").length = 1 := rfl
    show (Str.ofString "Ratio(" ++ tI t ++ Str.ofString ", " ++ tI b ++ Str.ofString ")").length + 6 ≤ 150 * 1
    simp only [Str.length_append]
    omega
  | .lst l, h => by
    rw [Tr.Good] at h
    have := texts_le l h
    have := list_text_le (textAll l)
    rw [Tr.text, Tr.cnt]
    omega
  | .tup l, h => by
    rw [Tr.Good] at h
    have := texts_le l h
    have := tup_text_le (textAll l)
    rw [Tr.text, Tr.cnt]
    omega
  | .non, _ => by decide
  | .bl b, _ => by
    have := bool_text b
    show _ ≤ 150 * 1
    omega
  | .emp, _ => by decide
theorem texts_le : ∀ l : List Tr, GoodAll l → piled (textAll l) ≤ 150 * cntAll l
  | [], _ => by decide
  | t :: l, h => by
    rw [GoodAll] at h
    have a := text_le t h.1
    have b := texts_le l h.2
    have c := cnt_pos t
    rw [textAll, piled_cons, cntAll]
    omega
end
end B71

namespace B71
open PySem PySem.Spec PyProof.Rows L2 Evl RZ SrtO

/-- a table of numbers, of at most n rows and columns -/
def isTab (n : Nat) (t : Tr) : Bool := match t.sq? with
  | none => false
  | some [] => false
  | some (x :: l) => decide (l.length + 1 ≤ n) && match x.sq? with
    | none => false
    | some r => decide (1 ≤ r.length) && decide (r.length ≤ n) && (x :: l).all (numsOk r.length)
def spTab (C : Addr) (n : Nat) : Sp := fun vs H Q _ => ∃ (v : V) (t : Tr), vs = [v] ∧ TrV C H v t ∧ t.cnt ≤ 1000 ∧ RetV (.bl (isTab n t)) H Q
theorem at00 {v : V} {xs : List V} : atI (v :: xs) 0 = some v := atI_nat (j := 0) rfl
section
variable {P : Program} {w : World} {K : PySem.W.Frag} {mg : Str → Option Value} {base : Heap} {f C : Addr} {fd : FuncData}
theorem sc_is_table : FnScope ["value", "row"] ["value"] (defScope (top 43)) := ⟨rfl, rfl, rfl, by decide +kernel, rfl, by decide +kernel, by decide +kernel⟩
theorem ok_is_table (F : Fun K "is_table" "is_table" (top 43) f fd) (R : RCl K mg C) (M : RCm K C) (T : Tx mg) {tT : Tok} (mT : mg "MOST_TABLE" = some (.int 96 tT)) (C_is_list : ClO P w K mg base "is_list" 1 ["value"] (spIsL C)) (C_are_numbers : ClO P w K mg base "are_numbers" 3 ["value", "wide"] (spNums C)) : FnOk P w K mg base CX0 4 f fd ["value"] (spTab C 96) := by
  have sc := sc_is_table
  refine F.ok sc (fun vs H Q E h => ?_) (fun cdv A outer s H vs Q E hr h => ?_)
  · obtain ⟨_, _, rfl, _⟩ := h; rfl
  obtain ⟨v, t, rfl, ht, cn, q⟩ := h
  refine ⟨_, (pss_cons (ps_if (PW.pt (pw_or (pt_not (pt_val (pe_clo C_is_list (hr.mono (by first | decide | omega)) (pa_cons (pv 0) pa_nil)))) (pw_or1 (pt_not (pt_chain op_le op_le pe_int (pe_callB call_len_seq rfl T.b_len bt_len (pa_cons (pv 0) pa_nil)) (pe_glob (v := .int 96) rfl mT ⟨_, rfl⟩)))))) (pss_one (ps_ret pe_bl)) pss_nil) (pss_cons (ps_if (PW.pt (pw_or (pt_not (pt_val (pe_clo C_is_list (hr.mono (by first | decide | omega)) (pa_cons (pe_ix ix_sq (pv 0) pe_int (fun _ _ => rfl)) pa_nil)))) (pw_or1 (pt_not (pt_chain op_le op_le pe_int (pe_callB call_len_seq rfl T.b_len bt_len (pa_cons (pe_ix ix_sq (pv 0) pe_int (fun _ _ => rfl)) pa_nil)) (pe_glob (v := .int 96) rfl mT ⟨_, rfl⟩)))))) (pss_one (ps_ret pe_bl)) pss_nil) (pss_one (ps_ret (pe_callB (cr_all rfl) rfl T.b_all bt_all (pa_cons (pe_lc (own := [("row", 1)]) (g := (gName 1)) rfl sc.nd (pi_sq (pv 0)) (blkOk_by (N := ["value", "row"]) (sc := defScope ((top 43))) (by decide +kernel)) (fun _ _ _ _ _ => (pg_name (i := 1) sc.nd rfl (Or.inl rfl))) (fun _ _ _ _ _ => pts_nil) (fun _ _ _ _ _ => (pe_clo C_are_numbers (hr.mono (by first | decide | omega)) (pa_cons (pv 1) (pa_cons (pe_callB (show CallR _ _ (rLenS K) from call_len_seq) rfl T.b_len bt_len (pa_cons (pe_ix (show IxR _ (rIxQ K) from ix_sq) (pv 0) pe_int (fun _ _ => rfl)) pa_nil)) pa_nil))))) pa_nil)))))), ?_⟩
  refine ⟨_, rfl, v, t, rfl, ht, fun H1 e1 => ⟨_, rfl, ?_⟩⟩
  rw [Tr.isQ_of]
  unfold isTab at q
  cases hs : t.sq? with
  | none =>
    rw [hs] at q
    refine itt ?_
    exact q _ e1
  | some l =>
    rw [hs] at q
    refine itf ?_
    obtain ⟨a, xs, rfl, sq, tv⟩ := (TrV.up e1 _ _ ht).seq hs
    have ln := tv.len
    have lim := len_of hs cn
    refine ⟨_, rfl, a, xs, rfl, sq.sq, _, _, rfl, rfl, _, rfl, ?_⟩
    cases l with
    | nil =>
      rw [decide_eq_false (by rw [← ln]; decide)]
      refine itf ⟨_, rfl, ?_⟩
      refine itt ?_
      exact q _ e1
    | cons x0 l =>
      rw [decide_eq_true (by rw [← ln, List.length_cons]; omega)]
      refine itt ⟨_, _, rfl, rfl, _, rfl, ?_⟩
      dsimp only at q
      by_cases c1 : l.length + 1 ≤ 96
      · rw [decide_eq_true (by rw [← ln, List.length_cons]; omega)]
        rw [decide_eq_true c1, Bool.true_and] at q
        refine itf ?_
        cases tv with
        | cons hx0 tv' =>
        rename_i v0 xs'
        have tv2 : TrVs C H1 (v0 :: xs') (x0 :: l) := .cons hx0 tv'
        refine ⟨_, rfl, a, _, 0, v0, rfl, rfl, sq, at00, v0, x0, rfl, hx0, fun H2 e2 => ⟨_, rfl, ?_⟩⟩
        rw [Tr.isQ_of]
        have sq2 : SqH H2 a (v0 :: xs') := sq.up e2
        cases hs0 : x0.sq? with
        | none =>
          rw [hs0] at q
          refine itt ?_
          exact q _ (e1.trans e2)
        | some r =>
          rw [hs0] at q
          dsimp only at q
          refine itf ?_
          obtain ⟨a0, ys, rfl, sq0, tv0⟩ := (TrV.up e2 _ _ hx0).seq hs0
          have ln0 := tv0.len
          refine ⟨_, rfl, a, _, 0, .ref a0, rfl, rfl, sq2, at00, a0, ys, rfl, sq0.sq, _, _, rfl, rfl, _, rfl, ?_⟩
          by_cases c2 : 1 ≤ r.length
          · rw [decide_eq_true (by rw [← ln0]; omega)]
            rw [decide_eq_true c2, Bool.true_and] at q
            refine itt ⟨_, _, rfl, rfl, _, rfl, ?_⟩
            by_cases c3 : r.length ≤ 96
            · rw [decide_eq_true (by rw [← ln0]; omega)]
              rw [decide_eq_true c3, Bool.true_and] at q
              refine itf ?_
              refine ⟨_, rfl, a, _, rfl, sq2, fun J Gd wk hG D hD => lc_bl wk hD hG (x0 :: l) tv2.len.symm (by rw [← tv2.len]; exact lim) (numsOk r.length) ?_ ?_⟩
              · rintro i y x H4 Gt hy hx e4 k
                have tv3 := TrVs.up (e2.trans e4) _ _ tv2
                obtain ⟨y', hy', hv⟩ := tv3.at_ hx
                cases hy.symm.trans hy'
                have my := cnt_mem (List.mem_of_getElem? hy)
                have mt := sq_cnt hs
                refine ⟨rfl, _, rfl, _, rfl, a, _, 0, .ref a0, rfl, rfl, sq2.up e4, at00, a0, ys, rfl, (sq0.up e4).sq, x, y, r.length, by rw [ln0], hv, fun l2 h2 => len_of h2 (by omega), fun H5 e5 => k _ e5⟩
              · intro H4 e4 hD4
                refine ⟨D, _, rfl, sq_of hD4, ?_⟩
                rw [all_map]
                exact q _ (e1.trans (e2.trans e4))
            · rw [decide_eq_false (by rw [← ln0]; omega)]
              rw [decide_eq_false c3, Bool.false_and] at q
              refine itt ?_
              exact q _ (e1.trans e2)
          · rw [decide_eq_false (by rw [← ln0]; omega)]
            rw [decide_eq_false c2, Bool.false_and, Bool.false_and] at q
            refine itf ⟨_, rfl, ?_⟩
            refine itt ?_
            exact q _ (e1.trans e2)
      · rw [decide_eq_false (by rw [← ln, List.length_cons]; omega)]
        rw [decide_eq_false c1, Bool.false_and] at q
        refine itt ?_
        exact q _ e1
end
end B71

namespace B71
open PySem PySem.Spec PyProof.Rows L2 Evl RZ SrtO

def Tr.rows (t : Tr) : List Tr := t.sq?.getD []
def rowB (n : Nat) (t : Tr) : Bool := match t.sq? with
  | none => false
  | some r => decide (1 ≤ r.length) && decide (r.length ≤ n)
theorem isTab_law {n : Nat} {t x0 : Tr} {l : List Tr} (hs : t.sq? = some (x0 :: l)) :
    isTab n t = (decide (l.length + 1 ≤ n) && ((x0 :: l).all (rowB n) && ((x0 :: l).all (fun x => decide (x.rows.length = x0.rows.length)) && (x0 :: l).all fun x => x.rows.all Tr.isN))) := by
  have key : ∀ r, x0.sq? = some r → ((decide (1 ≤ r.length) && decide (r.length ≤ n) && (x0 :: l).all (numsOk r.length)) = true ↔ ((x0 :: l).all (rowB n) && ((x0 :: l).all (fun x => decide (x.rows.length = x0.rows.length)) && (x0 :: l).all fun x => x.rows.all Tr.isN)) = true) := by
    intro r h0
    have e0 : x0.rows = r := by unfold Tr.rows; rw [h0]; rfl
    rw [e0, Bool.and_eq_true, Bool.and_eq_true, Bool.and_eq_true, Bool.and_eq_true, List.all_eq_true, List.all_eq_true, List.all_eq_true, List.all_eq_true, decide_eq_true_eq, decide_eq_true_eq]
    constructor
    · rintro ⟨⟨h1, h2⟩, h3⟩
      have each : ∀ x ∈ x0 :: l, ∃ q, x.sq? = some q ∧ q.length = r.length ∧ q.all Tr.isN = true := fun x hx => by
        have z := h3 x hx
        unfold numsOk at z
        cases hq : x.sq? with
        | none => rw [hq] at z; cases z
        | some q =>
          rw [hq] at z
          rw [Bool.and_eq_true, decide_eq_true_eq] at z
          exact ⟨q, rfl, z.1, z.2⟩
      refine ⟨fun x hx => ?_, fun x hx => ?_, fun x hx => ?_⟩
      · obtain ⟨q, e, e2, _⟩ := each x hx
        unfold rowB
        rw [e]
        simp only [Bool.and_eq_true, decide_eq_true_eq]
        omega
      · obtain ⟨q, e, e2, _⟩ := each x hx
        rw [decide_eq_true_eq]
        unfold Tr.rows
        rw [e]
        exact e2
      · obtain ⟨q, e, _, e3⟩ := each x hx
        unfold Tr.rows
        rw [e]
        exact e3
    · rintro ⟨h1, h2, h3⟩
      have z0 := h1 x0 List.mem_cons_self
      unfold rowB at z0
      rw [h0] at z0
      simp only [Bool.and_eq_true, decide_eq_true_eq] at z0
      refine ⟨z0, fun x hx => ?_⟩
      have z1 := h1 x hx
      have z2 := h2 x hx
      have z3 := h3 x hx
      unfold rowB at z1
      unfold numsOk
      rw [decide_eq_true_eq] at z2
      unfold Tr.rows at z2 z3
      cases hq : x.sq? with
      | none => rw [hq] at z1; cases z1
      | some q =>
        rw [hq] at z2 z3
        simp only [Bool.and_eq_true, decide_eq_true_eq]
        exact ⟨z2, z3⟩
  unfold isTab
  rw [hs]
  dsimp only
  cases h0 : x0.sq? with
  | none =>
    have z : (x0 :: l).all (rowB n) = false := by
      rw [List.all_cons]
      unfold rowB
      rw [h0]
      rfl
    rw [z]
    simp
  | some r =>
    congr 1
    exact Bool.eq_iff_iff.mpr (key r h0)
def spLN (C : Addr) : Sp := fun vs H Q _ => ∃ (v : V) (t : Tr), vs = [v] ∧ TrV C H v t ∧ RetV (.bl t.isN) H Q
def spLTab (C : Addr) : Sp := fun vs H Q _ => ∃ (v : V) (t : Tr) (n : Nat), vs = [v, .int n] ∧ TrV C H v t ∧ t.cnt ≤ 1000 ∧ RetV (.bl (isTab n t)) H Q
section
variable {P : Program} {w : World} {K : PySem.W.Frag} {mg : Str → Option Value} {base : Heap} {f C : Addr} {fd : FuncData}
theorem sc__law_is_number : FnScope ["value"] ["value"] (defScope (top 50)) := ⟨rfl, rfl, rfl, by decide +kernel, rfl, by decide +kernel, by decide +kernel⟩
theorem ok_law_is_number (F : Fun K "_law_is_number" "_law_is_number" (top 50) f fd) (R : RCl K mg C) (M : RCm K C) (T : Tx mg) : FnOk P w K mg base CX0 1 f fd ["value"] (spLN C) := by
  have sc := sc__law_is_number
  refine F.ok sc (fun vs H Q E h => ?_) (fun cdv A outer s H vs Q E hr h => ?_)
  · obtain ⟨_, _, rfl, _⟩ := h; rfl
  obtain ⟨v, t, rfl, ht, q⟩ := h
  obtain ⟨ty, z⟩ := ht.ty R M
  refine ⟨_, (pss_one (ps_ret (pe_or (pe_callB call_isi rfl T.b_isinstance bt_isinstance (pa_cons (pv 0) (pa_cons (pe_glob (v := .ref C) rfl R.mgC rfl) pa_nil))) (pe_one (pe_and (pe_callB call_isi rfl T.b_isinstance bt_isinstance (pa_cons (pv 0) (pa_cons (pe_bltn (v := .ty "int") rfl T.b_int bt_int rfl) pa_nil))) (pe_one (pe_not (pe_callB call_isi rfl T.b_isinstance bt_isinstance (pa_cons (pv 0) (pa_cons (pe_bltn (v := .ty "bool") rfl T.b_bool bt_bool rfl) pa_nil)))))))))), ?_⟩
  refine ⟨_, rfl, v, _, ty, _, _, rfl, .own C, z.tx, z.kR, _, rfl, ?_⟩
  have fin := q _ (Ex.refl _)
  unfold Tr.isN at fin
  cases h1 : t.isR with
  | true =>
    rw [h1, Bool.or_true] at fin
    exact itt fin
  | false =>
    rw [h1, Bool.or_false] at fin
    refine itf ?_
    refine ⟨_, rfl, v, _, ty, _, _, rfl, .ty "int", z.tx, z.kI, _, rfl, ?_⟩
    cases h2 : t.isI with
    | false =>
      rw [h2, Bool.false_and] at fin
      exact itf fin
    | true =>
      rw [h2, Bool.true_and] at fin
      refine itt ?_
      exact ⟨_, rfl, v, _, ty, _, _, rfl, .ty "bool", z.tx, z.kB, _, rfl, fin⟩
theorem sc__law_is_table : FnScope ["value", "most", "row", "number"] ["value", "most"] (defScope (top 51)) := ⟨rfl, rfl, rfl, by decide +kernel, rfl, by decide +kernel, by decide +kernel⟩
theorem ok_law_is_table (F : Fun K "_law_is_table" "_law_is_table" (top 51) f fd) (R : RCl K mg C) (M : RCm K C) (T : Tx mg) (C__law_is_number : ClO P w K mg base "_law_is_number" 1 ["value"] (spLN C)) : FnOk P w K mg base CX0 2 f fd ["value", "most"] (spLTab C) := by
  have sc := sc__law_is_table
  refine F.ok sc (fun vs H Q E h => ?_) (fun cdv A outer s H vs Q E hr h => ?_)
  · obtain ⟨_, _, _, rfl, _⟩ := h; rfl
  obtain ⟨v, t, n, rfl, ht, cn, q⟩ := h
  refine ⟨_, (pss_cons (ps_if (PW.pt (pw_or (pt_not (pt_val (pe_callB call_isiT rfl T.b_isinstance bt_isinstance (pa_cons (pv 0) (pa_cons (pe_tup (pa_cons (pe_bltn (v := .ty "list") rfl T.b_list bt_list rfl) (pa_cons (pe_bltn (v := .ty "tuple") rfl T.b_tuple bt_tuple rfl) pa_nil))) pa_nil))))) (pw_or1 (pt_not (pt_chain op_le op_le pe_int (pe_callB call_len_seq rfl T.b_len bt_len (pa_cons (pv 0) pa_nil)) (pv 1)))))) (pss_one (ps_ret pe_bl)) pss_nil) (pss_cons (ps_if (pt_not (pt_val (pe_callB (cr_all rfl) rfl T.b_all bt_all (pa_cons (pe_lc (own := [("row", 2)]) (g := (gName 2)) rfl sc.nd (pi_sq (pv 0)) (blkOk_by (N := ["value", "most", "row", "number"]) (sc := defScope ((top 51))) (by decide +kernel)) (fun _ _ _ _ _ => (pg_name (i := 2) sc.nd rfl (Or.inl rfl))) (fun _ _ _ _ _ => pts_nil) (fun _ _ _ _ _ => (pe_and (pe_callB (show CallR _ _ (rIsiT K) from call_isiT) rfl T.b_isinstance bt_isinstance (pa_cons (pv 2) (pa_cons (pe_tup (pa_cons (pe_bltn (v := .ty "list") rfl T.b_list bt_list rfl) (pa_cons (pe_bltn (v := .ty "tuple") rfl T.b_tuple bt_tuple rfl) pa_nil))) pa_nil))) (pe_one (pe_chain op_le op_le pe_int (pe_callB (show CallR _ _ (rLenS K) from call_len_seq) rfl T.b_len bt_len (pa_cons (pv 2) pa_nil)) (pv 1)))))) pa_nil)))) (pss_one (ps_ret pe_bl)) pss_nil) (pss_cons (ps_if (pt_not (pt_val (pe_callB (cr_all rfl) rfl T.b_all bt_all (pa_cons (pe_lc (own := [("row", 2)]) (g := (gName 2)) rfl sc.nd (pi_sq (pv 0)) (blkOk_by (N := ["value", "most", "row", "number"]) (sc := defScope ((top 51))) (by decide +kernel)) (fun _ _ _ _ _ => (pg_name (i := 2) sc.nd rfl (Or.inl rfl))) (fun _ _ _ _ _ => pts_nil) (fun _ _ _ _ _ => (pe_cmpR op_eq (pe_callB (show CallR _ _ (rLenS K) from call_len_seq) rfl T.b_len bt_len (pa_cons (pv 2) pa_nil)) (pe_callB (show CallR _ _ (rLenS K) from call_len_seq) rfl T.b_len bt_len (pa_cons (pe_ix (show IxR _ (rIxQ K) from ix_sq) (pv 0) pe_int (fun _ _ => rfl)) pa_nil)) (nomark _)))) pa_nil)))) (pss_one (ps_ret pe_bl)) pss_nil) (pss_one (ps_ret (pe_callB (cr_all rfl) rfl T.b_all bt_all (pa_cons (pe_lc (own := [("row", 2)]) (g := (gName 2)) rfl sc.nd (pi_sq (pv 0)) (blkOk_by (N := ["value", "most", "row", "number"]) (sc := defScope ((top 51))) (by decide +kernel)) (fun _ _ _ _ _ => (pg_name (i := 2) sc.nd rfl (Or.inl rfl))) (fun _ _ _ _ _ => pts_nil) (fun _ _ _ _ _ => (pe_callB (show CallR _ _ (rAll K) from (cr_all rfl)) rfl T.b_all bt_all (pa_cons (pe_lc (own := [("number", 3)]) (g := (gName 3)) rfl sc.nd (pi_sq (pv 2)) (blkOk_by (N := ["value", "most", "row", "number"]) (by kernel_rfl)) (fun _ _ _ _ _ => (pg_name (i := 3) sc.nd rfl (Or.inl rfl))) (fun _ _ _ _ _ => pts_nil) (fun _ _ _ _ _ => (pe_clo C__law_is_number (hr.mono (by first | decide | omega)) (pa_cons (pv 3) pa_nil)))) pa_nil)))) pa_nil))))))), ?_⟩
  refine ⟨_, rfl, (by show 2 ≤ sizeLine; decide), fun p hp => ?_⟩
  have e1 : Ex H (upd H p (.tup [.ty "list", .ty "tuple"])) := Ex.new hp
  obtain ⟨ty, z⟩ := (TrV.up e1 _ _ ht).ty R M
  refine ⟨v, p, _, ty, _, t.isQ, rfl, upd_same, .cons (.ty "list") (.cons (.ty "tuple") .nil), z.tx, kit_any2 z.kL z.kT, _, rfl, ?_⟩
  clear z
  generalize upd H p (.tup [.ty "list", .ty "tuple"]) = H1 at e1
  rw [Tr.isQ_of]
  cases hs : t.sq? with
  | none =>
    unfold isTab at q
    rw [hs] at q
    exact itt (q _ e1)
  | some l =>
    refine itf ?_
    obtain ⟨a, xs, rfl, sq, tv⟩ := (TrV.up e1 _ _ ht).seq hs
    have ln := tv.len
    have lim := len_of hs cn
    have mt := sq_cnt hs
    refine ⟨_, rfl, a, xs, rfl, sq.sq, _, _, rfl, rfl, _, rfl, ?_⟩
    cases l with
    | nil =>
      unfold isTab at q
      rw [hs] at q
      rw [decide_eq_false (by rw [← ln]; decide)]
      exact itf ⟨_, rfl, itt (q _ e1)⟩
    | cons x0 l =>
      rw [isTab_law hs] at q
      rw [decide_eq_true (by rw [← ln, List.length_cons]; omega)]
      refine itt ⟨_, rfl, _, _, rfl, rfl, _, rfl, ?_⟩
      by_cases c1 : l.length + 1 ≤ n
      · rw [decide_eq_true (by rw [← ln, List.length_cons]; omega)]
        rw [decide_eq_true c1, Bool.true_and] at q
        refine itf ?_
        refine ⟨_, rfl, a, xs, rfl, sq, fun J Gd wk hG D hD => lc_bl wk hD hG (x0 :: l) ln.symm (by rw [← ln]; exact lim) (rowB n) ?_ ?_⟩
        · rintro i y x H4 Gt hy hx e4 k
          obtain ⟨y', hy', hv⟩ := (TrVs.up e4 _ _ tv).at_ hx
          cases hy.symm.trans hy'
          have my := cnt_mem (List.mem_of_getElem? hy)
          refine ⟨rfl, ?_⟩
          refine ⟨_, rfl, (by show 2 ≤ sizeLine; decide), fun p2 hp2 => ?_⟩
          have e5 : Ex H4 (upd H4 p2 (.tup [.ty "list", .ty "tuple"])) := Ex.new hp2
          obtain ⟨ty, z⟩ := (TrV.up e5 _ _ hv).ty R M
          refine ⟨x, p2, _, ty, _, y.isQ, rfl, upd_same, .cons (.ty "list") (.cons (.ty "tuple") .nil), z.tx, kit_any2 z.kL z.kT, _, rfl, ?_⟩
          clear z
          generalize upd H4 p2 (.tup [.ty "list", .ty "tuple"]) = H5 at e5
          rw [Tr.isQ_of]
          unfold rowB at k
          cases hy0 : y.sq? with
          | none =>
            rw [hy0] at k
            exact itf (k _ e5)
          | some r =>
            rw [hy0] at k
            dsimp only at k
            refine itt ?_
            obtain ⟨b, ys, rfl, sq5, tv5⟩ := (TrV.up e5 _ _ hv).seq hy0
            have ln5 := tv5.len
            refine ⟨_, rfl, b, ys, rfl, sq5.sq, _, _, rfl, rfl, _, rfl, ?_⟩
            by_cases c2 : 1 ≤ r.length
            · rw [decide_eq_true c2, Bool.true_and] at k
              rw [decide_eq_true (by rw [← ln5]; omega)]
              refine itt ⟨_, rfl, _, _, rfl, rfl, ?_⟩
              have z := k _ e5
              rw [show decide (r.length ≤ n) = decide ((ys.length : Int) ≤ (n : Int)) from decide_eq_decide.mpr (by rw [← ln5]; omega)] at z
              exact z
            · rw [decide_eq_false c2, Bool.false_and] at k
              rw [decide_eq_false (by rw [← ln5]; omega)]
              exact itf (k _ e5)
        intro H4 e4 hD4
        refine ⟨D, _, rfl, sq_of hD4, _, rfl, ?_⟩
        rw [all_map]
        replace e1 := e1.trans e4
        replace sq := sq.up e4
        replace tv := TrVs.up e4 _ _ tv
        clear hD hD4 hG wk e4
        cases hB : (x0 :: l).all (rowB n) with
        | false =>
          rw [hB, Bool.false_and] at q
          exact itt (q _ e1)
        | true =>
          rw [hB, Bool.true_and] at q
          refine itf ?_
          have each : ∀ y ∈ x0 :: l, ∃ r, y.sq? = some r := fun y hy => by
            have z := List.all_eq_true.mp hB y hy
            unfold rowB at z
            cases hq : y.sq? with
            | none => rw [hq] at z; cases z
            | some r => exact ⟨r, rfl⟩
          have rowAt : ∀ {H5 : Hp}, Ex H4 H5 → ∀ {i : Nat} {x : V} {y : Tr}, xs[i]? = some x → (x0 :: l)[i]? = some y → ∃ b ys, x = .ref b ∧ SqH H5 b ys ∧ TrVs C H5 ys y.rows ∧ y.cnt ≤ 1000 ∧ y.rows.length ≤ 1000 := by
            intro H5 e5 i x y hx hy
            obtain ⟨y', hy', hv⟩ := (TrVs.up e5 _ _ tv).at_ hx
            cases hy.symm.trans hy'
            have my := cnt_mem (List.mem_of_getElem? hy)
            obtain ⟨r, hr0⟩ := each y (List.mem_of_getElem? hy)
            obtain ⟨b, ys, e, sq5, tv5⟩ := hv.seq hr0
            have er : y.rows = r := by unfold Tr.rows; rw [hr0]; rfl
            rw [er]
            have hk : y.cnt ≤ 1000 := by omega
            exact ⟨b, ys, e, sq5, tv5, hk, len_of hr0 hk⟩
          cases xs with
          | nil => cases ln
          | cons v0 xs' =>
          refine ⟨_, rfl, a, _, rfl, sq, fun J Gd wk hG D hD => lc_bl wk hD hG (x0 :: l) ln.symm (by rw [← ln]; exact lim) (fun x => decide (x.rows.length = x0.rows.length)) ?_ ?_⟩
          · rintro i y x H5 Gt hy hx e5 k
            obtain ⟨b, ys, rfl, sqy, tvy, _⟩ := rowAt e5 hx hy
            obtain ⟨b0, ys0, rfl, sq0, tv0, _⟩ := rowAt e5 (i := 0) (x := v0) (y := x0) rfl rfl
            refine ⟨rfl, ?_⟩
            refine ⟨_, rfl, b, ys, rfl, sqy.sq, _, rfl, a, _, 0, .ref b0, rfl, rfl, sq.up e5, at00, b0, ys0, rfl, sq0.sq, rfl, ?_⟩
            have z := k _ (Ex.refl _)
            rw [show decide (y.rows.length = x0.rows.length) = decide (V.int (ys.length : Nat) = V.int (ys0.length : Nat)) from decide_eq_decide.mpr (by rw [tvy.len, tv0.len]; exact ⟨fun z => by rw [z], fun z => by injection z with z; omega⟩)] at z
            exact z
          intro H5 e5 hD5
          refine ⟨D, _, rfl, sq_of hD5, _, rfl, ?_⟩
          rw [all_map]
          cases hC : (x0 :: l).all (fun x => decide (x.rows.length = x0.rows.length)) with
          | false =>
            rw [hC, Bool.false_and] at q
            exact itt (q _ (e1.trans e5))
          | true =>
            rw [hC, Bool.true_and] at q
            refine itf ?_
            refine ⟨_, rfl, a, _, rfl, sq.up e5, fun J2 Gd2 wk2 hG2 D2 hD2 => lc_bl wk2 hD2 hG2 (x0 :: l) ln.symm (by rw [← ln]; exact lim) (fun x => x.rows.all Tr.isN) ?_ ?_⟩
            · rintro i y x H6 Gt hy hx e6 k
              obtain ⟨b, ys, rfl, sqy, tvy, cy, ly⟩ := rowAt (e5.trans e6) hx hy
              refine ⟨rfl, ?_⟩
              refine ⟨_, rfl, b, ys, rfl, sqy, fun J3 Gd3 wk3 hG3 D3 hD3 => lc_bl wk3 hD3 hG3 y.rows tvy.len.symm (by rw [← tvy.len]; exact ly) Tr.isN ?_ ?_⟩
              · rintro i3 y3 x3 H7 Gt3 hy3 hx3 e7 k3
                obtain ⟨y3', hy3', hv3⟩ := (TrVs.up e7 _ _ tvy).at_ hx3
                cases hy3.symm.trans hy3'
                exact ⟨rfl, _, rfl, x3, y3, rfl, hv3, fun H8 e8 => k3 _ e8⟩
              · intro H7 e7 hD7
                refine ⟨D3, _, rfl, sq_of hD7, ?_⟩
                rw [all_map]
                exact k _ e7
            · intro H6 e6 hD6
              refine ⟨D2, _, rfl, sq_of hD6, ?_⟩
              rw [all_map]
              exact q _ (e1.trans (e5.trans e6))
      · rw [decide_eq_false (by rw [← ln, List.length_cons]; omega)]
        rw [decide_eq_false c1, Bool.false_and] at q
        exact itt (q _ e1)
end
end B71

namespace B71
open PySem PySem.Spec PyProof.Rows L2 Evl RZ SrtO

theorem bt_sum : bootBuiltins "sum" = some (.builtin "sum") := by decide +kernel
theorem cutV_int (ns : List Int) (lo hi : Option Int) : ∃ ms : List Int, cutV (ns.map V.int) lo hi = ms.map V.int := by
  unfold cutV
  rw [← List.map_drop, ← List.map_take]
  exact ⟨_, rfl⟩
section
variable {P : Program} {w : World} {K : PySem.W.Frag} {mg : Str → Option Value} {base : Heap} {f C : Addr} {fd : FuncData}
theorem sc__law_pot : FnScope ["script", "k", "cell"] ["script", "k"] (defScope (top 45)) := ⟨rfl, rfl, rfl, by decide +kernel, rfl, by decide +kernel, by decide +kernel⟩
theorem ok_law_pot (F : Fun K "_law_pot" "_law_pot" (top 45) f fd) (T : Tx mg) : FnOk P w K mg base CX0 1 f fd ["script", "k"] (spPot K) := by
  have sc := sc__law_pot
  refine F.ok sc (fun vs H Q E h => ?_) (fun cdv A outer s H vs Q E hr h => ?_)
  · obtain ⟨a, ns, rfl, _⟩ := h; rfl
  obtain ⟨a, ns, rfl, hS, q⟩ := h
  refine ⟨_, (pss_cons (ps_set (i := 2) sc.nd rfl (Or.inl rfl) (pe_op op_add (pe_op op_add (pe_op op_mul pe_int (pv 1)) pe_int) (pe_op op_mod (pe_callB (cr_sum rfl) rfl T.b_sum bt_sum (pa_cons (pe_slice sl_list (pv 0) po_none (po_some pe_int)) pa_nil)) pe_int))) (pss_cons (ps_if (pt_cmpR op_lt (pv 1) (pe_callB call_len_seq rfl T.b_len bt_len (pa_cons (pv 0) pa_nil)) (nomark _)) (pss_one (ps_set (i := 2) sc.nd rfl (Or.inl rfl) (pe_callB call_abs rfl T.b_abs bt_abs (pa_cons (pe_ix ix_list (pv 0) (pv 1) (fun _ _ => rfl)) pa_nil)))) pss_nil) (pss_one (ps_ret (pe_lst (pa_cons (pe_callB (call_max2 rfl) rfl T.b_max bt_max (pa_cons pe_int (pa_cons (pe_op op_sub (pv 2) (pe_op op_pow pe_int pe_int)) pa_nil))) (pa_cons (pe_op op_add (pe_op op_mod (pe_op op_mul (pe_callTy call_int1 rfl T.b_int bt_int (pa_cons (pe_op op_add (pe_op op_mod (pe_callTy call_int1 rfl T.b_int bt_int (pa_cons (pv 2) pa_nil)) pe_int) pe_int) pa_nil)) (pe_op op_pow (pe_op op_add (pe_op op_mul pe_int (pv 1)) pe_int) pe_int)) pe_int) pe_int) pa_nil))))))), ?_⟩
  refine ⟨_, rfl, _, _, rfl, rfl, .inl (by decide), _, _, rfl, rfl, _, rfl, _, rfl, a, _, rfl, hS, fun l hl => ?_⟩
  have e1 : Ex H (upd H l (.lst (cutV (ns.map V.int) none (some 1)))) := Ex.new hl
  have hl1 : upd H l (.lst (cutV (ns.map V.int) none (some 1))) l = some (.lst (cutV (ns.map V.int) none (some 1))) := upd_same
  generalize upd H l (.lst (cutV (ns.map V.int) none (some 1))) = H1 at e1 hl1 ⊢
  obtain ⟨ms, hm⟩ := cutV_int ns none (some 1)
  rw [hm] at hl1
  refine ⟨l, ms, rfl, sq_of hl1, _, _, rfl, rfl, (by show (0 : Int) < _; decide), _, _, rfl, rfl, ?_⟩
  have hS1 := ex_l e1 hS
  have fin1 : ∀ (c e : Int), ∀ p, H1 p = none → ∀ H' : Hp, H' = upd H1 p (.lst [.int (if c - 10 ^ (18 : Int).toNat > 0 then c - 10 ^ (18 : Int).toNat else 0), .int (e % 2147483477 + 1)]) → Q (.ref p) H' := fun c e p hp H' z => by
    subst z
    refine q p _ (fresh_back e1 hp) (e1.trans (Ex.new hp)) ⟨_, _, upd_same, ?_, ?_, ?_⟩
    · split <;> omega
    · omega
    · omega
  refine ⟨_, rfl, _, rfl, a, _, rfl, .inl hS1, _, _, rfl, rfl, _, rfl, ?_⟩
  refine ite2 (fun g => ?_) (fun g => ?_)
  · have g' := of_decide_eq_true g
    rw [List.length_map] at g'
    have hk' : 0 < ns.length := by omega
    have hat : atI (ns.map V.int) 0 = some (.int ns[0]) := atI_nat (j := 0) (by rw [List.getElem?_map, List.getElem?_eq_getElem hk'] <;> rfl)
    refine ⟨_, rfl, _, rfl, a, _, _, _, rfl, rfl, hS1, hat, _, rfl, ?_⟩
    refine ⟨_, rfl, _, _, rfl, rfl, ⟨by decide, by decide, by decide⟩, _, _, rfl, rfl, _, _, rfl, ?_⟩
    refine ⟨_, rfl, .inl ⟨_, rfl, _, _, rfl, rfl, (by show (0 : Int) < _; decide), _, _, rfl, rfl, .inl ⟨_, rfl, _, rfl, _, _, rfl, rfl, .inl (by decide), _, _, rfl, rfl, _, _, rfl, rfl, ⟨by decide, by decide, by decide⟩, _, _, rfl, rfl, .inr (by decide), _, _, rfl, rfl, (by show (0 : Int) < _; decide), _, _, rfl, rfl, (by show 2 ≤ sizeLine; decide), fun p hp => ?_⟩⟩⟩
    exact fin1 _ _ p hp _ rfl
  · refine ⟨_, rfl, _, _, rfl, rfl, ⟨by decide, by decide, by decide⟩, _, _, rfl, rfl, _, _, rfl, ?_⟩
    refine ⟨_, rfl, .inl ⟨_, rfl, _, _, rfl, rfl, (by show (0 : Int) < _; decide), _, _, rfl, rfl, .inl ⟨_, rfl, _, rfl, _, _, rfl, rfl, .inl (by decide), _, _, rfl, rfl, _, _, rfl, rfl, ⟨by decide, by decide, by decide⟩, _, _, rfl, rfl, .inr (by decide), _, _, rfl, rfl, (by show (0 : Int) < _; decide), _, _, rfl, rfl, (by show 2 ≤ sizeLine; decide), fun p hp => ?_⟩⟩⟩
    exact fin1 _ _ p hp _ rfl
theorem sc__law_draw : FnScope ["pot", "many", "digit"] ["pot", "many"] (defScope (top 46)) := ⟨rfl, rfl, rfl, by decide +kernel, rfl, by decide +kernel, by decide +kernel⟩
theorem ok_law_draw (F : Fun K "_law_draw" "_law_draw" (top 46) f fd) (T : Tx mg) : FnOk P w K mg base CX0 1 f fd ["pot", "many"] spDraw := by
  have sc := sc__law_draw
  refine F.ok sc (fun vs H Q E h => ?_) (fun cdv A outer s H vs Q E hr h => ?_)
  · obtain ⟨a, k, rfl, _⟩ := h; rfl
  obtain ⟨p, m, rfl, ⟨x, y, hp, hx, hy, hy2⟩, h1, h2, q⟩ := h
  refine ⟨_, (pss_cons (ps_if (pt_cmpR op_gt (pe_ix ix_list (pv 0) pe_int (fun _ _ => rfl)) pe_int (nomark _)) (pss_cons (ps_asg (pe_callB call_divmod rfl T.b_divmod bt_divmod (pa_cons (pe_ix ix_list (pv 0) pe_int (fun _ _ => rfl)) (pa_cons (pv 1) pa_nil))) (pg_tup rfl (pgs_cons (pg_sub (pv 0) pe_int set_list) (pgs_cons (pg_name (i := 2) sc.nd rfl (Or.inl rfl)) pgs_nil)))) (pss_one (ps_ret (pv 2)))) pss_nil) (pss_cons (ps_asg (pe_op op_mod (pe_callTy call_int1 rfl T.b_int bt_int (pa_cons (pe_op op_add (pe_op op_mul (pe_ix ix_list (pv 0) pe_int (fun _ _ => rfl)) pe_int) pe_int) pa_nil)) pe_int) (pg_sub (pv 0) pe_int set_list)) (pss_one (ps_ret (pe_op op_mod (pe_callTy call_int1 rfl T.b_int bt_int (pa_cons (pe_op op_fdiv (pe_op op_mod (pe_callTy call_int1 rfl T.b_int bt_int (pa_cons (pe_op op_mul (pe_ix ix_list (pv 0) pe_int (fun _ _ => rfl)) (pe_ix ix_list (pv 0) pe_int (fun _ _ => rfl))) pa_nil)) pe_int) pe_int) pa_nil)) (pv 1)))))), ?_⟩
  refine ⟨_, rfl, p, _, 0, .int x, rfl, rfl, sq_of hp, rfl, _, _, rfl, rfl, _, rfl, ?_⟩
  refine ite2 (fun g => ?_) (fun g => ?_)
  · have mz : (0 : Int) < (m : Int) := by omega
    refine ⟨_, rfl, p, _, 0, .int x, rfl, rfl, sq_of hp, rfl, _, rfl, _, _, rfl, ⟨mz, by omega⟩, fun t ht => ?_⟩
    have nt : t ≠ p := fun z => by rw [z, hp] at ht; cases ht
    have x1 : Ex H (upd H t (.tup [.int (x / (m : Int)), .int (x % (m : Int))])) := Ex.new ht
    refine ⟨t, _, rfl, st_of upd_same, rfl, _, _, rfl, _, rfl, p, _, 0, 0, rfl, rfl, x1 _ _ hp, rfl, _, _, rfl, rfl, ?_⟩
    refine ⟨_, rfl, ?_⟩
    have hd : x % (m : Int) = ((x % (m : Int)).toNat : Int) := (Int.toNat_of_nonneg (Int.emod_nonneg _ (by omega))).symm
    have hlt : x % (m : Int) < m := Int.emod_lt_of_pos _ mz
    rw [show ([.int x, .int y] : List V).set 0 (.int (x / (m : Int))) = [.int (x / (m : Int)), .int y] from rfl]
    have key := q (x % (m : Int)).toNat _ (ExB.put (o := .lst [.int (x / (m : Int)), .int y]) (ExB.of x1)) ⟨_, _, upd_same, Int.ediv_nonneg hx (by omega), hy, hy2⟩ (by omega)
    rw [← hd] at key
    exact key
  · refine ⟨_, rfl, p, _, 1, .int y, rfl, rfl, sq_of hp, rfl, _, _, rfl, rfl, .inr (by decide), _, _, rfl, rfl, .inl ⟨_, rfl, _, _, rfl, rfl, (by show (0 : Int) < _; decide), _, rfl, p, _, 1, 1, rfl, rfl, hp, rfl, ?_⟩⟩
    rw [show ([.int x, .int y] : List V).set 1 (.int ((y * 48271 + 16487) % 2147483587)) = [.int x, .int ((y * 48271 + 16487) % 2147483587)] from rfl]
    have e1 : ExB p H (upd H p (.lst [.int x, .int ((y * 48271 + 16487) % 2147483587)])) := ExB.put (ExB.of (Ex.refl _))
    have hp1 : upd H p (.lst [.int x, .int ((y * 48271 + 16487) % 2147483587)]) p = some (.lst [.int x, .int ((y * 48271 + 16487) % 2147483587)]) := upd_same
    generalize upd H p (.lst [.int x, .int ((y * 48271 + 16487) % 2147483587)]) = H1 at e1 hp1 ⊢
    have y0 : 0 ≤ (y * 48271 + 16487) % 2147483587 := by omega
    have y1 : (y * 48271 + 16487) % 2147483587 < 2147483587 := by omega
    generalize (y * 48271 + 16487) % 2147483587 = y' at e1 hp1 y0 y1 ⊢
    refine ⟨_, rfl, p, _, 1, .int y', rfl, rfl, sq_of hp1, rfl, _, rfl, p, _, 1, .int y', rfl, rfl, sq_of hp1, rfl, _, _, rfl, rfl, .inl ⟨by omega, by omega⟩, .inl ⟨_, rfl, _, _, rfl, rfl, (by show (0 : Int) < _; decide), _, _, rfl, rfl, ⟨by decide, by decide⟩, .inl ⟨_, rfl, _, rfl, _, _, rfl, rfl, by omega, ?_⟩⟩⟩
    have mz : (0 : Int) < (m : Int) := by omega
    have hlt : (y' * y' % 2147483549 / 13) % (m : Int) < m := Int.emod_lt_of_pos _ mz
    have hnn : 0 ≤ (y' * y' % 2147483549 / 13) % (m : Int) := Int.emod_nonneg _ (by omega)
    show Q (.int ((y' * y' % 2147483549 / 13) % (m : Int))) H1
    generalize (y' * y' % 2147483549 / 13) % (m : Int) = d at hlt hnn ⊢
    have hd : d = (d.toNat : Int) := (Int.toNat_of_nonneg hnn).symm
    have key := q d.toNat H1 e1 ⟨_, _, hp1, hx, y0, by omega⟩ (by omega)
    rw [← hd] at key
    exact key
theorem sc__law_pick : FnScope ["pot", "some"] ["pot", "some"] (defScope (top 47)) := ⟨rfl, rfl, rfl, by decide +kernel, rfl, by decide +kernel, by decide +kernel⟩
theorem ok_law_pick (F : Fun K "_law_pick" "_law_pick" (top 47) f fd) (T : Tx mg) (C__law_draw : ClO P w K mg base "_law_draw" 1 ["pot", "many"] spDraw) : FnOk P w K mg base CX0 2 f fd ["pot", "some"] spPick := by
  have sc := sc__law_pick
  refine F.ok sc (fun vs H Q E h => ?_) (fun cdv A outer s H vs Q E hr h => ?_)
  · obtain ⟨a, k, _, rfl, _⟩ := h; rfl
  obtain ⟨p, a, xs, rfl, hp, ha, nap, h1, h2, q⟩ := h
  refine ⟨_, (pss_one (ps_ret (pe_ix ix_list (pv 1) (pe_clo C__law_draw (hr.mono (by first | decide | omega)) (pa_cons (pv 0) (pa_cons (pe_callB call_len_seq rfl T.b_len bt_len (pa_cons (pv 1) pa_nil)) pa_nil))) (fun _ _ => rfl)))), ?_⟩
  refine ⟨_, rfl, _, rfl, _, rfl, a, _, rfl, .inl (sq_of ha), p, xs.length, rfl, hp, h1, h2, fun d H1 e1 hp1 hd => ?_⟩
  have hx : xs[d]? = some xs[d] := List.getElem?_eq_getElem hd
  exact ⟨a, xs, _, xs[d], rfl, rfl, sq_of (e1 _ _ nap ha), atI_nat hx, q d _ H1 e1 hp1 hx⟩
end
end B71

namespace B71
open PySem PySem.Spec PyProof.Rows L2 Evl RZ SrtO

/-! ### heaps without some lists -/
def msk (S : List Addr) (H : Hp) : Hp := fun b => if b ∈ S then none else H b
theorem msk_of {S : List Addr} {H : Hp} {b : Addr} (h : b ∉ S) : msk S H b = H b := if_neg h
theorem msk_ex {S : List Addr} {H : Hp} : Ex (msk S H) H := fun b o h => by
  unfold msk at h
  split at h
  · cases h
  · exact h
theorem msk_up {S : List Addr} {H H' : Hp} (e : Ex H H') : Ex (msk S H) (msk S H') := fun b o h => by
  unfold msk at h ⊢
  split at h
  · cases h
  · rename_i n
    rw [if_neg n]
    exact e b o h
theorem msk_upB {S : List Addr} {H H' : Hp} {p : Addr} (hp : p ∈ S) (e : ExB p H H') : Ex (msk S H) (msk S H') := fun b o h => by
  unfold msk at h ⊢
  split at h
  · cases h
  · rename_i n
    rw [if_neg n]
    exact e b o (fun z => n (z ▸ hp)) h
theorem msk_put {S : List Addr} {H : Hp} {D : Addr} {o : HO} (h : D ∈ S) : msk S (upd H D o) = msk S H := funext fun b => by
  unfold msk
  by_cases n : b ∈ S
  · rw [if_pos n, if_pos n]
  · rw [if_neg n, if_neg n, upd_ne (fun z => n (by rw [z]; exact h))]
theorem msk_new {S : List Addr} {H : Hp} {D : Addr} (h : H D = none) : msk (D :: S) H = msk S H := funext fun b => by
  unfold msk
  by_cases n : b = D
  · subst n
    rw [if_pos (List.mem_cons_self), h]
    split <;> rfl
  · by_cases m : b ∈ S
    · rw [if_pos (List.mem_cons_of_mem _ m), if_pos m]
    · rw [if_neg (fun z => (List.mem_cons.mp z).elim n m), if_neg m]
theorem msk_sub {S S' : List Addr} {H : Hp} (h : ∀ b ∈ S, b ∈ S') : Ex (msk S' H) (msk S H) := fun b o k => by
  unfold msk at k ⊢
  split at k
  · cases k
  · rename_i n
    rw [if_neg fun z => n (h b z)]
    exact k
/-- all of S are lists -/
def Off (S : List Addr) (H : Hp) : Prop := ∀ b ∈ S, ∃ xs, H b = some (.lst xs)
theorem Off.up {S : List Addr} {H H' : Hp} (h : Off S H) (e : Ex H H') : Off S H' := fun b hb => (h b hb).imp fun _ z => e _ _ z
theorem Off.pot {S : List Addr} {H H' : Hp} {p : Addr} (h : Off S H) (hp : Pot H p) (e : ExP p H H') : Off S H' := fun b hb => by
  by_cases z : b = p
  · subst z
    obtain ⟨x, y, h1, _⟩ := e.2 hp
    exact ⟨_, h1⟩
  · exact (h b hb).imp fun _ q => e.1 _ _ z q
theorem Off.fresh {S : List Addr} {H : Hp} {b : Addr} (h : Off S H) (n : H b = none) : b ∉ S := fun z => by
  obtain ⟨xs, q⟩ := h b z
  rw [n] at q
  cases q
theorem Off.cons {S : List Addr} {H : Hp} {b : Addr} {xs : List V} (h : Off S H) (n : H b = some (.lst xs)) : Off (b :: S) H := fun c hc => by
  rcases List.mem_cons.mp hc with rfl | hc
  · exact ⟨_, n⟩
  · exact h c hc
theorem Off.put {S : List Addr} {H : Hp} {D : Addr} {xs : List V} (h : Off S H) : Off S (upd H D (.lst xs)) := fun c hc => by
  by_cases z : c = D
  · subst z
    exact ⟨_, upd_same⟩
  · rw [upd_ne z]
    exact h c hc
theorem pot_off {H : Hp} {p : Addr} (h : Pot H p) : Off [p] H := fun b hb => by
  obtain rfl := List.mem_singleton.mp hb
  obtain ⟨x, y, h1, _⟩ := h
  exact ⟨_, h1⟩
/-! ### values that can be shown -/
structure Fine (N d : Nat) (C : Addr) (H : Hp) (v : V) : Prop where
  ex : ∃ t, TrV C H v t ∧ t.Good ∧ t.cnt ≤ N ∧ t.dep ≤ d
section
variable {C : Addr} {H H' : Hp} {N N' d d' : Nat} {v : V}
theorem Fine.up (h : Fine N d C H v) (e : Ex H H') : Fine N d C H' v := by
  obtain ⟨t, h1, h2⟩ := h.ex
  exact ⟨t, TrV.up e _ _ h1, h2⟩
theorem Fine.mono (h : Fine N d C H v) (hn : N ≤ N') (hd : d ≤ d') : Fine N' d' C H v := by
  obtain ⟨t, h1, h2, h3, h4⟩ := h.ex
  exact ⟨t, h1, h2, by omega, by omega⟩
theorem fine_all : ∀ {vs : List V}, (∀ v ∈ vs, Fine N d C H v) → ∃ l, TrVs C H vs l ∧ GoodAll l ∧ cntAll l ≤ vs.length * N ∧ depAll l ≤ d
  | [], _ => ⟨[], .nil, by rw [GoodAll]; trivial, by rw [cntAll]; omega, by rw [depAll]; omega⟩
  | v :: vs, h => by
    obtain ⟨t, h1, h2, h3, h4⟩ := (h v List.mem_cons_self).ex
    obtain ⟨l, k1, k2, k3, k4⟩ := fine_all (vs := vs) fun w hw => h w (List.mem_cons_of_mem _ hw)
    refine ⟨t :: l, .cons h1 k1, by rw [GoodAll]; exact ⟨h2, k2⟩, ?_, by rw [depAll]; omega⟩
    rw [cntAll, List.length_cons, Nat.add_mul]
    omega
theorem Fine.lst {a : Addr} {vs : List V} (ha : H a = some (.lst vs)) (h : ∀ v ∈ vs, Fine N d C H v) (hn : vs.length * N + 1 ≤ N') : Fine N' (d + 1) C H (.ref a) := by
  obtain ⟨l, k1, k2, k3, k4⟩ := fine_all h
  exact ⟨.lst l, .lst ha k1, by rw [Tr.Good]; exact k2, by rw [Tr.cnt]; omega, by rw [Tr.dep]; omega⟩
theorem Fine.tup {a : Addr} {vs : List V} (ha : H a = some (.tup vs)) (h : ∀ v ∈ vs, Fine N d C H v) (hn : vs.length * N + 1 ≤ N') : Fine N' (d + 1) C H (.ref a) := by
  obtain ⟨l, k1, k2, k3, k4⟩ := fine_all h
  exact ⟨.tup l, .tup ha k1, by rw [Tr.Good]; exact k2, by rw [Tr.cnt]; omega, by rw [Tr.dep]; omega⟩
theorem Fine.int {i : Int} (h : i.natAbs < 10 ^ 50) : Fine 1 0 C H (.int i) := ⟨.int i, .int i, by rw [Tr.Good]; exact h, Nat.le_refl _, Nat.le_refl _⟩
theorem Fine.bl {b : Bool} : Fine 1 0 C H (.bl b) := ⟨.bl b, .bl b, by rw [Tr.Good]; trivial, Nat.le_refl _, Nat.le_refl _⟩
theorem Fine.non : Fine 1 0 C H .non := ⟨.non, .non, by rw [Tr.Good]; trivial, Nat.le_refl _, Nat.le_refl _⟩
theorem Fine.str {x : Str} (h : (reprText x).length ≤ 100) : Fine 1 0 C H (.str x) := ⟨.str x, .str x, by rw [Tr.Good]; exact h, Nat.le_refl _, Nat.le_refl _⟩
theorem Fine.emp {a : Addr} (h : H a = some (.dK [])) : Fine 1 0 C H (.ref a) := ⟨.emp, .emp h, by rw [Tr.Good]; trivial, Nat.le_refl _, Nat.le_refl _⟩
theorem Fine.rat {a : Addr} {t b : Int} (h : Rt C H a t b) (ht : Bt 150 t) (hb : Bt 150 b) (pb : 0 < b) : Fine 1 0 C H (.ref a) := ⟨.rat t b, .rat h, by rw [Tr.Good]; exact ⟨ht, hb, pb⟩, Nat.le_refl _, Nat.le_refl _⟩
end
/-- a number, an int or a Ratio -/
def NumT (C : Addr) (H : Hp) (v : V) : Prop := (∃ i : Int, v = .int i ∧ Bt 150 i) ∨ ∃ a t b, v = .ref a ∧ Rt C H a t b ∧ Bt 150 t ∧ Bt 150 b ∧ 0 < b
section
variable {C : Addr} {H H' : Hp} {v : V}
theorem NumT.up (h : NumT C H v) (e : Ex H H') : NumT C H' v := h.imp id fun ⟨a, t, b, h1, h2, h3⟩ => ⟨a, t, b, h1, h2.up e, h3⟩
theorem NumT.pot {p : Addr} (h : NumT C H v) (hp : Pot H p) (e : ExP p H H') : NumT C H' v := h.imp id fun ⟨a, t, b, h1, ⟨dx, h2⟩, h3⟩ => ⟨a, t, b, h1, ⟨dx, e.1 _ _ (fun z => by
  obtain ⟨x, y, k, _⟩ := hp
  rw [z, k] at h2
  cases h2) h2⟩, h3⟩
theorem NumT.ap {D : Addr} {xs ys : List V} (h : NumT C H v) (hD : H D = some (.lst xs)) : NumT C (upd H D (.lst ys)) v := h.imp id fun ⟨a, t, b, h1, ⟨dx, h2⟩, h3⟩ => ⟨a, t, b, h1, ⟨dx, by
  rw [upd_ne (fun z => by rw [z, hD] at h2; cases h2)]
  exact h2⟩, h3⟩
theorem NumT.fine {S : List Addr} (h : NumT C H v) (o : Off S H) : Fine 1 0 C (msk S H) v := by
  rcases h with ⟨i, rfl, hi⟩ | ⟨a, t, b, rfl, ⟨dx, h2⟩, h3, h4, h5⟩
  · exact Fine.int (Nat.lt_of_lt_of_le hi (by decide +kernel))
  · refine Fine.rat ⟨dx, ?_⟩ h3 h4 h5
    rw [msk_of (fun z => by
      obtain ⟨xs, q⟩ := o a z
      rw [q] at h2
      cases h2)]
    exact h2
end
def spNumber (C : Addr) : Sp := fun vs H Q _ => ∃ p : Addr, vs = [.ref p] ∧ Pot H p ∧ ∀ v H', ExP p H H' → NumT C H' v → Q v H'
/-- rows of numbers, new ones -/
def RowsOk (C : Addr) (H H' : Hp) (p : Addr) (wide : Nat) (rs : List Addr) : Prop := ∀ r ∈ rs, H r = none ∧ r ≠ p ∧ ∃ ns, H' r = some (.lst ns) ∧ ns.length = wide ∧ ∀ n ∈ ns, NumT C H' n
def spTable (C : Addr) : Sp := fun vs H Q _ => ∃ (p : Addr) (tall wide : Nat), vs = [.ref p, .int tall, .int wide] ∧ Pot H p ∧ tall ≤ 100 ∧ wide ≤ 100 ∧
  ∀ l rs H', ExP p H H' → H l = none → H' l = some (.lst (rs.map V.ref)) → rs.length = tall → RowsOk C H H' p wide rs → Q (.ref l) H'
theorem ExP.mk {p : Addr} {H H' : Hp} (e : ExB p H H') (hp : Pot H' p) : ExP p H H' := ⟨e, fun _ => hp⟩
theorem ExP.refl {p : Addr} {H : Hp} : ExP p H H := ExP.of (Ex.refl _)
section
variable {P : Program} {w : World} {K : PySem.W.Frag} {mg : Str → Option Value} {base : Heap} {f C : Addr} {fd : FuncData}
theorem sc__law_number : FnScope ["pot"] ["pot"] (defScope (top 48)) := ⟨rfl, rfl, rfl, by decide +kernel, rfl, by decide +kernel, by decide +kernel⟩
theorem ok_law_number (F : Fun K "_law_number" "_law_number" (top 48) f fd) (R : RCl K mg C) (T : Tx mg) (MR : MkR P w K mg base C) (C__law_pick : ClO P w K mg base "_law_pick" 2 ["pot", "some"] spPick) : FnOk P w K mg base CX0 4 f fd ["pot"] (spNumber C) := by
  have sc := sc__law_number
  refine F.ok sc (fun vs H Q E h => ?_) (fun cdv A outer s H vs Q E hr h => ?_)
  · obtain ⟨_, rfl, _⟩ := h; rfl
  obtain ⟨p, rfl, hp, q⟩ := h
  have n12 := low_bt (n := 3) (m := 3) (a := 1) (b := 2) (by unfold Bt; decide) (by unfold Bt; decide) (by decide)
  have n31 := low_bt (n := 3) (m := 3) (a := -3) (b := 1) (by unfold Bt; decide) (by unfold Bt; decide) (by decide)
  refine ⟨_, (pss_one (ps_ret (pe_clo C__law_pick (hr.mono (by first | decide | omega)) (pa_cons (pv 0) (pa_cons (pe_lst (pa_cons pe_int (pa_cons pe_int (pa_cons (pe_un un_neg pe_int) (pa_cons pe_int (pa_cons (pe_rat2 MR (hr.mono (by first | decide | omega)) (pa_cons pe_int (pa_cons pe_int pa_nil))) (pa_cons (pe_rat1 MR (hr.mono (by first | decide | omega)) (pa_cons (pe_un un_neg pe_int) pa_nil)) pa_nil))))))) pa_nil))))), ?_⟩
  refine ⟨_, rfl, _, rfl, fun x1 d1 hx1 hd1 ne1 => ?_⟩
  refine made_z hx1 hd1 ne1 (by decide) (Bt.mono (n := 3) (by unfold Bt; decide) (by decide)) (Bt.mono (n := 3) (by unfold Bt; decide) (by decide)) fun H1 e1 r1 => ⟨rfl, ?_⟩
  refine ⟨_, rfl, fun x2 d2 hx2 hd2 ne2 => ?_⟩
  refine made_z hx2 hd2 ne2 (by decide) (Bt.mono (n := 3) (by unfold Bt; decide) (by decide)) (Bt.mono (n := 3) (by unfold Bt; decide) (by decide)) fun H2 e2 r2 => ⟨rfl, ?_⟩
  refine ⟨(by show 6 ≤ sizeLine; decide), fun l hl => ?_⟩
  have e3 := Ex.new (o := .lst [.int 0, .int 1, .int (-1), .int 2, .ref x1, .ref x2]) hl
  have e := e1.trans (e2.trans e3)
  have hp3 := hp.up e
  refine ⟨p, l, _, rfl, hp3, upd_same, pot_nn (hp.up (e1.trans e2)) hl, (by show 1 ≤ 6; decide), (by show 6 ≤ 100; decide), fun d x H4 e4 hp4 hx => ?_⟩
  refine q x H4 ((ExP.of e).trans (.mk e4 hp4)) ?_
  have all : ∀ y ∈ [V.int 0, V.int 1, V.int (-1), V.int 2, V.ref x1, V.ref x2], NumT C (upd H2 l (.lst [.int 0, .int 1, .int (-1), .int 2, .ref x1, .ref x2])) y := by
    intro y hy
    have small : ∀ i : Int, i.natAbs < 5 → Bt 150 i := fun i h => Nat.lt_of_lt_of_le h (by decide +kernel)
    simp only [List.mem_cons, List.not_mem_nil, or_false] at hy
    rcases hy with rfl | rfl | rfl | rfl | rfl | rfl
    · exact .inl ⟨_, rfl, small _ (by decide)⟩
    · exact .inl ⟨_, rfl, small _ (by decide)⟩
    · exact .inl ⟨_, rfl, small _ (by decide)⟩
    · exact .inl ⟨_, rfl, small _ (by decide)⟩
    · exact .inr ⟨_, _, _, rfl, r1.up (e2.trans e3), n12.1.mono (by decide), n12.2.mono (by decide), low_pos (by decide)⟩
    · exact .inr ⟨_, _, _, rfl, r2.up e3, n31.1.mono (by decide), n31.2.mono (by decide), low_pos (by decide)⟩
  exact (all x (List.mem_of_getElem? hx)).pot hp3 (.mk e4 hp4)
theorem sc__law_table : FnScope ["pot", "tall", "wide", "row", "place"] ["pot", "tall", "wide"] (defScope (top 49)) := ⟨rfl, rfl, rfl, by decide +kernel, rfl, by decide +kernel, by decide +kernel⟩
theorem ok_law_table (F : Fun K "_law_table" "_law_table" (top 49) f fd) (R : RCl K mg C) (T : Tx mg) (C__law_number : ClO P w K mg base "_law_number" 4 ["pot"] (spNumber C)) : FnOk P w K mg base CX0 5 f fd ["pot", "tall", "wide"] (spTable C) := by
  have sc := sc__law_table
  refine F.ok sc (fun vs H Q E h => ?_) (fun cdv A outer s H vs Q E hr h => ?_)
  · obtain ⟨_, _, _, rfl, _⟩ := h; rfl
  obtain ⟨p, tall, wide, rfl, hp, ht, hw, q⟩ := h
  refine ⟨_, (pss_one (ps_ret (pe_lc (own := [("row", 3)]) (g := (gName 3)) rfl sc.nd (pi_range1 rfl T.b_range (pa_cons (pv 1) pa_nil)) (blkOk_by (N := ["pot", "tall", "wide", "row", "place"]) (sc := defScope ((top 49))) (by decide +kernel)) (fun _ _ _ _ _ => (pg_name (i := 3) sc.nd rfl (Or.inl rfl))) (fun _ _ _ _ _ => pts_nil) (fun _ _ _ _ _ => (pe_lc (own := [("place", 4)]) (g := (gName 4)) rfl sc.nd (pi_range1 rfl T.b_range (pa_cons (pv 2) pa_nil)) (blkOk_by (N := ["pot", "tall", "wide", "row", "place"]) (by kernel_rfl)) (fun _ _ _ _ _ => (pg_name (i := 4) sc.nd rfl (Or.inl rfl))) (fun _ _ _ _ _ => pts_nil) (fun _ _ _ _ _ => (pe_clo C__law_number (hr.mono (by first | decide | omega)) (pa_cons (pv 0) pa_nil)))))))), ?_⟩
  refine ⟨_, rfl, tall, rfl, by omega, by omega, fun D hD => ?_⟩
  have nd := pot_nn hp hD
  refine lcE (walk_range (lo := 0) (n := tall)) (Chg.pot (p := p) hD hp) (List.range tall) (List.length_range).symm (by omega) (fun _ => true) (fun _ v H' => ∃ r ns, v = .ref r ∧ H r = none ∧ r ≠ p ∧ r ≠ D ∧ H' r = some (.lst ns) ∧ ns.length = wide ∧ ∀ n ∈ ns, NumT C H' n) ?_ ?_ (fun _ _ => trivial) ?_ ?_
  · rintro y v H1 H2 e1 e2 ⟨r, ns, h1, h2, h3, h4, h5, h6, h7⟩
    exact ⟨r, ns, h1, h2, h3, h4, e2.1 _ _ h3 h5, h6, fun n hn => (h7 n hn).pot (e1.2 hp) e2⟩
  · rintro y v H1 acc acc' hd ⟨r, ns, h1, h2, h3, h4, h5, h6, h7⟩
    exact ⟨r, ns, h1, h2, h3, h4, by rw [upd_ne h4]; exact h5, h6, fun n hn => (h7 n hn).ap hd⟩
  · rintro i y x H4 H5 N Gt hy e4 ⟨ac, hac⟩ ⟨rfl, rfl⟩ _ k
    refine ⟨rfl, ?_⟩
    have hp4 := e4.2 hp
    refine ⟨_, rfl, wide, rfl, by omega, by omega, fun D2 hD2 => ?_⟩
    have nd2 := pot_nn hp4 hD2
    refine lcE (walk_range (lo := 0) (n := wide)) (Chg.pot (p := p) hD2 hp4) (List.range wide) (List.length_range).symm (by omega) (fun _ => true) (fun _ v H' => NumT C H' v) ?_ ?_ (fun _ _ => trivial) ?_ ?_
    · rintro y v H1 H2 e1 e2 h
      exact h.pot (e1.2 hp4) e2
    · rintro y v H1 acc acc' hd h
      exact h.ap hd
    · rintro i2 y2 x2 H6 H7 N2 Gt2 hy2 e6 _ ⟨rfl, rfl⟩ _ k2
      exact ⟨rfl, _, rfl, p, rfl, e6.2 hp4, fun v H8 e8 n8 => k2 rfl _ _ e8 n8⟩
    · intro acc H6 e6 hD6 hacc
      rw [filter_yes] at hacc
      refine k rfl _ _ e6 ⟨D2, acc, rfl, ?_, nd2, fun z => ?_, hD6, by rw [← Paired.length hacc, List.length_range], ?_⟩
      · exact e4.1.fresh nd2 hD2
      · rw [z, hac] at hD2
        cases hD2
      · have mem : ∀ {l : List Nat} {acc : List V}, Paired (fun _ v => NumT C H6 v) l acc → ∀ n ∈ acc, NumT C H6 n := by
          intro l acc z
          induction z with
          | nil => intro n hn; exact nomatch hn
          | cons a _ ih =>
            intro n hn
            rcases List.mem_cons.mp hn with rfl | hn
            · exact a
            · exact ih n hn
        exact mem hacc
  · intro acc H4 e4 hD4 hacc
    rw [filter_yes] at hacc
    have hacc2 : Paired (fun (_ : Nat) v => ∃ r, v = V.ref r ∧ ∃ ns, H r = none ∧ r ≠ p ∧ H4 r = some (.lst ns) ∧ ns.length = wide ∧ ∀ n ∈ ns, NumT C H4 n) (List.range tall) acc := Paired.mapP hacc fun _ _ ⟨r, ns, h1, h2, h3, h4, h5⟩ => ⟨r, h1, ns, h2, h3, h5⟩
    obtain ⟨rs, rfl, lrs, hrs⟩ := pair_refs hacc2
    refine q D rs H4 e4 hD hD4 (by rw [lrs, List.length_range]) ?_
    have mem : ∀ {l : List Nat} {rs : List Addr}, Paired (fun r (_ : Nat) => ∃ ns, H r = none ∧ r ≠ p ∧ H4 r = some (.lst ns) ∧ ns.length = wide ∧ ∀ n ∈ ns, NumT C H4 n) rs l → RowsOk C H H4 p wide rs := by
      intro l rs z
      induction z with
      | nil => intro n hn; exact nomatch hn
      | cons a _ ih =>
        intro n hn
        rcases List.mem_cons.mp hn with rfl | hn
        · obtain ⟨ns, h1, h2, h3⟩ := a
          exact ⟨h1, h2, ns, h3⟩
        · exact ih n hn
    exact mem hrs
end
end B71

namespace B71
open PySem PySem.Spec PyProof.Rows L2 Evl RZ SrtO

theorem cut_lo {α : Type} (xs : List V) (i : Nat) (h : i ≤ xs.length) : cutV xs none (some (i : Int)) = xs.take i := by
  unfold cutV
  rw [HT.sIx_none, HT.sIx_nat, List.drop_zero, Nat.sub_zero, Nat.min_eq_left h]
theorem cut_hi (xs : List V) (i : Nat) : cutV xs (some ((i : Int) + 1)) none = xs.drop (i + 1) := by
  unfold cutV
  rw [HT.sIx_none, show ((i : Int) + 1) = ((i + 1 : Nat) : Int) by omega, HT.sIx_nat]
  by_cases h : i + 1 ≤ xs.length
  · rw [Nat.min_eq_left h, List.take_of_length_le (by rw [List.length_drop]; omega)]
  · rw [Nat.min_eq_right (by omega), List.drop_length, List.drop_of_length_le (by omega), List.take_nil]
theorem cut_mem {xs : List V} {lo hi : Option Int} {v : V} (h : v ∈ cutV xs lo hi) : v ∈ xs := by
  unfold cutV at h
  exact List.mem_of_mem_drop (List.mem_of_mem_take h)
/-- a list outside of S, of values that can be shown -/
structure LF (N d : Nat) (S : List Addr) (C : Addr) (H : Hp) (a : Addr) (xs : List V) : Prop where
  at_ : H a = some (.lst xs)
  off : a ∉ S
  all : ∀ x ∈ xs, Fine N d C (msk S H) x
section
variable {N d : Nat} {S : List Addr} {C : Addr} {H H' : Hp} {a b p : Addr} {xs ys : List V}
theorem LF.up (h : LF N d S C H a xs) (e : Ex H H') : LF N d S C H' a xs := ⟨e _ _ h.at_, h.off, fun x hx => (h.all x hx).up (msk_up e)⟩
theorem LF.fine (h : LF N d S C H a xs) {N' : Nat} (hn : xs.length * N + 1 ≤ N') : Fine N' (d + 1) C (msk S H) (.ref a) := Fine.lst (by rw [msk_of h.off]; exact h.at_) h.all hn
theorem LF.new (off : Off S H) (hp : H p = none) (h : ∀ x ∈ xs, Fine N d C (msk S H) x) : LF N d S C (upd H p (.lst xs)) p xs := ⟨upd_same, off.fresh hp, fun x hx => (h x hx).up (msk_up (Ex.new hp))⟩
theorem LF.cat (hx : LF N d S C H a xs) (hy : LF N d S C H b ys) : ∀ x ∈ xs ++ ys, Fine N d C (msk S H) x := fun x h => (List.mem_append.mp h).elim (hx.all x) (hy.all x)
theorem LF.cut (hx : LF N d S C H a xs) (lo hi : Option Int) : ∀ x ∈ cutV xs lo hi, Fine N d C (msk S H) x := fun x h => hx.all x (cut_mem h)
theorem LF.mono {N' d' : Nat} (h : LF N d S C H a xs) (hn : N ≤ N') (hd : d ≤ d') : LF N' d' S C H a xs := ⟨h.at_, h.off, fun x hx => (h.all x hx).mono hn hd⟩
theorem tup_fine (off : Off S H) (hp : H p = none) (h : ∀ x ∈ xs, Fine N d C (msk S H) x) {N' : Nat} (hn : xs.length * N + 1 ≤ N') : Fine N' (d + 1) C (msk S (upd H p (.tup xs))) (.ref p) :=
  Fine.tup (vs := xs) (by rw [msk_of (off.fresh hp)]; exact upd_same) (fun x hx => (h x hx).up (msk_up (Ex.new hp))) hn
end
theorem LF.more {N d : Nat} {S : List Addr} {C : Addr} {H : Hp} {a D : Addr} {xs : List V} (h : LF N d S C H a xs) (hD : H D = none) : LF N d (D :: S) C H a xs :=
  ⟨h.at_, fun z => (List.mem_cons.mp z).elim (fun z => by have := h.at_; rw [z, hD] at this; cases this) h.off, fun x hx => by rw [msk_new hD]; exact h.all x hx⟩
theorem LF.putD {N d : Nat} {S : List Addr} {C : Addr} {H : Hp} {a D : Addr} {xs : List V} {o : HO} (h : LF N d S C H a xs) (hD : D ∈ S) : LF N d S C (upd H D o) a xs :=
  ⟨by rw [upd_ne (fun z => h.off (by rw [z]; exact hD))]; exact h.at_, h.off, fun x hx => by rw [msk_put hD]; exact h.all x hx⟩
theorem Fine.less {N d : Nat} {S : List Addr} {C : Addr} {H : Hp} {D : Addr} {v : V} (h : Fine N d C (msk (D :: S) H) v) : Fine N d C (msk S H) v := h.up (msk_sub fun b hb => List.mem_cons_of_mem _ hb)
theorem mem1 {P : V → Prop} {a : V} (h : P a) : ∀ x ∈ [a], P x := fun x hx => by rw [List.mem_singleton.mp hx]; exact h
theorem mem2 {P : V → Prop} {a b : V} (h1 : P a) (h2 : P b) : ∀ x ∈ [a, b], P x := fun x hx => (List.mem_cons.mp hx).elim (fun z => z ▸ h1) (mem1 h2 x)
theorem mem3 {P : V → Prop} {a b c : V} (h1 : P a) (h2 : P b) (h3 : P c) : ∀ x ∈ [a, b, c], P x := fun x hx => (List.mem_cons.mp hx).elim (fun z => z ▸ h1) (mem2 h2 h3 x)
theorem mem4 {P : V → Prop} {a b c d : V} (h1 : P a) (h2 : P b) (h3 : P c) (h4 : P d) : ∀ x ∈ [a, b, c, d], P x := fun x hx => (List.mem_cons.mp hx).elim (fun z => z ▸ h1) (mem3 h2 h3 h4 x)
theorem memA {P : V → Prop} {xs ys : List V} (h1 : ∀ x ∈ xs, P x) (h2 : ∀ x ∈ ys, P x) : ∀ x ∈ xs ++ ys, P x := fun x hx => (List.mem_append.mp hx).elim (h1 x) (h2 x)
/-- rows of numbers, outside of S -/
def RowsAt (C : Addr) (H : Hp) (S : List Addr) (wide : Nat) (rs : List Addr) : Prop := ∀ r ∈ rs, r ∉ S ∧ ∃ ns, H r = some (.lst ns) ∧ ns.length = wide ∧ ∀ n ∈ ns, NumT C H n
theorem RowsAt.pot {C : Addr} {H H' : Hp} {S : List Addr} {wide : Nat} {rs : List Addr} {p : Addr} (h : RowsAt C H S wide rs) (hp : Pot H p) (ps : p ∈ S) (e : ExP p H H') : RowsAt C H' S wide rs := fun r hr => by
  obtain ⟨h1, ns, h2, h3, h4⟩ := h r hr
  exact ⟨h1, ns, e.1 _ _ (fun z => h1 (z ▸ ps)) h2, h3, fun n hn => (h4 n hn).pot hp e⟩
theorem RowsAt.up {C : Addr} {H H' : Hp} {S : List Addr} {wide : Nat} {rs : List Addr} (h : RowsAt C H S wide rs) (e : Ex H H') : RowsAt C H' S wide rs := fun r hr => by
  obtain ⟨h1, ns, h2, h3, h4⟩ := h r hr
  exact ⟨h1, ns, e _ _ h2, h3, fun n hn => (h4 n hn).up e⟩
theorem RowsAt.lf {C : Addr} {H : Hp} {S : List Addr} {wide : Nat} {rs : List Addr} {l : Addr} (h : RowsAt C H S wide rs) (o : Off S H) (hl : H l = some (.lst (rs.map V.ref))) (ls : l ∉ S) (hw : wide ≤ 4) : LF 5 1 S C H l (rs.map V.ref) := by
  refine ⟨hl, ls, fun x hx => ?_⟩
  obtain ⟨r, hr, rfl⟩ := List.mem_map.mp hx
  obtain ⟨h1, ns, h2, h3, h4⟩ := h r hr
  exact Fine.lst (N := 1) (d := 0) (by rw [msk_of h1]; exact h2) (fun n hn => (h4 n hn).fine o) (by omega)
def spBent (C : Addr) : Sp := fun vs H Q _ => ∃ (p l : Addr) (rs : List Addr) (wide : Nat) (S : List Addr), vs = [.ref p, .ref l] ∧ Pot H p ∧ p ∈ S ∧ Off S H ∧ l ∉ S ∧ H l = some (.lst (rs.map V.ref)) ∧ 1 ≤ rs.length ∧ rs.length ≤ 4 ∧ 1 ≤ wide ∧ wide ≤ 4 ∧ RowsAt C H S wide rs ∧
  ∀ out vs H', ExP p H H' → H out = none → H' out = some (.lst vs) → vs.length = 10 → (∀ v ∈ vs, Fine 100 3 C (msk S H') v) → Q (.ref out) H'
section
variable {P : Program} {w : World} {K : PySem.W.Frag} {mg : Str → Option Value} {base : Heap} {f C : Addr} {fd : FuncData}
theorem sc__law_bent : FnScope ["pot", "table", "row", "place", "odd", "ahead", "line", "rest", "found"] ["pot", "table"] (defScope (top 53)) := ⟨rfl, rfl, rfl, by decide +kernel, rfl, by decide +kernel, by decide +kernel⟩
theorem ok_law_bent (F : Fun K "_law_bent" "_law_bent" (top 53) f fd) (R : RCl K mg C) (T : Tx mg) (MR : MkR P w K mg base C) (C__law_draw : ClO P w K mg base "_law_draw" 1 ["pot", "many"] spDraw) (C__law_pick : ClO P w K mg base "_law_pick" 2 ["pot", "some"] spPick) : FnOk P w K mg base CX0 4 f fd ["pot", "table"] (spBent C) := by
  have sc := sc__law_bent
  refine F.ok sc (fun vs H Q E h => ?_) (fun cdv A outer s H vs Q E hr h => ?_)
  · obtain ⟨_, _, _, _, _, rfl, _⟩ := h; rfl
  obtain ⟨p, l, rs, wide, S, rfl, hp, pS, off, lS, hl, t1, t4, w1, w4, hrs, q⟩ := h
  have np : l ≠ p := fun z => lS (z ▸ pS)
  have sl : sizeLine = 16777216 := sizeLine_eq
  have ln : (rs.map V.ref).length = rs.length := List.length_map _
  have n13 := low_bt (n := 3) (m := 3) (a := 1) (b := 3) (by unfold Bt; decide) (by unfold Bt; decide) (by decide)
  refine ⟨_, (pss_cut (ps_par (i := 2) (j := 3) rfl sc.nd rfl rfl (by decide) rfl rfl (pa_cons (pe_clo C__law_draw (hr.mono (by first | decide | omega)) (pa_cons (pv 0) (pa_cons (pe_callB call_len_seq rfl T.b_len bt_len (pa_cons (pv 1) pa_nil)) pa_nil))) (pa_cons (pe_clo C__law_draw (hr.mono (by first | decide | omega)) (pa_cons (pv 0) (pa_cons (pe_callB call_len_seq rfl T.b_len bt_len (pa_cons (pe_ix ix_list (pv 1) pe_int (fun _ _ => rfl)) pa_nil)) pa_nil))) pa_nil)) rfl) (pss_cut (ps_set (i := 4) sc.nd rfl (Or.inl rfl) (pe_clo C__law_pick (hr.mono (by first | decide | omega)) (pa_cons (pv 0) (pa_cons (pe_lst (pa_cons pe_bl (pa_cons pe_non (pa_cons pe_str (pa_cons (pe_lst (pa_cons pe_int pa_nil)) (pa_cons pe_dnewK (pa_cons (pe_rat2 MR (hr.mono (by first | decide | omega)) (pa_cons pe_int (pa_cons pe_int pa_nil))) (pa_cons (pe_un un_neg pe_int) pa_nil)))))))) pa_nil)))) (pss_cut (ps_par3 (i := 5) (j := 6) (l := 7) rfl sc.nd rfl rfl rfl (by decide) (by decide) (by decide) rfl rfl rfl (pa_cons (pe_slice sl_list (pv 1) po_none (po_some (pv 2))) (pa_cons (pe_ix ix_list (pv 1) (pv 2) (fun _ _ => rfl)) (pa_cons (pe_slice sl_list (pv 1) (po_some (pe_op op_add (pv 2) pe_int)) po_none) pa_nil))) rfl) (pss_cut (ps_set (i := 8) sc.nd rfl (Or.inl rfl) (pe_lst (pa_cons (pe_op op_cat (pe_op op_cat (pv 5) (pe_lst (pa_cons (pe_op op_cat (pe_op op_cat (pe_slice sl_list (pv 6) po_none (po_some (pv 3))) (pe_lst (pa_cons (pv 4) pa_nil))) (pe_slice sl_list (pv 6) (po_some (pe_op op_add (pv 3) pe_int)) po_none)) pa_nil))) (pv 7)) (pa_cons (pe_op op_cat (pe_op op_cat (pv 5) (pe_lst (pa_cons (pe_op op_cat (pv 6) (pe_lst (pa_cons pe_int pa_nil))) pa_nil))) (pv 7)) (pa_cons (pe_op op_cat (pv 1) (pe_lst (pa_cons (pe_ix ix_list (pv 1) pe_int (fun _ _ => rfl)) pa_nil))) pa_nil))))) (pss_cut (ps_expr (pe_bm PySem.F.plainAttrs_list PySem.F.slot_list_extend PySem.F.type_list_extend mt_extend (pv 8) (pa_cons (pe_lst (pa_cons (pe_op op_cat (pe_op op_cat (pv 5) (pe_lst (pa_cons (pe_slice sl_list (pv 6) po_none (po_some (pe_un un_neg pe_int))) pa_nil))) (pv 7)) (pa_cons (pe_op op_cat (pe_op op_cat (pv 5) (pe_lst (pa_cons (pe_callTy call_tuple_of rfl T.b_tuple bt_tuple (pa_cons (pv 6) pa_nil)) pa_nil))) (pv 7)) (pa_cons (pe_callTy call_tuple_of rfl T.b_tuple bt_tuple (pa_cons (pv 1) pa_nil)) pa_nil)))) pa_nil))) (pss_one (ps_ret (pe_op op_cat (pv 8) (pe_lst (pa_cons (pe_op op_cat (pv 5) (pv 7)) (pa_cons (pe_lst (pa_cons (pv 1) pa_nil)) (pa_cons (pv 6) (pa_cons (pe_op op_cat (pe_op op_cat (pv 5) (pe_lst (pa_cons pe_non pa_nil))) (pv 7)) pa_nil))))))))))))), ?_⟩
  refine ⟨fun σ' H' => ∃ row place : Nat, σ' = [some (.ref p), some (.ref l), some (.int row), some (.int place), none, none, none, none, none] ∧ ExP p H H' ∧ row < rs.length ∧ place < wide, ?_, ?_⟩
  · refine ⟨_, rfl, _, rfl, l, _, rfl, .inl (sq_of hl), p, rs.length, by rw [ln], hp, by omega, by omega, fun row H1 e1 hp1 hrow => ?_⟩
    have x1 := ExP.mk e1 hp1
    have hl1 := e1 _ _ np hl
    obtain ⟨r0, hr0⟩ : ∃ r0, rs[0]? = some r0 := ⟨rs[0], List.getElem?_eq_getElem (by omega)⟩
    obtain ⟨_, ns, hn1, hn2, _⟩ := hrs.pot hp pS x1 r0 (List.mem_of_getElem? hr0)
    refine ⟨_, rfl, _, rfl, l, _, 0, .ref r0, rfl, rfl, sq_of hl1, atI_nat (j := 0) (by rw [List.getElem?_map, hr0]; rfl), r0, ns, rfl, .inl (sq_of hn1), p, wide, by rw [hn2], hp1, by omega, by omega, fun place H2 e2 hp2 hplace => ?_⟩
    exact ⟨_, _, rfl, row, place, rfl, x1.trans (.mk e2 hp2), hrow, hplace⟩
  rintro σ' H1 ⟨row, place, rfl, x1, hrow, hplace⟩
  have hp1 := x1.2 hp
  replace off := off.pot hp x1
  replace hl := x1.1 _ _ np hl
  replace hrs := hrs.pot hp pS x1
  refine ⟨fun σ' H' => ∃ odd, σ' = [some (.ref p), some (.ref l), some (.int row), some (.int place), some odd, none, none, none, none] ∧ ExP p H1 H' ∧ Fine 2 1 C (msk S H') odd, ?_, ?_⟩
  · refine ⟨_, rfl, ?_⟩
    refine ⟨(by show 1 ≤ sizeLine; decide), fun a1 h1 => ?_⟩
    have e1 := Ex.new (o := .lst [.int 1]) h1
    have o1 := off.up e1
    have f1 : Fine 2 1 C (msk S (upd H1 a1 (.lst [.int 1]))) (.ref a1) := (LF.new (N := 1) (d := 0) (xs := [.int 1]) off h1 (fun x hx => by obtain rfl := List.mem_singleton.mp hx; exact Fine.int (Nat.lt_of_lt_of_le (by decide : (1 : Int).natAbs < 2) (by decide +kernel)))).fine (by decide)
    generalize upd H1 a1 (.lst [.int 1]) = H2 at e1 o1 f1 ⊢
    refine fun a2 h2 => ?_
    have e2 := Ex.new (o := .dK []) h2
    have o2 := o1.up e2
    have f2 : Fine 1 0 C (msk S (upd H2 a2 (.dK []))) (.ref a2) := Fine.emp (by rw [msk_of (o1.fresh h2)]; exact upd_same)
    generalize upd H2 a2 (.dK []) = H3 at e2 o2 f2 ⊢
    intro x3 d3 hx3 hd3 ne3
    refine made_z hx3 hd3 ne3 (by decide) (Bt.mono (n := 3) (by unfold Bt; decide) (by decide)) (Bt.mono (n := 3) (by unfold Bt; decide) (by decide)) fun H4 e4 r4 => ⟨rfl, ?_⟩
    refine ⟨_, rfl, (by show 7 ≤ sizeLine; decide), fun a5 h5 => ?_⟩
    have e5 := Ex.new (o := .lst [.bl true, .non, .str "1", .ref a1, .ref a2, .ref x3, .int (-7)]) h5
    have o4 := o2.up e4
    have e35 := e4.trans e5
    have e25 := e2.trans e35
    have eA := e1.trans e25
    refine ⟨p, a5, _, rfl, hp1.up eA, upd_same, pot_nn (hp1.up (e1.trans (e2.trans e4))) h5, (by show 1 ≤ 7; decide), (by show 7 ≤ 100; decide), fun dd x H6 e6 hp6 hx => ?_⟩
    refine ⟨x, rfl, (ExP.of eA).trans (.mk e6 hp6), ?_⟩
    have all : ∀ y ∈ [V.bl true, .non, .str "1", .ref a1, .ref a2, .ref x3, .int (-7)], Fine 2 1 C (msk S (upd H4 a5 (.lst [.bl true, .non, .str "1", .ref a1, .ref a2, .ref x3, .int (-7)]))) y := by
      intro y hy
      simp only [List.mem_cons, List.not_mem_nil, or_false] at hy
      rcases hy with rfl | rfl | rfl | rfl | rfl | rfl | rfl
      · exact Fine.bl.mono (by decide) (by decide)
      · exact Fine.non.mono (by decide) (by decide)
      · exact (Fine.str (by decide +kernel)).mono (by decide) (by decide)
      · exact f1.up (msk_up e25)
      · exact (f2.up (msk_up e35)).mono (by decide) (by decide)
      · exact (NumT.fine (.inr ⟨_, _, _, rfl, r4.up e5, n13.1.mono (by decide), n13.2.mono (by decide), low_pos (by decide)⟩) (o4.up e5)).mono (by decide) (by decide)
      · exact (Fine.int (Nat.lt_of_lt_of_le (by decide : (-7 : Int).natAbs < 8) (by decide +kernel))).mono (by decide) (by decide)
    exact (all x (List.mem_of_getElem? hx)).up (msk_upB pS e6)
  rintro σ' H2 ⟨odd, rfl, x2, fodd⟩
  replace off := off.pot hp1 x2
  have hp2 := x2.2 hp1
  replace hl := x2.1 _ _ np hl
  replace hrs := hrs.pot hp1 pS x2
  have lt := hrs.lf off hl lS w4
  obtain ⟨r0, hr0⟩ : ∃ r0, rs[0]? = some r0 := ⟨rs[0], List.getElem?_eq_getElem (by omega)⟩
  obtain ⟨rl, hrl⟩ : ∃ rl, rs[row]? = some rl := ⟨rs[row], List.getElem?_eq_getElem hrow⟩
  obtain ⟨rlS, ns, hn1, hn2, hn3⟩ := hrs rl (List.mem_of_getElem? hrl)
  have ll : LF 1 0 S C H2 rl ns := ⟨hn1, rlS, fun n hn => (hn3 n hn).fine off⟩
  have frl : Fine 5 1 C (msk S H2) (.ref rl) := ll.fine (by omega)
  have fr0 : Fine 5 1 C (msk S H2) (.ref r0) := lt.all _ (List.mem_map.mpr ⟨r0, List.mem_of_getElem? hr0, rfl⟩)
  have lft : ((rs.map V.ref).take row).length = row := by rw [List.length_take, ln]; omega
  have lfr : ((rs.map V.ref).drop (row + 1)).length = rs.length - (row + 1) := by rw [List.length_drop, ln]
  refine ⟨fun σ' H' => ∃ la lr, σ' = [some (.ref p), some (.ref l), some (.int row), some (.int place), some odd, some (.ref la), some (.ref rl), some (.ref lr), none] ∧ Ex H2 H' ∧ LF 5 1 S C H' la ((rs.map V.ref).take row) ∧ LF 5 1 S C H' lr ((rs.map V.ref).drop (row + 1)), ?_, ?_⟩
  · refine ⟨_, rfl, _, rfl, _, rfl, l, _, rfl, sq_of hl, fun la hla => ?_⟩
    have ea := Ex.new (o := .lst (cutV (rs.map V.ref) none (some (row : Int)))) hla
    have fa : LF 5 1 S C (upd H2 la (.lst (cutV (rs.map V.ref) none (some (row : Int))))) la (cutV (rs.map V.ref) none (some (row : Int))) := LF.new off hla (lt.cut _ _)
    have oa := off.up ea
    rw [cut_lo (α := Unit) _ row (by omega)] at fa ea oa
    rw [cut_lo (α := Unit) _ row (by omega)]
    generalize upd H2 la (.lst ((rs.map V.ref).take row)) = Ha at ea fa oa ⊢
    refine ⟨_, rfl, _, rfl, l, _, row, .ref rl, rfl, rfl, sq_of (ea _ _ hl), atI_nat (by rw [List.getElem?_map, hrl]; rfl), ?_⟩
    refine ⟨_, rfl, _, rfl, _, _, rfl, rfl, _, rfl, l, _, rfl, sq_of (ea _ _ hl), fun lr hlr => ?_⟩
    have eb := Ex.new (o := .lst (cutV (rs.map V.ref) (some ((row : Int) + 1)) none)) hlr
    have fb : LF 5 1 S C (upd Ha lr (.lst (cutV (rs.map V.ref) (some ((row : Int) + 1)) none))) lr (cutV (rs.map V.ref) (some ((row : Int) + 1)) none) := LF.new oa hlr ((lt.up ea).cut _ _)
    rw [cut_hi] at fb eb
    rw [cut_hi]
    exact ⟨_, _, _, rfl, la, lr, rfl, ea.trans eb, fa.up eb, fb⟩
  rintro σ' H3 ⟨la, lr, rfl, e3, fa, fr⟩
  have o3 := off.up e3
  replace lt := lt.up e3
  replace ll := ll.up e3
  replace fodd := fodd.up (msk_up e3)
  replace frl := frl.up (msk_up e3)
  replace fr0 := fr0.up (msk_up e3)
  have x3 := x1.trans (x2.trans (ExP.of e3))
  clear off x1 x2 e3 hl hrs hn1 rlS
  refine ⟨fun σ' H' => ∃ D vs, σ' = [some (.ref p), some (.ref l), some (.int row), some (.int place), some odd, some (.ref la), some (.ref rl), some (.ref lr), some (.ref D)] ∧ Ex H3 H' ∧ H3 D = none ∧ H' D = some (.lst vs) ∧ vs.length = 3 ∧ ∀ v ∈ vs, Fine 37 3 C (msk (D :: S) H') v, ?_, ?_⟩
  · have take_le : ∀ i : Nat, (ns.take i).length ≤ 4 := fun i => by rw [List.length_take]; omega
    refine ⟨_, rfl, ?_⟩
    refine ⟨_, rfl, _, rfl, _, rfl, rl, _, rfl, sq_of ll.at_, fun a4 h4 => ?_⟩
    have e4 := Ex.new (o := .lst (cutV ns none (some (place : Int)))) h4
    have o4 := o3.up e4
    have f4 : LF 1 0 S C (upd H3 a4 (.lst (cutV ns none (some (place : Int))))) a4 (cutV ns none (some (place : Int))) := LF.new o3 h4 (ll.cut _ _)
    generalize upd H3 a4 (.lst (cutV ns none (some (place : Int)))) = H4 at e4 o4 f4 ⊢
    refine ⟨_, rfl, (by show 1 ≤ sizeLine; decide), fun a5 h5 => ?_⟩
    have e5 := Ex.new (o := .lst [odd]) h5
    have o5 := o4.up e5
    have f5 : LF 2 1 S C (upd H4 a5 (.lst [odd])) a5 [odd] := LF.new o4 h5 (mem1 (fodd.up (msk_up e4)))
    generalize upd H4 a5 (.lst [odd]) = H5 at e5 o5 f5 ⊢
    refine ⟨a4, a5, _, _, rfl, rfl, (f4.up e5).at_, f5.at_, (by have z1 := cutV_length ns none (some (place : Int)); have z2 := cutV_length ns (some ((place : Int) + 1)) none; simp only [List.length_append, List.length_cons, List.length_nil]; omega), fun a6 h6 => ?_⟩
    have e6 := Ex.new (o := .lst ((cutV ns none (some (place : Int))) ++ [odd])) h6
    have o6 := o5.up e6
    have f6 : LF 2 1 S C (upd H5 a6 (.lst ((cutV ns none (some (place : Int))) ++ [odd]))) a6 ((cutV ns none (some (place : Int))) ++ [odd]) := LF.new o5 h6 (memA ((f4.up e5).mono (by decide) (by decide)).all (f5.mono (by decide) (by decide)).all)
    generalize upd H5 a6 (.lst ((cutV ns none (some (place : Int))) ++ [odd])) = H6 at e6 o6 f6 ⊢
    refine ⟨_, rfl, _, rfl, _, _, rfl, rfl, _, rfl, rl, _, rfl, sq_of (ll.up (e4.trans (e5.trans e6))).at_, fun a7 h7 => ?_⟩
    have e7 := Ex.new (o := .lst (cutV ns (some ((place : Int) + 1)) none)) h7
    have o7 := o6.up e7
    have f7 : LF 1 0 S C (upd H6 a7 (.lst (cutV ns (some ((place : Int) + 1)) none))) a7 (cutV ns (some ((place : Int) + 1)) none) := LF.new o6 h7 ((ll.up (e4.trans (e5.trans e6))).cut _ _)
    generalize upd H6 a7 (.lst (cutV ns (some ((place : Int) + 1)) none)) = H7 at e7 o7 f7 ⊢
    refine ⟨a6, a7, _, _, rfl, rfl, (f6.up e7).at_, f7.at_, (by have z1 := cutV_length ns none (some (place : Int)); have z2 := cutV_length ns (some ((place : Int) + 1)) none; simp only [List.length_append, List.length_cons, List.length_nil]; omega), fun a8 h8 => ?_⟩
    have e8 := Ex.new (o := .lst (((cutV ns none (some (place : Int))) ++ [odd]) ++ (cutV ns (some ((place : Int) + 1)) none))) h8
    have o8 := o7.up e8
    have f8 : LF 2 1 S C (upd H7 a8 (.lst (((cutV ns none (some (place : Int))) ++ [odd]) ++ (cutV ns (some ((place : Int) + 1)) none)))) a8 (((cutV ns none (some (place : Int))) ++ [odd]) ++ (cutV ns (some ((place : Int) + 1)) none)) := LF.new o7 h8 (memA ((f6.up e7).mono (by decide) (by decide)).all (f7.mono (by decide) (by decide)).all)
    generalize upd H7 a8 (.lst (((cutV ns none (some (place : Int))) ++ [odd]) ++ (cutV ns (some ((place : Int) + 1)) none))) = H8 at e8 o8 f8 ⊢
    have g8 : Fine 9 2 C (msk S H8) (.ref a8) := f8.fine (by rw [cut_lo (α := Unit) ns place (by omega), cut_hi]; simp only [List.length_append, List.length_cons, List.length_nil, List.length_take, List.length_drop]; omega)
    refine ⟨(by show 1 ≤ sizeLine; decide), fun a9 h9 => ?_⟩
    have e9 := Ex.new (o := .lst [(.ref a8)]) h9
    have o9 := o8.up e9
    have f9 : LF 9 2 S C (upd H8 a9 (.lst [(.ref a8)])) a9 [(.ref a8)] := LF.new o8 h9 (mem1 g8)
    generalize upd H8 a9 (.lst [(.ref a8)]) = H9 at e9 o9 f9 ⊢
    refine ⟨la, a9, _, _, rfl, rfl, (fa.up (e4.trans (e5.trans (e6.trans (e7.trans (e8.trans e9)))))).at_, f9.at_, (by simp only [List.length_append, List.length_cons, List.length_nil, List.length_take, List.length_drop, List.length_map]; omega), fun a10 h10 => ?_⟩
    have e10 := Ex.new (o := .lst (((rs.map V.ref).take row) ++ [(.ref a8)])) h10
    have o10 := o9.up e10
    have f10 : LF 9 2 S C (upd H9 a10 (.lst (((rs.map V.ref).take row) ++ [(.ref a8)]))) a10 (((rs.map V.ref).take row) ++ [(.ref a8)]) := LF.new o9 h10 (memA ((fa.up (e4.trans (e5.trans (e6.trans (e7.trans (e8.trans e9)))))).mono (by decide) (by decide)).all (f9.mono (by decide) (by decide)).all)
    generalize upd H9 a10 (.lst (((rs.map V.ref).take row) ++ [(.ref a8)])) = H10 at e10 o10 f10 ⊢
    refine ⟨_, rfl, a10, lr, _, _, rfl, rfl, f10.at_, (fr.up (e4.trans (e5.trans (e6.trans (e7.trans (e8.trans (e9.trans e10))))))).at_, (by simp only [List.length_append, List.length_cons, List.length_nil, List.length_take, List.length_drop, List.length_map]; omega), fun a11 h11 => ?_⟩
    have e11 := Ex.new (o := .lst ((((rs.map V.ref).take row) ++ [(.ref a8)]) ++ ((rs.map V.ref).drop (row + 1)))) h11
    have o11 := o10.up e11
    have f11 : LF 9 2 S C (upd H10 a11 (.lst ((((rs.map V.ref).take row) ++ [(.ref a8)]) ++ ((rs.map V.ref).drop (row + 1))))) a11 ((((rs.map V.ref).take row) ++ [(.ref a8)]) ++ ((rs.map V.ref).drop (row + 1))) := LF.new o10 h11 (memA (f10.mono (by decide) (by decide)).all ((fr.up (e4.trans (e5.trans (e6.trans (e7.trans (e8.trans (e9.trans e10))))))).mono (by decide) (by decide)).all)
    generalize upd H10 a11 (.lst ((((rs.map V.ref).take row) ++ [(.ref a8)]) ++ ((rs.map V.ref).drop (row + 1)))) = H11 at e11 o11 f11 ⊢
    have k1 : Fine 37 3 C (msk S H11) (.ref a11) := (f11.fine (N' := 37) (by simp only [List.length_append, List.length_cons, List.length_nil, List.length_take, List.length_drop, List.length_map]; omega)).mono (by decide) (by decide)
    refine ⟨_, rfl, ?_⟩
    refine ⟨_, rfl, (by show 1 ≤ sizeLine; decide), fun a12 h12 => ?_⟩
    have e12 := Ex.new (o := .lst [.int 0]) h12
    have o12 := o11.up e12
    have f12 : LF 1 0 S C (upd H11 a12 (.lst [.int 0])) a12 [.int 0] := LF.new o11 h12 (mem1 (Fine.int (by decide +kernel)))
    generalize upd H11 a12 (.lst [.int 0]) = H12 at e12 o12 f12 ⊢
    refine ⟨rl, a12, _, _, rfl, rfl, (ll.up (e4.trans (e5.trans (e6.trans (e7.trans (e8.trans (e9.trans (e10.trans (e11.trans e12))))))))).at_, f12.at_, (by simp only [List.length_append, List.length_cons, List.length_nil]; omega), fun a13 h13 => ?_⟩
    have e13 := Ex.new (o := .lst (ns ++ [.int 0])) h13
    have o13 := o12.up e13
    have f13 : LF 1 0 S C (upd H12 a13 (.lst (ns ++ [.int 0]))) a13 (ns ++ [.int 0]) := LF.new o12 h13 (memA ((ll.up (e4.trans (e5.trans (e6.trans (e7.trans (e8.trans (e9.trans (e10.trans (e11.trans e12))))))))).mono (by decide) (by decide)).all (f12.mono (by decide) (by decide)).all)
    generalize upd H12 a13 (.lst (ns ++ [.int 0])) = H13 at e13 o13 f13 ⊢
    have g13 : Fine 6 1 C (msk S H13) (.ref a13) := f13.fine (by simp only [List.length_append, List.length_cons, List.length_nil]; omega)
    refine ⟨(by show 1 ≤ sizeLine; decide), fun a14 h14 => ?_⟩
    have e14 := Ex.new (o := .lst [(.ref a13)]) h14
    have o14 := o13.up e14
    have f14 : LF 6 1 S C (upd H13 a14 (.lst [(.ref a13)])) a14 [(.ref a13)] := LF.new o13 h14 (mem1 g13)
    generalize upd H13 a14 (.lst [(.ref a13)]) = H14 at e14 o14 f14 ⊢
    refine ⟨la, a14, _, _, rfl, rfl, (fa.up (e4.trans (e5.trans (e6.trans (e7.trans (e8.trans (e9.trans (e10.trans (e11.trans (e12.trans (e13.trans e14))))))))))).at_, f14.at_, (by simp only [List.length_append, List.length_cons, List.length_nil, List.length_take, List.length_drop, List.length_map]; omega), fun a15 h15 => ?_⟩
    have e15 := Ex.new (o := .lst (((rs.map V.ref).take row) ++ [(.ref a13)])) h15
    have o15 := o14.up e15
    have f15 : LF 6 1 S C (upd H14 a15 (.lst (((rs.map V.ref).take row) ++ [(.ref a13)]))) a15 (((rs.map V.ref).take row) ++ [(.ref a13)]) := LF.new o14 h15 (memA ((fa.up (e4.trans (e5.trans (e6.trans (e7.trans (e8.trans (e9.trans (e10.trans (e11.trans (e12.trans (e13.trans e14))))))))))).mono (by decide) (by decide)).all (f14.mono (by decide) (by decide)).all)
    generalize upd H14 a15 (.lst (((rs.map V.ref).take row) ++ [(.ref a13)])) = H15 at e15 o15 f15 ⊢
    refine ⟨_, rfl, a15, lr, _, _, rfl, rfl, f15.at_, (fr.up (e4.trans (e5.trans (e6.trans (e7.trans (e8.trans (e9.trans (e10.trans (e11.trans (e12.trans (e13.trans (e14.trans e15)))))))))))).at_, (by simp only [List.length_append, List.length_cons, List.length_nil, List.length_take, List.length_drop, List.length_map]; omega), fun a16 h16 => ?_⟩
    have e16 := Ex.new (o := .lst ((((rs.map V.ref).take row) ++ [(.ref a13)]) ++ ((rs.map V.ref).drop (row + 1)))) h16
    have o16 := o15.up e16
    have f16 : LF 6 1 S C (upd H15 a16 (.lst ((((rs.map V.ref).take row) ++ [(.ref a13)]) ++ ((rs.map V.ref).drop (row + 1))))) a16 ((((rs.map V.ref).take row) ++ [(.ref a13)]) ++ ((rs.map V.ref).drop (row + 1))) := LF.new o15 h16 (memA (f15.mono (by decide) (by decide)).all ((fr.up (e4.trans (e5.trans (e6.trans (e7.trans (e8.trans (e9.trans (e10.trans (e11.trans (e12.trans (e13.trans (e14.trans e15)))))))))))).mono (by decide) (by decide)).all)
    generalize upd H15 a16 (.lst ((((rs.map V.ref).take row) ++ [(.ref a13)]) ++ ((rs.map V.ref).drop (row + 1)))) = H16 at e16 o16 f16 ⊢
    have k2 : Fine 37 3 C (msk S H16) (.ref a16) := (f16.fine (N' := 37) (by simp only [List.length_append, List.length_cons, List.length_nil, List.length_take, List.length_drop, List.length_map]; omega)).mono (by decide) (by decide)
    refine ⟨_, rfl, _, rfl, l, _, 0, .ref r0, rfl, rfl, sq_of (lt.up (e4.trans (e5.trans (e6.trans (e7.trans (e8.trans (e9.trans (e10.trans (e11.trans (e12.trans (e13.trans (e14.trans (e15.trans e16))))))))))))).at_, atI_nat (j := 0) (by rw [List.getElem?_map, hr0]; rfl), (by show 1 ≤ sizeLine; decide), fun a17 h17 => ?_⟩
    have e17 := Ex.new (o := .lst [.ref r0]) h17
    have o17 := o16.up e17
    have f17 : LF 5 1 S C (upd H16 a17 (.lst [.ref r0])) a17 [.ref r0] := LF.new o16 h17 (mem1 (fr0.up (msk_up (e4.trans (e5.trans (e6.trans (e7.trans (e8.trans (e9.trans (e10.trans (e11.trans (e12.trans (e13.trans (e14.trans (e15.trans e16)))))))))))))))
    generalize upd H16 a17 (.lst [.ref r0]) = H17 at e17 o17 f17 ⊢
    refine ⟨l, a17, _, _, rfl, rfl, (lt.up (e4.trans (e5.trans (e6.trans (e7.trans (e8.trans (e9.trans (e10.trans (e11.trans (e12.trans (e13.trans (e14.trans (e15.trans (e16.trans e17)))))))))))))).at_, f17.at_, (by simp only [List.length_append, List.length_cons, List.length_nil, List.length_take, List.length_drop, List.length_map]; omega), fun a18 h18 => ?_⟩
    have e18 := Ex.new (o := .lst ((rs.map V.ref) ++ [.ref r0])) h18
    have o18 := o17.up e18
    have f18 : LF 5 1 S C (upd H17 a18 (.lst ((rs.map V.ref) ++ [.ref r0]))) a18 ((rs.map V.ref) ++ [.ref r0]) := LF.new o17 h18 (memA ((lt.up (e4.trans (e5.trans (e6.trans (e7.trans (e8.trans (e9.trans (e10.trans (e11.trans (e12.trans (e13.trans (e14.trans (e15.trans (e16.trans e17)))))))))))))).mono (by decide) (by decide)).all (f17.mono (by decide) (by decide)).all)
    generalize upd H17 a18 (.lst ((rs.map V.ref) ++ [.ref r0])) = H18 at e18 o18 f18 ⊢
    have k3 : Fine 37 3 C (msk S H18) (.ref a18) := (f18.fine (N' := 37) (by simp only [List.length_append, List.length_cons, List.length_nil, List.length_take, List.length_drop, List.length_map]; omega)).mono (by decide) (by decide)
    refine ⟨(by show 3 ≤ sizeLine; decide), fun D hD => ?_⟩
    refine ⟨D, _, rfl, (e4.trans (e5.trans (e6.trans (e7.trans (e8.trans (e9.trans (e10.trans (e11.trans (e12.trans (e13.trans (e14.trans (e15.trans (e16.trans (e17.trans e18)))))))))))))).trans (Ex.new hD), fresh_back (e4.trans (e5.trans (e6.trans (e7.trans (e8.trans (e9.trans (e10.trans (e11.trans (e12.trans (e13.trans (e14.trans (e15.trans (e16.trans (e17.trans e18)))))))))))))) hD, upd_same, rfl, ?_⟩
    rw [msk_put (List.mem_cons_self), msk_new hD]
    exact mem3 (k1.up (msk_up (e12.trans (e13.trans (e14.trans (e15.trans (e16.trans (e17.trans e18)))))))) (k2.up (msk_up (e17.trans e18))) k3
  rintro σ' H20 ⟨D, vs, rfl, ef, hD0, hD, v3, fv⟩
  have fa := (fa.more hD0).up ef
  have fr := (fr.more hD0).up ef
  have lt := (lt.more hD0).up ef
  have ll := (ll.more hD0).up ef
  have o20 := (o3.up ef).cons hD
  have hp3 := x3.2 hp
  have hDH : H D = none := x3.1.fresh (pot_nn hp3 hD0) hD0
  have nDp : D ≠ p := pot_nn hp3 hD0
  replace x3 := x3.trans (ExP.of ef)
  clear o3 ef fodd frl fr0 hD0
  refine ⟨fun σ' H' => ∃ vs, σ' = [some (.ref p), some (.ref l), some (.int row), some (.int place), some odd, some (.ref la), some (.ref rl), some (.ref lr), some (.ref D)] ∧ ExP p H H' ∧ Off (D :: S) H' ∧ H' D = some (.lst vs) ∧ vs.length = 6 ∧ (∀ v ∈ vs, Fine 37 3 C (msk (D :: S) H') v) ∧ LF 5 1 (D :: S) C H' la ((rs.map V.ref).take row) ∧ LF 5 1 (D :: S) C H' lr ((rs.map V.ref).drop (row + 1)) ∧ LF 5 1 (D :: S) C H' l (rs.map V.ref) ∧ LF 1 0 (D :: S) C H' rl ns, ?_, ?_⟩
  · refine ⟨_, rfl, .inl ⟨rfl, vs, sq_of hD⟩, ?_⟩
    refine ⟨_, rfl, ?_⟩
    refine ⟨_, rfl, _, rfl, _, rfl, rl, _, rfl, sq_of ll.at_, fun a21 h21 => ?_⟩
    have e21 := Ex.new (o := .lst (cutV ns none (some (-1)))) h21
    have o21 := o20.up e21
    have f21 : LF 1 0 (D :: S) C (upd H20 a21 (.lst (cutV ns none (some (-1))))) a21 (cutV ns none (some (-1))) := LF.new o20 h21 (ll.cut _ _)
    generalize upd H20 a21 (.lst (cutV ns none (some (-1)))) = H21 at e21 o21 f21 ⊢
    have g21 : Fine 5 1 C (msk (D :: S) H21) (.ref a21) := f21.fine (by have := cutV_length ns none (some (-1)); omega)
    refine ⟨(by show 1 ≤ sizeLine; decide), fun a22 h22 => ?_⟩
    have e22 := Ex.new (o := .lst [(.ref a21)]) h22
    have o22 := o21.up e22
    have f22 : LF 5 1 (D :: S) C (upd H21 a22 (.lst [(.ref a21)])) a22 [(.ref a21)] := LF.new o21 h22 (mem1 g21)
    generalize upd H21 a22 (.lst [(.ref a21)]) = H22 at e22 o22 f22 ⊢
    refine ⟨la, a22, _, _, rfl, rfl, (fa.up (e21.trans e22)).at_, f22.at_, (by simp only [List.length_append, List.length_cons, List.length_nil, List.length_take, List.length_drop, List.length_map]; omega), fun a23 h23 => ?_⟩
    have e23 := Ex.new (o := .lst (((rs.map V.ref).take row) ++ [(.ref a21)])) h23
    have o23 := o22.up e23
    have f23 : LF 5 1 (D :: S) C (upd H22 a23 (.lst (((rs.map V.ref).take row) ++ [(.ref a21)]))) a23 (((rs.map V.ref).take row) ++ [(.ref a21)]) := LF.new o22 h23 (memA ((fa.up (e21.trans e22)).mono (by decide) (by decide)).all (f22.mono (by decide) (by decide)).all)
    generalize upd H22 a23 (.lst (((rs.map V.ref).take row) ++ [(.ref a21)])) = H23 at e23 o23 f23 ⊢
    refine ⟨_, rfl, a23, lr, _, _, rfl, rfl, f23.at_, (fr.up (e21.trans (e22.trans e23))).at_, (by simp only [List.length_append, List.length_cons, List.length_nil, List.length_take, List.length_drop, List.length_map]; omega), fun a24 h24 => ?_⟩
    have e24 := Ex.new (o := .lst ((((rs.map V.ref).take row) ++ [(.ref a21)]) ++ ((rs.map V.ref).drop (row + 1)))) h24
    have o24 := o23.up e24
    have f24 : LF 5 1 (D :: S) C (upd H23 a24 (.lst ((((rs.map V.ref).take row) ++ [(.ref a21)]) ++ ((rs.map V.ref).drop (row + 1))))) a24 ((((rs.map V.ref).take row) ++ [(.ref a21)]) ++ ((rs.map V.ref).drop (row + 1))) := LF.new o23 h24 (memA (f23.mono (by decide) (by decide)).all ((fr.up (e21.trans (e22.trans e23))).mono (by decide) (by decide)).all)
    generalize upd H23 a24 (.lst ((((rs.map V.ref).take row) ++ [(.ref a21)]) ++ ((rs.map V.ref).drop (row + 1)))) = H24 at e24 o24 f24 ⊢
    have k4 : Fine 37 3 C (msk (D :: S) H24) (.ref a24) := (f24.fine (N' := 37) (by simp only [List.length_append, List.length_cons, List.length_nil, List.length_take, List.length_drop, List.length_map]; omega)).mono (by decide) (by decide)
    refine ⟨_, rfl, ?_⟩
    refine ⟨_, rfl, rl, ns, rfl, .inl ⟨sq_of (ll.up (e21.trans (e22.trans (e23.trans e24)))).at_, ?_⟩⟩
    intro a25 h25
    have e25 := Ex.new (o := .tup ns) h25
    have o25 := o24.up e25
    have g25 : Fine 5 1 C (msk (D :: S) (upd H24 a25 (.tup ns))) (.ref a25) := tup_fine o24 h25 (ll.up (e21.trans (e22.trans (e23.trans e24)))).all (by omega)
    generalize upd H24 a25 (.tup ns) = H25 at e25 o25 g25 ⊢
    refine ⟨(by show 1 ≤ sizeLine; decide), fun a26 h26 => ?_⟩
    have e26 := Ex.new (o := .lst [(.ref a25)]) h26
    have o26 := o25.up e26
    have f26 : LF 5 1 (D :: S) C (upd H25 a26 (.lst [(.ref a25)])) a26 [(.ref a25)] := LF.new o25 h26 (mem1 g25)
    generalize upd H25 a26 (.lst [(.ref a25)]) = H26 at e26 o26 f26 ⊢
    refine ⟨la, a26, _, _, rfl, rfl, (fa.up (e21.trans (e22.trans (e23.trans (e24.trans (e25.trans e26)))))).at_, f26.at_, (by simp only [List.length_append, List.length_cons, List.length_nil, List.length_take, List.length_drop, List.length_map]; omega), fun a27 h27 => ?_⟩
    have e27 := Ex.new (o := .lst (((rs.map V.ref).take row) ++ [(.ref a25)])) h27
    have o27 := o26.up e27
    have f27 : LF 5 1 (D :: S) C (upd H26 a27 (.lst (((rs.map V.ref).take row) ++ [(.ref a25)]))) a27 (((rs.map V.ref).take row) ++ [(.ref a25)]) := LF.new o26 h27 (memA ((fa.up (e21.trans (e22.trans (e23.trans (e24.trans (e25.trans e26)))))).mono (by decide) (by decide)).all (f26.mono (by decide) (by decide)).all)
    generalize upd H26 a27 (.lst (((rs.map V.ref).take row) ++ [(.ref a25)])) = H27 at e27 o27 f27 ⊢
    refine ⟨_, rfl, a27, lr, _, _, rfl, rfl, f27.at_, (fr.up (e21.trans (e22.trans (e23.trans (e24.trans (e25.trans (e26.trans e27))))))).at_, (by simp only [List.length_append, List.length_cons, List.length_nil, List.length_take, List.length_drop, List.length_map]; omega), fun a28 h28 => ?_⟩
    have e28 := Ex.new (o := .lst ((((rs.map V.ref).take row) ++ [(.ref a25)]) ++ ((rs.map V.ref).drop (row + 1)))) h28
    have o28 := o27.up e28
    have f28 : LF 5 1 (D :: S) C (upd H27 a28 (.lst ((((rs.map V.ref).take row) ++ [(.ref a25)]) ++ ((rs.map V.ref).drop (row + 1))))) a28 ((((rs.map V.ref).take row) ++ [(.ref a25)]) ++ ((rs.map V.ref).drop (row + 1))) := LF.new o27 h28 (memA (f27.mono (by decide) (by decide)).all ((fr.up (e21.trans (e22.trans (e23.trans (e24.trans (e25.trans (e26.trans e27))))))).mono (by decide) (by decide)).all)
    generalize upd H27 a28 (.lst ((((rs.map V.ref).take row) ++ [(.ref a25)]) ++ ((rs.map V.ref).drop (row + 1)))) = H28 at e28 o28 f28 ⊢
    have k5 : Fine 37 3 C (msk (D :: S) H28) (.ref a28) := (f28.fine (N' := 37) (by simp only [List.length_append, List.length_cons, List.length_nil, List.length_take, List.length_drop, List.length_map]; omega)).mono (by decide) (by decide)
    refine ⟨_, rfl, l, _, rfl, .inl ⟨sq_of (lt.up (e21.trans (e22.trans (e23.trans (e24.trans (e25.trans (e26.trans (e27.trans e28)))))))).at_, ?_⟩⟩
    intro a29 h29
    have e29 := Ex.new (o := .tup (rs.map V.ref)) h29
    have o29 := o28.up e29
    have k6 : Fine 37 3 C (msk (D :: S) (upd H28 a29 (.tup (rs.map V.ref)))) (.ref a29) := (tup_fine o28 h29 (lt.up (e21.trans (e22.trans (e23.trans (e24.trans (e25.trans (e26.trans (e27.trans e28)))))))).all (N' := 37) (by omega)).mono (by decide) (by decide)
    generalize upd H28 a29 (.tup (rs.map V.ref)) = H29 at e29 o29 k6 ⊢
    refine ⟨(by show 3 ≤ sizeLine; decide), fun a30 h30 => ?_⟩
    have e30 := Ex.new (o := .lst [.ref a24, .ref a28, .ref a29]) h30
    have o30 := o29.up e30
    have f30 : LF 37 3 (D :: S) C (upd H29 a30 (.lst [.ref a24, .ref a28, .ref a29])) a30 [.ref a24, .ref a28, .ref a29] := LF.new o29 h30 (mem3 (k4.up (msk_up (e25.trans (e26.trans (e27.trans (e28.trans e29)))))) (k5.up (msk_up e29)) k6)
    generalize upd H29 a30 (.lst [.ref a24, .ref a28, .ref a29]) = H30 at e30 o30 f30 ⊢
    have hDn := (e21.trans (e22.trans (e23.trans (e24.trans (e25.trans (e26.trans (e27.trans (e28.trans (e29.trans e30))))))))) _ _ hD
    refine ⟨D, a30, vs, _, rfl, rfl, hDn, f30.at_, (by rw [v3]; show 6 ≤ sizeLine; decide), vs ++ [.ref a24, .ref a28, .ref a29], rfl, ?_, o30.put, upd_same, (by rw [List.length_append, v3]; rfl), ?_, ?_, ?_, ?_, ?_⟩
    · exact ⟨(x3.1.trans (ExB.of (e21.trans (e22.trans (e23.trans (e24.trans (e25.trans (e26.trans (e27.trans (e28.trans (e29.trans e30))))))))))).mut hDH, fun hpp => ((x3.2 hpp).up (e21.trans (e22.trans (e23.trans (e24.trans (e25.trans (e26.trans (e27.trans (e28.trans (e29.trans e30)))))))))).same (upd_ne (Ne.symm nDp))⟩
    · rw [msk_put (List.mem_cons_self)]
      exact memA (fun v hv => (fv v hv).up (msk_up (e21.trans (e22.trans (e23.trans (e24.trans (e25.trans (e26.trans (e27.trans (e28.trans (e29.trans e30))))))))))) f30.all
    · exact (fa.up (e21.trans (e22.trans (e23.trans (e24.trans (e25.trans (e26.trans (e27.trans (e28.trans (e29.trans e30)))))))))).putD (List.mem_cons_self)
    · exact (fr.up (e21.trans (e22.trans (e23.trans (e24.trans (e25.trans (e26.trans (e27.trans (e28.trans (e29.trans e30)))))))))).putD (List.mem_cons_self)
    · exact (lt.up (e21.trans (e22.trans (e23.trans (e24.trans (e25.trans (e26.trans (e27.trans (e28.trans (e29.trans e30)))))))))).putD (List.mem_cons_self)
    · exact (ll.up (e21.trans (e22.trans (e23.trans (e24.trans (e25.trans (e26.trans (e27.trans (e28.trans (e29.trans e30)))))))))).putD (List.mem_cons_self)
  clear v3 fv hD fa fr lt ll x3 o20 vs
  rintro σ' H40 ⟨vs, rfl, xg, o40, hD, v6, fv, fa, fr, lt, ll⟩
  refine ⟨_, rfl, ?_⟩
  refine ⟨_, rfl, _, rfl, la, lr, _, _, rfl, rfl, fa.at_, fr.at_, (by simp only [List.length_append, List.length_cons, List.length_nil, List.length_take, List.length_drop, List.length_map]; omega), fun a41 h41 => ?_⟩
  have e41 := Ex.new (o := .lst (((rs.map V.ref).take row) ++ ((rs.map V.ref).drop (row + 1)))) h41
  have o41 := o40.up e41
  have f41 : LF 5 1 (D :: S) C (upd H40 a41 (.lst (((rs.map V.ref).take row) ++ ((rs.map V.ref).drop (row + 1))))) a41 (((rs.map V.ref).take row) ++ ((rs.map V.ref).drop (row + 1))) := LF.new o40 h41 (memA (fa.mono (by decide) (by decide)).all (fr.mono (by decide) (by decide)).all)
  generalize upd H40 a41 (.lst (((rs.map V.ref).take row) ++ ((rs.map V.ref).drop (row + 1)))) = H41 at e41 o41 f41 ⊢
  have k7 : Fine 37 3 C (msk (D :: S) H41) (.ref a41) := (f41.fine (N' := 37) (by simp only [List.length_append, List.length_cons, List.length_nil, List.length_take, List.length_drop, List.length_map]; omega)).mono (by decide) (by decide)
  have gt : Fine 21 2 C (msk (D :: S) H41) (.ref l) := (lt.up e41).fine (by omega)
  refine ⟨_, rfl, (by show 1 ≤ sizeLine; decide), fun a42 h42 => ?_⟩
  have e42 := Ex.new (o := .lst [.ref l]) h42
  have o42 := o41.up e42
  have f42 : LF 21 2 (D :: S) C (upd H41 a42 (.lst [.ref l])) a42 [.ref l] := LF.new o41 h42 (mem1 gt)
  generalize upd H41 a42 (.lst [.ref l]) = H42 at e42 o42 f42 ⊢
  have k8 : Fine 37 3 C (msk (D :: S) H42) (.ref a42) := (f42.fine (N' := 37) (by show 1 * 21 + 1 ≤ 37; decide))
  have k9 : Fine 37 3 C (msk (D :: S) H42) (.ref rl) := ((ll.up (e41.trans e42)).fine (N' := 37) (by omega)).mono (by decide) (by decide)
  refine ⟨_, rfl, ?_⟩
  refine ⟨_, rfl, ?_⟩
  have gn : Fine 1 0 C (msk (D :: S) H42) .non := Fine.non
  refine ⟨(by show 1 ≤ sizeLine; decide), fun a43 h43 => ?_⟩
  have e43 := Ex.new (o := .lst [.non]) h43
  have o43 := o42.up e43
  have f43 : LF 1 0 (D :: S) C (upd H42 a43 (.lst [.non])) a43 [.non] := LF.new o42 h43 (mem1 gn)
  generalize upd H42 a43 (.lst [.non]) = H43 at e43 o43 f43 ⊢
  refine ⟨la, a43, _, _, rfl, rfl, (fa.up (e41.trans (e42.trans e43))).at_, f43.at_, (by simp only [List.length_append, List.length_cons, List.length_nil, List.length_take, List.length_drop, List.length_map]; omega), fun a44 h44 => ?_⟩
  have e44 := Ex.new (o := .lst (((rs.map V.ref).take row) ++ [.non])) h44
  have o44 := o43.up e44
  have f44 : LF 5 1 (D :: S) C (upd H43 a44 (.lst (((rs.map V.ref).take row) ++ [.non]))) a44 (((rs.map V.ref).take row) ++ [.non]) := LF.new o43 h44 (memA ((fa.up (e41.trans (e42.trans e43))).mono (by decide) (by decide)).all (f43.mono (by decide) (by decide)).all)
  generalize upd H43 a44 (.lst (((rs.map V.ref).take row) ++ [.non])) = H44 at e44 o44 f44 ⊢
  refine ⟨_, rfl, a44, lr, _, _, rfl, rfl, f44.at_, (fr.up (e41.trans (e42.trans (e43.trans e44)))).at_, (by simp only [List.length_append, List.length_cons, List.length_nil, List.length_take, List.length_drop, List.length_map]; omega), fun a45 h45 => ?_⟩
  have e45 := Ex.new (o := .lst ((((rs.map V.ref).take row) ++ [.non]) ++ ((rs.map V.ref).drop (row + 1)))) h45
  have o45 := o44.up e45
  have f45 : LF 5 1 (D :: S) C (upd H44 a45 (.lst ((((rs.map V.ref).take row) ++ [.non]) ++ ((rs.map V.ref).drop (row + 1))))) a45 ((((rs.map V.ref).take row) ++ [.non]) ++ ((rs.map V.ref).drop (row + 1))) := LF.new o44 h45 (memA (f44.mono (by decide) (by decide)).all ((fr.up (e41.trans (e42.trans (e43.trans e44)))).mono (by decide) (by decide)).all)
  generalize upd H44 a45 (.lst ((((rs.map V.ref).take row) ++ [.non]) ++ ((rs.map V.ref).drop (row + 1)))) = H45 at e45 o45 f45 ⊢
  have k10 : Fine 37 3 C (msk (D :: S) H45) (.ref a45) := (f45.fine (N' := 37) (by simp only [List.length_append, List.length_cons, List.length_nil, List.length_take, List.length_drop, List.length_map]; omega)).mono (by decide) (by decide)
  refine ⟨(by show 4 ≤ sizeLine; decide), fun a46 h46 => ?_⟩
  have e46 := Ex.new (o := .lst [.ref a41, .ref a42, .ref rl, .ref a45]) h46
  have o46 := o45.up e46
  have f46 : LF 37 3 (D :: S) C (upd H45 a46 (.lst [.ref a41, .ref a42, .ref rl, .ref a45])) a46 [.ref a41, .ref a42, .ref rl, .ref a45] := LF.new o45 h46 (mem4 (k7.up (msk_up (e42.trans (e43.trans (e44.trans e45))))) (k8.up (msk_up (e43.trans (e44.trans e45)))) (k9.up (msk_up (e43.trans (e44.trans e45)))) k10)
  generalize upd H45 a46 (.lst [.ref a41, .ref a42, .ref rl, .ref a45]) = H46 at e46 o46 f46 ⊢
  refine ⟨D, a46, vs, _, rfl, rfl, (e41.trans (e42.trans (e43.trans (e44.trans (e45.trans e46))))) _ _ hD, f46.at_, (by rw [v6]; show 10 ≤ sizeLine; decide), fun out hout => ?_⟩
  have eo := Ex.new (o := .lst (vs ++ [.ref a41, .ref a42, .ref rl, .ref a45])) hout
  have all := memA (P := fun v => Fine 37 3 C (msk (D :: S) (upd H46 out (.lst (vs ++ [.ref a41, .ref a42, .ref rl, .ref a45])))) v) (fun v hv => (fv v hv).up (msk_up ((e41.trans (e42.trans (e43.trans (e44.trans (e45.trans e46))))).trans eo))) (fun v hv => (f46.all v hv).up (msk_up eo))
  have xo : ExP p H (upd H46 out (.lst (vs ++ [.ref a41, .ref a42, .ref rl, .ref a45]))) := xg.trans (ExP.of ((e41.trans (e42.trans (e43.trans (e44.trans (e45.trans e46))))).trans eo))
  exact q out _ _ xo ((xg.trans (ExP.of (e41.trans (e42.trans (e43.trans (e44.trans (e45.trans e46))))))).1.fresh (pot_nn ((xg.trans (ExP.of (e41.trans (e42.trans (e43.trans (e44.trans (e45.trans e46))))))).2 hp) hout) hout) upd_same (by rw [List.length_append, v6]; rfl) fun v hv => ((all v hv).mono (by decide) (by decide)).less
end
end B71

namespace B71
open PySem PySem.Spec PyProof.Rows L2 Evl RZ SrtO

/-! ### calls with keywords -/
structure ClQ (P : Program) (w : World) (K : PySem.W.Frag) (mg : Str → Option Value) (base : Heap) (x : Str) (k : Nat) (ps ks : List Str) (g : List Value → List Value → List Value) (gV : List V → List V → List V) (sp : Sp) : Prop where
  ex : ∃ (f : Addr) (fd : FuncData), FnOk P w K mg base CX0 k f fd ps sp ∧ KBinds K fd ps ks g gV ∧ PySem.W.keepIn K (.ref f) = true ∧ mg x = some (.ref f)
theorem pe_clq {X : Cx} {x : Str} {k : Nat} {ps ks : List Str} {g : List Value → List Value → List Value} {gV : List V → List V → List V} {sp : Sp} {p pos : Pos} {e : Expr} {es : List Expr} {kws : List Keyword} {t tk : TA} (C : ClQ X.prog X.w X.K X.mg X.base x k ps ks g gV sp) (hr : Room k X.A) (ha : PA X (e :: es) t) (hkw : PK X kws tk)
    (hg : Gl X x := by rfl) (hall : (backToKw pos (keywordEach kws X.env)).all (·.1.isSome) = true := by rfl) (hks : (backToKw pos (keywordEach kws X.env)).filterMap (·.1) = ks := by rfl) (hdb : (x == ("__debug__" : Str)) = false := by decide) (he : starEach (e :: es) X.env = (false, eval e X.env) :: starEach es X.env := by rfl)
    (hpl : ((backTo pos (starEach (e :: es) X.env)).any (·.1) || (backToKw pos (keywordEach kws X.env)).any (·.1.isNone)) = false := by rfl) : PE X (.Call (.Name x p) (e :: es) kws pos) (tCallK sp gV E0 t tk) := by
  obtain ⟨f, fd, F, b, kp, m⟩ := C.ex
  exact pe_callK (E := E0) F hr hg m kp b pass0 ha hkw hall hks hdb he hpl
theorem pe_clq0 {X : Cx} {x : Str} {k : Nat} {ps ks : List Str} {g : List Value → List Value → List Value} {gV : List V → List V → List V} {sp : Sp} {p pos : Pos} {kws : List Keyword} {tk : TA} (C : ClQ X.prog X.w X.K X.mg X.base x k ps ks g gV sp) (hr : Room k X.A) (hkw : PK X kws tk)
    (hg : Gl X x := by rfl) (hall : (backToKw pos (keywordEach kws X.env)).all (·.1.isSome) = true := by rfl) (hks : (backToKw pos (keywordEach kws X.env)).filterMap (·.1) = ks := by rfl) (hdb : (x == ("__debug__" : Str)) = false := by decide)
    (hpl : ((backTo pos (starEach [] X.env)).any (·.1) || (backToKw pos (keywordEach kws X.env)).any (·.1.isNone)) = false := by rfl) : PE X (.Call (.Name x p) [] kws pos) (fun σ H Q => tk σ H fun zs H1 => sp (gV [] zs) H1 Q E0) := by
  obtain ⟨f, fd, F, b, kp, m⟩ := C.ex
  refine ⟨fun pins s σ H Q I h => ?_⟩
  refine wpAny_Call_Name_kw (ld_glob I hg m ?_ hdb)
  refine PySem.W.callWith_KW0 (h₀ := X.base) I.ok.mod.kin kp hall (thn (hkw.run pos pins s σ H _ I h) fun ws s1 ⟨zs, H1, I1, rz, q⟩ => ⟨I1.kIn, ?_⟩) hpl
  rw [hks]
  exact run_fnk F hr b pass0 I1 .nil rz q
theorem rep_mem {v : V} {n : Nat} : ∀ x ∈ (List.replicate n [v]).flatten, x = v := by
  induction n with
  | zero => intro x hx; simp at hx
  | succ n ih =>
    intro x hx
    rw [List.replicate_succ, List.flatten_cons] at hx
    rcases List.mem_append.mp hx with hx | hx
    · exact List.mem_singleton.mp hx
    · exact ih x hx
theorem rep_len {v : V} {n : Nat} : (List.replicate n [v]).flatten.length = n := by
  induction n with
  | zero => rfl
  | succ n ih => rw [List.replicate_succ, List.flatten_cons, List.length_append, ih, List.length_singleton]; omega
/-- a value that can be shown, wholly -/
def FineV (C : Addr) (H : Hp) (v : V) : Prop := Fine 1000 6 C H v
theorem shown_rule {C : Addr} {H : Hp} {v : V} {Q : VK} {t : Tr} (h : TrV C H v t) (g : t.Good) (cn : t.cnt ≤ 1000) (dp : t.dep ≤ 6) (q : RetV (.str t.text) H Q) : rReprT C [v] H Q := by
  have := text_le t g
  have sl : sizeLine = 16777216 := sizeLine_eq
  exact ⟨v, t, rfl, h, good_fit t g, dp, by omega, q⟩
theorem ro2 (a b : Bool) : Ro (.list [.bool a, .bool b]) := by
  cases a <;> cases b <;> exact ro_of (by decide +kernel) (by decide +kernel) (by decide +kernel) (by decide +kernel) (by decide +kernel) (by decide +kernel)
def spYes : Sp := fun vs H Q _ => ∃ p : Addr, vs = [.ref p] ∧ Pot H p ∧ ∀ H', ExP p H H' → Q (.bl true) H'
section
variable {P : Program} {w : World} {K : PySem.W.Frag} {mg : Str → Option Value} {base : Heap} {f C : Addr} {fd : FuncData}
theorem sc__law_tables_right : FnScope ["pot", "table", "values", "value", "shown", "due"] ["pot"] (defScope (top 54)) := ⟨rfl, rfl, rfl, by decide +kernel, rfl, by decide +kernel, by decide +kernel⟩
theorem ok_law_tables (F : Fun K "_law_tables_right" "_law_tables_right" (top 54) f fd) (R : RCl K mg C) (M : RCm K C) (T : Tx mg) (RB : TxB P w K mg base C "__repr__" sR) (C__law_draw : ClO P w K mg base "_law_draw" 1 ["pot", "many"] spDraw) (C__law_table : ClO P w K mg base "_law_table" 5 ["pot", "tall", "wide"] (spTable C)) (C__law_bent : ClO P w K mg base "_law_bent" 4 ["pot", "table"] (spBent C)) (C__law_is_table : ClO P w K mg base "_law_is_table" 2 ["value", "most"] (spLTab C)) (C_is_table : ClO P w K mg base "is_table" 4 ["value"] (spTab C 96)) {gk : List Value → List Value → List Value} (CK_is_table : ClQ P w K mg base "is_table" 4 ["value"] ["value"] gk (fun us ws => us ++ ws) (spTab C 96)) : FnG P w K mg base 26 f fd ["pot"] spYes := by
  have sc := sc__law_tables_right
  refine okG F sc (fun vs H Q E h => ?_) (fun cdv A outer s H vs Q gd0 hr h => ?_)
  · obtain ⟨_, rfl, _⟩ := h; rfl
  have gd := deeper_guards (env := envOfC "_law_tables_right" (defScope (top 54)) s.heap.objs.size f cdv) gd0
  obtain ⟨p, rfl, hp, q⟩ := h
  have sl : sizeLine = 16777216 := sizeLine_eq
  refine ⟨_, (pss_cut (ps_set (i := 1) sc.nd rfl (Or.inl rfl) (pe_clo C__law_table (hr.mono (by first | decide | omega)) (pa_cons (pv 0) (pa_cons (pe_op op_add pe_int (pe_clo C__law_draw (hr.mono (by first | decide | omega)) (pa_cons (pv 0) (pa_cons pe_int pa_nil)))) (pa_cons (pe_op op_add pe_int (pe_clo C__law_draw (hr.mono (by first | decide | omega)) (pa_cons (pv 0) (pa_cons pe_int pa_nil)))) pa_nil))))) (pss_cut (ps_set (i := 2) sc.nd rfl (Or.inl rfl) (pe_lst (pa_cons (pv 1) (pa_cons pe_non (pa_cons pe_int (pa_cons pe_bl (pa_cons pe_str (pa_cons pe_dnewK (pa_cons (pe_lst pa_nil) (pa_cons (pe_lst (pa_cons (pe_lst pa_nil) pa_nil)) (pa_cons (pe_op op_rep (pe_lst (pa_cons (pe_lst (pa_cons pe_int pa_nil)) pa_nil)) pe_int) (pa_cons (pe_op op_rep (pe_lst (pa_cons (pe_lst (pa_cons pe_int pa_nil)) pa_nil)) pe_int) (pa_cons (pe_lst (pa_cons (pe_op op_rep (pe_lst (pa_cons pe_int pa_nil)) pe_int) pa_nil)) (pa_cons (pe_lst (pa_cons (pe_op op_rep (pe_lst (pa_cons pe_int pa_nil)) pe_int) pa_nil)) (pa_cons (pe_tup (pa_cons (pe_tup (pa_cons pe_int pa_nil)) pa_nil)) pa_nil))))))))))))))) (pss_cut (ps_expr (pe_bm PySem.F.plainAttrs_list PySem.F.slot_list_extend PySem.F.type_list_extend mt_extend (pv 2) (pa_cons (pe_clo C__law_bent (hr.mono (by first | decide | omega)) (pa_cons (pv 0) (pa_cons (pv 1) pa_nil))) pa_nil))) (pss_cut (ps_for PassesOwn.never rfl (pi_list (pv 2)) (pg_name (i := 3) sc.nd rfl (Or.inl rfl)) (pss_cons (ps_par (i := 4) (j := 5) rfl sc.nd rfl rfl (by decide) rfl rfl (pa_cons (pe_callB (call_reprT RB gd (hr.mono (by first | decide | omega))) rfl T.b_repr bt_repr (pa_cons (pv 3) pa_nil)) (pa_cons (pe_clo C__law_is_table (hr.mono (by first | decide | omega)) (pa_cons (pv 3) (pa_cons pe_int pa_nil))) pa_nil)) rfl) (pss_one (ps_if (PW.pt (pw_or (pt_cmpR op_ne (pe_callB (call_reprD gd hr.units) rfl T.b_repr bt_repr (pa_cons (pe_lst (pa_cons (pe_clo C_is_table (hr.mono (by first | decide | omega)) (pa_cons (pv 3) pa_nil)) (pa_cons (pe_clq0 CK_is_table (hr.mono (by first | decide | omega)) (pk_cons (pv 3) pk_nil)) pa_nil))) pa_nil)) (pe_callB (call_reprD gd hr.units) rfl T.b_repr bt_repr (pa_cons (pe_lst (pa_cons (pv 5) (pa_cons (pv 5) pa_nil))) pa_nil)) (nomark _)) (pw_or1 (pt_cmpR op_ne (pe_callB (call_reprT RB gd (hr.mono (by first | decide | omega))) rfl T.b_repr bt_repr (pa_cons (pv 3) pa_nil)) (pv 4) (nomark _))))) (pss_one (ps_ret pe_bl)) pss_nil)))) (pss_one (ps_ret pe_bl)))))), ?_⟩
  refine ⟨fun σ' H' => ∃ l rs wide, σ' = [some (.ref p), some (.ref l), none, none, none, none] ∧ ExP p H H' ∧ H l = none ∧ H' l = some (.lst (rs.map V.ref)) ∧ 1 ≤ rs.length ∧ rs.length ≤ 4 ∧ 1 ≤ wide ∧ wide ≤ 4 ∧ RowsOk C H H' p wide rs, ?_, ?_⟩
  · refine ⟨_, rfl, _, rfl, p, 4, rfl, hp, by decide, by decide, fun d1 H1 e1 hp1 hd1 => ⟨_, _, rfl, rfl, ?_⟩⟩
    refine ⟨_, rfl, p, 4, rfl, hp1, by decide, by decide, fun d2 H2 e2 hp2 hd2 => ⟨_, _, rfl, rfl, ?_⟩⟩
    have x := (ExP.mk e1 hp1).trans (.mk e2 hp2)
    refine ⟨p, 1 + d1, 1 + d2, by rw [Int.natCast_add, Int.natCast_add]; rfl, hp2, by omega, by omega, fun l rs H3 x3 hl0 hl hlr hrs => ?_⟩
    refine ⟨l, rs, 1 + d2, rfl, x.trans x3, x.1.fresh (pot_nn hp2 hl0) hl0, hl, by omega, by omega, by omega, by omega, fun r hr => ?_⟩
    obtain ⟨h1, h2, h3⟩ := hrs r hr
    exact ⟨x.1.fresh h2 h1, h2, h3⟩
  rintro σ' H1 ⟨l, rs, wide, rfl, x1, hl0, hl, t1, t4, w1, w4, hrs0⟩
  have hp1 := x1.2 hp
  have off := pot_off hp1
  have lS : l ∉ [p] := fun z => pot_nn hp hl0 (List.mem_singleton.mp z)
  have hrs : RowsAt C H1 [p] wide rs := fun r hr => by
    obtain ⟨h1, h2, h3⟩ := hrs0 r hr
    exact ⟨fun z => h2 (List.mem_singleton.mp z), h3⟩
  clear hrs0
  have lt := hrs.lf off hl lS w4
  refine ⟨fun σ' H' => ∃ D vs, σ' = [some (.ref p), some (.ref l), some (.ref D), none, none, none] ∧ Ex H1 H' ∧ H1 D = none ∧ H' D = some (.lst vs) ∧ vs.length = 13 ∧ ∀ v ∈ vs, Fine 400 3 C (msk [D, p] H') v, ?_, ?_⟩
  · have o1 := off
    refine ⟨_, rfl, ?_⟩
    intro a2 h2
    have e2 := Ex.new (o := .dK []) h2
    have o2 := o1.up e2
    have kd : Fine 1 0 C (msk [p] (upd H1 a2 (.dK []))) (.ref a2) := Fine.emp (by rw [msk_of (o1.fresh h2)]; exact upd_same)
    generalize upd H1 a2 (.dK []) = H2 at e2 o2 kd ⊢
    refine ⟨(by show 0 ≤ sizeLine; decide), fun a3 h3 => ?_⟩
    have e3 := Ex.new (o := .lst []) h3
    have o3 := o2.up e3
    have f3 : LF 1 0 [p] C (upd H2 a3 (.lst [])) a3 [] := LF.new o2 h3 (fun _ z => nomatch z)
    generalize upd H2 a3 (.lst []) = H3 at e3 o3 f3 ⊢
    have k1 : Fine 1 1 C (msk [p] H3) (.ref a3) := f3.fine (N' := 1) (by decide)
    refine ⟨(by show 0 ≤ sizeLine; decide), fun a4 h4 => ?_⟩
    have e4 := Ex.new (o := .lst []) h4
    have o4 := o3.up e4
    have f4 : LF 1 0 [p] C (upd H3 a4 (.lst [])) a4 [] := LF.new o3 h4 (fun _ z => nomatch z)
    generalize upd H3 a4 (.lst []) = H4 at e4 o4 f4 ⊢
    have kc0 : Fine 1 1 C (msk [p] H4) (.ref a4) := f4.fine (N' := 1) (by decide)
    refine ⟨(by show 1 ≤ sizeLine; decide), fun a5 h5 => ?_⟩
    have e5 := Ex.new (o := .lst [.ref a4]) h5
    have o5 := o4.up e5
    have f5 : LF 1 1 [p] C (upd H4 a5 (.lst [.ref a4])) a5 [.ref a4] := LF.new o4 h5 (mem1 kc0)
    generalize upd H4 a5 (.lst [.ref a4]) = H5 at e5 o5 f5 ⊢
    have k2 : Fine 2 2 C (msk [p] H5) (.ref a5) := f5.fine (N' := 2) (by show 1 * 1 + 1 ≤ 2; decide)
    refine ⟨(by show 1 ≤ sizeLine; decide), fun a6 h6 => ?_⟩
    have e6 := Ex.new (o := .lst [.int 1]) h6
    have o6 := o5.up e6
    have f6 : LF 1 0 [p] C (upd H5 a6 (.lst [.int 1])) a6 [.int 1] := LF.new o5 h6 (mem1 (Fine.int (by decide +kernel)))
    generalize upd H5 a6 (.lst [.int 1]) = H6 at e6 o6 f6 ⊢
    have r96a : Fine 2 1 C (msk [p] H6) (.ref a6) := f6.fine (N' := 2) (by show 1 * 1 + 1 ≤ 2; decide)
    refine ⟨(by show 1 ≤ sizeLine; decide), fun a7 h7 => ?_⟩
    have e7 := Ex.new (o := .lst [.ref a6]) h7
    have o7 := o6.up e7
    have f7 : LF 2 1 [p] C (upd H6 a7 (.lst [.ref a6])) a7 [.ref a6] := LF.new o6 h7 (mem1 r96a)
    generalize upd H6 a7 (.lst [.ref a6]) = H7 at e7 o7 f7 ⊢
    refine ⟨a7, 96, [.ref a6], rfl, rfl, f7.at_, by decide, by decide, (by show 96 ≤ sizeLine; decide), fun a8 h8 => ?_⟩
    have e8 := Ex.new (o := .lst (List.replicate (96 : Int).toNat [V.ref a6]).flatten) h8
    have o8 := o7.up e8
    have f8 : LF 2 1 [p] C (upd H7 a8 (.lst (List.replicate (96 : Int).toNat [V.ref a6]).flatten)) a8 (List.replicate (96 : Int).toNat [V.ref a6]).flatten := LF.new o7 h8 (fun x hx => by rw [rep_mem x hx]; exact (r96a.up (msk_up e7)))
    generalize upd H7 a8 (.lst (List.replicate (96 : Int).toNat [V.ref a6]).flatten) = H8 at e8 o8 f8 ⊢
    have r96 : Fine 400 2 C (msk [p] H8) (.ref a8) := f8.fine (N' := 400) (by rw [rep_len]; decide)
    refine ⟨(by show 1 ≤ sizeLine; decide), fun a9 h9 => ?_⟩
    have e9 := Ex.new (o := .lst [.int 1]) h9
    have o9 := o8.up e9
    have f9 : LF 1 0 [p] C (upd H8 a9 (.lst [.int 1])) a9 [.int 1] := LF.new o8 h9 (mem1 (Fine.int (by decide +kernel)))
    generalize upd H8 a9 (.lst [.int 1]) = H9 at e9 o9 f9 ⊢
    have r97a : Fine 2 1 C (msk [p] H9) (.ref a9) := f9.fine (N' := 2) (by show 1 * 1 + 1 ≤ 2; decide)
    refine ⟨(by show 1 ≤ sizeLine; decide), fun a10 h10 => ?_⟩
    have e10 := Ex.new (o := .lst [.ref a9]) h10
    have o10 := o9.up e10
    have f10 : LF 2 1 [p] C (upd H9 a10 (.lst [.ref a9])) a10 [.ref a9] := LF.new o9 h10 (mem1 r97a)
    generalize upd H9 a10 (.lst [.ref a9]) = H10 at e10 o10 f10 ⊢
    refine ⟨a10, 97, [.ref a9], rfl, rfl, f10.at_, by decide, by decide, (by show 97 ≤ sizeLine; decide), fun a11 h11 => ?_⟩
    have e11 := Ex.new (o := .lst (List.replicate (97 : Int).toNat [V.ref a9]).flatten) h11
    have o11 := o10.up e11
    have f11 : LF 2 1 [p] C (upd H10 a11 (.lst (List.replicate (97 : Int).toNat [V.ref a9]).flatten)) a11 (List.replicate (97 : Int).toNat [V.ref a9]).flatten := LF.new o10 h11 (fun x hx => by rw [rep_mem x hx]; exact (r97a.up (msk_up e10)))
    generalize upd H10 a11 (.lst (List.replicate (97 : Int).toNat [V.ref a9]).flatten) = H11 at e11 o11 f11 ⊢
    have r97 : Fine 400 2 C (msk [p] H11) (.ref a11) := f11.fine (N' := 400) (by rw [rep_len]; decide)
    refine ⟨(by show 1 ≤ sizeLine; decide), fun a12 h12 => ?_⟩
    have e12 := Ex.new (o := .lst [.int 0]) h12
    have o12 := o11.up e12
    have f12 : LF 1 0 [p] C (upd H11 a12 (.lst [.int 0])) a12 [.int 0] := LF.new o11 h12 (mem1 (Fine.int (by decide +kernel)))
    generalize upd H11 a12 (.lst [.int 0]) = H12 at e12 o12 f12 ⊢
    refine ⟨a12, 96, [.int 0], rfl, rfl, f12.at_, by decide, by decide, (by show 96 ≤ sizeLine; decide), fun a13 h13 => ?_⟩
    have e13 := Ex.new (o := .lst (List.replicate (96 : Int).toNat [V.int 0]).flatten) h13
    have o13 := o12.up e13
    have f13 : LF 1 0 [p] C (upd H12 a13 (.lst (List.replicate (96 : Int).toNat [V.int 0]).flatten)) a13 (List.replicate (96 : Int).toNat [V.int 0]).flatten := LF.new o12 h13 (fun x hx => by rw [rep_mem x hx]; exact Fine.int (by decide +kernel))
    generalize upd H12 a13 (.lst (List.replicate (96 : Int).toNat [V.int 0]).flatten) = H13 at e13 o13 f13 ⊢
    have s96c : Fine 100 1 C (msk [p] H13) (.ref a13) := f13.fine (N' := 100) (by rw [rep_len]; decide)
    refine ⟨(by show 1 ≤ sizeLine; decide), fun a14 h14 => ?_⟩
    have e14 := Ex.new (o := .lst [.ref a13]) h14
    have o14 := o13.up e14
    have f14 : LF 100 1 [p] C (upd H13 a14 (.lst [.ref a13])) a14 [.ref a13] := LF.new o13 h14 (mem1 s96c)
    generalize upd H13 a14 (.lst [.ref a13]) = H14 at e14 o14 f14 ⊢
    have s96 : Fine 400 2 C (msk [p] H14) (.ref a14) := f14.fine (N' := 400) (by show 1 * 100 + 1 ≤ 400; decide)
    refine ⟨(by show 1 ≤ sizeLine; decide), fun a15 h15 => ?_⟩
    have e15 := Ex.new (o := .lst [.int 0]) h15
    have o15 := o14.up e15
    have f15 : LF 1 0 [p] C (upd H14 a15 (.lst [.int 0])) a15 [.int 0] := LF.new o14 h15 (mem1 (Fine.int (by decide +kernel)))
    generalize upd H14 a15 (.lst [.int 0]) = H15 at e15 o15 f15 ⊢
    refine ⟨a15, 97, [.int 0], rfl, rfl, f15.at_, by decide, by decide, (by show 97 ≤ sizeLine; decide), fun a16 h16 => ?_⟩
    have e16 := Ex.new (o := .lst (List.replicate (97 : Int).toNat [V.int 0]).flatten) h16
    have o16 := o15.up e16
    have f16 : LF 1 0 [p] C (upd H15 a16 (.lst (List.replicate (97 : Int).toNat [V.int 0]).flatten)) a16 (List.replicate (97 : Int).toNat [V.int 0]).flatten := LF.new o15 h16 (fun x hx => by rw [rep_mem x hx]; exact Fine.int (by decide +kernel))
    generalize upd H15 a16 (.lst (List.replicate (97 : Int).toNat [V.int 0]).flatten) = H16 at e16 o16 f16 ⊢
    have s97c : Fine 100 1 C (msk [p] H16) (.ref a16) := f16.fine (N' := 100) (by rw [rep_len]; decide)
    refine ⟨(by show 1 ≤ sizeLine; decide), fun a17 h17 => ?_⟩
    have e17 := Ex.new (o := .lst [.ref a16]) h17
    have o17 := o16.up e17
    have f17 : LF 100 1 [p] C (upd H16 a17 (.lst [.ref a16])) a17 [.ref a16] := LF.new o16 h17 (mem1 s97c)
    generalize upd H16 a17 (.lst [.ref a16]) = H17 at e17 o17 f17 ⊢
    have s97 : Fine 400 2 C (msk [p] H17) (.ref a17) := f17.fine (N' := 400) (by show 1 * 100 + 1 ≤ 400; decide)
    refine ⟨(by show 1 ≤ sizeLine; decide), fun a18 h18 => ?_⟩
    have e18 := Ex.new (o := .tup [.int 1]) h18
    have o18 := o17.up e18
    have f18 : Fine 2 1 C (msk [p] (upd H17 a18 (.tup [.int 1]))) (.ref a18) := tup_fine o17 h18 (mem1 (Fine.int (by decide +kernel))) (by show 1 * 1 + 1 ≤ 2; decide)
    generalize upd H17 a18 (.tup [.int 1]) = H18 at e18 o18 f18 ⊢
    refine ⟨(by show 1 ≤ sizeLine; decide), fun a19 h19 => ?_⟩
    have e19 := Ex.new (o := .tup [.ref a18]) h19
    have o19 := o18.up e19
    have f19 : Fine 3 2 C (msk [p] (upd H18 a19 (.tup [.ref a18]))) (.ref a19) := tup_fine o18 h19 (mem1 f18) (by show 1 * 2 + 1 ≤ 3; decide)
    generalize upd H18 a19 (.tup [.ref a18]) = H19 at e19 o19 f19 ⊢
    have gt : Fine 21 2 C (msk [p] H19) (.ref l) := (lt.up (e2.trans (e3.trans (e4.trans (e5.trans (e6.trans (e7.trans (e8.trans (e9.trans (e10.trans (e11.trans (e12.trans (e13.trans (e14.trans (e15.trans (e16.trans (e17.trans (e18.trans e19)))))))))))))))))).fine (by rw [List.length_map]; omega)
    refine ⟨(by show 13 ≤ sizeLine; decide), fun D hD => ?_⟩
    refine ⟨D, _, rfl, (e2.trans (e3.trans (e4.trans (e5.trans (e6.trans (e7.trans (e8.trans (e9.trans (e10.trans (e11.trans (e12.trans (e13.trans (e14.trans (e15.trans (e16.trans (e17.trans (e18.trans e19))))))))))))))))).trans (Ex.new hD), fresh_back (e2.trans (e3.trans (e4.trans (e5.trans (e6.trans (e7.trans (e8.trans (e9.trans (e10.trans (e11.trans (e12.trans (e13.trans (e14.trans (e15.trans (e16.trans (e17.trans (e18.trans e19))))))))))))))))) hD, upd_same, rfl, ?_⟩
    rw [msk_put (List.mem_cons_self), msk_new hD]
    intro v hv
    simp only [List.mem_cons, List.not_mem_nil, or_false] at hv
    rcases hv with rfl | rfl | rfl | rfl | rfl | rfl | rfl | rfl | rfl | rfl | rfl | rfl | rfl
    · exact gt.mono (by decide) (by decide)
    · exact (Fine.non).mono (by decide) (by decide)
    · exact (Fine.int (by decide +kernel)).mono (by decide) (by decide)
    · exact (Fine.bl).mono (by decide) (by decide)
    · exact (Fine.str (by decide +kernel)).mono (by decide) (by decide)
    · exact (kd.up (msk_up (e3.trans (e4.trans (e5.trans (e6.trans (e7.trans (e8.trans (e9.trans (e10.trans (e11.trans (e12.trans (e13.trans (e14.trans (e15.trans (e16.trans (e17.trans (e18.trans e19)))))))))))))))))).mono (by decide) (by decide)
    · exact (k1.up (msk_up (e4.trans (e5.trans (e6.trans (e7.trans (e8.trans (e9.trans (e10.trans (e11.trans (e12.trans (e13.trans (e14.trans (e15.trans (e16.trans (e17.trans (e18.trans e19))))))))))))))))).mono (by decide) (by decide)
    · exact (k2.up (msk_up (e6.trans (e7.trans (e8.trans (e9.trans (e10.trans (e11.trans (e12.trans (e13.trans (e14.trans (e15.trans (e16.trans (e17.trans (e18.trans e19))))))))))))))).mono (by decide) (by decide)
    · exact (r96.up (msk_up (e9.trans (e10.trans (e11.trans (e12.trans (e13.trans (e14.trans (e15.trans (e16.trans (e17.trans (e18.trans e19)))))))))))).mono (by decide) (by decide)
    · exact (r97.up (msk_up (e12.trans (e13.trans (e14.trans (e15.trans (e16.trans (e17.trans (e18.trans e19))))))))).mono (by decide) (by decide)
    · exact (s96.up (msk_up (e15.trans (e16.trans (e17.trans (e18.trans e19)))))).mono (by decide) (by decide)
    · exact (s97.up (msk_up (e18.trans e19))).mono (by decide) (by decide)
    · exact f19.mono (by decide) (by decide)
  rintro σ' H2 ⟨D, vs, rfl, e2, hD0, hD, v13, fv⟩
  have hp2 := hp1.up e2
  have x2 := x1.trans (ExP.of e2)
  have nDp : D ≠ p := pot_nn hp1 hD0
  have hDH : H D = none := x1.1.fresh nDp hD0
  have o2 : Off [D, p] H2 := (off.up e2).cons hD
  have lS2 : l ∉ [D, p] := fun z => (List.mem_cons.mp z).elim (fun z => by rw [z, hD0] at hl; cases hl) lS
  have hrs2 : RowsAt C H2 [D, p] wide rs := fun r hr => by
    obtain ⟨h1, ns, h2, h3⟩ := hrs r hr
    refine ⟨fun z => (List.mem_cons.mp z).elim (fun z => by rw [z, hD0] at h2; cases h2) h1, ns, e2 _ _ h2, h3.1, fun n hn => (h3.2 n hn).up e2⟩
  refine ⟨fun σ' H' => ∃ vs, σ' = [some (.ref p), some (.ref l), some (.ref D), none, none, none] ∧ ExP p H H' ∧ H' D = some (.lst vs) ∧ vs.length ≤ 30 ∧ ∀ v ∈ vs, Fine 400 3 C H' v, ?_, ?_⟩
  · refine ⟨_, rfl, .inl ⟨rfl, vs, sq_of hD⟩, ?_⟩
    refine ⟨_, rfl, _, rfl, p, l, rs, wide, [D, p], rfl, hp2, by simp, o2, lS2, e2 _ _ hl, t1, t4, w1, w4, hrs2, fun out ws H3 x3 hout hout2 w10 fw => ?_⟩
    have nDo : D ≠ out := fun z => by rw [z, hout] at hD; cases hD
    refine ⟨D, out, vs, ws, rfl, rfl, x3.1 _ _ nDp hD, hout2, (by rw [v13, w10]; show 23 ≤ sizeLine; decide), vs ++ ws, rfl, ⟨(x2.trans x3).1.mut hDH, fun hpp => ((x2.trans x3).2 hpp).same (upd_ne (Ne.symm nDp))⟩, upd_same, (by rw [List.length_append, v13, w10]; decide), fun v hv => ?_⟩
    refine Fine.up ?_ (msk_ex (S := [D, p]))
    rw [msk_put (List.mem_cons_self)]
    rcases List.mem_append.mp hv with hv | hv
    · exact (fv v hv).up (msk_upB (p := p) (by simp) x3.1)
    · exact (fw v hv).mono (by decide) (by decide)
  clear hD fv v13 hrs2 lS2 o2 x2 hp2 e2 x1 hrs lt
  rintro σ' H3 ⟨ws, rfl, x3, hD3, w30, fw⟩
  refine ⟨fun σ' H' => ExP p H H', ?_, ?_⟩
  · refine ⟨_, rfl, D, rfl, ⟨_, sq_of hD3⟩, for_list (K := K) (a := D) (xs := ws) (fun i σ H' => ∃ o1 o2 o3, σ = [some (.ref p), some (.ref l), some (.ref D), o1, o2, o3] ∧ Ex H3 H') ⟨_, _, _, rfl, Ex.refl _⟩ (fun i σ H' _ ⟨_, _, _, _, e⟩ => sq_of (e _ _ hD3)) ?_ ?_⟩
    · rintro i v σ H4 hv ⟨o1, o2, o3, rfl, e4⟩
      obtain ⟨t, tv, tg, tc, td⟩ := ((fw v (List.mem_of_getElem? hv)).up e4).ex
      refine ⟨_, rfl, shown_rule tv tg (by omega) (by omega) fun H5 e5 => ?_⟩
      refine ⟨_, rfl, v, t, 96, rfl, TrV.up e5 _ _ tv, by omega, fun H6 e6 => ?_⟩
      have e46 := e5.trans e6
      refine ⟨_, _, rfl, ?_⟩
      have ro := ro2 (isTab 96 t) (isTab 96 t)
      refine ⟨_, rfl, v, t, rfl, TrV.up e46 _ _ tv, by omega, fun H7 e7 => ?_⟩
      refine ⟨_, rfl, v, t, rfl, TrV.up (e46.trans e7) _ _ tv, by omega, fun H8 e8 => ⟨(by show 2 ≤ sizeLine; decide), fun l1 hl1 => ?_⟩⟩
      have x1 := Ex.new (o := .lst [.bl (isTab 96 t), .bl (isTab 96 t)]) hl1
      refine ⟨l1, .list [.bool (isTab 96 t), .bool (isTab 96 t)], rfl, .lst (.inl (.inl upd_same)) (.cons (.bl _) (.cons (.bl _) .nil)), ro.sh, ro.nd, ro.dp, ro.ln, ?_⟩
      refine ⟨_, rfl, _, rfl, (by show 2 ≤ sizeLine; decide), fun l2 hl2 => ?_⟩
      have x2 := Ex.new (o := .lst [.bl (isTab 96 t), .bl (isTab 96 t)]) hl2
      refine ⟨l2, .list [.bool (isTab 96 t), .bool (isTab 96 t)], rfl, .lst (.inl (.inl upd_same)) (.cons (.bl _) (.cons (.bl _) .nil)), ro.sh, ro.nd, ro.dp, ro.ln, rfl, ?_⟩
      rw [decide_eq_true rfl]
      have e48 := e46.trans (e7.trans (e8.trans (x1.trans x2)))
      refine ⟨_, rfl, itf ?_⟩
      refine ⟨_, rfl, shown_rule (TrV.up e48 _ _ tv) tg (by omega) (by omega) fun H9 e9 => ⟨_, rfl, rfl, ?_⟩⟩
      rw [decide_eq_true rfl]
      exact ⟨_, rfl, itf ⟨_, _, _, rfl, e4.trans (e48.trans e9)⟩⟩
    · rintro σ H4 ⟨_, _, _, rfl, e4⟩
      exact x3.trans (ExP.of e4)
  rintro σ' H4 x4
  exact q _ x4
end
end B71

namespace B71
open PySem PySem.Spec PyProof.Rows L2 Evl RZ SrtO
/-! ### an attribute among several targets; lcm -/
def gFld (K : PySem.W.Frag) (to : TE) (f : Str) : TG := fun y σ H Q => to σ H fun x H1 => ∃ a C dx fs, x = .ref a ∧ H1 a = some (.ins C dx fs) ∧ Cls K C ∧ NoAttr K C f ∧ fs.length < 1000 ∧ Q σ (upd H1 a (.ins C dx (putF f y fs)))
theorem pg_fld {X : Cx} {o : Expr} {f : Str} {pos : Pos} {to : TE} (ho : PE X o to)
    (ha : ∀ v, assign (.Attribute o f pos) X.env v = (do
      let ov ← holding [v] (eval o X.env)
      standAt pos.atName
      holding [v, ov] (setAttr ov f v)
      release [v, ov] []) := by intro _; rfl) : PG X (.Attribute o f pos) (gFld X.K to f) := by
  refine ⟨fun pins s σ H v u Q I r h => ?_⟩
  rw [ha]
  refine wpAny_bind (wpAny_holding (thn (ho.run pins s σ H _ I h) fun ov s1 ⟨x, H1, I1, r1, a, C, dx, fs, ex, ea, c, n, l, q⟩ => ?_))
  subst ex
  obtain rfl : ov = Value.ref a := r1
  refine wpAny_bind (wpAny_standAt (wpAny_bind (wpAny_holding (setattr_ok I1 ea c n l r fun s3 I3 => ?_))))
  exact wpAny_release ⟨σ, _, I3, q⟩
theorem pe_fldB {X : Cx} {K : PySem.W.Frag} {e : Expr} {f : Str} {pos : Pos} {ta : TE} (hK : X.K = K) (he : PE X e ta) (hb : attributeBase e f X.env (eval e X.env) = eval e X.env) : PE X (.Attribute e f pos) (tFld K ta f) := by
  subst hK
  exact pe_fld he hb
def rLcm : List V → Hp → VK → Prop := fun vs H Q => ∃ a b : Int, vs = [.int a, .int b] ∧ Bt 6000 a ∧ Bt 6000 b ∧ Q (.int ((Nat.lcm a.natAbs b.natAbs : Nat) : Int)) H
theorem cr_lcm {X : Cx} : CallR X (.builtin "math.lcm") rLcm := by
  intro pins s σ H vs us Q I r h
  obtain ⟨a, b, rfl, ba, bb, q⟩ := h
  obtain ⟨t, u, rfl⟩ := Vals.int2 r
  have la : a.natAbs.log2 < 6000 := ba.log (by decide)
  have lb : b.natAbs.log2 < 6000 := bb.log (by decide)
  have m1 : (max 1 a.natAbs).log2 < 6000 := by
    rcases Nat.le_total 1 a.natAbs with z | z
    · rw [Nat.max_eq_right z]; exact la
    · rw [Nat.max_eq_left z]; decide
  have m2 : (max a.natAbs b.natAbs).log2 < 6000 := by
    rcases Nat.le_total a.natAbs b.natAbs with z | z
    · rw [Nat.max_eq_right z]; exact lb
    · rw [Nat.max_eq_left z]; exact la
  have e1 : (Nat.lcm 1 a.natAbs) = a.natAbs := PySem.W.mc_lcm_one _
  have big : Bt 12000 (((Nat.lcm a.natAbs b.natAbs : Nat) : Int)) := by
    have z := PySem.W.mc_lcm_le a.natAbs b.natAbs
    have y := Bt.mul ba bb
    unfold Bt at y ⊢
    rw [Int.natAbs_mul] at y
    rw [Int.natAbs_natCast]
    omega
  have g := PySem.W.mg_run_lcm a t b u (by omega) (by omega) (by
    rw [e1]
    exact Nat.lt_trans (big.log (by decide)) (by decide))
  rw [e1] at g
  exact call_function_meets PySem.W.MGF.kind_lcm PySem.W.MGF.plain_lcm PySem.W.MGF.entry_lcm (PySem.W.MGF.args_lcm _ _) g.meets ⟨.int _, H, I.tok _, ⟨_, rfl⟩, q⟩
end B71

namespace B71
open PySem PySem.Spec PyProof.Rows L2 Evl RZ SrtO

def lcmB (ps : List (Int × Int)) : Int := ps.foldl (fun b p => ((Nat.lcm b.natAbs p.2.natAbs : Nat) : Int)) 1
theorem lcm_pos {a b : Int} (ha : 0 < a) (hb : 0 < b) : 0 < ((Nat.lcm a.natAbs b.natAbs : Nat) : Int) := by
  have := Nat.lcm_pos (Int.natAbs_pos.mpr (Int.ne_of_gt ha)) (Int.natAbs_pos.mpr (Int.ne_of_gt hb))
  omega
theorem lcm_bt {n m : Nat} {a b : Int} (ha : Bt n a) (hb : Bt m b) : Bt (n + m) ((Nat.lcm a.natAbs b.natAbs : Nat) : Int) := by
  have z := PySem.W.mc_lcm_le a.natAbs b.natAbs
  have y := Bt.mul ha hb
  unfold Bt at y ⊢
  rw [Int.natAbs_mul] at y
  rw [Int.natAbs_natCast]
  omega
/-- n bits for each number, bottoms above 0 -/
def Nb (n : Nat) (ps : List (Int × Int)) : Prop := ∀ p ∈ ps, Bt n p.1 ∧ Bt n p.2 ∧ 0 < p.2
theorem lcmB_take {n : Nat} {ps : List (Int × Int)} (h : Nb n ps) : ∀ i, i ≤ ps.length → Bt (n * i + 1) (lcmB (ps.take i)) ∧ 0 < lcmB (ps.take i)
  | 0, _ => ⟨by show (1 : Int).natAbs < 2 ^ (n * 0 + 1); rw [Nat.mul_zero]; decide, by show (0 : Int) < 1; decide⟩
  | i + 1, hi => by
    obtain ⟨h1, h2⟩ := lcmB_take h i (by omega)
    have hlt : i < ps.length := by omega
    obtain ⟨b1, b2, b3⟩ := h ps[i] (List.getElem_mem hlt)
    have e : lcmB (ps.take (i + 1)) = ((Nat.lcm (lcmB (ps.take i)).natAbs ps[i].2.natAbs : Nat) : Int) := by
      unfold lcmB
      rw [List.take_add_one, List.getElem?_eq_getElem hlt, List.foldl_append]
      rfl
    rw [e]
    exact ⟨(lcm_bt h1 b2).mono (by rw [Nat.mul_add]; omega), lcm_pos h2 b3⟩
def topsB (ps : List (Int × Int)) : List Int := ps.map fun p => p.1 * (lcmB ps).fdiv p.2
def spWholes (C : Addr) : Sp := fun vs H Q _ => ∃ (a : Addr) (xs : List V) (ps : List (Int × Int)) (n : Nat), vs = [.ref a] ∧ H a = some (.lst xs) ∧ Paired (fun p v => RtV C p v H) ps xs ∧ Nb n ps ∧ n * ps.length ≤ 5900 ∧ ps.length ≤ 1000 ∧ n ≤ 4000 ∧
  ∀ r l H', H r = none → H l = none → Ex H H' → H' r = some (.tup [.int (lcmB ps), .ref l]) → H' l = some (.lst ((topsB ps).map V.int)) → Q (.ref r) H'
/-- a row of numbers as pairs -/
def spRatiosOf (C : Addr) : Sp := fun vs H Q _ => ∃ (a : Addr) (xs : List V) (ps : List (Int × Int)), vs = [.ref a] ∧ SqH H a xs ∧ Paired (fun (p : Int × Int) v => Num C H v p.1 p.2) ps xs ∧ (∀ p ∈ ps, Bt 3000 p.1) ∧ ps.length ≤ 1000 ∧
  ∀ l ys H', H l = none → Ex H H' → H' l = some (.lst ys) → Paired (fun p v => RtV C p v H') ps ys → Q (.ref l) H'
section
variable {P : Program} {w : World} {K : PySem.W.Frag} {mg : Str → Option Value} {base : Heap} {f C : Addr} {fd : FuncData}
theorem sc_wholes : FnScope ["ratios", "bottom", "ratio"] ["ratios"] (defScope (top 20)) := ⟨rfl, rfl, rfl, by decide +kernel, rfl, by decide +kernel, by decide +kernel⟩
theorem ok_wholes (F : Fun K "wholes" "wholes" (top 20) f fd) (R : RCl K mg C) (T : Tx mg) (mgL : mg "lcm" = some (.builtin "math.lcm")) : FnOk P w K mg base CX0 1 f fd ["ratios"] (spWholes C) := by
  have sc := sc_wholes
  refine F.ok sc (fun vs H Q E h => ?_) (fun cdv A outer s H vs Q E hr h => ?_)
  · obtain ⟨_, _, _, _, rfl, _⟩ := h; rfl
  obtain ⟨a, xs, ps, n, rfl, ha, hp, nb, nl, pl, n4, q⟩ := h
  have hl : ps.length = xs.length := Paired.length hp
  refine ⟨_, (pss_cons (ps_set (i := 1) sc.nd rfl (Or.inr rfl) pe_int) (pss_cons (ps_for PassesOwn.never rfl (pi_list (pv 0)) (pg_name (i := 2) sc.nd rfl (Or.inl rfl)) (pss_one (ps_set (i := 1) sc.nd rfl (Or.inr rfl) (pe_callBfun cr_lcm rfl mgL (pa_cons (pv 1) (pa_cons (pe_fld (pv 2) rfl) pa_nil)))))) (pss_one (ps_ret (pe_tup (pa_cons (pv 1) (pa_cons (pe_lc (own := [("ratio", 2)]) (g := (gName 2)) rfl sc.nd (pi_list (pv 0)) (blkOk_by (N := ["ratios", "bottom", "ratio"]) (sc := defScope ((top 20))) (by decide +kernel)) (fun _ _ _ _ _ => (pg_name (i := 2) sc.nd rfl (Or.inl rfl))) (fun _ _ _ _ _ => pts_nil) (fun _ _ _ _ _ => (pe_op op_mulW (pe_fldB (K := K) rfl (pv 2) rfl) (pe_op op_fdivZ (pv 1) (pe_fldB (K := K) rfl (pv 2) rfl))))) pa_nil))))))), ?_⟩
  refine ⟨_, rfl, a, rfl, ⟨_, sq_of ha⟩, for_list (K := K) (a := a) (xs := xs) (fun i σ H' => ∃ o2, σ = [some (.ref a), some (.int (lcmB (ps.take i))), o2] ∧ H' = H) ⟨_, rfl, rfl⟩ (fun i σ H' _ ⟨_, _, e⟩ => by rw [e]; exact sq_of ha) ?_ ?_⟩
  · rintro i v σ H' hv ⟨o2, rfl, rfl⟩
    obtain ⟨p, hpi, r, rfl, dx, hr2⟩ := paired_at hp hv
    have hlt : i < ps.length := (List.getElem?_eq_some_iff.mp hpi).1
    obtain ⟨b1, b2, b3⟩ := nb p (List.mem_of_getElem? hpi)
    obtain ⟨k1, k2⟩ := lcmB_take nb i (by omega)
    have le : n * i + 1 ≤ 6000 := by
      have := Nat.mul_le_mul_left n (show i ≤ ps.length by omega)
      omega
    refine ⟨_, rfl, _, rfl, r, C, dx, _, _, rfl, hr2, R.cl, R.nB, rf_bot, _, _, rfl, k1.mono le, b2.mono (by omega), some (.ref r), ?_, rfl⟩
    have e : lcmB (ps.take (i + 1)) = ((Nat.lcm (lcmB (ps.take i)).natAbs p.2.natAbs : Nat) : Int) := by
      unfold lcmB
      rw [List.take_add_one, hpi, List.foldl_append]
      rfl
    rw [e]
    rfl
  · rintro σ H' ⟨o2, rfl, rfl⟩
    rw [← hl, List.take_length]
    obtain ⟨k1, k2⟩ := lcmB_take nb ps.length (Nat.le_refl _)
    rw [List.take_length] at k1 k2
    refine ⟨_, rfl, _, rfl, a, rfl, ⟨_, sq_of ha⟩, fun D hD => ?_⟩
    refine lcE (walk_list (K := K) (a := a) (xs := xs)) (Chg.ex hD) ps hl.symm (by omega) (fun _ => true) (fun (p : Int × Int) v _ => v = .int (p.1 * (lcmB ps).fdiv p.2)) (fun _ _ _ _ _ _ h => h) (fun _ _ _ _ _ _ h => h) (fun H5 e5 => sq_of (e5 _ _ ha)) ?_ ?_
    · rintro i y x H4 H5 N Gt hy e4 _ ⟨rfl, hx⟩ _ k
      obtain ⟨p, hpi, r, rfl, dx, hr2⟩ := paired_at hp hx
      cases hpi.symm.trans hy
      obtain ⟨b1, b2, b3⟩ := nb y (List.mem_of_getElem? hy)
      replace hr2 := e4 _ _ hr2
      have qb : Bt (n * ps.length + 1 + 1) ((lcmB ps).fdiv y.2) := by
        refine Bt.le (k1.mono (by omega)) ?_
        exact Int.natAbs_fdiv_le_natAbs _ _
      refine ⟨rfl, ?_⟩
      refine ⟨_, rfl, r, C, dx, _, _, rfl, hr2, R.cl, R.nT, rf_top, _, rfl, _, rfl, r, C, dx, _, _, rfl, hr2, R.cl, R.nB, rf_bot, _, _, rfl, rfl, ⟨by omega, Nat.lt_of_lt_of_le (b2.mono (show n ≤ 8000 by omega) |>.log (by decide)) (by decide)⟩, _, _, rfl, rfl, mulOk (b1.mono (show n ≤ n + 1 by omega)) qb (by omega) (by omega) (by omega), k rfl _ _ (Ex.refl _) rfl⟩
    · intro acc H4 e4 hD4 hacc
      rw [filter_yes] at hacc
      refine ⟨(by show 2 ≤ sizeLine; decide), fun r hr0 => ?_⟩
      have x1 := Ex.new (o := .tup [.int (lcmB ps), .ref D]) hr0
      refine q r D _ (fresh_back e4 hr0) hD (e4.trans x1) upd_same (x1 _ _ ?_)
      rw [hD4, paired_int (g := fun p : Int × Int => p.1 * (lcmB ps).fdiv p.2) hacc]
      rfl
theorem sc_ratios_of : FnScope ["row", "number"] ["row"] (defScope (top 23)) := ⟨rfl, rfl, rfl, by decide +kernel, rfl, by decide +kernel, by decide +kernel⟩
theorem ok_ratios_of (F : Fun K "ratios_of" "ratios_of" (top 23) f fd) (R : RCl K mg C) (T : Tx mg) (C_ratio_of : ClO P w K mg base "ratio_of" 4 ["number"] (spRatioOf C)) : FnOk P w K mg base CX0 5 f fd ["row"] (spRatiosOf C) := by
  have sc := sc_ratios_of
  refine F.ok sc (fun vs H Q E h => ?_) (fun cdv A outer s H vs Q E hr h => ?_)
  · obtain ⟨_, _, _, rfl, _⟩ := h; rfl
  obtain ⟨a, xs, ps, rfl, sq, hp, bt, pl, q⟩ := h
  have hl : ps.length = xs.length := Paired.length hp
  refine ⟨_, (pss_one (ps_ret (pe_lc (own := [("number", 1)]) (g := (gName 1)) rfl sc.nd (pi_sq (pv 0)) (blkOk_by (N := ["row", "number"]) (sc := defScope ((top 23))) (by decide +kernel)) (fun _ _ _ _ _ => (pg_name (i := 1) sc.nd rfl (Or.inl rfl))) (fun _ _ _ _ _ => pts_nil) (fun _ _ _ _ _ => (pe_clo C_ratio_of (hr.mono (by first | decide | omega)) (pa_cons (pv 1) pa_nil)))))), ?_⟩
  refine ⟨_, rfl, a, xs, rfl, sq, fun J Gd wk hG D hD => ?_⟩
  refine lcE wk (Chg.ex hD) ps hl.symm (by omega) (fun _ => true) (fun p v H => RtV C p v H) (fun _ _ _ _ _ e h => Stab.rt.up _ _ _ _ e h) (fun _ _ _ _ _ hd h => Stab.rt.ap _ _ _ _ _ _ hd h) hG ?_ ?_
  · rintro i y x H4 H5 N Gt hy e4 _ ⟨rfl, hx⟩ _ k
    obtain ⟨p, hpi, hn⟩ := paired_at hp hx
    cases hpi.symm.trans hy
    exact ⟨rfl, _, rfl, x, y.1, y.2, rfl, hn.up e4, bt y (List.mem_of_getElem? hy), fun z H6 e6 r6 => k rfl _ _ e6 ⟨z, rfl, r6⟩⟩
  · intro acc H4 e4 hD4 hacc
    rw [filter_yes] at hacc
    exact q D acc H4 hD e4 hD4 hacc
end
end B71

namespace B71
open PySem PySem.Spec PyProof.Rows L2 Evl RZ SrtO

def rowsOk (tall wide : Nat) (t : Tr) : Bool := match t.sq? with
  | some l => decide (l.length = tall) && l.all (numsOk wide)
  | none => false
def spRows (C : Addr) : Sp := fun vs H Q _ => ∃ (v : V) (t : Tr) (n m : Nat), vs = [v, .int n, .int m] ∧ TrV C H v t ∧ t.cnt ≤ 1000 ∧ RetV (.bl (rowsOk n m t)) H Q
/-- the tables of a team -/
structure Dim (t : Tr) (l : List Tr) (tall wide : Nat) : Prop where
  sq : t.sq? = some l
  ne : 1 ≤ l.length
  t1 : 1 ≤ tall
  w1 : 1 ≤ wide
  all : ∀ x ∈ l, rowsOk tall wide x = true
theorem rows_sq {tall wide : Nat} {x : Tr} (h : rowsOk tall wide x = true) : x.sq? = some x.rows ∧ x.rows.length = tall ∧ ∀ y ∈ x.rows, numsOk wide y = true := by
  unfold rowsOk at h
  unfold Tr.rows
  cases hs : x.sq? with
  | none => rw [hs] at h; cases h
  | some l =>
    rw [hs] at h
    simp only [Bool.and_eq_true, decide_eq_true_eq, List.all_eq_true] at h
    exact ⟨rfl, h.1, h.2⟩
theorem nums_sq {wide : Nat} {y : Tr} (h : numsOk wide y = true) : y.sq? = some y.rows ∧ y.rows.length = wide ∧ ∀ z ∈ y.rows, z.isN = true := by
  unfold numsOk at h
  unfold Tr.rows
  cases hs : y.sq? with
  | none => rw [hs] at h; cases h
  | some l =>
    rw [hs] at h
    simp only [Bool.and_eq_true, decide_eq_true_eq, List.all_eq_true] at h
    exact ⟨rfl, h.1, h.2⟩
def spAreTabs (C : Addr) : Sp := fun vs H Q _ => ∃ (v : V) (t : Tr) (l : List Tr) (tall wide : Nat), vs = [v] ∧ TrV C H v t ∧ t.cnt ≤ 1000 ∧ Dim t l tall wide ∧ l.length ≤ 16 ∧ tall ≤ 4 ∧ wide ≤ 4 ∧ RetV (.bl true) H Q
section
variable {P : Program} {w : World} {K : PySem.W.Frag} {mg : Str → Option Value} {base : Heap} {f C : Addr} {fd : FuncData}
theorem sc_are_rows : FnScope ["value", "tall", "wide", "row"] ["value", "tall", "wide"] (defScope (top 29)) := ⟨rfl, rfl, rfl, by decide +kernel, rfl, by decide +kernel, by decide +kernel⟩
theorem ok_are_rows (F : Fun K "are_rows" "are_rows" (top 29) f fd) (R : RCl K mg C) (T : Tx mg) (C_is_list : ClO P w K mg base "is_list" 1 ["value"] (spIsL C)) (C_are_numbers : ClO P w K mg base "are_numbers" 3 ["value", "wide"] (spNums C)) : FnOk P w K mg base CX0 4 f fd ["value", "tall", "wide"] (spRows C) := by
  have sc := sc_are_rows
  refine F.ok sc (fun vs H Q E h => ?_) (fun cdv A outer s H vs Q E hr h => ?_)
  · obtain ⟨_, _, _, _, rfl, _⟩ := h; rfl
  obtain ⟨v, t, n, m, rfl, ht, cn, q⟩ := h
  refine ⟨_, (pss_one (ps_ret (pe_and (pe_clo C_is_list (hr.mono (by first | decide | omega)) (pa_cons (pv 0) pa_nil)) (pe_and (pe_cmpR op_eq (pe_callB call_len_seq rfl T.b_len bt_len (pa_cons (pv 0) pa_nil)) (pv 1) (nomark _)) (pe_one (pe_callB (cr_all rfl) rfl T.b_all bt_all (pa_cons (pe_lc (own := [("row", 3)]) (g := (gName 3)) rfl sc.nd (pi_sq (pv 0)) (blkOk_by (N := ["value", "tall", "wide", "row"]) (sc := defScope ((top 29))) (by decide +kernel)) (fun _ _ _ _ _ => (pg_name (i := 3) sc.nd rfl (Or.inl rfl))) (fun _ _ _ _ _ => pts_nil) (fun _ _ _ _ _ => (pe_clo C_are_numbers (hr.mono (by first | decide | omega)) (pa_cons (pv 3) (pa_cons (pv 2) pa_nil))))) pa_nil))))))), ?_⟩
  refine ⟨_, rfl, v, t, rfl, ht, fun H1 e1 => ⟨_, rfl, ?_⟩⟩
  rw [Tr.isQ_of]
  unfold rowsOk at q
  cases hs : t.sq? with
  | none =>
    rw [hs] at q
    exact itf (q _ e1)
  | some l =>
    rw [hs] at q
    dsimp only at q
    obtain ⟨a, xs, rfl, sq, tv⟩ := (TrV.up e1 _ _ ht).seq hs
    have lim := len_of hs cn
    have mt := sq_cnt hs
    refine itt ?_
    refine ⟨_, rfl, a, xs, rfl, sq.sq, _, rfl, rfl, _, rfl, ?_⟩
    have hln : (decide (V.int (xs.length : Nat) = V.int n)) = decide (l.length = n) := by
      rw [tv.len]
      exact decide_eq_decide.mpr ⟨fun z => by injection z with z; omega, fun z => by rw [z]⟩
    rw [hln]
    cases hd : decide (l.length = n) with
    | false =>
      rw [hd] at q
      exact itf (q _ e1)
    | true =>
      rw [hd, Bool.true_and] at q
      refine itt ?_
      refine ⟨_, rfl, a, xs, rfl, sq, fun J Gd wk hG D hD => lc_bl wk hD hG l tv.len.symm (by rw [← tv.len]; exact lim) (numsOk m) ?_ ?_⟩
      · rintro i y x H4 Gt hy hx e4 k
        obtain ⟨y', hy', hv⟩ := tv.at_ hx
        cases hy.symm.trans hy'
        have my := cnt_mem (List.mem_of_getElem? hy)
        exact ⟨rfl, _, rfl, _, rfl, x, y, m, rfl, TrV.up e4 _ _ hv, fun l2 h2 => len_of h2 (by omega), fun H5 e5 => k _ e5⟩
      · intro H4 e4 hD4
        refine ⟨D, _, rfl, sq_of hD4, ?_⟩
        rw [all_map]
        exact q _ (e1.trans e4)
theorem sc_are_tables : FnScope ["value", "first", "table"] ["value"] (defScope (top 30)) := ⟨rfl, rfl, rfl, by decide +kernel, rfl, by decide +kernel, by decide +kernel⟩
theorem ok_are_tables (F : Fun K "are_tables" "are_tables" (top 30) f fd) (R : RCl K mg C) (T : Tx mg) {tA tB : Tok} (m16 : mg "MOST_TABLES" = some (.int 16 tA)) (m4 : mg "MOST_SIDE" = some (.int 4 tB)) (C_is_list : ClO P w K mg base "is_list" 1 ["value"] (spIsL C)) (C_are_rows : ClO P w K mg base "are_rows" 4 ["value", "tall", "wide"] (spRows C)) : FnOk P w K mg base CX0 5 f fd ["value"] (spAreTabs C) := by
  have sc := sc_are_tables
  refine F.ok sc (fun vs H Q E h => ?_) (fun cdv A outer s H vs Q E hr h => ?_)
  · obtain ⟨_, _, _, _, _, rfl, _⟩ := h; rfl
  obtain ⟨v, t, l, tall, wide, rfl, ht, cn, dm, l16, t4, w4, q⟩ := h
  have mt := sq_cnt dm.sq
  refine ⟨_, (pss_cons (ps_if (PW.pt (pw_or (pt_not (pt_val (pe_clo C_is_list (hr.mono (by first | decide | omega)) (pa_cons (pv 0) pa_nil)))) (pw_or1 (pt_not (pt_chain op_le op_le pe_int (pe_callB call_len_seq rfl T.b_len bt_len (pa_cons (pv 0) pa_nil)) (pe_glob (v := .int 16) rfl m16 ⟨_, rfl⟩)))))) (pss_one (ps_ret pe_bl)) pss_nil) (pss_cons (ps_set (i := 1) sc.nd rfl (Or.inr rfl) (pe_ix ix_sq (pv 0) pe_int (fun _ _ => rfl))) (pss_cons (ps_if (PW.pt (pw_or (pt_not (pt_val (pe_clo C_is_list (hr.mono (by first | decide | omega)) (pa_cons (pv 1) pa_nil)))) (pw_or1 (pt_not (pt_chain op_le op_le pe_int (pe_callB call_len_seq rfl T.b_len bt_len (pa_cons (pv 1) pa_nil)) (pe_glob (v := .int 4) rfl m4 ⟨_, rfl⟩)))))) (pss_one (ps_ret pe_bl)) pss_nil) (pss_cons (ps_if (PW.pt (pw_or (pt_not (pt_val (pe_clo C_is_list (hr.mono (by first | decide | omega)) (pa_cons (pe_ix ix_sq (pv 1) pe_int (fun _ _ => rfl)) pa_nil)))) (pw_or1 (pt_not (pt_chain op_le op_le pe_int (pe_callB call_len_seq rfl T.b_len bt_len (pa_cons (pe_ix ix_sq (pv 1) pe_int (fun _ _ => rfl)) pa_nil)) (pe_glob (v := .int 4) rfl m4 ⟨_, rfl⟩)))))) (pss_one (ps_ret pe_bl)) pss_nil) (pss_one (ps_ret (pe_callB (cr_all rfl) rfl T.b_all bt_all (pa_cons (pe_lc (own := [("table", 2)]) (g := (gName 2)) rfl sc.nd (pi_sq (pv 0)) (blkOk_by (N := ["value", "first", "table"]) (sc := defScope ((top 30))) (by decide +kernel)) (fun _ _ _ _ _ => (pg_name (i := 2) sc.nd rfl (Or.inl rfl))) (fun _ _ _ _ _ => pts_nil) (fun _ _ _ _ _ => (pe_clo C_are_rows (hr.mono (by first | decide | omega)) (pa_cons (pv 2) (pa_cons (pe_callB (show CallR _ _ (rLenS K) from call_len_seq) rfl T.b_len bt_len (pa_cons (pv 1) pa_nil)) (pa_cons (pe_callB (show CallR _ _ (rLenS K) from call_len_seq) rfl T.b_len bt_len (pa_cons (pe_ix (show IxR _ (rIxQ K) from ix_sq) (pv 1) pe_int (fun _ _ => rfl)) pa_nil)) pa_nil)))))) pa_nil)))))))), ?_⟩
  refine ⟨_, rfl, v, t, rfl, ht, fun H1 e1 => ⟨_, rfl, ?_⟩⟩
  rw [Tr.isQ_of, dm.sq]
  refine itf ?_
  obtain ⟨a, xs, rfl, sq, tv⟩ := (TrV.up e1 _ _ ht).seq dm.sq
  have ln := tv.len
  have lne := dm.ne
  refine ⟨_, rfl, a, xs, rfl, sq.sq, _, _, rfl, rfl, _, rfl, ?_⟩
  rw [decide_eq_true (by omega)]
  refine itt ⟨_, _, rfl, rfl, _, rfl, ?_⟩
  rw [decide_eq_true (by omega)]
  refine itf ?_
  cases tv with
  | nil => exact absurd lne (by decide)
  | cons hx tv' =>
  rename_i v0 xs' x0 l'
  have tv : TrVs C H1 (v0 :: xs') (x0 :: l') := .cons hx tv'
  obtain ⟨sx, lx, ax⟩ := rows_sq (dm.all x0 List.mem_cons_self)
  refine ⟨_, rfl, a, _, 0, v0, rfl, rfl, sq, at00, ?_⟩
  refine ⟨_, rfl, v0, x0, rfl, hx, fun H2 e2 => ⟨_, rfl, ?_⟩⟩
  rw [Tr.isQ_of, sx]
  refine itf ?_
  obtain ⟨b, ys, rfl, sq2, tv2⟩ := (TrV.up e2 _ _ hx).seq sx
  have ln2 := tv2.len
  have tp := dm.t1
  refine ⟨_, rfl, b, ys, rfl, sq2.sq, _, _, rfl, rfl, _, rfl, ?_⟩
  rw [decide_eq_true (by omega)]
  refine itt ⟨_, _, rfl, rfl, _, rfl, ?_⟩
  rw [decide_eq_true (by omega)]
  refine itf ?_
  generalize hyr : x0.rows = yr at tv2 ln2 ax lx
  cases tv2 with
  | nil => rw [← lx] at tp; exact absurd tp (by decide)
  | cons hy tv2' =>
  rename_i u0 ys' y0 r'
  obtain ⟨sy, ly, ay⟩ := nums_sq (ax y0 List.mem_cons_self)
  refine ⟨_, rfl, b, _, 0, u0, rfl, rfl, sq2, at00, u0, y0, rfl, hy, fun H3 e3 => ⟨_, rfl, ?_⟩⟩
  rw [Tr.isQ_of, sy]
  refine itf ?_
  obtain ⟨c, zs, rfl, sq3, tv3⟩ := (TrV.up e3 _ _ hy).seq sy
  have ln3 := tv3.len
  have wp := dm.w1
  have sq2' := sq2.up e3
  refine ⟨_, rfl, b, _, 0, .ref c, rfl, rfl, sq2', at00, c, zs, rfl, sq3.sq, _, _, rfl, rfl, _, rfl, ?_⟩
  rw [decide_eq_true (by omega)]
  refine itt ⟨_, _, rfl, rfl, _, rfl, ?_⟩
  rw [decide_eq_true (by omega)]
  refine itf ?_
  have e13 := e2.trans e3
  refine ⟨_, rfl, a, _, rfl, sq.up e13, fun J Gd wk hG D hD => lc_bl wk hD hG (x0 :: l') ln.symm (by omega) (rowsOk tall wide) ?_ ?_⟩
  · rintro i y x H4 Gt hy4 hx4 e4 k
    obtain ⟨y', hy', hv⟩ := (TrVs.up (e13.trans e4) _ _ tv).at_ hx4
    cases hy4.symm.trans hy'
    have my := cnt_mem (List.mem_of_getElem? hy4)
    refine ⟨rfl, _, rfl, _, rfl, b, _, rfl, (sq2'.up e4).sq, _, rfl, b, _, 0, .ref c, rfl, rfl, sq2'.up e4, at00, c, zs, rfl, (sq3.up e4).sq, x, y, tall, wide, ?_, hv, by omega, fun H5 e5 => k _ e5⟩
    rw [← ln2, lx, ← ln3, ly]
  · intro H4 e4 hD4
    refine ⟨D, _, rfl, sq_of hD4, ?_⟩
    rw [all_map, List.all_eq_true.mpr dm.all]
    exact q _ (e1.trans (e13.trans e4))
end
end B71

namespace B71
open PySem PySem.Spec PyProof.Rows L2 Evl RZ SrtO

theorem paired_mapR {α β γ : Type} {F : α → β → Prop} {G : α → γ → Prop} {g : β → γ} (h : ∀ a b, F a b → G a (g b)) : ∀ {as : List α} {bs : List β}, Paired F as bs → Paired G as (bs.map g)
  | _, _, .nil => .nil
  | _, _, .cons q t => .cons (h _ _ q) (paired_mapR h t)
theorem paired_swap {α β : Type} {F : α → β → Prop} : ∀ {as : List α} {bs : List β}, Paired F as bs → Paired (fun b a => F a b) bs as
  | _, _, .nil => .nil
  | _, _, .cons q t => .cons q (paired_swap t)
def Tr.pr : Tr → Int × Int
  | .int i => (i, 1)
  | .rat t b => (t, b)
  | _ => (0, 1)
def tabOf (x : Tr) : List (List (Int × Int)) := x.rows.map fun y => y.rows.map Tr.pr
/-- new rows and tables of Ratios, outside of S -/
def RowN (S : List Addr) (C : Addr) (H : Hp) (row : List (Int × Int)) (v : V) : Prop := ∃ r zs, v = .ref r ∧ r ∉ S ∧ H r = some (.lst zs) ∧ Paired (fun p v => RtV C p v H) row zs
def TabN (S : List Addr) (C : Addr) (H : Hp) (tab : List (List (Int × Int))) (v : V) : Prop := ∃ r ys, v = .ref r ∧ r ∉ S ∧ H r = some (.lst ys) ∧ Paired (RowN S C H) tab ys
def TabsAt (S : List Addr) (C : Addr) (H : Hp) (a : Addr) (tabs : List (List (List (Int × Int)))) : Prop := ∃ xs, H a = some (.lst xs) ∧ a ∉ S ∧ Paired (TabN S C H) tabs xs
section
variable {S S' : List Addr} {C : Addr} {H H' : Hp}
theorem RowN.up {row : List (Int × Int)} {v : V} (h : RowN S C H row v) (e : Ex H H') : RowN S C H' row v := by
  obtain ⟨r, zs, h1, h2, h3, h4⟩ := h
  exact ⟨r, zs, h1, h2, e _ _ h3, Paired.mapP h4 fun _ _ q => Stab.rt.up _ _ _ _ e q⟩
theorem TabN.up {tab : List (List (Int × Int))} {v : V} (h : TabN S C H tab v) (e : Ex H H') : TabN S C H' tab v := by
  obtain ⟨r, zs, h1, h2, h3, h4⟩ := h
  exact ⟨r, zs, h1, h2, e _ _ h3, Paired.mapP h4 fun _ _ q => q.up e⟩
theorem TabsAt.up {a : Addr} {tabs : List (List (List (Int × Int)))} (h : TabsAt S C H a tabs) (e : Ex H H') : TabsAt S C H' a tabs := by
  obtain ⟨xs, h1, h2, h3⟩ := h
  exact ⟨xs, e _ _ h1, h2, Paired.mapP h3 fun _ _ q => q.up e⟩
theorem RowN.ap {row : List (Int × Int)} {v : V} {D : Addr} {acc acc' : List V} (h : RowN S C H row v) (hD : H D = some (.lst acc)) (hS : D ∈ S) : RowN S C (upd H D (.lst acc')) row v := by
  obtain ⟨r, zs, h1, h2, h3, h4⟩ := h
  exact ⟨r, zs, h1, h2, by rw [upd_ne (fun z => h2 (by rw [z]; exact hS))]; exact h3, Paired.mapP h4 fun _ _ q => Stab.rt.ap _ _ _ _ _ _ hD q⟩
theorem TabN.ap {tab : List (List (Int × Int))} {v : V} {D : Addr} {acc acc' : List V} (h : TabN S C H tab v) (hD : H D = some (.lst acc)) (hS : D ∈ S) : TabN S C (upd H D (.lst acc')) tab v := by
  obtain ⟨r, zs, h1, h2, h3, h4⟩ := h
  exact ⟨r, zs, h1, h2, by rw [upd_ne (fun z => h2 (by rw [z]; exact hS))]; exact h3, Paired.mapP h4 fun _ _ q => q.ap hD hS⟩
theorem RowN.less {row : List (Int × Int)} {v : V} (h : RowN S C H row v) (k : ∀ b ∈ S', b ∈ S) : RowN S' C H row v := by
  obtain ⟨r, zs, h1, h2, h3⟩ := h
  exact ⟨r, zs, h1, fun z => h2 (k _ z), h3⟩
theorem TabN.less {tab : List (List (Int × Int))} {v : V} (h : TabN S C H tab v) (k : ∀ b ∈ S', b ∈ S) : TabN S' C H tab v := by
  obtain ⟨r, zs, h1, h2, h3, h4⟩ := h
  exact ⟨r, zs, h1, fun z => h2 (k _ z), h3, Paired.mapP h4 fun _ _ q => q.less k⟩
theorem num_of {z : Tr} {v : V} (h : TrV C H v z) (hz : z.isN = true) : Num C H v z.pr.1 z.pr.2 := by
  cases h with
  | int i => exact .inl ⟨rfl, rfl⟩
  | rat h => exact .inr ⟨_, rfl, h⟩
  | non => cases hz
  | bl _ => cases hz
  | str _ => cases hz
  | lst _ _ => cases hz
  | tup _ _ => cases hz
  | emp _ => cases hz
theorem nums_num : ∀ {l : List Tr} {zs : List V}, TrVs C H zs l → (∀ z ∈ l, z.isN = true) → Paired (fun (p : Int × Int) v => Num C H v p.1 p.2) (l.map Tr.pr) zs
  | _, _, .nil, _ => .nil
  | _, _, .cons h t, k => .cons (num_of h (k _ List.mem_cons_self)) (nums_num t fun z hz => k z (List.mem_cons_of_mem _ hz))
end
theorem pr_bt {z : Tr} (g : z.Good) (hz : z.isN = true) : Bt 170 z.pr.1 ∧ Bt 170 z.pr.2 ∧ 0 < z.pr.2 := by
  cases z with
  | int i =>
    rw [Tr.Good] at g
    exact ⟨Nat.lt_of_lt_of_le g (by decide +kernel), by show (1 : Int).natAbs < 2 ^ 170; decide +kernel, by show (0 : Int) < 1; decide⟩
  | rat t b =>
    rw [Tr.Good] at g
    exact ⟨g.1.mono (by decide), g.2.1.mono (by decide), g.2.2⟩
  | non => cases hz
  | bl _ => cases hz
  | str _ => cases hz
  | lst _ => cases hz
  | tup _ => cases hz
  | emp => cases hz
theorem good_sq {t : Tr} {l : List Tr} (h : t.sq? = some l) (g : t.Good) : GoodAll l := by
  cases t <;> first | (cases h; rw [Tr.Good] at g; exact g) | cases h
def spWantTabs (C : Addr) : Sp := fun vs H Q _ => ∃ (v : V) (t : Tr) (l : List Tr) (tall wide : Nat), vs = [v] ∧ TrV C H v t ∧ t.cnt ≤ 1000 ∧ t.Good ∧ Dim t l tall wide ∧ l.length ≤ 16 ∧ tall ≤ 4 ∧ wide ≤ 4 ∧ ∀ a H', H a = none → Ex H H' → TabsAt [] C H' a (l.map tabOf) → Q (.ref a) H'
section
variable {P : Program} {w : World} {K : PySem.W.Frag} {mg : Str → Option Value} {base : Heap} {f C : Addr} {fd : FuncData}
theorem sc_want_tables : FnScope ["value", "table", "row"] ["value"] (defScope (top 31)) := ⟨rfl, rfl, rfl, by decide +kernel, rfl, by decide +kernel, by decide +kernel⟩
theorem ok_want_tables (F : Fun K "want_tables" "want_tables" (top 31) f fd) (R : RCl K mg C) (T : Tx mg) (C_are_tables : ClO P w K mg base "are_tables" 5 ["value"] (spAreTabs C)) (C_ratios_of : ClO P w K mg base "ratios_of" 5 ["row"] (spRatiosOf C)) : FnOk P w K mg base CX0 6 f fd ["value"] (spWantTabs C) := by
  have sc := sc_want_tables
  refine F.ok sc (fun vs H Q E h => ?_) (fun cdv A outer s H vs Q E hr h => ?_)
  · obtain ⟨_, _, _, _, _, rfl, _⟩ := h; rfl
  obtain ⟨v, t, l, tall, wide, rfl, ht, cn, gd, dm, l16, t4, w4, q⟩ := h
  have mt := sq_cnt dm.sq
  have gl := good_sq dm.sq gd
  refine ⟨_, (pss_cons (ps_if (pt_not (pt_val (pe_clo C_are_tables (hr.mono (by first | decide | omega)) (pa_cons (pv 0) pa_nil)))) (pss_one ps_never) pss_nil) (pss_one (ps_ret (pe_lc (own := [("table", 1)]) (g := (gName 1)) rfl sc.nd (pi_sq (pv 0)) (blkOk_by (N := ["value", "table", "row"]) (sc := defScope ((top 31))) (by decide +kernel)) (fun _ _ _ _ _ => (pg_name (i := 1) sc.nd rfl (Or.inl rfl))) (fun _ _ _ _ _ => pts_nil) (fun _ _ _ _ _ => (pe_lc (own := [("row", 2)]) (g := (gName 2)) rfl sc.nd (pi_sq (pv 1)) (blkOk_by (N := ["value", "table", "row"]) (by kernel_rfl)) (fun _ _ _ _ _ => (pg_name (i := 2) sc.nd rfl (Or.inl rfl))) (fun _ _ _ _ _ => pts_nil) (fun _ _ _ _ _ => (pe_clo C_ratios_of (hr.mono (by first | decide | omega)) (pa_cons (pv 2) pa_nil))))))))), ?_⟩
  refine ⟨_, rfl, v, t, l, tall, wide, rfl, ht, cn, dm, l16, t4, w4, fun H1 e1 => ⟨_, rfl, itf ?_⟩⟩
  obtain ⟨a, xs, rfl, sq, tv⟩ := (TrV.up e1 _ _ ht).seq dm.sq
  have ln := tv.len
  refine ⟨_, rfl, a, xs, rfl, sq, fun J Gd wk hG D hD => ?_⟩
  refine lcE wk (Chg.ex hD) l ln.symm (by omega) (fun _ => true) (fun x v H => TabN [D] C H (tabOf x) v) (fun _ _ _ _ _ e h => h.up e) (fun _ _ _ _ _ hd h => h.ap hd (by simp)) hG ?_ ?_
  · rintro i x v1 H4 H5 N Gt hx e4 ⟨ac, hac⟩ ⟨rfl, hv1⟩ _ k
    obtain ⟨x', hx', hv⟩ := (TrVs.up e4 _ _ tv).at_ hv1
    cases hx.symm.trans hx'
    have mem := List.mem_of_getElem? hx
    obtain ⟨sx, lx, ax⟩ := rows_sq (dm.all x mem)
    have cx := cnt_mem mem
    have gx := good_sq sx (good_mem gl mem)
    obtain ⟨b, ys, rfl, sq2, tv2⟩ := hv.seq sx
    have ln2 := tv2.len
    have cx2 := sq_cnt sx
    refine ⟨rfl, _, rfl, b, ys, rfl, sq2, fun J2 Gd2 wk2 hG2 D2 hD2 => ?_⟩
    have nDD : D2 ≠ D := fun z => by rw [z, hac] at hD2; cases hD2
    refine lcE wk2 (Chg.ex hD2) x.rows ln2.symm (by omega) (fun _ => true) (fun y v H => RowN [D2, D] C H (y.rows.map Tr.pr) v) (fun _ _ _ _ _ e h => h.up e) (fun _ _ _ _ _ hd h => h.ap hd (by simp)) hG2 ?_ ?_
    · rintro i2 y v2 H6 H7 N2 Gt2 hy e6 ⟨ac2, hac2⟩ ⟨rfl, hv2⟩ _ k2
      obtain ⟨y', hy', hvy⟩ := (TrVs.up e6 _ _ tv2).at_ hv2
      cases hy.symm.trans hy'
      have memy := List.mem_of_getElem? hy
      obtain ⟨sy, ly, ay⟩ := nums_sq (ax y memy)
      have cy := cnt_mem memy
      have cy2 := sq_cnt sy
      have gy := good_sq sy (good_mem gx memy)
      obtain ⟨c, zs, rfl, sq3, tv3⟩ := hvy.seq sy
      have ln3 := len_cnt y.rows
      refine ⟨rfl, _, rfl, c, zs, y.rows.map Tr.pr, rfl, sq3, nums_num tv3 ay, fun p hp => ?_, by rw [List.length_map]; omega, fun r rs H8 h8 e8 k8 p8 => k2 rfl _ _ e8 ⟨r, rs, rfl, fun z => ?_, k8, p8⟩⟩
      · obtain ⟨z, hz, rfl⟩ := List.mem_map.mp hp
        exact (pr_bt (good_mem gy hz) (ay z hz)).1.mono (by decide)
      · rcases List.mem_cons.mp z with z | z
        · rw [z, hac2] at h8; cases h8
        · rw [List.mem_singleton.mp z, e6 _ _ hac] at h8; cases h8
    · intro acc H6 e6 hD6 hacc
      rw [filter_yes] at hacc
      refine k rfl _ _ e6 ⟨D2, acc, rfl, fun z => nDD (List.mem_singleton.mp z), hD6, ?_⟩
      exact paired_swap (paired_mapR (g := fun y : Tr => y.rows.map Tr.pr) (G := fun v row => RowN [D] C H6 row v) (fun _ _ h => h) (paired_swap (Paired.mapP hacc fun y v h => h.less (S' := [D]) fun b hb => List.mem_cons_of_mem _ hb)))
  · intro acc H4 e4 hD4 hacc
    rw [filter_yes] at hacc
    refine q D H4 (fresh_back e1 hD) (e1.trans e4) ⟨acc, hD4, List.not_mem_nil, ?_⟩
    exact paired_swap (paired_mapR (g := tabOf) (G := fun v tab => TabN [] C H4 tab v) (fun _ _ h => h) (paired_swap (Paired.mapP hacc fun y v h => h.less (S' := []) fun b hb => nomatch hb)))
end
end B71

namespace B71
open PySem PySem.Spec PyProof.Rows L2 Evl RZ SrtO

/-- so many tables of such sides, of n bits each -/
structure Tabs (n tall wide : Nat) (tabs : List (List (List (Int × Int)))) : Prop where
  ne : 1 ≤ tabs.length
  le : tabs.length ≤ 16
  t1 : 1 ≤ tall
  t4 : tall ≤ 4
  w1 : 1 ≤ wide
  w4 : wide ≤ 4
  tab : ∀ tab ∈ tabs, tab.length = tall ∧ ∀ row ∈ tab, row.length = wide ∧ Nb n row
  bits : n * (tabs.length * (tall * wide)) ≤ 5900
  n4 : n ≤ 4000
def spBotTops (C : Addr) : Sp := fun vs H Q _ => ∃ (a : Addr) (tabs : List (List (List (Int × Int)))) (n tall wide : Nat), vs = [.ref a] ∧ TabsAt [] C H a tabs ∧ Tabs n tall wide tabs ∧
  ∀ (r l : Addr) (b : Int) H', Ex H H' → H' r = some (.tup [.int b, .ref l]) → Q (.ref r) H'
theorem paired_app {α β : Type} {F : α → β → Prop} : ∀ {as as2 : List α} {bs bs2 : List β}, Paired F as bs → Paired F as2 bs2 → Paired F (as ++ as2) (bs ++ bs2)
  | _, _, _, _, .nil, q => q
  | _, _, _, _, .cons h t, q => .cons h (paired_app t q)
theorem nb0 {n : Nat} : Nb n [] := fun p hp => nomatch hp
section
variable {P : Program} {w : World} {K : PySem.W.Frag} {mg : Str → Option Value} {base : Heap} {f C : Addr} {fd : FuncData}
theorem sc_bottom_tops : FnScope ["tables", "flat", "table", "row", "bottom", "tops", "tall", "wide", "places", "at", "place"] ["tables"] (defScope (top 32)) := ⟨rfl, rfl, rfl, by decide +kernel, rfl, by decide +kernel, by decide +kernel⟩
theorem ok_bottom_tops (F : Fun K "bottom_tops" "bottom_tops" (top 32) f fd) (R : RCl K mg C) (T : Tx mg) (C_wholes : ClO P w K mg base "wholes" 1 ["ratios"] (spWholes C)) : FnOk P w K mg base CX0 2 f fd ["tables"] (spBotTops C) := by
  have sc := sc_bottom_tops
  refine F.ok sc (fun vs H Q E h => ?_) (fun cdv A outer s H vs Q E hr h => ?_)
  · obtain ⟨_, _, _, _, _, rfl, _⟩ := h; rfl
  obtain ⟨a, tabs, n, tall, wide, rfl, ⟨xs, ha, _, hp⟩, tb, q⟩ := h
  have lx : tabs.length = xs.length := Paired.length hp
  have sl : sizeLine = 16777216 := sizeLine_eq
  have hte := tb.le
  have ht1 := tb.t1
  have ht4 := tb.t4
  have hw1 := tb.w1
  have hw4 := tb.w4
  have hne := tb.ne
  refine ⟨_, (pss_cut (ps_set (i := 1) sc.nd rfl (Or.inl rfl) (pe_lst pa_nil)) (pss_cut (ps_for PassesOwn.never rfl (pi_list (pv 0)) (pg_name (i := 2) sc.nd rfl (Or.inl rfl)) (pss_one (ps_for PassesOwn.never rfl (pi_list (pv 2)) (pg_name (i := 3) sc.nd rfl (Or.inl rfl)) (pss_one (ps_expr (pe_bm PySem.F.plainAttrs_list PySem.F.slot_list_extend PySem.F.type_list_extend mt_extend (pv 1) (pa_cons (pv 3) pa_nil))))))) (pss_cut (ps_asg (pe_clo C_wholes (hr.mono (by first | decide | omega)) (pa_cons (pv 1) pa_nil)) (pg_tup rfl (pgs_cons (pg_name (i := 4) sc.nd rfl (Or.inl rfl)) (pgs_cons (pg_name (i := 5) sc.nd rfl (Or.inr rfl)) pgs_nil)))) (pss_cut (ps_asg (pe_tup (pa_cons (pe_callB call_len_seq rfl T.b_len bt_len (pa_cons (pe_ix ix_list (pv 0) pe_int (fun _ _ => rfl)) pa_nil)) (pa_cons (pe_callB call_len_seq rfl T.b_len bt_len (pa_cons (pe_ix ix_list (pe_ix ix_list (pv 0) pe_int (fun _ _ => rfl)) pe_int (fun _ _ => rfl)) pa_nil)) pa_nil))) (pg_tup rfl (pgs_cons (pg_name (i := 6) sc.nd rfl (Or.inr rfl)) (pgs_cons (pg_name (i := 7) sc.nd rfl (Or.inr rfl)) pgs_nil)))) (pss_cut (ps_setLc (i := 8) (own := [("at", 9)]) (g := (gName 9)) rfl sc.nd rfl rfl (sw_true rfl rfl rfl (by decide +kernel)) (pi_range1 rfl T.b_range (pa_cons (pe_callB call_len_seq rfl T.b_len bt_len (pa_cons (pv 0) pa_nil)) pa_nil)) (blkOk_by (N := ["tables", "flat", "table", "row", "bottom", "tops", "tall", "wide", "places", "at", "place"]) (sc := defScope ((top 32))) (by decide +kernel)) (fun _ _ _ _ _ => (pg_name (i := 9) sc.nd rfl (Or.inr rfl))) (fun _ _ _ _ _ => pts_nil) (fun _ _ _ _ _ => (pe_lc (own := [("row", 3)]) (g := (gName 3)) rfl sc.nd (pi_range1 rfl T.b_range (pa_cons (pv 6) pa_nil)) (blkOk_by (N := ["tables", "flat", "table", "row", "bottom", "tops", "tall", "wide", "places", "at", "place"]) (by kernel_rfl)) (fun _ _ _ _ _ => (pg_name (i := 3) sc.nd rfl (Or.inl rfl))) (fun _ _ _ _ _ => pts_nil) (fun _ _ _ _ _ => (pe_op op_mulW (pe_op op_add (pe_op op_mulW (pv 9) (pv 6)) (pv 3)) (pv 7)))))) (pss_one (ps_ret (pe_tup (pa_cons (pv 4) (pa_cons (pe_lc (own := [("row", 3)]) (g := (gName 3)) rfl sc.nd (pi_list (pv 8)) (blkOk_by (N := ["tables", "flat", "table", "row", "bottom", "tops", "tall", "wide", "places", "at", "place"]) (sc := defScope ((top 32))) (by decide +kernel)) (fun _ _ _ _ _ => (pg_name (i := 3) sc.nd rfl (Or.inl rfl))) (fun _ _ _ _ _ => pts_nil) (fun _ _ _ _ _ => (pe_lc (own := [("place", 10)]) (g := (gName 10)) rfl sc.nd (pi_sq (pv 3)) (blkOk_by (N := ["tables", "flat", "table", "row", "bottom", "tops", "tall", "wide", "places", "at", "place"]) (by kernel_rfl)) (fun _ _ _ _ _ => (pg_name (i := 10) sc.nd rfl (Or.inl rfl))) (fun _ _ _ _ _ => pts_nil) (fun _ _ _ _ _ => (pe_slice (show SlR _ (rSlL K) from sl_list) (pv 5) (po_some (pv 10)) (po_some (pe_op op_add (pv 10) (pv 7)))))))) pa_nil)))))))))), ?_⟩
  refine ⟨fun σ' H' => ∃ D, σ' = [some (.ref a), some (.ref D), none, none, none, none, none, none, none, none, none] ∧ H D = none ∧ H' = upd H D (.lst []), ?_, ?_⟩
  · exact ⟨(by show 0 ≤ sizeLine; decide), fun D hD => ⟨D, rfl, hD, rfl⟩⟩
  rintro σ' H1 ⟨D, rfl, hD, rfl⟩
  have e0 : Ex H (upd H D (.lst [])) := Ex.new hD
  refine ⟨fun σ' H' => ∃ o2 o3 zs ps, σ' = [some (.ref a), some (.ref D), o2, o3, none, none, none, none, none, none, none] ∧ Ex H H' ∧ H' D = some (.lst zs) ∧ Paired (fun p v => RtV C p v H') ps zs ∧ Nb n ps ∧ ps.length ≤ tabs.length * (tall * wide), ?_, ?_⟩
  · refine ⟨_, rfl, a, rfl, ⟨_, sq_of (e0 _ _ ha)⟩, for_list (K := K) (a := a) (xs := xs) (fun i σ H' => ∃ o2 o3 zs ps, σ = [some (.ref a), some (.ref D), o2, o3, none, none, none, none, none, none, none] ∧ Ex H H' ∧ H' D = some (.lst zs) ∧ Paired (fun p v => RtV C p v H') ps zs ∧ Nb n ps ∧ ps.length ≤ i * (tall * wide))
      ⟨_, _, [], [], rfl, e0, upd_same, .nil, nb0, Nat.zero_le _⟩ (fun i σ H' _ ⟨_, _, _, _, _, e, _⟩ => sq_of (e _ _ ha)) ?_ ?_⟩
    · rintro i v σ H2 hv ⟨o2, o3, zs, ps, rfl, e2, hD2, hz, nb, lz⟩
      obtain ⟨tab, htab, r, ys, rfl, _, hr0, hy⟩ := paired_at hp hv
      obtain ⟨lt, rows⟩ := tb.tab tab (List.mem_of_getElem? htab)
      have ly : tab.length = ys.length := Paired.length hy
      have hi : i < tabs.length := (List.getElem?_eq_some_iff.mp htab).1
      refine ⟨_, rfl, r, rfl, ⟨_, sq_of (e2 _ _ hr0)⟩, for_list (K := K) (a := r) (xs := ys) (fun j σ H' => ∃ o3 zs ps, σ = [some (.ref a), some (.ref D), some (.ref r), o3, none, none, none, none, none, none, none] ∧ Ex H H' ∧ H' D = some (.lst zs) ∧ Paired (fun p v => RtV C p v H') ps zs ∧ Nb n ps ∧ ps.length ≤ i * (tall * wide) + j * wide)
        ⟨_, zs, ps, rfl, e2, hD2, hz, nb, by omega⟩ (fun j σ H' _ ⟨_, _, _, _, e, _⟩ => sq_of (e _ _ hr0)) ?_ ?_⟩
      · rintro j v2 σ H3 hv2 ⟨o3, zs, ps, rfl, e3, hD3, hz3, nb3, lz3⟩
        obtain ⟨row, hrow, r2, ws, rfl, _, hr2, hw⟩ := paired_at hy hv2
        obtain ⟨lr, nbr⟩ := rows row (List.mem_of_getElem? hrow)
        have lw : row.length = ws.length := Paired.length hw
        have lzz : ps.length = zs.length := Paired.length hz3
        have hj : j < tab.length := (List.getElem?_eq_some_iff.mp hrow).1
        have b1 : i * (tall * wide) ≤ 16 * 16 := Nat.mul_le_mul (by omega) (Nat.mul_le_mul ht4 hw4)
        have b2 : j * wide ≤ 4 * 4 := Nat.mul_le_mul (by omega) hw4
        refine ⟨_, rfl, .inl ⟨rfl, _, sq_of hD3⟩, _, rfl, D, r2, zs, ws, rfl, rfl, hD3, e3 _ _ hr2, by omega, some (.ref r2), zs ++ ws, ps ++ row, rfl, e3.mut hD, upd_same, ?_, ?_, ?_⟩
        · exact Paired.mapP (paired_app (as := ps) (as2 := row) hz3 (Paired.mapP hw fun _ _ h => Stab.rt.up _ _ _ _ e3 h)) fun y v h => Stab.rt.ap y v _ _ _ _ hD3 h
        · intro p hp
          rcases List.mem_append.mp hp with hp | hp
          · exact nb3 p hp
          · exact nbr p hp
        · rw [List.length_append, lr, Nat.add_mul]
          omega
      · rintro σ H3 ⟨o3, zs, ps, rfl, e3, hD3, hz3, nb3, lz3⟩
        refine ⟨_, _, zs, ps, rfl, e3, hD3, hz3, nb3, ?_⟩
        rw [← ly, lt] at lz3
        rw [Nat.add_mul]
        omega
    · rintro σ H2 ⟨o2, o3, zs, ps, rfl, e2, hD2, hz, nb, lz⟩
      rw [← lx] at lz
      exact ⟨_, _, zs, ps, rfl, e2, hD2, hz, nb, lz⟩
  rintro σ' H2 ⟨o2, o3, zs, ps, rfl, e2, hD2, hz, nb, lz⟩
  have small : tabs.length * (tall * wide) ≤ 16 * 16 := Nat.mul_le_mul hte (Nat.mul_le_mul ht4 hw4)
  have bits := Nat.le_trans (Nat.mul_le_mul_left n lz) tb.bits
  refine ⟨fun σ' H' => ∃ (b : Int) (l : Addr) (ks : List Int), σ' = [some (.ref a), some (.ref D), o2, o3, some (.int b), some (.ref l), none, none, none, none, none] ∧ Ex H H' ∧ H' l = some (.lst (ks.map V.int)), ?_, ?_⟩
  · refine ⟨_, rfl, D, zs, ps, n, rfl, hD2, hz, nb, bits, by omega, tb.n4, fun r l H3 h1 h2 e3 k1 k2 => ?_⟩
    exact ⟨r, _, rfl, st_of k1, rfl, _, _, rfl, _, _, rfl, rfl, _, l, _, rfl, e2.trans e3, k2⟩
  rintro σ' H3 ⟨b, l, ks, rfl, e3, hl⟩
  obtain ⟨tab0, ht0⟩ : ∃ t, tabs[0]? = some t := ⟨tabs[0], List.getElem?_eq_getElem (by omega)⟩
  obtain ⟨v0, hv0⟩ : ∃ v, xs[0]? = some v := ⟨xs[0], List.getElem?_eq_getElem (by omega)⟩
  obtain ⟨tab0', ht0', r0, ys0, rfl, _, hr0, hy0⟩ := paired_at hp hv0
  obtain ⟨lt0, rows0⟩ := tb.tab tab0' (List.mem_of_getElem? ht0')
  have ly0 : tab0'.length = ys0.length := Paired.length hy0
  obtain ⟨u0, hu0⟩ : ∃ v, ys0[0]? = some v := ⟨ys0[0], List.getElem?_eq_getElem (by omega)⟩
  obtain ⟨row0, hrow0, r1, ws0, rfl, _, hr1, hw0⟩ := paired_at hy0 hu0
  obtain ⟨lr0, _⟩ := rows0 row0 (List.mem_of_getElem? hrow0)
  have lw0 : row0.length = ws0.length := Paired.length hw0
  refine ⟨fun σ' H' => σ' = [some (.ref a), some (.ref D), o2, o3, some (.int b), some (.ref l), some (.int tall), some (.int wide), none, none, none] ∧ Ex H3 H', ?_, ?_⟩
  · refine ⟨_, rfl, a, _, 0, .ref r0, rfl, rfl, sq_of (e3 _ _ ha), atI_nat (j := 0) hv0, r0, ys0, rfl, .inl (sq_of (e3 _ _ hr0)), ?_⟩
    refine ⟨_, rfl, a, _, 0, .ref r0, rfl, rfl, sq_of (e3 _ _ ha), atI_nat (j := 0) hv0, r0, _, 0, .ref r1, rfl, rfl, sq_of (e3 _ _ hr0), atI_nat (j := 0) hu0, r1, ws0, rfl, .inl (sq_of (e3 _ _ hr1)), ?_⟩
    refine ⟨(by show 2 ≤ sizeLine; decide), fun tp htp => ?_⟩
    refine ⟨tp, _, rfl, st_of upd_same, rfl, _, _, rfl, _, _, rfl, rfl, ?_, Ex.new htp⟩
    rw [← ly0, lt0, ← lw0, lr0]
    rfl
  rintro σ' H4 ⟨rfl, e4⟩
  replace e3 := e3.trans e4
  replace hl := e4 _ _ hl
  refine ⟨fun σ' H' => ∃ (pl : Addr) (vs : List V), σ' = [some (.ref a), some (.ref D), o2, o3, some (.int b), some (.ref l), some (.int tall), some (.int wide), some (.ref pl), none, none] ∧ Ex H4 H' ∧ H' pl = some (.lst vs) ∧ vs.length ≤ 16 ∧ ∀ v ∈ vs, ∃ (r : Addr) (ms : List Int), v = .ref r ∧ H' r = some (.lst (ms.map V.int)) ∧ ms.length ≤ 4, ?_, ?_⟩
  · refine ⟨_, rfl, a, xs, rfl, .inl (sq_of (e3 _ _ ha)), xs.length, rfl, by omega, by omega, fun D2 hD2 => ?_⟩
    refine lcE (walk_range (lo := 0) (n := xs.length)) (Chg.ex hD2) (List.range xs.length) (List.length_range).symm (by omega) (fun _ => true) (fun _ v H' => ∃ (r : Addr) (ms : List Int), v = .ref r ∧ r ≠ D2 ∧ H' r = some (.lst (ms.map V.int)) ∧ ms.length ≤ 4) ?_ ?_ (fun _ _ => trivial) ?_ ?_
    · rintro y v H6 H7 e6 e7 ⟨r, ms, h1, h2, h3, h4⟩
      exact ⟨r, ms, h1, h2, e7 _ _ h3, h4⟩
    · rintro y v H6 acc acc' hd ⟨r, ms, h1, h2, h3, h4⟩
      exact ⟨r, ms, h1, h2, by rw [upd_ne h2]; exact h3, h4⟩
    · rintro i y x H6 H7 N Gt hy e6 ⟨ac, hac⟩ ⟨rfl, rfl⟩ _ k
      have hi : i < xs.length := by
        have := (List.getElem?_eq_some_iff.mp hy).1
        simpa using this
      have bi : Bt 8 (0 + (i : Int)) := by unfold Bt; omega
      have bt : Bt 8 (tall : Int) := by unfold Bt; omega
      have bw : Bt 8 (wide : Int) := by unfold Bt; omega
      refine ⟨rfl, _, rfl, tall, rfl, by omega, by omega, fun D3 hD3 => ?_⟩
      refine lcE (walk_range (lo := 0) (n := tall)) (Chg.ex hD3) (List.range tall) (List.length_range).symm (by omega) (fun _ => true) (fun _ v _ => ∃ m : Int, v = .int m) (fun _ _ _ _ _ _ h => h) (fun _ _ _ _ _ _ h => h) (fun _ _ => trivial) ?_ ?_
      · rintro i2 y2 x2 H8 H9 N2 Gt2 hy2 e8 _ ⟨rfl, rfl⟩ _ k2
        have hi2 : i2 < tall := by
          have := (List.getElem?_eq_some_iff.mp hy2).1
          simpa using this
        have b2 : Bt 17 ((0 + (i : Int)) * (tall : Int) + (0 + (i2 : Int))) := Bt.add (bi.mul bt) (show Bt 16 (0 + (i2 : Int)) by unfold Bt; omega)
        exact ⟨rfl, _, rfl, _, rfl, _, _, rfl, rfl, mulOk bi bt (by decide) (by decide) (by decide), _, rfl, _, _, rfl, rfl, _, rfl, _, _, rfl, rfl, mulOk b2 bw (by decide) (by decide) (by decide), k2 rfl _ _ (Ex.refl _) ⟨_, rfl⟩⟩
      · intro acc H8 e8 hD8 hacc
        rw [filter_yes] at hacc
        have intsOf : ∀ {l : List Nat} {acc : List V}, Paired (fun _ v => ∃ m : Int, v = V.int m) l acc → ∃ ms : List Int, acc = ms.map V.int ∧ ms.length = l.length := by
          intro l acc z
          induction z with
          | nil => exact ⟨[], rfl, rfl⟩
          | cons a _ ih =>
            obtain ⟨m, rfl⟩ := a
            obtain ⟨ms, rfl, h⟩ := ih
            exact ⟨m :: ms, rfl, by simp [h]⟩
        obtain ⟨ms, rfl, hms⟩ := intsOf hacc
        exact k rfl _ _ e8 ⟨D3, ms, rfl, (fun z => by rw [z, hac] at hD3; cases hD3), hD8, by rw [hms, List.length_range]; exact ht4⟩
    · intro acc H6 e6 hD6 hacc
      rw [filter_yes] at hacc
      refine ⟨D2, acc, rfl, e6, hD6, by rw [← Paired.length hacc, List.length_range]; omega, ?_⟩
      have mem : ∀ {l : List Nat} {acc : List V}, Paired (fun _ v => ∃ (r : Addr) (ms : List Int), v = V.ref r ∧ r ≠ D2 ∧ H6 r = some (.lst (ms.map V.int)) ∧ ms.length ≤ 4) l acc → ∀ v ∈ acc, ∃ (r : Addr) (ms : List Int), v = .ref r ∧ H6 r = some (.lst (ms.map V.int)) ∧ ms.length ≤ 4 := by
        intro l acc z
        induction z with
        | nil => intro v hv; exact nomatch hv
        | cons a _ ih =>
          intro v hv
          rcases List.mem_cons.mp hv with rfl | hv
          · obtain ⟨r, ms, h1, _, h3, h4⟩ := a
            exact ⟨r, ms, h1, h3, h4⟩
          · exact ih v hv
      exact mem hacc
  rintro σ' H5 ⟨pl, vs, rfl, e5, hpl, l16, hvs⟩
  replace hl := e5 _ _ hl
  refine ⟨_, rfl, _, rfl, pl, rfl, ⟨_, sq_of hpl⟩, fun D2 hD2 => ?_⟩
  refine lcE (walk_list (K := K) (a := pl) (xs := vs)) (Chg.ex hD2) vs rfl (by omega) (fun _ => true) (fun _ _ _ => True) (fun _ _ _ _ _ _ h => h) (fun _ _ _ _ _ _ h => h) (fun H6 e6 => sq_of (e6 _ _ hpl)) ?_ ?_
  · rintro i y x H6 H7 N Gt hy e6 _ ⟨rfl, hx⟩ _ k
    obtain ⟨r, ms, rfl, hr, lm⟩ := hvs x (List.mem_of_getElem? hx)
    refine ⟨rfl, _, rfl, r, _, rfl, .inl (e6 _ _ hr), fun J3 Gd3 wk3 hG3 D3 hD3 => ?_⟩
    refine lcE wk3 (Chg.ex hD3) ms (List.length_map _) (by rw [List.length_map]; omega) (fun _ => true) (fun _ _ _ => True) (fun _ _ _ _ _ _ h => h) (fun _ _ _ _ _ _ h => h) hG3 ?_ ?_
    · rintro i2 y2 x2 H8 H9 N2 Gt2 hy2 e8 _ ⟨rfl, hx2⟩ _ k2
      rw [List.getElem?_map, hy2] at hx2
      cases hx2
      exact ⟨rfl, _, rfl, _, rfl, _, rfl, _, rfl, _, rfl, _, _, rfl, rfl, _, rfl, l, _, rfl, sq_of (e8 _ _ (e6 _ _ hl)), fun p hp => k2 rfl _ _ (Ex.new hp) trivial⟩
    · intro acc H8 e8 hD8 _
      exact k rfl _ _ e8 trivial
  · intro acc H6 e6 hD6 _
    refine ⟨(by show 2 ≤ sizeLine; decide), fun r hr => ?_⟩
    exact q r D2 b _ (e3.trans (e5.trans (e6.trans (Ex.new hr)))) upd_same
end
end B71

namespace B71
open PySem PySem.Spec PyProof.Rows L2 Evl RZ SrtO

/-- the class of teams -/
structure TCl (K : PySem.W.Frag) (mg : Str → Option Value) (CT : Addr) : Prop where
  cl : Cls K CT
  mgT : mg "Team" = some (.ref CT)
  n1 : NoAttr K CT "own_tables"
  n2 : NoAttr K CT "own_bottom"
  n3 : NoAttr K CT "own_tops"
  c1 : PySem.W.findIn K (.ref CT) "__class__" = some (some (.builtin "object.__class__"))
  c2 : PySem.W.specialIn K (.builtin "object.__class__") "__get__" = some (some (.builtin "getset_descriptor.__get__"))
  c3 : PySem.W.takesIn K (.builtin "object.__class__") = some true
  c4 : PySem.W.mroIn K CT (.type "object") = some true
def tmF (a : Addr) (b : Int) (c : Addr) : List (Str × V) := [("own_tables", .ref a), ("own_bottom", .int b), ("own_tops", .ref c)]
def TeamAt (C CT : Addr) (H : Hp) (x : Addr) (tabs : List (List (List (Int × Int)))) : Prop := ∃ dx a b c, H x = some (.ins CT dx (tmF a b c)) ∧ TabsAt [] C H a tabs
theorem TeamAt.up {C CT x : Addr} {H H' : Hp} {tabs : List (List (List (Int × Int)))} (h : TeamAt C CT H x tabs) (e : Ex H H') : TeamAt C CT H' x tabs := by
  obtain ⟨dx, a, b, c, h1, h2⟩ := h
  exact ⟨dx, a, b, c, e _ _ h1, h2.up e⟩
theorem TabsAt.ins {C CT x dx a : Addr} {H : Hp} {fs fs' : List (Str × V)} {tabs : List (List (List (Int × Int)))} (hx : H x = some (.ins CT dx fs)) (hf : fs.lookup ("own_top" : Str) = none) (h : TabsAt [] C H a tabs) : TabsAt [] C (upd H x (.ins CT dx fs')) a tabs := by
  have rt : ∀ (p : Int × Int) (v : V), RtV C p v H → RtV C p v (upd H x (.ins CT dx fs')) := fun p v ⟨r, h1, d, h2⟩ => ⟨r, h1, d, by
    rw [upd_ne (fun z => by
      rw [z, hx] at h2
      injection h2 with h2
      injection h2 with _ _ h2
      rw [h2, rf_top] at hf
      cases hf)]
    exact h2⟩
  have ls : ∀ {r : Addr} {xs : List V}, H r = some (.lst xs) → upd H x (.ins CT dx fs') r = some (.lst xs) := fun {r xs} h => by
    rw [upd_ne (fun z => by rw [z, hx] at h; cases h)]
    exact h
  obtain ⟨xs, h1, h2, h3⟩ := h
  refine ⟨xs, ls h1, h2, Paired.mapP h3 fun tab v q => ?_⟩
  obtain ⟨r, ys, k1, k2, k3, k4⟩ := q
  refine ⟨r, ys, k1, k2, ls k3, Paired.mapP k4 fun row v q => ?_⟩
  obtain ⟨r, zs, k1, k2, k3, k4⟩ := q
  exact ⟨r, zs, k1, k2, ls k3, Paired.mapP k4 fun p v q => rt p v q⟩
/-- the bits of the pairs of a team's tables, in the tree -/
def spTeamInit (C CT : Addr) : Sp := fun vs H Q _ => ∃ (x dx : Addr) (v : V) (t : Tr) (l : List Tr) (n tall wide : Nat), vs = [.ref x, v] ∧ H x = some (.ins CT dx []) ∧ TrV C H v t ∧ t.cnt ≤ 1000 ∧ t.Good ∧ Dim t l tall wide ∧ Tabs n tall wide (l.map tabOf) ∧
  ∀ H', (∀ y o, y ≠ x → H y = some o → H' y = some o) → TeamAt C CT H' x (l.map tabOf) → Q .non H'
def spMany (C CT : Addr) : Sp := fun vs H Q _ => ∃ (x : Addr) (tabs : List (List (List (Int × Int)))), vs = [.ref x] ∧ TeamAt C CT H x tabs ∧ RetV (.int (tabs.length : Nat)) H Q
def spWantTeam (C CT : Addr) : Sp := fun vs H Q _ => ∃ (x : Addr) (tabs : List (List (List (Int × Int)))), vs = [.ref x] ∧ TeamAt C CT H x tabs ∧ RetV (.ref x) H Q
theorem str_ne1 : ¬ (("own_tables" : Str) = "own_bottom") := by decide +kernel
theorem str_ne2 : ¬ (("own_tables" : Str) = "own_tops") := by decide +kernel
theorem str_ne3 : ¬ (("own_bottom" : Str) = "own_tops") := by decide +kernel
theorem put_tm {a c : Addr} {b : Int} : putF "own_tops" (.ref c) (putF "own_bottom" (.int b) (putF "own_tables" (.ref a) [])) = tmF a b c := by
  have e1 : putF "own_bottom" (V.int b) (putF "own_tables" (.ref a) []) = [(("own_tables" : Str), V.ref a), (("own_bottom" : Str), V.int b)] := by
    show (if ("own_tables" : Str) = "own_bottom" then _ else (("own_tables" : Str), V.ref a) :: putF "own_bottom" (V.int b) []) = _
    rw [if_neg str_ne1]
    rfl
  rw [e1]
  show (if ("own_tables" : Str) = "own_tops" then _ else (("own_tables" : Str), V.ref a) :: (if ("own_bottom" : Str) = "own_tops" then _ else (("own_bottom" : Str), V.int b) :: putF "own_tops" (V.ref c) [])) = _
  rw [if_neg str_ne2, if_neg str_ne3]
  rfl
theorem put_two {a : Addr} {b : Int} : putF "own_bottom" (V.int b) (putF "own_tables" (.ref a) []) = [(("own_tables" : Str), V.ref a), (("own_bottom" : Str), V.int b)] := by
  show (if ("own_tables" : Str) = "own_bottom" then _ else (("own_tables" : Str), V.ref a) :: putF "own_bottom" (V.int b) []) = _
  rw [if_neg str_ne1]
  rfl
theorem no1 {a : Addr} : (putF "own_tables" (V.ref a) []).lookup ("own_top" : Str) = none := by
  show List.lookup ("own_top" : Str) [(("own_tables" : Str), V.ref a)] = none
  rw [List.lookup_cons, show ((("own_top" : Str)) == "own_tables") = false from by decide +kernel]
  rfl
theorem no2 {a : Addr} {b : Int} : (putF "own_bottom" (V.int b) (putF "own_tables" (.ref a) [])).lookup ("own_top" : Str) = none := by
  rw [put_two, List.lookup_cons, show ((("own_top" : Str)) == "own_tables") = false from by decide +kernel]
  show List.lookup ("own_top" : Str) [(("own_bottom" : Str), V.int b)] = none
  rw [List.lookup_cons, show ((("own_top" : Str)) == "own_bottom") = false from by decide +kernel]
  rfl
theorem look_tm {a c : Addr} {b : Int} : (tmF a b c).lookup ("own_tables" : Str) = some (.ref a) := rfl
section
variable {P : Program} {w : World} {K : PySem.W.Frag} {mg : Str → Option Value} {base : Heap} {f C CT CRight CTeam : Addr} {fd : FuncData}
theorem sc_Team___init__ : FnScope ["self", "tables"] ["self", "tables"] (defScope (inClass (top 28) 0)) := ⟨rfl, rfl, rfl, by decide +kernel, rfl, by decide +kernel, by decide +kernel⟩
theorem ok_team_init (F : Fun K "__init__" "Team.__init__" (inClass (top 28) 0) f fd) (R : RCl K mg C) (M : RCm K C) (TC : TCl K mg CT) (T : Tx mg) (mCRight : mg "Right" = some (.ref CRight)) (kRl : PySem.W.kitOne K (.type "list") (.ref CRight) = some false) (kRt : PySem.W.kitOne K (.type "tuple") (.ref CRight) = some false)
    (C_want_tables : ClO P w K mg base "want_tables" 6 ["value"] (spWantTabs C)) (C_bottom_tops : ClO P w K mg base "bottom_tops" 2 ["tables"] (spBotTops C)) : FnOk P w K mg base CX0 7 f fd ["self", "tables"] (spTeamInit C CT) := by
  have sc := sc_Team___init__
  refine F.ok sc (fun vs H Q E h => ?_) (fun cdv A outer s H vs Q E hr h => ?_)
  · obtain ⟨_, _, _, _, _, _, _, _, rfl, _⟩ := h; rfl
  obtain ⟨x, dx, v, t, l, n, tall, wide, rfl, hx, ht, cn, gd, dm, tb, q⟩ := h
  have l16 : l.length ≤ 16 := by have := tb.le; rw [List.length_map] at this; exact this
  refine ⟨_, (pss_cut (ps_fld (pv 0) (pe_ifExp (pt_val (pe_callB call_isi rfl T.b_isinstance bt_isinstance (pa_cons (pv 1) (pa_cons (pe_glob (v := .ref CRight) rfl mCRight rfl) pa_nil)))) (pe_fld (pv 1) rfl) (pe_clo C_want_tables (hr.mono (by first | decide | omega)) (pa_cons (pv 1) pa_nil))) rfl) (pss_one (ps_asg (pe_clo C_bottom_tops (hr.mono (by first | decide | omega)) (pa_cons (pe_fld (pv 0) rfl) pa_nil)) (pg_tup rfl (pgs_cons (pg_fld (pv 0)) (pgs_cons (pg_fld (pv 0)) pgs_nil)))))), ?_⟩
  refine ⟨fun σ' H' => ∃ a H1, σ' = [some (.ref x), some v] ∧ Ex H H1 ∧ H' = upd H1 x (.ins CT dx (putF "own_tables" (.ref a) [])) ∧ TabsAt [] C H' a (l.map tabOf), ?_, ?_⟩
  · have tyv : ∃ ty, TyX K H v ty ∧ PySem.W.kitOne K ty (.ref CRight) = some false := by
      have sq := dm.sq
      cases ht with
      | lst h _ => exact ⟨_, .base (.lst h), kRl⟩
      | tup h _ => exact ⟨_, .base (.tup h), kRt⟩
      | non => cases sq
      | bl _ => cases sq
      | int _ => cases sq
      | str _ => cases sq
      | rat _ => cases sq
      | emp _ => cases sq
    obtain ⟨ty, t1, t2⟩ := tyv
    refine ⟨_, rfl, v, _, ty, _, _, rfl, .own CRight, t1, t2, _, rfl, itf ?_⟩
    refine ⟨_, rfl, v, t, l, tall, wide, rfl, ht, cn, gd, dm, l16, tb.t4, tb.w4, fun a H1 h1 e1 ta => ?_⟩
    exact ⟨_, rfl, x, CT, dx, [], rfl, e1 _ _ hx, TC.cl, TC.n1, by decide, a, H1, rfl, e1, rfl, ta.ins (e1 _ _ hx) rfl⟩
  rintro σ' H2 ⟨a, H1, rfl, e1, eH, ta⟩
  have hx2 : H2 x = some (.ins CT dx (putF "own_tables" (.ref a) [])) := by rw [eH, upd_same]
  refine ⟨_, rfl, x, CT, dx, _, .ref a, rfl, hx2, TC.cl, TC.n1, rfl, a, _, n, tall, wide, rfl, ta, tb, fun r c b H3 e3 k3 => ?_⟩
  have hx3 := e3 _ _ hx2
  refine ⟨r, _, rfl, st_of k3, rfl, _, _, rfl, _, rfl, x, CT, dx, _, rfl, hx3, TC.cl, TC.n2, (by show 1 < 1000; decide), _, _, rfl, _, rfl, x, CT, dx, _, rfl, upd_same, TC.cl, TC.n3, ?_, rfl, ?_⟩
  · rw [put_two]
    show 2 < 1000
    decide
  · have e03 := e1.trans (Ex.refl H1)
    refine q _ (fun y o hy k => ?_) ⟨dx, a, b, c, ?_, ((ta.up e3).ins hx3 no1).ins upd_same no2⟩
    · rw [upd_ne hy, upd_ne hy]
      refine e3 _ _ ?_
      rw [eH, upd_ne hy]
      exact e1 _ _ k
    · rw [upd_same, put_tm]
theorem sc_Team_many : FnScope ["self"] ["self"] (defScope (inClass (top 28) 1)) := ⟨rfl, rfl, rfl, by decide +kernel, rfl, by decide +kernel, by decide +kernel⟩
theorem ok_many (F : Fun K "many" "Team.many" (inClass (top 28) 1) f fd) (TC : TCl K mg CT) (T : Tx mg) : FnOk P w K mg base CX0 1 f fd ["self"] (spMany C CT) := by
  have sc := sc_Team_many
  refine F.ok sc (fun vs H Q E h => ?_) (fun cdv A outer s H vs Q E hr h => ?_)
  · obtain ⟨_, _, rfl, _⟩ := h; rfl
  obtain ⟨x, tabs, rfl, ⟨dx, a, b, c, hx, xs, ha, _, hp⟩, q⟩ := h
  refine ⟨_, (pss_one (ps_ret (pe_callB call_len_seq rfl T.b_len bt_len (pa_cons (pe_fld (pv 0) rfl) pa_nil)))), ?_⟩
  refine ⟨_, rfl, x, CT, dx, _, .ref a, rfl, hx, TC.cl, TC.n1, look_tm, a, xs, rfl, .inl (sq_of ha), ?_⟩
  rw [← Paired.length hp]
  exact q _ (Ex.refl _)
theorem sc_want_team : FnScope ["value"] ["value"] (defScope (top 33)) := ⟨rfl, rfl, rfl, by decide +kernel, rfl, by decide +kernel, by decide +kernel⟩
theorem ok_want_team (F : Fun K "want_team" "want_team" (top 33) f fd) (TC : TCl K mg CTeam) (T : Tx mg) (mCTeam : mg "Team" = some (.ref CTeam)) : FnOk P w K mg base CX0 1 f fd ["value"] (spWantTeam C CTeam) := by
  have sc := sc_want_team
  refine F.ok sc (fun vs H Q E h => ?_) (fun cdv A outer s H vs Q E hr h => ?_)
  · obtain ⟨_, _, rfl, _⟩ := h; rfl
  obtain ⟨x, tabs, rfl, ⟨dx, a, b, c, hx, ht⟩, q⟩ := h
  refine ⟨_, (pss_cons (ps_if (pt_not (pt_val (pe_callB call_isi rfl T.b_isinstance bt_isinstance (pa_cons (pv 0) (pa_cons (pe_glob (v := .ref CTeam) rfl mCTeam rfl) pa_nil))))) (pss_one ps_never) pss_nil) (pss_one (ps_ret (pv 0)))), ?_⟩
  refine ⟨_, rfl, .ref x, _, .ref CTeam, _, _, rfl, .own CTeam, .base (.ins hx TC.cl TC.c1 TC.c2 TC.c3 TC.c4), kt_own, _, rfl, itf ?_⟩
  exact ⟨_, rfl, q _ (Ex.refl _)⟩
end
end B71

namespace B71
open PySem PySem.Spec PyProof.Rows L2 Evl RZ SrtO

/-- a property of a class, whatever it promises -/
structure PrS (P : Program) (w : World) (K : PySem.W.Frag) (mg : Str → Option Value) (base : Heap) (C : Addr) (nm : Str) (k : Nat) (sp : Sp) : Prop where
  ex : ∃ (p fa : Addr) (fd : FuncData), PropOf K C nm p fa ∧ FnOk P w K mg base CX0 k fa fd ["self"] sp ∧ Binds K fd ["self"] []
theorem pe_prS {X : Cx} {C : Addr} {nm : Str} {k : Nat} {sp : Sp} {e : Expr} {te : TE} {pos : Pos} (B : PrS X.prog X.w X.K X.mg X.base C nm k sp) (cl : Cls X.K C) (hr : Room (k + 1) X.A) (he : PE X e te) (hab : attributeBase e nm X.env (eval e X.env) = eval e X.env := by rfl) :
    PE X (.Attribute e nm pos) (tProp C sp [] E0 te) := by
  obtain ⟨p, fa, fd, hp, F, b⟩ := B.ex
  exact pe_prop he cl hp F hr b .nil pass0 hab
def HelpOk (many : Nat) (t : Tr) : Prop := ∃ l tall wide, Dim t l tall wide ∧ l.length = many ∧ tall ≤ 24 ∧ wide ≤ 24
def spHelpIn (C CT : Addr) : Sp := fun vs H Q _ => ∃ (x : Addr) (tabs : List (List (List (Int × Int)))) (v : V) (t : Tr), vs = [.ref x, v] ∧ TeamAt C CT H x tabs ∧ 1 ≤ tabs.length ∧ TrV C H v t ∧ t.cnt ≤ 1000 ∧ t.Good ∧
  (∀ l tall wide, Dim t l tall wide → l.length = tabs.length → tall ≤ 24 → wide ≤ 24 → ∀ out H', H out = none → Ex H H' → TabsAt [] C H' out (l.map tabOf) → Q (.ref out) H') ∧ (¬ HelpOk tabs.length t → RetV .non H Q)
section
variable {P : Program} {w : World} {K : PySem.W.Frag} {mg : Str → Option Value} {base : Heap} {f C CT CTeam : Addr} {fd : FuncData}
theorem sc_helpers_in : FnScope ["team", "value", "first", "table", "row"] ["team", "value"] (defScope (top 36)) := ⟨rfl, rfl, rfl, by decide +kernel, rfl, by decide +kernel, by decide +kernel⟩
theorem ok_helpers_in (F : Fun K "helpers_in" "helpers_in" (top 36) f fd) (R : RCl K mg C) (TC : TCl K mg CT) (T : Tx mg) {tS : Tok} (m24 : mg "MOST_SIDES" = some (.int 24 tS)) (PB_many : PrS P w K mg base CT "many" 1 (spMany C CT)) (C_is_list : ClO P w K mg base "is_list" 1 ["value"] (spIsL C)) (C_are_rows : ClO P w K mg base "are_rows" 4 ["value", "tall", "wide"] (spRows C)) (C_ratios_of : ClO P w K mg base "ratios_of" 5 ["row"] (spRatiosOf C)) : FnOk P w K mg base CX0 6 f fd ["team", "value"] (spHelpIn C CT) := by
  have sc := sc_helpers_in
  refine F.ok sc (fun vs H Q E h => ?_) (fun cdv A outer s H vs Q E hr h => ?_)
  · obtain ⟨_, _, _, _, rfl, _⟩ := h; rfl
  obtain ⟨x, tabs, v, t, rfl, hT, many1, ht, cn, gd, q1, q0⟩ := h
  refine ⟨_, (pss_cons (ps_if (PW.pt (pw_or (pt_not (pt_val (pe_clo C_is_list (hr.mono (by first | decide | omega)) (pa_cons (pv 1) pa_nil)))) (pw_or1 (pt_cmpR op_ne (pe_callB call_len_seq rfl T.b_len bt_len (pa_cons (pv 1) pa_nil)) (pe_prS PB_many TC.cl (hr.mono (by first | decide | omega)) (pv 0)) (nomark _))))) (pss_one (ps_ret pe_non)) pss_nil) (pss_cons (ps_set (i := 2) sc.nd rfl (Or.inr rfl) (pe_ix ix_sq (pv 1) pe_int (fun _ _ => rfl))) (pss_cons (ps_if (PW.pt (pw_or (pt_not (pt_val (pe_clo C_is_list (hr.mono (by first | decide | omega)) (pa_cons (pv 2) pa_nil)))) (pw_or1 (pt_not (pt_chain op_le op_le pe_int (pe_callB call_len_seq rfl T.b_len bt_len (pa_cons (pv 2) pa_nil)) (pe_glob (v := .int 24) rfl m24 ⟨_, rfl⟩)))))) (pss_one (ps_ret pe_non)) pss_nil) (pss_cons (ps_if (PW.pt (pw_or (pt_not (pt_val (pe_clo C_is_list (hr.mono (by first | decide | omega)) (pa_cons (pe_ix ix_sq (pv 2) pe_int (fun _ _ => rfl)) pa_nil)))) (pw_or1 (pt_not (pt_chain op_le op_le pe_int (pe_callB call_len_seq rfl T.b_len bt_len (pa_cons (pe_ix ix_sq (pv 2) pe_int (fun _ _ => rfl)) pa_nil)) (pe_glob (v := .int 24) rfl m24 ⟨_, rfl⟩)))))) (pss_one (ps_ret pe_non)) pss_nil) (pss_cons (ps_if (pt_not (pt_val (pe_callB (cr_all rfl) rfl T.b_all bt_all (pa_cons (pe_lc (own := [("table", 3)]) (g := (gName 3)) rfl sc.nd (pi_sq (pv 1)) (blkOk_by (N := ["team", "value", "first", "table", "row"]) (sc := defScope ((top 36))) (by decide +kernel)) (fun _ _ _ _ _ => (pg_name (i := 3) sc.nd rfl (Or.inl rfl))) (fun _ _ _ _ _ => pts_nil) (fun _ _ _ _ _ => (pe_clo C_are_rows (hr.mono (by first | decide | omega)) (pa_cons (pv 3) (pa_cons (pe_callB (show CallR _ _ (rLenS K) from call_len_seq) rfl T.b_len bt_len (pa_cons (pv 2) pa_nil)) (pa_cons (pe_callB (show CallR _ _ (rLenS K) from call_len_seq) rfl T.b_len bt_len (pa_cons (pe_ix (show IxR _ (rIxQ K) from ix_sq) (pv 2) pe_int (fun _ _ => rfl)) pa_nil)) pa_nil)))))) pa_nil)))) (pss_one (ps_ret pe_non)) pss_nil) (pss_one (ps_ret (pe_lc (own := [("table", 3)]) (g := (gName 3)) rfl sc.nd (pi_sq (pv 1)) (blkOk_by (N := ["team", "value", "first", "table", "row"]) (sc := defScope ((top 36))) (by decide +kernel)) (fun _ _ _ _ _ => (pg_name (i := 3) sc.nd rfl (Or.inl rfl))) (fun _ _ _ _ _ => pts_nil) (fun _ _ _ _ _ => (pe_lc (own := [("row", 4)]) (g := (gName 4)) rfl sc.nd (pi_sq (pv 3)) (blkOk_by (N := ["team", "value", "first", "table", "row"]) (by kernel_rfl)) (fun _ _ _ _ _ => (pg_name (i := 4) sc.nd rfl (Or.inl rfl))) (fun _ _ _ _ _ => pts_nil) (fun _ _ _ _ _ => (pe_clo C_ratios_of (hr.mono (by first | decide | omega)) (pa_cons (pv 4) pa_nil))))))))))))), ?_⟩
  refine ⟨_, rfl, v, t, rfl, ht, fun H1 e1 => ⟨_, rfl, ?_⟩⟩
  rw [Tr.isQ_of]
  cases hs : t.sq? with
  | none => exact itt (q0 (fun ⟨l, tall, wide, dm, _⟩ => by rw [dm.sq] at hs; cases hs) _ e1)
  | some l =>
  refine itf ?_
  obtain ⟨a, xs, rfl, sq, tv⟩ := (TrV.up e1 _ _ ht).seq hs
  have ln := tv.len
  have mt := sq_cnt hs
  have lim := len_of hs cn
  have gl := good_sq hs gd
  obtain ⟨dxT, aT, bT, cT, hxT, hTab⟩ := id (hT.up e1)
  refine ⟨_, rfl, a, xs, rfl, sq.sq, _, rfl, x, dxT, _, rfl, hxT, x, tabs, rfl, hT.up e1, fun H2 e2 => ⟨rfl, _, rfl, ?_⟩⟩
  have e12 := e1.trans e2
  replace sq := sq.up e2
  replace tv := TrVs.up e2 _ _ tv
  clear hxT hTab
  have hln : (!decide (V.int (xs.length : Nat) = V.int (tabs.length : Nat))) = !decide (l.length = tabs.length) := by
    rw [ln]
    congr 1
    exact decide_eq_decide.mpr ⟨fun z => by injection z with z; omega, fun z => by rw [z]⟩
  rw [hln]
  by_cases hm : ¬ l.length = tabs.length
  · rw [decide_eq_false hm]
    exact itt (q0 (fun ⟨l', tall, wide, dm, hl, _⟩ => by rw [dm.sq] at hs; cases hs; exact hm hl) _ e12)
  replace hm := Decidable.not_not.mp hm
  rw [decide_eq_true hm]
  refine itf ?_
  cases tv with
  | nil => exact absurd hm (by show ¬ 0 = _; omega)
  | cons hx tv' =>
  rename_i v0 xs' x0 l'
  have tv : TrVs C H2 (v0 :: xs') (x0 :: l') := .cons hx tv'
  refine ⟨_, rfl, a, _, 0, v0, rfl, rfl, sq, at00, ?_⟩
  refine ⟨_, rfl, v0, x0, rfl, hx, fun H3 e3 => ⟨_, rfl, ?_⟩⟩
  rw [Tr.isQ_of]
  cases sx : x0.sq? with
  | none => exact itt (q0 (fun ⟨l2, tall, wide, dm, hl, _⟩ => by rw [dm.sq] at hs; cases hs; have := (rows_sq (dm.all x0 List.mem_cons_self)).1; rw [sx] at this; cases this) _ (e12.trans e3))
  | some yr =>
  have lx : x0.rows = yr := by unfold Tr.rows; rw [sx]; rfl
  refine itf ?_
  obtain ⟨b, ys, rfl, sq2, tv2⟩ := (TrV.up e3 _ _ hx).seq sx
  have ln2 := tv2.len
  have tallE : ∀ {l2 tall wide}, Dim t l2 tall wide → yr.length = tall ∧ ∀ y ∈ yr, numsOk wide y = true := fun {l2 tall wide} dm => by
    have z := dm.sq
    rw [hs] at z
    cases z
    have := rows_sq (dm.all x0 List.mem_cons_self)
    rw [lx] at this
    exact this.2
  refine ⟨_, rfl, b, ys, rfl, sq2.sq, _, _, rfl, rfl, _, rfl, ?_⟩
  by_cases c1 : ¬ 1 ≤ yr.length
  · rw [decide_eq_false (by rw [← ln2]; omega)]
    refine itf ⟨_, rfl, itt (q0 (fun ⟨l2, tall, wide, dm, hl, h24, w24⟩ => ?_) _ (e12.trans e3))⟩
    have := (tallE dm).1
    have := dm.t1
    omega
  replace c1 := Decidable.not_not.mp c1
  rw [decide_eq_true (by rw [← ln2]; omega)]
  refine itt ⟨_, _, rfl, rfl, _, rfl, ?_⟩
  by_cases c2 : ¬ yr.length ≤ 24
  · rw [decide_eq_false (by rw [← ln2]; omega)]
    refine itt (q0 (fun ⟨l2, tall, wide, dm, hl, h24, w24⟩ => ?_) _ (e12.trans e3))
    have := (tallE dm).1
    omega
  replace c2 := And.intro trivial (Decidable.not_not.mp c2)
  rw [decide_eq_true (by rw [← ln2]; omega)]
  refine itf ?_
  have sq2x := sq2
  cases tv2 with
  | nil => exact absurd c1 (by decide)
  | cons hy tv2' =>
  rename_i u0 ys' y0 r'
  have cxx := cnt_mem (show x0 ∈ x0 :: l' from List.mem_cons_self)
  have cx2 := sq_cnt sx
  refine ⟨_, rfl, b, _, 0, u0, rfl, rfl, sq2, at00, u0, y0, rfl, hy, fun H4 e4 => ⟨_, rfl, ?_⟩⟩
  rw [Tr.isQ_of]
  have e14 := e12.trans (e3.trans e4)
  cases sy : y0.sq? with
  | none => exact itt (q0 (fun ⟨l2, tall, wide, dm, hl, _⟩ => by have := (nums_sq ((tallE dm).2 y0 List.mem_cons_self)).1; rw [sy] at this; cases this) _ e14)
  | some zr =>
  have ly : y0.rows = zr := by unfold Tr.rows; rw [sy]; rfl
  refine itf ?_
  obtain ⟨c, zs, rfl, sq3, tv3⟩ := (TrV.up e4 _ _ hy).seq sy
  have ln3 := tv3.len
  have sq2' := sq2.up e4
  have wideE : ∀ {l2 tall wide}, Dim t l2 tall wide → zr.length = wide := fun {l2 tall wide} dm => by
    have := nums_sq ((tallE dm).2 y0 List.mem_cons_self)
    rw [ly] at this
    exact this.2.1
  refine ⟨_, rfl, b, _, 0, .ref c, rfl, rfl, sq2', at00, c, zs, rfl, sq3.sq, _, _, rfl, rfl, _, rfl, ?_⟩
  by_cases c3 : ¬ 1 ≤ zr.length
  · rw [decide_eq_false (by rw [← ln3]; omega)]
    refine itf ⟨_, rfl, itt (q0 (fun ⟨l2, tall, wide, dm, hl, h24, w24⟩ => ?_) _ e14)⟩
    have := wideE dm
    have := dm.w1
    omega
  replace c3 := Decidable.not_not.mp c3
  rw [decide_eq_true (by rw [← ln3]; omega)]
  refine itt ⟨_, _, rfl, rfl, _, rfl, ?_⟩
  by_cases c4 : ¬ zr.length ≤ 24
  · rw [decide_eq_false (by rw [← ln3]; omega)]
    refine itt (q0 (fun ⟨l2, tall, wide, dm, hl, h24, w24⟩ => ?_) _ e14)
    have := wideE dm
    omega
  replace c4 := And.intro trivial (Decidable.not_not.mp c4)
  rw [decide_eq_true (by rw [← ln3]; omega)]
  refine itf ?_
  have e24 := e3.trans e4
  refine ⟨_, rfl, a, _, rfl, sq.up e24, fun J Gd wk hG D hD => lc_bl wk hD hG (x0 :: l') ln.symm (by rw [← ln]; exact lim) (rowsOk (y0 :: r').length zr.length) ?_ ?_⟩
  · rintro i y x H5 Gt hy4 hx4 e5 k
    obtain ⟨y', hy', hv⟩ := (TrVs.up (e24.trans e5) _ _ tv).at_ hx4
    cases hy4.symm.trans hy'
    have my := cnt_mem (List.mem_of_getElem? hy4)
    refine ⟨rfl, _, rfl, _, rfl, b, _, rfl, (sq2'.up e5).sq, _, rfl, b, _, 0, .ref c, rfl, rfl, sq2'.up e5, at00, c, zs, rfl, (sq3.up e5).sq, x, y, (y0 :: r').length, zr.length, ?_, hv, by omega, fun H6 e6 => k _ e6⟩
    rw [ln2, ln3]
  intro H5 e5 hD5
  refine ⟨D, _, rfl, sq_of hD5, ?_⟩
  rw [all_map]
  have e15 := e14.trans e5
  cases hB : (x0 :: l').all (rowsOk (y0 :: r').length zr.length) with
  | false =>
    refine ⟨_, rfl, itt (q0 (fun ⟨l2, tall, wide, dm, hl, h24, w24⟩ => ?_) _ e15)⟩
    have h1 := (tallE dm).1
    have h2 := wideE dm
    have z := dm.sq
    rw [hs] at z
    cases z
    rw [h1, h2, List.all_eq_true.mpr dm.all] at hB
    cases hB
  | true =>
  refine ⟨_, rfl, itf ?_⟩
  have dm : Dim t (x0 :: l') (y0 :: r').length zr.length := ⟨hs, by show 1 ≤ l'.length + 1; omega, c1, c3, List.all_eq_true.mp hB⟩
  have sq := sq.up (e24.trans e5)
  have tv := TrVs.up (e24.trans e5) _ _ tv
  clear hD hD5 hG wk
  have e1F := e15
  refine ⟨_, rfl, a, _, rfl, sq, fun J Gd wk hG D hD => ?_⟩
  refine lcE wk (Chg.ex hD) (x0 :: l') ln.symm (by rw [← ln]; exact lim) (fun _ => true) (fun x v H => TabN [D] C H (tabOf x) v) (fun _ _ _ _ _ e h => h.up e) (fun _ _ _ _ _ hd h => h.ap hd (by simp)) hG ?_ ?_
  · rintro i x v1 H4 H5 N Gt hx e4 ⟨ac, hac⟩ ⟨rfl, hv1⟩ _ k
    obtain ⟨x', hx', hv⟩ := (TrVs.up e4 _ _ tv).at_ hv1
    cases hx.symm.trans hx'
    have mem := List.mem_of_getElem? hx
    obtain ⟨sx, lx, ax⟩ := rows_sq (dm.all x mem)
    have cx := cnt_mem mem
    have gx := good_sq sx (good_mem gl mem)
    obtain ⟨b, ys, rfl, sq2, tv2⟩ := hv.seq sx
    have ln2 := tv2.len
    have cx2 := sq_cnt sx
    refine ⟨rfl, _, rfl, b, ys, rfl, sq2, fun J2 Gd2 wk2 hG2 D2 hD2 => ?_⟩
    have nDD : D2 ≠ D := fun z => by rw [z, hac] at hD2; cases hD2
    refine lcE wk2 (Chg.ex hD2) x.rows ln2.symm (by omega) (fun _ => true) (fun y v H => RowN [D2, D] C H (y.rows.map Tr.pr) v) (fun _ _ _ _ _ e h => h.up e) (fun _ _ _ _ _ hd h => h.ap hd (by simp)) hG2 ?_ ?_
    · rintro i2 y v2 H6 H7 N2 Gt2 hy e6 ⟨ac2, hac2⟩ ⟨rfl, hv2⟩ _ k2
      obtain ⟨y', hy', hvy⟩ := (TrVs.up e6 _ _ tv2).at_ hv2
      cases hy.symm.trans hy'
      have memy := List.mem_of_getElem? hy
      obtain ⟨sy, ly, ay⟩ := nums_sq (ax y memy)
      have cy := cnt_mem memy
      have cy2 := sq_cnt sy
      have gy := good_sq sy (good_mem gx memy)
      obtain ⟨c, zs, rfl, sq3, tv3⟩ := hvy.seq sy
      have ln3 := len_cnt y.rows
      refine ⟨rfl, _, rfl, c, zs, y.rows.map Tr.pr, rfl, sq3, nums_num tv3 ay, fun p hp => ?_, by rw [List.length_map]; omega, fun r rs H8 h8 e8 k8 p8 => k2 rfl _ _ e8 ⟨r, rs, rfl, fun z => ?_, k8, p8⟩⟩
      · obtain ⟨z, hz, rfl⟩ := List.mem_map.mp hp
        exact (pr_bt (good_mem gy hz) (ay z hz)).1.mono (by decide)
      · rcases List.mem_cons.mp z with z | z
        · rw [z, hac2] at h8; cases h8
        · rw [List.mem_singleton.mp z, e6 _ _ hac] at h8; cases h8
    · intro acc H6 e6 hD6 hacc
      rw [filter_yes] at hacc
      refine k rfl _ _ e6 ⟨D2, acc, rfl, fun z => nDD (List.mem_singleton.mp z), hD6, ?_⟩
      exact paired_swap (paired_mapR (g := fun y : Tr => y.rows.map Tr.pr) (G := fun v row => RowN [D] C H6 row v) (fun _ _ h => h) (paired_swap (Paired.mapP hacc fun y v h => h.less (S' := [D]) fun b hb => List.mem_cons_of_mem _ hb)))
  · intro acc H4 e4 hD4 hacc
    rw [filter_yes] at hacc
    refine q1 _ _ _ dm hm c2.2 c4.2 D H4 (fresh_back e1F hD) (e1F.trans e4) ⟨acc, hD4, List.not_mem_nil, ?_⟩
    exact paired_swap (paired_mapR (g := tabOf) (G := fun v tab => TabN [] C H4 tab v) (fun _ _ h => h) (paired_swap (Paired.mapP hacc fun y v h => h.less (S' := []) fun b hb => nomatch hb)))
end
end B71

namespace B71
open PySem PySem.Spec PyProof.Rows L2 Evl RZ SrtO

def spWantHelp (C CT : Addr) : Sp := fun vs H Q _ => ∃ (x : Addr) (tabs : List (List (List (Int × Int)))) (v : V) (t : Tr) (l : List Tr) (tall wide : Nat), vs = [.ref x, v] ∧ TeamAt C CT H x tabs ∧ TrV C H v t ∧ t.cnt ≤ 1000 ∧ t.Good ∧ Dim t l tall wide ∧ l.length = tabs.length ∧ tall ≤ 24 ∧ wide ≤ 24 ∧
  ∀ out H', H out = none → Ex H H' → TabsAt [] C H' out (l.map tabOf) → Q (.ref out) H'
def spIsHelp (C CT : Addr) : Sp := fun vs H Q _ => ∃ (x : Addr) (tabs : List (List (List (Int × Int)))) (v : V) (t : Tr), vs = [.ref x, v] ∧ TeamAt C CT H x tabs ∧ 1 ≤ tabs.length ∧ TrV C H v t ∧ t.cnt ≤ 1000 ∧ t.Good ∧ ∀ k : Bool, (k = true ↔ HelpOk tabs.length t) → RetV (.bl k) H Q
def spSidesOf (C : Addr) : Sp := fun vs H Q _ => ∃ (a : Addr) (tabs : List (List (List (Int × Int)))) (tab : List (List (Int × Int))) (row : List (Int × Int)), vs = [.ref a] ∧ TabsAt [] C H a tabs ∧ tabs[0]? = some tab ∧ tab[0]? = some row ∧ ∀ r H', Ex H H' → H' r = some (.tup [.int (tab.length : Nat), .int (row.length : Nat)]) → Q (.ref r) H'
def spSides (C CT : Addr) : Sp := fun vs H Q _ => ∃ (x : Addr) (tabs : List (List (List (Int × Int)))) (v : V) (t : Tr) (l : List Tr) (tall wide : Nat), vs = [.ref x, v] ∧ TeamAt C CT H x tabs ∧ TrV C H v t ∧ t.cnt ≤ 1000 ∧ t.Good ∧ Dim t l tall wide ∧ l.length = tabs.length ∧ tall ≤ 24 ∧ wide ≤ 24 ∧
  ∀ r H', Ex H H' → H' r = some (.tup [.int (tall : Nat), .int (wide : Nat)]) → Q (.ref r) H'
def spLHelp (C : Addr) : Sp := fun vs H Q _ => ∃ (v : V) (t : Tr) (many : Nat), vs = [v, .int many] ∧ TrV C H v t ∧ t.cnt ≤ 1000 ∧ 1 ≤ many ∧ ∀ k : Bool, (k = true ↔ HelpOk many t) → RetV (.bl k) H Q
def Tr.wid (x : Tr) : Nat := match x.rows with
  | [] => 0
  | y :: _ => y.rows.length
theorem isTab_dim {n : Nat} {x : Tr} (h : isTab n x = true) : 1 ≤ x.rows.length ∧ x.rows.length ≤ n ∧ 1 ≤ x.wid ∧ x.wid ≤ n ∧ rowsOk x.rows.length x.wid x = true := by
  unfold isTab at h
  cases hs : x.sq? with
  | none => rw [hs] at h; cases h
  | some l =>
    have e : x.rows = l := by unfold Tr.rows; rw [hs]; rfl
    cases l with
    | nil => rw [hs] at h; cases h
    | cons y l =>
      rw [hs] at h
      dsimp only at h
      unfold Tr.wid rowsOk
      rw [e, hs]
      dsimp only
      cases hy : y.sq? with
      | none => rw [hy] at h; simp at h
      | some r =>
        have ey : y.rows = r := by unfold Tr.rows; rw [hy]; rfl
        rw [hy] at h
        rw [ey]
        simp only [Bool.and_eq_true, decide_eq_true_eq] at h ⊢
        obtain ⟨h1, ⟨h2, h3⟩, h4⟩ := h
        refine ⟨by rw [List.length_cons]; omega, by rw [List.length_cons]; omega, h2, h3, ?_⟩
        first | exact ⟨trivial, h4⟩ | exact h4 | simpa using h4
theorem dim_isTab {n tall wide : Nat} {x : Tr} (t1 : 1 ≤ tall) (tn : tall ≤ n) (w1 : 1 ≤ wide) (wn : wide ≤ n) (h : rowsOk tall wide x = true) : isTab n x = true ∧ x.rows.length = tall ∧ x.wid = wide := by
  obtain ⟨h1, h2, h3⟩ := rows_sq h
  unfold isTab Tr.wid
  rw [h1]
  generalize x.rows = l at h2 h3 ⊢
  cases l with
  | nil => rw [← h2] at t1; exact absurd t1 (by decide)
  | cons y l =>
    obtain ⟨k1, k2, k3⟩ := nums_sq (h3 y List.mem_cons_self)
    dsimp only
    rw [k1]
    dsimp only
    rw [k2]
    rw [List.length_cons] at h2
    refine ⟨?_, h2, rfl⟩
    simp only [Bool.and_eq_true, decide_eq_true_eq, List.all_eq_true]
    exact ⟨by omega, ⟨w1, wn⟩, h3⟩
theorem help_iff {many : Nat} {t x0 : Tr} {l : List Tr} (hs : t.sq? = some (x0 :: l)) (hm : (x0 :: l).length = many) (hB : (x0 :: l).all (isTab 24) = true) : ((x0 :: l).all (fun x => decide (x.rows.length = x0.rows.length) && decide (x.wid = x0.wid)) = true) ↔ HelpOk many t := by
  have each := List.all_eq_true.mp hB
  obtain ⟨a1, a2, a3, a4, a5⟩ := isTab_dim (each x0 List.mem_cons_self)
  rw [List.all_eq_true]
  constructor
  · intro h
    refine ⟨x0 :: l, x0.rows.length, x0.wid, ⟨hs, by rw [List.length_cons]; omega, a1, a3, fun x hx => ?_⟩, hm, a2, a4⟩
    have z := h x hx
    simp only [Bool.and_eq_true, decide_eq_true_eq] at z
    obtain ⟨_, _, _, _, b5⟩ := isTab_dim (each x hx)
    rw [← z.1, ← z.2]
    exact b5
  · rintro ⟨l2, tall, wide, dm, hl, h1, h2⟩ x hx
    have z := dm.sq
    rw [hs] at z
    cases z
    obtain ⟨_, c1, c2⟩ := dim_isTab dm.t1 h1 dm.w1 h2 (dm.all x hx)
    obtain ⟨_, d1, d2⟩ := dim_isTab dm.t1 h1 dm.w1 h2 (dm.all x0 List.mem_cons_self)
    simp only [Bool.and_eq_true, decide_eq_true_eq]
    exact ⟨c1.trans d1.symm, c2.trans d2.symm⟩
section
variable {P : Program} {w : World} {K : PySem.W.Frag} {mg : Str → Option Value} {base : Heap} {f C CT : Addr} {fd : FuncData}
theorem sc_want_helpers : FnScope ["team", "value", "found"] ["team", "value"] (defScope (top 37)) := ⟨rfl, rfl, rfl, by decide +kernel, rfl, by decide +kernel, by decide +kernel⟩
theorem ok_want_helpers (F : Fun K "want_helpers" "want_helpers" (top 37) f fd) (T : Tx mg) (C_helpers_in : ClO P w K mg base "helpers_in" 6 ["team", "value"] (spHelpIn C CT)) : FnOk P w K mg base CX0 7 f fd ["team", "value"] (spWantHelp C CT) := by
  have sc := sc_want_helpers
  refine F.ok sc (fun vs H Q E h => ?_) (fun cdv A outer s H vs Q E hr h => ?_)
  · obtain ⟨_, _, _, _, _, _, _, rfl, _⟩ := h; rfl
  obtain ⟨x, tabs, v, t, l, tall, wide, rfl, hT, ht, cn, gd, dm, lm, t24, w24, q⟩ := h
  refine ⟨_, (pss_cons (ps_set (i := 2) sc.nd rfl (Or.inl rfl) (pe_clo C_helpers_in (hr.mono (by first | decide | omega)) (pa_cons (pv 0) (pa_cons (pv 1) pa_nil)))) (pss_cons (ps_if (pt_cmp (pc_isN (pv 2))) (pss_one ps_never) pss_nil) (pss_one (ps_ret (pv 2))))), ?_⟩
  refine ⟨_, rfl, _, rfl, x, tabs, v, t, rfl, hT, by rw [← lm]; exact dm.ne, ht, cn, gd, ?_, fun n => absurd ⟨l, tall, wide, dm, lm, t24, w24⟩ n⟩
  intro l2 tall2 wide2 dm2 lm2 h2 k2 out H' h0 e tb
  have z := dm2.sq
  rw [dm.sq] at z
  cases z
  refine ⟨_, rfl, _, rfl, itf ?_⟩
  exact ⟨_, rfl, q out H' h0 e tb⟩
theorem sc_is_helpers : FnScope ["team", "value"] ["team", "value"] (defScope (top 39)) := ⟨rfl, rfl, rfl, by decide +kernel, rfl, by decide +kernel, by decide +kernel⟩
theorem ok_is_helpers (F : Fun K "is_helpers" "is_helpers" (top 39) f fd) (T : Tx mg) (C_helpers_in : ClO P w K mg base "helpers_in" 6 ["team", "value"] (spHelpIn C CT)) (C_want_team : ClO P w K mg base "want_team" 1 ["value"] (spWantTeam C CT)) : FnOk P w K mg base CX0 7 f fd ["team", "value"] (spIsHelp C CT) := by
  have sc := sc_is_helpers
  refine F.ok sc (fun vs H Q E h => ?_) (fun cdv A outer s H vs Q E hr h => ?_)
  · obtain ⟨_, _, _, _, rfl, _⟩ := h; rfl
  obtain ⟨x, tabs, v, t, rfl, hT, m1, ht, cn, gd, q⟩ := h
  refine ⟨_, (pss_one (ps_ret (pe_cmp (pc_notN (pe_clo C_helpers_in (hr.mono (by first | decide | omega)) (pa_cons (pe_clo C_want_team (hr.mono (by first | decide | omega)) (pa_cons (pv 0) pa_nil)) (pa_cons (pv 1) pa_nil))))))), ?_⟩
  refine ⟨_, rfl, x, tabs, rfl, hT, fun H1 e1 => ?_⟩
  refine ⟨_, rfl, x, tabs, v, t, rfl, hT.up e1, m1, TrV.up e1 _ _ ht, cn, gd, ?_, fun n H2 e2 => ?_⟩
  · intro l tall wide dm lm h2 k2 out H' h0 e tb
    exact q true ⟨fun _ => ⟨l, tall, wide, dm, lm, h2, k2⟩, fun _ => rfl⟩ _ (e1.trans e)
  · exact q false ⟨fun z => (nomatch z), fun z => absurd z n⟩ _ (e1.trans e2)
theorem sc_sides_of : FnScope ["helpers"] ["helpers"] (defScope (top 38)) := ⟨rfl, rfl, rfl, by decide +kernel, rfl, by decide +kernel, by decide +kernel⟩
theorem ok_sides_of (F : Fun K "sides_of" "sides_of" (top 38) f fd) (T : Tx mg) : FnOk P w K mg base CX0 1 f fd ["helpers"] (spSidesOf C) := by
  have sc := sc_sides_of
  refine F.ok sc (fun vs H Q E h => ?_) (fun cdv A outer s H vs Q E hr h => ?_)
  · obtain ⟨_, _, _, _, rfl, _⟩ := h; rfl
  obtain ⟨a, tabs, tab, row, rfl, ⟨xs, ha, _, hp⟩, h0, h1, q⟩ := h
  obtain ⟨v0, hv0, r0, ys, rfl, _, hr0, hy⟩ := paired_at2 hp h0
  obtain ⟨v1, hv1, r1, zs, rfl, _, hr1, hz⟩ := paired_at2 hy h1
  refine ⟨_, (pss_one (ps_ret (pe_tup (pa_cons (pe_callB call_len_seq rfl T.b_len bt_len (pa_cons (pe_ix ix_list (pv 0) pe_int (fun _ _ => rfl)) pa_nil)) (pa_cons (pe_callB call_len_seq rfl T.b_len bt_len (pa_cons (pe_ix ix_list (pe_ix ix_list (pv 0) pe_int (fun _ _ => rfl)) pe_int (fun _ _ => rfl)) pa_nil)) pa_nil))))), ?_⟩
  refine ⟨_, rfl, a, _, 0, .ref r0, rfl, rfl, sq_of ha, atI_nat (j := 0) hv0, r0, ys, rfl, .inl (sq_of hr0), ?_⟩
  refine ⟨_, rfl, a, _, 0, .ref r0, rfl, rfl, sq_of ha, atI_nat (j := 0) hv0, r0, _, 0, .ref r1, rfl, rfl, sq_of hr0, atI_nat (j := 0) hv1, r1, zs, rfl, .inl (sq_of hr1), ?_⟩
  refine ⟨(by show 2 ≤ sizeLine; decide), fun r hr2 => ?_⟩
  rw [← Paired.length hy, ← Paired.length hz]
  exact q r _ (Ex.new hr2) upd_same
theorem sc_sides : FnScope ["team", "helpers"] ["team", "helpers"] (defScope (top 40)) := ⟨rfl, rfl, rfl, by decide +kernel, rfl, by decide +kernel, by decide +kernel⟩
theorem ok_sides (F : Fun K "sides" "sides" (top 40) f fd) (T : Tx mg) (C_sides_of : ClO P w K mg base "sides_of" 1 ["helpers"] (spSidesOf C)) (C_want_helpers : ClO P w K mg base "want_helpers" 7 ["team", "value"] (spWantHelp C CT)) (C_want_team : ClO P w K mg base "want_team" 1 ["value"] (spWantTeam C CT)) : FnOk P w K mg base CX0 8 f fd ["team", "helpers"] (spSides C CT) := by
  have sc := sc_sides
  refine F.ok sc (fun vs H Q E h => ?_) (fun cdv A outer s H vs Q E hr h => ?_)
  · obtain ⟨_, _, _, _, _, _, _, rfl, _⟩ := h; rfl
  obtain ⟨x, tabs, v, t, l, tall, wide, rfl, hT, ht, cn, gd, dm, lm, t24, w24, q⟩ := h
  refine ⟨_, (pss_one (ps_ret (pe_clo C_sides_of (hr.mono (by first | decide | omega)) (pa_cons (pe_clo C_want_helpers (hr.mono (by first | decide | omega)) (pa_cons (pe_clo C_want_team (hr.mono (by first | decide | omega)) (pa_cons (pv 0) pa_nil)) (pa_cons (pv 1) pa_nil))) pa_nil)))), ?_⟩
  refine ⟨_, rfl, x, tabs, rfl, hT, fun H1 e1 => ?_⟩
  refine ⟨_, rfl, x, tabs, v, t, l, tall, wide, rfl, hT.up e1, TrV.up e1 _ _ ht, cn, gd, dm, lm, t24, w24, fun out H2 h2 e2 tb => ?_⟩
  obtain ⟨x0, hx0⟩ : ∃ x0, l[0]? = some x0 := ⟨l[0]'(by have := dm.ne; omega), List.getElem?_eq_getElem _⟩
  obtain ⟨sx, lx, ax⟩ := rows_sq (dm.all x0 (List.mem_of_getElem? hx0))
  obtain ⟨y0, hy0⟩ : ∃ y0, x0.rows[0]? = some y0 := ⟨x0.rows[0]'(by have := dm.t1; omega), List.getElem?_eq_getElem _⟩
  obtain ⟨sy, ly, ay⟩ := nums_sq (ax y0 (List.mem_of_getElem? hy0))
  refine ⟨out, l.map tabOf, tabOf x0, y0.rows.map Tr.pr, rfl, tb, by rw [List.getElem?_map, hx0]; rfl, by unfold tabOf; rw [List.getElem?_map, hy0]; rfl, fun r H3 e3 k3 => ?_⟩
  refine q r H3 (e1.trans (e2.trans e3)) ?_
  rw [k3]
  unfold tabOf
  rw [List.length_map, List.length_map, lx, ly]
end
end B71

namespace B71
open PySem PySem.Spec PyProof.Rows L2 Evl RZ SrtO

section
variable {P : Program} {w : World} {K : PySem.W.Frag} {mg : Str → Option Value} {base : Heap} {f C CT : Addr} {fd : FuncData}
theorem sc__law_are_helpers : FnScope ["value", "many", "table"] ["value", "many"] (defScope (top 52)) := ⟨rfl, rfl, rfl, by decide +kernel, rfl, by decide +kernel, by decide +kernel⟩
theorem ok_law_are_helpers (F : Fun K "_law_are_helpers" "_law_are_helpers" (top 52) f fd) (R : RCl K mg C) (M : RCm K C) (T : Tx mg) (C__law_is_table : ClO P w K mg base "_law_is_table" 2 ["value", "most"] (spLTab C)) : FnOk P w K mg base CX0 3 f fd ["value", "many"] (spLHelp C) := by
  have sc := sc__law_are_helpers
  refine F.ok sc (fun vs H Q E h => ?_) (fun cdv A outer s H vs Q E hr h => ?_)
  · obtain ⟨_, _, _, rfl, _⟩ := h; rfl
  obtain ⟨v, t, many, rfl, ht, cn, m1, q⟩ := h
  have qf : ¬ HelpOk many t → RetV (.bl false) H Q := fun n => q false ⟨fun z => (nomatch z), fun z => absurd z n⟩
  refine ⟨_, (pss_cons (ps_if (PW.pt (pw_or (pt_not (pt_val (pe_callB call_isiT rfl T.b_isinstance bt_isinstance (pa_cons (pv 0) (pa_cons (pe_tup (pa_cons (pe_bltn (v := .ty "list") rfl T.b_list bt_list rfl) (pa_cons (pe_bltn (v := .ty "tuple") rfl T.b_tuple bt_tuple rfl) pa_nil))) pa_nil))))) (pw_or (pt_cmpR op_ne (pe_callB call_len_seq rfl T.b_len bt_len (pa_cons (pv 0) pa_nil)) (pv 1) (nomark _)) (pw_or1 (pt_not (pt_val (pe_callB (cr_all rfl) rfl T.b_all bt_all (pa_cons (pe_lc (own := [("table", 2)]) (g := (gName 2)) rfl sc.nd (pi_sq (pv 0)) (blkOk_by (N := ["value", "many", "table"]) (sc := defScope ((top 52))) (by decide +kernel)) (fun _ _ _ _ _ => (pg_name (i := 2) sc.nd rfl (Or.inl rfl))) (fun _ _ _ _ _ => pts_nil) (fun _ _ _ _ _ => (pe_clo C__law_is_table (hr.mono (by first | decide | omega)) (pa_cons (pv 2) (pa_cons pe_int pa_nil))))) pa_nil)))))))) (pss_one (ps_ret pe_bl)) pss_nil) (pss_one (ps_ret (pe_callB (cr_all rfl) rfl T.b_all bt_all (pa_cons (pe_lc (own := [("table", 2)]) (g := (gName 2)) rfl sc.nd (pi_sq (pv 0)) (blkOk_by (N := ["value", "many", "table"]) (sc := defScope ((top 52))) (by decide +kernel)) (fun _ _ _ _ _ => (pg_name (i := 2) sc.nd rfl (Or.inl rfl))) (fun _ _ _ _ _ => pts_nil) (fun _ _ _ _ _ => (pe_and (pe_cmpR op_eq (pe_callB (show CallR _ _ (rLenS K) from call_len_seq) rfl T.b_len bt_len (pa_cons (pv 2) pa_nil)) (pe_callB (show CallR _ _ (rLenS K) from call_len_seq) rfl T.b_len bt_len (pa_cons (pe_ix (show IxR _ (rIxQ K) from ix_sq) (pv 0) pe_int (fun _ _ => rfl)) pa_nil)) (nomark _)) (pe_one (pe_cmpR op_eq (pe_callB (show CallR _ _ (rLenS K) from call_len_seq) rfl T.b_len bt_len (pa_cons (pe_ix (show IxR _ (rIxQ K) from ix_sq) (pv 2) pe_int (fun _ _ => rfl)) pa_nil)) (pe_callB (show CallR _ _ (rLenS K) from call_len_seq) rfl T.b_len bt_len (pa_cons (pe_ix (show IxR _ (rIxQ K) from ix_sq) (pe_ix (show IxR _ (rIxQ K) from ix_sq) (pv 0) pe_int (fun _ _ => rfl)) pe_int (fun _ _ => rfl)) pa_nil)) (nomark _)))))) pa_nil))))), ?_⟩
  refine ⟨_, rfl, (by show 2 ≤ sizeLine; decide), fun p hp => ?_⟩
  have e1 : Ex H (upd H p (.tup [.ty "list", .ty "tuple"])) := Ex.new hp
  obtain ⟨ty, z⟩ := (TrV.up e1 _ _ ht).ty R M
  refine ⟨v, p, _, ty, _, t.isQ, rfl, upd_same, .cons (.ty "list") (.cons (.ty "tuple") .nil), z.tx, kit_any2 z.kL z.kT, _, rfl, ?_⟩
  clear z
  generalize upd H p (.tup [.ty "list", .ty "tuple"]) = H1 at e1
  rw [Tr.isQ_of]
  cases hs : t.sq? with
  | none => exact itt (qf (fun ⟨l, tall, wide, dm, _⟩ => by rw [dm.sq] at hs; cases hs) _ e1)
  | some l =>
  refine itf ?_
  obtain ⟨a, xs, rfl, sq, tv⟩ := (TrV.up e1 _ _ ht).seq hs
  have ln := tv.len
  have mt := sq_cnt hs
  have lim := len_of hs cn
  refine ⟨_, rfl, a, xs, rfl, sq.sq, _, rfl, rfl, _, rfl, ?_⟩
  have hln : (!decide (V.int (xs.length : Nat) = V.int (many : Nat))) = !decide (l.length = many) := by
    rw [ln]
    congr 1
    exact decide_eq_decide.mpr ⟨fun z => by injection z with z; omega, fun z => by rw [z]⟩
  rw [hln]
  by_cases hm : ¬ l.length = many
  · rw [decide_eq_false hm]
    exact itt (qf (fun ⟨l', tall, wide, dm, hl, _⟩ => by rw [dm.sq] at hs; cases hs; exact hm hl) _ e1)
  replace hm := Decidable.not_not.mp hm
  rw [decide_eq_true hm]
  refine itf ?_
  refine ⟨_, rfl, a, xs, rfl, sq, fun J Gd wk hG D hD => lc_bl wk hD hG l ln.symm (by rw [← ln]; exact lim) (isTab 24) ?_ ?_⟩
  · rintro i y x H4 Gt hy hx e4 k
    obtain ⟨y', hy', hv⟩ := (TrVs.up e4 _ _ tv).at_ hx
    cases hy.symm.trans hy'
    have my := cnt_mem (List.mem_of_getElem? hy)
    exact ⟨rfl, _, rfl, x, y, 24, rfl, hv, by omega, fun H5 e5 => k _ e5⟩
  intro H4 e4 hD4
  refine ⟨D, _, rfl, sq_of hD4, _, rfl, ?_⟩
  rw [all_map]
  have e14 := e1.trans e4
  replace sq := sq.up e4
  replace tv := TrVs.up e4 _ _ tv
  clear hD hD4 hG wk
  cases hB : l.all (isTab 24) with
  | false =>
    refine itt (qf (fun ⟨l2, tall, wide, dm, hl, h24, w24⟩ => ?_) _ e14)
    have z := dm.sq
    rw [hs] at z
    cases z
    rw [List.all_eq_true.mpr fun x hx => (dim_isTab dm.t1 h24 dm.w1 w24 (dm.all x hx)).1] at hB
    cases hB
  | true =>
  refine itf ?_
  cases l with
  | nil => exact absurd hm (by show ¬ 0 = _; omega)
  | cons x0 l =>
  have each := List.all_eq_true.mp hB
  cases xs with
  | nil => cases ln
  | cons v0 xs' =>
  have rowAt : ∀ {H5 : Hp}, Ex H4 H5 → ∀ {i : Nat} {x : V} {y : Tr}, (v0 :: xs')[i]? = some x → (x0 :: l)[i]? = some y → ∃ b ys, x = .ref b ∧ SqH H5 b ys ∧ ys.length = y.rows.length ∧ ∃ c zs, ys[0]? = some (.ref c) ∧ SqH H5 c zs ∧ zs.length = y.wid := by
    intro H5 e5 i x y hx hy
    obtain ⟨y', hy', hv⟩ := (TrVs.up e5 _ _ tv).at_ hx
    cases hy.symm.trans hy'
    obtain ⟨a1, a2, a3, a4, a5⟩ := isTab_dim (each y (List.mem_of_getElem? hy))
    obtain ⟨s1, s2, s3⟩ := rows_sq a5
    obtain ⟨b, ys, e, sq5, tv5⟩ := hv.seq s1
    refine ⟨b, ys, e, sq5, tv5.len.symm, ?_⟩
    unfold Tr.wid at a3 a5 s3 ⊢
    generalize y.rows = yr at a1 a3 a5 s3 tv5 ⊢
    cases tv5 with
    | nil => exact absurd a1 (by decide)
    | cons h tq =>
      dsimp only at s3 ⊢
      obtain ⟨k1, k2, k3⟩ := nums_sq (s3 _ List.mem_cons_self)
      obtain ⟨c, zs, rfl, sq6, tv6⟩ := h.seq k1
      exact ⟨c, zs, rfl, sq6, tv6.len.symm⟩
  refine ⟨_, rfl, a, _, rfl, sq, fun J2 Gd2 wk2 hG2 D2 hD2 => lc_bl wk2 hD2 hG2 (x0 :: l) ln.symm (by rw [← ln]; exact lim) (fun x => decide (x.rows.length = x0.rows.length) && decide (x.wid = x0.wid)) ?_ ?_⟩
  · rintro i y x H5 Gt hy hx e5 k
    obtain ⟨b, ys, rfl, sqy, ly, c, zs, hy0, sqz, lz⟩ := rowAt e5 hx hy
    obtain ⟨b0, ys0, rfl, sqy0, ly0, c0, zs0, hy00, sqz0, lz0⟩ := rowAt e5 (i := 0) (x := v0) (y := x0) rfl rfl
    refine ⟨rfl, ?_⟩
    refine ⟨_, rfl, b, ys, rfl, sqy.sq, _, rfl, a, _, 0, .ref b0, rfl, rfl, sq.up e5, at00, b0, ys0, rfl, sqy0.sq, rfl, _, rfl, ?_⟩
    have h1 : decide (V.int (ys.length : Nat) = V.int (ys0.length : Nat)) = decide (y.rows.length = x0.rows.length) := decide_eq_decide.mpr (by rw [ly, ly0]; exact ⟨fun z => by injection z with z; omega, fun z => by rw [z]⟩)
    have h2 : decide (V.int (zs.length : Nat) = V.int (zs0.length : Nat)) = decide (y.wid = x0.wid) := decide_eq_decide.mpr (by rw [lz, lz0]; exact ⟨fun z => by injection z with z; omega, fun z => by rw [z]⟩)
    have kk := k _ (Ex.refl _)
    rw [h1]
    cases hd : decide (y.rows.length = x0.rows.length) with
    | false =>
      rw [hd, Bool.false_and] at kk
      exact itf kk
    | true =>
      rw [hd, Bool.true_and, ← h2] at kk
      refine itt ?_
      exact ⟨_, rfl, b, ys, 0, .ref c, rfl, rfl, sqy, atI_nat (j := 0) hy0, c, zs, rfl, sqz.sq, _, rfl, a, _, 0, .ref b0, rfl, rfl, sq.up e5, at00, b0, ys0, 0, .ref c0, rfl, rfl, sqy0, atI_nat (j := 0) hy00, c0, zs0, rfl, sqz0.sq, rfl, kk⟩
  · intro H5 e5 hD5
    refine ⟨D2, _, rfl, sq_of hD5, ?_⟩
    rw [all_map]
    exact q _ (help_iff hs hm hB) _ (e14.trans e5)
end
end B71

namespace B71
open PySem PySem.Spec PyProof.Rows L2 Evl RZ SrtO
/-- the class of teams can be called -/
structure MkT (P : Program) (w : World) (K : PySem.W.Frag) (mg : Str → Option Value) (base : Heap) (C CT : Addr) : Prop where
  ex : ∃ (f : Addr) (fd : FuncData), Mk K CT f ∧ FnOk P w K mg base CX0 7 f fd ["self", "tables"] (spTeamInit C CT) ∧ Binds K fd ["self", "tables"] []
  mgT : mg "Team" = some (.ref CT)
theorem pe_mkT {X : Cx} {C CT : Addr} {p pos : Pos} {e : Expr} {t : TA} (M : MkT X.prog X.w X.K X.mg X.base C CT) (hr : Room 8 X.A) (ha : PA X [e] t) (hg : Gl X "Team" := by rfl) (he : starEach [e] X.env = (false, eval e X.env) :: starEach [] X.env := by rfl)
    (hpl : (backTo pos (starEach [] X.env)).any (·.1) = false := by rfl) : PE X (.Call (.Name "Team" p) [e] [] pos) (tMake CT (spTeamInit C CT) [] E0 t) := by
  obtain ⟨f, fd, m, F, b⟩ := M.ex
  exact pe_make (E := E0) m F hr hg M.mgT b .nil pass0 ha (by decide) he hpl
/-- a table of numbers, a list of lists outside of S -/
def TabL (C : Addr) (S : List Addr) (H : Hp) (tall wide : Nat) (r : Addr) : Prop := r ∉ S ∧ ∃ rs : List Addr, H r = some (.lst (rs.map V.ref)) ∧ rs.length = tall ∧ RowsAt C H S wide rs
section
variable {C : Addr} {S : List Addr} {H H' : Hp} {tall wide : Nat} {r p D : Addr}
theorem TabL.up (h : TabL C S H tall wide r) (e : Ex H H') : TabL C S H' tall wide r := by
  obtain ⟨h1, rs, h2, h3, h4⟩ := h
  exact ⟨h1, rs, e _ _ h2, h3, h4.up e⟩
theorem TabL.pot (h : TabL C S H tall wide r) (hp : Pot H p) (ps : p ∈ S) (e : ExP p H H') : TabL C S H' tall wide r := by
  obtain ⟨h1, rs, h2, h3, h4⟩ := h
  exact ⟨h1, rs, e.1 _ _ (fun z => h1 (z ▸ ps)) h2, h3, h4.pot hp ps e⟩
theorem TabL.ap {xs ys : List V} (h : TabL C S H tall wide r) (hD : H D = some (.lst xs)) (ds : D ∈ S) : TabL C S (upd H D (.lst ys)) tall wide r := by
  obtain ⟨h1, rs, h2, h3, h4⟩ := h
  refine ⟨h1, rs, by rw [upd_ne (fun z => h1 (by rw [z]; exact ds))]; exact h2, h3, fun q hq => ?_⟩
  obtain ⟨k1, ns, k2, k3, k4⟩ := h4 q hq
  exact ⟨k1, ns, by rw [upd_ne (fun z => k1 (by rw [z]; exact ds))]; exact k2, k3, fun n hn => (k4 n hn).ap hD⟩
theorem TabL.less {S' : List Addr} (h : TabL C S H tall wide r) (k : ∀ b ∈ S', b ∈ S) : TabL C S' H tall wide r := by
  obtain ⟨h1, rs, h2, h3, h4⟩ := h
  exact ⟨fun z => h1 (k _ z), rs, h2, h3, fun q hq => (h4 q hq).imp (fun n z => n (k _ z)) id⟩
theorem TabL.more (h : TabL C S H tall wide r) (hD : H D = none) : TabL C (D :: S) H tall wide r := by
  obtain ⟨h1, rs, h2, h3, h4⟩ := h
  refine ⟨fun z => (List.mem_cons.mp z).elim (fun z => by rw [z, hD] at h2; cases h2) h1, rs, h2, h3, fun q hq => ?_⟩
  obtain ⟨k1, ns, k2, k3⟩ := h4 q hq
  exact ⟨fun z => (List.mem_cons.mp z).elim (fun z => by rw [z, hD] at k2; cases k2) k1, ns, k2, k3⟩
theorem TabL.fine (h : TabL C S H tall wide r) (o : Off S H) (t4 : tall ≤ 4) (w4 : wide ≤ 4) : Fine 21 2 C (msk S H) (.ref r) := by
  obtain ⟨h1, rs, h2, h3, h4⟩ := h
  exact (h4.lf o h2 h1 w4).fine (by rw [List.length_map]; omega)
/-- the tree of a number -/
theorem NumT.tree {v : V} (h : NumT C H v) (o : Off S H) : ∃ z : Tr, TrV C (msk S H) v z ∧ z.isN = true ∧ z.Good ∧ z.cnt = 1 ∧ z.dep = 0 ∧ Bt 150 z.pr.1 ∧ Bt 150 z.pr.2 ∧ 0 < z.pr.2 := by
  rcases h with ⟨i, rfl, hi⟩ | ⟨a, t, b, rfl, ⟨dx, h2⟩, h3, h4, h5⟩
  · exact ⟨.int i, .int i, rfl, by rw [Tr.Good]; exact Nat.lt_of_lt_of_le hi (by decide +kernel), rfl, rfl, hi, by show (1 : Int).natAbs < 2 ^ 150; decide +kernel, by show (0 : Int) < 1; decide⟩
  · refine ⟨.rat t b, .rat ⟨dx, ?_⟩, rfl, by rw [Tr.Good]; exact ⟨h3, h4, h5⟩, rfl, rfl, h3, h4, h5⟩
    rw [msk_of (fun z => by
      obtain ⟨xs, q⟩ := o a z
      rw [q] at h2
      cases h2)]
    exact h2
theorem nums_tree (o : Off S H) : ∀ {ns : List V}, (∀ n ∈ ns, NumT C H n) → ∃ l : List Tr, TrVs C (msk S H) ns l ∧ (∀ z ∈ l, z.isN = true) ∧ GoodAll l ∧ cntAll l = ns.length ∧ depAll l = 0 ∧ Nb 150 (l.map Tr.pr)
  | [], _ => ⟨[], .nil, (fun z hz => nomatch hz), by rw [GoodAll]; trivial, rfl, rfl, fun z hz => nomatch hz⟩
  | n :: ns, h => by
    obtain ⟨z, h1, h2, h3, h4, h5, h6⟩ := (h n List.mem_cons_self).tree o
    obtain ⟨l, k1, k2, k3, k4, k5, k6⟩ := nums_tree o (ns := ns) fun m hm => h m (List.mem_cons_of_mem _ hm)
    refine ⟨z :: l, .cons h1 k1, fun y hy => ?_, by rw [GoodAll]; exact ⟨h3, k3⟩, by rw [cntAll, List.length_cons]; omega, by rw [depAll]; omega, fun y hy => ?_⟩
    · rcases List.mem_cons.mp hy with rfl | hy
      · exact h2
      · exact k2 y hy
    · rw [List.map_cons] at hy
      rcases List.mem_cons.mp hy with rfl | hy
      · exact h6
      · exact k6 y hy
theorem rows_tree (o : Off S H) : ∀ {rs : List Addr}, RowsAt C H S wide rs → ∃ l : List Tr, TrVs C (msk S H) (rs.map V.ref) l ∧ (∀ y ∈ l, numsOk wide y = true) ∧ GoodAll l ∧ cntAll l = rs.length * (wide + 1) ∧ depAll l ≤ 1 ∧ ∀ y ∈ l, Nb 150 (y.rows.map Tr.pr)
  | [], _ => ⟨[], .nil, (fun z hz => nomatch hz), by rw [GoodAll]; trivial, by rw [cntAll]; simp, by rw [depAll]; omega, fun z hz => nomatch hz⟩
  | r :: rs, h => by
    obtain ⟨h1, ns, h2, h3, h4⟩ := h r List.mem_cons_self
    obtain ⟨l0, k1, k2, k3, k4, k5, k6⟩ := nums_tree o h4
    obtain ⟨l, j1, j2, j3, j4, j5, j6⟩ := rows_tree o (rs := rs) fun m hm => h m (List.mem_cons_of_mem _ hm)
    have ok : numsOk wide (.lst l0) = true := by
      unfold numsOk Tr.sq?
      dsimp only
      rw [k1.len, h3, Bool.and_eq_true]
      exact ⟨decide_eq_true rfl, List.all_eq_true.mpr k2⟩
    refine ⟨.lst l0 :: l, .cons (.lst (by rw [msk_of h1]; exact h2) k1) j1, fun y hy => ?_, by rw [GoodAll]; exact ⟨by rw [Tr.Good]; exact k3, j3⟩, ?_, by rw [depAll, Tr.dep]; omega, fun y hy => ?_⟩
    · rcases List.mem_cons.mp hy with rfl | hy
      · exact ok
      · exact j2 y hy
    · rw [cntAll, Tr.cnt, List.length_cons, Nat.add_mul, k4, h3, j4]
      omega
    · rcases List.mem_cons.mp hy with rfl | hy
      · exact k6
      · exact j6 y hy
theorem tabs_tree (o : Off S H) : ∀ {ts : List Addr}, (∀ t ∈ ts, TabL C S H tall wide t) → ∃ l : List Tr, TrVs C (msk S H) (ts.map V.ref) l ∧ (∀ x ∈ l, rowsOk tall wide x = true) ∧ GoodAll l ∧ cntAll l = ts.length * (tall * (wide + 1) + 1) ∧ depAll l ≤ 2 ∧ ∀ x ∈ l, ∀ row ∈ tabOf x, Nb 150 row
  | [], _ => ⟨[], .nil, (fun z hz => nomatch hz), by rw [GoodAll]; trivial, by rw [cntAll]; simp, by rw [depAll]; omega, fun z hz => nomatch hz⟩
  | t :: ts, h => by
    obtain ⟨h1, rs, h2, h3, h4⟩ := h t List.mem_cons_self
    obtain ⟨l0, k1, k2, k3, k4, k5, k6⟩ := rows_tree o h4
    obtain ⟨l, j1, j2, j3, j4, j5, j6⟩ := tabs_tree o (ts := ts) fun m hm => h m (List.mem_cons_of_mem _ hm)
    have ok : rowsOk tall wide (.lst l0) = true := by
      unfold rowsOk Tr.sq?
      dsimp only
      rw [k1.len, List.length_map, h3, Bool.and_eq_true]
      exact ⟨decide_eq_true rfl, List.all_eq_true.mpr k2⟩
    refine ⟨.lst l0 :: l, .cons (.lst (by rw [msk_of h1]; exact h2) k1) j1, fun y hy => ?_, by rw [GoodAll]; exact ⟨by rw [Tr.Good]; exact k3, j3⟩, ?_, by rw [depAll, Tr.dep]; omega, fun y hy => ?_⟩
    · rcases List.mem_cons.mp hy with rfl | hy
      · exact ok
      · exact j2 y hy
    · rw [cntAll, Tr.cnt, List.length_cons, Nat.add_mul, k4, h3, j4]
      omega
    · rcases List.mem_cons.mp hy with rfl | hy
      · intro row hr
        obtain ⟨y, hy, rfl⟩ := List.mem_map.mp hr
        exact k6 y hy
      · exact j6 y hy
end
end B71

namespace B71
open PySem PySem.Spec PyProof.Rows L2 Evl RZ SrtO
/-! ### a team is not the pot -/
theorem refs_of {α : Type} {F : α → V → Prop} (h : ∀ a v, F a v → ∃ b, v = V.ref b) : ∀ {as : List α} {vs : List V}, Paired F as vs → ∀ v ∈ vs, ∃ b, v = V.ref b
  | _, _, .nil, v, hv => nomatch hv
  | _, _, .cons q t, v, hv => by
    rcases List.mem_cons.mp hv with rfl | hv
    · exact h _ _ q
    · exact refs_of h t v hv
theorem TeamAt.off {C CT x p : Addr} {H : Hp} {tabs : List (List (List (Int × Int)))} (h : TeamAt C CT H x tabs) (hp : Pot H p) : TeamAt C CT (msk [p] H) x tabs := by
  obtain ⟨y0, y1, hp0, _⟩ := hp
  have keep : ∀ {r : Addr} {xs : List V}, H r = some (.lst xs) → (∀ v ∈ xs, ∃ b, v = V.ref b) → msk [p] H r = some (.lst xs) := fun {r xs} h k => by
    rw [msk_of (fun z => by
      have z := List.mem_singleton.mp z
      rw [z, hp0] at h
      injection h with h
      injection h with h
      obtain ⟨b, e⟩ := k (.int y0) (by rw [← h]; exact List.mem_cons_self)
      cases e)]
    exact h
  have ins : ∀ {r D d : Addr} {fs : List (Str × V)}, H r = some (.ins D d fs) → msk [p] H r = some (.ins D d fs) := fun {r D d fs} h => by
    rw [msk_of (fun z => by
      have z := List.mem_singleton.mp z
      rw [z, hp0] at h
      cases h)]
    exact h
  obtain ⟨dx, a, b, c, h1, xs, h2, h3, h4⟩ := h
  refine ⟨dx, a, b, c, ins h1, xs, keep h2 (refs_of (fun _ _ ⟨r, _, e, _⟩ => ⟨r, e⟩) h4), h3, Paired.mapP h4 fun tab v q => ?_⟩
  obtain ⟨r, ys, k1, k2, k3, k4⟩ := q
  refine ⟨r, ys, k1, k2, keep k3 (refs_of (fun _ _ ⟨r, _, e, _⟩ => ⟨r, e⟩) k4), Paired.mapP k4 fun row v q => ?_⟩
  obtain ⟨r, zs, k1, k2, k3, k4⟩ := q
  exact ⟨r, zs, k1, k2, keep k3 (refs_of (fun _ _ ⟨r, e, _⟩ => ⟨r, e⟩) k4), Paired.mapP k4 fun p v ⟨r, e, d, z⟩ => ⟨r, e, d, ins z⟩⟩
/-- what stands while the values are gathered -/
structure HJ (C CT tm hl D p : Addr) (tabs : List (List (List (Int × Int)))) (ts : List Addr) (near far : Nat) (H0 H : Hp) (vs : List V) : Prop where
  x : ExP p H0 H
  off : Off [D, p] H
  pot : Pot H p
  team : TeamAt C CT (msk [D, p] H) tm tabs
  at_ : H hl = some (.lst (ts.map V.ref))
  hS : hl ∉ [D, p]
  tab : ∀ t ∈ ts, TabL C [D, p] H near far t
  vals : H D = some (.lst vs)
  fine : ∀ v ∈ vs, Fine 420 4 C (msk [D, p] H) v
section
variable {C CT tm hl D p : Addr} {tabs : List (List (List (Int × Int)))} {ts : List Addr} {near far : Nat} {H0 H H' : Hp} {vs ws : List V}
theorem HJ.up (h : HJ C CT tm hl D p tabs ts near far H0 H vs) (e : Ex H H') : HJ C CT tm hl D p tabs ts near far H0 H' vs :=
  ⟨h.x.trans (ExP.of e), h.off.up e, h.pot.up e, h.team.up (msk_up e), e _ _ h.at_, h.hS, fun t ht => (h.tab t ht).up e, e _ _ h.vals, fun v hv => (h.fine v hv).up (msk_up e)⟩
theorem HJ.go (h : HJ C CT tm hl D p tabs ts near far H0 H vs) (n : D ≠ p) (e : ExP p H H') : HJ C CT tm hl D p tabs ts near far H0 H' vs :=
  have m : Ex (msk [D, p] H) (msk [D, p] H') := msk_upB (by simp) e.1
  ⟨h.x.trans e, h.off.pot h.pot e, e.2 h.pot, h.team.up m, e.1 _ _ (fun z => h.hS (by rw [z]; simp)) h.at_, h.hS, fun t ht => (h.tab t ht).pot h.pot (by simp) e, e.1 _ _ n h.vals, fun v hv => (h.fine v hv).up m⟩
theorem HJ.put (h : HJ C CT tm hl D p tabs ts near far H0 H vs) (n : D ≠ p) (h0 : H0 D = none) (hw : ∀ v ∈ ws, Fine 420 4 C (msk [D, p] H) v) : HJ C CT tm hl D p tabs ts near far H0 (upd H D (.lst ws)) ws := by
  have m : msk [D, p] (upd H D (.lst ws)) = msk [D, p] H := msk_put (by simp)
  refine ⟨⟨h.x.1.mut h0, fun k => (h.x.2 k).same (upd_ne (Ne.symm n))⟩, h.off.put, h.pot.same (upd_ne (Ne.symm n)), by rw [m]; exact h.team, ?_, h.hS, fun t ht => (h.tab t ht).ap h.vals (by simp), upd_same, by rw [m]; exact hw⟩
  rw [upd_ne (fun z => h.hS (by rw [z]; simp))]
  exact h.at_
/-- the list of tables, as a list of values -/
theorem HJ.lf (h : HJ C CT tm hl D p tabs ts near far H0 H vs) (n4 : near ≤ 4) (f4 : far ≤ 4) : LF 21 2 [D, p] C H hl (ts.map V.ref) :=
  ⟨h.at_, h.hS, fun x hx => by
    obtain ⟨t, ht, rfl⟩ := List.mem_map.mp hx
    exact (h.tab t ht).fine h.off n4 f4⟩
end
end B71

namespace B71
open PySem PySem.Spec PyProof.Rows L2 Evl RZ SrtO

section
variable {P : Program} {w : World} {K : PySem.W.Frag} {mg : Str → Option Value} {base : Heap} {f C CT : Addr} {fd : FuncData}
theorem sc__law_helpers_right : FnScope ["pot", "many", "tall", "wide", "team", "near", "far", "helpers", "at", "values", "table", "value", "shown", "due", "turn"] ["pot"] (defScope (top 55)) := ⟨rfl, rfl, rfl, by decide +kernel, rfl, by decide +kernel, by decide +kernel⟩
theorem ok_law_helpers (F : Fun K "_law_helpers_right" "_law_helpers_right" (top 55) f fd) (R : RCl K mg C) (M : RCm K C) (T : Tx mg) (RB : TxB P w K mg base C "__repr__" sR) (MT : MkT P w K mg base C CT) (C__law_draw : ClO P w K mg base "_law_draw" 1 ["pot", "many"] spDraw) (C__law_table : ClO P w K mg base "_law_table" 5 ["pot", "tall", "wide"] (spTable C)) (C__law_bent : ClO P w K mg base "_law_bent" 4 ["pot", "table"] (spBent C)) (C__law_are_helpers : ClO P w K mg base "_law_are_helpers" 3 ["value", "many"] (spLHelp C)) (C_is_helpers : ClO P w K mg base "is_helpers" 7 ["team", "value"] (spIsHelp C CT)) {gk gs : List Value → List Value → List Value}
    (CK_is_helpers : ClQ P w K mg base "is_helpers" 7 ["team", "value"] ["value", "team"] gk (fun us ws => us ++ ws.reverse) (spIsHelp C CT)) (CP_sides : ClQ P w K mg base "sides" 8 ["team", "helpers"] ["helpers"] gs (fun us ws => us ++ ws.take 1) (spSides C CT)) : FnG P w K mg base 28 f fd ["pot"] spYes := by
  have sc := sc__law_helpers_right
  refine okG F sc (fun vs H Q E h => ?_) (fun cdv A outer s H vs Q gd0 hr h => ?_)
  · obtain ⟨_, rfl, _⟩ := h; rfl
  have gd := deeper_guards (env := envOfC "_law_helpers_right" (defScope (top 55)) s.heap.objs.size f cdv) gd0
  obtain ⟨p, rfl, hp, q⟩ := h
  have sl : sizeLine = 16777216 := sizeLine_eq
  refine ⟨_, (pss_cut (ps_asg (pe_tup (pa_cons (pe_op op_add pe_int (pe_clo C__law_draw (hr.mono (by first | decide | omega)) (pa_cons (pv 0) (pa_cons pe_int pa_nil)))) (pa_cons (pe_op op_add pe_int (pe_clo C__law_draw (hr.mono (by first | decide | omega)) (pa_cons (pv 0) (pa_cons pe_int pa_nil)))) (pa_cons (pe_op op_add pe_int (pe_clo C__law_draw (hr.mono (by first | decide | omega)) (pa_cons (pv 0) (pa_cons pe_int pa_nil)))) pa_nil)))) (pg_tup rfl (pgs_cons (pg_name (i := 1) sc.nd rfl (Or.inl rfl)) (pgs_cons (pg_name (i := 2) sc.nd rfl (Or.inr rfl)) (pgs_cons (pg_name (i := 3) sc.nd rfl (Or.inr rfl)) pgs_nil))))) (pss_cut (ps_set (i := 4) sc.nd rfl (Or.inl rfl) (pe_mkT MT (hr.mono (by first | decide | omega)) (pa_cons (pe_lc (own := [("turn", 14)]) (g := (gName 14)) rfl sc.nd (pi_range1 rfl T.b_range (pa_cons (pv 1) pa_nil)) (blkOk_by (N := ["pot", "many", "tall", "wide", "team", "near", "far", "helpers", "at", "values", "table", "value", "shown", "due", "turn"]) (sc := defScope ((top 55))) (by decide +kernel)) (fun _ _ _ _ _ => (pg_name (i := 14) sc.nd rfl (Or.inl rfl))) (fun _ _ _ _ _ => pts_nil) (fun _ _ _ _ _ => (pe_clo C__law_table (hr.mono (by first | decide | omega)) (pa_cons (pv 0) (pa_cons (pv 2) (pa_cons (pv 3) pa_nil)))))) pa_nil))) (pss_cut (ps_asg (pe_tup (pa_cons (pe_op op_add pe_int (pe_clo C__law_draw (hr.mono (by first | decide | omega)) (pa_cons (pv 0) (pa_cons pe_int pa_nil)))) (pa_cons (pe_op op_add pe_int (pe_clo C__law_draw (hr.mono (by first | decide | omega)) (pa_cons (pv 0) (pa_cons pe_int pa_nil)))) pa_nil))) (pg_tup rfl (pgs_cons (pg_name (i := 5) sc.nd rfl (Or.inr rfl)) (pgs_cons (pg_name (i := 6) sc.nd rfl (Or.inr rfl)) pgs_nil)))) (pss_cut (ps_setLc (i := 7) (own := [("turn", 14)]) (g := (gName 14)) rfl sc.nd rfl rfl (sw_true rfl rfl rfl (by decide +kernel)) (pi_range1 rfl T.b_range (pa_cons (pv 1) pa_nil)) (blkOk_by (N := ["pot", "many", "tall", "wide", "team", "near", "far", "helpers", "at", "values", "table", "value", "shown", "due", "turn"]) (sc := defScope ((top 55))) (by decide +kernel)) (fun _ _ _ _ _ => (pg_name (i := 14) sc.nd rfl (Or.inl rfl))) (fun _ _ _ _ _ => pts_nil) (fun _ _ _ _ _ => (pe_clo C__law_table (hr.mono (by first | decide | omega)) (pa_cons (pv 0) (pa_cons (pv 5) (pa_cons (pv 6) pa_nil)))))) (pss_cut (ps_set (i := 8) sc.nd rfl (Or.inl rfl) (pe_clo C__law_draw (hr.mono (by first | decide | omega)) (pa_cons (pv 0) (pa_cons (pv 1) pa_nil)))) (pss_cut (ps_set (i := 9) sc.nd rfl (Or.inl rfl) (pe_lst (pa_cons (pv 7) (pa_cons (pe_callTy call_tuple_of rfl T.b_tuple bt_tuple (pa_cons (pv 7) pa_nil)) (pa_cons (pe_slice sl_list (pv 7) (po_some pe_int) po_none) (pa_cons (pe_op op_cat (pv 7) (pe_slice sl_list (pv 7) po_none (po_some pe_int))) (pa_cons pe_non (pa_cons pe_int (pa_cons pe_dnewK (pa_cons (pe_lst pa_nil) (pa_cons pe_str pa_nil))))))))))) (pss_cut (ps_expr (pe_bm PySem.F.plainAttrs_list PySem.F.slot_list_extend PySem.F.type_list_extend mt_extend (pv 9) (pa_cons (pe_lst (pa_cons (pe_op op_rep (pe_lst (pa_cons (pe_lst (pa_cons (pe_op op_rep (pe_lst (pa_cons pe_int pa_nil)) pe_int) pa_nil)) pa_nil)) (pv 1)) (pa_cons (pe_op op_rep (pe_lst (pa_cons (pe_op op_rep (pe_lst (pa_cons (pe_lst (pa_cons pe_int pa_nil)) pa_nil)) pe_int) pa_nil)) (pv 1)) (pa_cons (pe_op op_rep (pe_lst (pa_cons (pe_lst (pa_cons (pe_op op_rep (pe_lst (pa_cons pe_int pa_nil)) pe_int) pa_nil)) pa_nil)) (pv 1)) pa_nil)))) pa_nil))) (pss_cut (ps_expr (pe_bm PySem.F.plainAttrs_list PySem.F.slot_list_extend PySem.F.type_list_extend mt_extend (pv 9) (pa_cons (pe_lst (pa_cons (pe_op op_rep (pe_lst (pa_cons (pe_op op_rep (pe_lst (pa_cons (pe_lst (pa_cons pe_int pa_nil)) pa_nil)) pe_int) pa_nil)) (pv 1)) (pa_cons (pe_op op_rep (pe_lst (pa_cons (pe_lst (pa_cons pe_int pa_nil)) pa_nil)) (pv 1)) (pa_cons (pe_op op_rep (pe_lst (pa_cons pe_int pa_nil)) (pv 1)) (pa_cons (pe_lst (pa_cons (pv 7) pa_nil)) pa_nil))))) pa_nil))) (pss_cut (ps_for PassesOwn.never rfl (pi_list (pe_clo C__law_bent (hr.mono (by first | decide | omega)) (pa_cons (pv 0) (pa_cons (pe_ix ix_list (pv 7) (pv 8) (fun _ _ => rfl)) pa_nil)))) (pg_name (i := 10) sc.nd rfl (Or.inl rfl)) (pss_one (ps_expr (pe_bm PySem.F.plainAttrs_list PySem.F.slot_list_append PySem.F.type_list_append mt_append (pv 9) (pa_cons (pe_op op_cat (pe_op op_cat (pe_slice sl_list (pv 7) po_none (po_some (pv 8))) (pe_lst (pa_cons (pv 10) pa_nil))) (pe_slice sl_list (pv 7) (po_some (pe_op op_add (pv 8) pe_int)) po_none)) pa_nil))))) (pss_cut (ps_for PassesOwn.never rfl (pi_list (pv 9)) (pg_name (i := 11) sc.nd rfl (Or.inl rfl)) (pss_cons (ps_par (i := 12) (j := 13) rfl sc.nd rfl rfl (by decide) rfl rfl (pa_cons (pe_callB (call_reprT RB gd (hr.mono (by first | decide | omega))) rfl T.b_repr bt_repr (pa_cons (pv 11) pa_nil)) (pa_cons (pe_clo C__law_are_helpers (hr.mono (by first | decide | omega)) (pa_cons (pv 11) (pa_cons (pv 1) pa_nil))) pa_nil)) rfl) (pss_cons (ps_if (PW.pt (pw_or (pt_cmpR op_ne (pe_callB (call_reprD gd hr.units) rfl T.b_repr bt_repr (pa_cons (pe_lst (pa_cons (pe_clo C_is_helpers (hr.mono (by first | decide | omega)) (pa_cons (pv 4) (pa_cons (pv 11) pa_nil))) (pa_cons (pe_clq0 CK_is_helpers (hr.mono (by first | decide | omega)) (pk_cons (pv 11) (pk_cons (pv 4) pk_nil))) pa_nil))) pa_nil)) (pe_callB (call_reprD gd hr.units) rfl T.b_repr bt_repr (pa_cons (pe_lst (pa_cons (pv 13) (pa_cons (pv 13) pa_nil))) pa_nil)) (nomark _)) (pw_or1 (pt_cmpR op_ne (pe_callB (call_reprT RB gd (hr.mono (by first | decide | omega))) rfl T.b_repr bt_repr (pa_cons (pv 11) pa_nil)) (pv 12) (nomark _))))) (pss_one (ps_ret pe_bl)) pss_nil) (pss_one (ps_if (PW.pt (pw_and (pt_val (pv 13)) (pw_and1 (pt_cmpR op_ne (pe_callB (call_reprT RB gd (hr.mono (by first | decide | omega))) rfl T.b_repr bt_repr (pa_cons (pe_clq CP_sides (hr.mono (by first | decide | omega)) (pa_cons (pv 4) pa_nil) (pk_cons (pv 11) pk_nil)) pa_nil)) (pe_callB (call_reprT RB gd (hr.mono (by first | decide | omega))) rfl T.b_repr bt_repr (pa_cons (pe_tup (pa_cons (pe_callB call_len_seq rfl T.b_len bt_len (pa_cons (pe_ix ix_sq (pv 11) pe_int (fun _ _ => rfl)) pa_nil)) (pa_cons (pe_callB call_len_seq rfl T.b_len bt_len (pa_cons (pe_ix ix_sq (pe_ix ix_sq (pv 11) pe_int (fun _ _ => rfl)) pe_int (fun _ _ => rfl)) pa_nil)) pa_nil))) pa_nil)) (nomark _))))) (pss_one (ps_ret pe_bl)) pss_nil))))) (pss_one (ps_ret pe_bl)))))))))))), ?_⟩
  refine ⟨fun σ' H' => ∃ many tall wide : Nat, σ' = [some (.ref p), some (.int many), some (.int tall), some (.int wide), none, none, none, none, none, none, none, none, none, none, none] ∧ ExP p H H' ∧ 1 ≤ many ∧ many ≤ 4 ∧ 1 ≤ tall ∧ tall ≤ 3 ∧ 1 ≤ wide ∧ wide ≤ 3, ?_, ?_⟩
  · refine ⟨_, rfl, p, 4, rfl, hp, by decide, by decide, fun d1 H1 e1 hp1 hd1 => ⟨_, _, rfl, rfl, ?_⟩⟩
    refine ⟨_, rfl, p, 3, rfl, hp1, by decide, by decide, fun d2 H2 e2 hp2 hd2 => ⟨_, _, rfl, rfl, ?_⟩⟩
    refine ⟨_, rfl, p, 3, rfl, hp2, by decide, by decide, fun d3 H3 e3 hp3 hd3 => ⟨_, _, rfl, rfl, ?_⟩⟩
    refine ⟨(by show 3 ≤ sizeLine; decide), fun t ht => ?_⟩
    have x := (ExP.mk e1 hp1).trans ((ExP.mk e2 hp2).trans ((ExP.mk e3 hp3).trans (ExP.of (Ex.new (o := .tup [.int (1 + (d1 : Int)), .int (1 + (d2 : Int)), .int (1 + (d3 : Int))]) ht))))
    refine ⟨t, _, rfl, st_of upd_same, rfl, _, _, rfl, _, _, rfl, _, _, rfl, rfl, 1 + d1, 1 + d2, 1 + d3, ?_, x, by omega, by omega, by omega, by omega, by omega, by omega⟩
    rw [Int.natCast_add, Int.natCast_add, Int.natCast_add]
    rfl
  rintro σ' H1 ⟨many, tall, wide, rfl, x1, m1, m4, t1, t3, w1, w3⟩
  have hp1 := x1.2 hp
  refine ⟨fun σ' H' => ∃ tm tabs, σ' = [some (.ref p), some (.int many), some (.int tall), some (.int wide), some (.ref tm), none, none, none, none, none, none, none, none, none, none] ∧ ExP p H1 H' ∧ TeamAt C CT H' tm tabs ∧ tabs.length = many, ?_, ?_⟩
  · skip
    refine ⟨_, rfl, many, rfl, by omega, by omega, fun D hD => ?_⟩
    have nDp : D ≠ p := pot_nn hp1 hD
    refine lcE (walk_range (lo := 0) (n := many)) (Chg.pot (p := p) hD hp1) (List.range many) (List.length_range).symm (by omega) (fun _ => true) (fun _ v H' => ∃ r, v = .ref r ∧ TabL C [D, p] H' tall wide r) ?_ ?_ (fun _ _ => trivial) ?_ ?_
    · rintro y v Ha Hb ea eb ⟨r, h1, h2⟩
      exact ⟨r, h1, h2.pot (ea.2 hp1) (by simp) eb⟩
    · rintro y v Ha acc acc' hd ⟨r, h1, h2⟩
      exact ⟨r, h1, h2.ap hd (by simp)⟩
    · rintro i y x Ha Hb N Gt hy ea ⟨ac, hac⟩ ⟨rfl, rfl⟩ _ k
      refine ⟨rfl, _, rfl, _, rfl, _, rfl, p, tall, wide, rfl, ea.2 hp1, by omega, by omega, fun l rs Hc xc h0 hl hlr hrs => k rfl _ _ xc ⟨l, rfl, ?_, rs, hl, hlr, fun r hr => ?_⟩⟩
      · intro z
        rcases List.mem_cons.mp z with z | z
        · rw [z, hac] at h0; cases h0
        · exact pot_nn (ea.2 hp1) h0 (List.mem_singleton.mp z)
      · obtain ⟨k1, k2, k3⟩ := hrs r hr
        refine ⟨fun z => ?_, k3⟩
        rcases List.mem_cons.mp z with z | z
        · rw [z, hac] at k1; cases k1
        · exact k2 (List.mem_singleton.mp z)
    · intro acc H2 x2 hD2 hacc
      rw [filter_yes] at hacc
      obtain ⟨ts, rfl, lts, hts⟩ := pair_refs hacc
      have hts2 : ∀ t ∈ ts, TabL C [p] H2 tall wide t := fun t ht => by
        have z : ∀ {l : List Nat} {ts : List Addr}, Paired (fun r (_ : Nat) => TabL C [D, p] H2 tall wide r) ts l → ∀ t ∈ ts, TabL C [p] H2 tall wide t := by
          intro l ts z
          induction z with
          | nil => intro t ht; exact nomatch ht
          | cons a _ ih =>
            intro t ht
            rcases List.mem_cons.mp ht with rfl | ht
            · exact a.less fun b hb => List.mem_cons_of_mem _ hb
            · exact ih t ht
        exact z hts t ht
      have hp2 := x2.2 hp1
      rw [List.length_range] at lts
      obtain ⟨l, k1, k2, k3, k4, k5, k6⟩ := tabs_tree (pot_off hp2) hts2
      have ll : l.length = many := by rw [k1.len, List.length_map, lts]
      have cb : cntAll l ≤ 4 * (3 * (3 + 1) + 1) := by
        rw [k4, lts]
        exact Nat.mul_le_mul m4 (Nat.add_le_add_right (Nat.mul_le_mul t3 (by omega)) 1)
      have tv : TrV C (msk [p] H2) (.ref D) (.lst l) := .lst (by rw [msk_of (fun z => nDp (List.mem_singleton.mp z))]; exact hD2) k1
      have dm : Dim (.lst l) l tall wide := ⟨rfl, by omega, t1, w1, k2⟩
      have tb : Tabs 150 tall wide (l.map tabOf) := by
        refine ⟨by rw [List.length_map]; omega, by rw [List.length_map]; omega, t1, by omega, w1, by omega, fun tab htab => ?_, ?_, by decide⟩
        · obtain ⟨x, hx, rfl⟩ := List.mem_map.mp htab
          obtain ⟨s1, s2, s3⟩ := rows_sq (k2 x hx)
          refine ⟨by unfold tabOf; rw [List.length_map]; exact s2, fun row hrow => ?_⟩
          refine ⟨?_, k6 x hx row hrow⟩
          obtain ⟨y, hy, rfl⟩ := List.mem_map.mp hrow
          rw [List.length_map]
          exact (nums_sq (s3 y hy)).2.1
        · rw [List.length_map, ll]
          have : many * (tall * wide) ≤ 4 * (3 * 3) := Nat.mul_le_mul m4 (Nat.mul_le_mul t3 w3)
          omega
      intro tm dx htm hdx ne
      have e0 : Ex H2 (upd (upd H2 dx (.own tm)) tm (.ins CT dx [])) := fun y o hy => by
        rw [upd_ne (ne_of_none hy htm), upd_ne (ne_of_none hy hdx)]
        exact hy
      refine ⟨tm, dx, .ref D, .lst l, l, 150, tall, wide, rfl, upd_same, TrV.up (msk_ex.trans e0) _ _ tv, by rw [Tr.cnt]; omega, by rw [Tr.Good]; exact k3, dm, tb, fun H3 keep ht => ⟨rfl, ?_⟩⟩
      have e3 : Ex H2 H3 := fun y o hy => keep y o (ne_of_none hy htm) (e0 y o hy)
      exact ⟨tm, _, rfl, x2.trans (ExP.of e3), ht, by rw [List.length_map]; exact ll⟩
  rintro σ' H2 ⟨tm, tabs, rfl, x2, hT, lT⟩
  have hp2 := x2.2 hp1
  replace x2 := x1.trans x2
  clear x1 hp1
  refine ⟨fun σ' H' => ∃ near far : Nat, σ' = [some (.ref p), some (.int many), some (.int tall), some (.int wide), some (.ref tm), some (.int near), some (.int far), none, none, none, none, none, none, none, none] ∧ ExP p H2 H' ∧ 1 ≤ near ∧ near ≤ 3 ∧ 1 ≤ far ∧ far ≤ 3, ?_, ?_⟩
  · refine ⟨_, rfl, p, 3, rfl, hp2, by decide, by decide, fun d1 H3 e1 hp1 hd1 => ⟨_, _, rfl, rfl, ?_⟩⟩
    refine ⟨_, rfl, p, 3, rfl, hp1, by decide, by decide, fun d2 H4 e2 hp2 hd2 => ⟨_, _, rfl, rfl, ?_⟩⟩
    refine ⟨(by show 2 ≤ sizeLine; decide), fun t ht => ?_⟩
    have x := (ExP.mk e1 hp1).trans ((ExP.mk e2 hp2).trans (ExP.of (Ex.new (o := .tup [.int (1 + (d1 : Int)), .int (1 + (d2 : Int))]) ht)))
    refine ⟨t, _, rfl, st_of upd_same, rfl, _, _, rfl, _, _, rfl, rfl, 1 + d1, 1 + d2, ?_, x, by omega, by omega, by omega, by omega⟩
    rw [Int.natCast_add, Int.natCast_add]
    rfl

  rintro σ' H3 ⟨near, far, rfl, x3, n1, n3, f1, f3⟩
  have hp3 := x3.2 hp2
  have team := (hT.off hp2).up (msk_upB (p := p) (by simp) x3.1)
  replace x3 := x2.trans x3
  clear x2
  refine ⟨fun σ' H' => ∃ (hl : Addr) (ts : List Addr), σ' = [some (.ref p), some (.int many), some (.int tall), some (.int wide), some (.ref tm), some (.int near), some (.int far), some (.ref hl), none, none, none, none, none, none, none] ∧ ExP p H3 H' ∧ H3 hl = none ∧ H' hl = some (.lst (ts.map V.ref)) ∧ ts.length = many ∧ ∀ t ∈ ts, TabL C [p] H' near far t, ?_, ?_⟩
  · skip
    refine ⟨_, rfl, many, rfl, by omega, by omega, fun D hD => ?_⟩
    have nDp : D ≠ p := pot_nn hp3 hD
    refine lcE (walk_range (lo := 0) (n := many)) (Chg.pot (p := p) hD hp3) (List.range many) (List.length_range).symm (by omega) (fun _ => true) (fun _ v H' => ∃ r, v = .ref r ∧ TabL C [D, p] H' near far r) ?_ ?_ (fun _ _ => trivial) ?_ ?_
    · rintro y v Ha Hb ea eb ⟨r, h1, h2⟩
      exact ⟨r, h1, h2.pot (ea.2 hp3) (by simp) eb⟩
    · rintro y v Ha acc acc' hd ⟨r, h1, h2⟩
      exact ⟨r, h1, h2.ap hd (by simp)⟩
    · rintro i y x Ha Hb N Gt hy ea ⟨ac, hac⟩ ⟨rfl, rfl⟩ _ k
      refine ⟨rfl, _, rfl, _, rfl, _, rfl, p, near, far, rfl, ea.2 hp3, by omega, by omega, fun l rs Hc xc h0 hl hlr hrs => k rfl _ _ xc ⟨l, rfl, ?_, rs, hl, hlr, fun r hr => ?_⟩⟩
      · intro z
        rcases List.mem_cons.mp z with z | z
        · rw [z, hac] at h0; cases h0
        · exact pot_nn (ea.2 hp3) h0 (List.mem_singleton.mp z)
      · obtain ⟨k1, k2, k3⟩ := hrs r hr
        refine ⟨fun z => ?_, k3⟩
        rcases List.mem_cons.mp z with z | z
        · rw [z, hac] at k1; cases k1
        · exact k2 (List.mem_singleton.mp z)
    · intro acc H4 x4 hD4 hacc
      rw [filter_yes] at hacc
      obtain ⟨ts, rfl, lts, hts⟩ := pair_refs hacc
      rw [List.length_range] at lts
      refine ⟨D, ts, rfl, x4, hD, hD4, lts, fun t ht => ?_⟩
      have z : ∀ {l : List Nat} {ts : List Addr}, Paired (fun r (_ : Nat) => TabL C [D, p] H4 near far r) ts l → ∀ t ∈ ts, TabL C [p] H4 near far t := by
        intro l ts z
        induction z with
        | nil => intro t ht; exact nomatch ht
        | cons a _ ih =>
          intro t ht
          rcases List.mem_cons.mp ht with rfl | ht
          · exact a.less fun b hb => List.mem_cons_of_mem _ hb
          · exact ih t ht
      exact z hts t ht
  rintro σ' H4 ⟨hl, ts, rfl, x4, hl0, hhl, lts, hts⟩
  have hp4 := x4.2 hp3
  have nhl : hl ≠ p := pot_nn hp3 hl0
  replace team := team.up (msk_upB (p := p) (by simp) x4.1)
  replace x4 := x3.trans x4
  clear x3 hl0
  refine ⟨fun σ' H' => ∃ at_ : Nat, σ' = [some (.ref p), some (.int many), some (.int tall), some (.int wide), some (.ref tm), some (.int near), some (.int far), some (.ref hl), some (.int at_), none, none, none, none, none, none] ∧ ExP p H4 H' ∧ at_ < many, ?_, ?_⟩
  · exact ⟨_, rfl, _, rfl, p, many, rfl, hp4, m1, by omega, fun d H5 e5 hp5 hd => ⟨d, rfl, .mk e5 hp5, hd⟩⟩
  rintro σ' H5 ⟨at_, rfl, x5, hat⟩
  have hp5 := x5.2 hp4
  replace team := team.up (msk_upB (p := p) (by simp) x5.1)
  replace hhl := x5.1 _ _ nhl hhl
  replace hts : ∀ t ∈ ts, TabL C [p] H5 near far t := fun t ht => (hts t ht).pot hp4 (by simp) x5
  replace x5 := x4.trans x5
  clear x4 hp4
  have hlS : hl ∉ [p] := fun z => nhl (List.mem_singleton.mp z)
  have lh : LF 21 2 [p] C H5 hl (ts.map V.ref) := ⟨hhl, hlS, fun x hx => by
    obtain ⟨t, ht, rfl⟩ := List.mem_map.mp hx
    exact (hts t ht).fine (pot_off hp5) (by omega) (by omega)⟩
  have ltm : (ts.map V.ref).length = many := by rw [List.length_map, lts]
  refine ⟨fun σ' H' => ∃ D vs, σ' = [some (.ref p), some (.int many), some (.int tall), some (.int wide), some (.ref tm), some (.int near), some (.int far), some (.ref hl), some (.int at_), some (.ref D), none, none, none, none, none] ∧ Ex H5 H' ∧ H5 D = none ∧ H' D = some (.lst vs) ∧ vs.length = 9 ∧ ∀ v ∈ vs, Fine 420 4 C (msk [D, p] H') v, ?_, ?_⟩
  · have o5 := pot_off hp5
    refine ⟨_, rfl, ?_⟩
    refine ⟨_, rfl, hl, _, rfl, .inl ⟨sq_of lh.at_, ?_⟩⟩
    intro a6 h6
    have e6 := Ex.new (o := .tup (ts.map V.ref)) h6
    have o6 := o5.up e6
    have kt : Fine 85 3 C (msk [p] (upd H5 a6 (.tup (ts.map V.ref)))) (.ref a6) := tup_fine o5 h6 lh.all (by omega)
    generalize upd H5 a6 (.tup (ts.map V.ref)) = H6 at e6 o6 kt ⊢
    refine ⟨_, rfl, _, rfl, hl, _, rfl, sq_of (lh.up e6).at_, fun a7 h7 => ?_⟩
    have e7 := Ex.new (o := .lst (cutV (ts.map V.ref) (some 1) none)) h7
    have o7 := o6.up e7
    have f7 : LF 21 2 [p] C (upd H6 a7 (.lst (cutV (ts.map V.ref) (some 1) none))) a7 (cutV (ts.map V.ref) (some 1) none) := LF.new o6 h7 ((lh.up e6).cut _ _)
    generalize upd H6 a7 (.lst (cutV (ts.map V.ref) (some 1) none)) = H7 at e7 o7 f7 ⊢
    have kc : Fine 85 3 C (msk [p] H7) (.ref a7) := f7.fine (by have := cutV_length (ts.map V.ref) (some 1) none; omega)
    refine ⟨_, rfl, ?_⟩
    refine ⟨_, rfl, _, rfl, hl, _, rfl, sq_of (lh.up (e6.trans e7)).at_, fun a8 h8 => ?_⟩
    have e8 := Ex.new (o := .lst (cutV (ts.map V.ref) none (some 1))) h8
    have o8 := o7.up e8
    have f8 : LF 21 2 [p] C (upd H7 a8 (.lst (cutV (ts.map V.ref) none (some 1)))) a8 (cutV (ts.map V.ref) none (some 1)) := LF.new o7 h8 ((lh.up (e6.trans e7)).cut _ _)
    generalize upd H7 a8 (.lst (cutV (ts.map V.ref) none (some 1))) = H8 at e8 o8 f8 ⊢
    refine ⟨hl, a8, _, _, rfl, rfl, (lh.up (e6.trans (e7.trans e8))).at_, f8.at_, (by have := cutV_length (ts.map V.ref) none (some 1); omega), fun a9 h9 => ?_⟩
    have e9 := Ex.new (o := .lst ((ts.map V.ref) ++ (cutV (ts.map V.ref) none (some 1)))) h9
    have o9 := o8.up e9
    have f9 : LF 21 2 [p] C (upd H8 a9 (.lst ((ts.map V.ref) ++ (cutV (ts.map V.ref) none (some 1))))) a9 ((ts.map V.ref) ++ (cutV (ts.map V.ref) none (some 1))) := LF.new o8 h9 (memA ((lh.up (e6.trans (e7.trans e8))).mono (by decide) (by decide)).all (f8.mono (by decide) (by decide)).all)
    generalize upd H8 a9 (.lst ((ts.map V.ref) ++ (cutV (ts.map V.ref) none (some 1)))) = H9 at e9 o9 f9 ⊢
    have kd : Fine 170 3 C (msk [p] H9) (.ref a9) := f9.fine (by have := cutV_length (ts.map V.ref) none (some 1); rw [List.length_append]; omega)
    intro a10 h10
    have e10 := Ex.new (o := .dK []) h10
    have o10 := o9.up e10
    have ke : Fine 1 0 C (msk [p] (upd H9 a10 (.dK []))) (.ref a10) := Fine.emp (by rw [msk_of (o9.fresh h10)]; exact upd_same)
    generalize upd H9 a10 (.dK []) = H10 at e10 o10 ke ⊢
    refine ⟨(by show 0 ≤ sizeLine; decide), fun a11 h11 => ?_⟩
    have e11 := Ex.new (o := .lst []) h11
    have o11 := o10.up e11
    have f11 : LF 1 0 [p] C (upd H10 a11 (.lst [])) a11 [] := LF.new o10 h11 (fun _ z => nomatch z)
    generalize upd H10 a11 (.lst []) = H11 at e11 o11 f11 ⊢
    have kb : Fine 1 1 C (msk [p] H11) (.ref a11) := f11.fine (by decide)
    have kh : Fine 85 3 C (msk [p] H11) (.ref hl) := (lh.up (e6.trans (e7.trans (e8.trans (e9.trans (e10.trans e11)))))).fine (by omega)
    refine ⟨(by show 9 ≤ sizeLine; decide), fun D hD => ?_⟩
    refine ⟨D, _, rfl, (e6.trans (e7.trans (e8.trans (e9.trans (e10.trans e11))))).trans (Ex.new hD), fresh_back (e6.trans (e7.trans (e8.trans (e9.trans (e10.trans e11))))) hD, upd_same, rfl, ?_⟩
    rw [msk_put (List.mem_cons_self), msk_new hD]
    intro v hv
    simp only [List.mem_cons, List.not_mem_nil, or_false] at hv
    rcases hv with rfl | rfl | rfl | rfl | rfl | rfl | rfl | rfl | rfl
    · exact kh.mono (by decide) (by decide)
    · exact (kt.up (msk_up (e7.trans (e8.trans (e9.trans (e10.trans e11)))))).mono (by decide) (by decide)
    · exact (kc.up (msk_up (e8.trans (e9.trans (e10.trans e11))))).mono (by decide) (by decide)
    · exact (kd.up (msk_up (e10.trans e11))).mono (by decide) (by decide)
    · exact Fine.non.mono (by decide) (by decide)
    · exact (Fine.int (by decide +kernel)).mono (by decide) (by decide)
    · exact (ke.up (msk_up e11)).mono (by decide) (by decide)
    · exact kb.mono (by decide) (by decide)
    · exact (Fine.str (by decide +kernel)).mono (by decide) (by decide)
  rintro σ' H20 ⟨D, vs, rfl, e20, hD0, hD, v9, fv⟩
  have nDp : D ≠ p := pot_nn hp5 hD0
  have hDH : H D = none := x5.1.fresh nDp hD0
  have J : HJ C CT tm hl D p tabs ts near far H H20 vs := by
    refine ⟨x5.trans (ExP.of e20), ((pot_off hp5).up e20).cons hD, hp5.up e20, ?_, e20 _ _ hhl, fun z => ?_, fun t ht => ((hts t ht).more hD0).up e20, hD, fv⟩
    · rw [← msk_new (S := [p]) hD0] at team
      exact team.up (msk_up e20)
    · rcases List.mem_cons.mp z with z | z
      · rw [z, hD0] at hhl; cases hhl
      · exact hlS z
  clear fv hD lh hts hhl team x5 hp5 hlS
  refine ⟨fun σ' H' => ∃ vs, σ' = [some (.ref p), some (.int many), some (.int tall), some (.int wide), some (.ref tm), some (.int near), some (.int far), some (.ref hl), some (.int at_), some (.ref D), none, none, none, none, none] ∧ HJ C CT tm hl D p tabs ts near far H H' vs ∧ vs.length = 12, ?_, ?_⟩
  · refine ⟨_, rfl, .inl ⟨rfl, vs, sq_of J.vals⟩, ?_⟩
    have o20 := J.off
    refine ⟨(by show 1 ≤ sizeLine; decide), fun a21 h21 => ?_⟩
    have e21 := Ex.new (o := .lst [.int 1]) h21
    have o21 := o20.up e21
    have f21 : LF 1 0 [D, p] C (upd H20 a21 (.lst [.int 1])) a21 [.int 1] := LF.new o20 h21 (mem1 (Fine.int (by decide +kernel)))
    generalize upd H20 a21 (.lst [.int 1]) = H21 at e21 o21 f21 ⊢
    refine ⟨a21, 24, [.int 1], rfl, rfl, f21.at_, by decide, by decide, (by show 24 ≤ sizeLine; decide), fun a22 h22 => ?_⟩
    have e22 := Ex.new (o := .lst (List.replicate (24 : Int).toNat [V.int 1]).flatten) h22
    have o22 := o21.up e22
    have f22 : LF 1 0 [D, p] C (upd H21 a22 (.lst (List.replicate (24 : Int).toNat [V.int 1]).flatten)) a22 (List.replicate (24 : Int).toNat [V.int 1]).flatten := LF.new o21 h22 (fun x hx => by rw [rep_mem x hx]; exact f21.all _ List.mem_cons_self)
    generalize upd H21 a22 (.lst (List.replicate (24 : Int).toNat [V.int 1]).flatten) = H22 at e22 o22 f22 ⊢
    have kab : Fine 25 1 C (msk [D, p] H22) (.ref a22) := f22.fine (N' := 25) (by rw [rep_len]; decide)
    refine ⟨(by show 1 ≤ sizeLine; decide), fun a23 h23 => ?_⟩
    have e23 := Ex.new (o := .lst [.ref a22]) h23
    have o23 := o22.up e23
    have f23 : LF 25 1 [D, p] C (upd H22 a23 (.lst [.ref a22])) a23 [.ref a22] := LF.new o22 h23 (mem1 kab)
    generalize upd H22 a23 (.lst [.ref a22]) = H23 at e23 o23 f23 ⊢
    have kac : Fine 26 2 C (msk [D, p] H23) (.ref a23) := f23.fine (N' := 26) (by show 1 * 25 + 1 ≤ 26; decide)
    refine ⟨(by show 1 ≤ sizeLine; decide), fun a24 h24 => ?_⟩
    have e24 := Ex.new (o := .lst [.ref a23]) h24
    have o24 := o23.up e24
    have f24 : LF 26 2 [D, p] C (upd H23 a24 (.lst [.ref a23])) a24 [.ref a23] := LF.new o23 h24 (mem1 kac)
    generalize upd H23 a24 (.lst [.ref a23]) = H24 at e24 o24 f24 ⊢
    refine ⟨_, rfl, a24, (many : Int), [.ref a23], rfl, rfl, f24.at_, by omega, by omega, (by show 1 * _ ≤ sizeLine; rw [Int.toNat_natCast]; omega), fun a25 h25 => ?_⟩
    have e25 := Ex.new (o := .lst (List.replicate (many : Int).toNat [V.ref a23]).flatten) h25
    have o25 := o24.up e25
    have f25 : LF 26 2 [D, p] C (upd H24 a25 (.lst (List.replicate (many : Int).toNat [V.ref a23]).flatten)) a25 (List.replicate (many : Int).toNat [V.ref a23]).flatten := LF.new o24 h25 (fun x hx => by rw [rep_mem x hx]; exact f24.all _ List.mem_cons_self)
    generalize upd H24 a25 (.lst (List.replicate (many : Int).toNat [V.ref a23]).flatten) = H25 at e25 o25 f25 ⊢
    have ka : Fine 420 3 C (msk [D, p] H25) (.ref a25) := f25.fine (N' := 420) (by rw [rep_len]; omega)
    refine ⟨(by show 1 ≤ sizeLine; decide), fun a26 h26 => ?_⟩
    have e26 := Ex.new (o := .lst [.int 1]) h26
    have o26 := o25.up e26
    have f26 : LF 1 0 [D, p] C (upd H25 a26 (.lst [.int 1])) a26 [.int 1] := LF.new o25 h26 (mem1 (Fine.int (by decide +kernel)))
    generalize upd H25 a26 (.lst [.int 1]) = H26 at e26 o26 f26 ⊢
    have kba : Fine 2 1 C (msk [D, p] H26) (.ref a26) := f26.fine (N' := 2) (by show 1 * 1 + 1 ≤ 2; decide)
    refine ⟨(by show 1 ≤ sizeLine; decide), fun a27 h27 => ?_⟩
    have e27 := Ex.new (o := .lst [.ref a26]) h27
    have o27 := o26.up e27
    have f27 : LF 2 1 [D, p] C (upd H26 a27 (.lst [.ref a26])) a27 [.ref a26] := LF.new o26 h27 (mem1 kba)
    generalize upd H26 a27 (.lst [.ref a26]) = H27 at e27 o27 f27 ⊢
    refine ⟨a27, 24, [.ref a26], rfl, rfl, f27.at_, by decide, by decide, (by show 24 ≤ sizeLine; decide), fun a28 h28 => ?_⟩
    have e28 := Ex.new (o := .lst (List.replicate (24 : Int).toNat [V.ref a26]).flatten) h28
    have o28 := o27.up e28
    have f28 : LF 2 1 [D, p] C (upd H27 a28 (.lst (List.replicate (24 : Int).toNat [V.ref a26]).flatten)) a28 (List.replicate (24 : Int).toNat [V.ref a26]).flatten := LF.new o27 h28 (fun x hx => by rw [rep_mem x hx]; exact f27.all _ List.mem_cons_self)
    generalize upd H27 a28 (.lst (List.replicate (24 : Int).toNat [V.ref a26]).flatten) = H28 at e28 o28 f28 ⊢
    have kbc : Fine 49 2 C (msk [D, p] H28) (.ref a28) := f28.fine (N' := 49) (by rw [rep_len]; decide)
    refine ⟨(by show 1 ≤ sizeLine; decide), fun a29 h29 => ?_⟩
    have e29 := Ex.new (o := .lst [.ref a28]) h29
    have o29 := o28.up e29
    have f29 : LF 49 2 [D, p] C (upd H28 a29 (.lst [.ref a28])) a29 [.ref a28] := LF.new o28 h29 (mem1 kbc)
    generalize upd H28 a29 (.lst [.ref a28]) = H29 at e29 o29 f29 ⊢
    refine ⟨_, rfl, a29, (many : Int), [.ref a28], rfl, rfl, f29.at_, by omega, by omega, (by show 1 * _ ≤ sizeLine; rw [Int.toNat_natCast]; omega), fun a30 h30 => ?_⟩
    have e30 := Ex.new (o := .lst (List.replicate (many : Int).toNat [V.ref a28]).flatten) h30
    have o30 := o29.up e30
    have f30 : LF 49 2 [D, p] C (upd H29 a30 (.lst (List.replicate (many : Int).toNat [V.ref a28]).flatten)) a30 (List.replicate (many : Int).toNat [V.ref a28]).flatten := LF.new o29 h30 (fun x hx => by rw [rep_mem x hx]; exact f29.all _ List.mem_cons_self)
    generalize upd H29 a30 (.lst (List.replicate (many : Int).toNat [V.ref a28]).flatten) = H30 at e30 o30 f30 ⊢
    have kb : Fine 420 3 C (msk [D, p] H30) (.ref a30) := f30.fine (N' := 420) (by rw [rep_len]; omega)
    refine ⟨(by show 1 ≤ sizeLine; decide), fun a31 h31 => ?_⟩
    have e31 := Ex.new (o := .lst [.int 1]) h31
    have o31 := o30.up e31
    have f31 : LF 1 0 [D, p] C (upd H30 a31 (.lst [.int 1])) a31 [.int 1] := LF.new o30 h31 (mem1 (Fine.int (by decide +kernel)))
    generalize upd H30 a31 (.lst [.int 1]) = H31 at e31 o31 f31 ⊢
    refine ⟨a31, 25, [.int 1], rfl, rfl, f31.at_, by decide, by decide, (by show 25 ≤ sizeLine; decide), fun a32 h32 => ?_⟩
    have e32 := Ex.new (o := .lst (List.replicate (25 : Int).toNat [V.int 1]).flatten) h32
    have o32 := o31.up e32
    have f32 : LF 1 0 [D, p] C (upd H31 a32 (.lst (List.replicate (25 : Int).toNat [V.int 1]).flatten)) a32 (List.replicate (25 : Int).toNat [V.int 1]).flatten := LF.new o31 h32 (fun x hx => by rw [rep_mem x hx]; exact f31.all _ List.mem_cons_self)
    generalize upd H31 a32 (.lst (List.replicate (25 : Int).toNat [V.int 1]).flatten) = H32 at e32 o32 f32 ⊢
    have kcb : Fine 26 1 C (msk [D, p] H32) (.ref a32) := f32.fine (N' := 26) (by rw [rep_len]; decide)
    refine ⟨(by show 1 ≤ sizeLine; decide), fun a33 h33 => ?_⟩
    have e33 := Ex.new (o := .lst [.ref a32]) h33
    have o33 := o32.up e33
    have f33 : LF 26 1 [D, p] C (upd H32 a33 (.lst [.ref a32])) a33 [.ref a32] := LF.new o32 h33 (mem1 kcb)
    generalize upd H32 a33 (.lst [.ref a32]) = H33 at e33 o33 f33 ⊢
    have kcc : Fine 27 2 C (msk [D, p] H33) (.ref a33) := f33.fine (N' := 27) (by show 1 * 26 + 1 ≤ 27; decide)
    refine ⟨(by show 1 ≤ sizeLine; decide), fun a34 h34 => ?_⟩
    have e34 := Ex.new (o := .lst [.ref a33]) h34
    have o34 := o33.up e34
    have f34 : LF 27 2 [D, p] C (upd H33 a34 (.lst [.ref a33])) a34 [.ref a33] := LF.new o33 h34 (mem1 kcc)
    generalize upd H33 a34 (.lst [.ref a33]) = H34 at e34 o34 f34 ⊢
    refine ⟨_, rfl, a34, (many : Int), [.ref a33], rfl, rfl, f34.at_, by omega, by omega, (by show 1 * _ ≤ sizeLine; rw [Int.toNat_natCast]; omega), fun a35 h35 => ?_⟩
    have e35 := Ex.new (o := .lst (List.replicate (many : Int).toNat [V.ref a33]).flatten) h35
    have o35 := o34.up e35
    have f35 : LF 27 2 [D, p] C (upd H34 a35 (.lst (List.replicate (many : Int).toNat [V.ref a33]).flatten)) a35 (List.replicate (many : Int).toNat [V.ref a33]).flatten := LF.new o34 h35 (fun x hx => by rw [rep_mem x hx]; exact f34.all _ List.mem_cons_self)
    generalize upd H34 a35 (.lst (List.replicate (many : Int).toNat [V.ref a33]).flatten) = H35 at e35 o35 f35 ⊢
    have kc : Fine 420 3 C (msk [D, p] H35) (.ref a35) := f35.fine (N' := 420) (by rw [rep_len]; omega)
    refine ⟨(by show 3 ≤ sizeLine; decide), fun a36 h36 => ?_⟩
    have e36 := Ex.new (o := .lst [.ref a25, .ref a30, .ref a35]) h36
    have o36 := o35.up e36
    have f36 : LF 420 4 [D, p] C (upd H35 a36 (.lst [.ref a25, .ref a30, .ref a35])) a36 [.ref a25, .ref a30, .ref a35] := LF.new o35 h36 (mem3 ((ka.up (msk_up (e26.trans (e27.trans (e28.trans (e29.trans (e30.trans (e31.trans (e32.trans (e33.trans (e34.trans e35))))))))))).mono (by decide) (by decide)) ((kb.up (msk_up (e31.trans (e32.trans (e33.trans (e34.trans e35)))))).mono (by decide) (by decide)) (kc.mono (by decide) (by decide)))
    generalize upd H35 a36 (.lst [.ref a25, .ref a30, .ref a35]) = H36 at e36 o36 f36 ⊢
    have J2 := J.up (e21.trans (e22.trans (e23.trans (e24.trans (e25.trans (e26.trans (e27.trans (e28.trans (e29.trans (e30.trans (e31.trans (e32.trans (e33.trans (e34.trans (e35.trans e36)))))))))))))))
    exact ⟨D, a36, vs, _, rfl, rfl, J2.vals, f36.at_, (by rw [v9]; show 12 ≤ sizeLine; decide), vs ++ [.ref a25, .ref a30, .ref a35], rfl, J2.put nDp hDH (memA J2.fine f36.all), (by rw [List.length_append, v9]; rfl)⟩
  clear J v9
  rintro σ' H60 ⟨vs, rfl, J, v12⟩
  refine ⟨fun σ' H' => ∃ vs, σ' = [some (.ref p), some (.int many), some (.int tall), some (.int wide), some (.ref tm), some (.int near), some (.int far), some (.ref hl), some (.int at_), some (.ref D), none, none, none, none, none] ∧ HJ C CT tm hl D p tabs ts near far H H' vs ∧ vs.length = 16, ?_, ?_⟩
  · refine ⟨_, rfl, .inl ⟨rfl, vs, sq_of J.vals⟩, ?_⟩
    have o60 := J.off
    refine ⟨(by show 1 ≤ sizeLine; decide), fun a61 h61 => ?_⟩
    have e61 := Ex.new (o := .lst [.int 1]) h61
    have o61 := o60.up e61
    have f61 : LF 1 0 [D, p] C (upd H60 a61 (.lst [.int 1])) a61 [.int 1] := LF.new o60 h61 (mem1 (Fine.int (by decide +kernel)))
    generalize upd H60 a61 (.lst [.int 1]) = H61 at e61 o61 f61 ⊢
    have kaa : Fine 2 1 C (msk [D, p] H61) (.ref a61) := f61.fine (N' := 2) (by show 1 * 1 + 1 ≤ 2; decide)
    refine ⟨(by show 1 ≤ sizeLine; decide), fun a62 h62 => ?_⟩
    have e62 := Ex.new (o := .lst [.ref a61]) h62
    have o62 := o61.up e62
    have f62 : LF 2 1 [D, p] C (upd H61 a62 (.lst [.ref a61])) a62 [.ref a61] := LF.new o61 h62 (mem1 kaa)
    generalize upd H61 a62 (.lst [.ref a61]) = H62 at e62 o62 f62 ⊢
    refine ⟨a62, 25, [.ref a61], rfl, rfl, f62.at_, by decide, by decide, (by show 25 ≤ sizeLine; decide), fun a63 h63 => ?_⟩
    have e63 := Ex.new (o := .lst (List.replicate (25 : Int).toNat [V.ref a61]).flatten) h63
    have o63 := o62.up e63
    have f63 : LF 2 1 [D, p] C (upd H62 a63 (.lst (List.replicate (25 : Int).toNat [V.ref a61]).flatten)) a63 (List.replicate (25 : Int).toNat [V.ref a61]).flatten := LF.new o62 h63 (fun x hx => by rw [rep_mem x hx]; exact f62.all _ List.mem_cons_self)
    generalize upd H62 a63 (.lst (List.replicate (25 : Int).toNat [V.ref a61]).flatten) = H63 at e63 o63 f63 ⊢
    have kac : Fine 51 2 C (msk [D, p] H63) (.ref a63) := f63.fine (N' := 51) (by rw [rep_len]; decide)
    refine ⟨(by show 1 ≤ sizeLine; decide), fun a64 h64 => ?_⟩
    have e64 := Ex.new (o := .lst [.ref a63]) h64
    have o64 := o63.up e64
    have f64 : LF 51 2 [D, p] C (upd H63 a64 (.lst [.ref a63])) a64 [.ref a63] := LF.new o63 h64 (mem1 kac)
    generalize upd H63 a64 (.lst [.ref a63]) = H64 at e64 o64 f64 ⊢
    refine ⟨_, rfl, a64, (many : Int), [.ref a63], rfl, rfl, f64.at_, by omega, by omega, (by show 1 * _ ≤ sizeLine; rw [Int.toNat_natCast]; omega), fun a65 h65 => ?_⟩
    have e65 := Ex.new (o := .lst (List.replicate (many : Int).toNat [V.ref a63]).flatten) h65
    have o65 := o64.up e65
    have f65 : LF 51 2 [D, p] C (upd H64 a65 (.lst (List.replicate (many : Int).toNat [V.ref a63]).flatten)) a65 (List.replicate (many : Int).toNat [V.ref a63]).flatten := LF.new o64 h65 (fun x hx => by rw [rep_mem x hx]; exact f64.all _ List.mem_cons_self)
    generalize upd H64 a65 (.lst (List.replicate (many : Int).toNat [V.ref a63]).flatten) = H65 at e65 o65 f65 ⊢
    have ka : Fine 420 3 C (msk [D, p] H65) (.ref a65) := f65.fine (N' := 420) (by rw [rep_len]; omega)
    refine ⟨(by show 1 ≤ sizeLine; decide), fun a66 h66 => ?_⟩
    have e66 := Ex.new (o := .lst [.int 1]) h66
    have o66 := o65.up e66
    have f66 : LF 1 0 [D, p] C (upd H65 a66 (.lst [.int 1])) a66 [.int 1] := LF.new o65 h66 (mem1 (Fine.int (by decide +kernel)))
    generalize upd H65 a66 (.lst [.int 1]) = H66 at e66 o66 f66 ⊢
    have kda : Fine 2 1 C (msk [D, p] H66) (.ref a66) := f66.fine (N' := 2) (by show 1 * 1 + 1 ≤ 2; decide)
    refine ⟨(by show 1 ≤ sizeLine; decide), fun a67 h67 => ?_⟩
    have e67 := Ex.new (o := .lst [.ref a66]) h67
    have o67 := o66.up e67
    have f67 : LF 2 1 [D, p] C (upd H66 a67 (.lst [.ref a66])) a67 [.ref a66] := LF.new o66 h67 (mem1 kda)
    generalize upd H66 a67 (.lst [.ref a66]) = H67 at e67 o67 f67 ⊢
    refine ⟨_, rfl, a67, (many : Int), [.ref a66], rfl, rfl, f67.at_, by omega, by omega, (by show 1 * _ ≤ sizeLine; rw [Int.toNat_natCast]; omega), fun a68 h68 => ?_⟩
    have e68 := Ex.new (o := .lst (List.replicate (many : Int).toNat [V.ref a66]).flatten) h68
    have o68 := o67.up e68
    have f68 : LF 2 1 [D, p] C (upd H67 a68 (.lst (List.replicate (many : Int).toNat [V.ref a66]).flatten)) a68 (List.replicate (many : Int).toNat [V.ref a66]).flatten := LF.new o67 h68 (fun x hx => by rw [rep_mem x hx]; exact f67.all _ List.mem_cons_self)
    generalize upd H67 a68 (.lst (List.replicate (many : Int).toNat [V.ref a66]).flatten) = H68 at e68 o68 f68 ⊢
    have kd : Fine 420 2 C (msk [D, p] H68) (.ref a68) := f68.fine (N' := 420) (by rw [rep_len]; omega)
    refine ⟨(by show 1 ≤ sizeLine; decide), fun a69 h69 => ?_⟩
    have e69 := Ex.new (o := .lst [.int 1]) h69
    have o69 := o68.up e69
    have f69 : LF 1 0 [D, p] C (upd H68 a69 (.lst [.int 1])) a69 [.int 1] := LF.new o68 h69 (mem1 (Fine.int (by decide +kernel)))
    generalize upd H68 a69 (.lst [.int 1]) = H69 at e69 o69 f69 ⊢
    refine ⟨_, rfl, a69, (many : Int), [.int 1], rfl, rfl, f69.at_, by omega, by omega, (by show 1 * _ ≤ sizeLine; rw [Int.toNat_natCast]; omega), fun a70 h70 => ?_⟩
    have e70 := Ex.new (o := .lst (List.replicate (many : Int).toNat [V.int 1]).flatten) h70
    have o70 := o69.up e70
    have f70 : LF 1 0 [D, p] C (upd H69 a70 (.lst (List.replicate (many : Int).toNat [V.int 1]).flatten)) a70 (List.replicate (many : Int).toNat [V.int 1]).flatten := LF.new o69 h70 (fun x hx => by rw [rep_mem x hx]; exact f69.all _ List.mem_cons_self)
    generalize upd H69 a70 (.lst (List.replicate (many : Int).toNat [V.int 1]).flatten) = H70 at e70 o70 f70 ⊢
    have ke : Fine 420 1 C (msk [D, p] H70) (.ref a70) := f70.fine (N' := 420) (by rw [rep_len]; omega)
    have lhh : Fine 85 3 C (msk [D, p] H70) (.ref hl) := ((J.up (e61.trans (e62.trans (e63.trans (e64.trans (e65.trans (e66.trans (e67.trans (e68.trans (e69.trans e70)))))))))).lf (by omega) (by omega)).fine (by omega)
    refine ⟨_, rfl, (by show 1 ≤ sizeLine; decide), fun a71 h71 => ?_⟩
    have e71 := Ex.new (o := .lst [.ref hl]) h71
    have o71 := o70.up e71
    have f71 : LF 85 3 [D, p] C (upd H70 a71 (.lst [.ref hl])) a71 [.ref hl] := LF.new o70 h71 (mem1 lhh)
    generalize upd H70 a71 (.lst [.ref hl]) = H71 at e71 o71 f71 ⊢
    have kf : Fine 420 4 C (msk [D, p] H71) (.ref a71) := f71.fine (N' := 420) (by show 1 * 85 + 1 ≤ 420; decide)
    refine ⟨(by show 4 ≤ sizeLine; decide), fun a72 h72 => ?_⟩
    have e72 := Ex.new (o := .lst [.ref a65, .ref a68, .ref a70, .ref a71]) h72
    have o72 := o71.up e72
    have f72 : LF 420 4 [D, p] C (upd H71 a72 (.lst [.ref a65, .ref a68, .ref a70, .ref a71])) a72 [.ref a65, .ref a68, .ref a70, .ref a71] := LF.new o71 h72 (mem4 ((ka.up (msk_up (e66.trans (e67.trans (e68.trans (e69.trans (e70.trans e71))))))).mono (by decide) (by decide)) ((kd.up (msk_up (e69.trans (e70.trans e71)))).mono (by decide) (by decide)) ((ke.up (msk_up e71)).mono (by decide) (by decide)) (kf.mono (by decide) (by decide)))
    generalize upd H71 a72 (.lst [.ref a65, .ref a68, .ref a70, .ref a71]) = H72 at e72 o72 f72 ⊢
    have J2 := J.up (e61.trans (e62.trans (e63.trans (e64.trans (e65.trans (e66.trans (e67.trans (e68.trans (e69.trans (e70.trans (e71.trans e72)))))))))))
    exact ⟨D, a72, vs, _, rfl, rfl, J2.vals, f72.at_, (by rw [v12]; show 16 ≤ sizeLine; decide), vs ++ [.ref a65, .ref a68, .ref a70, .ref a71], rfl, J2.put nDp hDH (memA J2.fine f72.all), (by rw [List.length_append, v12]; rfl)⟩
  clear J v12
  rintro σ' H100 ⟨vs, rfl, J, v16⟩
  refine ⟨fun σ' H' => ∃ o vs, σ' = [some (.ref p), some (.int many), some (.int tall), some (.int wide), some (.ref tm), some (.int near), some (.int far), some (.ref hl), some (.int at_), some (.ref D), o, none, none, none, none] ∧ HJ C CT tm hl D p tabs ts near far H H' vs ∧ vs.length = 26, ?_, ?_⟩
  · obtain ⟨tt, htt⟩ : ∃ tt, ts[at_]? = some tt := ⟨ts[at_], List.getElem?_eq_getElem (by omega)⟩
    obtain ⟨tS, rs, hrs1, hrs2, hrs3⟩ := J.tab tt (List.mem_of_getElem? htt)
    refine ⟨_, rfl, _, rfl, _, rfl, hl, _, at_, .ref tt, rfl, rfl, sq_of J.at_, atI_nat (by rw [List.getElem?_map, htt]; rfl), p, tt, rs, far, [D, p], rfl, J.pot, by simp, J.off, tS, hrs1, by omega, by omega, f1, by omega, hrs3, fun out bs H101 x101 ho0 ho l10 fb => ?_⟩
    have J101 := J.go nDp x101
    have noD : out ≠ D := fun z => by
      rw [z, J.vals] at ho0
      cases ho0
    refine ⟨out, rfl, ⟨_, sq_of ho⟩, for_list (K := K) (a := out) (xs := bs) (fun i σ H' => ∃ o vs, σ = [some (.ref p), some (.int many), some (.int tall), some (.int wide), some (.ref tm), some (.int near), some (.int far), some (.ref hl), some (.int at_), some (.ref D), o, none, none, none, none] ∧ HJ C CT tm hl D p tabs ts near far H H' vs ∧ vs.length = 16 + i ∧ H' out = some (.lst bs) ∧ ∀ b ∈ bs, Fine 100 3 C (msk [D, p] H') b) ⟨_, vs, rfl, J101, v16, ho, fb⟩ (fun i σ H' _ ⟨_, _, _, _, _, h, _⟩ => sq_of h) ?_ ?_⟩
    · rintro i v σ H200 hv ⟨o, vs, rfl, J, lv, hout, fb⟩
      have hi : i < bs.length := (List.getElem?_eq_some_iff.mp hv).1
      have o200 := J.off
      have fvv := fb v (List.mem_of_getElem? hv)
      have lh := J.lf (by omega) (by omega)
      refine ⟨_, rfl, .inl ⟨rfl, vs, sq_of J.vals⟩, ?_⟩
      refine ⟨_, rfl, _, rfl, _, rfl, hl, _, rfl, sq_of lh.at_, fun a201 h201 => ?_⟩
      have e201 := Ex.new (o := .lst (cutV (ts.map V.ref) none (some (at_ : Int)))) h201
      have o201 := o200.up e201
      have f201 : LF 21 2 [D, p] C (upd H200 a201 (.lst (cutV (ts.map V.ref) none (some (at_ : Int))))) a201 (cutV (ts.map V.ref) none (some (at_ : Int))) := LF.new o200 h201 (lh.cut _ _)
      generalize upd H200 a201 (.lst (cutV (ts.map V.ref) none (some (at_ : Int)))) = H201 at e201 o201 f201 ⊢
      refine ⟨_, rfl, (by show 1 ≤ sizeLine; decide), fun a202 h202 => ?_⟩
      have e202 := Ex.new (o := .lst [v]) h202
      have o202 := o201.up e202
      have f202 : LF 100 3 [D, p] C (upd H201 a202 (.lst [v])) a202 [v] := LF.new o201 h202 (mem1 (fvv.up (msk_up e201)))
      generalize upd H201 a202 (.lst [v]) = H202 at e202 o202 f202 ⊢
      refine ⟨a201, a202, _, _, rfl, rfl, (f201.up e202).at_, f202.at_, (by have z1 := cutV_length (ts.map V.ref) none (some (at_ : Int)); have z2 := cutV_length (ts.map V.ref) (some ((at_ : Int) + 1)) none; simp only [List.length_append, List.length_cons, List.length_nil]; omega), fun a203 h203 => ?_⟩
      have e203 := Ex.new (o := .lst ((cutV (ts.map V.ref) none (some (at_ : Int))) ++ [v])) h203
      have o203 := o202.up e203
      have f203 : LF 100 3 [D, p] C (upd H202 a203 (.lst ((cutV (ts.map V.ref) none (some (at_ : Int))) ++ [v]))) a203 ((cutV (ts.map V.ref) none (some (at_ : Int))) ++ [v]) := LF.new o202 h203 (memA ((f201.up e202).mono (by decide) (by decide)).all (f202.mono (by decide) (by decide)).all)
      generalize upd H202 a203 (.lst ((cutV (ts.map V.ref) none (some (at_ : Int))) ++ [v])) = H203 at e203 o203 f203 ⊢
      refine ⟨_, rfl, _, rfl, _, _, rfl, rfl, _, rfl, hl, _, rfl, sq_of (lh.up (e201.trans (e202.trans e203))).at_, fun a204 h204 => ?_⟩
      have e204 := Ex.new (o := .lst (cutV (ts.map V.ref) (some ((at_ : Int) + 1)) none)) h204
      have o204 := o203.up e204
      have f204 : LF 21 2 [D, p] C (upd H203 a204 (.lst (cutV (ts.map V.ref) (some ((at_ : Int) + 1)) none))) a204 (cutV (ts.map V.ref) (some ((at_ : Int) + 1)) none) := LF.new o203 h204 ((lh.up (e201.trans (e202.trans e203))).cut _ _)
      generalize upd H203 a204 (.lst (cutV (ts.map V.ref) (some ((at_ : Int) + 1)) none)) = H204 at e204 o204 f204 ⊢
      refine ⟨a203, a204, _, _, rfl, rfl, (f203.up e204).at_, f204.at_, (by have z1 := cutV_length (ts.map V.ref) none (some (at_ : Int)); have z2 := cutV_length (ts.map V.ref) (some ((at_ : Int) + 1)) none; simp only [List.length_append, List.length_cons, List.length_nil]; omega), fun a205 h205 => ?_⟩
      have e205 := Ex.new (o := .lst (((cutV (ts.map V.ref) none (some (at_ : Int))) ++ [v]) ++ (cutV (ts.map V.ref) (some ((at_ : Int) + 1)) none))) h205
      have o205 := o204.up e205
      have f205 : LF 100 3 [D, p] C (upd H204 a205 (.lst (((cutV (ts.map V.ref) none (some (at_ : Int))) ++ [v]) ++ (cutV (ts.map V.ref) (some ((at_ : Int) + 1)) none)))) a205 (((cutV (ts.map V.ref) none (some (at_ : Int))) ++ [v]) ++ (cutV (ts.map V.ref) (some ((at_ : Int) + 1)) none)) := LF.new o204 h205 (memA ((f203.up e204).mono (by decide) (by decide)).all (f204.mono (by decide) (by decide)).all)
      generalize upd H204 a205 (.lst (((cutV (ts.map V.ref) none (some (at_ : Int))) ++ [v]) ++ (cutV (ts.map V.ref) (some ((at_ : Int) + 1)) none))) = H205 at e205 o205 f205 ⊢
      have g5 : Fine 420 4 C (msk [D, p] H205) (.ref a205) := f205.fine (by rw [cut_lo (α := Unit) (ts.map V.ref) at_ (by omega), cut_hi]; simp only [List.length_append, List.length_cons, List.length_nil, List.length_take, List.length_drop]; omega)
      have J2 := J.up (e201.trans (e202.trans (e203.trans (e204.trans e205))))
      refine ⟨D, vs, .ref a205, rfl, rfl, J2.vals, (by rw [lv]; omega), some v, vs ++ [.ref a205], rfl, J2.put nDp hDH (memA J2.fine (mem1 g5)), (by rw [List.length_append, lv]; rfl), ?_, fun b hb => ?_⟩
      · rw [upd_ne noD]
        exact (e201.trans (e202.trans (e203.trans (e204.trans e205)))) _ _ hout
      · rw [msk_put (by simp)]
        exact (fb b hb).up (msk_up (e201.trans (e202.trans (e203.trans (e204.trans e205)))))
    · rintro σ H200 ⟨o, vs, rfl, J, lv, _⟩
      rw [l10] at lv
      exact ⟨o, vs, rfl, J, lv⟩
  clear J v16
  rintro σ' H300 ⟨o, vs, rfl, J, v26⟩
  have team : TeamAt C CT H300 tm tabs := J.team.up msk_ex
  have fv : ∀ v ∈ vs, Fine 420 4 C H300 v := fun v hv => (J.fine v hv).up msk_ex
  have hD := J.vals
  have x300 := J.x
  clear J
  refine ⟨fun σ' H' => ExP p H H', ?_, ?_⟩
  · refine ⟨_, rfl, D, rfl, ⟨_, sq_of hD⟩, for_list (K := K) (a := D) (xs := vs) (fun i σ H' => ∃ o1 o2 o3, σ = [some (.ref p), some (.int many), some (.int tall), some (.int wide), some (.ref tm), some (.int near), some (.int far), some (.ref hl), some (.int at_), some (.ref D), o, o1, o2, o3, none] ∧ Ex H300 H') ⟨_, _, _, rfl, Ex.refl _⟩ (fun i σ H' _ ⟨_, _, _, _, e⟩ => sq_of (e _ _ hD)) ?_ ?_⟩
    · rintro i v σ H4 hv ⟨o1, o2, o3, rfl, e4⟩
      obtain ⟨t, tv, tg, tc, td⟩ := ((fv v (List.mem_of_getElem? hv)).up e4).ex
      have tm4 := team.up e4
      obtain ⟨k, hk⟩ : ∃ k : Bool, (k = true ↔ HelpOk many t) := by
        by_cases z : HelpOk many t
        · exact ⟨true, fun _ => z, fun _ => rfl⟩
        · exact ⟨false, fun y => (nomatch y), fun y => absurd y z⟩
      have hk2 : k = true ↔ HelpOk tabs.length t := by rw [lT]; exact hk
      refine ⟨_, rfl, shown_rule tv tg (by omega) (by omega) fun H5 e5 => ?_⟩
      refine ⟨_, rfl, _, rfl, v, t, many, rfl, TrV.up e5 _ _ tv, by omega, m1, fun k' hk' => ?_⟩
      obtain rfl : k' = k := by
        cases k <;> cases k' <;> first | rfl | exact absurd (hk.mpr (hk'.mp rfl)) (by decide) | exact absurd (hk'.mpr (hk.mp rfl)) (by decide)
      refine fun H6 e6 => ?_
      have e46 := e5.trans e6
      refine ⟨_, _, rfl, ?_⟩
      have ro := ro2 k' k'
      refine ⟨_, rfl, _, rfl, tm, tabs, v, t, rfl, tm4.up e46, by omega, TrV.up e46 _ _ tv, by omega, tg, fun k2 hk2' => ?_⟩
      obtain rfl : k2 = k' := by
        cases k' <;> cases k2 <;> first | rfl | exact absurd (hk2.mpr (hk2'.mp rfl)) (by decide) | exact absurd (hk2'.mpr (hk2.mp rfl)) (by decide)
      refine fun H7 e7 => ?_
      have e47 := e46.trans e7
      refine ⟨_, rfl, _, rfl, tm, tabs, v, t, rfl, tm4.up e47, by omega, TrV.up e47 _ _ tv, by omega, tg, fun k3 hk3' => ?_⟩
      obtain rfl : k3 = k2 := by
        cases k2 <;> cases k3 <;> first | rfl | exact absurd (hk2.mpr (hk3'.mp rfl)) (by decide) | exact absurd (hk3'.mpr (hk2.mp rfl)) (by decide)
      refine fun H8 e8 => ⟨(by show 2 ≤ sizeLine; decide), fun l1 hl1 => ?_⟩
      have x1 := Ex.new (o := .lst [.bl k3, .bl k3]) hl1
      refine ⟨l1, .list [.bool k3, .bool k3], rfl, .lst (.inl (.inl upd_same)) (.cons (.bl _) (.cons (.bl _) .nil)), ro.sh, ro.nd, ro.dp, ro.ln, ?_⟩
      refine ⟨_, rfl, _, rfl, (by show 2 ≤ sizeLine; decide), fun l2 hl2 => ?_⟩
      have x2 := Ex.new (o := .lst [.bl k3, .bl k3]) hl2
      refine ⟨l2, .list [.bool k3, .bool k3], rfl, .lst (.inl (.inl upd_same)) (.cons (.bl _) (.cons (.bl _) .nil)), ro.sh, ro.nd, ro.dp, ro.ln, rfl, ?_⟩
      rw [decide_eq_true rfl]
      have e4a := e47.trans (e8.trans (x1.trans x2))
      refine ⟨_, rfl, itf ?_⟩
      refine ⟨_, rfl, shown_rule (TrV.up e4a _ _ tv) tg (by omega) (by omega) fun H9 e9 => ⟨_, rfl, rfl, ?_⟩⟩
      rw [decide_eq_true rfl]
      refine ⟨_, rfl, itf ?_⟩
      have e49 := e4a.trans e9
      refine ⟨_, rfl, _, rfl, ?_⟩
      cases k3 with
      | false => exact itf (itf ⟨_, _, _, rfl, e4.trans e49⟩)
      | true =>
      obtain ⟨l, tall2, wide2, dm, lm, t24, w24⟩ := hk.mp rfl
      have tv9 := TrV.up e49 _ _ tv
      refine itt ?_
      refine ⟨_, rfl, _, rfl, tm, tabs, v, t, l, tall2, wide2, rfl, tm4.up e49, tv9, by omega, tg, dm, by omega, t24, w24, fun r Ha ea ka => ?_⟩
      have shT : ∀ {Hx : Hp} {r : Addr}, Hx r = some (.tup [.int (tall2 : Nat), .int (wide2 : Nat)]) → TrV C Hx (.ref r) (.tup [.int (tall2 : Nat), .int (wide2 : Nat)]) := fun h => .tup h (.cons (.int _) (.cons (.int _) .nil))
      have gT : Tr.Good (.tup [.int (tall2 : Nat), .int (wide2 : Nat)]) := by
        have big : (24 : Nat) < 10 ^ 50 := by decide +kernel
        rw [Tr.Good, GoodAll, GoodAll, GoodAll, Tr.Good, Tr.Good]
        exact ⟨by omega, by omega, trivial⟩
      have cT : Tr.cnt (.tup [.int (tall2 : Nat), .int (wide2 : Nat)]) ≤ 1000 := by rw [Tr.cnt, cntAll, cntAll, cntAll, Tr.cnt, Tr.cnt]; decide
      have dT : Tr.dep (.tup [.int (tall2 : Nat), .int (wide2 : Nat)]) ≤ 6 := by rw [Tr.dep, depAll, depAll, depAll, Tr.dep, Tr.dep]; decide
      refine shown_rule (shT ka) gT cT dT fun Hb eb => ?_
      have e4b := e49.trans (ea.trans eb)
      obtain ⟨a0, xs0, rfl, sq0, tv0⟩ := (TrV.up e4b _ _ tv).seq dm.sq
      have ln0 := tv0.len
      have ne0 := dm.ne
      cases tv0 with
      | nil => exact absurd ne0 (by decide)
      | cons hx0 tq =>
      rename_i v0 xs1 x0 l1'
      obtain ⟨sx, lx, ax⟩ := rows_sq (dm.all x0 List.mem_cons_self)
      obtain ⟨b0, ys0, rfl, sqb, tvb⟩ := hx0.seq sx
      have lnb := tvb.len
      have tt1 := dm.t1
      generalize hyr : x0.rows = yr at tvb lnb ax lx
      cases tvb with
      | nil => rw [← lx] at tt1; exact absurd tt1 (by decide)
      | cons hy0 tq2 =>
      rename_i u0 ys1 y0 r0
      obtain ⟨sy, ly, ay⟩ := nums_sq (ax y0 List.mem_cons_self)
      obtain ⟨c0, zs0, rfl, sqc, tvc⟩ := hy0.seq sy
      have lnc := tvc.len
      refine ⟨_, rfl, a0, _, 0, .ref b0, rfl, rfl, sq0, at00, b0, _, rfl, sqb.sq, ?_⟩
      refine ⟨_, rfl, a0, _, 0, .ref b0, rfl, rfl, sq0, at00, b0, _, 0, .ref c0, rfl, rfl, sqb, at00, c0, zs0, rfl, sqc.sq, ?_⟩
      refine ⟨(by show 2 ≤ sizeLine; decide), fun r9 hr9 => ?_⟩
      have x9 := Ex.new (o := .tup [.int (((V.ref c0 :: ys1).length : Nat) : Int), .int ((zs0.length : Nat) : Int)]) hr9
      have same : (HO.tup [.int (((V.ref c0 :: ys1).length : Nat) : Int), .int ((zs0.length : Nat) : Int)]) = .tup [.int (tall2 : Nat), .int (wide2 : Nat)] := by rw [← lnb, lx, ← lnc, ly]
      refine shown_rule (shT (by rw [← same]; exact upd_same)) gT cT dT fun Hc ec => ⟨rfl, ?_⟩
      rw [decide_eq_true rfl]
      exact ⟨_, rfl, itf ⟨_, _, _, rfl, e4.trans (e4b.trans (x9.trans ec))⟩⟩
    · rintro σ H4 ⟨_, _, _, rfl, e4⟩
      exact x300.trans (ExP.of e4)
  rintro σ' H4 x4
  exact q _ x4
end
end B71

namespace B71
open PySem PySem.Spec PyProof.Rows L2 Evl RZ SrtO

def spLaw (K : PySem.W.Frag) : Sp := fun vs H Q _ => ∃ (a : Addr) (ns : List Int), vs = [.ref a] ∧ SqL K H a (ns.map V.int) ∧ ns.length ≤ 63 ∧ ∀ H', Q (.bl true) H'
section
variable {P : Program} {w : World} {K : PySem.W.Frag} {mg : Str → Option Value} {base : Heap} {f C CT : Addr} {fd : FuncData}
theorem sc__law_right : FnScope ["pot"] ["pot"] (defScope (top 56)) := ⟨rfl, rfl, rfl, by decide +kernel, rfl, by decide +kernel, by decide +kernel⟩
theorem ok_law_right (F : Fun K "_law_right" "_law_right" (top 56) f fd) (T : Tx mg) (C__law_tables_right : Cl P w K mg base "_law_tables_right" 26 ["pot"] spYes) (C__law_helpers_right : Cl P w K mg base "_law_helpers_right" 28 ["pot"] spYes) : FnG P w K mg base 29 f fd ["pot"] spYes := by
  have sc := sc__law_right
  refine okG F sc (fun vs H Q E h => ?_) (fun cdv A outer s H vs Q gd0 hr h => ?_)
  · obtain ⟨_, rfl, _⟩ := h; rfl
  have gd := deeper_guards (env := envOfC "_law_right" (defScope (top 56)) s.heap.objs.size f cdv) gd0
  obtain ⟨p, rfl, hp, q⟩ := h
  refine ⟨_, (pss_one (ps_ret (pe_and (pe_cl C__law_tables_right gd (hr.mono (by first | decide | omega)) (pa_cons (pv 0) pa_nil)) (pe_one (pe_cl C__law_helpers_right gd (hr.mono (by first | decide | omega)) (pa_cons (pv 0) pa_nil)))))), ?_⟩
  exact ⟨_, rfl, p, rfl, hp, fun H1 x1 => ⟨_, rfl, itt ⟨_, rfl, p, rfl, x1.2 hp, fun H2 x2 => q _ (x1.trans x2)⟩⟩⟩
theorem sc_law : FnScope ["script"] ["script"] (defScope (top 57)) := ⟨rfl, rfl, rfl, by decide +kernel, rfl, by decide +kernel, by decide +kernel⟩
theorem ok_law (F : Fun K "law" "law" (top 57) f fd) (T : Tx mg) (C__law_pot : ClO P w K mg base "_law_pot" 1 ["script", "k"] (spPot K)) (C__law_right : Cl P w K mg base "_law_right" 29 ["pot"] spYes) : FnG P w K mg base 30 f fd ["script"] (spLaw K) := by
  have sc := sc_law
  refine okG F sc (fun vs H Q E h => ?_) (fun cdv A outer s H vs Q gd0 hr h => ?_)
  · obtain ⟨a, ns, rfl, _⟩ := h; rfl
  have gd := deeper_guards (env := envOfC "law" (defScope (top 57)) s.heap.objs.size f cdv) gd0
  obtain ⟨a, ns, rfl, hS, h63, q⟩ := h
  refine ⟨_, (pss_one (ps_ret (pe_cl C__law_right gd (hr.mono (by first | decide | omega)) (pa_cons (pe_clo C__law_pot (hr.mono (by first | decide | omega)) (pa_cons (pv 0) (pa_cons pe_int pa_nil))) pa_nil)))), ?_⟩
  exact ⟨_, rfl, a, ns, rfl, hS, fun p H1 h0 e1 hp => ⟨p, rfl, hp, fun H2 x2 => q H2⟩⟩
end
end B71

namespace B71
open PySem PySem.Spec PyProof.Rows L2
/-! ### from a guarded promise of the law's def to the row's walk -/
/-- a heap of which at most the script at a is known, as a frozen list that is none of the written part's -/
def Sole (K : PySem.W.Frag) (a : Addr) (H : Hp) : Prop := ∀ b, H b = none ∨ (b = a ∧ K.lookup a = none ∧ ∃ ob zs, H b = some (.frz ob (.lst zs)))
section
variable {P : Program} {w : World} {K : PySem.W.Frag} {mg mb : Str → Option Value} {k : Nat} {fa a : Addr} {fd : FuncData} {x : Str} {sp : Sp} {st : Shared} {us : List Value}
theorem law_from {H : Hp} (kin : K.In st.heap) (ng : st.heap.Ns mainGlobals mg) (nb : st.heap.Ns builtinsNs mb) (bt : ∀ y : Str, y ≠ "__name__" → mb y = bootBuiltins y) (nl : st.heap.NoLimit) (ge : st.gens = #[])
    (hs : st.heap.get? a = some { cls := .type "list", data := .seq us.toArray }) (room : Room k callerA) (FG : ∀ bs : Heap, K.In bs → bs.Ns mainGlobals mg → FnG P w K mg bs k fa fd [x] sp)
    (bd : ∀ (s : Shared) (u : Value), BindsTo s fd ⟨[u], []⟩ [(x, u)]) (sole : Sole K a H) (ok : HOk P w H st.heap) (ask : sp [.ref a] H (fun r _ => r = .bl true) E0) :
    codeAny (model P w) callerA (.call (.ref fa) ⟨[.ref a], []⟩) (fun r t => r = .ok (.ret (.bool true)) ∧ OldK st.heap t.heap ∧ t.os = st.os ∧ AllBare t.gens) st := by
  -- what is not the script is hidden from nobody
  have away : ∀ {b : Addr}, H b ≠ none → b = a ∧ K.lookup a = none := fun {b} h => (sole b).elim (fun z => absurd z h) fun z => ⟨z.1, z.2.1⟩
  have dicts : ∀ {b : Addr} {m : Str → Option Value}, st.heap.Ns b m → (hidT st.heap H).Ns b m := by
    rintro b m ⟨ob, es, ep, g1, g2, g3⟩
    refine ⟨ob, es, ep, hidT_get g1 ?_, g2, g3⟩
    refine Classical.byContradiction fun h => ?_
    obtain ⟨rfl, _⟩ := away h
    cases hs.symm.trans g1
    cases g2
  have kin' : K.In (hidT st.heap H) := fun b ob g => hidT_get (kin b ob g) (Classical.byContradiction fun h => by
    obtain ⟨rfl, h2⟩ := away h
    cases h2.symm.trans g)
  obtain ⟨mc, c1, c2⟩ := nl
  have env : Env0 P w K mg (hidT st.heap H) callerA [] st H :=
    { frames := rfl, mod := { kin := kin', glob := dicts ng, blt := ⟨mb, dicts nb, bt⟩, nolimit := ⟨mc, dicts c1, c2⟩ }, bs := fun b ob g => of_hidT g, bsz := Nat.le_of_eq (hidT_size _ _), funs := trivial, frf := fun b hb => (List.not_mem_nil hb).elim, hok := ok, bare := .of_eq ge }
  have run := (FG _ kin' (dicts ng)).go callerA [] st H ⟨[.ref a], []⟩ [.ref a] [.ref a] (fun r _ => r = .bl true) rfl room env (bd st (.ref a)) (.cons rfl .nil) ask
  refine codeAny_mono run fun r t h => ?_
  match r, h with
  | .error e, h => exact False.elim h
  | .ok .next, h => exact False.elim h
  | .ok .brk, h => exact False.elim h
  | .ok .cont, h => exact False.elim h
  | .ok (.ret u), h =>
    obtain ⟨v, G, o1, o2, un, ok', rv, hv⟩ := h
    subst hv
    cases (show u = Value.bool true from rv)
    refine ⟨rfl, OldK.of_keep fun b ob g => ?_, o1, o2⟩
    rcases sole b with z | ⟨_, _, o', zs, z⟩
    · exact un.keep b ob g z (List.not_mem_nil) (List.not_mem_nil)
    · have k1 := (ok b _ z).1
      have k2 := (ok' b _ (un.frzs b o' _ z)).1
      rw [g] at k1
      rw [k2, ← k1]
end
theorem walkG {l : PySem.W.OpenLaw} {n k : Nat} {q : Program} {loose : List Str} {XP : (Str → Option Value) → Heap → Prop} {YP : World → Heap → Prop} {d : DefRec} {K : Params → PySem.W.Frag} {sp : PySem.W.Frag → Sp} {x : Str}
    (most : l.most = some n) (small : n ≤ sizeLine) (plain : d.params.defaults = []) (room : Room k callerA) (kin : ∀ (w : World) (h : Heap), YP w h → (K w.params).In h)
    (defs : ∀ (w : World) (mg : Str → Option Value) (fa : Addr) (h : Heap), (K w.params).In h → h.Ns mainGlobals mg → mg d.name = some (.ref fa) →
      ∃ fd : FuncData, (∀ (s : Shared) (u : Value), BindsTo s fd ⟨[u], []⟩ [(x, u)]) ∧ ∀ bs : Heap, (K w.params).In bs → bs.Ns mainGlobals mg → FnG l.prog w (K w.params) mg bs k fa fd [x] (sp (K w.params)))
    (ask : ∀ (F : PySem.W.Frag) (H : Hp) (a : Addr) (ns : List Int), ns.length ≤ n → SqL F H a (ns.map V.int) → sp F [.ref a] H (fun r _ => r = .bl true) E0) : PySem.W.WalkO q loose XP YP l.row.toRowW d [] (fun f vs => PySem.call f vs) := by
  refine Att.attach_call most plain fun w s0 st mg mb fa o pm cd doc a us ns G Y ho hd hcd hmg hobj hni len gens => ?_
  have KX := kin w _ Y
  obtain ⟨fd, bd, FG⟩ := defs w mg fa _ KX G.T.g hmg
  have rv := vals_ints hni
  have lu := hni.length
  have len' : ns.length ≤ sizeLine := Nat.le_trans len small
  cases hk : (K w.params).lookup a with
  | some ob =>
    -- the script stands in the written part
    have g := KX a ob hk
    cases hobj.symm.trans g
    have sq : SqL (K w.params) (fun _ => none) a (ns.map V.int) := .inr ⟨_, us.toArray, _, hk, rfl, rfl, rfl, by rw [List.size_toArray, lu]; exact len', by simpa using rv⟩
    exact law_from (H := fun _ => none) KX G.T.g G.T.b G.T.builtins G.T.nolimit gens hobj room FG bd (fun _ => .inl rfl) (fun b u z => by cases (show (none : Option HO) = some u from z)) (ask _ _ a ns len sq)
  | none =>
    have at_a : ∀ {u : HO}, (fun b => if b = a then some (HO.frz { cls := .type "list", data := .seq us.toArray } (.lst (ns.map V.int))) else none : Hp) a = some u → u = .frz { cls := .type "list", data := .seq us.toArray } (.lst (ns.map V.int)) := fun z => by
      simp only [if_pos] at z
      exact (Option.some.inj z).symm
    refine law_from (H := fun b => if b = a then some (.frz { cls := .type "list", data := .seq us.toArray } (.lst (ns.map V.int))) else none) KX G.T.g G.T.b G.T.builtins G.T.nolimit gens hobj room FG bd (fun b => ?_) (fun b u z => ?_) (ask _ _ a ns len (.inl (.inr ⟨{ cls := .type "list", data := .seq us.toArray }, if_pos rfl⟩)))
    · by_cases e : b = a
      · exact .inr ⟨e, hk, _, _, if_pos e⟩
      · exact .inl (if_neg e)
    · by_cases e : b = a
      · subst e
        cases at_a z
        exact ⟨hobj, by rw [List.length_map]; exact len', us, _, rv, hobj⟩
      · simp only [if_neg e] at z
        cases z
end B71

namespace B71
open PySem PySem.Spec PyProof.Rows L2
theorem kit_to {K : PySem.W.Frag} {C : Addr} {T : String} {cd : ClassData} {b : Bool} (h1 : PySem.W.clsIn K C = some cd) (h2 : PySem.W.typeIn K (.ref C) = some (.type "type")) (h3 : PySem.W.subIn K (.type T) (.ref C) = some b) : PySem.W.kitOne K (.type T) (.ref C) = some b := by
  have e : (Value.type T == Value.ref C) = false := Bool.eq_false_iff.mpr fun q => by cases beq_iff_eq.mp q
  unfold PySem.W.kitOne
  rw [e, if_neg Bool.false_ne_true]
  show (if ((PySem.W.clsIn K C).isSome && PySem.W.typeIn K (.ref C) == some (.type "type")) = true then PySem.W.subIn K (.type T) (.ref C) else none) = some b
  rw [h1, h2, if_pos (by simp), h3]
theorem kit_from {K : PySem.W.Frag} {C : Addr} {T : String} {b : Bool} (h1 : PySem.W.kitMeta T = true) (h3 : PySem.W.subIn K (.ref C) (.type T) = some b) : PySem.W.kitOne K (.ref C) (.type T) = some b := by
  have e : (Value.ref C == Value.type T) = false := Bool.eq_false_iff.mpr fun q => by cases beq_iff_eq.mp q
  unfold PySem.W.kitOne
  rw [e, if_neg Bool.false_ne_true]
  show (if PySem.W.kitMeta T = true then PySem.W.subIn K (.ref C) (.type T) else none) = some b
  rw [if_pos h1, h3]

/-! ### how calls with keywords bind -/
theorem app1 {us ws : List Value} (h : (us ++ ws).length = 1) : (∃ u, us = [u] ∧ ws = []) ∨ ∃ v, us = [] ∧ ws = [v] := by
  rw [List.length_append] at h
  match us, ws, h with
  | [u], [], _ => exact .inl ⟨u, rfl, rfl⟩
  | [], [v], _ => exact .inr ⟨v, rfl, rfl⟩
  | [], [], h => exact absurd h (by decide)
  | _ :: _ :: _, _, h => simp at h; omega
  | [_], _ :: _, h => simp at h
  | [], _ :: _ :: _, h => simp at h
theorem app2 {us ws : List Value} (h : us.length + ws.length = 2) : (∃ u v, us = [u, v] ∧ ws = []) ∨ (∃ u v, us = [u] ∧ ws = [v]) ∨ ∃ u v, us = [] ∧ ws = [u, v] := by
  match us, ws, h with
  | [u, v], [], _ => exact .inl ⟨u, v, rfl, rfl⟩
  | [u], [v], _ => exact .inr (.inl ⟨u, v, rfl, rfl⟩)
  | [], [u, v], _ => exact .inr (.inr ⟨u, v, rfl, rfl⟩)
  | [], [], h => exact absurd h (by decide)
  | [], [_], h => simp at h
  | [_], [], h => simp at h
  | _ :: _ :: _ :: _, _, h => simp at h; omega
  | [_, _], _ :: _, h => simp at h
  | [_], _ :: _ :: _, h => simp at h; omega
  | [], _ :: _ :: _ :: _, h => simp at h
theorem vals_rev : ∀ {vs : List V} {us : List Value}, Vals vs us → Vals vs.reverse us.reverse
  | _, _, .nil => .nil
  | _, _, .cons q t => by
    rw [List.reverse_cons, List.reverse_cons]
    exact (vals_rev t).append (.cons q .nil)
theorem kb_table {K : PySem.W.Frag} {fd : FuncData} {x k : Str} (h : ∀ s : Shared, (∀ u, BindsTo s fd ⟨[u], []⟩ [(x, u)]) ∧ ∀ v, BindsTo s fd ⟨[], [(k, v)]⟩ [(x, v)]) : KBinds K fd [x] [k] (fun us ws => us ++ ws) (fun us ws => us ++ ws) := by
  refine ⟨fun s us ws _ hl => ?_, fun a b => a.append b⟩
  rcases app1 hl with ⟨u, rfl, rfl⟩ | ⟨v, rfl, rfl⟩
  · exact (h s).1 u
  · exact (h s).2 v
theorem kb_help {K : PySem.W.Frag} {fd : FuncData} {x y k k2 : Str} (h : ∀ s : Shared, (∀ u v, BindsTo s fd ⟨[u, v], []⟩ [(x, u), (y, v)]) ∧ (∀ u v, BindsTo s fd ⟨[u], [(k, v)]⟩ [(x, u), (y, v)]) ∧ ∀ u v, BindsTo s fd ⟨[], [(k, u), (k2, v)]⟩ [(x, v), (y, u)]) : KBinds K fd [x, y] [k, k2] (fun us ws => us ++ ws.reverse) (fun us ws => us ++ ws.reverse) := by
  refine ⟨fun s us ws _ hl => ?_, fun a b => a.append (vals_rev b)⟩
  rw [List.length_append, List.length_reverse] at hl
  rcases app2 hl with ⟨u, v, rfl, rfl⟩ | ⟨u, v, rfl, rfl⟩ | ⟨u, v, rfl, rfl⟩
  · exact (h s).1 u v
  · exact (h s).2.1 u v
  · exact (h s).2.2 u v
theorem vals_take1 : ∀ {vs : List V} {us : List Value}, Vals vs us → Vals (vs.take 1) (us.take 1)
  | _, _, .nil => .nil
  | _, _, .cons q t => .cons q .nil
theorem kb_sides {K : PySem.W.Frag} {fd : FuncData} {x y k : Str} (h : ∀ s : Shared, (∀ u v, BindsTo s fd ⟨[u, v], []⟩ [(x, u), (y, v)]) ∧ (∀ u v, BindsTo s fd ⟨[u], [(k, v)]⟩ [(x, u), (y, v)]) ∧ ∀ u v : Value, BindsTo s fd ⟨[u, v], []⟩ [(x, u), (y, v)]) : KBinds K fd [x, y] [k] (fun us ws => us ++ ws.take 1) (fun us ws => us ++ ws.take 1) := by
  refine ⟨fun s us ws _ hl => ?_, fun a b => a.append (vals_take1 b)⟩
  have l1 : (ws.take 1).length ≤ 1 := by rw [List.length_take]; omega
  cases ws with
  | nil =>
    rw [List.take_nil, List.append_nil] at hl
    match us, hl with
    | [u, v], _ => exact (h s).1 u v
  | cons w ws =>
    rw [List.length_append] at hl
    match us, hl with
    | [u], _ => exact (h s).2.1 u w
theorem all_mk {l : PySem.W.OpenLaw} {w : World} {K : PySem.W.Frag} {h : Heap} {mg : Str → Option Value} {fa C CT CR D0 q1 : Addr} (X : K.In h) (G : h.Ns mainGlobals mg) (hfa : mg "law" = some (.ref fa))
    {f10 : Addr} {fod10 fan10 : Option Addr} {fsl10 : Array (Option Value)} {foc10 fkV10 fdc10 fpm10 fcd10 fct10 : Value}
    {f14 : Addr} {fod14 fan14 : Option Addr} {fsl14 : Array (Option Value)} {foc14 fkV14 fdc14 fpm14 fcd14 fct14 : Value}
    {f15 : Addr} {fod15 fan15 : Option Addr} {fsl15 : Array (Option Value)} {foc15 fkV15 fdc15 fpm15 fcd15 fct15 : Value}
    {f11 : Addr} {fod11 fan11 : Option Addr} {fsl11 : Array (Option Value)} {foc11 fkV11 fdc11 fpm11 fcd11 fct11 : Value}
    {f18 : Addr} {fod18 fan18 : Option Addr} {fsl18 : Array (Option Value)} {foc18 fkV18 fdc18 fpm18 fcd18 fct18 : Value}
    {f19 : Addr} {fod19 fan19 : Option Addr} {fsl19 : Array (Option Value)} {foc19 fkV19 fdc19 fpm19 fcd19 fct19 : Value}
    {f20 : Addr} {fod20 fan20 : Option Addr} {fsl20 : Array (Option Value)} {foc20 fkV20 fdc20 fpm20 fcd20 fct20 : Value}
    {f22 : Addr} {fod22 fan22 : Option Addr} {fsl22 : Array (Option Value)} {foc22 fkV22 fdc22 fpm22 fcd22 fct22 : Value}
    {f23 : Addr} {fod23 fan23 : Option Addr} {fsl23 : Array (Option Value)} {foc23 fkV23 fdc23 fpm23 fcd23 fct23 : Value}
    {f29 : Addr} {fod29 fan29 : Option Addr} {fsl29 : Array (Option Value)} {foc29 fkV29 fdc29 fpm29 fcd29 fct29 : Value}
    {f30 : Addr} {fod30 fan30 : Option Addr} {fsl30 : Array (Option Value)} {foc30 fkV30 fdc30 fpm30 fcd30 fct30 : Value}
    {f31 : Addr} {fod31 fan31 : Option Addr} {fsl31 : Array (Option Value)} {foc31 fkV31 fdc31 fpm31 fcd31 fct31 : Value}
    {f32 : Addr} {fod32 fan32 : Option Addr} {fsl32 : Array (Option Value)} {foc32 fkV32 fdc32 fpm32 fcd32 fct32 : Value}
    {f33 : Addr} {fod33 fan33 : Option Addr} {fsl33 : Array (Option Value)} {foc33 fkV33 fdc33 fpm33 fcd33 fct33 : Value}
    {f36 : Addr} {fod36 fan36 : Option Addr} {fsl36 : Array (Option Value)} {foc36 fkV36 fdc36 fpm36 fcd36 fct36 : Value}
    {f37 : Addr} {fod37 fan37 : Option Addr} {fsl37 : Array (Option Value)} {foc37 fkV37 fdc37 fpm37 fcd37 fct37 : Value}
    {f38 : Addr} {fod38 fan38 : Option Addr} {fsl38 : Array (Option Value)} {foc38 fkV38 fdc38 fpm38 fcd38 fct38 : Value}
    {f39 : Addr} {fod39 fan39 : Option Addr} {fsl39 : Array (Option Value)} {foc39 fkV39 fdc39 fpm39 fcd39 fct39 : Value}
    {f40 : Addr} {fod40 fan40 : Option Addr} {fsl40 : Array (Option Value)} {foc40 fkV40 fdc40 fpm40 fcd40 fct40 : Value}
    {f43 : Addr} {fod43 fan43 : Option Addr} {fsl43 : Array (Option Value)} {foc43 fkV43 fdc43 fpm43 fcd43 fct43 : Value}
    {f45 : Addr} {fod45 fan45 : Option Addr} {fsl45 : Array (Option Value)} {foc45 fkV45 fdc45 fpm45 fcd45 fct45 : Value}
    {f46 : Addr} {fod46 fan46 : Option Addr} {fsl46 : Array (Option Value)} {foc46 fkV46 fdc46 fpm46 fcd46 fct46 : Value}
    {f47 : Addr} {fod47 fan47 : Option Addr} {fsl47 : Array (Option Value)} {foc47 fkV47 fdc47 fpm47 fcd47 fct47 : Value}
    {f48 : Addr} {fod48 fan48 : Option Addr} {fsl48 : Array (Option Value)} {foc48 fkV48 fdc48 fpm48 fcd48 fct48 : Value}
    {f49 : Addr} {fod49 fan49 : Option Addr} {fsl49 : Array (Option Value)} {foc49 fkV49 fdc49 fpm49 fcd49 fct49 : Value}
    {f50 : Addr} {fod50 fan50 : Option Addr} {fsl50 : Array (Option Value)} {foc50 fkV50 fdc50 fpm50 fcd50 fct50 : Value}
    {f51 : Addr} {fod51 fan51 : Option Addr} {fsl51 : Array (Option Value)} {foc51 fkV51 fdc51 fpm51 fcd51 fct51 : Value}
    {f52 : Addr} {fod52 fan52 : Option Addr} {fsl52 : Array (Option Value)} {foc52 fkV52 fdc52 fpm52 fcd52 fct52 : Value}
    {f53 : Addr} {fod53 fan53 : Option Addr} {fsl53 : Array (Option Value)} {foc53 fkV53 fdc53 fpm53 fcd53 fct53 : Value}
    {f54 : Addr} {fod54 fan54 : Option Addr} {fsl54 : Array (Option Value)} {foc54 fkV54 fdc54 fpm54 fcd54 fct54 : Value}
    {f55 : Addr} {fod55 fan55 : Option Addr} {fsl55 : Array (Option Value)} {foc55 fkV55 fdc55 fpm55 fcd55 fct55 : Value}
    {f56 : Addr} {fod56 fan56 : Option Addr} {fsl56 : Array (Option Value)} {foc56 fkV56 fdc56 fpm56 fcd56 fct56 : Value}
    {f57 : Addr} {fod57 fan57 : Option Addr} {fsl57 : Array (Option Value)} {foc57 fkV57 fdc57 fpm57 fcd57 fct57 : Value}
    {m0 : Addr} {mod0 man0 : Option Addr} {msl0 : Array (Option Value)} {moc0 mkV0 mdc0 mpm0 mcd0 mct0 : Value}
    {m19 : Addr} {mod19 man19 : Option Addr} {msl19 : Array (Option Value)} {moc19 mkV19 mdc19 mpm19 mcd19 mct19 : Value}
    {t0 : Addr} {tod0 tan0 : Option Addr} {tsl0 : Array (Option Value)} {toc0 tkV0 tdc0 tpm0 tcd0 tct0 : Value}
    {t1 : Addr} {tod1 tan1 : Option Addr} {tsl1 : Array (Option Value)} {toc1 tkV1 tdc1 tpm1 tcd1 tct1 : Value}
    {rs1 : List Value} {cdat cdatR : ClassData} {d0 : Option Addr} {n0 : Nat} {s0 : Array (Option Value)} {tk0 tP tA tB tS tT : Tok}
    (a10 : PySem.W.nsIn K mainGlobals "is_integer" = some (some (.ref f10)))
    (fl10 : K.lookup f10 = some ⟨foc10, fod10, .func (PySem.W.fnOf "is_integer" "is_integer" (defArgs (top 10)) (defBody (top 10)) (defScope (top 10)) .none fkV10 fdc10 fpm10 fan10 fcd10 fct10), fsl10⟩)
    (fc10 : PySem.W.codeIn K fcd10 "is_integer" = true)
    (fk10 : PySem.W.keepIn K (.ref f10) = true)
    (a14 : PySem.W.nsIn K mainGlobals "digits_of" = some (some (.ref f14)))
    (fl14 : K.lookup f14 = some ⟨foc14, fod14, .func (PySem.W.fnOf "digits_of" "digits_of" (defArgs (top 14)) (defBody (top 14)) (defScope (top 14)) .none fkV14 fdc14 fpm14 fan14 fcd14 fct14), fsl14⟩)
    (fc14 : PySem.W.codeIn K fcd14 "digits_of" = true)
    (fk14 : PySem.W.keepIn K (.ref f14) = true)
    (a15 : PySem.W.nsIn K mainGlobals "common_part" = some (some (.ref f15)))
    (fl15 : K.lookup f15 = some ⟨foc15, fod15, .func (PySem.W.fnOf "common_part" "common_part" (defArgs (top 15)) (defBody (top 15)) (defScope (top 15)) .none fkV15 fdc15 fpm15 fan15 fcd15 fct15), fsl15⟩)
    (fc15 : PySem.W.codeIn K fcd15 "common_part" = true)
    (fk15 : PySem.W.keepIn K (.ref f15) = true)
    (a11 : PySem.W.nsIn K mainGlobals "is_list" = some (some (.ref f11)))
    (fl11 : K.lookup f11 = some ⟨foc11, fod11, .func (PySem.W.fnOf "is_list" "is_list" (defArgs (top 11)) (defBody (top 11)) (defScope (top 11)) .none fkV11 fdc11 fpm11 fan11 fcd11 fct11), fsl11⟩)
    (fc11 : PySem.W.codeIn K fcd11 "is_list" = true)
    (fk11 : PySem.W.keepIn K (.ref f11) = true)
    (a18 : PySem.W.nsIn K mainGlobals "is_number" = some (some (.ref f18)))
    (fl18 : K.lookup f18 = some ⟨foc18, fod18, .func (PySem.W.fnOf "is_number" "is_number" (defArgs (top 18)) (defBody (top 18)) (defScope (top 18)) .none fkV18 fdc18 fpm18 fan18 fcd18 fct18), fsl18⟩)
    (fc18 : PySem.W.codeIn K fcd18 "is_number" = true)
    (fk18 : PySem.W.keepIn K (.ref f18) = true)
    (a19 : PySem.W.nsIn K mainGlobals "ratio_of" = some (some (.ref f19)))
    (fl19 : K.lookup f19 = some ⟨foc19, fod19, .func (PySem.W.fnOf "ratio_of" "ratio_of" (defArgs (top 19)) (defBody (top 19)) (defScope (top 19)) .none fkV19 fdc19 fpm19 fan19 fcd19 fct19), fsl19⟩)
    (fc19 : PySem.W.codeIn K fcd19 "ratio_of" = true)
    (fk19 : PySem.W.keepIn K (.ref f19) = true)
    (a20 : PySem.W.nsIn K mainGlobals "wholes" = some (some (.ref f20)))
    (fl20 : K.lookup f20 = some ⟨foc20, fod20, .func (PySem.W.fnOf "wholes" "wholes" (defArgs (top 20)) (defBody (top 20)) (defScope (top 20)) .none fkV20 fdc20 fpm20 fan20 fcd20 fct20), fsl20⟩)
    (fc20 : PySem.W.codeIn K fcd20 "wholes" = true)
    (fk20 : PySem.W.keepIn K (.ref f20) = true)
    (a22 : PySem.W.nsIn K mainGlobals "are_numbers" = some (some (.ref f22)))
    (fl22 : K.lookup f22 = some ⟨foc22, fod22, .func (PySem.W.fnOf "are_numbers" "are_numbers" (defArgs (top 22)) (defBody (top 22)) (defScope (top 22)) .none fkV22 fdc22 fpm22 fan22 fcd22 fct22), fsl22⟩)
    (fc22 : PySem.W.codeIn K fcd22 "are_numbers" = true)
    (fk22 : PySem.W.keepIn K (.ref f22) = true)
    (a23 : PySem.W.nsIn K mainGlobals "ratios_of" = some (some (.ref f23)))
    (fl23 : K.lookup f23 = some ⟨foc23, fod23, .func (PySem.W.fnOf "ratios_of" "ratios_of" (defArgs (top 23)) (defBody (top 23)) (defScope (top 23)) .none fkV23 fdc23 fpm23 fan23 fcd23 fct23), fsl23⟩)
    (fc23 : PySem.W.codeIn K fcd23 "ratios_of" = true)
    (fk23 : PySem.W.keepIn K (.ref f23) = true)
    (a29 : PySem.W.nsIn K mainGlobals "are_rows" = some (some (.ref f29)))
    (fl29 : K.lookup f29 = some ⟨foc29, fod29, .func (PySem.W.fnOf "are_rows" "are_rows" (defArgs (top 29)) (defBody (top 29)) (defScope (top 29)) .none fkV29 fdc29 fpm29 fan29 fcd29 fct29), fsl29⟩)
    (fc29 : PySem.W.codeIn K fcd29 "are_rows" = true)
    (fk29 : PySem.W.keepIn K (.ref f29) = true)
    (a30 : PySem.W.nsIn K mainGlobals "are_tables" = some (some (.ref f30)))
    (fl30 : K.lookup f30 = some ⟨foc30, fod30, .func (PySem.W.fnOf "are_tables" "are_tables" (defArgs (top 30)) (defBody (top 30)) (defScope (top 30)) .none fkV30 fdc30 fpm30 fan30 fcd30 fct30), fsl30⟩)
    (fc30 : PySem.W.codeIn K fcd30 "are_tables" = true)
    (fk30 : PySem.W.keepIn K (.ref f30) = true)
    (a31 : PySem.W.nsIn K mainGlobals "want_tables" = some (some (.ref f31)))
    (fl31 : K.lookup f31 = some ⟨foc31, fod31, .func (PySem.W.fnOf "want_tables" "want_tables" (defArgs (top 31)) (defBody (top 31)) (defScope (top 31)) .none fkV31 fdc31 fpm31 fan31 fcd31 fct31), fsl31⟩)
    (fc31 : PySem.W.codeIn K fcd31 "want_tables" = true)
    (fk31 : PySem.W.keepIn K (.ref f31) = true)
    (a32 : PySem.W.nsIn K mainGlobals "bottom_tops" = some (some (.ref f32)))
    (fl32 : K.lookup f32 = some ⟨foc32, fod32, .func (PySem.W.fnOf "bottom_tops" "bottom_tops" (defArgs (top 32)) (defBody (top 32)) (defScope (top 32)) .none fkV32 fdc32 fpm32 fan32 fcd32 fct32), fsl32⟩)
    (fc32 : PySem.W.codeIn K fcd32 "bottom_tops" = true)
    (fk32 : PySem.W.keepIn K (.ref f32) = true)
    (a33 : PySem.W.nsIn K mainGlobals "want_team" = some (some (.ref f33)))
    (fl33 : K.lookup f33 = some ⟨foc33, fod33, .func (PySem.W.fnOf "want_team" "want_team" (defArgs (top 33)) (defBody (top 33)) (defScope (top 33)) .none fkV33 fdc33 fpm33 fan33 fcd33 fct33), fsl33⟩)
    (fc33 : PySem.W.codeIn K fcd33 "want_team" = true)
    (fk33 : PySem.W.keepIn K (.ref f33) = true)
    (a36 : PySem.W.nsIn K mainGlobals "helpers_in" = some (some (.ref f36)))
    (fl36 : K.lookup f36 = some ⟨foc36, fod36, .func (PySem.W.fnOf "helpers_in" "helpers_in" (defArgs (top 36)) (defBody (top 36)) (defScope (top 36)) .none fkV36 fdc36 fpm36 fan36 fcd36 fct36), fsl36⟩)
    (fc36 : PySem.W.codeIn K fcd36 "helpers_in" = true)
    (fk36 : PySem.W.keepIn K (.ref f36) = true)
    (a37 : PySem.W.nsIn K mainGlobals "want_helpers" = some (some (.ref f37)))
    (fl37 : K.lookup f37 = some ⟨foc37, fod37, .func (PySem.W.fnOf "want_helpers" "want_helpers" (defArgs (top 37)) (defBody (top 37)) (defScope (top 37)) .none fkV37 fdc37 fpm37 fan37 fcd37 fct37), fsl37⟩)
    (fc37 : PySem.W.codeIn K fcd37 "want_helpers" = true)
    (fk37 : PySem.W.keepIn K (.ref f37) = true)
    (a38 : PySem.W.nsIn K mainGlobals "sides_of" = some (some (.ref f38)))
    (fl38 : K.lookup f38 = some ⟨foc38, fod38, .func (PySem.W.fnOf "sides_of" "sides_of" (defArgs (top 38)) (defBody (top 38)) (defScope (top 38)) .none fkV38 fdc38 fpm38 fan38 fcd38 fct38), fsl38⟩)
    (fc38 : PySem.W.codeIn K fcd38 "sides_of" = true)
    (fk38 : PySem.W.keepIn K (.ref f38) = true)
    (a39 : PySem.W.nsIn K mainGlobals "is_helpers" = some (some (.ref f39)))
    (fl39 : K.lookup f39 = some ⟨foc39, fod39, .func (PySem.W.fnOf "is_helpers" "is_helpers" (defArgs (top 39)) (defBody (top 39)) (defScope (top 39)) .none fkV39 fdc39 fpm39 fan39 fcd39 fct39), fsl39⟩)
    (fc39 : PySem.W.codeIn K fcd39 "is_helpers" = true)
    (fk39 : PySem.W.keepIn K (.ref f39) = true)
    (a40 : PySem.W.nsIn K mainGlobals "sides" = some (some (.ref f40)))
    (fl40 : K.lookup f40 = some ⟨foc40, fod40, .func (PySem.W.fnOf "sides" "sides" (defArgs (top 40)) (defBody (top 40)) (defScope (top 40)) .none fkV40 fdc40 fpm40 fan40 fcd40 fct40), fsl40⟩)
    (fc40 : PySem.W.codeIn K fcd40 "sides" = true)
    (fk40 : PySem.W.keepIn K (.ref f40) = true)
    (a43 : PySem.W.nsIn K mainGlobals "is_table" = some (some (.ref f43)))
    (fl43 : K.lookup f43 = some ⟨foc43, fod43, .func (PySem.W.fnOf "is_table" "is_table" (defArgs (top 43)) (defBody (top 43)) (defScope (top 43)) .none fkV43 fdc43 fpm43 fan43 fcd43 fct43), fsl43⟩)
    (fc43 : PySem.W.codeIn K fcd43 "is_table" = true)
    (fk43 : PySem.W.keepIn K (.ref f43) = true)
    (a45 : PySem.W.nsIn K mainGlobals "_law_pot" = some (some (.ref f45)))
    (fl45 : K.lookup f45 = some ⟨foc45, fod45, .func (PySem.W.fnOf "_law_pot" "_law_pot" (defArgs (top 45)) (defBody (top 45)) (defScope (top 45)) .none fkV45 fdc45 fpm45 fan45 fcd45 fct45), fsl45⟩)
    (fc45 : PySem.W.codeIn K fcd45 "_law_pot" = true)
    (fk45 : PySem.W.keepIn K (.ref f45) = true)
    (a46 : PySem.W.nsIn K mainGlobals "_law_draw" = some (some (.ref f46)))
    (fl46 : K.lookup f46 = some ⟨foc46, fod46, .func (PySem.W.fnOf "_law_draw" "_law_draw" (defArgs (top 46)) (defBody (top 46)) (defScope (top 46)) .none fkV46 fdc46 fpm46 fan46 fcd46 fct46), fsl46⟩)
    (fc46 : PySem.W.codeIn K fcd46 "_law_draw" = true)
    (fk46 : PySem.W.keepIn K (.ref f46) = true)
    (a47 : PySem.W.nsIn K mainGlobals "_law_pick" = some (some (.ref f47)))
    (fl47 : K.lookup f47 = some ⟨foc47, fod47, .func (PySem.W.fnOf "_law_pick" "_law_pick" (defArgs (top 47)) (defBody (top 47)) (defScope (top 47)) .none fkV47 fdc47 fpm47 fan47 fcd47 fct47), fsl47⟩)
    (fc47 : PySem.W.codeIn K fcd47 "_law_pick" = true)
    (fk47 : PySem.W.keepIn K (.ref f47) = true)
    (a48 : PySem.W.nsIn K mainGlobals "_law_number" = some (some (.ref f48)))
    (fl48 : K.lookup f48 = some ⟨foc48, fod48, .func (PySem.W.fnOf "_law_number" "_law_number" (defArgs (top 48)) (defBody (top 48)) (defScope (top 48)) .none fkV48 fdc48 fpm48 fan48 fcd48 fct48), fsl48⟩)
    (fc48 : PySem.W.codeIn K fcd48 "_law_number" = true)
    (fk48 : PySem.W.keepIn K (.ref f48) = true)
    (a49 : PySem.W.nsIn K mainGlobals "_law_table" = some (some (.ref f49)))
    (fl49 : K.lookup f49 = some ⟨foc49, fod49, .func (PySem.W.fnOf "_law_table" "_law_table" (defArgs (top 49)) (defBody (top 49)) (defScope (top 49)) .none fkV49 fdc49 fpm49 fan49 fcd49 fct49), fsl49⟩)
    (fc49 : PySem.W.codeIn K fcd49 "_law_table" = true)
    (fk49 : PySem.W.keepIn K (.ref f49) = true)
    (a50 : PySem.W.nsIn K mainGlobals "_law_is_number" = some (some (.ref f50)))
    (fl50 : K.lookup f50 = some ⟨foc50, fod50, .func (PySem.W.fnOf "_law_is_number" "_law_is_number" (defArgs (top 50)) (defBody (top 50)) (defScope (top 50)) .none fkV50 fdc50 fpm50 fan50 fcd50 fct50), fsl50⟩)
    (fc50 : PySem.W.codeIn K fcd50 "_law_is_number" = true)
    (fk50 : PySem.W.keepIn K (.ref f50) = true)
    (a51 : PySem.W.nsIn K mainGlobals "_law_is_table" = some (some (.ref f51)))
    (fl51 : K.lookup f51 = some ⟨foc51, fod51, .func (PySem.W.fnOf "_law_is_table" "_law_is_table" (defArgs (top 51)) (defBody (top 51)) (defScope (top 51)) .none fkV51 fdc51 fpm51 fan51 fcd51 fct51), fsl51⟩)
    (fc51 : PySem.W.codeIn K fcd51 "_law_is_table" = true)
    (fk51 : PySem.W.keepIn K (.ref f51) = true)
    (a52 : PySem.W.nsIn K mainGlobals "_law_are_helpers" = some (some (.ref f52)))
    (fl52 : K.lookup f52 = some ⟨foc52, fod52, .func (PySem.W.fnOf "_law_are_helpers" "_law_are_helpers" (defArgs (top 52)) (defBody (top 52)) (defScope (top 52)) .none fkV52 fdc52 fpm52 fan52 fcd52 fct52), fsl52⟩)
    (fc52 : PySem.W.codeIn K fcd52 "_law_are_helpers" = true)
    (fk52 : PySem.W.keepIn K (.ref f52) = true)
    (a53 : PySem.W.nsIn K mainGlobals "_law_bent" = some (some (.ref f53)))
    (fl53 : K.lookup f53 = some ⟨foc53, fod53, .func (PySem.W.fnOf "_law_bent" "_law_bent" (defArgs (top 53)) (defBody (top 53)) (defScope (top 53)) .none fkV53 fdc53 fpm53 fan53 fcd53 fct53), fsl53⟩)
    (fc53 : PySem.W.codeIn K fcd53 "_law_bent" = true)
    (fk53 : PySem.W.keepIn K (.ref f53) = true)
    (a54 : PySem.W.nsIn K mainGlobals "_law_tables_right" = some (some (.ref f54)))
    (fl54 : K.lookup f54 = some ⟨foc54, fod54, .func (PySem.W.fnOf "_law_tables_right" "_law_tables_right" (defArgs (top 54)) (defBody (top 54)) (defScope (top 54)) .none fkV54 fdc54 fpm54 fan54 fcd54 fct54), fsl54⟩)
    (fc54 : PySem.W.codeIn K fcd54 "_law_tables_right" = true)
    (fk54 : PySem.W.keepIn K (.ref f54) = true)
    (a55 : PySem.W.nsIn K mainGlobals "_law_helpers_right" = some (some (.ref f55)))
    (fl55 : K.lookup f55 = some ⟨foc55, fod55, .func (PySem.W.fnOf "_law_helpers_right" "_law_helpers_right" (defArgs (top 55)) (defBody (top 55)) (defScope (top 55)) .none fkV55 fdc55 fpm55 fan55 fcd55 fct55), fsl55⟩)
    (fc55 : PySem.W.codeIn K fcd55 "_law_helpers_right" = true)
    (fk55 : PySem.W.keepIn K (.ref f55) = true)
    (a56 : PySem.W.nsIn K mainGlobals "_law_right" = some (some (.ref f56)))
    (fl56 : K.lookup f56 = some ⟨foc56, fod56, .func (PySem.W.fnOf "_law_right" "_law_right" (defArgs (top 56)) (defBody (top 56)) (defScope (top 56)) .none fkV56 fdc56 fpm56 fan56 fcd56 fct56), fsl56⟩)
    (fc56 : PySem.W.codeIn K fcd56 "_law_right" = true)
    (fk56 : PySem.W.keepIn K (.ref f56) = true)
    (a57 : PySem.W.nsIn K mainGlobals "law" = some (some (.ref f57)))
    (fl57 : K.lookup f57 = some ⟨foc57, fod57, .func (PySem.W.fnOf "law" "law" (defArgs (top 57)) (defBody (top 57)) (defScope (top 57)) .none fkV57 fdc57 fpm57 fan57 fcd57 fct57), fsl57⟩)
    (fc57 : PySem.W.codeIn K fcd57 "law" = true)
    (fk57 : PySem.W.keepIn K (.ref f57) = true)
    (aC : PySem.W.nsIn K mainGlobals "Ratio" = some (some (.ref C)))
    (aT : PySem.W.nsIn K mainGlobals "Team" = some (some (.ref CT)))
    (aR : PySem.W.nsIn K mainGlobals "Right" = some (some (.ref CR)))
    (e0 : PySem.W.findIn K (.ref C) "__init__" = some (some (.ref m0)))
    (i0 : PySem.W.isFn K (.ref m0) = true)
    (ml0 : K.lookup m0 = some ⟨moc0, mod0, .func (PySem.W.fnOf "__init__" "Ratio.__init__" (defArgs (sm 0)) (defBody (sm 0)) (defScope (sm 0)) (.ref D0) mkV0 mdc0 mpm0 man0 mcd0 mct0), msl0⟩)
    (mc0 : PySem.W.codeIn K mcd0 "Ratio.__init__" = true)
    (mk0 : PySem.W.keepIn K (.ref m0) = true)
    (e19 : PySem.W.findIn K (.ref C) "__repr__" = some (some (.ref m19)))
    (i19 : PySem.W.isFn K (.ref m19) = true)
    (ml19 : K.lookup m19 = some ⟨moc19, mod19, .func (PySem.W.fnOf "__repr__" "Ratio.__repr__" (defArgs (sm 19)) (defBody (sm 19)) (defScope (sm 19)) .none mkV19 mdc19 mpm19 man19 mcd19 mct19), msl19⟩)
    (mc19 : PySem.W.codeIn K mcd19 "Ratio.__repr__" = true)
    (mk19 : PySem.W.keepIn K (.ref m19) = true)
    (l0T : K.lookup D0 = some ⟨.type "tuple", d0, .seq #[.int 1 tk0] n0, s0⟩)
    (te0 : PySem.W.findIn K (.ref CT) "__init__" = some (some (.ref t0)))
    (ti0 : PySem.W.isFn K (.ref t0) = true)
    (tl0 : K.lookup t0 = some ⟨toc0, tod0, .func (PySem.W.fnOf "__init__" "Team.__init__" (defArgs (inClass (top 28) 0)) (defBody (inClass (top 28) 0)) (defScope (inClass (top 28) 0)) .none tkV0 tdc0 tpm0 tan0 tcd0 tct0), tsl0⟩)
    (tc0 : PySem.W.codeIn K tcd0 "Team.__init__" = true)
    (tk0_ : PySem.W.keepIn K (.ref t0) = true)
    (te1 : PySem.W.findIn K (.ref CT) "many" = some (some (.ref q1)))
    (tg1 : PySem.W.specialIn K (.ref q1) "__get__" = some (some (.builtin "property.__get__")))
    (tt1 : PySem.W.takesIn K (.ref q1) = some true)
    (tq1 : PySem.W.recIn K q1 "property" = some (.ref t1 :: rs1))
    (tl1 : K.lookup t1 = some ⟨toc1, tod1, .func (PySem.W.fnOf "many" "Team.many" (defArgs (inClass (top 28) 1)) (defBody (inClass (top 28) 1)) (defScope (inClass (top 28) 1)) .none tkV1 tdc1 tpm1 tan1 tcd1 tct1), tsl1⟩)
    (tc1 : PySem.W.codeIn K tcd1 "Team.many" = true)
    (tk1 : PySem.W.keepIn K (.ref t1) = true)
    (rpg : PySem.W.plainGet K C Str.empty = true)
    (rhd : PySem.W.hasDictIn K C = true)
    (rpo : PySem.W.plainOver K C = true)
    (rsa : PySem.W.findIn K (.ref C) "__setattr__" = some (some (.builtin "object.__setattr__")))
    (rcc1 : PySem.W.findIn K (.ref C) "__class__" = some (some (.builtin "object.__class__")))
    (rcc4 : PySem.W.mroIn K C (.type "object") = some true)
    (rmkC : PySem.W.makesIn K C = true)
    (rkC : PySem.W.keepIn K (.ref C) = true)
    (upg : PySem.W.plainGet K CT Str.empty = true)
    (uhd : PySem.W.hasDictIn K CT = true)
    (upo : PySem.W.plainOver K CT = true)
    (usa : PySem.W.findIn K (.ref CT) "__setattr__" = some (some (.builtin "object.__setattr__")))
    (ucc1 : PySem.W.findIn K (.ref CT) "__class__" = some (some (.builtin "object.__class__")))
    (ucc4 : PySem.W.mroIn K CT (.type "object") = some true)
    (umkC : PySem.W.makesIn K CT = true)
    (ukC : PySem.W.keepIn K (.ref CT) = true)
    (nT : PySem.W.findIn K (.ref C) "own_top" = some none)
    (nB : PySem.W.findIn K (.ref C) "own_bottom" = some none)
    (un1 : PySem.W.findIn K (.ref CT) "own_tables" = some none)
    (un2 : PySem.W.findIn K (.ref CT) "own_bottom" = some none)
    (un3 : PySem.W.findIn K (.ref CT) "own_tops" = some none)
    (cc2 : PySem.W.specialIn K (.builtin "object.__class__") "__get__" = some (some (.builtin "getset_descriptor.__get__")))
    (cc3 : PySem.W.takesIn K (.builtin "object.__class__") = some true)
    (ci : PySem.W.clsIn K C = some cdat)
    (ct : PySem.W.typeIn K (.ref C) = some (.type "type"))
    (ciR : PySem.W.clsIn K CR = some cdatR)
    (ctR : PySem.W.typeIn K (.ref CR) = some (.type "type"))
    (sint : PySem.W.subIn K (.type "int") (.ref C) = some false)
    (sbool : PySem.W.subIn K (.type "bool") (.ref C) = some false)
    (sNoneType : PySem.W.subIn K (.type "NoneType") (.ref C) = some false)
    (sstr : PySem.W.subIn K (.type "str") (.ref C) = some false)
    (slist : PySem.W.subIn K (.type "list") (.ref C) = some false)
    (stuple : PySem.W.subIn K (.type "tuple") (.ref C) = some false)
    (sdict : PySem.W.subIn K (.type "dict") (.ref C) = some false)
    (bint : PySem.W.subIn K (.ref C) (.type "int") = some false)
    (bbool : PySem.W.subIn K (.ref C) (.type "bool") = some false)
    (blist : PySem.W.subIn K (.ref C) (.type "list") = some false)
    (btuple : PySem.W.subIn K (.ref C) (.type "tuple") = some false)
    (xlist : PySem.W.subIn K (.type "list") (.ref CR) = some false)
    (xtuple : PySem.W.subIn K (.type "tuple") (.ref CR) = some false)
    (gP : PySem.W.nsIn K mainGlobals "PART" = some (some (.int (10 ^ 60) tP)))
    (gG : PySem.W.nsIn K mainGlobals "gcd" = some (some (.builtin "math.gcd")))
    (gL : PySem.W.nsIn K mainGlobals "lcm" = some (some (.builtin "math.lcm")))
    (g16 : PySem.W.nsIn K mainGlobals "MOST_TABLES" = some (some (.int 16 tA)))
    (g4 : PySem.W.nsIn K mainGlobals "MOST_SIDE" = some (some (.int 4 tB)))
    (g24 : PySem.W.nsIn K mainGlobals "MOST_SIDES" = some (some (.int 24 tS)))
    (g96 : PySem.W.nsIn K mainGlobals "MOST_TABLE" = some (some (.int 96 tT)))
    (z_len : PySem.W.nsIn K mainGlobals "len" = some none)
    (z_abs : PySem.W.nsIn K mainGlobals "abs" = some none)
    (z_max : PySem.W.nsIn K mainGlobals "max" = some none)
    (z_repr : PySem.W.nsIn K mainGlobals "repr" = some none)
    (z_divmod : PySem.W.nsIn K mainGlobals "divmod" = some none)
    (z_isinstance : PySem.W.nsIn K mainGlobals "isinstance" = some none)
    (z_int : PySem.W.nsIn K mainGlobals "int" = some none)
    (z_bool : PySem.W.nsIn K mainGlobals "bool" = some none)
    (z_list : PySem.W.nsIn K mainGlobals "list" = some none)
    (z_tuple : PySem.W.nsIn K mainGlobals "tuple" = some none)
    (z_str : PySem.W.nsIn K mainGlobals "str" = some none)
    (z_range : PySem.W.nsIn K mainGlobals "range" = some none)
    (z_all : PySem.W.nsIn K mainGlobals "all" = some none)
    (z_sum : PySem.W.nsIn K mainGlobals "sum" = some none)
    : ∃ fd : FuncData, (∀ (s : Shared) (v : Value), BindsTo s fd ⟨[v], []⟩ [("script", v)]) ∧ ∀ base : Heap, K.In base → base.Ns mainGlobals mg → FnG l.prog w K mg base 30 fa fd ["script"] (spLaw K) := by
  have e := hfa.symm.trans (PySem.W.mg_of X G a57)
  cases e
  have T : Tx mg := { b_len := PySem.W.mg_none_of X G z_len, b_abs := PySem.W.mg_none_of X G z_abs, b_max := PySem.W.mg_none_of X G z_max, b_repr := PySem.W.mg_none_of X G z_repr, b_divmod := PySem.W.mg_none_of X G z_divmod, b_isinstance := PySem.W.mg_none_of X G z_isinstance, b_int := PySem.W.mg_none_of X G z_int, b_bool := PySem.W.mg_none_of X G z_bool, b_list := PySem.W.mg_none_of X G z_list, b_tuple := PySem.W.mg_none_of X G z_tuple, b_str := PySem.W.mg_none_of X G z_str, b_range := PySem.W.mg_none_of X G z_range, b_all := PySem.W.mg_none_of X G z_all, b_sum := PySem.W.mg_none_of X G z_sum }
  have R : RCl K mg C := ⟨⟨rpg, rhd, rpo, rsa⟩, PySem.W.mg_of X G aC, nT, nB, rcc1, cc2, cc3, rcc4, kit_to ci ct sint, kit_to ci ct sbool, kit_to ci ct sNoneType, kit_to ci ct sstr, kit_to ci ct slist, kit_to ci ct stuple, kit_from (by decide +kernel) bint, kit_from (by decide +kernel) bbool⟩
  have M : RCm K C := ⟨kit_to ci ct sdict, kit_from (by decide +kernel) blist, kit_from (by decide +kernel) btuple⟩
  have TC : TCl K mg CT := ⟨⟨upg, uhd, upo, usa⟩, PySem.W.mg_of X G aT, un1, un2, un3, ucc1, cc2, cc3, ucc4⟩
  have kRl := kit_to ciR ctR xlist
  have kRt := kit_to ciR ctR xtuple
  have mk : Mk K C m0 := ⟨rmkC, e0, i0, rkC⟩
  have mkT : Mk K CT t0 := ⟨umkC, te0, ti0, ukC⟩
  have F10 := fun_mk (st := top 10) fl10 fc10 fk10
  have b10_ := F10.binds (ps := ["value"]) fun _ _ _ _ _ _ us hl => match us, hl with | [_], _ => rfl
  have F14 := fun_mk (st := top 14) fl14 fc14 fk14
  have b14_ := F14.binds (ps := ["number"]) fun _ _ _ _ _ _ us hl => match us, hl with | [_], _ => rfl
  have F15 := fun_mk (st := top 15) fl15 fc15 fk15
  have b15_ := F15.binds (ps := ["one", "other"]) fun _ _ _ _ _ _ us hl => match us, hl with | [_, _], _ => rfl
  have F11 := fun_mk (st := top 11) fl11 fc11 fk11
  have b11_ := F11.binds (ps := ["value"]) fun _ _ _ _ _ _ us hl => match us, hl with | [_], _ => rfl
  have F18 := fun_mk (st := top 18) fl18 fc18 fk18
  have b18_ := F18.binds (ps := ["value"]) fun _ _ _ _ _ _ us hl => match us, hl with | [_], _ => rfl
  have F19 := fun_mk (st := top 19) fl19 fc19 fk19
  have b19_ := F19.binds (ps := ["number"]) fun _ _ _ _ _ _ us hl => match us, hl with | [_], _ => rfl
  have F20 := fun_mk (st := top 20) fl20 fc20 fk20
  have b20_ := F20.binds (ps := ["ratios"]) fun _ _ _ _ _ _ us hl => match us, hl with | [_], _ => rfl
  have F22 := fun_mk (st := top 22) fl22 fc22 fk22
  have b22_ := F22.binds (ps := ["value", "wide"]) fun _ _ _ _ _ _ us hl => match us, hl with | [_, _], _ => rfl
  have F23 := fun_mk (st := top 23) fl23 fc23 fk23
  have b23_ := F23.binds (ps := ["row"]) fun _ _ _ _ _ _ us hl => match us, hl with | [_], _ => rfl
  have F29 := fun_mk (st := top 29) fl29 fc29 fk29
  have b29_ := F29.binds (ps := ["value", "tall", "wide"]) fun _ _ _ _ _ _ us hl => match us, hl with | [_, _, _], _ => rfl
  have F30 := fun_mk (st := top 30) fl30 fc30 fk30
  have b30_ := F30.binds (ps := ["value"]) fun _ _ _ _ _ _ us hl => match us, hl with | [_], _ => rfl
  have F31 := fun_mk (st := top 31) fl31 fc31 fk31
  have b31_ := F31.binds (ps := ["value"]) fun _ _ _ _ _ _ us hl => match us, hl with | [_], _ => rfl
  have F32 := fun_mk (st := top 32) fl32 fc32 fk32
  have b32_ := F32.binds (ps := ["tables"]) fun _ _ _ _ _ _ us hl => match us, hl with | [_], _ => rfl
  have F33 := fun_mk (st := top 33) fl33 fc33 fk33
  have b33_ := F33.binds (ps := ["value"]) fun _ _ _ _ _ _ us hl => match us, hl with | [_], _ => rfl
  have F36 := fun_mk (st := top 36) fl36 fc36 fk36
  have b36_ := F36.binds (ps := ["team", "value"]) fun _ _ _ _ _ _ us hl => match us, hl with | [_, _], _ => rfl
  have F37 := fun_mk (st := top 37) fl37 fc37 fk37
  have b37_ := F37.binds (ps := ["team", "value"]) fun _ _ _ _ _ _ us hl => match us, hl with | [_, _], _ => rfl
  have F38 := fun_mk (st := top 38) fl38 fc38 fk38
  have b38_ := F38.binds (ps := ["helpers"]) fun _ _ _ _ _ _ us hl => match us, hl with | [_], _ => rfl
  have F39 := fun_mk (st := top 39) fl39 fc39 fk39
  have b39_ := F39.binds (ps := ["team", "value"]) fun _ _ _ _ _ _ us hl => match us, hl with | [_, _], _ => rfl
  have F40 := fun_mk (st := top 40) fl40 fc40 fk40
  have b40_ := F40.binds (ps := ["team", "helpers"]) fun _ _ _ _ _ _ us hl => match us, hl with | [_, _], _ => rfl
  have F43 := fun_mk (st := top 43) fl43 fc43 fk43
  have b43_ := F43.binds (ps := ["value"]) fun _ _ _ _ _ _ us hl => match us, hl with | [_], _ => rfl
  have F45 := fun_mk (st := top 45) fl45 fc45 fk45
  have b45_ := F45.binds (ps := ["script", "k"]) fun _ _ _ _ _ _ us hl => match us, hl with | [_, _], _ => rfl
  have F46 := fun_mk (st := top 46) fl46 fc46 fk46
  have b46_ := F46.binds (ps := ["pot", "many"]) fun _ _ _ _ _ _ us hl => match us, hl with | [_, _], _ => rfl
  have F47 := fun_mk (st := top 47) fl47 fc47 fk47
  have b47_ := F47.binds (ps := ["pot", "some"]) fun _ _ _ _ _ _ us hl => match us, hl with | [_, _], _ => rfl
  have F48 := fun_mk (st := top 48) fl48 fc48 fk48
  have b48_ := F48.binds (ps := ["pot"]) fun _ _ _ _ _ _ us hl => match us, hl with | [_], _ => rfl
  have F49 := fun_mk (st := top 49) fl49 fc49 fk49
  have b49_ := F49.binds (ps := ["pot", "tall", "wide"]) fun _ _ _ _ _ _ us hl => match us, hl with | [_, _, _], _ => rfl
  have F50 := fun_mk (st := top 50) fl50 fc50 fk50
  have b50_ := F50.binds (ps := ["value"]) fun _ _ _ _ _ _ us hl => match us, hl with | [_], _ => rfl
  have F51 := fun_mk (st := top 51) fl51 fc51 fk51
  have b51_ := F51.binds (ps := ["value", "most"]) fun _ _ _ _ _ _ us hl => match us, hl with | [_, _], _ => rfl
  have F52 := fun_mk (st := top 52) fl52 fc52 fk52
  have b52_ := F52.binds (ps := ["value", "many"]) fun _ _ _ _ _ _ us hl => match us, hl with | [_, _], _ => rfl
  have F53 := fun_mk (st := top 53) fl53 fc53 fk53
  have b53_ := F53.binds (ps := ["pot", "table"]) fun _ _ _ _ _ _ us hl => match us, hl with | [_, _], _ => rfl
  have F54 := fun_mk (st := top 54) fl54 fc54 fk54
  have b54_ := F54.binds (ps := ["pot"]) fun _ _ _ _ _ _ us hl => match us, hl with | [_], _ => rfl
  have F55 := fun_mk (st := top 55) fl55 fc55 fk55
  have b55_ := F55.binds (ps := ["pot"]) fun _ _ _ _ _ _ us hl => match us, hl with | [_], _ => rfl
  have F56 := fun_mk (st := top 56) fl56 fc56 fk56
  have b56_ := F56.binds (ps := ["pot"]) fun _ _ _ _ _ _ us hl => match us, hl with | [_], _ => rfl
  have F57 := fun_mk (st := top 57) fl57 fc57 fk57
  have M0 : FunD K "__init__" "Ratio.__init__" (defArgs (sm 0)) (defBody (sm 0)) (defScope (sm 0)) [.int 1] [] m0 _ := ⟨⟨moc0, mod0, .ref D0, mkV0, mdc0, mpm0, man0, mcd0, mct0, msl0, rfl, ml0, mc0, .inr ⟨by simp, D0, _, [.int 1 tk0], n0, rfl, l0T, rfl, .cons ⟨_, rfl⟩ .nil⟩, .inl rfl⟩, mk0⟩
  obtain ⟨ds0, v0, mb0⟩ := M0.binds1 (ps := ["self", "top", "bottom"]) 3 1 (by simp) rfl fun _ _ _ _ _ _ _ us its hl hi => match us, its, hl, hi with | [_, _, _], [_], _, _ => ⟨_, rfl, rfl⟩
  cases v0
  obtain ⟨ds1, v1, b1⟩ := M0.binds1 (ps := ["self", "top", "bottom"]) 2 0 (by simp) rfl fun _ _ _ _ _ _ _ us its hl hi => match us, its, hl, hi with | [_, _], [_], _, _ => ⟨_, rfl, rfl⟩
  have M19 := fun_mk (st := sm 19) ml19 mc19 mk19
  have mb19 := M19.binds (ps := ["self"]) fun _ _ _ _ _ _ us hl => match us, hl with | [_], _ => rfl
  have T0 := fun_mk (st := (inClass (top 28) 0)) tl0 tc0 tk0_
  have tb0 := T0.binds (ps := ["self", "tables"]) fun _ _ _ _ _ _ us hl => match us, hl with | [_, _], _ => rfl
  have T1 := fun_mk (st := (inClass (top 28) 1)) tl1 tc1 tk1
  have tb1 := T1.binds (ps := ["self"]) fun _ _ _ _ _ _ us hl => match us, hl with | [_], _ => rfl
  refine ⟨PySem.W.fnOf "law" "law" (defArgs (top 57)) (defBody (top 57)) (defScope (top 57)) .none fkV57 fdc57 fpm57 fan57 fcd57 fct57, fun s v => .of_eq rfl, fun base _ _ => ?_⟩
  have C_is_integer : ClO l.prog w K mg base "is_integer" 1 ["value"] (spIsI K C) := ⟨⟨_, _, ok_is_integer F10 T, b10_, fk10, PySem.W.mg_of X G a10⟩⟩
  have C_digits_of : ClO l.prog w K mg base "digits_of" 1 ["number"] spDigits := ⟨⟨_, _, ok_digits_of F14 T (PySem.W.mg_of X G gP), b14_, fk14, PySem.W.mg_of X G a14⟩⟩
  have C_common_part : ClO l.prog w K mg base "common_part" 1 ["one", "other"] spCommon := ⟨⟨_, _, ok_common_part F15 (PySem.W.mg_of X G gG), b15_, fk15, PySem.W.mg_of X G a15⟩⟩
  have MI : FnOk l.prog w K mg base CX0 2 m0 _ ["self", "top", "bottom"] (spInit C) := ok_init M0 R T C_is_integer C_common_part
  have MR : MkR l.prog w K mg base C := ⟨⟨m0, _, mk, MI, mb0, ds1, v1, b1⟩, R.mgC⟩
  have RB : TxB l.prog w K mg base C "__repr__" sR := ⟨⟨m19, _, ok_repr M19 R T C_digits_of, mb19, e19, i19⟩⟩
  have C_is_list : ClO l.prog w K mg base "is_list" 1 ["value"] (spIsL C) := ⟨⟨_, _, ok_is_listT F11 R M T, b11_, fk11, PySem.W.mg_of X G a11⟩⟩
  have C_is_number : ClO l.prog w K mg base "is_number" 2 ["value"] (spIsN K C) := ⟨⟨_, _, ok_is_number F18 R T C_is_integer, b18_, fk18, PySem.W.mg_of X G a18⟩⟩
  have C_ratio_of : ClO l.prog w K mg base "ratio_of" 4 ["number"] (spRatioOf C) := ⟨⟨_, _, ok_ratio_of F19 R T MR, b19_, fk19, PySem.W.mg_of X G a19⟩⟩
  have C_wholes : ClO l.prog w K mg base "wholes" 1 ["ratios"] (spWholes C) := ⟨⟨_, _, ok_wholes F20 R T (PySem.W.mg_of X G gL), b20_, fk20, PySem.W.mg_of X G a20⟩⟩
  have C_are_numbers : ClO l.prog w K mg base "are_numbers" 3 ["value", "wide"] (spNums C) := ⟨⟨_, _, ok_are_numbers F22 R M T C_is_list C_is_number, b22_, fk22, PySem.W.mg_of X G a22⟩⟩
  have C_ratios_of : ClO l.prog w K mg base "ratios_of" 5 ["row"] (spRatiosOf C) := ⟨⟨_, _, ok_ratios_of F23 R T C_ratio_of, b23_, fk23, PySem.W.mg_of X G a23⟩⟩
  have C_are_rows : ClO l.prog w K mg base "are_rows" 4 ["value", "tall", "wide"] (spRows C) := ⟨⟨_, _, ok_are_rows F29 R T C_is_list C_are_numbers, b29_, fk29, PySem.W.mg_of X G a29⟩⟩
  have C_are_tables : ClO l.prog w K mg base "are_tables" 5 ["value"] (spAreTabs C) := ⟨⟨_, _, ok_are_tables F30 R T (PySem.W.mg_of X G g16) (PySem.W.mg_of X G g4) C_is_list C_are_rows, b30_, fk30, PySem.W.mg_of X G a30⟩⟩
  have C_want_tables : ClO l.prog w K mg base "want_tables" 6 ["value"] (spWantTabs C) := ⟨⟨_, _, ok_want_tables F31 R T C_are_tables C_ratios_of, b31_, fk31, PySem.W.mg_of X G a31⟩⟩
  have C_bottom_tops : ClO l.prog w K mg base "bottom_tops" 2 ["tables"] (spBotTops C) := ⟨⟨_, _, ok_bottom_tops F32 R T C_wholes, b32_, fk32, PySem.W.mg_of X G a32⟩⟩
  have MT : MkT l.prog w K mg base C CT := ⟨⟨t0, _, mkT, ok_team_init T0 R M TC T (PySem.W.mg_of X G aR) kRl kRt C_want_tables C_bottom_tops, tb0⟩, TC.mgT⟩
  have PB_many : PrS l.prog w K mg base CT "many" 1 (spMany C CT) := ⟨⟨q1, t1, _, ⟨te1, tg1, tt1, rs1, tq1⟩, ok_many T1 TC T, tb1⟩⟩
  have C_want_team : ClO l.prog w K mg base "want_team" 1 ["value"] (spWantTeam C CT) := ⟨⟨_, _, ok_want_team F33 TC T TC.mgT, b33_, fk33, PySem.W.mg_of X G a33⟩⟩
  have C_helpers_in : ClO l.prog w K mg base "helpers_in" 6 ["team", "value"] (spHelpIn C CT) := ⟨⟨_, _, ok_helpers_in F36 R TC T (PySem.W.mg_of X G g24) PB_many C_is_list C_are_rows C_ratios_of, b36_, fk36, PySem.W.mg_of X G a36⟩⟩
  have C_want_helpers : ClO l.prog w K mg base "want_helpers" 7 ["team", "value"] (spWantHelp C CT) := ⟨⟨_, _, ok_want_helpers F37 T C_helpers_in, b37_, fk37, PySem.W.mg_of X G a37⟩⟩
  have C_sides_of : ClO l.prog w K mg base "sides_of" 1 ["helpers"] (spSidesOf C) := ⟨⟨_, _, ok_sides_of F38 T, b38_, fk38, PySem.W.mg_of X G a38⟩⟩
  have C_is_helpers : ClO l.prog w K mg base "is_helpers" 7 ["team", "value"] (spIsHelp C CT) := ⟨⟨_, _, ok_is_helpers F39 T C_helpers_in C_want_team, b39_, fk39, PySem.W.mg_of X G a39⟩⟩
  have CK_is_helpers : ClQ l.prog w K mg base "is_helpers" 7 ["team", "value"] ["value", "team"] (fun us ws => us ++ ws.reverse) (fun us ws => us ++ ws.reverse) (spIsHelp C CT) := ⟨⟨_, _, ok_is_helpers F39 T C_helpers_in C_want_team, kb_help (fun s => ⟨fun _ _ => .of_eq rfl, fun _ _ => .of_eq rfl, fun _ _ => .of_eq rfl⟩), fk39, PySem.W.mg_of X G a39⟩⟩
  have CP_sides : ClQ l.prog w K mg base "sides" 8 ["team", "helpers"] ["helpers"] (fun us ws => us ++ ws.take 1) (fun us ws => us ++ ws.take 1) (spSides C CT) := ⟨⟨_, _, ok_sides F40 T C_sides_of C_want_helpers C_want_team, kb_sides (fun s => ⟨fun _ _ => .of_eq rfl, fun _ _ => .of_eq rfl, fun _ _ => .of_eq rfl⟩), fk40, PySem.W.mg_of X G a40⟩⟩
  have C_is_table : ClO l.prog w K mg base "is_table" 4 ["value"] (spTab C 96) := ⟨⟨_, _, ok_is_table F43 R M T (PySem.W.mg_of X G g96) C_is_list C_are_numbers, b43_, fk43, PySem.W.mg_of X G a43⟩⟩
  have CK_is_table : ClQ l.prog w K mg base "is_table" 4 ["value"] ["value"] (fun us ws => us ++ ws) (fun us ws => us ++ ws) (spTab C 96) := ⟨⟨_, _, ok_is_table F43 R M T (PySem.W.mg_of X G g96) C_is_list C_are_numbers, kb_table (fun s => ⟨fun _ => .of_eq rfl, fun _ => .of_eq rfl⟩), fk43, PySem.W.mg_of X G a43⟩⟩
  have C__law_pot : ClO l.prog w K mg base "_law_pot" 1 ["script", "k"] (spPot K) := ⟨⟨_, _, ok_law_pot F45 T, b45_, fk45, PySem.W.mg_of X G a45⟩⟩
  have C__law_draw : ClO l.prog w K mg base "_law_draw" 1 ["pot", "many"] spDraw := ⟨⟨_, _, ok_law_draw F46 T, b46_, fk46, PySem.W.mg_of X G a46⟩⟩
  have C__law_pick : ClO l.prog w K mg base "_law_pick" 2 ["pot", "some"] spPick := ⟨⟨_, _, ok_law_pick F47 T C__law_draw, b47_, fk47, PySem.W.mg_of X G a47⟩⟩
  have C__law_number : ClO l.prog w K mg base "_law_number" 4 ["pot"] (spNumber C) := ⟨⟨_, _, ok_law_number F48 R T MR C__law_pick, b48_, fk48, PySem.W.mg_of X G a48⟩⟩
  have C__law_table : ClO l.prog w K mg base "_law_table" 5 ["pot", "tall", "wide"] (spTable C) := ⟨⟨_, _, ok_law_table F49 R T C__law_number, b49_, fk49, PySem.W.mg_of X G a49⟩⟩
  have C__law_is_number : ClO l.prog w K mg base "_law_is_number" 1 ["value"] (spLN C) := ⟨⟨_, _, ok_law_is_number F50 R M T, b50_, fk50, PySem.W.mg_of X G a50⟩⟩
  have C__law_is_table : ClO l.prog w K mg base "_law_is_table" 2 ["value", "most"] (spLTab C) := ⟨⟨_, _, ok_law_is_table F51 R M T C__law_is_number, b51_, fk51, PySem.W.mg_of X G a51⟩⟩
  have C__law_are_helpers : ClO l.prog w K mg base "_law_are_helpers" 3 ["value", "many"] (spLHelp C) := ⟨⟨_, _, ok_law_are_helpers F52 R M T C__law_is_table, b52_, fk52, PySem.W.mg_of X G a52⟩⟩
  have C__law_bent : ClO l.prog w K mg base "_law_bent" 4 ["pot", "table"] (spBent C) := ⟨⟨_, _, ok_law_bent F53 R T MR C__law_draw C__law_pick, b53_, fk53, PySem.W.mg_of X G a53⟩⟩
  have C__law_tables_right : Cl l.prog w K mg base "_law_tables_right" 26 ["pot"] spYes := ⟨_, _, ok_law_tables F54 R M T RB C__law_draw C__law_table C__law_bent C__law_is_table C_is_table CK_is_table, b54_, fk54, PySem.W.mg_of X G a54⟩
  have C__law_helpers_right : Cl l.prog w K mg base "_law_helpers_right" 28 ["pot"] spYes := ⟨_, _, ok_law_helpers F55 R M T RB MT C__law_draw C__law_table C__law_bent C__law_are_helpers C_is_helpers CK_is_helpers CP_sides, b55_, fk55, PySem.W.mg_of X G a55⟩
  have C__law_right : Cl l.prog w K mg base "_law_right" 29 ["pot"] spYes := ⟨_, _, ok_law_right F56 T C__law_tables_right C__law_helpers_right, b56_, fk56, PySem.W.mg_of X G a56⟩
  exact ok_law F57 T C__law_pot C__law_right
end B71

open PySem PySem.W PyProof.Rows in
set_option maxRecDepth 100000 in
set_option maxHeartbeats 0 in
theorem PySem.Challenge.cw_shrunkrooms_k22_tables_and_helpers_any_v_holds : PySem.Challenge.rw_shrunkrooms_k22_tables_and_helpers_any_v.Holds := by
  w_on; o_law; k_head; (case hw => w_witness2)
  k_fill
  refine B71.walkG (l := PySem.Challenge.rw_shrunkrooms_k22_tables_and_helpers_any_v) (n := 63) (k := 30) (x := "script") (sp := B71.spLaw) rfl (by decide) rfl ⟨rfl, by decide, by decide⟩ (fun w h Y => PySem.W.kIn_of Y) ?F (fun _ _ a ns hl hS => ⟨a, ns, rfl, hS, hl, fun _ => rfl⟩)
  case F =>
    intro w mg fa h KX G hmg
    refine' B71.all_mk KX G hmg ?a10 ?fl10 ?fc10 ?fk10 ?a14 ?fl14 ?fc14 ?fk14 ?a15 ?fl15 ?fc15 ?fk15 ?a11 ?fl11 ?fc11 ?fk11 ?a18 ?fl18 ?fc18 ?fk18 ?a19 ?fl19 ?fc19 ?fk19 ?a20 ?fl20 ?fc20 ?fk20 ?a22 ?fl22 ?fc22 ?fk22 ?a23 ?fl23 ?fc23 ?fk23 ?a29 ?fl29 ?fc29 ?fk29 ?a30 ?fl30 ?fc30 ?fk30 ?a31 ?fl31 ?fc31 ?fk31 ?a32 ?fl32 ?fc32 ?fk32 ?a33 ?fl33 ?fc33 ?fk33 ?a36 ?fl36 ?fc36 ?fk36 ?a37 ?fl37 ?fc37 ?fk37 ?a38 ?fl38 ?fc38 ?fk38 ?a39 ?fl39 ?fc39 ?fk39 ?a40 ?fl40 ?fc40 ?fk40 ?a43 ?fl43 ?fc43 ?fk43 ?a45 ?fl45 ?fc45 ?fk45 ?a46 ?fl46 ?fc46 ?fk46 ?a47 ?fl47 ?fc47 ?fk47 ?a48 ?fl48 ?fc48 ?fk48 ?a49 ?fl49 ?fc49 ?fk49 ?a50 ?fl50 ?fc50 ?fk50 ?a51 ?fl51 ?fc51 ?fk51 ?a52 ?fl52 ?fc52 ?fk52 ?a53 ?fl53 ?fc53 ?fk53 ?a54 ?fl54 ?fc54 ?fk54 ?a55 ?fl55 ?fc55 ?fk55 ?a56 ?fl56 ?fc56 ?fk56 ?a57 ?fl57 ?fc57 ?fk57 ?aC ?aT ?aR ?e0 ?i0 ?ml0 ?mc0 ?mk0 ?e19 ?i19 ?ml19 ?mc19 ?mk19 ?l0T ?te0 ?ti0 ?tl0 ?tc0 ?tk0_ ?te1 ?tg1 ?tt1 ?tq1 ?tl1 ?tc1 ?tk1 ?rpg ?rhd ?rpo ?rsa ?rcc1 ?rcc4 ?rmkC ?rkC ?upg ?uhd ?upo ?usa ?ucc1 ?ucc4 ?umkC ?ukC ?nT ?nB ?un1 ?un2 ?un3 ?cc2 ?cc3 ?ci ?ct ?ciR ?ctR ?sint ?sbool ?sNoneType ?sstr ?slist ?stuple ?sdict ?bint ?bbool ?blist ?btuple ?xlist ?xtuple ?gP ?gG ?gL ?g16 ?g4 ?g24 ?g96 ?z_len ?z_abs ?z_max ?z_repr ?z_divmod ?z_isinstance ?z_int ?z_bool ?z_list ?z_tuple ?z_str ?z_range ?z_all ?z_sum
    (case a10 => k_is)
    (case fl10 => k_is)
    (case fc10 => k_is)
    (case fk10 => k_is)
    (case a14 => k_is)
    (case fl14 => k_is)
    (case fc14 => k_is)
    (case fk14 => k_is)
    (case a15 => k_is)
    (case fl15 => k_is)
    (case fc15 => k_is)
    (case fk15 => k_is)
    (case a11 => k_is)
    (case fl11 => k_is)
    (case fc11 => k_is)
    (case fk11 => k_is)
    (case a18 => k_is)
    (case fl18 => k_is)
    (case fc18 => k_is)
    (case fk18 => k_is)
    (case a19 => k_is)
    (case fl19 => k_is)
    (case fc19 => k_is)
    (case fk19 => k_is)
    (case a20 => k_is)
    (case fl20 => k_is)
    (case fc20 => k_is)
    (case fk20 => k_is)
    (case a22 => k_is)
    (case fl22 => k_is)
    (case fc22 => k_is)
    (case fk22 => k_is)
    (case a23 => k_is)
    (case fl23 => k_is)
    (case fc23 => k_is)
    (case fk23 => k_is)
    (case a29 => k_is)
    (case fl29 => k_is)
    (case fc29 => k_is)
    (case fk29 => k_is)
    (case a30 => k_is)
    (case fl30 => k_is)
    (case fc30 => k_is)
    (case fk30 => k_is)
    (case a31 => k_is)
    (case fl31 => k_is)
    (case fc31 => k_is)
    (case fk31 => k_is)
    (case a32 => k_is)
    (case fl32 => k_is)
    (case fc32 => k_is)
    (case fk32 => k_is)
    (case a33 => k_is)
    (case fl33 => k_is)
    (case fc33 => k_is)
    (case fk33 => k_is)
    (case a36 => k_is)
    (case fl36 => k_is)
    (case fc36 => k_is)
    (case fk36 => k_is)
    (case a37 => k_is)
    (case fl37 => k_is)
    (case fc37 => k_is)
    (case fk37 => k_is)
    (case a38 => k_is)
    (case fl38 => k_is)
    (case fc38 => k_is)
    (case fk38 => k_is)
    (case a39 => k_is)
    (case fl39 => k_is)
    (case fc39 => k_is)
    (case fk39 => k_is)
    (case a40 => k_is)
    (case fl40 => k_is)
    (case fc40 => k_is)
    (case fk40 => k_is)
    (case a43 => k_is)
    (case fl43 => k_is)
    (case fc43 => k_is)
    (case fk43 => k_is)
    (case a45 => k_is)
    (case fl45 => k_is)
    (case fc45 => k_is)
    (case fk45 => k_is)
    (case a46 => k_is)
    (case fl46 => k_is)
    (case fc46 => k_is)
    (case fk46 => k_is)
    (case a47 => k_is)
    (case fl47 => k_is)
    (case fc47 => k_is)
    (case fk47 => k_is)
    (case a48 => k_is)
    (case fl48 => k_is)
    (case fc48 => k_is)
    (case fk48 => k_is)
    (case a49 => k_is)
    (case fl49 => k_is)
    (case fc49 => k_is)
    (case fk49 => k_is)
    (case a50 => k_is)
    (case fl50 => k_is)
    (case fc50 => k_is)
    (case fk50 => k_is)
    (case a51 => k_is)
    (case fl51 => k_is)
    (case fc51 => k_is)
    (case fk51 => k_is)
    (case a52 => k_is)
    (case fl52 => k_is)
    (case fc52 => k_is)
    (case fk52 => k_is)
    (case a53 => k_is)
    (case fl53 => k_is)
    (case fc53 => k_is)
    (case fk53 => k_is)
    (case a54 => k_is)
    (case fl54 => k_is)
    (case fc54 => k_is)
    (case fk54 => k_is)
    (case a55 => k_is)
    (case fl55 => k_is)
    (case fc55 => k_is)
    (case fk55 => k_is)
    (case a56 => k_is)
    (case fl56 => k_is)
    (case fc56 => k_is)
    (case fk56 => k_is)
    (case a57 => k_is)
    (case fl57 => k_is)
    (case fc57 => k_is)
    (case fk57 => k_is)
    (case aC => k_is)
    (case aT => k_is)
    (case aR => k_is)
    (case e0 => k_is)
    (case i0 => k_is)
    (case ml0 => k_is)
    (case mc0 => k_is)
    (case mk0 => k_is)
    (case e19 => k_is)
    (case i19 => k_is)
    (case ml19 => k_is)
    (case mc19 => k_is)
    (case mk19 => k_is)
    (case l0T => k_is)
    (case te0 => k_is)
    (case ti0 => k_is)
    (case tl0 => k_is)
    (case tc0 => k_is)
    (case tk0_ => k_is)
    (case te1 => k_is)
    (case tg1 => k_is)
    (case tt1 => k_is)
    (case tq1 => k_is)
    (case tl1 => k_is)
    (case tc1 => k_is)
    (case tk1 => k_is)
    (case rpg => k_is)
    (case rhd => k_is)
    (case rpo => k_is)
    (case rsa => k_is)
    (case rcc1 => k_is)
    (case rcc4 => k_is)
    (case rmkC => k_is)
    (case rkC => k_is)
    (case upg => k_is)
    (case uhd => k_is)
    (case upo => k_is)
    (case usa => k_is)
    (case ucc1 => k_is)
    (case ucc4 => k_is)
    (case umkC => k_is)
    (case ukC => k_is)
    (case nT => k_is)
    (case nB => k_is)
    (case un1 => k_is)
    (case un2 => k_is)
    (case un3 => k_is)
    (case cc2 => k_is)
    (case cc3 => k_is)
    (case ci => k_is)
    (case ct => k_is)
    (case ciR => k_is)
    (case ctR => k_is)
    (case sint => k_is)
    (case sbool => k_is)
    (case sNoneType => k_is)
    (case sstr => k_is)
    (case slist => k_is)
    (case stuple => k_is)
    (case sdict => k_is)
    (case bint => k_is)
    (case bbool => k_is)
    (case blist => k_is)
    (case btuple => k_is)
    (case xlist => k_is)
    (case xtuple => k_is)
    (case gP => k_is)
    (case gG => k_is)
    (case gL => k_is)
    (case g16 => k_is)
    (case g4 => k_is)
    (case g24 => k_is)
    (case g96 => k_is)
    (case z_len => k_is)
    (case z_abs => k_is)
    (case z_max => k_is)
    (case z_repr => k_is)
    (case z_divmod => k_is)
    (case z_isinstance => k_is)
    (case z_int => k_is)
    (case z_bool => k_is)
    (case z_list => k_is)
    (case z_tuple => k_is)
    (case z_str => k_is)
    (case z_range => k_is)
    (case z_all => k_is)
    (case z_sum => k_is)

