import PyProof.Rows.All
import HandS.ForMost
import HandS.Defaults
import HandS.IsInst
import HandS.StrMore
import HandS.Wide
import HandS.WideBits
import HandS.HeadHook3
import HandS.HeadEnd
import HandS.Head2
import PyProof.ReprNest
import HandS.TupAny
import HandS.Style
import PyProof.NeKinds
import HandS.Walk
import HandS.TupMul
import HandS.Text
import KE.IntTextLaws
import PyProof.ReprLen
import HandS.MakeKw
import HandS.Zip
import HandS.SortInts
import KE.GoesMore
import HandS.SortKw
import HandS.SlotsOwn
import PyProof.Rows.Range3
import PyProof.CallStr
import OpenK.KOps
import PyProof.FactsAll.dict
import PyProof.MeetsIn
import PyProof.EqAt
import HandS.OwnEq
import HandS.FStr
import HandS.HeadHook1
import HandS.TryOnly
import HandS.More
import HandS.Exc
import HandS.ExcInit
import KE.KTryMore
import HandS.ExcIs
import HandS.ExcField
import KE.KExcIs
import HandS.Lambda
import HandS.Ends
import HandS.HeadHook4
import HandS.HeadWalk
import HandS.EndTab
import PyProof.ExcBaseAll.LookupError
import PyProof.ExcBaseAll.OverflowError
import PyProof.ExcBaseAll.RuntimeError
import PyProof.ExcBaseAll.Exception
import PyProof.ExcBaseAll.ValueError
import KE.KDictDisplayH
import HandS.Conv
import KE.SortKeyHeap
import HandS.Keys
import HandS.Deep
import HandS.ExcValue
import KE.KMinKey
import KE.KRevSl
import KE.DatumOrd
import HandS.SetFor
import HandS.TupSets
import HandS.SetKeys
import KE.SortCalls
import KE.DataCmp
import KE.DataMinKey
import PySem.Challenge.RW_bindbench_k27_whole_a_last_job_begins_wh
set_option Elab.async false
set_option linter.all false
set_option maxRecDepth 100000
set_option maxHeartbeats 4000000
namespace Bz
open PySem PySem.Spec PyProof.Rows L2
structure FnG (P : Program) (w : World) (K : PySem.W.Frag) (mg : Str → Option Value) (base : Heap) (CX : CXT)
    (k : Nat) (f : Addr) (fd : FuncData) (ps : List Str) (sp : Sp) : Prop where
  len : ∀ vs H Q E, sp vs H Q E → vs.length = ps.length
  go : ∀ (A : Around) (outer : List Env) (s : Shared) (H : Hp) (args : Args) (us : List Value) (vs : List V) (Q : VK) (E : XK),
    Room k A → A.guards = some [] → Env0 P w K mg base A outer s H → BindsTo s fd args (ps.zip us) → Vals vs us →
    sp vs H Q E → codeAny (model P w) A (.call (.ref f) args) (CR CX outer P w H s Q E) s
section
variable {P : Program} {w : World} {K : PySem.W.Frag} {mg : Str → Option Value} {base : Heap} {CX : CXT}
variable {k : Nat} {f : Addr} {fd : FuncData} {ps : List Str} {sp : Sp}
theorem FnG.of (F : FnOk P w K mg base CX k f fd ps sp) : FnG P w K mg base CX k f fd ps sp :=
  ⟨F.len, fun A o s H a us vs Q E r _ e b v q => F.run A o s H a us vs Q E r e b v q⟩
theorem FnG.mono {j : Nat} (F : FnG P w K mg base CX j f fd ps sp) (h : j ≤ k) : FnG P w K mg base CX k f fd ps sp :=
  ⟨F.len, fun A o s H a us vs Q E r g e b v q => F.go A o s H a us vs Q E (r.mono h) g e b v q⟩
theorem guards_deeper {A : Around} {env : Env} (h : A.guards = some []) : (A.deeper env).guards = some [] := h
theorem guards_make {A : Around} {a : Args} (h : A.guards = some []) : (A.under (.builtin "type.__call__" a)).guards = some [] := by
  have e : (Code.builtin "type.__call__" a).isGuard = false := by
    show guardIds.contains "type.__call__" = false
    decide +kernel
  simp [Around.under, Code.guards, e, h, pushGuards]
/-- a def by its body -/
theorem fnG_of {N : List Str} {x qual : Str} {params : Arguments} {body : List Stmt} {scope : Scope} {dvs : List V} {kws : List (Str × V)}
    (F : FunD K x qual params body scope dvs kws f fd) (S : FnScope N ps scope) (len : ∀ vs H Q E, sp vs H Q E → vs.length = ps.length)
    (hb : ∀ (cdv : Value) (A : Around) (outer : List Env) (s : Shared) (H : Hp) (vs : List V) (Q : VK) (E : XK),
      Room k (A.deeper (envOfC qual scope s.heap.objs.size f cdv)) → (A.deeper (envOfC qual scope s.heap.objs.size f cdv)).guards = some [] → sp vs H Q E →
      ∃ t, PSs (cxOf CX P w K mg base N qual scope f cdv A outer s H E) body t ∧ t { nx := fun _ H' => Q .non H', rt := Q } (start N vs) H) :
    FnG P w K mg base CX (k + 1) f fd ps sp := by
  obtain ⟨oc, od, dV, kV, doc, pm, an, cdv, ct, osl, rfl, lk, hcd, _, _⟩ := F.ex
  refine ⟨len, fun A outer s H args us vs Q E hr hg e0 bnd rv hq => ?_⟩
  have KX : K.In s.heap := e0.mod.kin.keeps fun b o e => (e0.bs b o e).1
  refine codeAny_call_function hr.depth (KX _ _ lk) rfl S.co S.gen rfl (PySem.W.codeRec_of KX hcd) (bnd _ _ _ _ ?_)
  refine wpAny_newFunctionEnv_cells S.kind ?_ ?_
  · rintro ⟨n, v⟩ hy
    rcases S.par n (List.of_mem_zip hy).1 with q | q
    · exact Or.inl q
    · exact Or.inr ⟨q, PySem.W.cellsFrom_some _ _ _ (Or.inl q)⟩
  · intro env he s1 x
    subst he
    have lim : s.heap.NoLimit := e0.mod.nolimit.keeps fun b o e => (e0.bs b o e).1
    refine ⟨lim.keeps x.toInCall.keep, codeAny_func ?_⟩
    obtain ⟨t, ht, q⟩ := hb cdv A outer s H vs Q E (hr.deeper _) (guards_deeper hg) hq
    have I := inv_start (CX := CX) (E := E) S hr.hd e0 (len _ _ _ _ hq) rv x
    refine wpAny_mono (ht.run [] s1 (start N vs) H _ I q) ?_ (fun _ _ z => z)
    intro fl s' z
    cases fl with
    | ret u =>
      obtain ⟨v, σ', H', J, r, q'⟩ := z
      exact ⟨v, H', J.os, J.bare, J.base, J.hok, r, q'⟩
    | next =>
      obtain ⟨σ', H', J, q'⟩ := z
      exact ⟨V.non, H', J.os, J.bare, J.base, J.hok, rfl, q'⟩
    | brk => exact z.elim fun _ z => z.elim fun _ z => z.2.elim
    | cont => exact z.elim fun _ z => z.elim fun _ z => z.2.elim
end
section
variable {X : Cx} {CX : CXT} {k : Nat} {f C : Addr} {fd : FuncData} {ps : List Str} {sp : Sp} {dvs : List V} {ds : List Value} {E : XK}
theorem run_g {pins : List (Addr × Obj)} {σ : L2.St} {H : Hp} {s : Shared} {Q : VK} {args : Args} {us : List Value} {vs : List V}
    (F : FnG X.prog X.w X.K X.mg X.base CX k f fd ps sp) (hr : Room k X.A) (hg : X.A.guards = some []) (hx : Passes CX X E)
    (I : Inv X pins σ H s) (b : BindsTo s fd args (ps.zip us)) (r : Vals vs us) (h : sp vs H Q E) :
    wpAny (model X.prog X.w) X.A (call (.ref f) args.pos args.kw) (EP X pins σ Q) X.xe s := by
  refine wpAny_call (codeAny_mono (F.go X.A X.stack s H args us vs Q E hr hg I.env0 b r h) ?_)
  intro r s' z
  cases r with
  | error e => exact hx pins σ H s e s' I z
  | ok fl =>
    cases fl with
    | ret u => exact I.after z
    | next => exact False.elim z
    | brk => exact False.elim z
    | cont => exact False.elim z
end
def nth {α : Type} (d : α) : List α → Nat → α
  | [], _ => d
  | a :: _, 0 => a
  | _ :: l, n + 1 => nth d l n
def pick {α : Type} (d : α) : List Nat → List α → List α
  | [], _ => []
  | i :: r, l => nth d l i :: pick d r l
theorem nth_rel : ∀ {l : List V} {u : List Value} (i : Nat), Vals l u → RelV (nth .non l i) (nth .none u i)
  | _, _, _, .nil => rfl
  | _, _, 0, .cons r _ => r
  | _, _, i + 1, .cons _ t => nth_rel i t
theorem pick_rel {l : List V} {u : List Value} (r : Vals l u) : ∀ ix : List Nat, Vals (pick .non ix l) (pick .none ix u)
  | [] => .nil
  | i :: ix => .cons (nth_rel i r) (pick_rel r ix)
section
variable {K : PySem.W.Frag} {x qual : Str} {params : Arguments} {body : List Stmt} {scope : Scope} {dvs : List V} {kws : List (Str × V)} {f : Addr} {fd : FuncData} {ps : List Str}
/-- how a call binds: n places, keywords ks, no defaults -/
theorem kb0 (F : FunD K x qual params body scope [] kws f fd) (n : Nat) (ks : List Str) (ix : List Nat)
    (h : ∀ (kV doc pm : Value) (an : Option Addr) (cdv ct : Value) (us ws : List Value), us.length = n → ws.length = ks.length →
      bindArgs (PySem.W.fnOf x qual params body scope .none kV doc pm an cdv ct) ⟨us, ks.zip ws⟩ = pure (ps.zip (pick .none ix (us ++ ws)))) :
    ∃ g, KBn K fd ps n ks g (fun vs zs => pick .non ix (vs ++ zs)) := by
  obtain ⟨oc, od, dV, kV, doc, pm, an, cdv, ct, osl, rfl, lk, hcd, hD, hK⟩ := F.ex
  rcases hD with ⟨_, rfl⟩ | ⟨e, _⟩
  · exact ⟨fun us ws => pick .none ix (us ++ ws), fun s us ws _ l1 l2 => .of_eq (h kV doc pm an cdv ct us ws l1 l2), fun r1 r2 => pick_rel (r1.append r2) ix⟩
  · exact absurd rfl e
theorem kb1 (F : FunD K x qual params body scope dvs kws f fd) (hd : dvs ≠ []) (n : Nat) (ks : List Str) (ix : List Nat)
    (h : ∀ (T : Addr) (kV doc pm : Value) (an : Option Addr) (cdv ct : Value) (us ws its : List Value), us.length = n → ws.length = ks.length → its.length = dvs.length →
      ∃ k, bindArgs (PySem.W.fnOf x qual params body scope (.ref T) kV doc pm an cdv ct) ⟨us, ks.zip ws⟩ = seqItems? (.ref T) >>= k ∧ k (some its.toArray) = pure (ps.zip (pick .none ix (us ++ (ws ++ its))))) :
    ∃ g, KBn K fd ps n ks g (fun vs zs => pick .non ix (vs ++ (zs ++ dvs))) := by
  obtain ⟨oc, od, dV, kV, doc, pm, an, cdv, ct, osl, rfl, lk, hcd, hD, hK⟩ := F.ex
  rcases hD with ⟨e, _⟩ | ⟨_, T, o, its, m, rfl, lT, oT, rT⟩
  · exact absurd e hd
  · refine ⟨fun us ws => pick .none ix (us ++ (ws ++ its)), fun s us ws X l1 l2 => ?_, fun r1 r2 => pick_rel (r1.append (r2.append rT)) ix⟩
    obtain ⟨k, e1, e2⟩ := h T kV doc pm an cdv ct us ws its l1 l2 rT.length.symm
    refine L2.BindsTo.of_looks fun M => ?_
    rw [e1]
    exact looks_items X lT oT (.of_pure e2)
end
def tCl (n m : Nat) (sp : Sp) (gV : List V → List V → List V) (E : XK) (t tk : TA) : TE :=
  fun σ H Q => t σ H fun vs H1 => tk σ H1 fun zs H2 => vs.length = n ∧ zs.length = m ∧ sp (gV vs zs) H2 Q E
section
variable {X : Cx} {CX : CXT} {k n : Nat} {f C : Addr} {fd : FuncData} {ps ks : List Str} {sp : Sp} {E : XK} {x : Str} {p pos : Pos} {e : Expr} {es : List Expr} {kws : List Keyword} {t tk : TA}
variable {g : List Value → List Value → List Value} {gV : List V → List V → List V}
theorem run_gn {pins : List (Addr × Obj)} {σ : L2.St} {H : Hp} {s : Shared} {Q : VK} {us ws : List Value} {vs zs : List V}
    (F : FnG X.prog X.w X.K X.mg X.base CX k f fd ps sp) (hr : Room k X.A) (hg : X.A.guards = some []) (hb : KBn X.K fd ps n ks g gV) (hx : Passes CX X E)
    (I : Inv X pins σ H s) (r : Vals vs us) (rz : Vals zs ws) (l1 : vs.length = n) (l2 : zs.length = ks.length) (h : sp (gV vs zs) H Q E) :
    wpAny (model X.prog X.w) X.A (call (.ref f) us (ks.zip ws)) (EP X pins σ Q) X.xe s :=
  run_g (args := ⟨us, ks.zip ws⟩) F hr hg hx I (hb.to s us ws I.kIn (r.length.symm.trans l1) (rz.length.symm.trans l2)) (hb.rel r rz) h
/-- f(e, .., k = v, ..) with a place at least -/
theorem pe_cl (F : FnG X.prog X.w X.K X.mg X.base CX k f fd ps sp) (hr : Room k X.A) (hg : X.A.guards = some []) (gl : Gl X x) (hm : X.mg x = some (.ref f))
    (hk : PySem.W.keepIn X.K (.ref f) = true) (hb : KBn X.K fd ps n ks g gV) (hx : Passes CX X E) (ha : PA X (e :: es) t) (hkw : PK X kws tk)
    (h1 : (backToKw pos (keywordEach kws X.env)).all (·.1.isSome) = true := by rfl) (h2 : (backToKw pos (keywordEach kws X.env)).filterMap (·.1) = ks := by rfl)
    (h3 : (x == ("__debug__" : Str)) = false := by decide) (h4 : starEach (e :: es) X.env = (false, eval e X.env) :: starEach es X.env := by rfl)
    (h5 : ((backTo pos (starEach (e :: es) X.env)).any (·.1) || (backToKw pos (keywordEach kws X.env)).any (·.1.isNone)) = false := by rfl) :
    PE X (.Call (.Name x p) (e :: es) kws pos) (tCl n ks.length sp gV E t tk) := ⟨fun pins s σ H Q I h => by
  refine wpAny_Call_Name_kw (ld_glob I gl hm ?_ h3)
  refine PySem.W.callWith_KW (h₀ := X.base) I.ok.mod.kin hk h1 (thn (ha.run pos pins s σ H _ I h) ?_) h5 h4
  rintro us s1 ⟨vs, H1, I1, r, q⟩
  refine thn (hkw.run pos pins s1 σ H1 _ I1 q) ?_
  rintro ws s2 ⟨zs, H2, I2, rz, l1, l2, q2⟩
  refine ⟨I2.kIn, ?_⟩
  rw [h2]
  exact run_gn F hr hg hb hx I2 r rz l1 l2 q2⟩
/-- f(k = v, ..), f() -/
theorem pe_cl0 (F : FnG X.prog X.w X.K X.mg X.base CX k f fd ps sp) (hr : Room k X.A) (hg : X.A.guards = some []) (gl : Gl X x) (hm : X.mg x = some (.ref f))
    (hk : PySem.W.keepIn X.K (.ref f) = true) (hb : KBn X.K fd ps n ks g gV) (hx : Passes CX X E) (hkw : PK X kws tk)
    (h1 : (backToKw pos (keywordEach kws X.env)).all (·.1.isSome) = true := by rfl) (h2 : (backToKw pos (keywordEach kws X.env)).filterMap (·.1) = ks := by rfl)
    (h3 : (x == ("__debug__" : Str)) = false := by decide)
    (h5 : ((backTo pos (starEach [] X.env)).any (·.1) || (backToKw pos (keywordEach kws X.env)).any (·.1.isNone)) = false := by rfl) :
    PE X (.Call (.Name x p) [] kws pos) (tCl n ks.length sp gV E tNil tk) := ⟨fun pins s σ H Q I h => by
  refine wpAny_Call_Name_kw (ld_glob I gl hm ?_ h3)
  refine PySem.W.callWith_KW0 (h₀ := X.base) I.ok.mod.kin hk h1 (thn (hkw.run pos pins s σ H _ I h) ?_) h5
  rintro ws s2 ⟨zs, H2, I2, rz, l1, l2, q2⟩
  refine ⟨I2.kIn, ?_⟩
  rw [h2]
  exact run_gn (us := []) (vs := []) F hr hg hb hx I2 .nil rz l1 l2 q2⟩
end
section
variable {X : Cx}
abbrev rAddI : R2 := rI0 fun i j => .int (i + j)
def rAddS : R2 := fun x y H Q => ∃ i j, x = .str i ∧ y = .str j ∧ i.length + j.length ≤ sizeLine ∧ Q (.str (i ++ j)) H
def rAddA (K : PySem.W.Frag) : R2 := fun x y H Q => rAddI x y H Q ∨ rAddS x y H Q ∨ rCat x y H Q ∨ L2.rCatA K x y H Q
theorem op_addA : OpR X (binaryOp .Add) (rAddA X.K) := OpR.or op_add (OpR.or op_add_str (OpR.or op_cat op_catA))
/-- text * number, the number 0 or more -/
def repS (x : Str) (n : Nat) : Str := ⟨(List.replicate n x.cps.toList).flatten.toArray⟩
theorem repS_fold (a : Array Nat) : ∀ (n : Nat) (acc : Array Nat), (List.replicate n a).foldl (· ++ ·) acc = acc ++ (List.replicate n a.toList).flatten.toArray
  | 0, acc => by simp
  | n + 1, acc => by
    rw [List.replicate_succ, List.foldl_cons, repS_fold a n, List.replicate_succ, List.flatten_cons]
    apply Array.ext'
    simp
def rMulS : R2 := fun x y H Q => ∃ (z : Str) (n : Nat), x = .str z ∧ y = .int n ∧ z.length * n ≤ 16777216 ∧ 1 < n ∧ 0 < z.length ∧ Q (.str (repS z n)) H
theorem op_mulS : OpR X (binaryOp .Mult) rMulS := by
  intro pins s σ H x y v u Q I rx ry h
  obtain ⟨z, n, rfl, rfl, hz, h1, h0, q⟩ := h
  obtain ⟨t, rfl⟩ := rx
  obtain ⟨t', rfl⟩ := ry
  have hn : n ≤ 16777216 := Nat.le_trans (Nat.le_mul_of_pos_left n h0) hz
  have e1 : ((n : Int) == 1 || z.length == 0) = false := by
    have a : ((n : Int) == 1) = false := beq_eq_false_iff_ne.mpr (by omega)
    have b : (z.length == 0) = false := beq_eq_false_iff_ne.mpr (by omega)
    rw [a, b]
    rfl
  have hl : z.length ≤ 16777216 := Nat.le_trans (Nat.le_mul_of_pos_right _ (by omega)) hz
  refine PySem.P.mul_str (by rw [decide_eq_false (by omega), decide_eq_false (by omega)]; rfl) (fun _ _ hc => ?_) (fun _ _ => ?_) ?_
  · have h2 : (2 ^ 63 - 1 : Int) / (n : Int) ≥ (2 ^ 63 - 1) / 16777216 := by
      rw [ge_iff_le, Int.le_ediv_iff_mul_le (by omega)]
      have : ((2 ^ 63 - 1 : Int) / 16777216) * (n : Int) ≤ (2 ^ 63 - 1) / 16777216 * 16777216 := Int.mul_le_mul_of_nonneg_left (by omega) (by decide)
      omega
    have h3 : ((2 ^ 63 - 1 : Int) / 16777216) = 549755813887 := by decide
    omega
  · show decide _ = false
    rw [Int.toNat_natCast]
    refine decide_eq_false ?_
    have e := sizeLine_eq
    omega
  · rw [if_neg (by omega), if_neg (by rw [e1]; exact Bool.false_ne_true), Int.toNat_natCast]
    have e2 : (⟨(List.replicate n z.cps).foldl (· ++ ·) #[]⟩ : Str) = repS z n := by
      unfold repS
      rw [repS_fold]
      simp
    rw [e2]
    refine ⟨?_, ⟨.str (repS z n), H, I.tok _, ⟨_, rfl⟩, q⟩⟩
    show (repS z n).cps.size ≤ sizeLine
    unfold repS
    rw [List.size_toArray, PyProof.Rows.lm_len_rep_flat, sizeLine_eq]
    have : z.cps.toList.length = z.length := by simp [Str.length]
    rw [this, Nat.mul_comm]
    exact hz
def rMulA : R2 := fun x y H Q => rI CMul (fun i j => .int (i * j)) x y H Q ∨ rMulS x y H Q ∨ rRep x y H Q
theorem op_mulA : OpR X (binaryOp .Mult) rMulA := OpR.or op_mul (OpR.or op_mulS op_rep)
/-- what is the very same at two places, or a scalar -/
def plainV : V → Bool
  | .ref _ => true
  | .int _ => true
  | .str _ => true
  | .bl _ => true
  | .non => true
  | _ => false
theorem eqAt_same {A : Around} {s : Shared} {v : V} {u u' : Value} (h : plainV v = true) (r : RelV v u) (r' : RelV v u') : SeqAt.EqAt A s u u' true := by
  cases v with
  | ref a =>
    cases r
    cases r'
    exact SeqAt.EqAt.same _
  | int i =>
    obtain ⟨t, rfl⟩ := r
    obtain ⟨t', rfl⟩ := r'
    have := SeqAt.EqAt.int_int (A := A) (s := s) i t i t'
    rwa [beq_self_eq_true] at this
  | str z =>
    obtain ⟨t, rfl⟩ := r
    obtain ⟨t', rfl⟩ := r'
    have := SeqAt.EqAt.str_str (A := A) (s := s) z t z t'
    rwa [beq_self_eq_true] at this
  | bl b =>
    cases r
    cases r'
    exact SeqAt.EqAt.same _
  | non =>
    cases r
    cases r'
    exact SeqAt.EqAt.same _
  | _ => cases h
theorem nth_arr {d : Value} : ∀ {l : List Value} {j : Nat} (h : j < l.toArray.size), l.toArray[j] = nth d l j
  | [], j, h => absurd h (by simp)
  | a :: l, 0, _ => rfl
  | a :: l, j + 1, h => by
    have h' : j < l.toArray.size := by simpa using h
    have := nth_arr (d := d) h'
    simpa [nth] using this
theorem plain_nth : ∀ {xs : List V} (j : Nat), xs.all plainV = true → plainV (nth .non xs j) = true
  | [], _, _ => rfl
  | x :: xs, 0, h => by
    rw [List.all_cons, Bool.and_eq_true] at h
    exact h.1
  | x :: xs, j + 1, h => by
    rw [List.all_cons, Bool.and_eq_true] at h
    exact plain_nth j h.2
def rEqI (K : PySem.W.Frag) : R2 := fun x y H Q => ∃ a b xs, x = .ref a ∧ y = .ref b ∧ SqT K H a xs ∧ SqT K H b xs ∧ xs.all plainV = true ∧ Q (.bl true) H
def rNeI (K : PySem.W.Frag) : R2 := fun x y H Q => ∃ a b xs, x = .ref a ∧ y = .ref b ∧ SqT K H a xs ∧ SqT K H b xs ∧ xs.all plainV = true ∧ Q (.bl false) H
theorem eqI_items {A : Around} {s : Shared} {xs : List V} {ia ib : List Value} (ra : Vals xs ia) (rb : Vals xs ib) (hp : xs.all plainV = true) : ∀ j (h1 : j < ia.toArray.size) (h2 : j < ib.toArray.size), SeqAt.EqAt A s ia.toArray[j] ib.toArray[j] true := by
  intro j h1 h2
  rw [nth_arr (d := .none) h1, nth_arr (d := .none) h2]
  exact eqAt_same (plain_nth j hp) (nth_rel j ra) (nth_rel j rb)
theorem eqI_all {xs : List V} {ia ib : List Value} (ra : Vals xs ia) (rb : Vals xs ib) : ((List.range (min ia.toArray.size ib.toArray.size)).all (fun _ => true) && ia.toArray.size == ib.toArray.size) = true := by
  rw [Bool.and_eq_true]
  refine ⟨List.all_eq_true.mpr fun _ _ => rfl, ?_⟩
  rw [List.size_toArray, List.size_toArray, ← ra.length, ← rb.length]
  exact beq_self_eq_true _
theorem op_eqI {k : Nat} (hr : Room k X.A) : OpR X (compareOp .Eq) (rEqI X.K) := by
  intro pins s σ H x y v u Q I rx ry h
  obtain ⟨a, b, xs, rfl, rfl, ha, hb, hp, q⟩ := h
  cases rx
  cases ry
  obtain ⟨ia, ra, ta, _⟩ := I.tuple ha
  obtain ⟨ib, rb, tb, _⟩ := I.tuple hb
  have hu := hr.units
  refine SeqAt.eq_tupleAt (e := fun _ => true) ta tb (by omega) (eqI_items ra rb hp) ?_
  rw [eqI_all ra rb]
  exact ⟨.bl true, H, I, rfl, q⟩
theorem op_neI {k : Nat} (hr : Room k X.A) : OpR X (compareOp .NotEq) (rNeI X.K) := by
  intro pins s σ H x y v u Q I rx ry h
  obtain ⟨a, b, xs, rfl, rfl, ha, hb, hp, q⟩ := h
  cases rx
  cases ry
  obtain ⟨ia, ra, ta, _⟩ := I.tuple ha
  obtain ⟨ib, rb, tb, _⟩ := I.tuple hb
  have hu := hr.units
  refine SeqAt.RcNeAt.tuples (e := fun _ => true) ta tb (by omega) (eqI_items ra rb hp) X.prog X.w _ _ ?_
  rw [eqI_all ra rb]
  exact ⟨.bl false, H, I, rfl, q⟩
def rEqA (K : PySem.W.Frag) : R2 := fun x y H Q => rEq x y H Q ∨ rEqD K x y H Q ∨ rEqI K x y H Q
def rNeA (K : PySem.W.Frag) : R2 := fun x y H Q => rNe x y H Q ∨ rNeD K x y H Q ∨ rNeI K x y H Q
theorem op_eqA {k : Nat} (hr : Room k X.A) : OpR X (compareOp .Eq) (rEqA X.K) := OpR.or op_eq (OpR.or (op_eqD hr.units) (op_eqI hr))
theorem op_neA {k : Nat} (hr : Room k X.A) : OpR X (compareOp .NotEq) (rNeA X.K) := OpR.or op_ne (OpR.or (op_neD hr.units) (op_neI hr))
def rInSg : R2 := fun x y H Q => ∃ (c : Nat) (z : Str), x = .str ⟨#[c]⟩ ∧ y = .str z ∧ Q (.bl (decide (c ∈ z.cps.toList))) H
def rNotInSg : R2 := fun x y H Q => ∃ (c : Nat) (z : Str), x = .str ⟨#[c]⟩ ∧ y = .str z ∧ Q (.bl (!decide (c ∈ z.cps.toList))) H
def rInA (K : PySem.W.Frag) : R2 := fun x y H Q => rIn K false x y H Q ∨ rInSg x y H Q
def rNotInA (K : PySem.W.Frag) : R2 := fun x y H Q => rIn K true x y H Q ∨ rNotInSg x y H Q
theorem op_inA : OpR X (compareOp .In) (rInA X.K) := OpR.or op_in_seq op_in_sign
theorem op_notInA : OpR X (compareOp .NotIn) (rNotInA X.K) := OpR.or op_notIn_seq op_notIn_sign
end
end Bz
namespace Bz
open PySem PySem.Spec PyProof.Rows L2
structure Is (B : Hp) (M L : List (Addr × HO)) (H : Hp) : Prop where
  ex : Same B H
  own : ∀ p ∈ L ++ M, H p.1 = some p.2 ∧ B p.1 = none
  nd : ((L ++ M).map (·.1)).Nodup
inductive Put (a : Addr) (o : HO) : List (Addr × HO) → List (Addr × HO) → Prop
  | here {u : HO} {L : List (Addr × HO)} : Put a o ((a, u) :: L) ((a, o) :: L)
  | there {x : Addr × HO} {L L' : List (Addr × HO)} : Put a o L L' → Put a o (x :: L) (x :: L')
inductive Del (a : Addr) (o : HO) : List (Addr × HO) → List (Addr × HO) → Prop
  | here {L : List (Addr × HO)} : Del a o ((a, o) :: L) L
  | there {x : Addr × HO} {L L' : List (Addr × HO)} : Del a o L L' → Del a o (x :: L) (x :: L')
section
variable {a : Addr} {o : HO} {L L' : List (Addr × HO)}
theorem Put.keys : ∀ {L L'}, Put a o L L' → L'.map (·.1) = L.map (·.1)
  | _, _, .here => rfl
  | _, _, .there h => by rw [List.map_cons, List.map_cons, h.keys]
theorem Put.mem : ∀ {L L'}, Put a o L L' → ∀ p ∈ L', p ∈ L ∨ p = (a, o)
  | _, _, .here, p, hp => by
    rcases List.mem_cons.mp hp with e | e
    · exact .inr e
    · exact .inl (List.mem_cons_of_mem _ e)
  | _, _, .there h, p, hp => by
    rcases List.mem_cons.mp hp with e | e
    · exact .inl (by rw [e]; exact List.mem_cons_self)
    · rcases h.mem p e with q | q
      · exact .inl (List.mem_cons_of_mem _ q)
      · exact .inr q
theorem Put.has : ∀ {L L'}, Put a o L L' → a ∈ L.map (·.1)
  | _, _, .here => List.mem_cons_self
  | _, _, .there h => List.mem_cons_of_mem _ h.has
theorem Put.app {M : List (Addr × HO)} : ∀ {L L'}, Put a o L L' → Put a o (L ++ M) (L' ++ M)
  | _, _, .here => .here
  | _, _, .there h => .there h.app
theorem Put.app2 (h : Put a o L L') : ∀ M : List (Addr × HO), Put a o (M ++ L) (M ++ L')
  | [] => h
  | _ :: M => .there (Put.app2 h M)
theorem Del.mem : ∀ {L L'}, Del a o L L' → (a, o) ∈ L
  | _, _, .here => List.mem_cons_self
  | _, _, .there h => List.mem_cons_of_mem _ h.mem
theorem Del.perm : ∀ {L L'}, Del a o L L' → L.Perm ((a, o) :: L')
  | _, _, .here => .refl _
  | _, _, .there h => (List.Perm.cons _ h.perm).trans (.swap _ _ _)
end
section
variable {B B' H H' : Hp} {M M' L L' : List (Addr × HO)} {a p : Addr} {o u : HO} {K : PySem.W.Frag} {xs : List V}
theorem Is.get (I : Is B M L H) (h : (a, o) ∈ L) : H a = some o := (I.own (a, o) (List.mem_append_left _ h)).1
theorem Is.getM (I : Is B M L H) (h : (a, o) ∈ M) : H a = some o := (I.own (a, o) (List.mem_append_right _ h)).1
theorem Is.free (I : Is B M L H) (h : H p = none) : B p = none := I.ex.free h
theorem Is.notin (I : Is B M L H) (h : H p = none) : p ∉ (L ++ M).map (·.1) := fun z => by
  obtain ⟨q, hq, e⟩ := List.mem_map.mp z
  have := (I.own q hq).1
  rw [e, h] at this
  cases this
/-- a new object -/
theorem Is.new (I : Is B M L H) (h : H p = none) : Is B M ((p, o) :: L) (upd H p o) := by
  refine ⟨fun b x e => ?_, fun q hq => ?_, ?_⟩
  · have := I.ex b x e
    rw [upd_ne (ne_of_none this h)]
    exact this
  · rcases List.mem_cons.mp hq with e | e
    · rw [e]
      exact ⟨upd_same, I.free h⟩
    · obtain ⟨h1, h2⟩ := I.own q e
      exact ⟨by rw [upd_ne (ne_of_none h1 h)]; exact h1, h2⟩
  · exact List.nodup_cons.mpr ⟨I.notin h, I.nd⟩
theorem Is.same (I : Is B M L H) (s : Same H H') : Is B M L H' := ⟨I.ex.trans s, fun q hq => ⟨s _ _ (I.own q hq).1, (I.own q hq).2⟩, I.nd⟩
theorem Is.put0 {l l' : List (Addr × HO)} (hl : Put a o l l') (ex : Same B H) (own : ∀ p ∈ l, H p.1 = some p.2 ∧ B p.1 = none) (nd : (l.map (·.1)).Nodup) :
    Same B (upd H a o) ∧ (∀ p ∈ l', (upd H a o) p.1 = some p.2 ∧ B p.1 = none) ∧ (l'.map (·.1)).Nodup := by
  have ha : B a = none := by
    obtain ⟨q, hq, e⟩ := List.mem_map.mp hl.has
    rw [← e]
    exact (own q hq).2
  refine ⟨fun b x e => ?_, fun q hq => ?_, by rw [hl.keys]; exact nd⟩
  · have hb : b ≠ a := fun z => by rw [z, ha] at e; cases e
    rw [upd_ne hb]
    exact ex b x e
  · by_cases hqa : q.1 = a
    · refine ⟨?_, by rw [hqa]; exact ha⟩
      -- the only entry at a is the new one
      have key : ∀ {l l'}, Put a o l l' → (l.map (·.1)).Nodup → ∀ q ∈ l', q.1 = a → q = (a, o) := by
        intro l l' h
        induction h with
        | here =>
          intro n q hq e
          rcases List.mem_cons.mp hq with z | z
          · exact z
          · have n1 := (List.nodup_cons.mp n).1
            exact absurd (show a ∈ _ from by rw [← e]; exact List.mem_map_of_mem z) n1
        | there h ih =>
          intro n q hq e
          obtain ⟨n1, n2⟩ := List.nodup_cons.mp n
          rcases List.mem_cons.mp hq with z | z
          · rw [z] at e
            have n1' : ¬ _ ∈ _ := n1
            exact absurd (by rw [← e] at h; exact h.has) n1'
          · exact ih n2 q z e
      rw [key hl nd q hq hqa]
      exact upd_same
    · rw [upd_ne hqa]
      rcases hl.mem q hq with z | z
      · exact own q z
      · rw [z] at hqa
        exact absurd rfl hqa
theorem Is.put (I : Is B M L H) (h : Put a o L L') : Is B M L' (upd H a o) := by
  obtain ⟨h1, h2, h3⟩ := Is.put0 (h.app (M := M)) I.ex I.own I.nd
  exact ⟨h1, h2, h3⟩
theorem Is.putM (I : Is B M L H) (h : Put a o M M') : Is B M' L (upd H a o) := by
  obtain ⟨h1, h2, h3⟩ := Is.put0 (h.app2 L) I.ex I.own I.nd
  exact ⟨h1, h2, h3⟩
/-- a thing is given away: it will not change any more -/
theorem Is.frz (I : Is B M L H) (d : Del a o L L') : Is (upd B a o) M L' H ∧ Same B (upd B a o) := by
  have pm : (L ++ M).Perm ((a, o) :: (L' ++ M)) := (d.perm.append_right M)
  have ha := I.own (a, o) (List.mem_append_left _ d.mem)
  have nd := (pm.map (·.1)).nodup_iff.mp I.nd
  obtain ⟨n1, n2⟩ := List.nodup_cons.mp nd
  refine ⟨⟨fun b x e => ?_, fun q hq => ?_, n2⟩, fun b x e => ?_⟩
  · by_cases hb : b = a
    · rw [hb, upd_same] at e
      rw [hb, ← e]
      exact ha.1
    · rw [upd_ne hb] at e
      exact I.ex b x e
  · have h2 := I.own q (pm.mem_iff.mpr (List.mem_cons_of_mem _ hq))
    refine ⟨h2.1, ?_⟩
    have hb : q.1 ≠ a := fun z => n1 (by rw [← z]; exact List.mem_map.mpr ⟨q, hq, rfl⟩)
    rw [upd_ne hb]
    exact h2.2
  · have hb : b ≠ a := fun z => by
      have := ha.2
      rw [z, this] at e
      cases e
    rw [upd_ne hb]
    exact e
theorem Is.forget (I : Is B M L H) (h : L'.Sublist L) : Is B M L' H :=
  ⟨I.ex, fun q hq => I.own q ((h.append (.refl M)).subset hq), I.nd.sublist ((h.append (.refl M)).map _)⟩
theorem Is.perm (I : Is B M L H) (h : L'.Perm L) : Is B M L' H :=
  ⟨I.ex, fun q hq => I.own q ((h.append_right M).mem_iff.mp hq), ((h.append_right M).map _).nodup_iff.mpr I.nd⟩
theorem Same.sqT (e : Same H H') (h : SqT K H a xs) : SqT K H' a xs := by
  rcases h with (h | ⟨o, h⟩) | h
  · exact .inl (.inl (e _ _ h))
  · exact .inl (.inr ⟨o, e _ _ h⟩)
  · exact .inr h
theorem Is.sq (I : Is B M L H) (h : SqL K B a xs) : SqL K H a xs := Same.seq I.ex h
theorem Is.st (I : Is B M L H) (h : SqT K B a xs) : SqT K H a xs := Same.sqT I.ex h
theorem Is.stL (I : Is B M L H) (h : (a, HO.tup xs) ∈ L) : SqT K H a xs := .of (I.get h)
theorem Is.b (I : Is B M L H) (h : B a = some o) : H a = some o := I.ex _ _ h
mutual
theorem Dp.same (e : Same H H') : ∀ {v : V} {d : PyData}, Dp K H v d → Dp K H' v d
  | _, _, .non => .non
  | _, _, .bl b => .bl b
  | _, _, .int i => .int i
  | _, _, .str x => .str x
  | _, _, .lst h1 h2 => .lst (Same.seq e h1) (DpAll.same e h2)
  | _, _, .tup h1 h2 => .tup (Same.sqT e h1) (DpAll.same e h2)
theorem DpAll.same (e : Same H H') : ∀ {v : List V} {d : List PyData}, DpAll K H v d → DpAll K H' v d
  | _, _, .nil => .nil
  | _, _, .cons h1 h2 => .cons (Dp.same e h1) (DpAll.same e h2)
end
end
end Bz
namespace Bz
open PySem PySem.Spec PyProof.Rows L2
abbrev St := L2.St
inductive At : St → Nat → V → Prop
  | z {v : V} {l : St} : At (some v :: l) 0 v
  | s {x : Option V} {l : St} {n : Nat} {v : V} : At l n v → At (x :: l) (n + 1) v
inductive SetAt : St → Nat → Option V → St → Prop
  | z {x v : Option V} {l : St} : SetAt (x :: l) 0 v (v :: l)
  | s {x v : Option V} {l l' : St} {n : Nat} : SetAt l n v l' → SetAt (x :: l) (n + 1) v (x :: l')
inductive Wiped : St → List Nat → St → Prop
  | nil {σ : St} : Wiped σ [] σ
  | cons {σ σ1 σ2 : St} {v : Nat} {vs : List Nat} : Wiped σ vs σ1 → SetAt σ1 v none σ2 → Wiped σ (v :: vs) σ2
theorem At.eq : ∀ {σ : St} {n : Nat} {v : V}, At σ n v → σ[n]? = some (some v)
  | _, _, _, .z => rfl
  | _, _, _, .s h => by
    rw [List.getElem?_cons_succ]
    exact h.eq
theorem SetAt.eq : ∀ {σ σ' : St} {n : Nat} {v : Option V}, SetAt σ n v σ' → σ.set n v = σ'
  | _, _, _, _, .z => rfl
  | _, _, _, _, .s h => by rw [List.set_cons_succ, h.eq]
theorem Wiped.eq : ∀ {σ σ' : St} {vs : List Nat}, Wiped σ vs σ' → wipe σ vs = σ'
  | _, _, _, .nil => rfl
  | _, _, _, .cons h s => by
    unfold wipe
    rw [h.eq, s.eq]
section
variable {σ σ' : St} {H : Hp} {Q : VK} {v x y : V} {i : Nat} {ta tb tc te : TE} {D : Ends} {t u : TS} {c c' : TT} {K : PySem.W.Frag} {R : It → Hp → Prop}
variable {nx bk ct : St → Hp → Prop} {rt : VK} {QB : Bool → Hp → Prop} {QL : List V → Hp → Prop} {QS : St → Hp → Prop} {tl tr : TA} {r r' : R2}
theorem g_seq (h : t ⟨fun σ H => u ⟨nx, rt, bk, ct⟩ σ H, rt, bk, ct⟩ σ H) : tSeq t u ⟨nx, rt, bk, ct⟩ σ H := h
theorem g_next (h : nx σ H) : tNext ⟨nx, rt, bk, ct⟩ σ H := h
theorem g_drop (h : te σ H fun _ H1 => nx σ H1) : tDrop te ⟨nx, rt, bk, ct⟩ σ H := h
theorem g_ret (h : te σ H rt) : tRet te ⟨nx, rt, bk, ct⟩ σ H := h
theorem g_retN (h : rt .non H) : tRetN ⟨nx, rt, bk, ct⟩ σ H := h
theorem g_ifS (h : c σ H fun b H1 => if b = true then t ⟨nx, rt, bk, ct⟩ σ H1 else u ⟨nx, rt, bk, ct⟩ σ H1) : tIfS c t u ⟨nx, rt, bk, ct⟩ σ H := h
theorem g_asg {g : TG} (h : te σ H fun x H1 => g x σ H1 nx) : tAsg te g ⟨nx, rt, bk, ct⟩ σ H := h
theorem g_name (s : SetAt σ i (some v) σ') (q : QS σ' H) : gName i v σ H QS := by
  show QS (σ.set i (some v)) H
  rw [s.eq]
  exact q
theorem g_par {j : Nat} (h : tl σ H fun vs H1 => ∃ v w, vs = [v, w] ∧ nx ((σ.set i (some v)).set j (some w)) H1) : tPar i j tl ⟨nx, rt, bk, ct⟩ σ H := h
theorem g_par2 {j : Nat} {w : V} {σ2 : St} (s : SetAt σ i (some v) σ') (s2 : SetAt σ' j (some w) σ2) (q : nx σ2 H) :
    ∃ v' w', [v, w] = [v', w'] ∧ nx ((σ.set i (some v')).set j (some w')) H := by
  refine ⟨v, w, rfl, ?_⟩
  rw [s.eq, s2.eq]
  exact q
theorem g_var (h : At σ i v) (q : Q v H) : tVar i σ H Q := ⟨v, h.eq, q⟩
theorem g_c (q : Q v H) : tC v σ H Q := q
theorem g_op (h : ta σ H fun x H1 => tb σ H1 fun y H2 => r x y H2 Q) : tOp r ta tb σ H Q := h
theorem g_un {r : V → Hp → VK → Prop} (h : ta σ H fun x H1 => r x H1 Q) : tUn r ta σ H Q := h
theorem g_nil (q : QL [] H) : tNil σ H QL := q
theorem g_cons (h : te σ H fun x H1 => tr σ H1 fun xs H2 => QL (x :: xs) H2) : tCons te tr σ H QL := h
theorem g_cb {r : List V → Hp → VK → Prop} (h : tl σ H fun vs H1 => r vs H1 Q) : tCB r tl σ H Q := h
def aBl (x : V) (H : Hp) (Q : Bool → Hp → Prop) : Prop := ∃ k, x = .bl k ∧ Q k H
theorem g_test (h : te σ H fun x H1 => aBl x H1 QB) : tTest te σ H QB := h
theorem g_tB (h : te σ H fun x H1 => aBl x H1 QB) : tB te σ H QB := h
theorem g_bl {b : Bool} (q : QB b H) : aBl (.bl b) H QB := ⟨b, rfl, q⟩
theorem g_and (h : c σ H fun b H1 => if b = true then c' σ H1 QB else QB false H1) : tAnd c c' σ H QB := h
theorem g_or (h : c σ H fun b H1 => if b = true then QB true H1 else c' σ H1 QB) : tOr c c' σ H QB := h
theorem g_not (h : c σ H fun b H1 => QB (!b) H1) : tNot c σ H QB := h
def aIfV (x : V) (H : Hp) (A B : Hp → Prop) : Prop := ∃ c, x = .bl c ∧ if c = true then A H else B H
theorem g_andV (h : ta σ H fun x H1 => aIfV x H1 (fun H1 => tb σ H1 Q) fun H1 => Q (.bl false) H1) : tAndV ta tb σ H Q := h
theorem g_orV (h : ta σ H fun x H1 => aIfV x H1 (fun H1 => Q (.bl true) H1) fun H1 => tb σ H1 Q) : tOrV ta tb σ H Q := h
theorem g_ifV {A B : Hp → Prop} {b : Bool} (h : if b = true then A H else B H) : aIfV (.bl b) H A B := ⟨b, rfl, h⟩
def aNot (x : V) (H : Hp) (Q : VK) : Prop := ∃ c, x = .bl c ∧ Q (.bl (!c)) H
theorem g_notV (h : ta σ H fun x H1 => aNot x H1 Q) : tNotV ta σ H Q := h
theorem g_aNot {b : Bool} (q : Q (.bl (!b)) H) : aNot (.bl b) H Q := ⟨b, rfl, q⟩
theorem g_ifE (h : c σ H fun b H1 => if b = true then ta σ H1 Q else tb σ H1 Q) : tIf c ta tb σ H Q := h
theorem g_chain (h : ta σ H fun x H1 => tb σ H1 fun y H2 => r x y H2 fun z H3 => aIfV z H3 (fun H3 => tc σ H3 fun w H4 => r' y w H4 Q) fun H3 => Q (.bl false) H3) : tChain r r' ta tb tc σ H Q := h
def tTr (K : PySem.W.Frag) (ta : TE) : TT := fun σ H Q => ta σ H fun x H' => ∃ k, TruV K x H' k ∧ Q k H'
def aTru (K : PySem.W.Frag) (x : V) (H : Hp) (Q : Bool → Hp → Prop) : Prop := ∃ k, TruV K x H k ∧ Q k H
theorem pt_tr {X : Cx} {a : Expr} {ta : TE} (ha : PE X a ta) (he : ∀ whole, isTrue a X.env whole = (do let v ← whole; standAt a.pos; holding [v] (truthy v)) := by intro _; rfl) : PT X a (tTr X.K ta) := pt_truth ha he
theorem g_tr (h : ta σ H fun x H' => aTru K x H' QB) : tTr K ta σ H QB := h
theorem g_tru_bl {b : Bool} (q : QB b H) : aTru K (.bl b) H QB := ⟨b, rfl, q⟩
theorem g_tru_non (q : QB false H) : aTru K .non H QB := ⟨false, rfl, q⟩
theorem g_rI0 {g : Int → Int → V} {a b : Int} (q : Q (g a b) H) : rI0 g (.int a) (.int b) H Q := ⟨a, b, rfl, rfl, q⟩
theorem g_rI {C : Int → Int → Prop} {g : Int → Int → V} {a b : Int} (h : C a b) (q : Q (g a b) H) : rI C g (.int a) (.int b) H Q := ⟨a, b, rfl, rfl, h, q⟩
theorem g_rU {g : Int → V} {a : Int} (q : Q (g a) H) : rU g (.int a) H Q := ⟨a, rfl, q⟩
theorem g_add_i {a b : Int} (q : Q (.int (a + b)) H) : rAddA K (.int a) (.int b) H Q := .inl ⟨a, b, rfl, rfl, q⟩
theorem g_add_s {a b : Str} (h : a.length + b.length ≤ 1000000) (q : Q (.str (a ++ b)) H) : rAddA K (.str a) (.str b) H Q :=
  .inr (.inl ⟨a, b, rfl, rfl, Nat.le_trans h (by decide), q⟩)
theorem g_mul_i {a b : Int} (h : CMul a b) (q : Q (.int (a * b)) H) : rMulA (.int a) (.int b) H Q := .inl ⟨a, b, rfl, rfl, h, q⟩
theorem g_eq_s (h : scal x y = true) (q : Q (.bl (decide (x = y))) H) : rEqA K x y H Q := .inl ⟨h, q⟩
theorem g_ne_s (h : scal x y = true) (q : Q (.bl (!decide (x = y))) H) : rNeA K x y H Q := .inl ⟨h, q⟩
theorem g_eq_d {d e : PyData} (h1 : Dp K H x d) (h2 : Dp K H y e) (s1 : SeqAt.shaped d = true) (s2 : SeqAt.shaped e = true) (q : Q (.bl (PyData.eqv d e)) H) : rEqA K x y H Q := .inr (.inl ⟨d, e, h1, h2, s1, s2, q⟩)
theorem g_ne_d {d e : PyData} (h1 : Dp K H x d) (h2 : Dp K H y e) (s1 : SeqAt.shaped d = true) (s2 : SeqAt.shaped e = true) (q : Q (.bl (!PyData.eqv d e)) H) : rNeA K x y H Q := .inr (.inl ⟨d, e, h1, h2, s1, s2, q⟩)
theorem g_ne_i {a b : Addr} {xs : List V} (h1 : SqT K H a xs) (h2 : SqT K H b xs) (p : xs.all plainV = true) (q : Q (.bl false) H) : rNeA K (.ref a) (.ref b) H Q := .inr (.inr ⟨a, b, xs, rfl, rfl, h1, h2, p, q⟩)
theorem g_in_t {p : Addr} {xs : List V} (h : SqT K H p xs) (f : flatV x = true) (fs : xs.all flatV = true) (q : Q (.bl (inV x xs)) H) : rInA K x (.ref p) H Q := .inl ⟨p, xs, rfl, .inr h, f, fs, q⟩
theorem g_nin_l {p : Addr} {xs : List V} (h : SqL K H p xs) (f : flatV x = true) (fs : xs.all flatV = true) (q : Q (.bl (!inV x xs)) H) : rNotInA K x (.ref p) H Q := .inl ⟨p, xs, rfl, .inl h, f, fs, q⟩
theorem g_in_c {n : Nat} {z : Str} (q : Q (.bl (decide (n ∈ z.cps.toList))) H) : rInA K (.str ⟨#[n]⟩) (.str z) H Q := .inr ⟨n, z, rfl, rfl, q⟩
theorem g_nin_c {n : Nat} {z : Str} (q : Q (.bl (!decide (n ∈ z.cps.toList))) H) : rNotInA K (.str ⟨#[n]⟩) (.str z) H Q := .inr ⟨n, z, rfl, rfl, q⟩
def rIsNo : R2 := fun x y H Q => y = .non ∧ Q (.bl (decide (x = .non))) H
def rNoNo : R2 := fun x y H Q => y = .non ∧ Q (.bl (!decide (x = .non))) H
theorem op_isNo {X : Cx} : OpR X (compareOp .Is) rIsNo := op_isN
theorem op_noNo {X : Cx} : OpR X (compareOp .IsNot) rNoNo := op_notN
theorem g_isNo (q : Q (.bl (decide (x = .non))) H) : rIsNo x .non H Q := ⟨rfl, q⟩
theorem g_noNo (q : Q (.bl (!decide (x = .non))) H) : rNoNo x .non H Q := ⟨rfl, q⟩
def rLen (K : PySem.W.Frag) : List V → Hp → VK → Prop := fun xs H Q => ∃ x n, xs = [x] ∧ LenV K x H n ∧ Q (.int n) H
theorem cl_len {X : Cx} : CallR X (.builtin "len") (rLen X.K) := call_len
theorem g_len_s {z : Str} (h : z.length ≤ 1000000) (q : Q (.int (z.length : Int)) H) : rLen K [.str z] H Q := ⟨_, z.length, rfl, ⟨Nat.le_trans h (by decide), rfl⟩, q⟩
theorem g_len_l {p : Addr} {xs : List V} (h : SqL K H p xs) (q : Q (.int (xs.length : Int)) H) : rLen K [.ref p] H Q := ⟨_, xs.length, rfl, .inl ⟨xs, h, rfl⟩, q⟩
theorem g_len_t {p : Addr} {xs : List V} (h : SqT K H p xs) (q : Q (.int (xs.length : Int)) H) : rLen K [.ref p] H Q := ⟨_, xs.length, rfl, .inr ⟨xs, h, rfl⟩, q⟩
theorem g_ix_l {p : Addr} {xs : List V} {n : Int} (h : SqL K H p xs) (e : atI xs n = some v) (q : Q v H) : rIx K (.ref p) (.int n) H Q := .inl ⟨p, xs, n, v, rfl, rfl, h, e, q⟩
theorem g_ix_t {p : Addr} {xs : List V} {n : Int} (h : SqT K H p xs) (e : atI xs n = some v) (q : Q v H) : rIx K (.ref p) (.int n) H Q := .inr (.inl ⟨p, xs, n, v, rfl, rfl, h, e, q⟩)
theorem g_ix_s {z : Str} {n : Int} {k : Nat} (h : z.length ≤ 1000000) (e : atI z.cps.toList n = some k) (q : Q (.str ⟨#[k]⟩) H) : rIx K (.str z) (.int n) H Q := .inr (.inr ⟨z, n, k, rfl, rfl, Nat.le_trans h (by decide), e, q⟩)
theorem atI_of {α : Type} {xs : List α} {n : Int} {a : α} (h0 : 0 ≤ n) (h : xs[n.toNat]? = some a) : atI xs n = some a := by
  have hl := (List.getElem?_eq_some_iff.mp h).1
  unfold atI ixN
  rw [if_pos h0, if_pos (by omega)]
  exact h
theorem ixN_of {m : Nat} {n : Int} (h0 : 0 ≤ n) (h : n < m) : ixN m n = some n.toNat := by
  unfold ixN
  rw [if_pos h0, if_pos h]
def rSlA (K : PySem.W.Frag) : V → Option Int → Option Int → Hp → VK → Prop := fun x lo hi H Q => rSlL K x lo hi H Q ∨ rSlS x lo hi H Q ∨ L2.rSlA K x lo hi H Q
theorem sl_any {X : Cx} : SlR X (rSlA X.K) := SlR.or sl_list (SlR.or sl_str sl_tupA)
theorem g_sl {tl th : TO} {r : V → Option Int → Option Int → Hp → VK → Prop} (h : te σ H fun x H1 => tl σ H1 fun l H2 => th σ H2 fun u H3 => r x l u H3 Q) : tSl r te tl th σ H Q := h
theorem g_noPart {QO : Option Int → Hp → Prop} (q : QO none H) : tNoPart σ H QO := q
def aPart (x : V) (H : Hp) (Q : Option Int → Hp → Prop) : Prop := ∃ i, x = .int i ∧ Q (some i) H
theorem g_part {QO : Option Int → Hp → Prop} (h : te σ H fun x H1 => aPart x H1 QO) : tPart te σ H QO := h
theorem g_aPart {QO : Option Int → Hp → Prop} {n : Int} (q : QO (some n) H) : aPart (.int n) H QO := ⟨n, rfl, q⟩
theorem g_sl_s {z : Str} {lo hi : Option Int} (h : z.length ≤ 1000000) (q : Q (.str (cutS z lo hi)) H) : rSlA K (.str z) lo hi H Q := .inr (.inl ⟨z, rfl, Nat.le_trans h (by decide), q⟩)
theorem g_bm {T : String} {r : V → List V → Hp → VK → Prop} (h : te σ H fun x H1 => tyV K T x H1 ∧ tl σ H1 fun xs H2 => r x xs H2 Q) : tBM K T r te tl σ H Q := h
theorem g_bm0 {T : String} {r : V → List V → Hp → VK → Prop} (h : te σ H fun x H1 => tyV K T x H1 ∧ r x [] H1 Q) : tBM0 K T r te σ H Q := h
theorem g_m1 {r : V → List V → Hp → VK → Prop} (h : te σ H fun x H1 => (∃ a, x = .str a) ∧ tb σ H1 fun y H2 => r x [y] H2 Q) : tM1 r te tb σ H Q := h
theorem g_isStr {z : Str} {A : Prop} (h : A) : (∃ a, V.str z = .str a) ∧ A := ⟨⟨z, rfl⟩, h⟩
def aCl (n m : Nat) (sp : Sp) (gV : List V → List V → List V) (E : XK) (vs zs : List V) (H : Hp) (Q : VK) : Prop := vs.length = n ∧ zs.length = m ∧ sp (gV vs zs) H Q E
theorem g_cl {n m : Nat} {sp : Sp} {gV : List V → List V → List V} {E : XK} (h : tl σ H fun vs H1 => tr σ H1 fun zs H2 => aCl n m sp gV E vs zs H2 Q) : tCl n m sp gV E tl tr σ H Q := h
theorem g_aCl {n m : Nat} {sp : Sp} {gV : List V → List V → List V} {E : XK} {vs zs : List V} (h1 : vs.length = n) (h2 : zs.length = m) (q : sp (gV vs zs) H Q E) : aCl n m sp gV E vs zs H Q := ⟨h1, h2, q⟩
def aFor (J : It) (g : TG) (tb : TS) (D : Ends) (σ : St) (H : Hp) : Prop := ∃ W : Nat → Nat → St → Hp → Prop, (∃ m, W 0 m σ H) ∧ ∀ i m σ H, W i m σ H →
  (J.stop i H ∧ D.nx σ H) ∨ (J.go i H ∧ ∃ N : St → Hp → Prop, (∀ σ' H', N σ' H' → ∃ m', m' < m ∧ W (i + 1) m' σ' H') ∧ ∀ x H', J.yld i H x H' → g x σ H' fun σ2 H2 => tb { D with nx := N, ct := N, bk := D.nx } σ2 H2)
theorem g_for {wi : TI} {g : TG} (h : wi σ H fun J H1 => aFor J g t ⟨nx, rt, bk, ct⟩ σ H1) : tFor wi g t ⟨nx, rt, bk, ct⟩ σ H := h
theorem g_aFor {J : It} {n : Nat} {G : Hp → Prop} {Y : Nat → Hp → V → Hp → Prop} {g : TG} (w : Walk J n G Y) (Pv : Nat → St → Hp → Prop) (h0 : Pv 0 σ H) (hG : ∀ i σ H, i ≤ n → Pv i σ H → G H)
    (hs : ∀ i x σ H H', i < n → Pv i σ H → Y i H x H' → g x σ H' fun σ2 H2 => t ⟨Pv (i + 1), rt, nx, Pv (i + 1)⟩ σ2 H2) (hd : ∀ σ H, Pv n σ H → nx σ H) : aFor J g t ⟨nx, rt, bk, ct⟩ σ H :=
  for_it w (D := ⟨nx, rt, bk, ct⟩) Pv h0 hG hs hd
def iAny (K : PySem.W.Frag) (te : TE) : TI := fun σ H R => te σ H fun x H1 => (∃ a, x = .ref a ∧ (∃ xs, SqL K H1 a xs) ∧ R (Itl K a) H1) ∨ (∃ a, x = .ref a ∧ (∃ xs, SqT K H1 a xs) ∧ R (Itt K a) H1) ∨ ∃ z, x = .str z ∧ R (Its z) H1
def aIter (K : PySem.W.Frag) (x : V) (H : Hp) (R : It → Hp → Prop) : Prop := (∃ a, x = .ref a ∧ (∃ xs, SqL K H a xs) ∧ R (Itl K a) H) ∨ (∃ a, x = .ref a ∧ (∃ xs, SqT K H a xs) ∧ R (Itt K a) H) ∨ ∃ z, x = .str z ∧ R (Its z) H
theorem g_iAny (h : te σ H fun x H1 => aIter K x H1 R) : iAny K te σ H R := h
theorem g_it_l {a : Addr} {xs : List V} (h : SqL K H a xs) (q : R (Itl K a) H) : aIter K (.ref a) H R := .inl ⟨a, rfl, ⟨xs, h⟩, q⟩
theorem g_it_t {a : Addr} {xs : List V} (h : SqT K H a xs) (q : R (Itt K a) H) : aIter K (.ref a) H R := .inr (.inl ⟨a, rfl, ⟨xs, h⟩, q⟩)
theorem g_it_s {z : Str} (q : R (Its z) H) : aIter K (.str z) H R := .inr (.inr ⟨z, rfl, q⟩)
theorem pi_any {X : Cx} {tg e : Expr} (he : PE X e te) : PI X tg e (iAny X.K te) := by
  refine ⟨fun pins s σ H R I h => ?_⟩
  refine thn (he.run pins s σ H _ I h) fun v s1 ⟨x, H1, I1, r1, q1⟩ => ?_
  rcases q1 with ⟨a, rfl, ⟨xs, hx⟩, q⟩ | ⟨a, rfl, ⟨xs, hx⟩, q⟩ | ⟨z, rfl, q⟩
  · cases r1
    obtain ⟨its, rv, p, hz⟩ := I1.list hx
    refine wpAny_pyIter_list p.isList ?_
    refine ⟨s1.heap.objs.size, [s1.heap.objs.size], _, _, H1, rfl, I1.kept (t' := s1.toks) fun b o e => Heap.get?_push_of_some _ e, turn_list a _, ⟨_, Heap.get?_push_size _ rfl, rfl, rfl⟩, fun b hb => ?_, q⟩
    obtain rfl : b = s1.heap.objs.size := by simpa using hb
    exact I1.fpOk (Nat.le_refl _) (I1.hok.fresh (Nat.le_refl _))
  · cases r1
    obtain ⟨its, rv, p, hz⟩ := I1.tuple hx
    refine wpAny_pyIter_tuple (show s1.heap.IsTuple a its.toArray from p) ?_
    refine ⟨s1.heap.objs.size, [s1.heap.objs.size], _, _, H1, rfl, I1.kept (t' := s1.toks) fun b o e => Heap.get?_push_of_some _ e, turn_tuple a _, ⟨_, Heap.get?_push_size _ rfl, rfl, rfl⟩, fun b hb => ?_, q⟩
    obtain rfl : b = s1.heap.objs.size := by simpa using hb
    exact I1.fpOk (Nat.le_refl _) (I1.hok.fresh (Nat.le_refl _))
  · obtain ⟨t, rfl⟩ := r1
    cases ha : z.cps.all (· < 128)
    · exact wpAny_pyIter_wide ha (pi_one (tk := s1.toks) I1 _ (turn_str _ z t "str_iterator" (.inr rfl)) ⟨_, Heap.get?_push_size _ rfl, rfl, rfl⟩ q)
    · exact wpAny_pyIter_ascii ha (pi_one (tk := s1.toks) I1 _ (turn_str _ z t "str_ascii_iterator" (.inl rfl)) ⟨_, Heap.get?_push_size _ rfl, rfl, rfl⟩ q)
def aRng1 (vs : List V) (H : Hp) (R : It → Hp → Prop) : Prop := ∃ j : Int, vs = [.int j] ∧ -(2 ^ 62) ≤ j ∧ j < 2 ^ 62 ∧ R (Itr 0 j.toNat) H
theorem g_rng1 (h : tl σ H fun vs H1 => aRng1 vs H1 R) : iRng1 tl σ H R := h
theorem g_aRng1 {j : Int} (h : 0 ≤ j ∧ j < 4000000000) (q : R (Itr 0 j.toNat) H) : aRng1 [.int j] H R := ⟨j, rfl, by omega, by omega, q⟩
def aRng2 (vs : List V) (H : Hp) (R : It → Hp → Prop) : Prop := ∃ i j : Int, vs = [.int i, .int j] ∧ (-(2 ^ 62) ≤ i ∧ i < 2 ^ 62 ∧ -(2 ^ 62) ≤ j ∧ j < 2 ^ 62) ∧ R (Itr i (j - i).toNat) H
theorem g_rng2 (h : tl σ H fun vs H1 => aRng2 vs H1 R) : iRng2 tl σ H R := h
theorem g_aRng2 {i j : Int} (h : -4000000000 ≤ i ∧ i < 4000000000 ∧ -4000000000 ≤ j ∧ j < 4000000000) (q : R (Itr i (j - i).toNat) H) : aRng2 [.int i, .int j] H R := ⟨i, j, rfl, by omega, q⟩
end
end Bz
namespace Bz
open PySem PySem.Spec PyProof.Rows L2
/-- texts as they are handed in: short enough, plain signs -/
def plainS (z : Str) : Prop := z.length ≤ 100000 ∧ ∀ c ∈ z.cps.toList, c < 128
theorem plainS.len {z : Str} (h : plainS z) : z.length ≤ 1000000 := Nat.le_trans h.1 (by decide)
section
variable {B B' : Hp} {M M' L L' : List (Addr × HO)}
variable {σ σ' : St} {H : Hp} {Q : VK} {v x y : V} {i : Nat} {ta tb tc te : TE} {D : Ends} {t u : TS} {c c' : TT} {K : PySem.W.Frag} {R : It → Hp → Prop}
variable {nx bk ct : St → Hp → Prop} {rt : VK} {QB : Bool → Hp → Prop} {QL : List V → Hp → Prop} {QS : St → Hp → Prop} {tl tr : TA} {r r' : R2}
theorem sz6 {n : Nat} (h : n ≤ 1000000) : n ≤ sizeLine := Nat.le_trans h (by decide)
theorem sz6' {n : Nat} (h : n < 1000000) : n < sizeLine := Nat.lt_of_lt_of_le h (by decide)
def aLst (xs : List V) (H : Hp) (Q : VK) : Prop := xs.length ≤ sizeLine ∧ ∀ p, H p = none → Q (.ref p) (upd H p (.lst xs))
def aTup (xs : List V) (H : Hp) (Q : VK) : Prop := xs.length ≤ sizeLine ∧ ∀ p, H p = none → Q (.ref p) (upd H p (.tup xs))
theorem g_lst (h : tl σ H fun xs H1 => aLst xs H1 Q) : tLst tl σ H Q := h
theorem g_tup (h : tl σ H fun xs H1 => aTup xs H1 Q) : tTup tl σ H Q := h
theorem g_aLst {xs : List V} (I : Is B M L H) (h : xs.length ≤ 1000000) (q : ∀ p H', Is B M ((p, .lst xs) :: L) H' → Q (.ref p) H') : aLst xs H Q :=
  ⟨sz6 h, fun p hp => q p _ (I.new hp)⟩
theorem g_aTup {xs : List V} (I : Is B M L H) (h : xs.length ≤ 1000000) (q : ∀ p H', Is B M ((p, .tup xs) :: L) H' → Q (.ref p) H') : aTup xs H Q :=
  ⟨sz6 h, fun p hp => q p _ (I.new hp)⟩
/-- list + list -/
theorem g_add_l {a b : Addr} {xs ys : List V} (I : Is B M L H) (ha : H a = some (.lst xs)) (hb : H b = some (.lst ys)) (h : xs.length + ys.length ≤ 1000000)
    (q : ∀ p H', Is B M ((p, .lst (xs ++ ys)) :: L) H' → Q (.ref p) H') : rAddA K (.ref a) (.ref b) H Q :=
  .inr (.inr (.inl ⟨a, b, xs, ys, rfl, rfl, ha, hb, sz6 h, fun p hp => q p _ (I.new hp)⟩))
theorem g_mul_l {a : Addr} {xs : List V} {n : Nat} (I : Is B M L H) (ha : H a = some (.lst xs)) (h : xs.length * n ≤ 1000000) (hn : n ≤ 1000000)
    (q : ∀ p H', Is B M ((p, .lst (List.replicate n xs).flatten) :: L) H' → Q (.ref p) H') : rMulA (.ref a) (.int (n : Int)) H Q :=
  .inr (.inr ⟨a, n, xs, rfl, rfl, ha, by omega, by omega, by rw [Int.toNat_natCast]; exact sz6 h, fun p hp => by rw [Int.toNat_natCast]; exact q p _ (I.new hp)⟩)
theorem g_sl_t {a : Addr} {xs : List V} {lo hi : Option Int} (I : Is B M L H) (ha : SqT K H a xs) (hn : ¬ (HT.sIx xs.length 0 lo = 0 ∧ HT.sIx xs.length xs.length hi = xs.length)) (q : ∀ p H', Is B M ((p, .tup (cutV xs lo hi)) :: L) H' → Q (.ref p) H') : rSlA K (.ref a) lo hi H Q :=
  .inr (.inr ⟨a, xs, rfl, ha, fun h => absurd h hn, fun _ p hp => q p _ (I.new hp)⟩)
/-- append -/
theorem g_app {l : Addr} {xs : List V} (I : Is B M L H) (hl : H l = some (.lst xs)) (h : xs.length < 1000000) (u : Put l (.lst (xs ++ [v])) L L') (q : ∀ H', Is B M L' H' → Q .non H') : rAppend (.ref l) [v] H Q :=
  ⟨l, xs, v, rfl, rfl, hl, sz6' h, q _ (I.put u)⟩
theorem g_tyL {l : Addr} {xs : List V} {A : Prop} (hl : H l = some (.lst xs)) (h : A) : tyV K "list" (.ref l) H ∧ A := ⟨.inl ⟨rfl, xs, SqL.of hl⟩, h⟩
theorem g_sub {to ti : TE} {ts : TSet} (h : to σ H fun o H1 => ti σ H1 fun i H2 => ts o i v H2 fun H3 => QS σ H3) : gSub to ti ts v σ H QS := h
theorem g_setL {l : Addr} {xs : List V} {n : Int} {QH : Hp → Prop} (I : Is B M L H) (hl : H l = some (.lst xs)) (h0 : 0 ≤ n) (h1 : n < xs.length) (u : Put l (.lst (xs.set n.toNat v)) L L') (q : ∀ H', Is B M L' H' → QH H') : rSetL (.ref l) (.int n) v H QH :=
  ⟨l, xs, n, n.toNat, rfl, rfl, hl, ixN_of h0 h1, q _ (I.put u)⟩
theorem g_setLM {l : Addr} {xs : List V} {n : Int} {QH : Hp → Prop} (I : Is B M L H) (hl : H l = some (.lst xs)) (h0 : 0 ≤ n) (h1 : n < xs.length) (u : Put l (.lst (xs.set n.toNat v)) M M') (q : ∀ H', Is B M' L H' → QH H') : rSetL (.ref l) (.int n) v H QH :=
  ⟨l, xs, n, n.toNat, rfl, rfl, hl, ixN_of h0 h1, q _ (I.putM u)⟩
/-- unpacking a tuple -/
theorem g_gTup {a : Addr} {xs : List V} {n : Nat} {ts : TGs} (h : SqT K H a xs) (hl : xs.length = n) (q : ts xs σ H QS) : gTup K n ts (.ref a) σ H QS := ⟨a, xs, rfl, h, hl, q⟩
theorem g_gCons {g : TG} {ts : TGs} {rest : List V} (q : g v σ H fun σ' H' => ts rest σ' H' QS) : gCons g ts (v :: rest) σ H QS := ⟨v, rest, rfl, q⟩
theorem g_gNil (q : QS σ H) : gNil [] σ H QS := ⟨rfl, q⟩
inductive KGet : List (Key × V) → Key → V → Prop
  | here {k : Key} {v : V} {l : List (Key × V)} : KGet ((k, v) :: l) k v
  | there {k k' : Key} {v v' : V} {l : List (Key × V)} : ¬ k' = k → KGet l k v → KGet ((k', v') :: l) k v
inductive NoKey (k : Key) : List (Key × V) → Prop
  | nil : NoKey k []
  | cons {k' : Key} {v' : V} {l : List (Key × V)} : ¬ k' = k → NoKey k l → NoKey k ((k', v') :: l)
inductive KPut (k : Key) (v : V) : List (Key × V) → List (Key × V) → Prop
  | here {u : V} {l : List (Key × V)} : NoKey k l → KPut k v ((k, u) :: l) ((k, v) :: l)
  | there {k' : Key} {u : V} {l l' : List (Key × V)} : ¬ k' = k → KPut k v l l' → KPut k v ((k', u) :: l) ((k', u) :: l')
theorem KGet.eq {kvs : List (Key × V)} {k : Key} (h : KGet kvs k v) : valV kvs k = some v := by
  induction h with
  | here => exact valV_pos rfl
  | there hne _ ih =>
    rw [valV_neg (show ¬ _ = _ from hne)]
    exact ih
theorem NoKey.map {k : Key} {kvs : List (Key × V)} (h : NoKey k kvs) : kvs.map (fun kv => if kv.1 = k then (kv.1, v) else kv) = kvs := by
  induction h with
  | nil => rfl
  | cons hne _ ih => rw [List.map_cons, if_neg hne, ih]
theorem KPut.any {k : Key} {kvs kvs' : List (Key × V)} (h : KPut k v kvs kvs') : (kvs.any fun kv => decide (kv.1 = k)) = true ∧ kvs.map (fun kv => if kv.1 = k then (kv.1, v) else kv) = kvs' := by
  induction h with
  | here hn =>
    refine ⟨by simp, ?_⟩
    rw [List.map_cons, if_pos rfl, hn.map]
  | there hne _ ih =>
    refine ⟨by rw [List.any_cons, ih.1, Bool.or_true], ?_⟩
    rw [List.map_cons, if_neg hne, ih.2]
theorem KPut.eq {k : Key} {kvs kvs' : List (Key × V)} (h : KPut k v kvs kvs') : putK kvs k v = kvs' := by
  unfold putK
  rw [if_pos h.any.1]
  exact h.any.2
def aDGet (x y : V) (H : Hp) (Q : VK) : Prop := ∃ a v, x = .ref a ∧ DGet H a y (some v) ∧ Q v H
theorem g_dget {td ty : TE} (h : td σ H fun x H1 => ty σ H1 fun y H2 => aDGet x y H2 Q) : tDGet td ty σ H Q := h
theorem g_aDGet {a : Addr} {kvs : List (Key × V)} {z : Str} (h : H a = some (.dK kvs)) (e : KGet kvs (Sum.inr z) v) (q : Q v H) : aDGet (.ref a) (.str z) H Q :=
  ⟨a, v, rfl, .inl ⟨kvs, .inr z, .inl h, rfl, e.eq.symm⟩, q⟩
def aDPut (v x y : V) (H : Hp) (Q : Hp → Prop) : Prop := ∃ a H4, x = .ref a ∧ DPut H a y v H4 ∧ Q H4
theorem g_dput {td ty tv : TE} (h : tv σ H fun v H1 => td σ H1 fun x H2 => ty σ H2 fun y H3 => aDPut v x y H3 fun H4 => nx σ H4) : sDPut td ty tv ⟨nx, rt, bk, ct⟩ σ H := by
  exact h
theorem g_aDPut {a : Addr} {kvs kvs' : List (Key × V)} {z : Str} {QH : Hp → Prop} (I : Is B M L H) (h : H a = some (.dK kvs)) (hz : kvs.length < 100000) (kp : KPut (Sum.inr z) v kvs kvs') (u : Put a (.dK kvs') L L') (q : ∀ H', Is B M L' H' → QH H') : aDPut v (.ref a) (.str z) H QH :=
  ⟨a, _, rfl, .inl ⟨kvs, .inr z, h, rfl, sz6' (by omega), rfl⟩, q _ (by rw [kp.eq]; exact I.put u)⟩
theorem g_aDPutM {a : Addr} {kvs kvs' : List (Key × V)} {z : Str} {QH : Hp → Prop} (I : Is B M L H) (h : H a = some (.dK kvs)) (hz : kvs.length < 100000) (kp : KPut (Sum.inr z) v kvs kvs') (u : Put a (.dK kvs') M M') (q : ∀ H', Is B M' L H' → QH H') : aDPut v (.ref a) (.str z) H QH :=
  ⟨a, _, rfl, .inl ⟨kvs, .inr z, h, rfl, sz6' (by omega), rfl⟩, q _ (by rw [kp.eq]; exact I.putM u)⟩
inductive Snoc {α : Type} (x : α) : List α → List α → Prop
  | nil : Snoc x [] [x]
  | cons {a : α} {l l' : List α} : Snoc x l l' → Snoc x (a :: l) (a :: l')
theorem Snoc.eq {α : Type} {x : α} : ∀ {l l' : List α}, Snoc x l l' → l ++ [x] = l'
  | _, _, .nil => rfl
  | _, _, .cons h => by rw [List.cons_append, h.eq]
inductive Mrg : List (Key × V) → List (V × V) → List (Key × V) → Prop
  | nil {l : List (Key × V)} : Mrg l [] l
  | str {l l' r : List (Key × V)} {z : Str} {v : V} {more : List (V × V)} : NoKey (Sum.inr z) l → Snoc (Sum.inr z, v) l l' → Mrg l' more r → Mrg l ((.str z, v) :: more) r
  | int {l l' r : List (Key × V)} {n : Int} {v : V} {more : List (V × V)} : NoKey (Sum.inl n) l → Snoc (Sum.inl n, v) l l' → Mrg l' more r → Mrg l ((.int n, v) :: more) r
theorem NoKey.any {k : Key} {kvs : List (Key × V)} (h : NoKey k kvs) : (kvs.any fun kv => decide (kv.1 = k)) = false := by
  induction h with
  | nil => rfl
  | cons hne _ ih => rw [List.any_cons, decide_eq_false hne, ih]; rfl
theorem NoKey.put {k : Key} {kvs : List (Key × V)} (h : NoKey k kvs) : putK kvs k v = kvs ++ [(k, v)] := by
  unfold putK
  rw [h.any]
  rfl
theorem Mrg.eq {l : List (Key × V)} {ps : List (V × V)} {r : List (Key × V)} (h : Mrg l ps r) : ∃ kvs : List (Key × V), ps = kvs.map (fun kv => (kV kv.1, kv.2)) ∧ mergeK l kvs = r ∧ kvs.length = ps.length := by
  induction h with
  | nil => exact ⟨[], rfl, rfl, rfl⟩
  | @str l l' r z v more hn hs _ ih =>
    obtain ⟨kvs, e1, e2, e3⟩ := ih
    refine ⟨(Sum.inr z, v) :: kvs, by rw [e1]; rfl, ?_, by simp [e3]⟩
    show mergeK (putK l (Sum.inr z) v) kvs = r
    rw [hn.put, hs.eq]
    exact e2
  | @int l l' r n v more hn hs _ ih =>
    obtain ⟨kvs, e1, e2, e3⟩ := ih
    refine ⟨(Sum.inl n, v) :: kvs, by rw [e1]; rfl, ?_, by simp [e3]⟩
    show mergeK (putK l (Sum.inl n) v) kvs = r
    rw [hn.put, hs.eq]
    exact e2
def aDisp (p : Addr) (ps : List (V × V)) (H : Hp) (Q : VK) : Prop := H p = some (.dK []) ∧ ∃ kvs : List (Key × V), ps = kvs.map (fun kv => (kV kv.1, kv.2)) ∧ kvs.length ≤ 15 ∧ Q (.ref p) (upd H p (.dK (mergeK [] kvs)))
theorem g_disp {trs : List (TE × TE)} (I : Is B M L H) (q : ∀ p H', Is B M ((p, .dK []) :: L) H' → tPairs trs σ H' fun ps H2 => aDisp p ps H2 Q) : tDisp trs σ H Q := fun p hp => q p _ (I.new hp)
theorem g_pnil {QP : List (V × V) → Hp → Prop} (q : QP [] H) : tPairs [] σ H QP := q
theorem g_pcons {tk tv : TE} {r : List (TE × TE)} {QP : List (V × V) → Hp → Prop} (q : tk σ H fun x H1 => tv σ H1 fun y H2 => tPairs r σ H2 fun ps H3 => QP ((x, y) :: ps) H3) : tPairs ((tk, tv) :: r) σ H QP := q
theorem g_aDisp {p : Addr} {ps : List (V × V)} {kvs : List (Key × V)} (I : Is B M L H) (h : H p = some (.dK [])) (m : Mrg [] ps kvs) (hz : ps.length ≤ 15) (u : Put p (.dK kvs) L L') (q : ∀ H', Is B M L' H' → Q (.ref p) H') : aDisp p ps H Q := by
  obtain ⟨k, e1, e2, e3⟩ := m.eq
  refine ⟨h, k, e1, by omega, ?_⟩
  rw [e2]
  exact q _ (I.put u)
theorem g_newK (I : Is B M L H) (q : ∀ p H', Is B M ((p, .dK []) :: L) H' → Q (.ref p) H') : tDNewK σ H Q := fun p hp => q p _ (I.new hp)
/-- an owned thing told as M -/
theorem Is.pull {a : Addr} {o : HO} (I : Is B M L H) (d : Del a o L L') : Is B ((a, o) :: M) L' H := by
  have pm : (L ++ M).Perm (L' ++ ((a, o) :: M)) := (d.perm.append_right M).trans List.perm_middle.symm
  exact ⟨I.ex, fun q hq => I.own q (pm.mem_iff.mpr hq), (pm.map (·.1)).nodup_iff.mp I.nd⟩
/-- given away, as one asks it -/
theorem Is.give {a : Addr} {o : HO} {G : Prop} (I : Is B M L H) (d : Del a o L L') (k : ∀ B', Same B B' → B' a = some o → Is B' M L' H → G) : G := by
  obtain ⟨h1, h2⟩ := I.frz d
  exact k _ h2 upd_same h1
def aLc (J : It) (g : TG) (tt : TT) (te : TE) (vs : List Nat) (σ : St) (H1 : Hp) (Q : VK) : Prop :=
  ∀ D, H1 D = none → ∃ W : Nat → Nat → Hp → Prop, (∃ m, W 0 m (upd H1 D (.lst []))) ∧ ∀ i m H, W i m H →
    (J.stop i H ∧ Q (.ref D) H) ∨ (J.go i H ∧ ∃ Nx : Hp → Prop, (∀ H', Nx H' → ∃ m', m' < m ∧ W (i + 1) m' H') ∧ ∀ x H', J.yld i H x H' → g x (wipe σ vs) H' fun σ2 H2 => wipe σ2 vs = wipe σ vs ∧ tt σ2 H2 fun b H3 =>
      if b = true then te σ2 H3 fun y H4 => ∃ acc, H4 D = some (.lst acc) ∧ acc.length < sizeLine ∧ Nx (upd H4 D (.lst (acc ++ [y]))) else Nx H3)
theorem g_lc {wi : TI} {g : TG} {tt : TT} {vs : List Nat} (h : wi σ H fun J H1 => aLc J g tt te vs σ H1 Q) : tLc wi g tt te vs σ H Q := h
/-- between two turns; at a turn's end with an item, without one -/
def LcI (P : Nat → List V → Hp → List (Addr × HO) → Prop) (B : Hp) (L : List (Addr × HO)) (D : Addr) (i : Nat) (H : Hp) : Prop :=
  ∃ acc B' M', Same B B' ∧ acc.length ≤ i ∧ i ≤ 900000 ∧ Is B' M' ((D, .lst acc) :: L) H ∧ P i acc B' M'
def LcY (P : Nat → List V → Hp → List (Addr × HO) → Prop) (B : Hp) (L : List (Addr × HO)) (D : Addr) (i : Nat) (y : V) (H : Hp) : Prop :=
  ∃ acc, H D = some (.lst acc) ∧ acc.length < sizeLine ∧ LcI P B L D (i + 1) (upd H D (.lst (acc ++ [y])))
theorem lcY {P : Nat → List V → Hp → List (Addr × HO) → Prop} {D : Addr} {acc : List V} (s : Same B B') (I : Is B' M' ((D, .lst acc) :: L) H) (hl : acc.length ≤ i ∧ i < 900000) (p : P (i + 1) (acc ++ [y]) B' M') : LcY P B L D i y H :=
  ⟨acc, I.get List.mem_cons_self, sz6' (by omega), acc ++ [y], B', M', s, by rw [List.length_append]; simpa using hl.1, by omega, I.put .here, p⟩
theorem lcN {P : Nat → List V → Hp → List (Addr × HO) → Prop} {D : Addr} {acc : List V} (s : Same B B') (I : Is B' M' ((D, .lst acc) :: L) H) (hl : acc.length ≤ i ∧ i < 900000) (p : P (i + 1) acc B' M') : LcI P B L D (i + 1) H :=
  ⟨acc, B', M', s, by omega, by omega, I, p⟩
theorem g_aLc {J : It} {n : Nat} {G : Hp → Prop} {Y : Nat → Hp → V → Hp → Prop} {g : TG} {tt : TT} {vs : List Nat} {σ0 : St} (w : Walk J n G Y) (I : Is B M L H) (hw : Wiped σ vs σ0) (hz : n ≤ 900000)
    (P : Nat → List V → Hp → List (Addr × HO) → Prop) (h0 : P 0 [] B M)
    (hG : ∀ i acc B' M' D H', i ≤ n → Same B B' → Is B' M' ((D, .lst acc) :: L) H' → P i acc B' M' → G H')
    (hs : ∀ i x acc B' M' D H' H'', i < n → Same B B' → Is B' M' ((D, .lst acc) :: L) H' → P i acc B' M' → Y i H' x H'' → (acc.length ≤ i ∧ i < 900000) →
      g x σ0 H'' fun σ2 H2 => wipe σ2 vs = σ0 ∧ tt σ2 H2 fun b H3 => if b = true then te σ2 H3 fun y H4 => LcY P B L D i y H4 else LcI P B L D (i + 1) H3)
    (hd : ∀ acc B' M' D H', Same B B' → Is B' M' ((D, .lst acc) :: L) H' → P n acc B' M' → acc.length ≤ n → Q (.ref D) H') : aLc J g tt te vs σ H Q := by
  intro D hD
  refine lc_it w (fun i H' => LcI P B L D i H') ⟨[], B, M, Same.refl B, Nat.le_refl _, by omega, I.new hD, h0⟩ ?_ ?_ ?_
  · rintro i H' hi ⟨acc, B', M', s, hl, _, I', p⟩
    exact hG i acc B' M' D H' hi s I' p
  · rintro i x H' H'' hi ⟨acc, B', M', s, hl, _, I', p⟩ yy
    rw [hw.eq]
    exact hs i x acc B' M' D H' H'' hi s I' p yy ⟨hl, by omega⟩
  · rintro H' ⟨acc, B', M', s, hl, _, I', p⟩
    exact hd acc B' M' D H' s I' p hl
/-- a comprehension that neither draws nor changes: (xs.filter p).map f -/
theorem g_lcM {J : It} {xs : List V} {G : Hp → Prop} {g : TG} {tt : TT} {vs : List Nat} {σ0 : St} (w : Walk J xs.length G (YAt xs)) (I : Is B M L H) (hw : Wiped σ vs σ0) (hz : xs.length ≤ 900000) (p : V → Bool) (f : V → V)
    (hG : ∀ D acc H', Is B M ((D, .lst acc) :: L) H' → G H')
    (hs : ∀ (i : Nat) (x : V) (D : Addr) (acc : List V) (H' : Hp), xs[i]? = some x → Is B M ((D, .lst acc) :: L) H' → ∀ (PY : V → Hp → Prop) (PN : Hp → Prop), (∀ H4, p x = true → Is B M ((D, .lst acc) :: L) H4 → PY (f x) H4) → (∀ H3, p x = false → Is B M ((D, .lst acc) :: L) H3 → PN H3) →
      g x σ0 H' fun σ2 H2 => wipe σ2 vs = σ0 ∧ tt σ2 H2 fun b H3 => if b = true then te σ2 H3 fun y H4 => PY y H4 else PN H3)
    (hd : ∀ D H', Is B M ((D, .lst ((xs.filter p).map f)) :: L) H' → Q (.ref D) H') : aLc J g tt te vs σ H Q := by
  refine g_aLc w I hw hz (fun i acc B' M' => B' = B ∧ M' = M ∧ acc = ((xs.take i).filter p).map f) ⟨rfl, rfl, rfl⟩ ?_ ?_ ?_
  · rintro i acc B' M' D H' _ s I' ⟨rfl, rfl, rfl⟩
    exact hG D _ H' I'
  · rintro i x acc B' M' D H' H'' hi s I' ⟨rfl, rfl, e⟩ ⟨rfl, hx⟩ hl
    refine hs i x D acc H'' hx I' _ _ (fun H4 hp I4 => lcY s I4 hl ⟨rfl, rfl, ?_⟩) fun H3 hp I3 => lcN s I3 hl ⟨rfl, rfl, ?_⟩
    · rw [List.take_add_one, hx, e]
      show _ = List.map f (List.filter p (xs.take i ++ [x]))
      rw [List.filter_append, List.map_append, List.filter_cons, if_pos hp]
      rfl
    · rw [List.take_add_one, hx, e]
      show _ = List.map f (List.filter p (xs.take i ++ [x]))
      rw [List.filter_append, List.map_append, List.filter_cons, if_neg (by rw [hp]; exact Bool.false_ne_true)]
      simp
  · rintro acc B' M' D H' s I' ⟨rfl, rfl, rfl⟩ _
    rw [List.take_length] at I'
    exact hd D H' I'
/-- signs of a text -/
def sg (c : Nat) : V := .str ⟨#[c]⟩
def signs (z : Str) : List V := z.cps.toList.map sg
theorem signs_len (z : Str) : (signs z).length = z.length := by unfold signs; rw [List.length_map]; rfl
theorem walkS {z : Str} : Walk (Its z) (signs z).length (fun _ => True) (YAt (signs z)) := by
  have w := walk_str (z := z)
  have e : z.cps.size = (signs z).length := by unfold signs; simp
  rw [e] at w
  refine w.mono (fun _ _ => trivial) fun i H x H' hi _ y => ?_
  obtain ⟨h1, c, h2, h3⟩ := y
  refine ⟨h1, ?_⟩
  unfold signs
  rw [List.getElem?_map, ← Array.getElem?_toList] at *
  rw [h2, h3]
  rfl
def rng (lo : Int) (n : Nat) : List V := (List.range n).map fun (i : Nat) => V.int (lo + (i : Int))
theorem rng_len (lo : Int) (n : Nat) : (rng lo n).length = n := by unfold rng; simp
theorem walkR {lo : Int} {n : Nat} : Walk (Itr lo n) (rng lo n).length (fun _ => True) (YAt (rng lo n)) := by
  have w := walk_range (lo := lo) (n := n)
  rw [rng_len]
  refine w.mono (fun _ _ => trivial) fun i H x H' hi _ y => ?_
  obtain ⟨h1, h2⟩ := y
  refine ⟨h1, ?_⟩
  unfold rng
  rw [List.getElem?_map, List.getElem?_range hi, h2]
  rfl
theorem signs_mem {z : Str} {x : V} {i : Nat} (h : (signs z)[i]? = some x) : ∃ c, c ∈ z.cps.toList ∧ x = .str ⟨#[c]⟩ := by
  unfold signs at h
  rw [List.getElem?_map] at h
  cases e : z.cps.toList[i]? with
  | none => rw [e] at h; cases h
  | some c => rw [e] at h; exact ⟨c, List.mem_of_getElem? e, (Option.some.inj h).symm⟩
def unsg (f : Nat → V) (v : V) : V := match v with
  | .str y => f (y.cps.getD 0 0)
  | _ => .non
def unsgB (f : Nat → Bool) (v : V) : Bool := match v with
  | .str y => f (y.cps.getD 0 0)
  | _ => false
theorem map_unsg (f : Nat → V) : ∀ l : List Nat, (l.map sg).map (unsg f) = l.map f
  | [] => rfl
  | c :: l => by rw [List.map_cons, List.map_cons, List.map_cons, map_unsg f l]; rfl
theorem filter_unsg (p : Nat → Bool) : ∀ l : List Nat, (l.map sg).filter (unsgB p) = (l.filter p).map sg
  | [] => rfl
  | c :: l => by
    have e : unsgB p (sg c) = p c := rfl
    rw [List.map_cons, List.filter_cons, List.filter_cons, e, filter_unsg p l]
    cases p c <;> simp
/-- over a text's signs, with a test -/
theorem g_lcS {z : Str} {g : TG} {tt : TT} {vs : List Nat} {σ0 : St} (I : Is B M L H) (hw : Wiped σ vs σ0) (hz : z.length ≤ 900000) (p : Nat → Bool) (f : Nat → V)
    (hs : ∀ (c : Nat) (D : Addr) (acc : List V) (H' : Hp), c ∈ z.cps.toList → Is B M ((D, .lst acc) :: L) H' → ∀ (PY : V → Hp → Prop) (PN : Hp → Prop), (∀ H4, p c = true → Is B M ((D, .lst acc) :: L) H4 → PY (f c) H4) → (∀ H3, p c = false → Is B M ((D, .lst acc) :: L) H3 → PN H3) →
      g (.str ⟨#[c]⟩) σ0 H' fun σ2 H2 => wipe σ2 vs = σ0 ∧ tt σ2 H2 fun b H3 => if b = true then te σ2 H3 fun y H4 => PY y H4 else PN H3)
    (hd : ∀ D H', Is B M ((D, .lst ((z.cps.toList.filter p).map f)) :: L) H' → Q (.ref D) H') : aLc (Its z) g tt te vs σ H Q := by
  refine g_lcM walkS I hw (by rw [signs_len]; exact hz) (unsgB p) (unsg f) (fun _ _ _ _ => trivial) ?_ ?_
  · intro i x D acc H' hx hI' PY PN hY hN
    obtain ⟨c, hc, rfl⟩ := signs_mem hx
    exact hs c D acc H' hc hI' PY PN hY hN
  · intro D H' hI'
    have e : (List.filter (unsgB p) (signs z)).map (unsg f) = (z.cps.toList.filter p).map f := by
      unfold signs
      rw [filter_unsg, map_unsg]
    rw [e] at hI'
    exact hd D H' hI'
/-- .. without one -/
theorem g_lcS1 {z : Str} {g : TG} {vs : List Nat} {σ0 : St} (I : Is B M L H) (hw : Wiped σ vs σ0) (hz : z.length ≤ 900000) (f : Nat → V)
    (hs : ∀ (c : Nat) (D : Addr) (acc : List V) (H' : Hp), c ∈ z.cps.toList → Is B M ((D, .lst acc) :: L) H' → ∀ (PY : V → Hp → Prop), (∀ H4, Is B M ((D, .lst acc) :: L) H4 → PY (f c) H4) →
      g (.str ⟨#[c]⟩) σ0 H' fun σ2 H2 => wipe σ2 vs = σ0 ∧ te σ2 H2 fun y H4 => PY y H4)
    (hd : ∀ D H', Is B M ((D, .lst (z.cps.toList.map f)) :: L) H' → Q (.ref D) H') : aLc (Its z) g tYes te vs σ H Q := by
  refine g_lcS I hw hz (fun _ => true) f ?_ ?_
  · intro c D acc H' hc hI' PY PN hY hN
    exact hs c D acc H' hc hI' PY fun H4 => hY H4 rfl
  · intro D H' hI'
    have e : z.cps.toList.filter (fun _ => true) = z.cps.toList := List.filter_eq_self.mpr fun _ _ => rfl
    rw [e] at hI'
    exact hd D H' hI'
theorem g_all {α : Type} {D : Addr} {l : List α} {P : α → Bool} (h : SqL K H D (l.map fun c => V.bl (P c))) (q : Q (.bl (l.all P)) H) : rAll K [.ref D] H Q := by
  refine ⟨D, l.map P, rfl, ?_, ?_⟩
  · rw [List.map_map]
    exact h
  · rw [List.all_map]
    exact q
theorem g_wiped {σ1 : St} {vs : List Nat} {A : Prop} (w : Wiped σ vs σ1) (h : A) : wipe σ vs = σ1 ∧ A := ⟨w.eq, h⟩
theorem g_yes (h : QB true H) : tYes σ H QB := h
theorem g_true {A E : Prop} (h : A) : if true = true then A else E := by rw [if_pos rfl]; exact h
theorem g_false {A E : Prop} (h : E) : if false = true then A else E := by rw [if_neg Bool.false_ne_true]; exact h
theorem g_ntrue {A E : Prop} (h : E) : if (!true) = true then A else E := g_false h
theorem g_nfalse {A E : Prop} (h : A) : if (!false) = true then A else E := g_true h
theorem g_dec {p : Prop} [Decidable p] {A E : Prop} (h1 : p → A) (h2 : ¬ p → E) : if decide p = true then A else E := by
  by_cases h : p
  · rw [decide_eq_true h]
    exact g_true (h1 h)
  · rw [decide_eq_false h]
    exact g_false (h2 h)
theorem g_ndec {p : Prop} [Decidable p] {A E : Prop} (h1 : ¬ p → A) (h2 : p → E) : if (!decide p) = true then A else E := by
  by_cases h : p
  · rw [decide_eq_true h]
    exact g_false (h2 h)
  · rw [decide_eq_false h]
    exact g_true (h1 h)
theorem g_b {b : Bool} {A E : Prop} (h1 : b = true → A) (h2 : b = false → E) : if b = true then A else E := by
  cases b with
  | true => exact g_true (h1 rfl)
  | false => exact g_false (h2 rfl)
theorem g_nb {b : Bool} {A E : Prop} (h1 : b = false → A) (h2 : b = true → E) : if (!b) = true then A else E := by
  cases b with
  | true => exact g_false (h2 rfl)
  | false => exact g_true (h1 rfl)
end
end Bz
namespace Bz
open PySem PySem.Spec PyProof.Rows L2
def rListOf (K : PySem.W.Frag) : List V → Hp → VK → Prop := fun xs H Q => ∃ p ys, xs = [.ref p] ∧ (SqL K H p ys ∨ SqT K H p ys) ∧ ∀ l, H l = none → Q (.ref l) (upd H l (.lst ys))
section
variable {X : Cx}
theorem cl_listOf : CallR X (.type "list") (rListOf X.K) := call_list_of
theorem pe_gI {x : Str} {i : Int} {pos : Pos} (h : ∃ t, X.mg x = some (.int i t)) (gl : Gl X x := by rfl) (hd : (x == ("__debug__" : Str)) = false := by decide) : PE X (.Name x pos) (tC (.int i)) := by
  obtain ⟨t, h⟩ := h
  exact pe_glob gl h ⟨_, rfl⟩ hd
theorem pe_gS {x z : Str} {pos : Pos} (h : ∃ t, X.mg x = some (.str z t)) (gl : Gl X x := by rfl) (hd : (x == ("__debug__" : Str)) = false := by decide) : PE X (.Name x pos) (tC (.str z)) := by
  obtain ⟨t, h⟩ := h
  exact pe_glob gl h ⟨_, rfl⟩ hd
theorem pe_gR {x : Str} {a : Addr} {pos : Pos} (h : X.mg x = some (.ref a)) (gl : Gl X x := by rfl) (hd : (x == ("__debug__" : Str)) = false := by decide) : PE X (.Name x pos) (tC (.ref a)) := pe_glob gl h rfl hd
end
structure CallOk (P : Program) (w : World) (K : PySem.W.Frag) (mg : Str → Option Value) (base : Heap) (CX : CXT) (k : Nat) (x : Str) (n : Nat) (ks : List Str) (sp : Sp) (gV : List V → List V → List V) : Prop where
  ok : ∃ fd ps g, FnG P w K mg base CX k (He.ga K x) fd ps sp ∧ KBn K fd ps n ks g gV
  at_ : mg x = some (.ref (He.ga K x))
  kp : PySem.W.keepIn K (.ref (He.ga K x)) = true
section
variable {X : Cx} {CX : CXT} {k k' n : Nat} {ks : List Str} {sp : Sp} {E : XK} {x : Str} {p pos : Pos} {e : Expr} {es : List Expr} {kws : List Keyword} {t tk : TA} {gV : List V → List V → List V}
theorem pe_ca (c : CallOk X.prog X.w X.K X.mg X.base CX k x n ks sp gV) (hr : Room k' X.A) (hk : k ≤ k') (hg : X.A.guards = some []) (gl : Gl X x) (hx : Passes CX X E) (ha : PA X (e :: es) t) (hkw : PK X kws tk)
    (h1 : (backToKw pos (keywordEach kws X.env)).all (·.1.isSome) = true := by rfl) (h2 : (backToKw pos (keywordEach kws X.env)).filterMap (·.1) = ks := by rfl)
    (h3 : (x == ("__debug__" : Str)) = false := by decide) (h4 : starEach (e :: es) X.env = (false, eval e X.env) :: starEach es X.env := by rfl)
    (h5 : ((backTo pos (starEach (e :: es) X.env)).any (·.1) || (backToKw pos (keywordEach kws X.env)).any (·.1.isNone)) = false := by rfl) :
    PE X (.Call (.Name x p) (e :: es) kws pos) (tCl n ks.length sp gV E t tk) := by
  obtain ⟨⟨fd, ps, g, F, kb⟩, a, kp⟩ := c
  exact pe_cl F (hr.mono hk) hg gl a kp kb hx ha hkw h1 h2 h3 h4 h5
theorem pe_ca0 (c : CallOk X.prog X.w X.K X.mg X.base CX k x n ks sp gV) (hr : Room k' X.A) (hk : k ≤ k') (hg : X.A.guards = some []) (gl : Gl X x) (hx : Passes CX X E) (hkw : PK X kws tk)
    (h1 : (backToKw pos (keywordEach kws X.env)).all (·.1.isSome) = true := by rfl) (h2 : (backToKw pos (keywordEach kws X.env)).filterMap (·.1) = ks := by rfl)
    (h3 : (x == ("__debug__" : Str)) = false := by decide)
    (h5 : ((backTo pos (starEach [] X.env)).any (·.1) || (backToKw pos (keywordEach kws X.env)).any (·.1.isNone)) = false := by rfl) :
    PE X (.Call (.Name x p) [] kws pos) (tCl n ks.length sp gV E tNil tk) := by
  obtain ⟨⟨fd, ps, g, F, kb⟩, a, kp⟩ := c
  exact pe_cl0 F (hr.mono hk) hg gl a kp kb hx hkw h1 h2 h3 h5
end
end Bz
namespace Bz
open PySem PySem.Spec PyProof.Rows L2
def Sh (n : Nat) (z : Str) : Prop := z.length ≤ n ∧ ∀ c ∈ z.cps.toList, c < 128
theorem Sh.plain {n : Nat} {z : Str} (h : Sh n z) (hn : n ≤ 100000) : plainS z := ⟨Nat.le_trans h.1 hn, h.2⟩
theorem Sh.mono {n m : Nat} {z : Str} (h : Sh n z) (hn : n ≤ m) : Sh m z := ⟨Nat.le_trans h.1 hn, h.2⟩
theorem len_cps (z : Str) : z.length = z.cps.toList.length := by simp [Str.length]
theorem cps_app (x y : Str) : (x ++ y).cps.toList = x.cps.toList ++ y.cps.toList := TL.tl_append x y
theorem len_app (x y : Str) : (x ++ y).length = x.length + y.length := by rw [len_cps, len_cps, len_cps, cps_app, List.length_append]
theorem Sh.add {n m : Nat} {x y : Str} (h1 : Sh n x) (h2 : Sh m y) : Sh (n + m) (x ++ y) := by
  refine ⟨by rw [len_app]; have := h1.1; have := h2.1; omega, fun c hc => ?_⟩
  rw [cps_app] at hc
  rcases List.mem_append.mp hc with h | h
  · exact h1.2 c h
  · exact h2.2 c h
theorem Sh.sign {c : Nat} (h : c < 128) : Sh 1 ⟨#[c]⟩ := by
  refine ⟨Nat.le_refl _, fun d hd => ?_⟩
  have : d = c := by simpa using hd
  omega
def shB (n : Nat) (z : Str) : Bool := decide (z.length ≤ n) && z.cps.toList.all fun c => decide (c < 128)
theorem Sh.lit {n : Nat} {z : Str} (h : shB n z = true) : Sh n z := by
  unfold shB at h
  rw [Bool.and_eq_true] at h
  exact ⟨of_decide_eq_true h.1, fun c hc => of_decide_eq_true (List.all_eq_true.mp h.2 c hc)⟩
theorem Sh.at {n : Nat} {z : Str} {i : Int} (h : Sh n z) (h0 : 0 ≤ i) (h1 : i < (z.length : Int)) : ∃ c, atI z.cps.toList i = some c ∧ c ∈ z.cps.toList ∧ Sh 1 ⟨#[c]⟩ := by
  have hl : i.toNat < z.cps.toList.length := by rw [← len_cps]; omega
  exact ⟨_, atI_of h0 (List.getElem?_eq_getElem hl), List.getElem_mem hl, Sh.sign (h.2 _ (List.getElem_mem hl))⟩
theorem Sh.cut {n : Nat} {z : Str} (h : Sh n z) (lo hi : Option Int) : Sh n (cutS z lo hi) :=
  ⟨Nat.le_trans (cutS_length z lo hi) h.1, fun c hc => h.2 c (List.mem_of_mem_drop (List.mem_of_mem_take hc))⟩
theorem Sh.cut_to {n k : Nat} {z : Str} (h : Sh n z) (lo : Option Int) : Sh k (cutS z lo (some (k : Int))) := by
  refine ⟨?_, (h.cut _ _).2⟩
  have e : HT.sIx z.length z.length (some (k : Int)) = min k z.length := HT.sIx_nat _ _ _
  rw [len_cps]
  show (((z.cps.toList.drop _).take (HT.sIx z.length z.length (some (k : Int)) - _)).toArray.toList).length ≤ k
  rw [List.toList_toArray, List.length_take]
  omega
/-- a list of such texts -/
def Txs (n : Nat) (xs : List V) : Prop := ∀ x ∈ xs, ∃ z, x = .str z ∧ Sh n z
theorem Txs.nil {n : Nat} : Txs n [] := fun _ h => by cases h
theorem Txs.cons {n : Nat} {z : Str} {xs : List V} (h : Sh n z) (t : Txs n xs) : Txs n (.str z :: xs) := fun x hx => by
  rcases List.mem_cons.mp hx with e | e
  · exact ⟨z, e, h⟩
  · exact t x e
theorem Txs.app {n : Nat} {xs ys : List V} (h : Txs n xs) (t : Txs n ys) : Txs n (xs ++ ys) := fun x hx => by
  rcases List.mem_append.mp hx with e | e
  · exact h x e
  · exact t x e
theorem Txs.mono {n m : Nat} {xs : List V} (h : Txs n xs) (hn : n ≤ m) : Txs m xs := fun x hx => by
  obtain ⟨z, e, s⟩ := h x hx
  exact ⟨z, e, s.mono hn⟩
def txB (n : Nat) : List V → Bool
  | [] => true
  | .str z :: xs => shB n z && txB n xs
  | _ :: _ => false
theorem Txs.lit {n : Nat} : ∀ {xs : List V}, txB n xs = true → Txs n xs
  | [], _ => .nil
  | .str z :: xs, h => by
    have h : (shB n z && txB n xs) = true := h
    rw [Bool.and_eq_true] at h
    exact .cons (Sh.lit h.1) (Txs.lit h.2)
theorem Txs.get {n : Nat} {xs : List V} {i : Int} (h : Txs n xs) (h0 : 0 ≤ i) (h1 : i < (xs.length : Int)) : ∃ z, atI xs i = some (.str z) ∧ Sh n z := by
  have hl : i.toNat < xs.length := by omega
  obtain ⟨z, e, s⟩ := h _ (List.getElem_mem hl)
  exact ⟨z, atI_of h0 (by rw [List.getElem?_eq_getElem hl, e]), s⟩
mutual
inductive Shn : PyData → Nat → Nat → Prop
  | non {k : Nat} : Shn .none 5 k
  | bl {b : Bool} {k : Nat} : Shn (.bool b) 5 k
  | int {i : Int} {k : Nat} : i.natAbs.log2 < 1920 → Shn (.int i) 2000 k
  | str {z : Str} {k : Nat} : (∀ c ∈ z.cps.toList, c < 128) → Shn (.str z) (10 * z.length + 2) k
  | lst {xs : List PyData} {n k : Nat} : ShnAll xs n k → Shn (.list xs) (n + 3) (k + 1)
  | tup {xs : List PyData} {n k : Nat} : ShnAll xs n k → Shn (.tuple xs) (n + 3) (k + 1)
inductive ShnAll : List PyData → Nat → Nat → Prop
  | nil {k : Nat} : ShnAll [] 0 k
  | cons {x : PyData} {xs : List PyData} {n m k : Nat} : Shn x n k → ShnAll xs m k → ShnAll (x :: xs) (n + m + 2) k
end
mutual
theorem Shn.ok : ∀ {d : PyData} {n k : Nat}, Shn d n k → d.showable = true ∧ d.hasDict = false ∧ d.shown.length ≤ n ∧ d.depth ≤ k
  | _, _, _, .non => ⟨rfl, rfl, by decide, Nat.zero_le _⟩
  | _, _, _, .bl (b := b) => ⟨rfl, rfl, by cases b <;> decide, Nat.zero_le _⟩
  | _, _, _, .int (i := i) h => by
    refine ⟨by simpa only [PyData.showable, decide_eq_true_eq] using h, by simp only [PyData.hasDict], ?_, by simp only [PyData.depth]; omega⟩
    have e := int_text_length_le (a := i) (k := 1920) (by decide) h
    simp only [PyData.shown]
    rw [PySem.ofString_length]
    omega
  | _, _, _, .str (z := z) h => by
    refine ⟨by simp only [PyData.showable], by simp only [PyData.hasDict], ?_, by simp only [PyData.depth]; omega⟩
    have e := PySem.StrLaws.reprText_len z fun c hc => Nat.lt_of_lt_of_le (h c hc) (by decide)
    simp only [PyData.shown]
    have e2 : z.length = z.cps.size := rfl
    omega
  | _, _, _, .lst (xs := xs) h => by
    obtain ⟨h1, h2, h3, h4⟩ := ShnAll.ok h
    refine ⟨by simpa only [PyData.showable] using h1, by simpa only [PyData.hasDict] using h2, ?_, by simp only [PyData.depth]; omega⟩
    have := listText_len_le (PyData.shownAll xs)
    have h5 := PyData.shownAll_length xs
    simp only [PyData.shown]
    omega
  | _, _, _, .tup (xs := xs) h => by
    obtain ⟨h1, h2, h3, h4⟩ := ShnAll.ok h
    refine ⟨by simpa only [PyData.showable] using h1, by simpa only [PyData.hasDict] using h2, ?_, by simp only [PyData.depth]; omega⟩
    have := tupleText_len_le (PyData.shownAll xs)
    have h5 := PyData.shownAll_length xs
    simp only [PyData.shown]
    omega
theorem ShnAll.ok : ∀ {d : List PyData} {n k : Nat}, ShnAll d n k → PyData.showableAll d = true ∧ PyData.hasDictAll d = false ∧ ((PyData.shownAll d).map (·.length)).sum + 2 * d.length ≤ n ∧ PyData.depthAll d ≤ k
  | _, _, _, .nil => ⟨by simp only [PyData.showableAll], by simp only [PyData.hasDictAll], by simp [PyData.shownAll], by simp only [PyData.depthAll]; omega⟩
  | _, _, _, .cons h t => by
    obtain ⟨h1, h2, h3, h4⟩ := Shn.ok h
    obtain ⟨t1, t2, t3, t4⟩ := ShnAll.ok t
    refine ⟨by simp only [PyData.showableAll, h1, t1, Bool.and_true], by simp only [PyData.hasDictAll, h2, t2, Bool.or_false], ?_, by simp only [PyData.depthAll]; omega⟩
    simp only [PyData.shownAll, List.map_cons, List.sum_cons, List.length_cons]
    omega
end
mutual
theorem Shn.lay : ∀ {d : PyData} {n k : Nat}, Shn d n k → d.canLay0 = true
  | _, _, _, .non => rfl
  | _, _, _, .bl => rfl
  | _, _, _, .int _ => rfl
  | _, _, _, .str (z := z) h => by
    simp only [PyData.canLay0]
    unfold PyData.strOk
    rw [← Array.all_toList, List.all_eq_true]
    intro c hc
    exact decide_eq_true (Nat.lt_of_lt_of_le (h c hc) (by decide))
  | _, _, _, .lst h => by simp only [PyData.canLay0, ShnAll.lay h]
  | _, _, _, .tup h => by simp only [PyData.canLay0, ShnAll.lay h]
theorem ShnAll.lay : ∀ {d : List PyData} {n k : Nat}, ShnAll d n k → PyData.canLayAll0 d = true
  | _, _, _, .nil => by simp only [PyData.canLayAll0]
  | _, _, _, .cons h t => by simp only [PyData.canLayAll0, Shn.lay h, ShnAll.lay t, Bool.and_true]
end
theorem Shn.shaped {d : PyData} {n k : Nat} (h : Shn d n k) (hk : k ≤ 60) : SeqAt.shaped d = true := by
  unfold SeqAt.shaped
  rw [h.lay, decide_eq_true (by have := h.ok.2.2.2; omega)]
  rfl
section
variable {K : PySem.W.Frag} {H : Hp} {Q : VK} {n m : Nat}
theorem g_add_sh {a b : Str} (h1 : Sh n a) (h2 : Sh m b) (h : n + m ≤ 1000000) (q : Sh (n + m) (a ++ b) → Q (.str (a ++ b)) H) : rAddA K (.str a) (.str b) H Q :=
  g_add_s (by have := h1.1; have := h2.1; omega) (q (h1.add h2))
theorem g_ix_sh {z : Str} {i : Int} (h : Sh n z) (hn : n ≤ 1000000) (h0 : 0 ≤ i) (h1 : i < (z.length : Int)) (q : ∀ c, c ∈ z.cps.toList → Sh 1 ⟨#[c]⟩ → Q (.str ⟨#[c]⟩) H) : rIx K (.str z) (.int i) H Q := by
  obtain ⟨c, e, hc, s⟩ := h.at h0 h1
  exact g_ix_s (Nat.le_trans h.1 hn) e (q c hc s)
theorem g_sl_sh {z : Str} {lo hi : Option Int} (h : Sh n z) (hn : n ≤ 1000000) (q : Sh n (cutS z lo hi) → Q (.str (cutS z lo hi)) H) : rSlA K (.str z) lo hi H Q :=
  g_sl_s (Nat.le_trans h.1 hn) (q (h.cut lo hi))
end
theorem mt_tyS {K : PySem.W.Frag} {H : Hp} {z : Str} {A : Prop} (h : A) : tyV K "str" (.str z) H ∧ A := ⟨rfl, h⟩
end Bz
namespace Bz
open PySem PySem.Spec PyProof.Rows L2
def tNoS : TS := fun _ _ _ => False
theorem ps_no {X : Cx} {st : Stmt} : PS X st tNoS := ⟨fun _ _ _ _ _ _ h => h.elim⟩
structure MethOk (P : Program) (w : World) (K : PySem.W.Frag) (mg : Str → Option Value) (base : Heap) (CX : CXT) (k : Nat) (C : Addr) (m : Str) (n : Nat) (ks : List Str) (sp : Sp) (gV : List V → List V → List V) : Prop where
  ok : ∃ f fd ps g, Meth K C m f ∧ FnG P w K mg base CX k f fd ps sp ∧ KBn K fd ps (n + 1) ks g gV
  cl : Cls K C
structure MakeOk (P : Program) (w : World) (K : PySem.W.Frag) (mg : Str → Option Value) (base : Heap) (CX : CXT) (k : Nat) (x : Str) (n : Nat) (ks : List Str) (sp : Sp) (gV : List V → List V → List V) : Prop where
  ok : ∃ f fd ps g, Mk K (He.ga K x) f ∧ FnG P w K mg base CX k f fd ps sp ∧ KBn K fd ps (n + 1) ks g gV
  at_ : mg x = some (.ref (He.ga K x))
def tMe (C : Addr) (m : Str) (n j : Nat) (sp : Sp) (gV : List V → List V → List V) (E : XK) (to : TE) (t tk : TA) : TE := fun σ H Q => to σ H fun x H1 => ∃ a dx fs, x = .ref a ∧ H1 a = some (.ins C dx fs) ∧ fs.lookup m = none ∧
  t σ H1 fun vs H2 => tk σ H2 fun zs H3 => vs.length = n ∧ zs.length = j ∧ sp (gV (x :: vs) zs) H3 Q E
def tMk (C : Addr) (n j : Nat) (sp : Sp) (gV : List V → List V → List V) (E : XK) (t tk : TA) : TE := fun σ H Q => t σ H fun vs H1 => tk σ H1 fun zs H2 => vs.length = n ∧ zs.length = j ∧
  ∀ x dx, H2 x = none → H2 dx = none → dx ≠ x → sp (gV (.ref x :: vs) zs) (upd (upd H2 dx (.own x)) x (.ins C dx [])) (fun v H3 => v = .non ∧ Q (.ref x) H3) E
section
variable {X : Cx} {CX : CXT} {k k' n : Nat} {C : Addr} {ks : List Str} {sp : Sp} {E : XK} {x m : Str} {p pos apos : Pos} {e o : Expr} {es : List Expr} {kws : List Keyword} {to : TE} {t tk : TA} {gV : List V → List V → List V}
theorem pe_me {pl : Sem Bool} (c : MethOk X.prog X.w X.K X.mg X.base CX k C m n ks sp gV) (hr : Room k' X.A) (hk : k ≤ k') (hg : X.A.guards = some []) (hx : Passes CX X E) (ho : PE X o to) (ha : PA X (e :: es) t) (hkw : PK X kws tk)
    (h1 : (backToKw pos (keywordEach kws X.env)).all (·.1.isSome) = true := by rfl) (h2 : (backToKw pos (keywordEach kws X.env)).filterMap (·.1) = ks := by rfl)
    (h4 : starEach (e :: es) X.env = (false, eval e X.env) :: starEach es X.env := by rfl)
    (h5 : ((backTo pos (starEach (e :: es) X.env)).any (·.1) || (backToKw pos (keywordEach kws X.env)).any (·.1.isNone)) = false := by rfl)
    (ht : eval (.Call (.Attribute o m apos) (e :: es) kws pos) X.env = (do
      let ov ← eval o X.env
      standAt apos.atName
      let (f, first) ← holding [ov] (getMethod ov m pl)
      callWith pos f first (backTo pos (starEach (e :: es) X.env)) (backToKw pos (keywordEach kws X.env))) := by rfl) :
    PE X (.Call (.Attribute o m apos) (e :: es) kws pos) (tMe C m n ks.length sp gV E to t tk) := by
  obtain ⟨⟨f, fd, ps, g, hm, F, kb⟩, cl⟩ := c
  refine ⟨fun pins s σ H Q I h => ?_⟩
  refine PySem.W.methodCall_KW (pl := pl) (thn (ho.run pins s σ H _ I h) fun u s1 ⟨x, H1, I1, rx, a, dx, fs, ex, ea, l, q⟩ => ?_) ht
  subst ex
  obtain rfl : u = Value.ref a := rx
  refine getmeth_ok I1 ea cl hm l ?_
  refine PySem.W.callWith_KW (first := [.ref a]) (h₀ := X.base) I.ok.mod.kin hm.kp h1 (thn (ha.run pos pins s1 σ H1 _ I1 q) ?_) h5 h4
  rintro us s2 ⟨vs, H2, I2, r, q2⟩
  refine thn (hkw.run pos pins s2 σ H2 _ I2 q2) ?_
  rintro ws s3 ⟨zs, H3, I3, rz, l1, l2, q3⟩
  refine ⟨I3.kIn, ?_⟩
  rw [h2]
  exact run_gn (us := .ref a :: us) (vs := .ref a :: vs) F (hr.mono hk) hg kb hx I3 (.cons rfl r) rz (congrArg Nat.succ l1) l2 q3
theorem pe_me0 {pl : Sem Bool} (c : MethOk X.prog X.w X.K X.mg X.base CX k C m n ks sp gV) (hr : Room k' X.A) (hk : k ≤ k') (hg : X.A.guards = some []) (hx : Passes CX X E) (ho : PE X o to) (hkw : PK X kws tk)
    (h1 : (backToKw pos (keywordEach kws X.env)).all (·.1.isSome) = true := by rfl) (h2 : (backToKw pos (keywordEach kws X.env)).filterMap (·.1) = ks := by rfl)
    (h5 : ((backTo pos (starEach [] X.env)).any (·.1) || (backToKw pos (keywordEach kws X.env)).any (·.1.isNone)) = false := by rfl)
    (ht : eval (.Call (.Attribute o m apos) [] kws pos) X.env = (do
      let ov ← eval o X.env
      standAt apos.atName
      let (f, first) ← holding [ov] (getMethod ov m pl)
      callWith pos f first (backTo pos (starEach [] X.env)) (backToKw pos (keywordEach kws X.env))) := by rfl) :
    PE X (.Call (.Attribute o m apos) [] kws pos) (tMe C m n ks.length sp gV E to tNil tk) := by
  obtain ⟨⟨f, fd, ps, g, hm, F, kb⟩, cl⟩ := c
  refine ⟨fun pins s σ H Q I h => ?_⟩
  refine PySem.W.methodCall_KW (pl := pl) (thn (ho.run pins s σ H _ I h) fun u s1 ⟨x, H1, I1, rx, a, dx, fs, ex, ea, l, q⟩ => ?_) ht
  subst ex
  obtain rfl : u = Value.ref a := rx
  refine getmeth_ok I1 ea cl hm l ?_
  refine PySem.W.callWith_KW0 (first := [.ref a]) (h₀ := X.base) I.ok.mod.kin hm.kp h1 (thn (hkw.run pos pins s1 σ H1 _ I1 q) ?_) h5
  rintro ws s3 ⟨zs, H3, I3, rz, l1, l2, q3⟩
  refine ⟨I3.kIn, ?_⟩
  rw [h2]
  exact run_gn (us := .ref a :: []) (vs := .ref a :: []) F (hr.mono hk) hg kb hx I3 (.cons rfl .nil) rz (congrArg Nat.succ l1) l2 q3
/-- a make runs __init__ -/
theorem run_mk {f : Addr} {fd : FuncData} {ps : List Str} {g : List Value → List Value → List Value} {pins : List (Addr × Obj)} {σ : L2.St} {H : Hp} {s : Shared} {Q : VK} {us ws : List Value} {vs zs : List V}
    (M : Mk X.K C f) (F : FnG X.prog X.w X.K X.mg X.base CX k f fd ps sp) (hr : Room (k + 1) X.A) (hg : X.A.guards = some []) (hb : KBn X.K fd ps (n + 1) ks g gV)
    (hx : Passes CX X E) (I : Inv X pins σ H s) (r : Vals vs us) (rz : Vals zs ws) (l1 : vs.length = n) (l2 : zs.length = ks.length)
    (h : ∀ x dx, H x = none → H dx = none → dx ≠ x → sp (gV (.ref x :: vs) zs) (upd (upd H dx (.own x)) x (.ins C dx [])) (fun v H2 => v = .non ∧ Q (.ref x) H2) E) :
    wpAny (model X.prog X.w) X.A (call (.ref C) us (ks.zip ws)) (EP X pins σ Q) X.xe s := by
  have hq := h (s.heap.objs.size + 1) s.heap.objs.size (I.hok.fresh (Nat.le_succ _)) (I.hok.fresh (Nat.le_refl _)) (Nat.ne_of_lt (Nat.lt_succ_self _))
  have I2 := Inv.made (C := C) I
  have r1 : Vals (V.ref (s.heap.objs.size + 1) :: vs) (Value.ref (s.heap.objs.size + 1) :: us) := .cons rfl r
  refine wpAny_call (make_map (f := f) I.kIn M.makes M.init (beq_iff_eq.mp M.fn) (codeAny_mono (F.go _ X.stack _ _ ⟨Value.ref (s.heap.objs.size + 1) :: us, ks.zip ws⟩ (g (Value.ref (s.heap.objs.size + 1) :: us) ws) _ _ E (hr.make C us (ks.zip ws)) (guards_make hg)
    (I2.env0.make C us (ks.zip ws)) (hb.to _ (Value.ref (s.heap.objs.size + 1) :: us) ws I2.kIn (r1.length.symm.trans (congrArg Nat.succ l1)) (rz.length.symm.trans l2)) (hb.rel r1 rz) hq) ?_))
  rintro (e | fl) s' z
  · exact hx pins σ _ _ e s' I2 z
  · cases fl with
    | ret u =>
      obtain ⟨v, H', I3, rv, ev, q3⟩ := I2.after z
      subst ev
      exact ⟨rv, ⟨V.ref (s.heap.objs.size + 1), H', I3, rfl, q3⟩⟩
    | _ => exact False.elim z
theorem pe_mk (c : MakeOk X.prog X.w X.K X.mg X.base CX k x n ks sp gV) (hr : Room k' X.A) (hk : k + 1 ≤ k') (hg : X.A.guards = some []) (gl : Gl X x) (hx : Passes CX X E) (ha : PA X (e :: es) t) (hkw : PK X kws tk)
    (h1 : (backToKw pos (keywordEach kws X.env)).all (·.1.isSome) = true := by rfl) (h2 : (backToKw pos (keywordEach kws X.env)).filterMap (·.1) = ks := by rfl)
    (h3 : (x == ("__debug__" : Str)) = false := by decide) (h4 : starEach (e :: es) X.env = (false, eval e X.env) :: starEach es X.env := by rfl)
    (h5 : ((backTo pos (starEach (e :: es) X.env)).any (·.1) || (backToKw pos (keywordEach kws X.env)).any (·.1.isNone)) = false := by rfl) :
    PE X (.Call (.Name x p) (e :: es) kws pos) (tMk (He.ga X.K x) n ks.length sp gV E t tk) := by
  obtain ⟨⟨f, fd, ps, g, M, F, kb⟩, hm⟩ := c
  refine ⟨fun pins s σ H Q I h => ?_⟩
  refine wpAny_Call_Name_kw (ld_glob I gl hm ?_ h3)
  refine PySem.W.callWith_KW (h₀ := X.base) I.ok.mod.kin M.kp h1 (thn (ha.run pos pins s σ H _ I h) ?_) h5 h4
  rintro us s1 ⟨vs, H1, I1, r, q⟩
  refine thn (hkw.run pos pins s1 σ H1 _ I1 q) ?_
  rintro ws s2 ⟨zs, H2, I2, rz, l1, l2, q2⟩
  refine ⟨I2.kIn, ?_⟩
  rw [h2]
  exact run_mk M F (hr.mono hk) hg kb hx I2 r rz l1 l2 q2
theorem pe_mk0 (c : MakeOk X.prog X.w X.K X.mg X.base CX k x n ks sp gV) (hr : Room k' X.A) (hk : k + 1 ≤ k') (hg : X.A.guards = some []) (gl : Gl X x) (hx : Passes CX X E) (hkw : PK X kws tk)
    (h1 : (backToKw pos (keywordEach kws X.env)).all (·.1.isSome) = true := by rfl) (h2 : (backToKw pos (keywordEach kws X.env)).filterMap (·.1) = ks := by rfl)
    (h3 : (x == ("__debug__" : Str)) = false := by decide)
    (h5 : ((backTo pos (starEach [] X.env)).any (·.1) || (backToKw pos (keywordEach kws X.env)).any (·.1.isNone)) = false := by rfl) :
    PE X (.Call (.Name x p) [] kws pos) (tMk (He.ga X.K x) n ks.length sp gV E tNil tk) := by
  obtain ⟨⟨f, fd, ps, g, M, F, kb⟩, hm⟩ := c
  refine ⟨fun pins s σ H Q I h => ?_⟩
  refine wpAny_Call_Name_kw (ld_glob I gl hm ?_ h3)
  refine PySem.W.callWith_KW0 (h₀ := X.base) I.ok.mod.kin M.kp h1 (thn (hkw.run pos pins s σ H _ I h) ?_) h5
  rintro ws s2 ⟨zs, H2, I2, rz, l1, l2, q2⟩
  refine ⟨I2.kIn, ?_⟩
  rw [h2]
  exact run_mk (us := []) (vs := []) M F (hr.mono hk) hg kb hx I2 .nil rz l1 l2 q2
end
section
variable {B : Hp} {M M' L L' : List (Addr × HO)} {σ : St} {H : Hp} {Q : VK} {K : PySem.W.Frag} {to te tv : TE} {tl tk : TA} {C a dx : Addr} {fs fs' : List (Str × V)} {m f : Str} {v y : V}
variable {nx bk ct : St → Hp → Prop} {rt : VK}
/-- fields -/
inductive FGet : List (Str × V) → Str → V → Prop
  | here {f : Str} {v : V} {l : List (Str × V)} : FGet ((f, v) :: l) f v
  | there {f g : Str} {v u : V} {l : List (Str × V)} : (f == g) = false → FGet l f v → FGet ((g, u) :: l) f v
inductive NoF (f : Str) : List (Str × V) → Prop
  | nil : NoF f []
  | cons {g : Str} {u : V} {l : List (Str × V)} : (f == g) = false → NoF f l → NoF f ((g, u) :: l)
theorem FGet.eq (h : FGet fs f v) : fs.lookup f = some v := by
  induction h with
  | here => simp [List.lookup]
  | there hne _ ih =>
    rw [List.lookup_cons, hne]
    exact ih
theorem NoF.eq (h : NoF f fs) : fs.lookup f = none := by
  induction h with
  | nil => rfl
  | cons hne _ ih =>
    rw [List.lookup_cons, hne]
    exact ih
def aMe (C : Addr) (m : Str) (x : V) (H : Hp) (A : Prop) : Prop := ∃ a dx fs, x = .ref a ∧ H a = some (.ins C dx fs) ∧ fs.lookup m = none ∧ A
theorem g_me {n j : Nat} {sp : Sp} {gV : List V → List V → List V} {E : XK} (h : to σ H fun x H1 => aMe C m x H1 (tl σ H1 fun vs H2 => tk σ H2 fun zs H3 => aCl n j sp (fun vs zs => gV (x :: vs) zs) E vs zs H3 Q)) : tMe C m n j sp gV E to tl tk σ H Q := by
  exact h
theorem g_aMe {A : Prop} (h : H a = some (.ins C dx fs)) (n : NoF m fs) (q : A) : aMe C m (.ref a) H A := ⟨a, dx, fs, rfl, h, n.eq, q⟩
def aMk (C : Addr) (n j : Nat) (sp : Sp) (gV : List V → List V → List V) (E : XK) (vs zs : List V) (H2 : Hp) (Q : VK) : Prop := vs.length = n ∧ zs.length = j ∧
  ∀ x dx, H2 x = none → H2 dx = none → dx ≠ x → sp (gV (.ref x :: vs) zs) (upd (upd H2 dx (.own x)) x (.ins C dx [])) (fun v H3 => v = .non ∧ Q (.ref x) H3) E
theorem g_mk {n j : Nat} {sp : Sp} {gV : List V → List V → List V} {E : XK} (h : tl σ H fun vs H1 => tk σ H1 fun zs H2 => aMk C n j sp gV E vs zs H2 Q) : tMk C n j sp gV E tl tk σ H Q := h
theorem g_aMk {n j : Nat} {sp : Sp} {gV : List V → List V → List V} {E : XK} {vs zs : List V} (I : Is B M L H) (h1 : vs.length = n) (h2 : zs.length = j)
    (q : ∀ x dx H', Is B M ((x, .ins C dx []) :: (dx, .own x) :: L) H' → sp (gV (.ref x :: vs) zs) H' (fun v H3 => v = .non ∧ Q (.ref x) H3) E) : aMk C n j sp gV E vs zs H Q :=
  ⟨h1, h2, fun x dx hx hd hne => q x dx _ ((I.new hd).new (by rw [upd_ne (Ne.symm hne)]; exact hx))⟩
/-- o.f -/
def aFld (K : PySem.W.Frag) (f : Str) (x : V) (H1 : Hp) (Q : VK) : Prop := ∃ a C dx fs v, x = .ref a ∧ H1 a = some (.ins C dx fs) ∧ Cls K C ∧ NoAttr K C f ∧ fs.lookup f = some v ∧ Q v H1
theorem g_fld (h : to σ H fun x H1 => aFld K f x H1 Q) : tFld K to f σ H Q := h
theorem g_aFld (h : H a = some (.ins C dx fs)) (c : Cls K C) (n : NoAttr K C f) (g : FGet fs f v) (q : Q v H) : aFld K f (.ref a) H Q := ⟨a, C, dx, fs, v, rfl, h, c, n, g.eq, q⟩
/-- o.f = v -/
def aSetF (K : PySem.W.Frag) (f : Str) (y x : V) (H2 : Hp) (QH : Hp → Prop) : Prop := ∃ a C dx fs, x = .ref a ∧ H2 a = some (.ins C dx fs) ∧ Cls K C ∧ NoAttr K C f ∧ fs.length < 1000 ∧ QH (upd H2 a (.ins C dx (putF f y fs)))
theorem g_setF (h : tv σ H fun y H1 => to σ H1 fun x H2 => aSetF K f y x H2 fun H3 => nx σ H3) : sFld K to tv f ⟨nx, rt, bk, ct⟩ σ H := h
/-- a field is put -/
inductive FPut (f : Str) (v : V) : List (Str × V) → List (Str × V) → Prop
  | nil : FPut f v [] [(f, v)]
  | here {u : V} {l : List (Str × V)} : FPut f v ((f, u) :: l) ((f, v) :: l)
  | there {g : Str} {u : V} {l l' : List (Str × V)} : ¬ g = f → FPut f v l l' → FPut f v ((g, u) :: l) ((g, u) :: l')
theorem FPut.eq (h : FPut f v fs fs') : putF f v fs = fs' := by
  induction h with
  | nil => rfl
  | here => exact if_pos rfl
  | there hne _ ih =>
    show (if _ = _ then _ else _) = _
    rw [if_neg hne, ih]
theorem g_aSetF {QH : Hp → Prop} (I : Is B M L H) (h : H a = some (.ins C dx fs)) (c : Cls K C) (n : NoAttr K C f) (hz : fs.length < 100) (fp : FPut f y fs fs') (u : Put a (.ins C dx fs') L L') (q : ∀ H', Is B M L' H' → QH H') : aSetF K f y (.ref a) H QH :=
  ⟨a, C, dx, fs, rfl, h, c, n, by omega, q _ (by rw [fp.eq]; exact I.put u)⟩
theorem g_par3 {i j l : Nat} (h : tl σ H fun vs H1 => ∃ u v w, vs = [u, v, w] ∧ nx (((σ.set i (some u)).set j (some v)).set l (some w)) H1) : tPar3 i j l tl ⟨nx, rt, bk, ct⟩ σ H := h
theorem g_par3b {i j l : Nat} {σ1 σ2 σ3 : St} {u v w : V} (s1 : SetAt σ i (some u) σ1) (s2 : SetAt σ1 j (some v) σ2) (s3 : SetAt σ2 l (some w) σ3) (q : nx σ3 H) :
    ∃ u' v' w', [u, v, w] = [u', v', w'] ∧ nx (((σ.set i (some u')).set j (some v')).set l (some w')) H := by
  refine ⟨u, v, w, rfl, ?_⟩
  rw [s1.eq, s2.eq, s3.eq]
  exact q
/-- a power of written numbers -/
theorem g_pow {a b c : Int} (h : CPow a b) (e : a ^ b.toNat = c) (q : Q (.int c) H) : rI CPow (fun i j => .int (i ^ j.toNat)) (.int a) (.int b) H Q := ⟨a, b, rfl, rfl, h, by subst e; exact q⟩
/-- x op= e -/
theorem g_aug {i : Nat} {ti : TIp} {x : V} (h : At σ i x) (q : te σ H fun y H1 => ti x y H1 fun z H2 => nx (σ.set i (some z)) H2) : tAug i te ti ⟨nx, rt, bk, ct⟩ σ H := ⟨x, h.eq, q⟩
theorem g_set {σ' : St} {i : Nat} (s : SetAt σ i (some v) σ') (q : nx σ' H) : nx (σ.set i (some v)) H := by
  rw [s.eq]
  exact q
end
end Bz
namespace Bz
open PySem PySem.Spec PyProof.Rows L2
open AutoSeq1 (wpAny_loadPart')
theorem enum_newT (l : Addr) (items : Array Value) (n : Nat) (dct : Option Addr) (sl : Array (Option Value)) :
    Meets (Builtin.«enumerate.__new__» ⟨[.type "enumerate", .ref l], []⟩) (fun _ R s => s.heap.get? l = some { cls := .type "tuple", dict := dct, data := .seq items n, slots := sl } ∧
      R (.ok (.ret (.ref (s.heap.push { cls := .type "tuple_iterator", data := .fields #[.ref l, .int 0 0] }).objs.size)))
        { s with heap := (s.heap.push { cls := .type "tuple_iterator", data := .fields #[.ref l, .int 0 0] }).push { cls := .type "enumerate", data := .fields #[.none, .bool false, .ref s.heap.objs.size, rawInt 0, .none, .none] } }) :=
  .of_wp fun prog w A R s h => by
    obtain ⟨hp, g, d, tk, os⟩ := s
    obtain ⟨hl, h⟩ := h
    have hsub := sub_enumerate
    have hT : Heap.IsTuple (Shared.heap ⟨hp, g, d, tk, os⟩) l items := ⟨_, hl, rfl, n, rfl⟩
    wp_walk using wpAny_loadPart' hl
    refine wpAny_stack_any fun st => wpAny_pure ?_
    split
    · rename_i c _ _ _ _ _
      cases (c == Value.type "enumerate")
      · wp_walk using wpAny_loadPart' hl, wpAny_pyIter_tuple hT
        exact ⟨_, rfl, h⟩
      · wp_walk using wpAny_loadPart' hl, wpAny_pyIter_tuple hT
        exact ⟨_, rfl, h⟩
    · wp_walk using wpAny_loadPart' hl, wpAny_pyIter_tuple hT
      exact ⟨_, rfl, h⟩
theorem call_enumT {prog : Program} {w : World} {A : Around} {E : Value → Shared → Prop} {s : Shared} {l : Addr} {items : Array Value} {Q : Value → Shared → Prop} (hL : s.heap.IsTuple l items)
    (h : ∀ h', IsEnum h' (s.heap.objs.size + 1) s.heap.objs.size 0 .none → h'.IsTupleIter s.heap.objs.size l 0 → h'.objs.size = s.heap.objs.size + 2 →
      (∀ b o, s.heap.get? b = some o → h'.get? b = some o) → Q (.ref (s.heap.objs.size + 1)) { s with heap := h' }) :
    wpAny (model prog w) A (call (.type "enumerate") [.ref l]) Q E s := by
  obtain ⟨⟨c, dct, dt, sl⟩, hl, hc, n, hd⟩ := hL
  replace hc : c = .type "tuple" := hc
  replace hd : dt = .seq items n := hd
  subst hc hd
  refine callType_new F.called_enumerate (by decide) (F.typeCall_enumerate_1 _) (F.newCall_enumerate_1 _) (fun obj => F.args_object_init_2 obj _) F.entry_enumerate_new
    (enum_newT l items n dct sl) ⟨hl, ?_⟩
  have hz : (s.heap.push { cls := .type "tuple_iterator", data := .fields #[.ref l, .int 0 0] }).objs.size = s.heap.objs.size + 1 := Heap.size_push ..
  show _ ∧ _
  rw [hz]
  have he : IsEnum ((s.heap.push { cls := .type "tuple_iterator", data := .fields #[.ref l, .int 0 0] }).push
      { cls := .type "enumerate", data := .fields #[.none, .bool false, .ref s.heap.objs.size, rawInt 0, .none, .none] }) (s.heap.objs.size + 1) s.heap.objs.size 0 .none := by
    have z := Heap.get?_push_size (s.heap.push { cls := .type "tuple_iterator", data := .fields #[.ref l, .int 0 0] })
      (o := { cls := .type "enumerate", data := .fields #[.none, .bool false, .ref s.heap.objs.size, rawInt 0, .none, .none] }) rfl
    rw [hz] at z
    exact z
  exact ⟨⟨_, he, rfl⟩, h _ he ⟨_, Heap.get?_push_of_some _ (Heap.get?_push_size _ rfl), rfl, rfl⟩ (by rw [Heap.size_push, hz]) fun b o x => Heap.get?_push_of_some _ (Heap.get?_push_of_some _ x)⟩
/-- the tuple at a, each item in a new pair -/
def IteT (K : PySem.W.Frag) (a : Addr) : It :=
  ⟨fun i H => ∃ (xs : List V) (x : V), SqT K H a xs ∧ xs[i]? = some x, fun i H v H' => ∃ T x, v = .ref T ∧ H T = none ∧ H' = upd H T (.tup [.int (i : Nat), x]) ∧ ∀ xs, SqT K H a xs → xs[i]? = some x, fun i H => ∃ xs : List V, SqT K H a xs ∧ xs.length ≤ i⟩
theorem turn_enumT {P : Program} {w : World} {K : PySem.W.Frag} {elts : List Expr} {kk : Nat} {tpos : Pos} (a e it : Addr) :
    Turn P w K (.Tuple elts kk tpos) (IteT K a) [e, it] e (fun i h => (∃ old, IsEnum h e it ((i : Nat) : Int) old) ∧ h.IsTupleIter it a i ∧ e ≠ it ∧ a ≠ it ∧ e ≠ a) where
  mem := by simp
  obj := fun i h st b hb => by
    obtain ⟨⟨old, he⟩, ⟨o, ho, hc, hd⟩, _⟩ := st
    have e' : b = e ∨ b = it := by simpa using hb
    rcases e' with z | z
    · rw [z]
      exact ⟨_, he, fun v q => nomatch q⟩
    · rw [z]
      exact ⟨o, ho, fun v q => by rw [hd] at q; cases q⟩
  keep := fun i h h' st k => let ⟨⟨old, he⟩, hi, hne⟩ := st; ⟨⟨old, k e (by simp) _ he⟩, hi.at fun o q => k it (by simp) o q, hne⟩
  item := by
    intro X hP hw hK hc i pins s σ H E I hf st hg
    subst hP hw hK
    obtain ⟨⟨old, he⟩, hit, hne, hai, hea⟩ := st
    obtain ⟨xs, x, hq, hx⟩ := hg
    obtain ⟨its, rv, p, hz⟩ := I.tuple hq
    obtain ⟨u, hu, ru⟩ := rv.get hx
    have hel : e < s.heap.objs.size := Heap.lt_size he
    have hil : it < s.heap.objs.size := by obtain ⟨_, q, _⟩ := hit; exact Heap.lt_size q
    have hu2 : its.toArray[i]? = some u := by simpa using hu
    have hlt : i < its.toArray.size := by
      rcases Nat.lt_or_ge i its.toArray.size with z | z
      · exact z
      · rw [Array.getElem?_eq_none z] at hu2
        cases hu2
    refine wpAny_pyNext_enum_itemD (Draws.tuple (show X.A.in1.handled = none from I.ok.hd hc) it a hai its.toArray) he ⟨hit, p⟩ hlt hne (by simpa using ⟨hne, hea⟩) fun y h' tk' hy ho hst hT hsz hk => ?_
    have hyu : y = u := by
      have := hy.symm.trans hu2
      exact Option.some.inj this
    subst hyu
    refine ⟨_, rfl, wpAny_letOwnedTupleGo_enum (s := { s with heap := h', toks := tk' + 1 }) ho fun h'' he' sb => ?_⟩
    have hT2 : h''.get? s.heap.objs.size = some { cls := .type "tuple", data := .seq #[.int i tk', y] } := (sb.2 _ (Nat.ne_of_gt hel)).trans hT
    have new : ObjOk X.prog X.w (upd H s.heap.objs.size (.tup [.int (i : Nat), x])) h'' s.heap.objs.size (.tup [.int (i : Nat), x]) :=
      ⟨by show 2 ≤ sizeLine; decide, [.int i tk', y], .cons ⟨_, rfl⟩ (.cons ru .nil), ⟨_, hT2, rfl, _, rfl⟩⟩
    have I1 : Inv X pins σ (upd H s.heap.objs.size (.tup [.int (i : Nat), x])) { s with heap := h'', toks := tk' + 1 } :=
      I.turnedNew (ch := [e, it]) (fun b ob hb q => (sb.2 b (fun z => hb (by simp [z]))).trans (hk b ob (fun z => hb (by simp [z])) (fun z => hb (by simp [z])) q)) hf (Nat.le_refl _) new
    refine ⟨.ref s.heap.objs.size, _, I1, rfl, ⟨_, x, rfl, I.hok.fresh (Nat.le_refl _), rfl, fun ys hy => by rw [I.tuple_inj hy hq]; exact hx⟩, ⟨⟨y, ?_⟩, hst.1.at fun o q => (sb.2 it (Ne.symm hne)).trans q, hne, hai, hea⟩, fun b hb => ?_⟩
    · have e1 : ((i + 1 : Nat) : Int) = (i : Int) + 1 := by omega
      rw [e1]
      exact he'
    · have hb' : b < s.heap.objs.size := by
        have e' : b = e ∨ b = it := by simpa using hb
        rcases e' with z | z
        · rw [z]
          exact hel
        · rw [z]
          exact hil
      rw [upd_ne (Nat.ne_of_lt hb')]
      exact (hf b hb).1
  done := by
    intro X hP hw hK hc i pins s σ H E I hf st hg
    subst hP hw hK
    obtain ⟨⟨old, he⟩, hit, hne, hai, hea⟩ := st
    obtain ⟨xs, hq, hx⟩ := hg
    obtain ⟨its, rv, p, hz⟩ := I.tuple hq
    obtain ⟨f0, f1, f2, f3, f4, f5⟩ := hf it (by simp)
    have hl := rv.length
    have hd : X.A.in1.handled = none := I.ok.hd hc
    unfold pyNext
    have hTy : s.TypeIs (.ref e) "enumerate" := ⟨_, he, rfl⟩
    refine wpAny_bind (wpAny_attempt (wpAny_callSpecial?_slot (name := Str.ofString "__next__") hTy F.slot_enumerate_next
      (wpAny_call_entry F.slot_enumerate_next hTy F.entry_enumerate_next ?_ (F.args_enumerate_next_1 _))))
    show wpAny _ _ (field (.ref e) 2 >>= _) _ _ _
    refine wpAny_bind (wpAny_field he rfl (x := .ref it) rfl ?_)
    refine wpAny_bind (wpAny_nextOf_tuple_end hd hit p (by simp; omega) fun h' x eb hx' => ?_)
    obtain ⟨o, ho, hc2⟩ := hx'
    refine wpAny_bind (wpAny_isInstance (T := "StopIteration") (b := true) ⟨o, ho, hc2⟩ isSubtype_stop ?_)
    exact wpAny_pure ⟨rfl, I.turned (t' := s.toks) (fun b o hb q => eb b o hb q) f0 f1 f3 f4 f5⟩
  self := fun A i s Q E st h => let ⟨⟨_, he⟩, _⟩ := st; wpAny_pyIter_enum he h
/-- enumerate of a list or of a tuple -/
def iEnumA (K : PySem.W.Frag) (ta : TA) : TI := fun σ H R => ta σ H fun vs H1 => ∃ a xs, vs = [.ref a] ∧ ((SqL K H1 a xs ∧ R (Ite K a) H1) ∨ (SqT K H1 a xs ∧ R (IteT K a) H1))
theorem pi_enumA {X : Cx} {e : Expr} {ta : TA} {p pos tpos : Pos} {elts : List Expr} {kk : Nat} (hg : Gl X "enumerate") (hm : X.mg "enumerate" = none) (ha : PA X [e] ta) (hs : starEach [e] X.env = [(false, eval e X.env)] := by rfl) :
    PI X (.Tuple elts kk tpos) (.Call (.Name "enumerate" p) [e] [] pos) (iEnumA X.K ta) := by
  refine ⟨fun pins s σ H R I h => ?_⟩
  refine Call_ (ld_blt I hg hm boot_enumerate (PyProof.Rows.callWith_type1 (thn (ha.run pos pins s σ H _ I h) fun us s1 ⟨vs, H1, I1, r1, q1⟩ => ?_) hs rfl))
  obtain ⟨a, xs, ex, q⟩ := q1
  subst ex
  cases r1 with
  | cons r rr =>
    cases rr
    cases r
    have hb : ∀ {b : Addr}, b = s1.heap.objs.size + 1 ∨ b = s1.heap.objs.size → s1.heap.objs.size ≤ b := fun {b} e' => by
      rcases e' with z | z
      · rw [z]
        exact Nat.le_add_right _ _
      · rw [z]
        exact Nat.le_refl _
    rcases q with ⟨hq, q⟩ | ⟨hq, q⟩
    · obtain ⟨its, rv, p', hz⟩ := I1.list hq
      refine call_enumerate_list p'.isList fun h' he hit hsz hk => wpAny_pyIter_enum he ?_
      have I2 : Inv X pins σ H1 { s1 with heap := h' } := I1.kept (t' := s1.toks) hk
      refine ⟨s1.heap.objs.size + 1, [s1.heap.objs.size + 1, s1.heap.objs.size], _, _, H1, rfl, I2, turn_enum a (s1.heap.objs.size + 1) s1.heap.objs.size, ⟨⟨.none, he⟩, hit, Nat.succ_ne_self _⟩, fun b hbm => ?_, q⟩
      have hle := hb (by simpa using hbm)
      exact I1.fpOk hle (I1.hok.fresh hle)
    · obtain ⟨its, rv, p', hz⟩ := I1.tuple hq
      have hal : a < s1.heap.objs.size := by
        obtain ⟨o, ho, _⟩ := p'
        exact Heap.lt_size ho
      refine call_enumT p' fun h' he hit hsz hk => wpAny_pyIter_enum he ?_
      have I2 : Inv X pins σ H1 { s1 with heap := h' } := I1.kept (t' := s1.toks) hk
      refine ⟨s1.heap.objs.size + 1, [s1.heap.objs.size + 1, s1.heap.objs.size], _, _, H1, rfl, I2, turn_enumT a (s1.heap.objs.size + 1) s1.heap.objs.size, ⟨⟨.none, he⟩, hit, Nat.succ_ne_self _, Nat.ne_of_lt hal, fun z => absurd hal (by rw [← z]; exact Nat.not_lt_of_le (Nat.le_add_right _ _))⟩, fun b hbm => ?_, q⟩
      have hle := hb (by simpa using hbm)
      exact I1.fpOk hle (I1.hok.fresh hle)
end Bz
namespace Bz
open PySem PySem.Spec PyProof.Rows L2
def rMax2 : List V → Hp → VK → Prop := fun xs H Q => ∃ i j, xs = [.int i, .int j] ∧ Q (.int (if j > i then j else i)) H
def rMin2 : List V → Hp → VK → Prop := fun xs H Q => ∃ i j, xs = [.int i, .int j] ∧ Q (.int (if j < i then j else i)) H
def rTupOf (K : PySem.W.Frag) : List V → Hp → VK → Prop := fun xs H Q => ∃ p ys, xs = [.ref p] ∧ ((SqL K H p ys ∧ ∀ l, H l = none → Q (.ref l) (upd H l (.tup ys))) ∨ (SqT K H p ys ∧ Q (.ref p) H))
section
variable {X : Cx}
theorem cl_max2 (hc : X.calm = true) : CallR X (.builtin "max") rMax2 := call_max2 hc
theorem cl_min2 (hc : X.calm = true) : CallR X (.builtin "min") rMin2 := call_min2 hc
end
section
variable {B : Hp} {M M' L L' : List (Addr × HO)} {σ : St} {H : Hp} {Q : VK} {K : PySem.W.Frag} {tl : TA} {R : It → Hp → Prop} {a b p : Addr} {xs ys : List V} {i j : Int}
theorem imax (i j : Int) : (if j > i then j else i) = max i j := by
  by_cases h : j > i
  · rw [if_pos h]
    omega
  · rw [if_neg h]
    omega
theorem imin (i j : Int) : (if j < i then j else i) = min i j := by
  by_cases h : j < i
  · rw [if_pos h]
    omega
  · rw [if_neg h]
    omega
theorem g_max2 (q : Q (.int (max i j)) H) : rMax2 [.int i, .int j] H Q := ⟨i, j, rfl, by rw [imax]; exact q⟩
theorem g_min2 (q : Q (.int (min i j)) H) : rMin2 [.int i, .int j] H Q := ⟨i, j, rfl, by rw [imin]; exact q⟩
theorem g_tupOf (I : Is B M L H) (h : SqL K H a xs) (q : ∀ p H', Is B M ((p, .tup xs) :: L) H' → Q (.ref p) H') : rTupOf K [.ref a] H Q := ⟨a, xs, rfl, .inl ⟨h, fun p hp => q p _ (I.new hp)⟩⟩
theorem g_listOfL (I : Is B M L H) (h : SqL K H a xs) (q : ∀ p H', Is B M ((p, .lst xs) :: L) H' → Q (.ref p) H') : rListOf K [.ref a] H Q := ⟨a, xs, rfl, .inl h, fun p hp => q p _ (I.new hp)⟩
theorem g_listOfT (I : Is B M L H) (h : SqT K H a xs) (q : ∀ p H', Is B M ((p, .lst xs) :: L) H' → Q (.ref p) H') : rListOf K [.ref a] H Q := ⟨a, xs, rfl, .inr h, fun p hp => q p _ (I.new hp)⟩
theorem g_sum {ns : List Int} (h : SqL K H a (ns.map V.int)) (q : Q (.int ns.sum) H) : rSum K [.ref a] H Q := ⟨a, ns, rfl, h, q⟩
theorem g_sortedI {ns : List Int} (I : Is B M L H) (h : SqL K H a (ns.map V.int)) (q : ∀ (ns' : List Int) p H', ns'.Perm ns → ns'.Pairwise (· ≤ ·) → Is B M ((p, .lst (ns'.map V.int)) :: L) H' → Q (.ref p) H') : rSortedI K [.ref a] H Q :=
  ⟨a, ns, rfl, h, fun ns' p h1 h2 hp => q ns' p _ h1 h2 (I.new hp)⟩
def aEnumA (K : PySem.W.Frag) (vs : List V) (H : Hp) (R : It → Hp → Prop) : Prop := ∃ a xs, vs = [.ref a] ∧ ((SqL K H a xs ∧ R (Ite K a) H) ∨ (SqT K H a xs ∧ R (IteT K a) H))
theorem g_enumA (h : tl σ H fun vs H1 => aEnumA K vs H1 R) : iEnumA K tl σ H R := h
theorem g_aEnumL (h : SqL K H a xs) (q : R (Ite K a) H) : aEnumA K [.ref a] H R := ⟨a, xs, rfl, .inl ⟨h, q⟩⟩
theorem g_aEnumT (h : SqT K H a xs) (q : R (IteT K a) H) : aEnumA K [.ref a] H R := ⟨a, xs, rfl, .inr ⟨h, q⟩⟩
def aZipA (K : PySem.W.Frag) (vs : List V) (H : Hp) (R : It → Hp → Prop) : Prop := ∃ a b xs ys, vs = [.ref a, .ref b] ∧ ((SqL K H a xs ∧ SqL K H b ys ∧ R (Itz K a b) H) ∨ (SqT K H a xs ∧ SqT K H b ys ∧ R (RZ.ItzT K a b) H))
theorem g_zipA (h : tl σ H fun vs H1 => aZipA K vs H1 R) : RZ.iZipA K tl σ H R := h
theorem g_aZipL (h : SqL K H a xs) (h2 : SqL K H b ys) (q : R (Itz K a b) H) : aZipA K [.ref a, .ref b] H R := ⟨a, b, xs, ys, rfl, .inl ⟨h, h2, q⟩⟩
theorem g_aZipT (h : SqT K H a xs) (h2 : SqT K H b ys) (q : R (RZ.ItzT K a b) H) : aZipA K [.ref a, .ref b] H R := ⟨a, b, xs, ys, rfl, .inr ⟨h, h2, q⟩⟩
theorem g_ipI {f : Int → Int → Int} (q : Q (.int (f i j)) H) : ipI f (.int i) (.int j) H Q := ⟨i, j, rfl, rfl, q⟩
end
end Bz
namespace Bz
open PySem PySem.Spec PyProof.Rows L2
section
variable {B : Hp} {M L : List (Addr × HO)} {σ σ0 : St} {H : Hp} {Q : VK} {te : TE} {g : TG} {J : It} {vs : List Nat} {xs : List V}
theorem take_snocI {α : Type} {l : List α} {i : Nat} {a : α} (h : l[i]? = some a) : l.take (i + 1) = l.take i ++ [a] := by
  rw [List.take_add_one, h]
  rfl
/-- a comprehension without a test whose items ys are known one by one -/
theorem g_lcI {G : Hp → Prop} {n : Nat} (ys : List V) (hn : ys.length = n) {Y : Nat → Hp → V → Hp → Prop} (w : Walk J n G Y) (I : Is B M L H) (hw : Wiped σ vs σ0) (hz : n ≤ 900000)
    (hG : ∀ D acc H', Is B M ((D, .lst acc) :: L) H' → G H')
    (hs : ∀ (i : Nat) (x y : V) (D : Addr) (acc : List V) (H' H'' : Hp), i < n → Y i H' x H'' → ys[i]? = some y → Is B M ((D, .lst acc) :: L) H' → ∀ (PY : V → Hp → Prop), (∀ H4, Is B M ((D, .lst acc) :: L) H4 → PY y H4) →
      g x σ0 H'' fun σ2 H2 => wipe σ2 vs = σ0 ∧ te σ2 H2 fun z H4 => PY z H4)
    (hd : ∀ D H', Is B M ((D, .lst ys) :: L) H' → Q (.ref D) H') : aLc J g tYes te vs σ H Q := by
  refine g_aLc w I hw hz (fun i acc B' M' => B = B' ∧ M = M' ∧ acc = ys.take i) ⟨rfl, rfl, rfl⟩ ?_ ?_ ?_
  · rintro i acc B' M' D H' _ s I' ⟨rfl, rfl, rfl⟩
    exact hG D _ H' I'
  · rintro i x acc B' M' D H' H'' hi s I' ⟨rfl, rfl, e⟩ y hl
    obtain ⟨z, hz⟩ : ∃ z, ys[i]? = some z := ⟨_, List.getElem?_eq_getElem (by omega)⟩
    have := hs i x z D acc H' H'' hi y hz I' (LcY (fun i acc B' M' => B = B' ∧ M = M' ∧ acc = ys.take i) B L D i) fun H4 I4 => lcY s I4 hl ⟨rfl, rfl, by rw [take_snocI hz, e]⟩
    exact this
  · rintro acc B' M' D H' s I' ⟨rfl, rfl, rfl⟩ _
    rw [List.take_of_length_le (by omega)] at I'
    exact hd D H' I'
/-- the same, over a list or a tuple -/
theorem g_lcX {G : Hp → Prop} (ys : List V) (hn : ys.length = xs.length) (w : Walk J xs.length G (YAt xs)) (I : Is B M L H) (hw : Wiped σ vs σ0) (hz : xs.length ≤ 900000)
    (hG : ∀ D acc H', Is B M ((D, .lst acc) :: L) H' → G H')
    (hs : ∀ (i : Nat) (x y : V) (D : Addr) (acc : List V) (H' : Hp), xs[i]? = some x → ys[i]? = some y → Is B M ((D, .lst acc) :: L) H' → ∀ (PY : V → Hp → Prop), (∀ H4, Is B M ((D, .lst acc) :: L) H4 → PY y H4) →
      g x σ0 H' fun σ2 H2 => wipe σ2 vs = σ0 ∧ te σ2 H2 fun z H4 => PY z H4)
    (hd : ∀ D H', Is B M ((D, .lst ys) :: L) H' → Q (.ref D) H') : aLc J g tYes te vs σ H Q := by
  refine g_lcI ys hn w I hw hz hG ?_ hd
  rintro i x y D acc H' H'' hi ⟨rfl, hx⟩ hy I' PY q
  exact hs i x y D acc _ hx hy I' PY q
end
inductive All2 {α β : Type} (F : α → β → Prop) : List α → List β → Prop
  | nil : All2 F [] []
  | cons {a : α} {b : β} {l : List α} {m : List β} : F a b → All2 F l m → All2 F (a :: l) (b :: m)
section
variable {α β : Type} {F G : α → β → Prop}
theorem All2.mono (h : ∀ a b, F a b → G a b) : ∀ {l : List α} {m : List β}, All2 F l m → All2 G l m
  | _, _, .nil => .nil
  | _, _, .cons h1 t => .cons (h _ _ h1) (t.mono h)
theorem All2.len : ∀ {l : List α} {m : List β}, All2 F l m → l.length = m.length
  | _, _, .nil => rfl
  | _, _, .cons _ t => by rw [List.length_cons, List.length_cons, t.len]
theorem All2.get : ∀ {l : List α} {m : List β} {i : Nat} {x : α}, All2 F l m → l[i]? = some x → ∃ y, m[i]? = some y ∧ F x y
  | _, _, 0, _, .cons h _, e => by
    cases e
    exact ⟨_, rfl, h⟩
  | _, _, i + 1, _, .cons _ t, e => t.get (i := i) e
theorem All2.get' : ∀ {l : List α} {m : List β} {i : Nat} {y : β}, All2 F l m → m[i]? = some y → ∃ x, l[i]? = some x ∧ F x y
  | _, _, 0, _, .cons h _, e => by
    cases e
    exact ⟨_, rfl, h⟩
  | _, _, i + 1, _, .cons _ t, e => t.get' (i := i) e
theorem All2.mem {l : List α} {m : List β} {x : α} (h : All2 F l m) (hx : x ∈ l) : ∃ y ∈ m, F x y := by
  obtain ⟨i, e⟩ := List.getElem?_of_mem hx
  obtain ⟨y, e2, f⟩ := h.get e
  exact ⟨y, List.mem_of_getElem? e2, f⟩
theorem All2.app : ∀ {l l' : List α} {m m' : List β}, All2 F l m → All2 F l' m' → All2 F (l ++ l') (m ++ m')
  | _, _, _, _, .nil, h => h
  | _, _, _, _, .cons h t, h2 => .cons h (t.app h2)
theorem All2.snoc {l : List α} {m : List β} {x : α} {y : β} (h : All2 F l m) (h2 : F x y) : All2 F (l ++ [x]) (m ++ [y]) := h.app (.cons h2 .nil)
end
end Bz
namespace Bz
open PySem PySem.Spec PyProof.Rows L2
/-- a op1 b op2 c op3 d -/
def tChain3 (r r' r3 : R2) (ta tb tc td : TE) : TE := fun σ H Q => ta σ H fun x H1 => tb σ H1 fun y H2 => r x y H2 fun z H3 => aIfV z H3
  (fun H3 => tc σ H3 fun w H4 => r' y w H4 fun z2 H5 => aIfV z2 H5 (fun H5 => td σ H5 fun v H6 => r3 w v H6 Q) fun H5 => Q (.bl false) H5) fun H3 => Q (.bl false) H3
theorem g_chain3 {σ : St} {H : Hp} {Q : VK} {ta tb tc td : TE} {r r' r3 : R2} (h : ta σ H fun x H1 => tb σ H1 fun y H2 => r x y H2 fun z H3 => aIfV z H3
  (fun H3 => tc σ H3 fun w H4 => r' y w H4 fun z2 H5 => aIfV z2 H5 (fun H5 => td σ H5 fun v H6 => r3 w v H6 Q) fun H5 => Q (.bl false) H5) fun H3 => Q (.bl false) H3) : tChain3 r r' r3 ta tb tc td σ H Q := h
end Bz
namespace Bz
open PySem PySem.Spec PyProof.Rows L2
abbrev IsTri (h : Heap) (T : Addr) (a b c : Value) : Prop := h.get? T = some { cls := .type "tuple", data := .seq #[a, b, c] }
section
variable {prog : Program} {w : World} {A : Around} {E : Value → Shared → Prop} {s : Shared} {n l1 l2 l3 : Nat}
/-- a zip of three lists that has given k threes: its parts lie one behind the other from n on -/
structure Z3 (h : Heap) (n l1 l2 l3 k : Nat) : Prop where
  z : IsZip h (n + 5) (n + 3) (n + 4) .none
  ti : IsTri h (n + 3) (.ref n) (.ref (n + 1)) (.ref (n + 2))
  to : ∃ a b c, IsTri h (n + 4) a b c
  i1 : h.IsListIter n l1 k
  i2 : h.IsListIter (n + 1) l2 k
  i3 : h.IsListIter (n + 2) l3 k
  h1 : l1 < n
  h2 : l2 < n
  h3 : l3 < n
end
section
variable {prog : Program} {w : World} {A : Around} {E : Value → Shared → Prop} {s : Shared}
end
/-- the lists at a, b, c as they stand at each turn, the items in new tuples of three -/
def Itz3 (K : PySem.W.Frag) (a b c : Addr) : It :=
  ⟨fun i H => ∃ (xs ys zs : List V) (x y z : V), SqL K H a xs ∧ SqL K H b ys ∧ SqL K H c zs ∧ xs[i]? = some x ∧ ys[i]? = some y ∧ zs[i]? = some z,
    fun i H v H' => ∃ T x y z, v = .ref T ∧ H T = none ∧ H' = upd H T (.tup [x, y, z]) ∧ (∀ xs, SqL K H a xs → xs[i]? = some x) ∧ (∀ ys, SqL K H b ys → ys[i]? = some y) ∧ ∀ zs, SqL K H c zs → zs[i]? = some z,
    fun i H => ∃ xs : List V, SqL K H a xs ∧ xs.length ≤ i⟩
def aZip3 (K : PySem.W.Frag) (vs : List V) (H : Hp) (R : It → Hp → Prop) : Prop := ∃ a b c xs ys zs, vs = [.ref a, .ref b, .ref c] ∧ SqL K H a xs ∧ SqL K H b ys ∧ SqL K H c zs ∧ R (Itz3 K a b c) H
def iZip3 (K : PySem.W.Frag) (ta : TA) : TI := fun σ H R => ta σ H fun vs H1 => aZip3 K vs H1 R
section
variable {K : PySem.W.Frag} {a b c : Addr} {xs ys zs : List V} {tl : TA} {σ : St} {H : Hp} {R : It → Hp → Prop}
theorem g_zip3 (h : tl σ H fun vs H1 => aZip3 K vs H1 R) : iZip3 K tl σ H R := h
theorem g_aZip3 (h : SqL K H a xs) (h2 : SqL K H b ys) (h3 : SqL K H c zs) (q : R (Itz3 K a b c) H) : aZip3 K [.ref a, .ref b, .ref c] H R := ⟨a, b, c, xs, ys, zs, rfl, h, h2, h3, q⟩
end
end Bz
namespace Bz
open PySem PySem.Spec PyProof.Rows L2
section
variable {prog : Program} {w : World} {A : Around} {E : Value → Shared → Prop} {s : Shared}
end
section
variable {K : PySem.W.Frag} {H : Hp} {Q : VK} {a : Addr} {ns : List Int} {i : Int} {σ : St} {r : List V → List V → Hp → VK → Prop} {t tk : TA}
theorem g_ckw (h : t σ H fun vs H1 => tk σ H1 fun zs H2 => r vs zs H2 Q) : tCKw r t tk σ H Q := h
end
end Bz
namespace Bz
open PySem PySem.Spec PyProof.Rows L2
section
variable {B : Hp} {M L : List (Addr × HO)} {σ σ0 : St} {H : Hp} {Q : VK} {te : TE} {g : TG} {J : It} {vs : List Nat} {xs : List V}
/-- a comprehension that neither draws nor changes, told by rows l that stand beside: (l.filter p).map f -/
theorem g_lcF {α : Type} (l : List α) (hl : l.length = xs.length) {G : Hp → Prop} {tt : TT} (w : Walk J xs.length G (YAt xs)) (I : Is B M L H) (hw : Wiped σ vs σ0) (hz : xs.length ≤ 900000) (p : α → Bool) (f : α → V)
    (hG : ∀ D acc H', Is B M ((D, .lst acc) :: L) H' → G H')
    (hs : ∀ (i : Nat) (x : V) (r : α) (D : Addr) (acc : List V) (H' : Hp), xs[i]? = some x → l[i]? = some r → Is B M ((D, .lst acc) :: L) H' → ∀ (PY : V → Hp → Prop) (PN : Hp → Prop), (∀ H4, p r = true → Is B M ((D, .lst acc) :: L) H4 → PY (f r) H4) → (∀ H3, p r = false → Is B M ((D, .lst acc) :: L) H3 → PN H3) →
      g x σ0 H' fun σ2 H2 => wipe σ2 vs = σ0 ∧ tt σ2 H2 fun b H3 => if b = true then te σ2 H3 fun y H4 => PY y H4 else PN H3)
    (hd : ∀ D H', Is B M ((D, .lst ((l.filter p).map f)) :: L) H' → Q (.ref D) H') : aLc J g tt te vs σ H Q := by
  refine g_aLc w I hw hz (fun i acc B' M' => B' = B ∧ M' = M ∧ acc = ((l.take i).filter p).map f) ⟨rfl, rfl, rfl⟩ ?_ ?_ ?_
  · rintro i acc B' M' D H' _ s I' ⟨rfl, rfl, rfl⟩
    exact hG D _ H' I'
  · rintro i x acc B' M' D H' H'' hi s I' ⟨rfl, rfl, e⟩ ⟨rfl, hx⟩ hle
    obtain ⟨r, hr⟩ : ∃ r, l[i]? = some r := ⟨_, List.getElem?_eq_getElem (by omega)⟩
    refine hs i x r D acc H'' hx hr I' _ _ (fun H4 hp I4 => lcY s I4 hle ⟨rfl, rfl, ?_⟩) fun H3 hp I3 => lcN s I3 hle ⟨rfl, rfl, ?_⟩
    · rw [take_snocI hr, List.filter_append, List.map_append, e, List.filter_cons, if_pos hp]
      rfl
    · rw [take_snocI hr, List.filter_append, List.map_append, e, List.filter_cons, if_neg (by rw [hp]; exact Bool.false_ne_true)]
      simp
  · rintro acc B' M' D H' s I' ⟨rfl, rfl, rfl⟩ _
    rw [← hl, List.take_length] at I'
    exact hd D H' I'
end
end Bz
namespace Bz
open PySem PySem.Spec PyProof.Rows L2
section
variable {X : Cx} {CX : CXT} {pins : List (Addr × Obj)} {σ : L2.St} {H : Hp} {s : Shared} {a C dx f : Addr} {fs : List (Str × V)} {k : Nat} {sp : Sp} {E : XK} {fd : FuncData} {ps : List Str} {gV : List V → List V → List V} {g : List Value → List Value → List Value} {ks : List Str}
/-- the callee runs below the running body -/
theorem run_gA {A : Around} {Q : VK} {us : List Value} {vs : List V} {n : Nat} (F : FnG X.prog X.w X.K X.mg X.base CX k f fd ps sp) (hr : Room k A) (hg : A.guards = some []) (e0 : Env0 X.prog X.w X.K X.mg X.base A X.stack s H) (hb : KBn X.K fd ps n [] g gV) (hx : Passes CX X E)
    (I : Inv X pins σ H s) (r : Vals vs us) (l1 : vs.length = n) (h : sp (gV vs []) H Q E) : wpAny (model X.prog X.w) A (call (.ref f) us) (EP X pins σ Q) X.xe s := by
  refine wpAny_call (codeAny_mono (F.go A X.stack s H ⟨us, []⟩ (g us []) (gV vs []) Q E hr hg e0 (hb.to s us [] I.kIn (r.length.symm.trans l1) rfl) (hb.rel r .nil) h) ?_)
  intro r s' z
  cases r with
  | error e => exact hx pins σ H s e s' I z
  | ok fl =>
    cases fl with
    | ret u => exact I.after z
    | next => exact False.elim z
    | brk => exact False.elim z
    | cont => exact False.elim z
theorem looks_ty {x : V} {u t : Value} (I : Inv X pins σ H s) (rx : RelV x u) (ty : TyOf X.K H x t) {M : Model} : PySem.W.Looks M s.heap (typeOf u) t := by
  cases ty with
  | non => cases (show u = Value.none from rx); exact PySem.W.kitx_none.ty _ _ I.kIn True.intro
  | bl y => cases (show u = Value.bool y from rx); exact PySem.W.kitx_bool.ty _ _ I.kIn True.intro
  | int i => obtain ⟨t, q⟩ := (show ∃ t, u = Value.int i t from rx); cases q; exact PySem.W.kitx_int.ty _ _ I.kIn True.intro
  | str y => obtain ⟨t, q⟩ := (show ∃ t, u = Value.str y t from rx); cases q; exact PySem.W.kitx_str.ty _ _ I.kIn True.intro
  | flt y => obtain ⟨t, q⟩ := (show ∃ t, u = Value.float y t from rx); cases q; exact PySem.W.kitx_float.ty _ _ I.kIn True.intro
  | @lst a xs ea =>
    cases (show u = Value.ref a from rx)
    obtain ⟨_, _, n, _, h1⟩ := (show ObjOk X.prog X.w H s.heap a (.lst xs) from I.hok a _ ea)
    exact PySem.W.kitx_list.ty _ _ I.kIn ⟨_, h1, rfl⟩
  | @frz a ob xs ea =>
    cases (show u = Value.ref a from rx)
    obtain ⟨_, _, _, n, _, h1⟩ := (show ObjOk X.prog X.w H s.heap a (.frz ob (.lst xs)) from I.hok a _ ea)
    exact PySem.W.kitx_list.ty _ _ I.kIn ⟨_, h1, rfl⟩
  | @tup a xs ea =>
    cases (show u = Value.ref a from rx)
    obtain ⟨_, _, _, p⟩ := (show ObjOk X.prog X.w H s.heap a (.tup xs) from I.hok a _ ea)
    obtain ⟨o, h1, h2, _⟩ := p
    exact PySem.W.kitx_tuple.ty _ _ I.kIn ⟨o, h1, h2⟩
  | @dK a kvs ea =>
    cases (show u = Value.ref a from rx)
    obtain ⟨_, _, vs, _, p⟩ := (show ObjOk X.prog X.w H s.heap a (.dK kvs) from I.hok a _ ea)
    obtain ⟨o, es, ep, h1, h2, _⟩ := p
    exact PySem.W.kitx_dict.ty _ _ I.kIn ⟨o, h1, h2.1⟩
  | @dT a kvs ea =>
    cases (show u = Value.ref a from rx)
    obtain ⟨_, _, xs, _, o, es, ep, h1, h2, _⟩ := (show ObjOk X.prog X.w H s.heap a (.dT kvs) from I.hok a _ ea)
    exact PySem.W.kitx_dict.ty _ _ I.kIn ⟨o, h1, h2.1⟩
  | @ins a C dx fs ea cl ha hn htk hm =>
    cases (show u = Value.ref a from rx)
    obtain ⟨mA, O, _⟩ := ins_get I.hok ea
    obtain ⟨od, J, _⟩ := O.look
    exact (PySem.W.kitx_own (cl.get _) cl.hd ha hn htk hm).ty _ _ I.kIn J
/-- what == of the class's instances asks: one of them at x, y of the type t that is not looked at first -/
def rOwnEq (K : PySem.W.Frag) (C : Addr) (sp : Sp) (gV : List V → List V → List V) (E : XK) : R2 := fun x y H Q => ∃ a dx fs t, x = .ref a ∧ H a = some (.ins C dx fs) ∧ TyOf K H y t ∧ PySem.W.notFirst K C t = true ∧ sp (gV [x, y] []) H Q E
theorem op_ownEq (c : MethOk X.prog X.w X.K X.mg X.base CX k C "__eq__" 1 [] sp gV) {k' : Nat} (hr : Room k' X.A) (hk : k ≤ k') (hg : X.A.guards = some []) (hx : Passes CX X E) : OpR X (compareOp .Eq) (rOwnEq X.K C sp gV E) := by
  obtain ⟨⟨f, fd, ps, g, hm, F, kb⟩, cl⟩ := c
  intro pins s σ H x y v u Q I rx ry h
  obtain ⟨a, dx, fs, t, rfl, ha, ty, hn, q⟩ := h
  cases (show v = Value.ref a from rx)
  obtain ⟨mA, O, _⟩ := ins_get I.hok ha
  obtain ⟨od, J, _⟩ := O.look
  obtain ⟨m, hF⟩ := I.fr
  show wpAny _ _ (richCompare .Eq (.ref a) u) _ _ _
  refine PySem.W.cmp_K (op := .Eq) (tb := t) hr.units0 hF I.ok.mod.kin J (looks_ty I ry ty) hn hm.at_ hm.fn ?_
  refine wpAny_mono (run_gA (us := [.ref a, u]) (vs := [.ref a, y]) F (hr.mono hk) hg I.env0 kb hx I (.cons rfl (.cons ry .nil)) rfl q) (fun w s' z => ?_) fun _ _ x => x
  obtain ⟨z', H', I', rz, qz⟩ := z
  exact SlX.cmpback rz ⟨z', H', I', rz, qz⟩
/-- what != asks of the class: object's -/
structure OwnC (K : PySem.W.Frag) (C : Addr) : Prop where
  ne : PySem.W.findIn K (.ref C) "__ne__" = some (some (.builtin "object.__ne__"))
  ob : PySem.W.subIn K (.ref C) (.type "object") = some true
end
end Bz
namespace Bz
open PySem PySem.Spec PyProof.Rows L2
section
variable {prog : Program} {w : World} {A : Around} {E : Value → Shared → Prop} {s : Shared} {K : PySem.W.Frag} {a C : Addr} {ox : Obj} {od : Option Obj} {Q : Value → Shared → Prop}
end
section
variable {X : Cx} {CX : CXT} {pins : List (Addr × Obj)} {σ : L2.St} {H : Hp} {s : Shared} {a C dx f : Addr} {fs : List (Str × V)} {k : Nat} {sp : Sp} {E : XK} {gV : List V → List V → List V}
/-- what stands at the left: none, a number, a text, a list, a tuple, a dict -/
inductive Odd (K : PySem.W.Frag) (H : Hp) : V → String → Prop
  | non : Odd K H .non "NoneType"
  | int (i : Int) : Odd K H (.int i) "int"
  | str (z : Str) : Odd K H (.str z) "str"
  | lst {l : Addr} {xs : List V} (e : SqL K H l xs) : Odd K H (.ref l) "list"
  | tup {l : Addr} {xs : List V} (e : SqT K H l xs) : Odd K H (.ref l) "tuple"
  | dK {l : Addr} {kvs : List (Key × V)} (e : H l = some (.dK kvs)) : Odd K H (.ref l) "dict"
/-- the class is none of the built-in ones -/
structure NoB (K : PySem.W.Frag) (C : Addr) : Prop where
  no : PySem.W.subIn K (.ref C) (.type "NoneType") = some false
  i : PySem.W.subIn K (.ref C) (.type "int") = some false
  s : PySem.W.subIn K (.ref C) (.type "str") = some false
  l : PySem.W.subIn K (.ref C) (.type "list") = some false
  t : PySem.W.subIn K (.ref C) (.type "tuple") = some false
  d : PySem.W.subIn K (.ref C) (.type "dict") = some false
end
end Bz
namespace Bz
open PySem PySem.Spec PyProof.Rows L2
section
variable {prog : Program} {w : World} {A : Around} {E : Value → Shared → Prop} {s : Shared}
end
section
variable {X : Cx} {CX : CXT} {pins : List (Addr × Obj)} {σ : L2.St} {H : Hp} {s : Shared} {k : Nat} {sp : Sp} {E : XK} {C : Addr} {gV : List V → List V → List V}
end
end Bz
namespace Bz
open PySem PySem.Spec PyProof.Rows L2
section
variable {B : Hp} {M L L' : List (Addr × HO)} {σ : St} {H : Hp} {Q : VK} {te : TE} {QS : Str → Hp → Prop} {acc y : Str} {ts : List TE}
end
def OTY : List String := ["NoneType", "int", "str", "list", "tuple", "dict"]
/-- all that is asked of an own class here -/
structure OwnD (K : PySem.W.Frag) (C : Addr) : Prop where
  own : OwnC K C
  nb : NoB K C
  nob : PySem.W.findIn K (.ref C) "__bool__" = some none
  c1 : PySem.W.findIn K (.ref C) "__class__" = some (some (.builtin "object.__class__"))
  c2 : PySem.W.specialIn K (.builtin "object.__class__") "__get__" = some (some (.builtin "getset_descriptor.__get__"))
  c3 : PySem.W.takesIn K (.builtin "object.__class__") = some true
  c4 : PySem.W.mroIn K C (.type "object") = some true
  k0 : PySem.W.kitOne K (.ref C) (.ref C) = some true
  k1 : ∀ T ∈ OTY, PySem.W.kitOne K (.type T) (.ref C) = some false
  n1 : ∀ T ∈ OTY, PySem.W.notFirst K C (.type T) = true
  k2 : ∀ T ∈ (["int", "bool", "str", "list", "tuple"] : List String), PySem.W.kitOne K (.ref C) (.type T) = some false
def ownB (K : PySem.W.Frag) (C : Addr) : Bool :=
  He.eqO (PySem.W.findIn K (.ref C) "__ne__") (some (some (.builtin "object.__ne__"))) && (decide (PySem.W.subIn K (.ref C) (.type "object") = some true) &&
  ((OTY.all fun T => decide (PySem.W.subIn K (.ref C) (.type T) = some false)) &&
  (He.eqO (PySem.W.findIn K (.ref C) "__bool__") (some none) &&
  (He.eqO (PySem.W.findIn K (.ref C) "__class__") (some (some (.builtin "object.__class__"))) &&
  (decide (PySem.W.specialIn K (.builtin "object.__class__") "__get__" = some (some (.builtin "getset_descriptor.__get__"))) &&
  (decide (PySem.W.takesIn K (.builtin "object.__class__") = some true) && (decide (PySem.W.mroIn K C (.type "object") = some true) &&
  (decide (PySem.W.kitOne K (.ref C) (.ref C) = some true) && ((OTY.all fun T => decide (PySem.W.kitOne K (.type T) (.ref C) = some false)) && ((OTY.all fun T => PySem.W.notFirst K C (.type T)) && (["int", "bool", "str", "list", "tuple"] : List String).all fun T => decide (PySem.W.kitOne K (.ref C) (.type T) = some false)))))))))))
theorem ownB_ok {K : PySem.W.Frag} {C : Addr} (h : ownB K C = true) : OwnD K C := by
  unfold ownB at h
  simp only [Bool.and_eq_true] at h
  obtain ⟨a1, a2, a3, a4, a5, a6, a7, a8, a9, a10, a11, a12⟩ := h
  have s := fun T hT => of_decide_eq_true (List.all_eq_true.mp a3 T hT)
  exact ⟨⟨He.eqO_ok a1, of_decide_eq_true a2⟩, ⟨s "NoneType" (by decide), s "int" (by decide), s "str" (by decide), s "list" (by decide), s "tuple" (by decide), s "dict" (by decide)⟩, He.eqO_ok a4, He.eqO_ok a5, of_decide_eq_true a6, of_decide_eq_true a7, of_decide_eq_true a8, of_decide_eq_true a9,
    fun T hT => of_decide_eq_true (List.all_eq_true.mp a10 T hT), fun T hT => List.all_eq_true.mp a11 T hT, fun T hT => of_decide_eq_true (List.all_eq_true.mp a12 T hT)⟩
/-- a thing of a built-in kind -/
inductive Oth (K : PySem.W.Frag) (H : Hp) : V → String → Prop
  | non : Oth K H .non "NoneType"
  | int (i : Int) : Oth K H (.int i) "int"
  | str (z : Str) : Oth K H (.str z) "str"
  | lst {l : Addr} {xs : List V} (e : H l = some (.lst xs)) : Oth K H (.ref l) "list"
  | tup {l : Addr} {xs : List V} (e : H l = some (.tup xs)) : Oth K H (.ref l) "tuple"
  | dK {l : Addr} {kvs : List (Key × V)} (e : H l = some (.dK kvs)) : Oth K H (.ref l) "dict"
section
variable {K : PySem.W.Frag} {H H' : Hp} {x y : V} {T : String} {C a b dx dy : Addr} {fs gs : List (Str × V)} {Q : VK} {sp : Sp} {gV : List V → List V → List V} {E : XK}
theorem Oth.same (s : Same H H') (o : Oth K H x T) : Oth K H' x T := by
  cases o with
  | non => exact .non
  | int i => exact .int i
  | str z => exact .str z
  | lst e => exact .lst (s _ _ e)
  | tup e => exact .tup (s _ _ e)
  | dK e => exact .dK (s _ _ e)
theorem Oth.mem (o : Oth K H x T) : T ∈ OTY := by cases o <;> decide
theorem Oth.ty (o : Oth K H x T) : TyOf K H x (.type T) := by
  cases o with
  | non => exact .non
  | int i => exact .int i
  | str z => exact .str z
  | lst e => exact .lst e
  | tup e => exact .tup e
  | dK e => exact .dK e
theorem OwnD.ty (D : OwnD K C) (c : Cls K C) (h : H a = some (.ins C dx fs)) : TyOf K H (.ref a) (.ref C) := .ins h c D.c1 D.c2 D.c3 D.c4
theorem g_isiO (D : OwnD K C) (c : Cls K C) (h : H a = some (.ins C dx fs)) (q : Q (.bl true) H) : rIsi K [.ref a, .ref C] H Q := ⟨_, _, _, _, true, rfl, .own C, .base (D.ty c h), D.k0, q⟩
theorem self_first : PySem.W.notFirst K C (.ref C) = true := by simp [PySem.W.notFirst]
theorem g_ownEqI (D : OwnD K C) (c : Cls K C) (h : H a = some (.ins C dx fs)) (h2 : H b = some (.ins C dy gs)) (q : sp (gV [.ref a, .ref b] []) H Q E) : rOwnEq K C sp gV E (.ref a) (.ref b) H Q := ⟨a, dx, fs, _, rfl, h, D.ty c h2, self_first, q⟩
end
end Bz
namespace Bz
open PySem PySem.Spec PyProof.Rows L2
section
variable {σ : St} {H : Hp} {Q : VK} {nx bk ct : St → Hp → Prop} {rt : VK}
end
end Bz
namespace Bz
open PySem PySem.Spec PyProof.Rows L2
end Bz
namespace Bz
open PySem PySem.Spec PyProof.Rows L2
structure KTab (K : PySem.W.Frag) (w : World) (d : Addr) (kvs : List (Str × Str)) : Prop where
  ex : ∃ es n, KDict K w d es n ∧ (∀ q ∈ kvs, ∃ u, PySem.W.nsIn K d q.1 = some (some u) ∧ RelV (.str q.2) u) ∧ ∀ z, (∀ q ∈ kvs, q.1 ≠ z) → PySem.W.nsIn K d z = some none
theorem nsIn_no {K : PySem.W.Frag} {P : Params} {d : Addr} {es : Array DictEntry} {n : Nat} {keys : List Str} {z : Str} (h : K.lookup d = some ⟨.type "dict", none, .dict es n, #[]⟩) (hk : es.toList.map He.keyOf = He.keysIn P keys) (hz : ∀ k ∈ keys, k ≠ z) : PySem.W.nsIn K d z = some none := by
  have key : ∀ e ∈ es.toList, ∃ k t, e.key = .str k t ∧ k ∈ keys := fun e he => by
    have h1 : He.keyOf e ∈ es.toList.map He.keyOf := List.mem_map.mpr ⟨e, he, rfl⟩
    rw [hk] at h1
    obtain ⟨k, hk1, hk2⟩ := List.mem_map.mp h1
    unfold He.keyOf at hk2
    split at hk2
    · rename_i x t q
      have h2 := Option.some.inj hk2
      have h3 := (Prod.mk.inj h2).1
      exact ⟨x, t, q, by rw [← h3]; exact hk1⟩
    · cases hk2
  have f1 : es.toList.find? (·.key.isStr z) = none := List.find?_eq_none.mpr fun e he hc => by
    obtain ⟨k, t, h1, h2⟩ := key e he
    rw [h1] at hc
    exact hz k h2 (eq_of_beq hc)
  have f2 : es.toList.any (·.refKey) = false := List.any_eq_false.mpr fun e he hc => by
    obtain ⟨k, t, h1, h2⟩ := key e he
    unfold DictEntry.refKey at hc
    rw [h1] at hc
    cases hc
  unfold PySem.W.nsIn
  rw [h]
  show (match es.toList.find? (·.key.isStr z) with
    | some e => some (some e.val)
    | none => if es.toList.any (·.refKey) then none else some none) = some none
  rw [f1]
  show (if es.toList.any (·.refKey) = true then none else some none) = some none
  rw [f2]
  rfl
theorem ktab_of {fa : List He.Fa} {fn : List He.DefD} {ts : List He.Tab} {w : World} {K : PySem.W.Frag} {kvs : List (Str × Str)} {dk : PySem.W.Frag → Addr} (c : He.SaysT fa fn ts w K) (i : Nat) (h : ts[i]? = some (dk, kvs.map (·.1))) (hv : He.valsB K (dk K) (kvs.map fun q => (q.1, He.Dv.str q.2)) = true) : KTab K w (dk K) kvs := by
  have e : ts.map (fun t => He.dicW K (t.1 K)) = ts.map fun t => some (He.keysIn w.params t.2) := congrArg (fun z : He.AlT => z.2) c
  have e2 : (ts.map fun t => He.dicW K (t.1 K))[i]? = (ts.map fun t => some (He.keysIn w.params t.2))[i]? := by rw [e]
  rw [List.getElem?_map, List.getElem?_map, h] at e2
  have e3 : He.dicW K (dk K) = some (He.keysIn w.params (kvs.map (·.1))) := Option.some.inj e2
  obtain ⟨es, n, D⟩ := He.dicW_ok e3
  refine ⟨es, n, D, fun q hq => He.valsB_ok hv (q := (q.1, He.Dv.str q.2)) (List.mem_map_of_mem (f := fun q : Str × Str => (q.1, He.Dv.str q.2)) hq), fun z hz => ?_⟩
  have e4 : es.toList.map He.keyOf = He.keysIn w.params (kvs.map (·.1)) := by
    unfold He.dicW at e3
    rw [D.at_] at e3
    have e5 : (match decide (("dict" : String) = "dict") && ((#[] : Array (Option Value)).isEmpty && !(dk K == sysModules)) with
      | true => some (es.toList.map He.keyOf)
      | false => none) = some (He.keysIn w.params (kvs.map (·.1))) := e3
    rw [D.low] at e5
    exact Option.some.inj e5
  exact nsIn_no D.at_ e4 fun k hk => by
    obtain ⟨q, hq, rfl⟩ := List.mem_map.mp hk
    exact hz q hq
def tKGet (d : Addr) (kvs : List (Str × Str)) (te : TE) : TE := fun σ H Q => te σ H fun y H1 => ∃ z, y = .str z ∧ ((∃ v, (z, v) ∈ kvs ∧ Q (.str v) H1) ∨ ((∀ q ∈ kvs, q.1 ≠ z) ∧ Q .non H1))
section
variable {X : Cx} {o e : Expr} {apos cpos : Pos} {ty : TE} {d : Addr} {kvs : List (Str × Str)}
theorem pe_kget (D : KTab X.K X.w d kvs) (ho : PE X o (tC (.ref d))) (he : PE X e ty) (m : M1 X o "get" apos e cpos) : PE X (.Call (.Attribute o "get" apos) [e] [] cpos) (tKGet d kvs ty) := by
  obtain ⟨es, n, D, hv, hno⟩ := D.ex
  refine ⟨fun pins s σ H Q I h => ?_⟩
  refine wpAny_Call_method m.base m.few m.line PySem.F.plainAttrs_dict PySem.F.slot_dict_get PySem.F.type_dict_get (thn (ho.run pins s σ H (fun x H1 => x = .ref d ∧ tKGet d kvs ty σ H1 Q) I ⟨rfl, h⟩) fun u s1 ⟨x, H1, I1, rx, ex, q1⟩ => ?_)
  subst ex
  obtain rfl : u = Value.ref d := rx
  refine ⟨kd_type D I1, fun b q => ?_, ?_⟩
  · cases q
    exact ⟨_, I1.kIn _ _ D.at_, rfl⟩
  · rw [m.trees]
    refine Calls.callWith_builtin rfl (Calls.evalArgs_plain (Calls.spliced_cons (thn (he.run pins s1 σ H1 _ I1 q1) fun iv s2 ⟨y, H2, I2, ry, z, ey, hz⟩ => Calls.spliced_nil ?_)))
    subst ey
    obtain ⟨t, rfl⟩ := ry
    rcases hz with ⟨v, hz, q2⟩ | ⟨hz, q2⟩
    · obtain ⟨u, hu, ru⟩ := hv _ hz
      refine call_meetsIn PySem.F.slot_dict_get (kd_type D I2) PySem.F.entry_dict_get (PySem.F.args_dict_get_2 _ _) (meets_dict_get (PySem.strKind X.prog X.w) d (PySem.strKind_is X.prog X.w z t) D.low) ⟨_, PySem.W.mapOf_K (prog := X.prog) I2.kIn D.at_ D.lit, ?_⟩
      refine ⟨.str v, H2, I2.tok _, ?_, q2⟩
      rw [PySem.W.find_K D.at_ hu]
      exact ru
    · refine call_meetsIn PySem.F.slot_dict_get (kd_type D I2) PySem.F.entry_dict_get (PySem.F.args_dict_get_2 _ _) (meets_dict_get (PySem.strKind X.prog X.w) d (PySem.strKind_is X.prog X.w z t) D.low) ⟨_, PySem.W.mapOf_K (prog := X.prog) I2.kIn D.at_ D.lit, ?_⟩
      refine ⟨.non, H2, I2.tok _, ?_, q2⟩
      rw [PySem.W.find_K D.at_ (hno z hz)]
      rfl
end
theorem g_kget {d : Addr} {kvs : List (Str × Str)} {te : TE} {σ : St} {H : Hp} {Q : VK} (h : te σ H fun y H1 => ∃ z, y = .str z ∧ ((∃ v, (z, v) ∈ kvs ∧ Q (.str v) H1) ∨ ((∀ q ∈ kvs, q.1 ≠ z) ∧ Q .non H1))) : tKGet d kvs te σ H Q := h
theorem g_kgot {kvs : List (Str × Str)} {H : Hp} {Q : VK} {z v : Str} (h : (z, v) ∈ kvs) (q : Q (.str v) H) : ∃ z', V.str z = .str z' ∧ ((∃ v', (z', v') ∈ kvs ∧ Q (.str v') H) ∨ ((∀ q ∈ kvs, q.1 ≠ z') ∧ Q .non H)) := ⟨z, rfl, .inl ⟨v, h, q⟩⟩
end Bz
namespace Bz
open PySem PySem.Spec PyProof.Rows L2
/-- at a: an error of the class cls, its dict d -/
def exv (a : Addr) (cls : Value) (d : Option Addr) : HO := .ext fun h => ∃ (oe : Obj) (vs : Array Value), h.get? a = some oe ∧ oe.cls = cls ∧ oe.dict = d ∧ oe.data = .fields vs
theorem exv_ok {P : Program} {w : World} {H : Hp} {h : Heap} {a : Addr} {cls : Value} {d : Option Addr} {oe : Obj} {vs : Array Value} (he : h.get? a = some oe) (hz : Zc cls d oe) (hd : oe.data = .fields vs) : ObjOk P w H h a (exv a cls d) :=
  ⟨⟨oe, vs, he, hz.1, hz.2, hd⟩, ⟨_, he⟩, fun h1 h2 ⟨o, v, q, q2⟩ k => ⟨o, v, k _ q, q2⟩⟩
theorem fly_push {B h : Heap} {l : List Env} {a : Addr} {Z : Obj → Prop} {o : Obj} (x : HandSPX.FlyingZ B l a Z h) : HandSPX.FlyingZ B l a Z (h.push o) := by
  obtain ⟨k1, k2, k3, oe, vs, T, oT, ts, he, hz, hd, h1, hnT, hTe, hT, hdT, h3⟩ := x
  exact ⟨fun b o e => Heap.get?_push_of_some _ (k1 b o e), k2, k3.of_keeps fun b o hb _ => ⟨o, Heap.get?_push_of_some _ hb, rfl⟩, oe, vs, T, oT, ts, Heap.get?_push_of_some _ he, hz, hd, h1, hnT, hTe, Heap.get?_push_of_some _ hT, hdT, h3⟩
section
variable {X : Cx} {pins : List (Addr × Obj)} {σ : L2.St} {H : Hp} {s : Shared}
theorem tell_exc {a : Addr} {oe : Obj} {vs : Array Value} {cls : Value} {d : Option Addr} (I : Inv (X.suite a ((a, oe) :: (X.pn ++ pins))) [] σ H s) (ok : X.Ok) (hz : Zc cls d oe) (hd : oe.data = .fields vs) (h0 : X.s_0.heap.get? a = none) (np : ∀ p ∈ X.pn ++ pins, p.1 ≠ a) :
    Inv X pins σ (upd H a (exv a cls d)) s := by
  obtain ⟨ha, na, nL, nF, nC⟩ := I.pin (a, oe) (List.mem_append_left _ List.mem_cons_self)
  have ha : s.heap.get? a = some oe := ha
  have na : H a = none := na
  have nL : a ≠ X.env.locals := nL
  have sm : ∀ {b u}, H b = some u → upd H a (exv a cls d) b = some u := fun {b u} e => by
    rw [upd_ne (ne_of_none e na)]
    exact e
  refine ⟨ok, I.os, I.bare, ⟨I.base.keep, I.base.slot, fun b o e n hx => ?_, I.base.there, fun b xs e => sm (I.base.tups b xs e), fun b o u e => sm (I.base.frzs b o u e), fun b ps e => ?_⟩, I.loc, I.cell, ?_, fun x c e => ?_, fun p hp => ?_, fun b u e => ?_, I.len⟩
  · have hb : b ≠ a := fun z => by
      rw [z] at e
      have e' : X.s_0.heap.get? a = some o := e
      rw [h0] at e'
      cases e'
    rw [upd_ne hb]
    exact I.base.free b o e n hx
  · obtain ⟨more, q⟩ := I.base.tbls b ps e
    exact ⟨more, sm q⟩
  · rw [upd_ne (Ne.symm nL)]
    exact I.free
  · have hc : c ≠ a := fun z => by
      obtain ⟨v, o, ho, hv⟩ := I.cell x c e
      rw [z] at ho
      have ho' : s.heap.get? a = some o := ho
      rw [ha] at ho'
      cases ho'
      exact nC v hv
    rw [upd_ne hc]
    exact I.freeC x c e
  · obtain ⟨q1, q2, q3⟩ := I.pin p (List.mem_append_left _ (List.mem_cons_of_mem _ hp))
    refine ⟨q1, ?_, q3⟩
    rw [upd_ne (np p hp)]
    exact q2
  · by_cases hb : b = a
    · subst hb
      rw [upd_same] at e
      cases e
      exact exv_ok ha hz hd
    · rw [upd_ne hb] at e
      exact (I.hok b u e).stay (fun c v hc z => z) (fun c hc => sm hc) fun c xs hc => sm hc
end
/-- what the clause wishes of an error of the body: it is of one of the three -/
def wAs3 (K : PySem.W.Frag) (c1 c2 c3 : Value) (i : Nat) (ts : Addr → Value → Option Addr → TS) (D : Ends) : WX := fun cls d σ H =>
  PySem.W.exmAny K cls [c1, c2, c3] = some true ∧ ∀ a, H a = none → ts a cls d { nx := fun σ' H' => D.nx (σ'.set i none) (upd H' a (exv a cls d)), rt := fun _ _ => False, bk := fun _ _ => False, ct := fun _ _ => False } (σ.set i (some (.ref a))) H
section
variable {X : Cx} {x1 x2 x3 n : Str} {c1 c2 c3 : Value} {i : Nat} {body suite : List Stmt} {b₀ : Stmt} {p1 p2 p3 pos tp pos' : Pos} {st : Nat} {tb : WX → TS} {ts : Addr → Value → Option Addr → TS}
theorem ps_try_as3 (hs : X.stack = X.env :: X.outer) (hf : X.env.frame = some X.env.locals) (hex : X.ex = []) (hN : X.N.Nodup) (hi : X.N[i]? = some n) (hln : X.env.kindOf n = some .local) (h1 : Names X x1 c1) (h2 : Names X x2 c2) (h3 : Names X x3 c3)
    (hb : ∀ (W : WX) (pn : List (Addr × Obj)) (xe : Value → Shared → Prop), Takes (X.tr pn xe) W → PassesOwn (model X.prog X.w) X.A X.env xe → PSs (X.tr pn xe) body (tb W))
    (hsu : ∀ (a : Addr) (oe : Obj) (cls : Value) (d : Option Addr) (pn : List (Addr × Obj)), Zc cls d oe → (∃ vs, oe.data = .fields vs) → PSs (X.suite a ((a, oe) :: pn)) (b₀ :: suite) (ts a cls d)) :
    PS X (.Try body [.ExceptHandler (some (.Tuple [.Name x1 p1, .Name x2 p2, .Name x3 p3] st tp)) (some n) (b₀ :: suite) pos'] [] [] pos) (fun D σ H => tb (wAs3 X.K c1 c2 c3 i ts D) D σ H) := by
  refine ⟨fun pins s σ H D I h => ?_⟩
  have ok := I.ok
  have hfr : X.A.frames = some (X.env :: X.outer) := by rw [ok.frames, hs]
  refine wpAny_Try_except ?_
  refine wpAny_mono ((hb (wAs3 X.K c1 c2 c3 i ts D) (X.pn ++ pins) (fun e s₁ => wpAny (model X.prog X.w) X.A (noteFrame e X.env) (fun _ s₂ => wpAny (model X.prog X.w) X.A (setFlight e none) (fun _ s₃ =>
    wpAny (model X.prog X.w) X.A (handleBy e X.env [.ExceptHandler (some (.Tuple [.Name x1 p1, .Name x2 p2, .Name x3 p3] st tp)) (some n) (b₀ :: suite) pos']) (SP X pins D) X.xe s₃) X.xe s₂) X.xe s₁) ?_ PassesOwn.looking).run [] s σ H D (I.toTry _) h) ?_ (fun e s1 he => he)
  · intro u s' xx
    obtain ⟨a, B, sI, pins', σ', H', cls, d, rfl, J', nb, up, sky, na, os, ag, hx, hyes⟩ := xx
    have J : Inv X pins σ' H' sI := J'.ofTry ok
    have sky' : Sky B (X.env :: X.outer) a (Zc cls d) X.env.locals s'.heap := by rw [← hs]; exact sky
    show wpAny (model X.prog X.w) X.A (noteFrame (.ref a) X.env) _ _ _
    refine Sky.land Zc.steady hfr hf sky' fun h3' fl3 up3 => ?_
    have J3 : Inv X pins σ' H' { s' with heap := h3' } := J.landed nb fl3.1 (up.trans up3) os ag
    obtain ⟨oe3, vs3, he3, hz3, hd3⟩ := fl3.there
    have nfr : a ∉ frs (X.env :: X.outer) := fun hm => by
      obtain ⟨_, o', e', hnf⟩ := fl3.2.2.1.mem hm
      rw [he3] at e'; cases e'
      exact hnf _ hd3
    have nL : a ≠ X.env.locals := fun z => nfr (List.mem_filterMap.mpr ⟨X.env, List.mem_cons_self, by rw [hf, z]⟩)
    have nF : a ∉ X.fs := fun hm => by
      obtain ⟨e, he, q⟩ := List.mem_filterMap.mp hm
      exact nfr (List.mem_filterMap.mpr ⟨e, List.mem_cons_of_mem _ he, q⟩)
    have nfr' : a ∉ frs X.stack := by rw [hs]; exact nfr
    have hB : B.get? a = none := fl3.2.1
    have h0 : X.s_0.heap.get? a = none := by
      cases e : X.s_0.heap.get? a with
      | none => rfl
      | some o =>
        obtain ⟨o', e'⟩ := J.base.there a o e (by rw [hex]; simp)
        rw [nb a o' e' nfr'] at hB
        cases hB
    have np : ∀ p ∈ X.pn ++ pins, p.1 ≠ a := fun p hp z => by
      obtain ⟨e, n', ne, nf, _⟩ := J.pin p hp
      rw [z] at e
      rw [nb a _ e nfr'] at hB
      cases hB
    have S3 := J3.suite he3 hd3 na nL nF
    refine wpAny_handleBy_cons (codeAny_handlers_test ?_) (by intro q; cases q)
    have named : ∀ {x : Str} {c : Value} {np : Pos}, Names X x c → ∀ {Q : Value → Shared → Prop} {E : Value → Shared → Prop}, Q c { s' with heap := h3' } → wpAny (model X.prog X.w) (X.A.mark (some (.ref a))) (eval (.Name x np) X.env) Q E { s' with heap := h3' } := fun {x c np} hc {Q E} q => by
      obtain ⟨hg, hdbg, hm | ⟨hm, hv, hnn⟩⟩ := hc
      · exact ld_glob (X := X.suite a ((a, oe3) :: (X.pn ++ pins))) S3 hg hm q hdbg
      · exact ld_blt (X := X.suite a ((a, oe3) :: (X.pn ++ pins))) S3 hg hm hv q hnn hdbg
    refine wpAny_Tuple_spliced (Calls.spliced_cons (named h1 (Calls.spliced_cons (named h2 (Calls.spliced_cons (named h3 (Calls.spliced_nil ?_)))))))
    refine ⟨by rw [sizeLine_eq]; simp, ?_⟩
    obtain ⟨tp', htp⟩ : ∃ t, t = h3'.objs.size := ⟨_, rfl⟩
    have hp : (h3'.push { cls := .type "tuple", data := .seq ([c1, c2, c3] : List Value).toArray }).get? h3'.objs.size = some { cls := .type "tuple", data := .seq ([c1, c2, c3] : List Value).toArray } := Heap.get?_push_size _ rfl
    have fl4 := fly_push (o := { cls := .type "tuple", data := .seq ([c1, c2, c3] : List Value).toArray }) fl3
    have up4 : h3'.UpToSlots (h3'.push { cls := .type "tuple", data := .seq ([c1, c2, c3] : List Value).toArray }) := fun b o hb _ => ⟨o.slots, Heap.get?_push_of_some _ hb⟩
    have J4 : Inv X pins σ' H' { s' with heap := h3'.push { cls := .type "tuple", data := .seq ([c1, c2, c3] : List Value).toArray } } := J3.kept fun b o e => Heap.get?_push_of_some _ e
    generalize h3'.push { cls := .type "tuple", data := .seq ([c1, c2, c3] : List Value).toArray } = h4 at *
    obtain ⟨oe4, vs4, he4, hz4, hd4⟩ := fl4.there
    have LT : PySem.W.Looks (model X.prog X.w) h4 (typeOf (.ref a)) cls := fun A Q E s k q => wpAny_typeOf_ref (k _ _ he4) (by rw [hz4.1]; exact q)
    have LM := PySem.W.exm_tup3 (M := model X.prog X.w) (J4.kIn) LT hp hx
    refine LM.here ?_
    refine codeAny_handlers_suite_as ?_
    refine HandSPX.lands_againZ fl4 fun h5 fl5 up5 => ?_
    have J5 : Inv X pins σ' H' { s' with heap := h5 } := J.landed nb fl5.1 (((up.trans up3).trans up4).trans up5) os ag
    obtain ⟨oe5, vs5, he5, hz5, hd5⟩ := fl5.there
    have S5 := J5.suite he5 hd5 na nL nF
    refine store_ok (X := X.suite a ((a, oe5) :: (X.pn ++ pins))) (v := .ref a) S5 hN hi (.inl hln) rfl (fun s6 S6 => ?_) (.inr hln)
    refine wpAny_mono ((hsu a oe5 cls d (X.pn ++ pins) hz5 ⟨_, hd5⟩).run [] s6 _ H' _ S6 (hyes a na)) (fun f s7 hsp => ?_) (fun _ _ z => False.elim z)
    cases f with
    | next =>
      obtain ⟨σ6, H6, S7, q6⟩ := hsp
      exact gone_ok (X := X.suite a ((a, oe5) :: (X.pn ++ pins))) S7 hN hi hln fun s8 S8 => ⟨_, _, tell_exc S8 ok hz5 hd5 h0 np, q6⟩
    | brk =>
      obtain ⟨_, _, _, q6⟩ := hsp
      exact False.elim q6
    | cont =>
      obtain ⟨_, _, _, q6⟩ := hsp
      exact False.elim q6
    | ret u =>
      obtain ⟨_, _, _, _, _, q6⟩ := hsp
      exact False.elim q6
  · intro f s1 hsp
    cases f with
    | next =>
      obtain ⟨σ', H', J', q⟩ := hsp
      exact wpAny_execs_nil ⟨σ', H', J'.ofTry ok, q⟩
    | brk =>
      obtain ⟨σ', H', J', q⟩ := hsp
      exact ⟨σ', H', J'.ofTry ok, q⟩
    | cont =>
      obtain ⟨σ', H', J', q⟩ := hsp
      exact ⟨σ', H', J'.ofTry ok, q⟩
    | ret u =>
      obtain ⟨v, σ', H', J', r, q⟩ := hsp
      exact ⟨v, σ', H', J'.ofTry ok, r, q⟩
end
end Bz
namespace Bz
open PySem PySem.Spec PyProof.Rows L2
/-- what an error's class is asked -/
def excB (K : PySem.W.Frag) (D : Addr) : Bool :=
  decide (PySem.W.findIn K (.ref D) "__getattribute__" = some (some (.builtin "BaseException.__getattribute__"))) && (decide (PySem.W.findIn K (.ref D) "__getattr__" = some none) && (decide (PySem.W.subIn K (.ref D) (.type "BaseException") = some true) && (PySem.W.hasDictIn K D &&
  (decide (PySem.W.findIn K (.ref D) "__class__" = some (some (.builtin "object.__class__"))) && (decide (PySem.W.specialIn K (.builtin "object.__class__") "__get__" = some (some (.builtin "getset_descriptor.__get__"))) && (decide (PySem.W.takesIn K (.builtin "object.__class__") = some true) && decide (PySem.W.mroIn K D (.type "object") = some true)))))))
theorem excB_ok {K : PySem.W.Frag} {D : Addr} (h : excB K D = true) : ExcC K D := by
  unfold excB at h
  simp only [Bool.and_eq_true] at h
  obtain ⟨a1, a2, a3, a4, a5, a6, a7, a8⟩ := h
  exact ⟨of_decide_eq_true a1, of_decide_eq_true a2, of_decide_eq_true a3, a4, of_decide_eq_true a5, of_decide_eq_true a6, of_decide_eq_true a7, of_decide_eq_true a8⟩
theorem exv_at {P : Program} {w : World} {H : Hp} {h : Heap} {a : Addr} {cls : Value} {d : Option Addr} (hok : HOk P w H h) (e : H a = some (exv a cls d)) : ∃ (oe : Obj) (vs : Array Value), h.get? a = some oe ∧ oe.cls = cls ∧ oe.dict = d ∧ oe.data = .fields vs := by
  have x : ObjOk P w H h a (.ext fun h => ∃ (oe : Obj) (vs : Array Value), h.get? a = some oe ∧ oe.cls = cls ∧ oe.dict = d ∧ oe.data = .fields vs) := hok a _ e
  exact x.1
/-- isinstance(e, c), e an error kept as a value -/
def rIsE (K : PySem.W.Frag) : List V → Hp → VK → Prop := fun xs H Q => ∃ (a D dd : Addr) (fs : List (Str × V)) (c : V) (u : Value) (b : Bool), xs = [.ref a, c] ∧ H a = some (exv a (.ref D) (some dd)) ∧ H dd = some (.xd fs) ∧ ExcC K D ∧ ClsV c u ∧ PySem.W.kitOne K (.ref D) u = some b ∧ Q (.bl b) H
section
variable {X : Cx} {pins : List (Addr × Obj)} {σ : L2.St} {H : Hp} {s : Shared}
theorem exv_inst {a D dd : Addr} {fs : List (Str × V)} (I : Inv X pins σ H s) (ha : H a = some (exv a (.ref D) (some dd))) (hd : H dd = some (.xd fs)) :
    ∃ oe od mA, PySem.W.InstAt s.heap a oe D (some od) ∧ s.heap.Ns1 dd mA ∧ (∀ f, RelO (fs.lookup f) (mA f)) ∧ s.heap.get? dd = some od := by
  obtain ⟨oe, vs, h1, h2, h3, h4⟩ := exv_at I.hok ha
  have hx : ObjOk X.prog X.w H s.heap dd (.xd fs) := I.hok dd _ hd
  obtain ⟨mA, hns, hr⟩ := hx
  obtain ⟨od, ho, hl⟩ := lookIn_ns hns
  exact ⟨oe, od, mA, ⟨h1, h2, by unfold PySem.W.notCls; rw [h4] <;> rfl, by rw [h3]; exact ho⟩, hns, hr, ho⟩
theorem call_isE2 : CallR X (.builtin "isinstance") (rIsE X.K) := by
  intro pins s σ H xs us Q I r h
  obtain ⟨a, D, dd, fs, c, u, b, rfl, ha, hd, C, k, e, q⟩ := h
  obtain ⟨u1, u2, rfl, r1, r2⟩ := vals2 r
  have e2 := k.eq r2
  subst e2
  obtain rfl : u1 = Value.ref a := r1
  obtain ⟨oe, od, mA, J, _⟩ := exv_inst I ha hd
  obtain ⟨cd, hc, _⟩ := PySem.W.any_some C.hd
  exact PySem.W.kia_one (PySem.W.kitx_exc (od := some od) (by rw [hc]; rfl) C.hg C.hk C.hs C.ha C.hn C.ht C.hm) I.kIn J e (fun z => nomatch z) fun tk => ⟨.bl b, H, I.tok tk, rfl, q⟩
/-- isinstance of a thing of any kind, or of an error -/
def rIsX (K : PySem.W.Frag) : List V → Hp → VK → Prop := fun xs H Q => rIsi K xs H Q ∨ rIsE K xs H Q
theorem call_isX : CallR X (.builtin "isinstance") (rIsX X.K) := by
  intro pins s σ H xs us Q I r h
  rcases h with h | h
  · exact call_isi pins s σ H xs us Q I r h
  · exact call_isE2 pins s σ H xs us Q I r h
/-- e.f, e an error kept as a value -/
def tXv (K : PySem.W.Frag) (f : Str) (te : TE) : TE := fun σ H Q => te σ H fun x H1 => ∃ (a D dd : Addr) (fs : List (Str × V)) (v : V), x = .ref a ∧ H1 a = some (exv a (.ref D) (some dd)) ∧ H1 dd = some (.xd fs) ∧ ExcC K D ∧ PySem.W.findIn K (.ref D) f = some none ∧ fs.lookup f = some v ∧ Q v H1
theorem pe_xv {e : Expr} {te : TE} {pos : Pos} {n : Str} (he : PE X e te) (hb : attributeBase e n X.env (eval e X.env) = eval e X.env := by rfl) : PE X (.Attribute e n pos) (tXv X.K n te) := by
  refine ⟨fun pins s σ H Q I h => ?_⟩
  refine attr_of hb (thn (he.run pins s σ H _ I h) fun u s1 hh => ?_)
  obtain ⟨x, H1, I1, rx, a, D, dd, fs, v, ex, ha, hd, C, hno, l, q⟩ := hh
  subst ex
  obtain rfl : u = Value.ref a := rx
  obtain ⟨oe, od, mA, J, hns, hr, ho⟩ := exv_inst I1 ha hd
  obtain ⟨od', ho', hl⟩ := lookIn_ns hns
  rw [ho] at ho'
  cases ho'
  obtain ⟨u, hu, ru⟩ := RelO.some_of (v := v) (o := mA n) (by rw [← l]; exact hr n)
  exact HandSPX.exc_get I1.kIn J C.hg C.hk C.hs (PySem.W.findObj_own C.hd hno rfl (by rw [hl, hu])) (handed_of ru) ⟨v, H1, I1.tok _, ru, q⟩
end
section
variable {K : PySem.W.Frag} {H : Hp} {Q : VK} {a D dd : Addr} {fs : List (Str × V)}
theorem g_isE {c : V} {u : Value} {b : Bool} (ha : H a = some (exv a (.ref D) (some dd))) (hd : H dd = some (.xd fs)) (C : ExcC K D) (k : ClsV c u) (e : PySem.W.kitOne K (.ref D) u = some b) (q : Q (.bl b) H) : rIsX K [.ref a, c] H Q :=
  .inr ⟨a, D, dd, fs, c, u, b, rfl, ha, hd, C, k, e, q⟩
def aXv (K : PySem.W.Frag) (f : Str) (x : V) (H1 : Hp) (Q : VK) : Prop := ∃ (a D dd : Addr) (fs : List (Str × V)) (v : V), x = .ref a ∧ H1 a = some (exv a (.ref D) (some dd)) ∧ H1 dd = some (.xd fs) ∧ ExcC K D ∧ PySem.W.findIn K (.ref D) f = some none ∧ fs.lookup f = some v ∧ Q v H1
theorem g_xv {te : TE} {σ : St} {f : Str} (h : te σ H fun x H1 => aXv K f x H1 Q) : tXv K f te σ H Q := h
theorem g_aXv {f : Str} {v : V} (ha : H a = some (exv a (.ref D) (some dd))) (hd : H dd = some (.xd fs)) (C : ExcC K D) (hn : PySem.W.findIn K (.ref D) f = some none) (g : FGet fs f v) (q : Q v H) : aXv K f (.ref a) H Q :=
  ⟨a, D, dd, fs, v, rfl, ha, hd, C, hn, g.eq, q⟩
end
def sp_xone (C : Addr) (f : Str) : Sp := fun vs H Q _ => vs.length = 2 ∧ ∃ (a : Addr) (x : V), vs = [.ref a, x] ∧ H a = some (exo a C none) ∧ ∀ dx, H dx = none → dx ≠ a → Q .non (upd (upd H dx (exd dx [(f, x)])) a (exo a C (some dx)))
section
variable {X : Cx} {CX : CXT} {k : Nat}
/-- the class C of the name x, its __init__ fI -/
structure XOneOk (P : Program) (w : World) (K : PySem.W.Frag) (mg : Str → Option Value) (base : Heap) (CX : CXT) (k : Nat) (x f : Str) : Prop where
  T : OexC K (He.ga K x)
  ok : ∃ (fI : Addr) (fd : FuncData) (ps : List Str), PySem.W.findIn K (.ref (He.ga K x)) "__init__" = some (some (.ref fI)) ∧ PySem.W.typeIn K (.ref fI) = some (.type "function") ∧ FnOk P w K mg base CX k fI fd ps (sp_xone (He.ga K x) f) ∧ Binds K fd ps []
  at_ : mg x = some (.ref (He.ga K x))
theorem passN {X : Cx} : Passes (L2.CX X.prog X.w) X E0 := fun _ _ _ _ _ _ _ ⟨_, _, _, _, _, _, _, _, _, _, _, _, z⟩ => z.elim
/-- raise C(x) -/
def tRaise (W : WX) (t : St → Hp → XK → Prop) : TS := fun _ σ H => t σ H fun cls d H' => W cls d σ H'
end
section
variable {B : Hp} {M L : List (Addr × HO)} {H : Hp}
theorem g_raise {W : WX} {t : St → Hp → XK → Prop} {D : Ends} {σ : St} (h : t σ H fun cls d H' => W cls d σ H') : tRaise W t D σ H := h
end
end Bz
namespace Bz
open PySem PySem.Spec PyProof.Rows L2
abbrev tabSt (H : Hp) (P c : Addr) (q : Str) (ps more : Array Value) : Hp := upd (upd H P (.tbl (ps ++ more))) c (LamX.CodeO c q)
section
variable {X : Cx} {pins : List (Addr × Obj)} {σ : L2.St} {H : Hp} {s : Shared}
/-- the lambda is made: by a code object of the table, or by a new one -/
theorem lam_makeG {c P : Addr} {ps : Array Value} {params : Arguments} {body : Expr} {scope : Scope} {pos : Pos} {E : Value → Shared → Prop} {Q : Value → Shared → Prop} (I : Inv X pins σ H s) (TB : LamX.TabB X.base X.mg c P) (hcode : X.env.code = .ref c)
    (hP : H P = some (.tbl ps)) (ht : TriplesOk ps.toList) (ha : ∀ (pos : Pos) (cv : Value), codeAmong pos ps.toList = some cv → ∃ c, cv = .ref c ∧ H c = some (LamX.CodeO c (X.env.qual ++ "<lambda>")))
    (hdef : defaultsOf params X.env = ([], [])) (hfree : ∀ y ∈ scope.names, y.2 = .free → ∃ c, X.env.cells.lookup y.1 = some c)
    (h : ∀ (f c' : Addr) (pm ctv : Value) (H1 : Hp) (s' : Shared), Inv X pins σ H1 s' → (H1 = H ∨ ∃ more, H c' = none ∧ H1 = tabSt H P c' (X.env.qual ++ "<lambda>") ps more ∧ TriplesOk (ps ++ more).toList ∧ ∀ (pos : Pos) (cv : Value), codeAmong pos (ps ++ more).toList = some cv → codeAmong pos ps.toList = some cv ∨ cv = .ref c') →
      s'.heap.get? f = some (PySem.W.kla_obj "<lambda>" (X.env.qual ++ "<lambda>") params body scope (cloFrom X.env.cells scope.names []) pm c' ctv) → H1 f = none → f ∉ frs X.stack → H1 c' = some (LamX.CodeO c' (X.env.qual ++ "<lambda>")) → Q (.ref f) s') :
    wpAny (model X.prog X.w) X.A (eval (.Lambda params body scope pos) X.env) Q E s := by
  refine PySem.W.kla_eval hdef ?_
  have bP : s.heap.BuiltinsAt X.mg P := TB.bm.keeps I.bk
  have hP' : s.heap.get? P = some { cls := .none, data := .fields ps } := I.hok P _ hP
  have nofr : ∀ f, s.heap.objs.size ≤ f → f ∉ frs X.stack := fun f hf z => by
    rcases List.mem_cons.mp (I.stkSub _ z) with e | e
    · have h1 := I.lt
      rw [← e] at h1
      exact Nat.lt_irrefl _ (Nat.lt_of_lt_of_le h1 hf)
    · exact I.nofs hf e
  cases hc : codeAmong pos ps.toList with
  | none =>
    refine PySem.W.kla_makeFunction (mg := X.mg) (c := c) (P := P) (ps := ps) (closure_ok hfree) I.ok.glob (I.mod.glob.keeps I.bk) hcode (TB.code.keeps I.bk) hP' ht hc TB.gP bP fun c' ctv h' tk hx hge hlt hrec htb => ?_
    obtain ⟨c2, oc, vs, t, e2, hoc, hd, hv⟩ := hrec
    cases e2
    have hsz : s.heap.objs.size ≤ h'.objs.size := Nat.le_trans hge (Nat.le_of_lt hlt)
    have nC : H c' = none := I.hok.fresh hge
    have I1 := LamX.inv_table (t' := tk) (more := #[rawInt pos.line, rawInt pos.col, .ref c']) (h' := h'.push (PySem.W.kla_obj "<lambda>" (X.env.qual ++ "<lambda>") params body scope (cloFrom X.env.cells scope.names []) ((X.mg "__name__").getD .none) c' ctv)) I hP
      (fun b o hb e => Heap.get?_push_of_some _ (hx b o hb e)) (Heap.get?_push_of_some _ htb) hge ⟨oc, vs, t, Heap.get?_push_of_some _ hoc, hd, hv⟩
    have eL : (ps ++ #[rawInt pos.line, rawInt pos.col, .ref c']).toList = ps.toList ++ [rawInt pos.line, rawInt pos.col, .ref c'] := by simp
    refine h h'.objs.size c' ((X.mg "__name__").getD .none) ctv _ _ I1 (.inr ⟨#[rawInt pos.line, rawInt pos.col, .ref c'], nC, rfl, by rw [eL]; exact PySem.TriplesOk_snoc _ _ _ _ ht, fun p' cv hcv => ?_⟩) (Heap.get?_push_size _ rfl) ?_ (nofr _ hsz) upd_same
    · rw [eL] at hcv
      exact LamX.among_app _ ht hcv
    · have n1 : h'.objs.size ≠ c' := Nat.ne_of_gt hlt
      have n2 : h'.objs.size ≠ P := Nat.ne_of_gt (Nat.lt_of_lt_of_le (Heap.lt_size hP') hsz)
      rw [upd_ne n1, upd_ne n2]
      exact I.hok.fresh hsz
  | some cv =>
    obtain ⟨c', e, hco⟩ := ha pos cv hc
    subst e
    refine PySem.W.kla_makeFunctionHit (mg := X.mg) (c := c) (P := P) (ps := ps) (closure_ok hfree) I.ok.glob (I.mod.glob.keeps I.bk) hcode (TB.code.keeps I.bk) hP' ht hc bP fun ctv h' tk hx hsz => ?_
    have I1 : Inv X pins σ H { s with heap := h'.push (PySem.W.kla_obj "<lambda>" (X.env.qual ++ "<lambda>") params body scope (cloFrom X.env.cells scope.names []) ((X.mg "__name__").getD .none) c' ctv), toks := tk } := I.kept fun b o e => Heap.get?_push_of_some _ (hx b o e)
    exact h h'.objs.size c' ((X.mg "__name__").getD .none) ctv H _ I1 (.inl rfl) (Heap.get?_push_size _ rfl) (I.hok.fresh hsz) (nofr _ hsz) hco
/-- x(), x the lambda; what it raises is wished for at the caller's slots -/
theorem pe_actG {CXg : CXT} {Eg : XK} {Ng : List Str} {qg : Str} {sg : Scope} {g f c' : Addr} {cdg pm ctv : Value} {params : Arguments} {body : Expr} {scope : Scope} {k i : Nat} {a : Str} {pn : List (Addr × Obj)} {xe : Value → Shared → Prop} {W : WX} {tb : XK → TE} {p1 p2 : Pos}
    (I : Inv X pins σ H s) (L : LamX.LamS X.env.scope scope) (hf : s.heap.get? f = some (PySem.W.kla_obj "<lambda>" (X.env.qual ++ "<lambda>") params body scope (cloFrom X.env.cells scope.names []) pm c' ctv)) (hfn : H f = none) (hfr : f ∉ frs X.stack)
    (hbind : bindArgs (PySem.W.kla_fn "<lambda>" (X.env.qual ++ "<lambda>") params body scope (cloFrom X.env.cells scope.names []) pm (.ref c') ctv) ⟨[], []⟩ = pure [])
    (tk : Takes ((cxOf CXg X.prog X.w X.K X.mg X.base Ng qg sg g cdg X.A X.stack s H Eg).tr pn xe) W) (hr : Room (k + 1) (X.A.deeper (envOfC qg sg s.heap.objs.size g cdg))) (hgu : X.A.guards = some [])
    (hbody : ∀ (A : Around) (outer : List Env) (s : Shared) (H : Hp) (E : XK), Room k (A.deeper (LamX.lamEnv X scope s.heap.objs.size f c')) → A.guards = some [] → PE (LamX.lamCx X A outer s H E scope f c') body (tb E))
    (hN : Ng[i]? = some a) (hv : Vis sg a) (hd : (a == ("__debug__" : Str)) = false) (hcd : (a == ("__classdict__" : Str)) = false) :
    PE ((cxOf CXg X.prog X.w X.K X.mg X.base Ng qg sg g cdg X.A X.stack s H Eg).tr pn xe) (.Call (.Name a p1) [] [] p2)
      (fun σZ HZ Q => σZ[i]? = some (some (.ref f)) ∧ HZ c' = some (LamX.CodeO c' (X.env.qual ++ "<lambda>")) ∧ ∃ E : XK, (∀ cls d H', E cls d H' → W cls d σZ H') ∧ tb E σ HZ Q) := by
  refine ⟨fun pinsZ sZ σZ HZ Q IZ h => ?_⟩
  obtain ⟨hs, hc, E, hE, ht⟩ := h
  refine wpAny_Call_Name_kw (thn ((pe_var (pos := p1) (i := i) hN hv hd hcd).run pinsZ sZ σZ HZ (fun v H1 => v = .ref f ∧ H1 = HZ) IZ ⟨.ref f, hs, rfl, rfl⟩) fun u s1 ⟨v, H1, I1, r1, q1⟩ => ?_)
  obtain ⟨ev, eH⟩ := q1
  subst ev
  rw [eH] at I1
  obtain rfl : u = Value.ref f := r1
  have of1 : s1.heap.get? f = some (PySem.W.kla_obj "<lambda>" (X.env.qual ++ "<lambda>") params body scope (cloFrom X.env.cells scope.names []) pm c' ctv) := I1.base.keep f _ hf hfn hfr (fun z => nomatch (show f ∈ ([] : List Addr) from z))
  refine PySem.W.callWith_F0 ⟨_, _, _, _, of1⟩ ?_
  have un : Un (frs X.stack) [] H HZ s.heap s1.heap := I1.base
  obtain ⟨⟨oc, vs, t, hoc, hdc, hvc⟩, _, _⟩ := I1.hok c' _ hc
  have rc : codeAny (model X.prog X.w) (X.A.deeper (envOfC qg sg s.heap.objs.size g cdg)) (.call (.ref f) ⟨[], []⟩) (CR (L2.CX X.prog X.w) (envOfC qg sg s.heap.objs.size g cdg :: X.stack) X.prog X.w HZ s1 Q E) s1 := by
    refine PySem.W.kla_callFunE hr.depth of1 rfl L.co L.gen rfl ⟨c', oc, vs, t, rfl, hoc, hdc, hvc⟩ ?_
    rw [hbind]
    refine wpAny_pure (wpAny_newFunctionEnv (fun y hy => (L.own y hy).2) (fun y hy => absurd hy (by simp)) (fun h₁ hns hsb => ⟨I1.nolimit.fresh _ hsb, ?_⟩) L.kind)
    show codeAny _ _ (.expr body (LamX.lamEnv X scope s1.heap.objs.size f c')) _ _
    have kp : ∀ b o, s1.heap.get? b = some o → h₁.get? b = some o := fun b o e => hsb.extBut b o (Nat.ne_of_lt (Heap.lt_size e)) (Heap.get?_push_of_some _ e)
    have J : Inv (LamX.lamCx X (X.A.deeper (envOfC qg sg s.heap.objs.size g cdg)) (envOfC qg sg s.heap.objs.size g cdg :: X.stack) s1 HZ E scope f c') [] σ HZ { s1 with heap := h₁, toks := s1.toks + ([] : List (Str × Value)).length } :=
      LamX.lam_start2 I L I1.env0 hr.hd un hns kp
    refine PySem.W.kla_codeExpr (wpAny_mono ((hbody _ _ s1 HZ E (hr.deeper _) (guards_deeper hgu)).run [] _ _ HZ Q J ht) (fun v s' hq => ?_) fun e s' hq => hq)
    obtain ⟨w', H', J', rv, q⟩ := hq
    exact ⟨w', H', J'.os, J'.bare, J'.base, J'.hok, rv, q⟩
  refine wpAny_call (codeAny_mono rc fun r s' hq => ?_)
  cases r with
  | error e => exact tk _ _ (XE.of_call I1 hE hq)
  | ok fl =>
    cases fl with
    | ret u => exact I1.after hq
    | next => exact False.elim hq
    | brk => exact False.elim hq
    | cont => exact False.elim hq
end
/-- the def that calls what it got: TT what it makes of the lambda's reading -/
def GivesG (X : Cx) (k : Nat) (Ng : List Str) (x : Str) (sg : Scope) (g : Addr) (cdg : Value) (bg : List Stmt) (a : Str) (q : Str) (TT : (XK → Hp → VK → Prop) → Hp → VK → Prop) : Prop :=
  ∀ (f c' : Addr) (s : Shared) (H : Hp) (Q : VK) (tl : XK → Hp → VK → Prop), Room k (X.A.deeper (envOfC x sg s.heap.objs.size g cdg)) →
    (∀ (W : WX) (pn : List (Addr × Obj)) (xe : Value → Shared → Prop) (p1 p2 : Pos), Takes ((cxOf CX0 X.prog X.w X.K X.mg X.base Ng x sg g cdg X.A X.stack s H E0).tr pn xe) W →
      PE ((cxOf CX0 X.prog X.w X.K X.mg X.base Ng x sg g cdg X.A X.stack s H E0).tr pn xe) (.Call (.Name a p1) [] [] p2) (fun σZ HZ Q => σZ[0]? = some (some (.ref f)) ∧ HZ c' = some (LamX.CodeO c' q) ∧ ∃ E : XK, (∀ cls d H', E cls d H' → W cls d σZ H') ∧ tl E HZ Q)) →
    H c' = some (LamX.CodeO c' q) → TT tl H Q →
    ∃ t, PSs (cxOf CX0 X.prog X.w X.K X.mg X.base Ng x sg g cdg X.A X.stack s H E0) bg t ∧ t { nx := fun _ H' => Q .non H', rt := Q } (L2.start Ng [.ref f]) H
/-- the table at P tells code objects of the name q alone -/
def TabI (B : Hp) (q : Str) (ps : Array Value) : Prop := TriplesOk ps.toList ∧ ∀ (pos : Pos) (cv : Value), codeAmong pos ps.toList = some cv → ∃ c, cv = .ref c ∧ B c = some (LamX.CodeO c q)
def tLamG (P : Addr) (q : Str) (TT : (XK → Hp → VK → Prop) → Hp → VK → Prop) (t : XK → TE) : TE := fun σ H Q => ∃ ps, H P = some (.tbl ps) ∧ TabI H q ps ∧ TT (fun E H' Q' => t E σ H' Q') H Q ∧
  ∀ c' more, H c' = none → TriplesOk (ps ++ more).toList → (∀ (pos : Pos) (cv : Value), codeAmong pos (ps ++ more).toList = some cv → codeAmong pos ps.toList = some cv ∨ cv = .ref c') → TT (fun E H' Q' => t E σ H' Q') (tabSt H P c' q ps more) Q
section
variable {X : Cx}
theorem pe_lamG {TT : (XK → Hp → VK → Prop) → Hp → VK → Prop} {x a : Str} {g c P : Addr} {k : Nat} {fd : FuncData} {pg : Arguments} {bg : List Stmt} {sg : Scope} {Ng : List Str} {params : Arguments} {body : Expr} {scope : Scope} {t : XK → TE} {p lpos pos : Pos}
    (hg : Gl X x) (hm : X.mg x = some (.ref g)) (F : FunD X.K x x pg bg sg [] [] g fd) (hbd : L2.Binds X.K fd [a] []) (Sg : FnScope Ng [a] sg) (hNg : Ng[0]? = some a) (hva : Vis sg a) (hgu : X.A.guards = some [])
    (hG : ∀ cdg, GivesG X k Ng x sg g cdg bg a (X.env.qual ++ "<lambda>") TT) (TB : LamX.TabB X.base X.mg c P) (hcode : X.env.code = .ref c) (hr : Room (k + 2) X.A) (L : LamX.LamS X.env.scope scope) (hdef : defaultsOf params X.env = ([], []))
    (hbind : ∀ (q : Str) (cl : List (Str × Addr)) (pm cv ctv : Value), bindArgs (PySem.W.kla_fn "<lambda>" q params body scope cl pm cv ctv) ⟨[], []⟩ = pure [])
    (hbody : ∀ (A : Around) (outer : List Env) (s : Shared) (H : Hp) (E : XK) (f c' : Addr), Room k (A.deeper (LamX.lamEnv X scope s.heap.objs.size f c')) → A.guards = some [] → PE (LamX.lamCx X A outer s H E scope f c') body (t E))
    (hdb : (x == ("__debug__" : Str)) = false := by decide) (hd : (a == ("__debug__" : Str)) = false := by decide) (hcd : (a == ("__classdict__" : Str)) = false := by decide) :
    PE X (.Call (.Name x p) [.Lambda params body scope lpos] [] pos) (tLamG P (X.env.qual ++ "<lambda>") TT t) := by
  refine ⟨fun pins s σ H Q I h => ?_⟩
  obtain ⟨ps, hP, hT, h1, h2⟩ := h
  obtain ⟨oc, od, dV, kV, doc, pm, an, cdv, ct, osl, rfl, lk, hcg, _, _⟩ := F.ex
  refine wpAny_Call_Name_kw (ld_glob I hg hm ?_ hdb)
  refine PySem.W.callWith_K (h₀ := X.base) I.ok.mod.kin F.kp ?_ (by rfl) (by rfl)
  show wpAny _ _ (spliced ((false, eval (.Lambda params body scope lpos) X.env) :: backTo pos (starEach [] X.env))) _ _ s
  refine Calls.spliced_cons (lam_makeG I TB hcode hP hT.1 hT.2 hdef (L.has I.ok) fun f c' pm' ctv H1 s' I1 eH hf hfn hfr hco => ?_)
  refine Calls.spliced_nil ⟨I1.kIn, ?_⟩
  have hTT : TT (fun E H' Q' => t E σ H' Q') H1 Q := by
    rcases eH with rfl | ⟨more, n, rfl, e1, e2⟩
    · exact h1
    · exact h2 c' more n e1 e2
  have rc : codeAny (model X.prog X.w) X.A (.call (.ref g) ⟨[.ref f], []⟩) (CR CX0 X.stack X.prog X.w H1 s' Q E0) s' := by
    refine LamX.run_ofS (N := Ng) (ps := [a]) (us := [.ref f]) (vs := [.ref f]) lk hcg Sg hr I1.env0 (hbd s' [.ref f] I1.kIn rfl) (.cons rfl .nil) rfl fun hr' => ?_
    exact hG cdv f c' s' H1 Q (fun E H' Q' => t E σ H' Q') (hr'.mono (Nat.le_succ _)) (fun W pn xe p1 p2 tk => pe_actG (i := 0) I1 L hf hfn hfr (hbind _ _ _ _ _) tk hr' hgu (fun A outer s H E hr2 hg2 => hbody A outer s H E f c' hr2 hg2) hNg hva hd hcd) hco hTT
  refine wpAny_call (codeAny_mono rc fun r s2 hq => ?_)
  cases r with
  | error e => exact (show False from hq).elim
  | ok fl =>
    cases fl with
    | ret u => exact I1.after hq
    | next => exact False.elim hq
    | brk => exact False.elim hq
    | cont => exact False.elim hq
end
section
variable {B H : Hp} {M L : List (Addr × HO)} {Q : VK} {P : Addr} {q : Str} {ps : Array Value} {TT : (XK → Hp → VK → Prop) → Hp → VK → Prop} {t : XK → TE} {σ : L2.St}
theorem TabI.same {B' : Hp} (h : TabI B q ps) (s : Same B B') : TabI B' q ps := ⟨h.1, fun pos cv e => by
  obtain ⟨c, e1, e2⟩ := h.2 pos cv e
  exact ⟨c, e1, s _ _ e2⟩⟩
theorem TabI.nil : TabI B q #[] := ⟨True.intro, fun pos cv hc => by
  have z : codeAmong pos [] = some cv := hc
  simp [codeAmong] at z⟩
theorem g_lamG (I : Is B M ((P, .tbl ps) :: L) H) (hT : TabI B q ps)
    (k : ∀ B' ps' H', Same B B' → Is B' M ((P, .tbl ps') :: L) H' → TabI B' q ps' → TT (fun E H' Q' => t E σ H' Q') H' Q) : tLamG P q TT t σ H Q := by
  have hP := I.get (List.Mem.head _)
  refine ⟨ps, hP, hT.same I.ex, k B ps H (fun _ _ e => e) I hT, fun c' more n e1 e2 => ?_⟩
  have I2 := I.put (Put.here (o := .tbl (ps ++ more)))
  have nP : c' ≠ P := fun z => by
    rw [z, hP] at n
    cases n
  have I3 := I2.new (p := c') (o := LamX.CodeO c' q) (by rw [upd_ne nP]; exact n)
  refine I3.give .here fun B' s b I4 => ?_
  refine k B' (ps ++ more) _ s I4 ⟨e1, fun pos cv hcv => ?_⟩
  rcases e2 pos cv hcv with h | h
  · obtain ⟨c, h1, h2⟩ := hT.2 pos cv h
    exact ⟨c, h1, s _ _ h2⟩
  · exact ⟨c', h, b⟩
end
end Bz
namespace Bz
open PySem PySem.Spec PyProof.Rows L2
section
variable {K : PySem.W.Frag} {a b : Addr} {o : Obj} {xs : List V} {u : HO}
end
end Bz
namespace Bz
open PySem PySem.Spec PyProof.Rows L2
/-- the addresses that hang on the top's names, by levels; those seen are kept as a number's bits -/
def forceN {α : Type} (n : Nat) (k : Nat → α) : α := match n with
  | 0 => k 0
  | m + 1 => k (m + 1)
def addE {α : Type} : List Addr → Nat → List Addr → (Nat → List Addr → α) → α
  | [], seen, new, k => k seen new
  | a :: r, seen, new, k => forceN a fun a => match Nat.beq (Nat.land (Nat.shiftRight seen a) 1) 1 with
    | true => addE r seen new k
    | false => forceN (Nat.lor seen (Nat.shiftLeft 1 a)) fun seen => addE r seen (a :: new) k
def levE {α : Type} (g : Addr → Option Obj) : List Addr → Nat → List Addr → (Nat → List Addr → α) → α
  | [], seen, new, k => k seen new
  | a :: r, seen, new, k => match g a with
    | some o => addE (He.refsD o) seen new fun seen new => levE g r seen new k
    | none => levE g r seen new k
def growE (g : Addr → Option Obj) : Nat → List Addr → Nat → List Addr → List Addr
  | 0, _, _, all => all
  | n + 1, front, seen, all => levE g front seen [] fun seen new => growE g n new seen (all ++ new)
def asE (g : Addr → Option Obj) (n : Nat) : List Addr := growE g n [mainGlobals] (Nat.shiftLeft 1 mainGlobals) [mainGlobals]
abbrev Ask : Type := PySem.W.Frag → Bool
abbrev AlB : Type := Bool × He.AlT
def obsB (fa : List He.Fa) (fn : List He.DefD) (ts : List He.Tab) (bs : List Ask) (K : PySem.W.Frag) : AlB := (bs.all fun b => b K, He.obsT fa fn ts K)
def valB (fn : List He.DefD) (ts : List He.Tab) (w : World) : AlB := (true, He.valT fn ts w)
def SaysB (fa : List He.Fa) (fn : List He.DefD) (ts : List He.Tab) (bs : List Ask) (w : World) (K : PySem.W.Frag) : Prop := obsB fa fn ts bs K = valB fn ts w
section
variable {fa : List He.Fa} {fn : List He.DefD} {ts : List He.Tab} {bs : List Ask} {w : World} {K : PySem.W.Frag}
theorem SaysB.t (c : SaysB fa fn ts bs w K) : He.SaysT fa fn ts w K := congrArg (fun z : AlB => z.2) c
theorem SaysB.d (c : SaysB fa fn ts bs w K) : He.SaysD fa fn K := c.t.d
theorem SaysB.ask (c : SaysB fa fn ts bs w K) (i : Nat) {b : Ask} (h : bs[i]? = some b := by rfl) : b K = true := by
  have c1 : (bs.all fun b => b K) = true := congrArg (fun z : AlB => z.1) c
  exact List.all_eq_true.mp c1 b (List.mem_of_getElem? h)
end
end Bz
namespace Bz
open PySem PySem.Spec PyProof.Rows L2
structure XoneF (K : PySem.W.Frag) (C : Addr) (f : Str) : Prop where
  T : OexC K C
  i : PySem.W.findIn K (.ref C) "__init__" = some (some (.ref (He.ma K C "__init__")))
  t : PySem.W.typeIn K (.ref (He.ma K C "__init__")) = some (.type "function")
  n : PySem.W.findIn K (.ref C) f = some none
def obsBT (fa : List He.Fa) (fn : List He.DefD) (ts : List He.Tab) (bs : List Ask) (tf : List He.Defn) (g : Addr → Option Obj) (K : PySem.W.Frag) : AlB × Bool := (obsB fa fn ts bs K, He.tabsB g tf K)
def hookBT (n : Nat) (fa : List He.Fa) (fn : List He.DefD) (ts : List He.Tab) (bs : List Ask) (tf : List He.Defn) : PySem.W.Hook where
  α := AlB × Bool
  obs := fun s => obsBT fa fn ts bs tf s.heap.get? (He.frT s.heap.get? (asE s.heap.get? n))
  val := fun w => (valB fn ts w, true)
  says := fun w h => ∃ K : PySem.W.Frag, K.In h ∧ SaysB fa fn ts bs w K ∧ (∀ p ∈ tf, PySem.W.codeHdIn K (He.cT K p).1 (He.cT K p).2 = true) ∧ (∀ p ∈ tf, K.lookup (He.cT K p).2 = none) ∧ ∀ p ∈ tf, h.get? (He.cT K p).2 = some { cls := .none, data := .fields #[] }
  of := fun w s e => by
    have e1 : obsB fa fn ts bs (He.frT s.heap.get? (asE s.heap.get? n)) = valB fn ts w := congrArg (fun z : AlB × Bool => z.1) e
    have e2 : He.tabsB s.heap.get? tf (He.frT s.heap.get? (asE s.heap.get? n)) = true := congrArg (fun z : AlB × Bool => z.2) e
    have key : ∀ p ∈ tf, PySem.W.codeHdIn (He.frT s.heap.get? (asE s.heap.get? n)) (He.cT (He.frT s.heap.get? (asE s.heap.get? n)) p).1 (He.cT (He.frT s.heap.get? (asE s.heap.get? n)) p).2 = true ∧ ∃ o, s.heap.get? (He.cT (He.frT s.heap.get? (asE s.heap.get? n)) p).2 = some o ∧ He.emptyTab o = true := fun p hp => by
      have h := List.all_eq_true.mp e2 p hp
      simp only [Bool.and_eq_true] at h
      obtain ⟨h3, h4⟩ := h
      refine ⟨h3, ?_⟩
      cases q : s.heap.get? (He.cT (He.frT s.heap.get? (asE s.heap.get? n)) p).2 with
      | none =>
        rw [q] at h4
        cases h4
      | some o =>
        rw [q] at h4
        exact ⟨o, rfl, h4⟩
    exact ⟨_, He.frT_in, e1, fun p hp => (key p hp).1, fun p hp => by
      obtain ⟨_, o, q, z⟩ := key p hp
      exact He.frT_none q z, fun p hp => by
      obtain ⟨_, o, q, z⟩ := key p hp
      rw [q, He.emptyTab_eq z]⟩
  keeps := fun _ _ _ ⟨K, hK, c, h1, h2, h3⟩ k => ⟨K, PySem.W.Frag.In.keeps hK k, c, h1, h2, fun p hp => k _ _ (h3 p hp)⟩
theorem obsBT_eq {n : Nat} {fa : List He.Fa} {fn : List He.DefD} {ts : List He.Tab} {bs : List Ask} {tf : List He.Defn} {g : Addr → Option Obj} {s : Shared} (h : ∀ a, g a = s.heap.get? a) : obsBT fa fn ts bs tf g (He.frT g (asE g n)) = (hookBT n fa fn ts bs tf).obs s := by
  have e : g = s.heap.get? := funext h
  rw [e] <;> rfl
end Bz
namespace Bz
open PySem PySem.Spec PyProof.Rows L2
def scrT (K : PySem.W.Frag) (a : Addr) (o : Obj) (xs : List V) (Ts : List Addr) : Hp := fun b => if b = a ∧ K.lookup a = none then some (.frz o (.lst xs)) else if b ∈ Ts then some (.tbl #[]) else none
section
variable {K : PySem.W.Frag} {a b : Addr} {o : Obj} {xs : List V} {u : HO} {Ts : List Addr}
theorem scrT_at (h : scrT K a o xs Ts b = some u) : (b = a ∧ K.lookup a = none ∧ u = .frz o (.lst xs)) ∨ (b ∈ Ts ∧ u = .tbl #[]) := by
  unfold scrT at h
  split at h
  · rename_i c
    exact .inl ⟨c.1, c.2, (Option.some.inj h).symm⟩
  · split at h
    · rename_i c
      exact .inr ⟨c, (Option.some.inj h).symm⟩
    · cases h
theorem scrT_else (h : ∀ u, ¬ scrT K a o xs Ts b = some u) : scrT K a o xs Ts b = none := by
  cases e : scrT K a o xs Ts b with
  | none => rfl
  | some u => exact absurd e (h u)
theorem scrT_tab (h : b ∈ Ts) (n : a ∉ Ts) : scrT K a o xs Ts b = some (.tbl #[]) := by
  unfold scrT
  rw [if_neg (fun z => n (by rw [← z.1]; exact h)), if_pos h]
end
theorem walk_ofGT {l : PySem.W.OpenLaw} {n k : Nat} {q : Program} {loose : List Str} {XP : (Str → Option Value) → Heap → Prop} {YP : World → Heap → Prop} {d : DefRec} {CX : CXT} {x : Str}
    (hn : l.most = some n) (hn2 : n ≤ sizeLine) (hdf : d.params.defaults = []) (hr : Room k callerA)
    (F : ∀ (w : World) (mg : Str → Option Value) (fa : Addr) (h : Heap), YP w h → h.Ns mainGlobals mg → mg d.name = some (.ref fa) →
      ∃ (K : PySem.W.Frag) (fd : FuncData) (sp : Sp) (cs : List (Addr × Addr)), K.In h ∧ (∀ p ∈ cs, h.get? p.2 = some { cls := .none, data := .fields #[] }) ∧ (∀ p ∈ cs, K.lookup p.2 = none) ∧ (∀ p ∈ cs, PySem.W.CodeHd h p.1 p.2) ∧ (∀ (s : Shared) (u : Value), BindsTo s fd ⟨[u], []⟩ [(x, u)]) ∧
        (∀ (H : Hp) (a : Addr) (ns : List Int), ns.length ≤ n → (∀ p ∈ cs, H p.2 = some (.tbl #[])) → a ∉ cs.map (·.2) → SqL K H a (ns.map V.int) → sp [.ref a] H (fun v _ => v = .bl true) fun _ _ _ => False) ∧
        ∀ base : Heap, K.In base → base.Ns mainGlobals mg → (∀ p ∈ cs, LamX.TabB base mg p.1 p.2) → FnG l.prog w K mg base CX k fa fd [x] sp)
    (hCX : ∀ (H : Hp) (s : Shared) (e : Value) (s' : Shared), CX [] H s (fun _ _ _ => False) e s' → False) :
    PySem.W.WalkO q loose XP YP l.row.toRowW d [] (fun f vs => PySem.call f vs) := by
  refine Att.attach_call hn hdf fun w s₀ s₁ mg mb fa o pm cd doc a vs ns G Y ho hd hcd hmg hobj hints hlen hg => ?_
  obtain ⟨K, fd, sp, cs, KX, hT, nT, C, hb, hsp, hF⟩ := F w mg fa _ Y G.T.g hmg
  have hv := vals_ints hints
  have hlv := hints.length
  have hsz : ns.length ≤ sizeLine := Nat.le_trans hlen hn2
  have isT : ∀ b : Addr, b ∈ cs.map (·.2) → s₁.heap.get? b = some { cls := .none, data := .fields #[] } := fun b hb => by
    obtain ⟨p, hp, e⟩ := List.mem_map.mp hb
    rw [← e]
    exact hT p hp
  have aT : a ∉ cs.map (·.2) := fun z => by
    have q := isT a z
    rw [hobj] at q
    have z' : Data.seq vs.toArray _ = Data.fields #[] := congrArg Obj.data (Option.some.inj q)
    cases z'
  generalize hH : scrT K a { cls := .type "list", data := .seq vs.toArray } (ns.map V.int) (cs.map (·.2)) = H
  have told : ∀ {b : Addr} {u : HO}, H b = some u → (b = a ∧ K.lookup a = none ∧ u = .frz { cls := .type "list", data := .seq vs.toArray } (.lst (ns.map V.int))) ∨ (b ∈ cs.map (·.2) ∧ u = .tbl #[]) := fun {b u} e => by
    rw [← hH] at e
    exact scrT_at e
  have free : ∀ {b : Addr}, (∀ u, ¬ H b = some u) → H b = none := fun {b} e => by
    rw [← hH] at e ⊢
    exact scrT_else e
  have tabs : ∀ p ∈ cs, H p.2 = some (.tbl #[]) := fun p hp => by
    rw [← hH]
    exact scrT_tab (List.mem_map.mpr ⟨p, hp, rfl⟩) aT
  have seen : ∀ {b : Addr} {ob : Obj}, s₁.heap.get? b = some ob → (∀ u, ¬ H b = some u) → (hidT s₁.heap H).get? b = some ob := fun e z => hidT_get e (free z)
  have noD : ∀ {b : Addr} {ob : Obj}, s₁.heap.get? b = some ob → (∀ vs n, ob.data ≠ .seq vs n) → ob.data ≠ .fields #[] → ∀ u, ¬ H b = some u := fun {b ob} e h1 h2 u z => by
    rcases told z with ⟨e1, _, _⟩ | ⟨e1, _⟩
    · rw [e1, hobj] at e
      cases e
      exact h1 _ _ rfl
    · rw [isT b e1] at e
      cases e
      exact h2 rfl
  have names : ∀ {b : Addr} {m : Str → Option Value}, s₁.heap.Ns b m → (hidT s₁.heap H).Ns b m := by
    rintro b m ⟨ob, es, ep, e, hdd, r⟩
    refine ⟨ob, es, ep, seen e (noD e (fun vs n z => ?_) fun z => ?_), hdd, r⟩ <;> rw [hdd] at z <;> cases z
  have own : K.In (hidT s₁.heap H) := fun b ob e => seen (KX b ob e) fun u z => by
    rcases told z with ⟨h1, h2, _⟩ | ⟨h1, _⟩
    · rw [h1, h2] at e
      cases e
    · obtain ⟨p, hp, ep⟩ := List.mem_map.mp h1
      rw [← ep, nT p hp] at e
      cases e
  have seq : SqL K H a (ns.map V.int) := by
    cases hk : K.lookup a with
    | none => exact .inl (.inr ⟨{ cls := .type "list", data := .seq vs.toArray }, by rw [← hH]; exact if_pos ⟨rfl, hk⟩⟩)
    | some ob =>
      have e := KX a ob hk
      rw [hobj] at e
      cases e
      exact .inr ⟨_, vs.toArray, _, hk, rfl, rfl, rfl, by rw [List.size_toArray, hlv]; exact hsz, by simpa using hv⟩
  have good : HOk l.prog w H s₁.heap := fun b u e => by
    rcases told e with ⟨h1, _, h3⟩ | ⟨h1, h3⟩
    · subst h1 h3
      exact ⟨hobj, by rw [List.length_map]; exact hsz, vs, _, hv, hobj⟩
    · subst h3
      exact isT b h1
  have TB : ∀ p ∈ cs, LamX.TabB (hidT s₁.heap H) mg p.1 p.2 := fun p hp => by
    have hTp := hT p hp
    refine ⟨?_, ?_, fun z => ?_⟩
    · obtain ⟨o, us, file, tf, flags, tg, inF, text, tt, e1, r1, r2, r3, r4, r5, r6, r7, r8, hne⟩ := C p hp
      refine ⟨o, us, file, tf, flags, tg, inF, text, tt, seen e1 (noD e1 (fun vs n z => ?_) fun z => ?_), r1, r2, r3, r4, r5, r6, r7, r8, hne⟩
      · rw [r2] at z
        cases z
      · rw [r2] at z
        cases z
        simp at r3
    · obtain ⟨bm, ob, b1, b2, b3, b4, b5, b6⟩ := G.T.bmain
      have nG : bm ≠ mainGlobals := fun q => by
        obtain ⟨o, es, ep, e, hd, _⟩ := G.T.g
        rw [q, e] at b3
        cases b3
        rw [hd] at b6
        cases b6
      have nP : bm ≠ p.2 := fun q => by
        rw [q, hTp] at b3
        cases b3
        cases b6
      refine ⟨bm, ob, b1, b2, nG, nP, seen b3 (noD b3 (fun vs n z => ?_) fun z => ?_), b4, b5, b6⟩
      · rw [b6] at z
        cases z
      · rw [b6] at z
        cases z
    · obtain ⟨o, es, ep, e, hd, _⟩ := G.T.g
      rw [z, hTp] at e
      cases e
      cases hd
  obtain ⟨mc, l1, l2⟩ := G.T.nolimit
  have env : Env0 l.prog w K mg (hidT s₁.heap H) callerA [] s₁ H :=
    ⟨rfl, ⟨own, names G.T.g, ⟨mb, names G.T.b, G.T.builtins⟩, ⟨mc, names l1, l2⟩⟩, fun b ob e => of_hidT e, Nat.le_of_eq (hidT_size _ _), trivial, fun b z => List.not_mem_nil (show b ∈ ([] : List Addr) from z) |>.elim, good, .of_eq hg⟩
  refine codeAny_mono ((hF _ own (names G.T.g) TB).go callerA [] s₁ H ⟨[.ref a], []⟩ [.ref a] [.ref a] _ _ hr rfl env (hb s₁ (.ref a)) (.cons rfl .nil) (hsp H a ns hlen tabs aT seq)) ?_
  rintro (e | fl) s' z
  · exact (hCX H s₁ e s' z).elim
  · cases fl with
    | ret v =>
      obtain ⟨y, H', hos, hbare, keep, ok', rv, hy⟩ := z
      have hy : y = .bl true := hy
      rw [hy] at rv
      have ev : v = Value.bool true := rv
      rw [ev]
      have key : ∀ b o, b ∉ cs.map (·.2) → s₁.heap.get? b = some o → s'.heap.get? b = some o := fun b ob nb e => by
        cases hq : H b with
        | none => exact keep.keep b ob e hq (fun z => (List.not_mem_nil (show b ∈ ([] : List Addr) from z)).elim) (by simp)
        | some u =>
          rcases told hq with ⟨_, _, h3⟩ | ⟨h1, _⟩
          · rw [h3] at hq
            have e1 := (good b _ hq).1
            rw [e1] at e
            cases e
            exact (ok' b _ (keep.frzs b _ _ hq)).1
          · exact absurd h1 nb
      have grown : ∀ p ∈ cs, ∃ more : Array Value, s'.heap.get? p.2 = some { cls := .none, data := .fields more } := fun p hp => by
        obtain ⟨more, z⟩ := keep.tbls p.2 #[] (tabs p hp)
        exact ⟨_, ok' p.2 _ z⟩
      refine ⟨rfl, ⟨fun b o e => ?_, fun b o e => ?_⟩, hos, hbare⟩
      · by_cases hb : b ∈ cs.map (·.2)
        · obtain ⟨p, hp, ep⟩ := List.mem_map.mp hb
          obtain ⟨more, hm⟩ := grown p hp
          rw [← ep] at e ⊢
          rw [hT p hp] at e
          cases e
          exact .inr (.inl ⟨((C p hp).tab (hT p hp)).isCodeTable, rfl, #[], more, rfl, by rw [Array.empty_append]; exact hm⟩)
        · exact .inl (key b o hb e)
      · by_cases hb : b ∈ cs.map (·.2)
        · obtain ⟨p, hp, ep⟩ := List.mem_map.mp hb
          obtain ⟨more, hm⟩ := grown p hp
          rw [← ep]
          exact ⟨_, hm⟩
        · exact ⟨o, key b o hb e⟩
    | _ => exact False.elim z
/-- a def by its body, its code object known -/
theorem fnG_ofC {P : Program} {w : World} {K : PySem.W.Frag} {mg : Str → Option Value} {base : Heap} {CX : CXT} {k : Nat} {p : He.Defn} {fd : FuncData} {N ps : List Str} {sp : Sp} {x qual : Str} {params : Arguments} {body : List Stmt} {scope : Scope} {dvs : List V} {kws : List (Str × V)}
    (F : FunD K x qual params body scope dvs kws (He.fAd K p) fd) (S : FnScope N ps scope) (len : ∀ vs H Q E, sp vs H Q E → vs.length = ps.length)
    (hb : ∀ (A : Around) (outer : List Env) (s : Shared) (H : Hp) (vs : List V) (Q : VK) (E : XK),
      Room k (A.deeper (envOfC qual scope s.heap.objs.size (He.fAd K p) (.ref (He.cT K p).1))) → (A.deeper (envOfC qual scope s.heap.objs.size (He.fAd K p) (.ref (He.cT K p).1))).guards = some [] → sp vs H Q E →
      ∃ t, PSs (cxOf CX P w K mg base N qual scope (He.fAd K p) (.ref (He.cT K p).1) A outer s H E) body t ∧ t { nx := fun _ H' => Q .non H', rt := Q } (start N vs) H) :
    FnG P w K mg base CX (k + 1) (He.fAd K p) fd ps sp := by
  obtain ⟨oc, od, dV, kV, doc, pm, an, cdv, ct, osl, rfl, lk, hcd, _, _⟩ := F.ex
  obtain ⟨c, rfl⟩ := He.codeIn_ref hcd
  have ec : (He.cT K p).1 = c := He.codeOf_eq lk rfl
  subst ec
  refine ⟨len, fun A outer s H args us vs Q E hr hg e0 bnd rv hq => ?_⟩
  have KX : K.In s.heap := e0.mod.kin.keeps fun b o e => (e0.bs b o e).1
  refine codeAny_call_function hr.depth (KX _ _ lk) rfl S.co S.gen rfl (PySem.W.codeRec_of KX hcd) (bnd _ _ _ _ ?_)
  refine wpAny_newFunctionEnv_cells S.kind ?_ ?_
  · rintro ⟨n, v⟩ hy
    rcases S.par n (List.of_mem_zip hy).1 with q | q
    · exact Or.inl q
    · exact Or.inr ⟨q, PySem.W.cellsFrom_some _ _ _ (Or.inl q)⟩
  · intro env he s1 x
    subst he
    have lim : s.heap.NoLimit := e0.mod.nolimit.keeps fun b o e => (e0.bs b o e).1
    refine ⟨lim.keeps x.toInCall.keep, codeAny_func ?_⟩
    obtain ⟨t, ht, q⟩ := hb A outer s H vs Q E (hr.deeper _) (guards_deeper hg) hq
    have I := inv_start (CX := CX) (E := E) S hr.hd e0 (len _ _ _ _ hq) rv x
    refine wpAny_mono (ht.run [] s1 (start N vs) H _ I q) ?_ (fun _ _ z => z)
    intro fl s' z
    cases fl with
    | ret u =>
      obtain ⟨v, σ', H', J, r, q'⟩ := z
      exact ⟨v, H', J.os, J.bare, J.base, J.hok, r, q'⟩
    | next =>
      obtain ⟨σ', H', J, q'⟩ := z
      exact ⟨V.non, H', J.os, J.bare, J.base, J.hok, rfl, q'⟩
    | brk => exact z.elim fun _ z => z.elim fun _ z => z.2.elim
    | cont => exact z.elim fun _ z => z.elim fun _ z => z.2.elim
end Bz
namespace Bz
open PySem PySem.Spec PyProof.Rows L2
def dropRefs : List Value → List Value
  | .ref _ :: r => dropRefs r
  | l => l
theorem drop_contains (Y : String) : ∀ l : List Value, l.contains (Value.type Y) = (dropRefs l).contains (Value.type Y)
  | [] => rfl
  | a :: r => by
    cases a with
    | ref c =>
      rw [List.contains_cons, drop_contains Y r]
      rfl
    | _ => rfl
theorem drop_refuse (v : Value) : ∀ l : List Value, refuseLoop v "__setattr__" l = refuseLoop v "__setattr__" (dropRefs l)
  | [] => rfl
  | a :: r => by
    cases a with
    | ref c =>
      rw [refuseLoop_ref, drop_refuse v r]
      rfl
    | _ => rfl
/-- what is asked of the built-in class at the end: newId makes its instances, tl are its classes -/
structure XBase (newId : String) (tl : List Value) : Prop where
  F : ∃ (B initId : String) (bmB : List Value), ExcBaseFacts B newId initId bmB ∧ tl.contains (.type B) = true
  nA : tl.contains (.type "AttributeError") = false
  nN : tl.contains (.type "NameError") = false
  ob : tl.contains (.type "object") = true
  ps : ∀ v : Value, refuseLoop v "__setattr__" tl = pure ()
def tlVal : List Value := [.type "ValueError", .type "Exception", .type "BaseException", .type "object"]
def tlKey : List Value := [.type "KeyError", .type "LookupError", .type "Exception", .type "BaseException", .type "object"]
def tlLook : List Value := [.type "LookupError", .type "Exception", .type "BaseException", .type "object"]
def tlOver : List Value := [.type "OverflowError", .type "ArithmeticError", .type "Exception", .type "BaseException", .type "object"]
def tlRun : List Value := [.type "RuntimeError", .type "Exception", .type "BaseException", .type "object"]
def tlExc : List Value := [.type "Exception", .type "BaseException", .type "object"]
theorem xb_val : XBase "ValueError.__new__" tlVal := ⟨⟨_, _, _, F.excBase_ValueError, by decide +kernel⟩, by decide +kernel, by decide +kernel, by decide +kernel, fun v => by kernel_rfl⟩
theorem xb_key : XBase "LookupError.__new__" tlKey := ⟨⟨_, _, _, F.excBase_LookupError, by decide +kernel⟩, by decide +kernel, by decide +kernel, by decide +kernel, fun v => by kernel_rfl⟩
theorem xb_look : XBase "LookupError.__new__" tlLook := ⟨⟨_, _, _, F.excBase_LookupError, by decide +kernel⟩, by decide +kernel, by decide +kernel, by decide +kernel, fun v => by kernel_rfl⟩
theorem xb_over : XBase "OverflowError.__new__" tlOver := ⟨⟨_, _, _, F.excBase_OverflowError, by decide +kernel⟩, by decide +kernel, by decide +kernel, by decide +kernel, fun v => by kernel_rfl⟩
theorem xb_run : XBase "RuntimeError.__new__" tlRun := ⟨⟨_, _, _, F.excBase_RuntimeError, by decide +kernel⟩, by decide +kernel, by decide +kernel, by decide +kernel, fun v => by kernel_rfl⟩
theorem xb_exc : XBase "Exception.__new__" tlExc := ⟨⟨_, _, _, F.excBase_Exception, by decide +kernel⟩, by decide +kernel, by decide +kernel, by decide +kernel, fun v => by kernel_rfl⟩
def xbL : List (String × List Value) := [("ValueError.__new__", tlVal), ("LookupError.__new__", tlKey), ("LookupError.__new__", tlLook), ("OverflowError.__new__", tlOver), ("RuntimeError.__new__", tlRun), ("Exception.__new__", tlExc)]
theorem xb_of {n : String} {tl : List Value} (h : (n, tl) ∈ xbL) : XBase n tl := by
  simp only [xbL, List.mem_cons, List.not_mem_nil, or_false, Prod.mk.injEq] at h
  rcases h with ⟨rfl, rfl⟩ | ⟨rfl, rfl⟩ | ⟨rfl, rfl⟩ | ⟨rfl, rfl⟩ | ⟨rfl, rfl⟩ | ⟨rfl, rfl⟩
  · exact xb_val
  · exact xb_key
  · exact xb_look
  · exact xb_over
  · exact xb_run
  · exact xb_exc
section
variable {M : Model} {prog : Program} {w : World} {A : Around} {E : Value → Shared → Prop} {R : Result → Shared → Prop} {hp : Heap} {g : Array GenState} {d : Drawn} {t : Nat} {os : OsState}
variable {nm q : Str} {C N : Addr} {bs bm bmB : List Value} {sn : List Str} {sub : List Value} {ab : Bool} {col : Option Bool} {dd : Option Addr} {k0 k1 k2 k3 k5 : Option Value} {B newId initId : String}
theorem xnew_chk (G : ExcBaseFacts B newId initId bmB) (c1 : bm.contains (.type B) = true) {us : List Value} {Q : Unit → Shared → Prop}
    (kC : hp.get? C = some (excClassObj nm q C N bs bm true sn sub ab col dd k0 k1 k2 k3 k5 newId)) (z : Q () ⟨hp, g, d, t, os⟩) : wpAny M A (checkBuiltinCall newId ⟨.ref C :: us, []⟩) Q E ⟨hp, g, d, t, os⟩ := by
  have m1 : (Value.ref C :: bm).contains (.type B) = true := by
    rw [List.contains_cons, c1, Bool.or_true]
  have st := G.noStar
  simp only [checkBuiltinCall, G.newKind, G.newSplit, G.newRow]
  repeat (first
    | refine wpAny_loadPart_at kC ?_
    | (refine wpAny_isSubtype_exc kC ?_; rw [m1])
    | refine wpAny_staticBase_exc kC ?_
    | refine wpAny_madeBy_exc kC ?_
    | simp only [bne_self_eq_false, Bool.false_eq_true, if_false]
    | wp_step)
  exact z
theorem xnew_run (G : ExcBaseFacts B newId initId bmB) (c1 : bm.contains (.type B) = true) (c2 : bm.contains (.type "AttributeError") = false) (c3 : bm.contains (.type "NameError") = false) {us : List Value}
    (kC : hp.get? C = some (excClassObj nm q C N bs bm true sn sub ab col dd k0 k1 k2 k3 k5 newId)) (hz : us.length ≤ sizeLine)
    (z : R (.ok (.ret (.ref (hp.objs.size + 1)))) ⟨(hp.push (PySem.W.kdv_tup us)).push (HandSPX.excO C hp.objs.size), g, d, t, os⟩) :
    codeAny (model prog w) A (.builtin newId ⟨.ref C :: us, []⟩) R ⟨hp, g, d, t, os⟩ := by
  have he := G.ends
  have m1 : (Value.ref C :: bm).contains (.type B) = true := by
    rw [List.contains_cons, c1, Bool.or_true]
  have m2 : (Value.ref C :: bm).contains (.type "AttributeError") = false := by
    rw [List.contains_cons, c2]
    rfl
  have m3 : (Value.ref C :: bm).contains (.type "NameError") = false := by
    rw [List.contains_cons, c3]
    rfl
  apply codeAny_builtinAt G.entry
  unfold Builtin.«BaseException.__new__»
  apply PySem.wpAt_bind
  show PySem.wpAt _ _ _ (stack >>= _) _ _ _
  apply PySem.wpAt_bind
  apply PySem.wpAt_stack
  intro p below
  apply PySem.wpAt_of_wpAny
  wp_walk
  apply PySem.wpAt_of_wpAny
  rw [G.owner]
  repeat (first
    | with_reducible refine wpAny_madeHere_exc G.canon kC ?_
    | with_reducible refine wpAny_loadPart_at kC ?_
    | (with_reducible refine wpAny_isSubtype_exc kC ?_; first | rw [m1] | rw [m2] | rw [m3])
    | wp_step)
  show R _ _
  rw [Heap.size_push]
  exact z
theorem xcls_type (G : ExcBaseFacts B newId initId bmB) (c1 : bm.contains (.type B) = true) (c2 : bm.contains (.type "AttributeError") = false) (c3 : bm.contains (.type "NameError") = false) {us : List Value} {fI : Addr} {Q : Fin → Shared → Prop}
    (kC : hp.get? C = some (excClassObj nm q C N bs bm true sn sub ab col dd k0 k1 k2 k3 k5 newId))
    (hi : PySem.W.Looks (model prog w) hp (typeLookup (.ref C) "__init__") (some (.ref fI))) (hb : ∀ v, PySem.W.Looks (model prog w) hp (bindSpecial (.ref fI) v) (.ref fI, [v])) (hz : us.length ≤ sizeLine)
    (z : codeAny (model prog w) A (.call (.ref fI) ⟨.ref (hp.objs.size + 1) :: us, []⟩)
      (fun r s' => match r with
        | .ok (.ret v) => v = .none ∧ Q (.done (.ret (.ref (hp.objs.size + 1)))) s'
        | .ok _ => False
        | .error e => E e s') ⟨(hp.push (PySem.W.kdv_tup us)).push (HandSPX.excO C hp.objs.size), g, d, t, os⟩) :
    wpAny (model prog w) A (Builtin.«type.__call__» ⟨.ref C :: us, []⟩) Q E ⟨hp, g, d, t, os⟩ := by
  repeat (first
    | with_reducible refine wpAny_loadPart_at kC ?_
    | with_reducible refine wpAny_madeBy_exc kC ?_
    | wp_step)
  apply codeAny_call_builtin_code (Code.quiet_builtin _ G.quiet)
  apply xnew_chk G c1 kC
  apply xnew_run G c1 c2 c3 kC hz
  show wpAny _ _ _ _ _ _
  have k : ∀ b o, hp.get? b = some o → ((hp.push (PySem.W.kdv_tup us)).push (HandSPX.excO C hp.objs.size)).get? b = some o := fun b o e => by
    apply Heap.get?_push_of_some
    apply Heap.get?_push_of_some
    exact e
  have kC' := k _ _ kC
  have ke : ((hp.push (PySem.W.kdv_tup us)).push (HandSPX.excO C hp.objs.size)).get? (hp.objs.size + 1) = some (HandSPX.excO C hp.objs.size) := by
    heap_get
  have mC : (Value.ref C :: bm).contains (.ref C) = true := by
    simp
  have hi' := hi.keeps k
  have hb' := (hb (.ref (hp.objs.size + 1))).keeps k
  unfold isInstance
  repeat (first
    | with_reducible refine wpAny_loadPart_at ke ?_
    | (with_reducible refine wpAny_isSubtype_exc kC' ?_; rw [mC])
    | wp_step)
  show wpAny _ _ (typeLookup (.ref C) _) _ _ _
  apply hi'.at
  refine wpAny_holding ?_
  refine wpAny_bind ?_
  apply hb'.at
  refine wpAny_bind ?_
  refine wpAny_call ?_
  refine codeAny_mono z fun r s' y => ?_
  cases r with
  | error e => exact y
  | ok fl =>
    cases fl with
    | ret v =>
      obtain ⟨rfl, y⟩ := y
      first
        | exact wpAny_pure (wpAny_pure y)
        | (wp_walk; exact y)
    | next => exact False.elim y
    | brk => exact False.elim y
    | cont => exact False.elim y
theorem xcls_call (G : ExcBaseFacts B newId initId bmB) (c1 : bm.contains (.type B) = true) (c2 : bm.contains (.type "AttributeError") = false) (c3 : bm.contains (.type "NameError") = false) {us : List Value} {fI : Addr}
    (kC : hp.get? C = some (excClassObj nm q C N bs bm true sn sub ab col dd k0 k1 k2 k3 k5 newId))
    (hi : PySem.W.Looks (model prog w) hp (typeLookup (.ref C) "__init__") (some (.ref fI))) (hb : ∀ v, PySem.W.Looks (model prog w) hp (bindSpecial (.ref fI) v) (.ref fI, [v])) (hz : us.length ≤ sizeLine)
    (z : codeAny (model prog w) (A.under (.builtin "type.__call__" ⟨.ref C :: us, []⟩)) (.call (.ref fI) ⟨.ref (hp.objs.size + 1) :: us, []⟩) (PySem.W.InitBack (hp.objs.size + 1) R)
      ⟨(hp.push (PySem.W.kdv_tup us)).push (HandSPX.excO C hp.objs.size), g, d, t, os⟩) :
    codeAny (model prog w) A (.call (.ref C) ⟨us, []⟩) R ⟨hp, g, d, t, os⟩ := by
  have a1 := tc_lookup
  have a2 := tc_bind (.ref C)
  have ty : (⟨hp, g, d, t, os⟩ : Shared).TypeIs (.ref C) "type" := ⟨_, kC, rfl⟩
  apply codeAny_of_tree
  show wpAny _ _ (callAny (.ref C) _) _ _ _
  repeat (any_goals (first
    | assumption
    | with_reducible refine wpAny_loadPart_at kC ?_
    | wp_step))
  refine ⟨rfl, ?_⟩
  apply codeAny_call_builtin_at (Code.quiet_builtin _ (by decide +kernel)) entry_typeCall
  apply wpAny_check_type_call_sub kC
  apply xcls_type G c1 c2 c3 kC hi hb hz
  refine codeAny_mono z fun r s' y => ?_
  cases r with
  | error e => exact y
  | ok fl =>
    cases fl with
    | _ => exact y
end
end Bz
namespace Bz
open PySem PySem.Spec PyProof.Rows L2
section
open Builtin Builtin.ObjectAttr
variable {prog : Program} {w : World} {R : Result → Shared → Prop} {A : Around} {hp : Heap} {g : Array GenState} {d : Drawn} {t : Nat} {os : OsState}
variable {K : PySem.W.Frag} {name : Str} {tk : Tok} {v : Value} {x C : Addr} {fv : Array Value} {cd : ClassData}
theorem xmro_obj {bm tl : List Value} (hd : dropRefs bm = tl) (ho : tl.contains (.type "object") = true) : (Value.ref C :: bm).contains (.type "object") = true := by
  rw [drop_contains]
  show (dropRefs bm).contains _ = true
  rw [hd]
  exact ho
theorem xmro_ps {bm tl : List Value} (hd : dropRefs bm = tl) (hp : ∀ v : Value, refuseLoop v "__setattr__" tl = pure ()) (v : Value) : refuseLoop v "__setattr__" (Value.ref C :: bm) = pure () := by
  rw [drop_refuse]
  show refuseLoop v "__setattr__" (dropRefs bm) = pure ()
  rw [hd]
  exact hp v
theorem xosa_new (X : K.In hp) (hx : hp.get? x = some { cls := .ref C, data := .fields fv }) (hcd : PySem.W.clsIn K C = some cd) (hm : cd.mro.contains (.type "object") = true) (hps : ∀ v : Value, refuseLoop v "__setattr__" cd.mro = pure ()) (hh : cd.hasDict = true) (ha : PySem.W.findIn K (.ref C) name = some none)
    (z : ∀ h' tk' dx, (∀ b o, b ≠ x → hp.get? b = some o → h'.get? b = some o) → hp.objs.size ≤ dx → dx ≠ x → h'.get? x = some { cls := .ref C, dict := some dx, data := .fields fv } →
      h'.Ns1 dx (fun y => if y = name then some v else none) → R (.ok (.ret .none)) ⟨h', g, d, tk', os⟩) :
    codeAny (model prog w) A (.call (.builtin "object.__setattr__") ⟨[.ref x, .str name tk, v], []⟩) R ⟨hp, g, d, t, os⟩ := by
  have J : PySem.W.InstAt hp x { cls := .ref C, data := .fields fv } C none := ⟨hx, rfl, rfl, trivial⟩
  have S := F.store_object
  have ne : cd.mro.isEmpty = false := by
    cases e : cd.mro with
    | nil =>
      rw [e] at hm
      cases hm
    | cons _ _ => rfl
  have nx : x ≠ hp.objs.size := Nat.ne_of_lt (Heap.lt_size hx)
  have sub : PySem.W.Looks (model prog w) hp (isInstance (.ref x) (.type "object")) true := J.type.andThen (PySem.W.looks_mroIn X (by
    unfold PySem.W.mroIn
    rw [hcd, Option.bind_some, if_neg (by rw [ne]; decide), hm]))
  refine codeAny_call_builtin S.slot.plain S.entry (@PySem.W.check_slot (model prog w) _ _ ⟨hp, g, d, t, os⟩ "object.__setattr__" "object" "__setattr__" (.ref x) [.str name tk, v] [] _ S.kind S.split sub (S.args (.ref x) (.str name tk) v) ?_)
  have l1 : PySem.W.Looks (model prog w) hp (mroOf (.ref C)) cd.mro := (PySem.W.looks_clsIn X hcd).andThen .now
  have l2 : PySem.W.Looks (model prog w) hp (storeTaker? none) none := .now
  have l3 : PySem.W.Looks (model prog w) hp (classData C) cd := PySem.W.looks_clsIn X hcd
  rw [PySem.W.osa_eq, refuse_eq]
  apply wpAny_bind
  apply wpAny_bind
  apply J.type.at
  apply wpAny_bind
  apply l1.at
  rw [hps]
  apply wpAny_pure
  apply wpAny_bind
  apply J.type.at
  apply wpAny_bind
  apply (PySem.W.looks_findIn X ha).at
  apply wpAny_bind
  apply l2.at
  show wpAny _ _ (storeInOwnDict (.ref x) (.ref C) (.str name tk) name v false) _ _ _
  obtain ⟨nm, bs, mro, ns, qn, hd, sn, sb, ab, col, del⟩ := cd
  dsimp only at hh
  subst hh
  unfold storeInOwnDict ownDictForStores
  repeat (first
    | with_reducible refine HandSPX.store_in_new ?_ ?_
    | with_reducible refine wpAny_loadPart_at hx ?_
    | with_reducible refine l3.at ?_
    | wp_step)
  · exact ⟨_, #[], _, (Heap.get?_update_ne _ _ _ _ nx.symm).trans (Heap.get?_push_at rfl rfl), rfl, fun e he => absurd he (by simp), fun _ => rfl⟩
  · intro h' tk' hn hs
    have hx2 : (hp.push { cls := .type "dict", data := .dict #[] }).get? x = some { cls := .ref C, data := .fields fv } := Heap.get?_push_of_some _ hx
    refine z h' tk' hp.objs.size (fun b o hb ho => ?_) (Nat.le_refl _) nx.symm ?_ hn
    · rw [hs.2 b (Nat.ne_of_lt (Heap.lt_size ho)), Heap.get?_update_ne _ _ _ _ hb]
      exact Heap.get?_push_of_some _ ho
    · rw [hs.2 x nx]
      exact Heap.get?_update_self _ hx2 rfl
theorem xosa_old {dx : Addr} {m0 : Str → Option Value} {nl : List Str} (X : K.In hp) (hx : hp.get? x = some { cls := .ref C, dict := some dx, data := .fields fv }) (hns : hp.Ns1 dx m0) (hw : Within m0 nl) (hz : nl.length ≤ 1000)
    (hcd : PySem.W.clsIn K C = some cd) (hm : cd.mro.contains (.type "object") = true) (hps : ∀ v : Value, refuseLoop v "__setattr__" cd.mro = pure ()) (hh : cd.hasDict = true) (ha : PySem.W.findIn K (.ref C) name = some none)
    (z : ∀ h' tk', (∀ b o, b ≠ dx → hp.get? b = some o → h'.get? b = some o) → h'.Ns1 dx (fun y => if y = name then some v else m0 y) → R (.ok (.ret .none)) ⟨h', g, d, tk', os⟩) :
    codeAny (model prog w) A (.call (.builtin "object.__setattr__") ⟨[.ref x, .str name tk, v], []⟩) R ⟨hp, g, d, t, os⟩ := by
  obtain ⟨oD, esD, epD, hoD, hdD, _⟩ := hns.count hw
  have J : PySem.W.InstAt hp x { cls := .ref C, dict := some dx, data := .fields fv } C (some oD) := ⟨hx, rfl, rfl, hoD⟩
  have S := F.store_object
  have ne : cd.mro.isEmpty = false := by
    cases e : cd.mro with
    | nil =>
      rw [e] at hm
      cases hm
    | cons _ _ => rfl
  have sub : PySem.W.Looks (model prog w) hp (isInstance (.ref x) (.type "object")) true := J.type.andThen (PySem.W.looks_mroIn X (by
    unfold PySem.W.mroIn
    rw [hcd, Option.bind_some, if_neg (by rw [ne]; decide), hm]))
  refine codeAny_call_builtin S.slot.plain S.entry (@PySem.W.check_slot (model prog w) _ _ ⟨hp, g, d, t, os⟩ "object.__setattr__" "object" "__setattr__" (.ref x) [.str name tk, v] [] _ S.kind S.split sub (S.args (.ref x) (.str name tk) v) ?_)
  have l1 : PySem.W.Looks (model prog w) hp (mroOf (.ref C)) cd.mro := (PySem.W.looks_clsIn X hcd).andThen .now
  have l2 : PySem.W.Looks (model prog w) hp (storeTaker? none) none := .now
  have l3 : PySem.W.Looks (model prog w) hp (classData C) cd := PySem.W.looks_clsIn X hcd
  rw [PySem.W.osa_eq, refuse_eq]
  apply wpAny_bind
  apply wpAny_bind
  apply J.type.at
  apply wpAny_bind
  apply l1.at
  rw [hps]
  apply wpAny_pure
  apply wpAny_bind
  apply J.type.at
  apply wpAny_bind
  apply (PySem.W.looks_findIn X ha).at
  apply wpAny_bind
  apply l2.at
  show wpAny _ _ (storeInOwnDict (.ref x) (.ref C) (.str name tk) name v false) _ _ _
  obtain ⟨nm, bs, mro, ns, qn, hd, sn, sb, ab, col, del⟩ := cd
  dsimp only at hh
  subst hh
  unfold storeInOwnDict ownDictForStores
  repeat (first
    | with_reducible refine PySem.OEX.store_in_old hns hw hz ?_
    | with_reducible refine wpAny_loadPart_at hx ?_
    | with_reducible refine l3.at ?_
    | wp_step)
  intro h' tk' hn hs
  exact z h' tk' (fun b o hb ho => (hs.2 b hb).trans ho) hn
end
/-- what the head tells of such a class -/
structure OexG (K : PySem.W.Frag) (C : Addr) : Prop where
  cls : ∃ newId tl nm q N bs bm sn sub ab col dd k0 k1 k2 k3 k5, XBase newId tl ∧ K.lookup C = some (excClassObj nm q C N bs bm true sn sub ab col dd k0 k1 k2 k3 k5 newId) ∧ dropRefs bm = tl
  sa : PySem.W.findIn K (.ref C) "__setattr__" = some (some (.builtin "object.__setattr__"))
  exC : PySem.W.subIn K (.ref C) (.type "BaseException") = some true
  tyC : PySem.W.typeIn K (.ref C) = some (.type "type")
  kC : PySem.W.keepIn K (.ref C) = true
section
variable {X : Cx} {pins : List (Addr × Obj)} {σ : L2.St} {H : Hp} {s : Shared} {a C dx : Addr} {f : Str} {y : V} {u : Value} {fs : List (Str × V)} {Q : Unit → Shared → Prop} {E : Value → Shared → Prop} {A : Around}
theorem xst_new (T : OexG X.K C) (I : Inv X pins σ H s) (e : H a = some (exo a C none)) (hno : PySem.W.findIn X.K (.ref C) f = some none) (ry : RelV y u)
    (h : ∀ dx s', H dx = none → dx ≠ a → Inv X pins σ (upd (upd H dx (exd dx [(f, y)])) a (exo a C (some dx))) s' → Q () s') : wpAny (model X.prog X.w) A (setAttr (.ref a) f u) Q E s := by
  obtain ⟨newId, tl, nm, q, N, bs, bm, sn, sub, ab, col, dd, k0, k1, k2, k3, k5, xb, hC, hbm⟩ := T.cls
  have hcl : PySem.W.clsIn X.K C = some { name := nm, bases := bs, mro := .ref C :: bm, ns := N, qualname := q, hasDict := true, slotNames := sn, subclasses := sub, abstract := ab, collection := col, hasDel := false } := by
    unfold PySem.W.clsIn
    rw [hC] <;> rfl
  obtain ⟨t1, ho⟩ := exo_at I.hok e
  obtain ⟨hp, g, d, t, os⟩ := s
  refine PySem.W.set_plain I.kIn (ox := { cls := .ref C, dict := none, data := .fields #[.ref t1, .none, .none, .none, .bool false, .none] }) (od := none) ⟨ho, rfl, rfl, trivial⟩ T.sa ?_
  refine xosa_new I.kIn ho hcl (xmro_obj hbm xb.ob) (xmro_ps hbm xb.ps) rfl hno ?_
  intro h' tk' dx k dn dne hx hn
  have hnd : H dx = none := I.hok.fresh dn
  have nd : ∀ {b : Addr} {o : Obj}, hp.get? b = some o → b ≠ dx := fun {b o} q => Nat.ne_of_lt (Nat.lt_of_lt_of_le (Heap.lt_size q) dn)
  have na : ∀ {b : Addr}, H b = none → b ≠ a := fun {b} n z => by
    rw [z, e] at n
    cases n
  have U : Un X.fs [] H (upd (upd H dx (exd dx [(f, y)])) a (exo a C (some dx))) hp h' := by
    constructor
    · intro b o q n _ _
      exact k b o (na n) q
    · intro b o q n _ _
      exact ⟨o.slots, k b o (na n) q⟩
    · intro b o q n _
      rw [upd_ne (na n), upd_ne (nd q)]
      exact n
    · intro b o q _
      by_cases hb : b = a
      · exact ⟨_, by rw [hb]; exact hx⟩
      · exact ⟨o, k b o hb q⟩
    · intro b xs q
      rw [upd_ne (at_ne e q exo_tup), upd_ne (ne_of_none q hnd)]
      exact q
    · intro b o v q
      rw [upd_ne (at_ne e q exo_frz), upd_ne (ne_of_none q hnd)]
      exact q
    · intro b ps q
      refine ⟨#[], ?_⟩
      rw [upd_ne (at_ne e q exo_tbl), upd_ne (ne_of_none q hnd), q]
      simp
  refine h dx _ hnd dne (I.un (t' := tk') U ?_)
  intro b o q
  by_cases hb : b = a
  · subst hb
    rw [upd_same] at q
    cases q
    exact exo_ok hx
  rw [upd_ne hb] at q
  by_cases hd : b = dx
  · subst hd
    rw [upd_same] at q
    cases q
    exact exd_ok hn (relO_put (fs := []) ry fun g => True.intro)
  rw [upd_ne hd] at q
  refine (I.hok b o q).stay ?_ ?_ ?_
  · intro c v hc z
    refine k c v ?_ z
    rcases hc with hc | hc
    · rw [hc]
      exact hb
    · exact at_ne e hc exo_own
  · intro c hc
    rw [upd_ne (at_ne e hc exo_own), upd_ne (ne_of_none hc hnd)]
    exact hc
  · intro c xs hc
    rw [upd_ne (at_ne e hc exo_tup), upd_ne (ne_of_none hc hnd)]
    exact hc
theorem xst_old (T : OexG X.K C) (I : Inv X pins σ H s) (e : H a = some (exo a C (some dx))) (ed : H dx = some (exd dx fs)) (hl : fs.length ≤ 900) (hno : PySem.W.findIn X.K (.ref C) f = some none) (ry : RelV y u)
    (h : ∀ s', Inv X pins σ (upd H dx (exd dx ((f, y) :: fs))) s' → Q () s') : wpAny (model X.prog X.w) A (setAttr (.ref a) f u) Q E s := by
  obtain ⟨newId, tl, nm, q, N, bs, bm, sn, sub, ab, col, dd, k0, k1, k2, k3, k5, xb, hC, hbm⟩ := T.cls
  have hcl : PySem.W.clsIn X.K C = some { name := nm, bases := bs, mro := .ref C :: bm, ns := N, qualname := q, hasDict := true, slotNames := sn, subclasses := sub, abstract := ab, collection := col, hasDel := false } := by
    unfold PySem.W.clsIn
    rw [hC] <;> rfl
  obtain ⟨t1, ho⟩ := exo_at I.hok e
  obtain ⟨mA, hns, rel⟩ := exd_at I.hok ed
  have hw := within_of rel
  obtain ⟨hp, g, d, t, os⟩ := s
  obtain ⟨oD, _, _, hoD, _, _⟩ := hns.count hw
  refine PySem.W.set_plain I.kIn (ox := { cls := .ref C, dict := some dx, data := .fields #[.ref t1, .none, .none, .none, .bool false, .none] }) (od := some oD) ⟨ho, rfl, rfl, hoD⟩ T.sa ?_
  refine xosa_old I.kIn ho hns hw ?_ hcl (xmro_obj hbm xb.ob) (xmro_ps hbm xb.ps) rfl hno ?_
  · rw [List.length_map]
    omega
  intro h' tk' k hn
  have hd : ∃ o, h'.get? dx = some o := by
    obtain ⟨o, _, _, e', _⟩ := hn
    exact ⟨o, e'⟩
  refine h _ (I.write (t' := tk') (x := dx) (e := dx) (o := exd dx ((f, y) :: fs)) ?_ (.inl rfl) k hd (exd_ok hn (relO_put ry rel)))
  rw [ed]
  exact True.intro
end
/-- self.f = e -/
def tOsg (K : PySem.W.Frag) (f : Str) (to te : TE) : TS := fun D σ H => te σ H fun y H1 => to σ H1 fun x H2 => ∃ a C : Addr, x = .ref a ∧ OexG K C ∧ PySem.W.findIn K (.ref C) f = some none ∧
  ((H2 a = some (exo a C none) ∧ ∀ dx, H2 dx = none → dx ≠ a → D.nx σ (upd (upd H2 dx (exd dx [(f, y)])) a (exo a C (some dx)))) ∨
    ∃ (dx : Addr) (fs : List (Str × V)), H2 a = some (exo a C (some dx)) ∧ H2 dx = some (exd dx fs) ∧ fs.length ≤ 900 ∧ D.nx σ (upd H2 dx (exd dx ((f, y) :: fs))))
theorem ps_osg {X : Cx} {o e : Expr} {to te : TE} {f : Str} {p' pos : Pos} (ho : PE X o to) (he : PE X e te) (hs : swapsWith e (some (.Attribute o f p')) pos.line X.env = pure false := by rfl) : PS X (.Assign [.Attribute o f p'] e pos) (tOsg X.K f to te) := by
  refine ⟨fun pins s σ H D I h => ?_⟩
  refine plainObj_wpAny_Assign_Attribute ?_ hs
  refine thn (he.run pins s σ H _ I h) ?_
  rintro v s1 ⟨y, H1, I1, r1, q1⟩
  refine thn (ho.run pins s1 σ H1 _ I1 q1) ?_
  rintro u s2 ⟨x, H2, I2, r2, a, C, ex, T, hno, q⟩
  subst ex
  obtain rfl : u = Value.ref a := r2
  rcases q with ⟨ea, q⟩ | ⟨dx, fs, ea, ed, hl, q⟩
  · exact xst_new T I2 ea hno r1 fun dx s' n ne J => ⟨σ, _, J, q dx n ne⟩
  · exact xst_old T I2 ea ed hl hno r1 fun s' J => ⟨σ, _, J, q⟩
end Bz
namespace Bz
open PySem PySem.Spec PyProof.Rows L2
structure XMakeOk (P : Program) (w : World) (K : PySem.W.Frag) (mg : Str → Option Value) (base : Heap) (CX : CXT) (k : Nat) (x : Str) (n : Nat) (sp : Sp) (gV : List V → List V → List V) : Prop where
  T : OexG K (He.ga K x)
  ok : ∃ (fI : Addr) (fd : FuncData) (ps : List Str) (g : List Value → List Value → List Value), PySem.W.findIn K (.ref (He.ga K x)) "__init__" = some (some (.ref fI)) ∧ PySem.W.typeIn K (.ref fI) = some (.type "function") ∧ FnG P w K mg base CX k fI fd ps sp ∧ KBn K fd ps (n + 1) [] g gV
  at_ : mg x = some (.ref (He.ga K x))
def aXmk (C : Addr) (n : Nat) (sp : Sp) (gV : List V → List V → List V) (vs : List V) (H1 : Hp) (Q : XK) : Prop := vs.length = n ∧ vs.length ≤ 1000 ∧ ∀ a, H1 a = none → sp (gV (.ref a :: vs) []) (upd H1 a (exo a C none))
  (fun v H2 => v = .non ∧ ∃ (d : Addr) (fs : List (Str × V)), H2 a = some (exo a C (some d)) ∧ H2 d = some (exd d fs) ∧ H1 d = none ∧ Q (.ref C) (some d) (upd (del H2 a) d (.xd fs))) E0
def tXMk (C : Addr) (n : Nat) (sp : Sp) (gV : List V → List V → List V) (ta : TA) : St → Hp → XK → Prop := fun σ H Q => ta σ H fun vs H1 => aXmk C n sp gV vs H1 Q
section
variable {X : Cx} {CX : CXT} {k k' n : Nat} {sp : Sp} {gV : List V → List V → List V} {x : Str} {e : Expr} {es : List Expr} {ta : TA} {p pos : Pos}
theorem pmk_xg (c : XMakeOk X.prog X.w X.K X.mg X.base CX k x n sp gV) (hr : Room k' X.A) (hk : k + 1 ≤ k') (hgu : X.A.guards = some []) (hx : Passes CX X E0) (hg : Gl X x) (ha : PA X (e :: es) ta)
    (hdb : (x == ("__debug__" : Str)) = false := by decide) (he : starEach (e :: es) X.env = (false, eval e X.env) :: starEach es X.env := by rfl) (hpl : (backTo pos (starEach es X.env)).any (·.1) = false := by rfl) :
    PMk X (.Call (.Name x p) (e :: es) [] pos) (tXMk (He.ga X.K x) n sp gV ta) := by
  intro pins s σ H Q I h
  obtain ⟨T, ⟨fI, fd, ps, gg, iC, tI, F1, kb⟩, hm⟩ := c
  generalize hCe : He.ga X.K x = C at *
  obtain ⟨newId, tl, nm, q, N, bs, bm, sn, sub, ab, col, dd, k0, k1, k2, k3, k5, xb, hC, hbm⟩ := T.cls
  obtain ⟨B, initId, bmB, G, cB⟩ := xb.F
  have c1 : bm.contains (.type B) = true := by
    rw [drop_contains, hbm]
    exact cB
  have c2 : bm.contains (.type "AttributeError") = false := by
    rw [drop_contains, hbm]
    exact xb.nA
  have c3 : bm.contains (.type "NameError") = false := by
    rw [drop_contains, hbm]
    exact xb.nN
  refine wpAny_Call_Name_kw (ld_glob I hg hm ?_ hdb)
  refine PySem.W.callWith_K (h₀ := X.base) I.ok.mod.kin T.kC (thn (ha.run pos pins s σ H _ I h) ?_) he hpl
  rintro us s1 ⟨vs, H1, I1, r1, ln, hz, q1⟩
  refine ⟨I1.kIn, ?_⟩
  show wpAny _ _ (call (.ref C) us) _ _ _
  obtain ⟨hp, g, dr, tk, os⟩ := s1
  have hsz : hp.objs.size ≤ hp.objs.size + 1 := Nat.le_succ _
  have hn : H1 (hp.objs.size + 1) = none := I1.hok.fresh hsz
  have hq := q1 (hp.objs.size + 1) hn
  have kk : ∀ b o, hp.get? b = some o → ((hp.push (PySem.W.kdv_tup us)).push (HandSPX.excO C hp.objs.size)).get? b = some o := fun b o e => by
    apply Heap.get?_push_of_some
    apply Heap.get?_push_of_some
    exact e
  have hget : ((hp.push (PySem.W.kdv_tup us)).push (HandSPX.excO C hp.objs.size)).get? (hp.objs.size + 1) = some (HandSPX.excO C hp.objs.size) := by
    heap_get
  have I2 : Inv X pins σ (upd H1 (hp.objs.size + 1) (exo (hp.objs.size + 1) C none)) ⟨(hp.push (PySem.W.kdv_tup us)).push (HandSPX.excO C hp.objs.size), g, dr, tk, os⟩ :=
    I1.laid (t' := tk) (a := hp.objs.size + 1) (o := exo (hp.objs.size + 1) C none) (h' := (hp.push (PySem.W.kdv_tup us)).push (HandSPX.excO C hp.objs.size)) kk hsz (exo_ok hget)
  have r2 : Vals (V.ref (hp.objs.size + 1) :: vs) (Value.ref (hp.objs.size + 1) :: us) := .cons rfl r1
  have hl1 : (Value.ref (hp.objs.size + 1) :: us).length = n + 1 := by
    rw [← r2.length, List.length_cons, ln]
  have hus : us.length ≤ sizeLine := by
    rw [← Paired.length r1, sizeLine_eq]
    omega
  refine wpAny_call (xcls_call G c1 c2 c3 (I1.kIn _ _ hC) (PySem.W.looks_findIn I1.kIn iC) (fun v => PySem.W.bind_fn I1.kIn v tI) hus (codeAny_mono (F1.go _ X.stack _ _ ⟨Value.ref (hp.objs.size + 1) :: us, []⟩ (gg (Value.ref (hp.objs.size + 1) :: us) []) _ _ E0
    ((hr.mono hk).make C us []) (guards_make hgu) (I2.env0.make C us []) (kb.to _ (Value.ref (hp.objs.size + 1) :: us) [] I2.kIn hl1 rfl) (kb.rel r2 .nil) hq) ?_))
  intro r s' hq'
  cases r with
  | error er => exact hx pins σ _ _ er s' I2 hq'
  | ok fl =>
    cases fl with
    | ret u =>
      obtain ⟨v, H2, os2, bare2, un2, hok2, rv, ev, d, fs, ea, ed, hd1, q2⟩ := hq'
      subst ev
      obtain ⟨h2, g2, d2, t2, os'⟩ := s'
      exact ⟨rv, mk_end (raises_own T.exC T.tyC) I1 hsz kk un2 hok2 os2 bare2 ea ed hd1 q2⟩
    | next => exact False.elim hq'
    | brk => exact False.elim hq'
    | cont => exact False.elim hq'
end
/-- an __init__ that keeps fields fl, all in all F -/
def sp_xinit (K : PySem.W.Frag) (n : Nat) (fl : List Str) (F : List V → List (Str × V)) : Sp := fun vs H Q _ => vs.length = n + 1 ∧ ∃ (a C : Addr) (ws : List V), vs = .ref a :: ws ∧ OexG K C ∧ (∀ f ∈ fl, PySem.W.findIn K (.ref C) f = some none) ∧ H a = some (exo a C none) ∧
  ∀ dx, H dx = none → dx ≠ a → Q .non (upd (upd H dx (exd dx (F ws))) a (exo a C (some dx)))
theorem xput {H : Hp} {a dx C : Addr} {u v : HO} {w : HO} (h : dx ≠ a) : upd (upd (upd H dx u) a w) dx v = upd (upd H dx v) a w := by
  funext b
  by_cases h1 : b = dx
  · rw [h1, upd_same, upd_ne h, upd_same]
  · rw [upd_ne h1]
    by_cases h2 : b = a
    · rw [h2, upd_same, upd_same]
    · rw [upd_ne h2, upd_ne h2, upd_ne h1, upd_ne h1]
section
variable {K : PySem.W.Frag} {B H : Hp} {M L : List (Addr × HO)} {C : Addr} {n : Nat} {fl : List Str} {F : List V → List (Str × V)} {gV : List V → List V → List V} {vs : List V} {Q : XK}
theorem g_xmk {sp : Sp} {ta : TA} {σ : St} (h : ta σ H fun vs H1 => aXmk C n sp gV vs H1 Q) : tXMk C n sp gV ta σ H Q := h
theorem g_aXmk (I : Is B M L H) (T : OexG K C) (hf : ∀ f ∈ fl, PySem.W.findIn K (.ref C) f = some none) (hn : vs.length = n) (hz : n ≤ 1000) (hg : ∀ a, gV (.ref a :: vs) [] = .ref a :: vs)
    (q : ∀ d H', Is B M ((d, .xd (F vs)) :: L) H' → Q (.ref C) (some d) H') : aXmk C n (sp_xinit K n fl F) gV vs H Q := by
  refine ⟨hn, by omega, fun a na => ?_⟩
  rw [hg]
  refine ⟨by rw [List.length_cons, hn], a, C, vs, rfl, T, hf, upd_same, fun dx hd hne => ⟨rfl, dx, F vs, upd_same, ?_, ?_, ?_⟩⟩
  · rw [upd_ne hne, upd_same]
  · rw [upd_ne hne] at hd
    exact hd
  · have hd' : H dx = none := by
      rw [upd_ne hne] at hd
      exact hd
    have e : upd (del (upd (upd (upd H a (exo a C none)) dx (exd dx (F vs))) a (exo a C (some dx))) a) dx (.xd (F vs)) = upd H dx (.xd (F vs)) := by
      funext b
      by_cases h1 : b = dx
      · rw [h1, upd_same, upd_same]
      · rw [upd_ne h1, upd_ne h1]
        by_cases h2 : b = a
        · rw [h2, del_same, na]
        · rw [del_ne h2, upd_ne h2, upd_ne h1, upd_ne h2]
    rw [e]
    exact q dx _ (I.new hd')
/-- the first field, a further one -/
theorem g_osg1 {nx bk ct : St → Hp → Prop} {rt : VK} {σ : St} {i j : Nat} {f : Str} {a : Addr} {y : V} (h1 : σ[j]? = some (some y)) (h2 : σ[i]? = some (some (.ref a))) (T : OexG K C) (hn : PySem.W.findIn K (.ref C) f = some none) (ha : H a = some (exo a C none))
    (q : ∀ dx, H dx = none → dx ≠ a → nx σ (upd (upd H dx (exd dx [(f, y)])) a (exo a C (some dx)))) : tOsg K f (tVar i) (tVar j) ⟨nx, rt, bk, ct⟩ σ H := ⟨y, h1, .ref a, h2, a, C, rfl, T, hn, .inl ⟨ha, q⟩⟩
theorem g_osg2 {nx bk ct : St → Hp → Prop} {rt : VK} {σ : St} {i j : Nat} {f : Str} {a dx : Addr} {y : V} {fs : List (Str × V)} (h1 : σ[j]? = some (some y)) (h2 : σ[i]? = some (some (.ref a))) (T : OexG K C) (hn : PySem.W.findIn K (.ref C) f = some none) (hne : dx ≠ a) (hz : fs.length ≤ 900)
    (q : nx σ (upd (upd H dx (exd dx ((f, y) :: fs))) a (exo a C (some dx)))) : tOsg K f (tVar i) (tVar j) ⟨nx, rt, bk, ct⟩ σ (upd (upd H dx (exd dx fs)) a (exo a C (some dx))) :=
  ⟨y, h1, .ref a, h2, a, C, rfl, T, hn, .inr ⟨dx, fs, upd_same, by rw [upd_ne hne, upd_same], hz, by rw [xput (C := C) hne]; exact q⟩⟩
end
structure ClsFnOk (P : Program) (w : World) (K : PySem.W.Frag) (mg : Str → Option Value) (base : Heap) (CX : CXT) (k : Nat) (x m : Str) (n : Nat) (sp : Sp) (gV : List V → List V → List V) : Prop where
  ok : ∃ (f : Addr) (fd : FuncData) (ps : List Str) (g : List Value → List Value → List Value), PySem.W.findCls K (.ref (He.ga K x)) (.type "type") m = some (.val (.ref f)) ∧ PySem.W.handedIn (.ref f) = true ∧ PySem.W.keepIn K (.ref f) = true ∧ FnG P w K mg base CX k f fd ps sp ∧ KBn K fd ps n [] g gV
  rd : PySem.W.readsIn K (He.ga K x) (.type "type") = true
  sp_ : PySem.W.specialIn K (.ref (He.ga K x)) "__getattribute__" = some (some (.builtin "type.__getattribute__"))
  at_ : mg x = some (.ref (He.ga K x))
end Bz
namespace Bz
open PySem PySem.Spec PyProof.Rows L2
def oexGB (K : PySem.W.Frag) (C : Addr) : Bool := match K.lookup C with
  | some ⟨.type c, _, .cls cd, sl⟩ => decide (c = "type") && (match cd.mro, sl.toList with
    | .ref C' :: bm, [_, _, _, _, some (.builtin n), _] => decide (C' = C) && (cd.hasDict && (!cd.hasDel && xbL.any fun p => decide (p.1 = n) && (dropRefs bm == p.2)))
    | _, _ => false)
  | _ => false
theorem oexGB_ok {K : PySem.W.Frag} {C : Addr} (h : oexGB K C = true) : ∃ newId tl nm q N bs bm sn sub ab col dd k0 k1 k2 k3 k5, XBase newId tl ∧ K.lookup C = some (excClassObj nm q C N bs bm true sn sub ab col dd k0 k1 k2 k3 k5 newId) ∧ dropRefs bm = tl := by
  unfold oexGB at h
  split at h
  · rename_i c dd cd sl ho
    rw [Bool.and_eq_true] at h
    obtain ⟨hc, h⟩ := h
    have hc := of_decide_eq_true hc
    split at h
    · rename_i C' bm k0 k1 k2 k3 n k5 hm hs
      simp only [Bool.and_eq_true, Bool.not_eq_true'] at h
      obtain ⟨e1, e3, e4, e5⟩ := h
      have e1 := of_decide_eq_true e1
      obtain ⟨p, hp, e6⟩ := List.any_eq_true.mp e5
      rw [Bool.and_eq_true] at e6
      have e7 := of_decide_eq_true e6.1
      have e8 := beq_iff_eq.mp e6.2
      obtain ⟨nm, bs, mro, ns, qn, hd, sn, sb, ab, col, dl⟩ := cd
      dsimp only at hm e3 e4
      subst hm e3 e4 e1 hc
      have es : sl = #[k0, k1, k2, k3, some (.builtin n), k5] := by
        apply Array.toList_inj.mp
        rw [hs]
      subst es
      have hx : XBase n (dropRefs bm) := by
        rw [e8, ← e7]
        exact xb_of hp
      exact ⟨_, _, _, _, _, _, _, _, _, _, _, _, _, _, _, _, _, hx, ho, rfl⟩
    · cases h
  · cases h
structure ErrOk (K : PySem.W.Frag) (C : Str) (fl : List Str) : Prop where
  ox : OexG K (He.ga K C)
  ex : ExcC K (He.ga K C)
  nf : ∀ f ∈ fl, PySem.W.findIn K (.ref (He.ga K C)) f = some none
  ini : PySem.W.findIn K (.ref (He.ga K C)) "__init__" = some (some (.ref (He.ma K (He.ga K C) "__init__")))
  ty : PySem.W.typeIn K (.ref (He.ma K (He.ga K C) "__init__")) = some (.type "function")
def errOkB (K : PySem.W.Frag) (C : Str) (fl : List Str) : Bool :=
  oexGB K (He.ga K C) && (He.eqO (PySem.W.findIn K (.ref (He.ga K C)) "__setattr__") (some (some (.builtin "object.__setattr__"))) && (decide (PySem.W.subIn K (.ref (He.ga K C)) (.type "BaseException") = some true) && (decide (PySem.W.typeIn K (.ref (He.ga K C)) = some (.type "type")) && (PySem.W.keepIn K (.ref (He.ga K C)) &&
  (excB K (He.ga K C) && (fl.all (fun f => He.eqO (PySem.W.findIn K (.ref (He.ga K C)) f) (some none)) && (He.eqO (PySem.W.findIn K (.ref (He.ga K C)) "__init__") (some (some (.ref (He.ma K (He.ga K C) "__init__")))) && decide (PySem.W.typeIn K (.ref (He.ma K (He.ga K C) "__init__")) = some (.type "function")))))))))
theorem errOkB_ok {K : PySem.W.Frag} {C : Str} {fl : List Str} (h : errOkB K C fl = true) : ErrOk K C fl := by
  unfold errOkB at h
  simp only [Bool.and_eq_true] at h
  obtain ⟨a1, a2, a3, a4, a5, a6, a7, a8, a9⟩ := h
  exact ⟨⟨oexGB_ok a1, He.eqO_ok a2, of_decide_eq_true a3, of_decide_eq_true a4, a5⟩, excB_ok a6, fun f hf => He.eqO_ok (List.all_eq_true.mp a7 f hf), He.eqO_ok a8, of_decide_eq_true a9⟩
/-- an own class's plain def, told by the class -/
structure ClsFnF (K : PySem.W.Frag) (x m : Str) : Prop where
  f : PySem.W.findCls K (.ref (He.ga K x)) (.type "type") m = some (.val (.ref (He.ma K (He.ga K x) m)))
  h : PySem.W.handedIn (.ref (He.ma K (He.ga K x) m)) = true
  k : PySem.W.keepIn K (.ref (He.ma K (He.ga K x) m)) = true
  rd : PySem.W.readsIn K (He.ga K x) (.type "type") = true
  sp_ : PySem.W.specialIn K (.ref (He.ga K x)) "__getattribute__" = some (some (.builtin "type.__getattribute__"))
/-- of which classes an error is -/
structure KitOk (K : PySem.W.Frag) (C : Str) (own : List (Str × Bool)) (tys : List (String × Bool)) : Prop where
  o : ∀ p ∈ own, PySem.W.kitOne K (.ref (He.ga K C)) (.ref (He.ga K p.1)) = some p.2
  t : ∀ p ∈ tys, PySem.W.kitOne K (.ref (He.ga K C)) (.type p.1) = some p.2
def kitB (K : PySem.W.Frag) (C : Str) (own : List (Str × Bool)) (tys : List (String × Bool)) : Bool :=
  own.all (fun p => decide (PySem.W.kitOne K (.ref (He.ga K C)) (.ref (He.ga K p.1)) = some p.2)) && tys.all (fun p => decide (PySem.W.kitOne K (.ref (He.ga K C)) (.type p.1) = some p.2))
theorem kitB_ok {K : PySem.W.Frag} {C : Str} {own : List (Str × Bool)} {tys : List (String × Bool)} (h : kitB K C own tys = true) : KitOk K C own tys := by
  unfold kitB at h
  rw [Bool.and_eq_true] at h
  exact ⟨fun p hp => of_decide_eq_true (List.all_eq_true.mp h.1 p hp), fun p hp => of_decide_eq_true (List.all_eq_true.mp h.2 p hp)⟩
end Bz
namespace Bz
open PySem PySem.Spec PyProof.Rows L2
theorem is_tables {K : PySem.W.Frag} {H : Hp} {a : Addr} {xs : List V} (Ts : List Addr) (hN : Ts.Nodup) (ht : ∀ p ∈ Ts, H p = some (.tbl #[])) (na : a ∉ Ts) (h : SqL K H a xs) :
    ∃ B : Hp, Is B [] (Ts.map fun p => (p, HO.tbl #[])) H ∧ SqL K B a xs := by
  refine ⟨fun b => if b ∈ Ts then none else H b, ⟨fun b o e => ?_, fun p hp => ?_, ?_⟩, ?_⟩
  · have e : (if b ∈ Ts then none else H b) = some o := e
    split at e
    · cases e
    · exact e
  · rw [List.append_nil] at hp
    obtain ⟨q, hq, rfl⟩ := List.mem_map.mp hp
    exact ⟨ht q hq, if_pos hq⟩
  · rw [List.append_nil, List.map_map]
    have : (Ts.map ((fun p : Addr × HO => p.1) ∘ fun p => (p, HO.tbl #[]))) = Ts := by
      induction Ts with
      | nil => rfl
      | cons x r ih =>
        rw [List.map_cons, ih (List.nodup_cons.mp hN).2 (fun p hp => ht p (List.mem_cons_of_mem _ hp)) (fun z => na (List.mem_cons_of_mem _ z))]
        rfl
    rw [this]
    exact hN
  · rcases h with (h | ⟨o, h⟩) | h
    · refine .inl (.inl ?_)
      show (if a ∈ Ts then none else H a) = _
      rw [if_neg na]
      exact h
    · refine .inl (.inr ⟨o, ?_⟩)
      show (if a ∈ Ts then none else H a) = _
      rw [if_neg na]
      exact h
    · exact .inr h
end Bz
namespace Bz
open PySem PySem.Spec PyProof.Rows L2
structure ErrKit (K : PySem.W.Frag) : Prop where
  kv : KitOk K "BadValue" [("BadText", false), ("BadValue", true), ("NoSuch", false), ("TooMany", false)] [("ValueError", true), ("KeyError", false), ("OverflowError", false)]
  kt : KitOk K "BadText" [("BadText", true), ("BadValue", true), ("NoSuch", false), ("TooMany", false)] [("ValueError", true), ("KeyError", false), ("OverflowError", false)]
  kn : KitOk K "NoSuch" [("BadText", false), ("BadValue", false), ("NoSuch", true), ("TooMany", false)] [("ValueError", false), ("KeyError", true), ("OverflowError", false)]
  km : KitOk K "TooMany" [("BadText", false), ("BadValue", false), ("NoSuch", false), ("TooMany", true)] [("ValueError", false), ("KeyError", false), ("OverflowError", true)]
  mm : ∀ c ∈ ([("BadValue" : Str), "BadText", "NoSuch", "TooMany"] : List Str), PySem.W.exmAny K (.ref (He.ga K c)) [.ref (He.ga K "BadValue"), .ref (He.ga K "NoSuch"), .ref (He.ga K "TooMany")] = some true
def errKitB (K : PySem.W.Frag) : Bool :=
  kitB K "BadValue" [("BadText", false), ("BadValue", true), ("NoSuch", false), ("TooMany", false)] [("ValueError", true), ("KeyError", false), ("OverflowError", false)] &&
  (kitB K "BadText" [("BadText", true), ("BadValue", true), ("NoSuch", false), ("TooMany", false)] [("ValueError", true), ("KeyError", false), ("OverflowError", false)] &&
  (kitB K "NoSuch" [("BadText", false), ("BadValue", false), ("NoSuch", true), ("TooMany", false)] [("ValueError", false), ("KeyError", true), ("OverflowError", false)] &&
  (kitB K "TooMany" [("BadText", false), ("BadValue", false), ("NoSuch", false), ("TooMany", true)] [("ValueError", false), ("KeyError", false), ("OverflowError", true)] &&
  ([("BadValue" : Str), "BadText", "NoSuch", "TooMany"] : List Str).all fun c => decide (PySem.W.exmAny K (.ref (He.ga K c)) [.ref (He.ga K "BadValue"), .ref (He.ga K "NoSuch"), .ref (He.ga K "TooMany")] = some true))))
theorem errKitB_ok {K : PySem.W.Frag} (h : errKitB K = true) : ErrKit K := by
  unfold errKitB at h
  simp only [Bool.and_eq_true] at h
  obtain ⟨a1, a2, a3, a4, a5⟩ := h
  exact ⟨kitB_ok a1, kitB_ok a2, kitB_ok a3, kitB_ok a4, fun c hc => of_decide_eq_true (List.all_eq_true.mp a5 c hc)⟩
structure ErrC (K : PySem.W.Frag) : Prop where
  bv : ErrOk K "BadValue" ["what"]
  bt : ErrOk K "BadText" ["what", "row", "word"]
  ns : ErrOk K "NoSuch" ["what", "name"]
  tm : ErrOk K "TooMany" ["most"]
  kit : ErrKit K
/-- an error's class, its fields, what is told of it -/
inductive ErrT : Str → List (Str × V) → List V → Prop
  | val (x : V) : ErrT "BadValue" [("what", x)] [.str "value", x]
  | text (r w : V) : ErrT "BadText" [("word", w), ("row", r), ("what", .str "text")] [.str "text", r, w]
  | no (x y : V) : ErrT "NoSuch" [("name", y), ("what", x)] [.str "no", x, y]
  | many (x : V) : ErrT "TooMany" [("most", x)] [.str "many", x]
theorem ErrT.len {X : Str} {fs : List (Str × V)} {ws : List V} (h : ErrT X fs ws) : ws.length ≤ 3 := by
  cases h <;> simp
theorem ErrT.ex {K : PySem.W.Frag} (C : ErrC K) {X : Str} {fs : List (Str × V)} {ws : List V} (h : ErrT X fs ws) : ExcC K (He.ga K X) := by
  cases h
  · exact C.bv.ex
  · exact C.bt.ex
  · exact C.ns.ex
  · exact C.tm.ex
theorem ErrT.mm {K : PySem.W.Frag} (C : ErrC K) {X : Str} {fs : List (Str × V)} {ws : List V} (h : ErrT X fs ws) : PySem.W.exmAny K (.ref (He.ga K X)) [.ref (He.ga K "BadValue"), .ref (He.ga K "NoSuch"), .ref (He.ga K "TooMany")] = some true := by
  refine C.kit.mm X ?_
  simp only [List.mem_cons]
  cases h <;> simp
end Bz
namespace Bz
open PySem PySem.Spec PyProof.Rows L2
section
variable {X : Cx} {CX : CXT} {C : Addr} {k : Nat} {sp : Sp} {E : XK} {gV : List V → List V → List V}
end
end Bz
namespace Bz
open PySem PySem.Spec PyProof.Rows L2
end Bz
namespace Bz
open PySem PySem.Spec PyProof.Rows L2
def BTY : List String := ["NoneType", "int", "str", "list", "tuple", "dict", "bool"]
structure NotK (K : PySem.W.Frag) (C D : Str) : Prop where
  b : ∀ T ∈ BTY, PySem.W.kitOne K (.type T) (.ref (He.ga K C)) = some false
  o : PySem.W.kitOne K (.ref (He.ga K D)) (.ref (He.ga K C)) = some false
section
variable {K : PySem.W.Frag} {H : Hp} {x : V} {C D : Str} {Q : VK} {a : Addr} {xs : List V}
end
end Bz
namespace Bz
open PySem PySem.Spec PyProof.Rows L2
section
variable {B H : Hp} {M L : List (Addr × HO)} {σ : St} {Q : VK} {tk tv : TE}
end
end Bz
namespace Bz
open PySem PySem.Spec PyProof.Rows L2
section
variable {B H : Hp} {M L : List (Addr × HO)} {σ : St} {Q : VK} {te : TE}
end
end Bz
namespace Bz
open PySem PySem.Spec PyProof.Rows L2
/-- what a value is, told as data: whole numbers, texts, truths -/
inductive KeyS : V → PyData → Prop
  | int (i : Int) : KeyS (.int i) (.int i)
  | str (z : Str) : KeyS (.str z) (.str z)
  | bl (b : Bool) : KeyS (.bl b) (.bool b)
/-- .. and tuples of these -/
inductive KeyV (H : Hp) : V → PyData → Prop
  | one {y : V} {k : PyData} : KeyS y k → KeyV H y k
  | tup {p : Addr} {xs : List V} {ks : List PyData} : H p = some (.tup xs) → All2 KeyS xs ks → KeyV H (.ref p) (.tuple ks)
theorem KeyV.mono {H H' : Hp} {y : V} {k : PyData} (h : ∀ b xs, H b = some (.tup xs) → H' b = some (.tup xs)) : KeyV H y k → KeyV H' y k
  | .one e => .one e
  | .tup e a => .tup (h _ _ e) a
theorem KeyS.reads {h : Heap} {y : V} {k : PyData} {u : Value} (e : KeyS y k) (r : RelV y u) : Reads h u k [] := by
  cases e with
  | int i =>
    obtain ⟨t, rfl⟩ := r
    exact .int i t
  | str z =>
    obtain ⟨t, rfl⟩ := r
    exact .str z t
  | bl b =>
    cases (show u = .bool b from r)
    exact .bool b
theorem KeyS.readsAll {h : Heap} : ∀ {ys : List V} {ks : List PyData} {us : List Value}, All2 KeyS ys ks → Vals ys us → ReadsAll h us ks []
  | _, _, _, .nil, .nil => .nil
  | _, _, _, .cons a t, .cons r q => .cons (as := []) (bs := []) (a.reads r) (KeyS.readsAll t q)
theorem KeyV.reads {P : Program} {w : World} {H : Hp} {h : Heap} {y : V} {k : PyData} {u : Value} (ok : HOk P w H h) (e : KeyV H y k) (r : RelV y u) : Reads h u k [] := by
  cases e with
  | one e => exact e.reads r
  | @tup p xs ks e a =>
    cases (show u = Value.ref p from r)
    obtain ⟨hz, its, rv, ⟨⟨cls, dd, data, sl⟩, ho, hc, n, hd⟩⟩ := ok p _ e
    exact .tuple ho hc hd (KeyS.readsAll a (by simpa using rv))
/-- a heap without the object at a -/
def without (h : Heap) (a : Addr) : Heap := { h with objs := h.objs.setIfInBounds a { cls := .none, data := .freed } }
theorem without_same {h : Heap} {a : Addr} : (without h a).get? a = none := by
  unfold without Heap.get?
  by_cases q : a < h.objs.size
  · simp [Array.getElem?_setIfInBounds_self_of_lt q]
  · have e : (h.objs.setIfInBounds a { cls := .none, data := .freed })[a]? = none := Array.getElem?_eq_none (by rw [Array.size_setIfInBounds]; exact Nat.le_of_not_lt q)
    show (match (h.objs.setIfInBounds a { cls := .none, data := .freed })[a]? with | some ⟨_, _, .freed, _⟩ => none | o => o) = none
    rw [e]
theorem without_ne {h : Heap} {a b : Addr} (n : b ≠ a) : (without h a).get? b = h.get? b := by
  unfold without Heap.get?
  simp only [Array.getElem?_setIfInBounds_ne (Ne.symm n)]
/-- the items sorted by their keys -/
def keySort (xs : List V) (kz : List PyData) : List V := ((xs.zip kz).mergeSort (PySem.W.dataLe false Prod.snd)).map Prod.fst
theorem keySort_len (xs : List V) (kz : List PyData) (h : kz.length = xs.length) : (keySort xs kz).length = xs.length := by
  unfold keySort
  rw [List.length_map, List.length_mergeSort, List.length_zip, h, Nat.min_self]
theorem each_zip : ∀ {xs : List V} {us : List Value} {kz : List PyData}, Vals xs us → kz.length = xs.length → PySem.W.EachIs (fun (v : Value) (p : V × PyData) => RelV p.1 v) us (xs.zip kz)
  | _, _, [], .nil, _ => .nil
  | _, _, k :: kz, .cons r t, h => .cons r (each_zip t (by simpa using h))
theorem vals_each : ∀ {us : List Value} {ps : List (V × PyData)}, PySem.W.EachIs (fun (v : Value) (p : V × PyData) => RelV p.1 v) us ps → Vals (ps.map Prod.fst) us
  | _, _, .nil => .nil
  | _, _, .cons r t => .cons r (vals_each t)
theorem keyed_vals {xs : List V} {us out : List Value} {kz : List PyData} (rv : Vals xs us) (hl : kz.length = xs.length) (h : PySem.W.KeyedOut false kz us out) : Vals (keySort xs kz) out := by
  have e : (xs.zip kz).map Prod.snd = kz := List.map_snd_zip (by omega)
  refine vals_each (PySem.W.keyedOut_each (rev := false) (bs := xs.zip kz) Prod.snd ?_ (each_zip rv hl))
  rw [e]
  exact h
theorem vals_at : ∀ {xs : List V} {us : List Value} {i : Nat} {u : Value}, Vals xs us → us[i]? = some u → ∃ x, xs[i]? = some x ∧ RelV x u
  | _, _, _, _, .nil, h => by cases h
  | _, _, 0, _, .cons r _, h => by
    cases h
    exact ⟨_, rfl, r⟩
  | _, _, i + 1, _, .cons _ t, h => vals_at (i := i) t h
theorem each_keys2 {P : Program} {w : World} {H : Hp} {h : Heap} (ok : HOk P w H h) : ∀ {ys : List V} {us : List Value} {kz : List PyData}, Vals ys us → All2 (KeyV H) ys kz → PySem.W.EachIs (fun v k => ∃ as, Reads h v k as) us kz
  | _, _, _, .nil, .nil => .nil
  | _, _, _, .cons r t, .cons a b => .cons ⟨[], a.reads ok r⟩ (each_keys2 ok t b)
section
variable {X : Cx} {pins : List (Addr × Obj)} {σ : L2.St} {H : Hp} {s : Shared} {a kS : Addr} {f : Value} {xs : List V} {vs : List Value} {kz : List PyData} {e1 : Nat} {J : Nat → Hp → Prop} {P : PySem.Fin → Shared → Prop} {E : Value → Shared → Prop} {A : Around}
theorem FpOk.other {H' : Hp} {b : Addr} (h : FpOk X pins H b) (n : H' b = none) : FpOk X pins H' b := ⟨n, h.2⟩
theorem key_rest (I : Inv X pins σ H s) (fa : FpOk X pins H a) (fk : FpOk X pins H kS) (nk : s.heap.get? kS = some (seqObj "list" #[] 0)) (na : s.heap.get? a = some (seqObj "list" #[] e1)) (hka : kS ≠ a)
    (rv : Vals xs vs) (hlen : kz.length = vs.length) (hZ : vs.length ≤ sizeLine) (hal : PySem.W.AllAlike kz) (hsk : PySem.W.Sortable kz) (hu : ∀ d, d ∈ kz → A.units + d.depth < cLine) (j0 : J 0 H)
    (turn : ∀ (i : Nat) (x : V) (u : Value) (k : PyData), xs[i]? = some x → RelV x u → kz[i]? = some k → ∀ (pins' : List (Addr × Obj)) (H' : Hp) (s' : Shared), Inv X pins' σ H' s' → J i H' →
      wpAny (model X.prog X.w) A (call f [u]) (fun y s'' => CE X.stack X.prog X.w H' s' (fun y H'' => KeyV H'' y k ∧ J (i + 1) H'') y s'') (fun _ _ => False) s')
    (h : ∀ (H' : Hp) (s' : Shared) (out : List Value) (c : Nat), Inv X pins σ H' s' → FpOk X pins H' a → s'.heap.get? a = some (seqObj "list" (List.toArray out) c) → PySem.W.KeyedOut false kz vs out → J vs.length H' → P (.done (.ret .none)) s') :
    wpAny (model X.prog X.w) A (ksk_rest a f false vs.toArray e1 (.ref kS)) P E s := by
  unfold ksk_rest
  refine wpAny_bind (wpAny_rule ?_)
  first
    | rw [List.forIn_toArray]
    | (rw [← Array.forIn_toList]; simp only [List.toList_toArray])
    | rw [← Array.forIn_toList]
  refine wpAny_bind (ksk_fold (fun i s' => ∃ (H' : Hp) (kA : Array Value) (e : Nat) (ys : List V), Inv X pins σ H' s' ∧ FpOk X pins H' a ∧ FpOk X pins H' kS ∧ s'.heap.get? kS = some (seqObj "list" kA e) ∧ s'.heap.get? a = some (seqObj "list" #[] e1) ∧ Vals ys kA.toList ∧ All2 (KeyV H') ys (kz.take i) ∧ J i H') vs 0 s
    ⟨H, #[], 0, [], I, fa, fk, nk, na, .nil, by rw [List.take_zero]; exact .nil, j0⟩ ?step ?done)
  case step =>
    rintro j u s' hx ⟨H', kA, e, ys, I', fa', fk', nk', na', rk, hk, hj⟩
    simp only [Nat.zero_add] at hk hj ⊢
    have hjl : j < vs.length := (List.getElem?_eq_some_iff.mp hx).1
    obtain ⟨k, hkj⟩ : ∃ k, kz[j]? = some k := ⟨_, List.getElem?_eq_getElem (by omega)⟩
    obtain ⟨x, hxx, rx⟩ := vals_at rv hx
    have hz : kA.size ≤ vs.length := by
      have h1 := hk.len
      have h2 : ys.length = kA.size := by simpa using rk.length
      rw [List.length_take] at h1
      omega
    have I2 := I'.pinned (fp := [kS, a]) (fun b hb => by
      rcases List.mem_cons.mp hb with rfl | hb
      · exact fk'
      · rw [List.mem_singleton.mp hb]
        exact fa') (fun b hb => by
      rcases List.mem_cons.mp hb with rfl | hb
      · exact ⟨_, nk', fun v q => by cases q⟩
      · rw [List.mem_singleton.mp hb]
        exact ⟨_, na', fun v q => by cases q⟩)
    have mk : (kS, seqObj "list" kA e) ∈ pinsAt [kS, a] s'.heap := List.mem_filterMap.mpr ⟨kS, List.mem_cons_self, by rw [nk']; rfl⟩
    have ma : (a, seqObj "list" #[] e1) ∈ pinsAt [kS, a] s'.heap := List.mem_filterMap.mpr ⟨a, List.mem_cons_of_mem _ List.mem_cons_self, by rw [na']; rfl⟩
    refine wpAny_bind (wpAny_attempt (wpAny_mono (turn j x u k hxx rx hkj _ H' s' I2 hj) (fun v s'' he => ?_) fun _ _ hF => hF.elim))
    obtain ⟨yv, H'', os, bare, un, hok, ry, hkey, hj'⟩ := he
    have I3 := I2.call' (ch := []) os un hok bare (fun b z => absurd z (by simp))
    have pk := I3.pin _ (List.mem_append_right _ (List.mem_append_right _ mk))
    have pa := I3.pin _ (List.mem_append_right _ (List.mem_append_right _ ma))
    have nk2 : s''.heap.get? kS = some (seqObj "list" kA e) := pk.1
    have na2 : s''.heap.get? a = some (seqObj "list" #[] e1) := pa.1
    have fk2 : FpOk X pins H'' kS := FpOk.other fk' pk.2.1
    have fa2 : FpOk X pins H'' a := FpOk.other fa' pa.2.1
    have I4 := I3.unpinned
    try dsimp only
    have s1 := Heap.SameBut.update s''.heap kS (Obj.mapSeq (·.push v))
    obtain ⟨c2, hc2⟩ : ∃ c2, (s''.heap.update kS (Obj.mapSeq (·.push v))).get? kS = some (seqObj "list" (kA.push v) c2) := ⟨_, get?_update_seq nk2 (·.push v)⟩
    have ek : kz.take (j + 1) = kz.take j ++ [k] := by rw [List.take_add_one, hkj]; simp
    have ea : (kA.push v).toList = kA.toList ++ [v] := by simp
    refine wpAny_bind (listUpdate_at nk2 rfl ?_ (Nat.le_trans hz hZ) (Nat.le_trans (Nat.le_of_eq (Array.size_push ..)) (Nat.succ_le_succ (Nat.le_trans hz hZ))))
    obtain ⟨f0, f1, f2, f3, f4, f5⟩ := fk2
    have I5 := I4.turned (t' := s''.toks) (it := kS) (h' := s''.heap.update kS (Obj.mapSeq (·.push v))) (fun b o hb e => (s1.2 b hb).trans e) f0 f1 f3 f4 f5
    refine wpAny_pure ⟨rfl, H'', kA.push v, c2, ys ++ [yv], I5, fa2, ⟨f0, f1, f2, f3, f4, f5⟩, hc2, (s1.2 a hka.symm).trans na2, ?_, ?_, hj'⟩
    · rw [ea]
      exact rk.append (.cons ry .nil)
    · rw [ek]
      exact (All2.mono (fun _ _ q => KeyV.mono un.tups q) hk).snoc hkey
  case done =>
    rintro s' ⟨H', kA, e, ys, I', fa', fk', nk', na', rk, hk, hj⟩
    have e3 : kz.take (0 + vs.length) = kz := List.take_of_length_le (by omega)
    rw [e3] at hk
    rw [Nat.zero_add] at hj
    have hk' := each_keys2 I'.hok rk hk
    have hsz : kA.size = vs.length := by
      have h1 := hk.len
      have h2 : ys.length = kA.size := by simpa using rk.length
      omega
    try dsimp only
    refine wpAny_bind (listItems_at nk' rfl ?_)
    refine PySem.W.keyH_end (κ := PySem.W.dataKind s'.heap kz) (h₁ := without s'.heap kS) (fun b o _ q => ?_) without_same nk' na' hka (PySem.W.SortsAt.data (s := s') hk' hal hsk hu) hsz hZ fun h3 tk3 c k3 n3 => ?_
    · by_cases hb : b = kS
      · rw [hb, without_same] at q
        cases q
      · rwa [without_ne hb] at q
    · have I6 : Inv X pins σ H' { s' with heap := h3, toks := tk3 } := I'.turnedL (ch := [kS, a]) (fun b o hb q => by
        have h1 : b ≠ kS := fun z => hb (by rw [z]; exact List.mem_cons_self)
        have h2 : b ≠ a := fun z => hb (by rw [z]; exact List.mem_cons_of_mem _ List.mem_cons_self)
        exact k3 b o h2 (by rw [without_ne h1]; exact q)) (fun b hb => by
        rcases List.mem_cons.mp hb with rfl | hb
        · exact fk'
        · rw [List.mem_singleton.mp hb]
          exact fa')
      exact h H' _ _ c I6 fa' n3 ⟨s'.heap, kA.toList, hal, rfl, hk'⟩ hj
end
section
variable {prog : Program} {w : World} {A : Around} {E : Value → Shared → Prop} {s : Shared}
theorem collect_tup {l : Addr} {vs : List Value} {Q : List Value → Shared → Prop} (hl : IsTup s.heap l vs.toArray)
    (h : Q vs { s with heap := (s.heap.push (seqObj "list" #[] 0)).update s.heap.objs.size (Obj.mapSeq (· ++ vs.toArray)) }) (hsz : vs.length ≤ sizeLine) :
    wpAny (model prog w) A (collect (.ref l)) Q E s := by
  obtain ⟨o, ho, hc, n, hd⟩ := id hl
  unfold collect
  refine wpAny_bind (wpAny_runValue (codeAny_builtin entry_proto_collect' ?_))
  show wpAny _ _ (do again (.builtin "list.__iadd__" ⟨[← newList [], .ref l], []⟩)) _ _ s
  refine wpAny_bind (wpAny_newList (wpAny_pure ⟨Code.quiet_builtin _ (by decide +kernel), codeAny_builtin entry_list_iadd' ?_⟩))
  show wpAny _ _ (Builtin.List.listExtendWith (.ref s.heap.objs.size) (.ref l) (.ref s.heap.objs.size)) _ _ { s with heap := s.heap.push (seqObj "list" #[] 0) }
  unfold Builtin.List.listExtendWith
  have ho' : (s.heap.push (seqObj "list" #[] 0)).get? l = some o := Heap.get?_push_of_some _ ho
  refine wpAny_bind (wpAny_typeOf (T := "tuple") ⟨o, ho', hc⟩ ?_)
  have ht : (Value.type "tuple" == Value.type "tuple") = true := by rfl
  rw [if_pos (by rw [ht]; simp)]
  refine wpAny_bind (listItems_at ho' hd ?_)
  refine wpAny_bind (listItems_at (xs := #[]) (n := 0) (Heap.get?_push_size _ rfl) rfl ?_)
  rw [if_neg (by simp)]
  refine wpAny_bind (listUpdate_at (xs := #[]) (n := 0) (Heap.get?_push_size _ rfl) rfl ?_ (Nat.zero_le _) (by show (#[] ++ vs.toArray).size ≤ sizeLine + 1; simp only [Array.size_append, List.size_toArray, List.length_nil]; omega))
  refine wpAny_pure ?_
  show wpAny (model prog w) A (do
      let o ← load s.heap.objs.size
      match o.data with
      | .seq xs _ => pure xs.toList
      | _ => unsupported "internal:collect") Q E { s with heap := (s.heap.push (seqObj "list" #[] 0)).update s.heap.objs.size (Obj.mapSeq (· ++ vs.toArray)) }
  refine wpAny_bind (wpAny_load (get?_update_seq (Heap.get?_push_size _ rfl) _) ?_)
  show wpAny _ _ (pure ((#[] : Array Value) ++ vs.toArray).toList) Q E _
  rw [show ((#[] : Array Value) ++ vs.toArray).toList = vs by simp]
  exact wpAny_pure h
theorem sorted_of_sort2 {l : Addr} {vs : List Value} {kw : List (Str × Value)} {Q : Value → Shared → Prop} (hl : s.heap.IsList l vs.toArray ∨ IsTup s.heap l vs.toArray) (hL : vs.length ≤ sizeLine) (ha1 : argsOk "sorted" ⟨[.ref l], kw⟩) (ha2 : ∀ x, argsOk "list.sort" ⟨[.ref x], kw⟩)
    (body : ∀ E' : Value → Shared → Prop, wpAny (model prog w) A.in1.in1 (Builtin.«list.sort» ⟨[.ref (s.heap.objs.size + 1)], kw⟩) (fun f s' => f = .done (.ret .none) ∧ Q (.ref (s.heap.objs.size + 1)) s') E' { s with heap := PySem.W.copyHeap s.heap vs }) :
    wpAny (model prog w) A (call (.builtin "sorted") [.ref l] kw) Q E s := by
  rcases hl with hl | hl
  · exact PySem.W.sorted_of_sort hl hL ha1 ha2 body
  refine call_function_entry_kw kind_sorted plain_sorted entry_sorted ha1 ?_
  unfold Builtin.«sorted»
  refine wpAny_bind (m := checkCount "sorted" 1 1 _) (wpAny_pure ?_)
  refine wpAny_bind (collect_tup hl ?_ hL)
  refine wpAny_bind (wpAny_newList ?_ hL)
  have hsz : ((s.heap.push (seqObj "list" #[] 0)).update s.heap.objs.size (Obj.mapSeq (· ++ vs.toArray))).objs.size = s.heap.objs.size + 1 := by
    rw [Heap.size_update, size_push']
  show wpAny _ _ _ _ _ { s with heap := PySem.W.copyHeap s.heap vs }
  rw [hsz]
  refine wpAny_bind (wpAny_holding (wpAny_call_entry_kw slot_list_sort ⟨_, PySem.W.copyHeap_at s.heap vs, rfl⟩ entry_list_sort ?body (ha2 _)))
  case body =>
    show wpAny (model prog w) A.in1.in1 (Builtin.«list.sort» ⟨[.ref (s.heap.objs.size + 1)], kw⟩) _ _ _
    refine wpAny_mono (body _) (fun f s' hf => ?_) fun _ _ e => e
    obtain ⟨rfl, hq⟩ := hf
    exact ⟨_, rfl, wpAny_pure ⟨_, rfl, hq⟩⟩
end
def rSortKey (K : PySem.W.Frag) (f : Str) (sp : Sp) (gV : List V → List V → List V) : List V → List V → Hp → VK → Prop := fun vs zs H Q => ∃ (a : Addr) (xs : List V) (kz : List PyData) (J : Nat → Hp → Prop), vs = [.ref a] ∧ zs = [.ref (He.ga K f)] ∧ (SqL K H a xs ∨ SqT K H a xs) ∧ kz.length = xs.length ∧ PySem.W.AllAlike kz ∧ PySem.W.Sortable kz ∧ (∀ d ∈ kz, d.depth ≤ 5) ∧ J 0 H ∧
  (∀ (i : Nat) (x : V) (k : PyData) (H' : Hp), xs[i]? = some x → kz[i]? = some k → J i H' → sp (gV [x] []) H' (fun y H'' => KeyV H'' y k ∧ J (i + 1) H'') E0) ∧
  ∀ (H' : Hp) (p : Addr), J xs.length H' → H' p = none → Q (.ref p) (upd H' p (.lst (keySort xs kz)))
section
variable {X : Cx} {CX : CXT} {k k' : Nat} {sp : Sp} {f : Str} {gV : List V → List V → List V}
theorem ck_sortKey (c : CallOk X.prog X.w X.K X.mg X.base CX k f 1 [] sp gV) (hr : Room (k' + 2) X.A) (hk : k ≤ k') (hg : X.A.guards = some []) (hx : ∀ E', Passes CX (X.wish E') E0) : CallRK X (.builtin "sorted") [Str.ofString "key"] (rSortKey X.K f sp gV) := by
  intro pins s σ H vs zs us ws Q I r rz h
  obtain ⟨a, xs, kz, J, rfl, rfl, hs, hl, hal, hsk, hdp, j0, ht, q⟩ := h
  obtain rfl := Vals.ref1 r
  obtain rfl := Vals.ref1 rz
  obtain ⟨its, rv, hl2, hz⟩ : ∃ its : List Value, Vals xs its ∧ (s.heap.IsList a its.toArray ∨ IsTup s.heap a its.toArray) ∧ xs.length ≤ sizeLine := by
    rcases hs with hs | hs
    · obtain ⟨its, rv, hl, hz⟩ := I.list hs
      exact ⟨its, rv, .inl hl.isList, hz⟩
    · obtain ⟨its, rv, hl, hz⟩ := I.tuple hs
      exact ⟨its, rv, .inr hl, hz⟩
  have hlen := rv.length
  obtain ⟨⟨fd, ps, g, F, kb⟩, at_, kp⟩ := c
  have hr2 : Room k X.A.in1.in1 := (Room.in1 (Room.in1 hr)).mono hk
  refine sorted_of_sort2 hl2 (by rw [← hlen]; exact hz) (ksk_s1 _ _) (fun _ => ksk_l1 _ _) fun E' => ?_
  show wpAny _ _ (Builtin.«list.sort» ⟨[.ref (s.heap.objs.size + 1)], [(Str.ofString "key", .ref (He.ga X.K f))]⟩) _ _ _
  rw [ksk_t1]
  have hA : s.heap.objs.size ≤ s.heap.objs.size + 1 := Nat.le_succ _
  have ho := PySem.W.copyHeap_at s.heap its
  have ha : s.heap.objs.size + 1 < (PySem.W.copyHeap s.heap its).objs.size := Heap.lt_size ho
  obtain ⟨e1, ho1⟩ : ∃ e1, ((PySem.W.copyHeap s.heap its).update (s.heap.objs.size + 1) (Obj.mapSeq fun _ => (#[] : Array Value))).get? (s.heap.objs.size + 1) = some (seqObj "list" #[] e1) := ⟨_, get?_update_seq ho fun _ => #[]⟩
  have hkS : (((PySem.W.copyHeap s.heap its).update (s.heap.objs.size + 1) (Obj.mapSeq fun _ => (#[] : Array Value))).push (seqObj "tuple" its.toArray 0)).objs.size = (PySem.W.copyHeap s.heap its).objs.size + 1 := by rw [size_push', Heap.size_update]
  unfold ksk_tree
  refine wpAny_bind (listItems_at ho rfl ?_)
  refine wpAny_bind (listUpdate_at ho rfl ?_ (by rw [List.size_toArray, ← hlen]; exact hz) (Nat.zero_le _))
  refine wpAny_bind (seqEpoch_at ho1 rfl ?_)
  refine wpAny_bind (wpAny_newTuple ?_ (by show its.length ≤ _; rw [← hlen]; exact hz))
  refine wpAny_bind (wpAny_newList ?_ (Nat.zero_le _))
  refine wpAny_holding ?_
  have keep : ∀ b o, s.heap.get? b = some o → ((((PySem.W.copyHeap s.heap its).update (s.heap.objs.size + 1) (Obj.mapSeq fun _ => (#[] : Array Value))).push (seqObj "tuple" its.toArray 0)).push (seqObj "list" #[] 0)).get? b = some o := fun b o q =>
    Heap.get?_push_of_some _ (Heap.get?_push_of_some _ ((Heap.get?_update_ne _ _ _ _ (Nat.ne_of_lt (Nat.lt_succ_of_lt (Heap.lt_size q)))).trans (PySem.W.copyHeap_old q)))
  have I1 : Inv X pins σ H { s with heap := (((PySem.W.copyHeap s.heap its).update (s.heap.objs.size + 1) (Obj.mapSeq fun _ => (#[] : Array Value))).push (seqObj "tuple" its.toArray 0)).push (seqObj "list" #[] 0) } := I.kept (t' := s.toks) keep
  have f1 : FpOk X pins H (s.heap.objs.size + 1) := I.fpOk hA (I.hok.fresh hA)
  have hB : s.heap.objs.size ≤ (((PySem.W.copyHeap s.heap its).update (s.heap.objs.size + 1) (Obj.mapSeq fun _ => (#[] : Array Value))).push (seqObj "tuple" its.toArray 0)).objs.size := by
    rw [hkS]
    exact Nat.le_succ_of_le (Nat.le_of_lt (Nat.lt_of_succ_lt ha))
  refine key_rest (kz := kz) (J := J) (xs := xs) I1 f1 (I.fpOk hB (I.hok.fresh hB)) (Heap.get?_push_size _ rfl) (Heap.get?_push_of_some _ (Heap.get?_push_of_some _ ho1)) (by rw [hkS]; exact Nat.ne_of_gt (Nat.lt_succ_of_lt ha)) rv (by rw [hl, hlen]) (by rw [← hlen]; exact hz) hal hsk (fun d hd => ?_) j0 (fun i x u d hxx rx hkd pins' H' s' I' j => ?_) fun H' s' out c I' fa ho' hko j => ⟨rfl, ?_⟩
  · have h1 := hr2.un
    have h2 := hdp d hd
    omega
  · refine wpAny_call (codeAny_mono (F.go X.A.in1.in1 X.stack s' H' ⟨[u], []⟩ (g [u] []) (gV [x] []) _ E0 hr2 hg I'.env0.in1.in1 (kb.to s' [u] [] I'.kIn rfl rfl) (kb.rel (.cons rx .nil) .nil) (ht i x d H' hxx hkd j)) ?_)
    intro r s'' z
    cases r with
    | error e => exact hx (fun _ _ => False) pins' σ H' s' e s'' (I'.wish _) z
    | ok fl =>
      cases fl with
      | ret u => exact z
      | next => exact False.elim z
      | brk => exact False.elim z
      | cont => exact False.elim z
  · have ho2 := keyed_vals rv hl hko
    exact ⟨.ref (s.heap.objs.size + 1), upd H' (s.heap.objs.size + 1) (.lst (keySort xs kz)), I'.take (t' := s'.toks) (h' := s'.heap) (fun _ _ _ e => e) fa ⟨by rw [keySort_len _ _ hl]; exact hz, out, c, ho2, ho'⟩, rfl, q H' _ (by rw [hlen]; exact j) fa.1⟩
end
end Bz
namespace Bz
open PySem PySem.Spec PyProof.Rows L2
abbrev Spot : Type := Str × Int
structure RowT where
  n : Int
  k : Int
  s : Spot
  b : Int
  e : Int
def freeFrom : List RowT → Int → Int → Int
  | [], _, t => t
  | r :: rs, h, t => if t + h ≤ r.b then t else freeFrom rs h (if r.e > t then r.e else t)
/-- rows of one place, rising, one behind the other -/
structure Apart (rs : List RowT) : Prop where
  p : rs.Pairwise fun a b => a.e ≤ b.b
  l : ∀ r ∈ rs, r.b < r.e
theorem Apart.tail {r : RowT} {rs : List RowT} (h : Apart (r :: rs)) : Apart rs := ⟨(List.pairwise_cons.mp h.p).2, fun x hx => h.l x (List.mem_cons_of_mem _ hx)⟩
theorem free_ge : ∀ (rs : List RowT) (h t : Int), t ≤ freeFrom rs h t
  | [], _, _ => Int.le_refl _
  | r :: rs, h, t => by
    unfold freeFrom
    split
    · exact Int.le_refl _
    · have hm : t ≤ (if r.e > t then r.e else t) := by split <;> omega
      exact Int.le_trans hm (free_ge rs h _)
theorem free_clear : ∀ {rs : List RowT} {h t : Int}, Apart rs → 0 < h → ∀ r ∈ rs, r.e ≤ freeFrom rs h t ∨ freeFrom rs h t + h ≤ r.b
  | r :: rs, h, t, ha, h0, x, hx => by
    unfold freeFrom
    split
    · rename_i c
      rcases List.mem_cons.mp hx with rfl | hx
      · exact .inr c
      · have h1 := (List.pairwise_cons.mp ha.p).1 x hx
        have h2 := ha.l r List.mem_cons_self
        exact .inr (by omega)
    · rcases List.mem_cons.mp hx with rfl | hx
      · have hm : x.e ≤ (if x.e > t then x.e else t) := by split <;> omega
        exact .inl (Int.le_trans hm (free_ge rs h _))
      · exact free_clear ha.tail h0 x hx
theorem free_least : ∀ {rs : List RowT} {h t u : Int}, Apart rs → 0 < h → t ≤ u → u < freeFrom rs h t → ∃ r ∈ rs, r.b < u + h ∧ u < r.e
  | [], _, _, _, _, _, h1, h2 => by
    unfold freeFrom at h2
    omega
  | r :: rs, h, t, u, ha, h0, h1, h2 => by
    unfold freeFrom at h2
    split at h2
    · omega
    · by_cases hu : u < r.e
      · exact ⟨r, List.mem_cons_self, by omega, hu⟩
      · obtain ⟨x, hx, h3⟩ := free_least (rs := rs) ha.tail h0 (by split <;> omega) h2
        exact ⟨x, List.mem_cons_of_mem _ hx, h3⟩
theorem free_from : ∀ (rs : List RowT) (h t : Int), freeFrom rs h t = t ∨ ∃ r ∈ rs, freeFrom rs h t = r.e
  | [], _, _ => .inl rfl
  | r :: rs, h, t => by
    unfold freeFrom
    split
    · exact .inl rfl
    · rcases free_from rs h (if r.e > t then r.e else t) with e | ⟨x, hx, e⟩
      · rw [e]
        split
        · exact .inr ⟨r, List.mem_cons_self, rfl⟩
        · exact .inl rfl
      · exact .inr ⟨x, List.mem_cons_of_mem _ hx, e⟩
/-- the best of places, the first of them -/
def better (f : Spot → Int) (a : Option (Spot × Int)) (s : Spot) : Option (Spot × Int) :=
  match a with
  | none => some (s, f s)
  | some (s0, b0) => if f s < b0 then some (s, f s) else some (s0, b0)
def bestOf (f : Spot → Int) (a : Option (Spot × Int)) (ss : List Spot) : Option (Spot × Int) := ss.foldl (better f) a
theorem best_some {f : Spot → Int} : ∀ {ss : List Spot} {s0 : Spot}, ∃ s, (s = s0 ∨ s ∈ ss) ∧ bestOf f (some (s0, f s0)) ss = some (s, f s) ∧ f s ≤ f s0 ∧ ∀ x ∈ ss, f s ≤ f x
  | [], s0 => ⟨s0, .inl rfl, rfl, Int.le_refl _, fun _ h => nomatch h⟩
  | x :: ss, s0 => by
    by_cases h : f x < f s0
    · obtain ⟨s, h1, h2, h3, h4⟩ := best_some (f := f) (ss := ss) (s0 := x)
      refine ⟨s, .inr (by rcases h1 with rfl | h1 <;> simp [*]), ?_, by omega, fun y hy => ?_⟩
      · show bestOf f (better f (some (s0, f s0)) x) ss = _
        rw [show better f (some (s0, f s0)) x = some (x, f x) from if_pos h]
        exact h2
      · rcases List.mem_cons.mp hy with rfl | hy
        · exact h3
        · exact h4 y hy
    · obtain ⟨s, h1, h2, h3, h4⟩ := best_some (f := f) (ss := ss) (s0 := s0)
      refine ⟨s, by rcases h1 with rfl | h1 <;> simp [*], ?_, h3, fun y hy => ?_⟩
      · show bestOf f (better f (some (s0, f s0)) x) ss = _
        rw [show better f (some (s0, f s0)) x = some (s0, f s0) from if_neg h]
        exact h2
      · rcases List.mem_cons.mp hy with rfl | hy
        · omega
        · exact h4 y hy
/-- .. of those with a smaller number none is as good -/
theorem best_first {f : Spot → Int} : ∀ {ss : List Spot} {s0 s : Spot} {b : Int}, (s0 :: ss).Pairwise (fun x y => x.2 < y.2) → bestOf f (some (s0, f s0)) ss = some (s, b) → ∀ x ∈ s0 :: ss, x.2 < s.2 → f s < f x
  | [], s0, s, b, _, h, x, hx, hlt => by
    cases h
    rw [List.mem_singleton.mp hx] at hlt
    omega
  | y :: ss, s0, s, b, hp, h, x, hx, hlt => by
    obtain ⟨h1, h2⟩ := List.pairwise_cons.mp hp
    by_cases hy : f y < f s0
    · have h3 : bestOf f (some (y, f y)) ss = some (s, b) := by
        have : bestOf f (better f (some (s0, f s0)) y) ss = some (s, b) := h
        rwa [show better f (some (s0, f s0)) y = some (y, f y) from if_pos hy] at this
      rcases List.mem_cons.mp hx with rfl | hx
      · obtain ⟨s', _, e, h4, _⟩ := best_some (f := f) (ss := ss) (s0 := y)
        rw [e] at h3
        cases h3
        omega
      · exact best_first h2 h3 x hx hlt
    · have h3 : bestOf f (some (s0, f s0)) ss = some (s, b) := by
        have : bestOf f (better f (some (s0, f s0)) y) ss = some (s, b) := h
        rwa [show better f (some (s0, f s0)) y = some (s0, f s0) from if_neg hy] at this
      have hp2 : (s0 :: ss).Pairwise (fun x y => x.2 < y.2) := List.pairwise_cons.mpr ⟨fun z hz => h1 z (List.mem_cons_of_mem _ hz), (List.pairwise_cons.mp h2).2⟩
      rcases List.mem_cons.mp hx with rfl | hx
      · exact best_first hp2 h3 x List.mem_cons_self hlt
      · rcases List.mem_cons.mp hx with rfl | hx
        · by_cases hs : s = s0
          · subst hs
            have := h1 x List.mem_cons_self
            omega
          · have h5 := best_first hp2 h3 s0 List.mem_cons_self (by
              obtain ⟨s', h6, e, _, _⟩ := best_some (f := f) (ss := ss) (s0 := s0)
              rw [e] at h3
              cases h3
              rcases h6 with h6 | h6
              · exact absurd h6 hs
              · exact h1 _ (List.mem_cons_of_mem _ h6))
            omega
        · exact best_first hp2 h3 x (List.mem_cons_of_mem _ hx) hlt
def spotsOf (c : Nat) (kd : Str) : List Spot := (List.range c).map fun (i : Nat) => (kd, (i : Int) + 1)
theorem spots_mem {c : Nat} {kd : Str} {s : Spot} : s ∈ spotsOf c kd ↔ s.1 = kd ∧ 1 ≤ s.2 ∧ s.2 ≤ c := by
  unfold spotsOf
  rw [List.mem_map]
  constructor
  · rintro ⟨i, hi, rfl⟩
    have := List.mem_range.mp hi
    exact ⟨rfl, by omega, by omega⟩
  · rintro ⟨h1, h2, h3⟩
    obtain ⟨k, n⟩ := s
    subst h1
    refine ⟨(n - 1).toNat, List.mem_range.mpr ?_, ?_⟩
    · show (n - 1).toNat < c
      omega
    · show (k, (((n - 1).toNat : Nat) : Int) + 1) = (k, n)
      rw [Int.toNat_of_nonneg (by omega), Int.sub_add_cancel]
theorem spots_pair (c : Nat) (kd : Str) : (spotsOf c kd).Pairwise fun x y => x.2 < y.2 := by
  unfold spotsOf
  refine List.pairwise_map.mpr (List.Pairwise.imp ?_ (List.pairwise_lt_range (n := c)))
  intro a b h
  show (a : Int) + 1 < (b : Int) + 1
  omega
/-- a row laid by its begin -/
def insB (r : RowT) : List RowT → List RowT
  | [] => [r]
  | x :: xs => if r.b < x.b then r :: x :: xs else x :: insB r xs
theorem insB_perm (r : RowT) : ∀ xs : List RowT, (insB r xs).Perm (xs ++ [r])
  | [] => List.Perm.refl _
  | x :: xs => by
    unfold insB
    split
    · exact (List.perm_append_comm (l₁ := [r]) (l₂ := x :: xs))
    · exact (insB_perm r xs).cons x
theorem insB_mem {r x : RowT} {xs : List RowT} : x ∈ insB r xs ↔ x ∈ xs ∨ x = r := by
  rw [(insB_perm r xs).mem_iff, List.mem_append, List.mem_singleton]
theorem insB_apart {r : RowT} : ∀ {xs : List RowT}, Apart xs → r.b < r.e → (∀ x ∈ xs, x.e ≤ r.b ∨ r.e ≤ x.b) → Apart (insB r xs)
  | [], _, h, _ => ⟨List.pairwise_singleton _ _, fun x hx => by rw [List.mem_singleton.mp hx]; exact h⟩
  | x :: xs, ha, h, hc => by
    obtain ⟨h1, h2⟩ := List.pairwise_cons.mp ha.p
    have hx := ha.l x List.mem_cons_self
    refine ⟨?_, fun y hy => ?_⟩
    · unfold insB
      split
      · rename_i c
        refine List.pairwise_cons.mpr ⟨fun y hy => ?_, ha.p⟩
        have h3 : r.e ≤ x.b := by rcases hc x List.mem_cons_self with h4 | h4 <;> omega
        rcases List.mem_cons.mp hy with rfl | hy
        · exact h3
        · have := h1 y hy
          omega
      · rename_i c
        refine List.pairwise_cons.mpr ⟨fun y hy => ?_, (insB_apart ha.tail h fun y hy => hc y (List.mem_cons_of_mem _ hy)).p⟩
        rcases insB_mem.mp hy with hy | rfl
        · exact h1 y hy
        · rcases hc x List.mem_cons_self with h4 | h4
          · exact h4
          · omega
    · rcases insB_mem.mp hy with hy | rfl
      · exact ha.l y hy
      · exact h
/-- the rows of one place among all -/
def atPl (all : List RowT) (s : Spot) : List RowT := all.foldl (fun acc r => if r.s = s then insB r acc else acc) []
theorem atPl_snoc (all : List RowT) (r : RowT) (s : Spot) : atPl (all ++ [r]) s = if r.s = s then insB r (atPl all s) else atPl all s := by
  unfold atPl
  rw [List.foldl_append]
  rfl
theorem atPl_mem {s : Spot} {x : RowT} : ∀ {all : List RowT}, x ∈ atPl all s ↔ x ∈ all ∧ x.s = s := by
  intro all
  generalize hn : all.length = n
  induction n generalizing all with
  | zero =>
    rw [List.length_eq_zero_iff.mp hn]
    simp [atPl]
  | succ n ih =>
    obtain ⟨ys, y, rfl⟩ : ∃ ys y, all = ys ++ [y] := ⟨all.dropLast, all.getLast (by intro h; rw [h] at hn; cases hn), (List.dropLast_concat_getLast _).symm⟩
    rw [atPl_snoc]
    have h2 := ih (all := ys) (by simpa using hn)
    split
    · rename_i c
      rw [insB_mem, h2, List.mem_append, List.mem_singleton]
      constructor
      · rintro (⟨h3, h4⟩ | rfl)
        · exact ⟨.inl h3, h4⟩
        · exact ⟨.inr rfl, c⟩
      · rintro ⟨h3 | h3, h4⟩
        · exact .inl ⟨h3, h4⟩
        · exact .inr h3
    · rename_i c
      rw [h2, List.mem_append, List.mem_singleton]
      constructor
      · rintro ⟨h3, h4⟩
        exact ⟨.inl h3, h4⟩
      · rintro ⟨h3 | rfl, h4⟩
        · exact ⟨h3, h4⟩
        · exact absurd h4 c
structure WantT where
  n : Int
  k : Int
  kd : Str
  h : Int
  rest : Int
  c : Int
def kindS (z : Str) : Str := if z = "press" then "press" else "hand"
def cntOf (hp : Nat × Nat) (kd : Str) : Nat := if kd = "press" then hp.2 else hp.1
def putW (hp : Nat × Nat) (all : List RowT) (w : WantT) (t : Int) : RowT :=
  let o := (bestOf (fun s => freeFrom (atPl all s) w.h t) none (spotsOf (cntOf hp w.kd) w.kd)).getD (("", 0), 0)
  ⟨w.n, w.k, o.1, o.2, o.2 + w.h⟩
structure WantG (w : WantT) : Prop where
  h0 : 1 ≤ w.h
  kd : w.kd = "hand" ∨ w.kd = "press"
theorem put_good {hp : Nat × Nat} {all : List RowT} {w : WantT} {t : Int} (h1 : 1 ≤ hp.1) (h2 : 1 ≤ hp.2) :
    ∃ s, s ∈ spotsOf (cntOf hp w.kd) w.kd ∧ putW hp all w t = ⟨w.n, w.k, s, freeFrom (atPl all s) w.h t, freeFrom (atPl all s) w.h t + w.h⟩ ∧ (∀ x ∈ spotsOf (cntOf hp w.kd) w.kd, freeFrom (atPl all s) w.h t ≤ freeFrom (atPl all x) w.h t ∧ (x.2 < s.2 → freeFrom (atPl all s) w.h t < freeFrom (atPl all x) w.h t)) := by
  have hc : 1 ≤ cntOf hp w.kd := by
    unfold cntOf
    split <;> assumption
  have hne : spotsOf (cntOf hp w.kd) w.kd ≠ [] := by
    intro h
    have := congrArg List.length h
    unfold spotsOf at this
    rw [List.length_map, List.length_range] at this
    have e0 : ([] : List Spot).length = 0 := rfl
    omega
  obtain ⟨s0, ss, e⟩ := List.exists_cons_of_ne_nil hne
  have hp := spots_pair (cntOf hp w.kd) w.kd
  unfold putW
  rw [e] at hp ⊢
  obtain ⟨s, h3, h4, h5, h6⟩ := best_some (f := fun s => freeFrom (atPl all s) w.h t) (ss := ss) (s0 := s0)
  have h4' : bestOf (fun s => freeFrom (atPl all s) w.h t) none (s0 :: ss) = some (s, freeFrom (atPl all s) w.h t) := h4
  refine ⟨s, ?_, by rw [h4']; rfl, fun x hx => ⟨?_, best_first hp h4 x hx⟩⟩
  · rcases h3 with rfl | h3
    · exact List.mem_cons_self
    · exact List.mem_cons_of_mem _ h3
  · rcases List.mem_cons.mp hx with rfl | hx
    · exact h5
    · exact h6 x hx
end Bz
namespace Bz
open PySem PySem.Spec PyProof.Rows L2
theorem all2_pairs {α β : Type} {R : α → β → Prop} : ∀ {l : List (α × β)}, (∀ p ∈ l, R p.1 p.2) → All2 R (l.map Prod.fst) (l.map Prod.snd)
  | [], _ => .nil
  | p :: l, h => .cons (h p List.mem_cons_self) (all2_pairs fun q hq => h q (List.mem_cons_of_mem _ hq))
theorem all2_zip {α β : Type} {R : α → β → Prop} : ∀ {xs : List α} {bs : List β}, All2 R xs bs → ∀ p ∈ xs.zip bs, R p.1 p.2
  | _, _, .nil, p, hp => by cases hp
  | _, _, .cons h t, p, hp => by
    rcases List.mem_cons.mp hp with rfl | hp
    · exact h
    · exact all2_zip t p hp
/-- the items that stand for bs, sorted: they stand for bs, sorted -/
theorem keySort_all2 {β : Type} {R : V → β → Prop} {xs : List V} {bs : List β} (h : All2 R xs bs) (key : β → PyData) : All2 R (keySort xs (bs.map key)) (bs.mergeSort (PySem.W.dataLe false key)) := by
  have hl := h.len
  have e1 : xs.zip (bs.map key) = (xs.zip bs).map (fun p => (p.1, key p.2)) := by
    rw [List.zip_map_right]
    rfl
  have e2 : ((xs.zip bs).mergeSort (fun p q => PySem.W.dataLe false key p.2 q.2)).map (fun p => (p.1, key p.2)) = ((xs.zip bs).map (fun p => (p.1, key p.2))).mergeSort (PySem.W.dataLe false Prod.snd) :=
    List.map_mergeSort fun _ _ _ _ => rfl
  have e3 : ((xs.zip bs).mergeSort (fun p q => PySem.W.dataLe false key p.2 q.2)).map Prod.snd = ((xs.zip bs).map Prod.snd).mergeSort (PySem.W.dataLe false key) :=
    List.map_mergeSort fun _ _ _ _ => rfl
  have e4 : (xs.zip bs).map Prod.snd = bs := List.map_snd_zip (by omega)
  unfold keySort
  rw [e1, ← e2, List.map_map]
  rw [e4] at e3
  rw [← e3]
  exact all2_pairs (l := (xs.zip bs).mergeSort (fun p q => PySem.W.dataLe false key p.2 q.2)) fun p hp => all2_zip h p ((List.mergeSort_perm _ _).mem_iff.mp hp)
theorem mergeSort_eq {β : Type} {le : β → β → Bool} {bs cs : List β} (tr : ∀ a b c, le a b = true → le b c = true → le a c = true) (to : ∀ a b, (le a b || le b a) = true) (anti : ∀ a b, a ∈ bs → b ∈ bs → le a b = true → le b a = true → a = b) (hp : cs.Perm bs) (hs : cs.Pairwise fun a b => le a b = true) : bs.mergeSort le = cs := by
  have h1 := List.pairwise_mergeSort tr to bs
  have h2 := List.mergeSort_perm bs le
  refine List.Perm.eq_of_pairwise (le := fun a b => le a b = true) (fun a b ha hb => anti a b (h2.mem_iff.mp ha) (hp.mem_iff.mp hb)) h1 hs (h2.trans hp.symm)
section
variable {K : PySem.W.Frag} {B H : Hp} {M L L' : List (Addr × HO)} {Q : VK} {v : V}
theorem g_sortKey {β : Type} {R : V → β → Prop} {f : Str} {sp : Sp} {gV : List V → List V → List V} {a : Addr} {xs : List V} {bs : List β} (key : β → PyData) (I : Is B M L H) (hs : SqL K H a xs ∨ SqT K H a xs) (h : All2 R xs bs) (hal : PySem.W.AllAlike (bs.map key)) (hsk : PySem.W.Sortable (bs.map key)) (hd : ∀ d ∈ bs.map key, d.depth ≤ 5)
    (ht : ∀ x b H', R x b → Is B M L H' → sp (gV [x] []) H' (fun y H'' => KeyV H'' y (key b) ∧ Is B M L H'') E0) (q : ∀ p ys H', All2 R ys (bs.mergeSort (PySem.W.dataLe false key)) → Is B M ((p, .lst ys) :: L) H' → Q (.ref p) H') : rSortKey K f sp gV [.ref a] [.ref (He.ga K f)] H Q := by
  have hl := h.len
  refine ⟨a, xs, bs.map key, fun _ H' => Is B M L H', rfl, rfl, hs, by rw [List.length_map, hl], hal, hsk, hd, I, fun i x k H' hx hk I' => ?_, fun H' p I' hp => q p _ _ (keySort_all2 h key) (I'.new hp)⟩
  obtain ⟨b, hb, hR⟩ := h.get hx
  rw [List.getElem?_map, hb] at hk
  cases hk
  exact ht x b H' hR I'
theorem g_newT {σ : St} (I : Is B M L H) (q : ∀ p H', Is B M ((p, .dT []) :: L) H' → Q (.ref p) H') : tDNewT σ H Q := fun p hp => q p _ (I.new hp)
theorem g_aDGetT {a b : Addr} {kvs : List (List Key × V)} {k : List Key} (h : H a = some (.dT kvs)) (hb : H b = some (.tup (k.map kV))) (e : valV kvs k = some v) (q : Q v H) : aDGet (.ref a) (.ref b) H Q := ⟨a, v, rfl, by rw [← e]; exact DGet.t h hb, q⟩
theorem g_aDGetI {a : Addr} {kvs : List (Key × V)} {n : Int} (h : H a = some (.dK kvs)) (e : valV kvs (Sum.inl n) = some v) (q : Q v H) : aDGet (.ref a) (.int n) H Q := ⟨a, v, rfl, .inl ⟨kvs, .inl n, .inl h, rfl, e.symm⟩, q⟩
theorem g_aDPutT {a b : Addr} {kvs : List (List Key × V)} {k : List Key} {QH : Hp → Prop} (I : Is B M L H) (h : H a = some (.dT kvs)) (hb : H b = some (.tup (k.map kV))) (hz : kvs.length < 100000) (u : Put a (.dT (putK kvs k v)) L L') (q : ∀ H', Is B M L' H' → QH H') : aDPut v (.ref a) (.ref b) H QH :=
  ⟨a, _, rfl, DPut.t h hb (sz6' (by omega)), q _ (I.put u)⟩
theorem g_aDPutI {a : Addr} {kvs : List (Key × V)} {n : Int} {QH : Hp → Prop} (I : Is B M L H) (h : H a = some (.dK kvs)) (hz : kvs.length < 100000) (u : Put a (.dK (putK kvs (Sum.inl n) v)) L L') (q : ∀ H', Is B M L' H' → QH H') : aDPut v (.ref a) (.int n) H QH :=
  ⟨a, _, rfl, .inl ⟨kvs, .inl n, h, rfl, sz6' (by omega), rfl⟩, q _ (I.put u)⟩
theorem g_lenSet {σ : St} {ta : TE} (h : ta σ H fun x H1 => ∃ (l : Addr) (ns : List Int), x = .ref l ∧ SqL K H1 l (ns.map V.int) ∧ ns.Nodup ∧ ns.length ≤ 4000 ∧ Q (.int (ns.length : Nat)) H1) : RZ.tLenSetI K ta σ H Q := h
theorem g_dNotInI {ty td : TE} {σ : St} (h : ty σ H fun y H1 => td σ H1 fun x H2 => ∃ a o, x = .ref a ∧ DGet H2 a y o ∧ Q (.bl (!o.isSome)) H2) : tDNotIn ty td σ H Q := h
theorem g_dInI {ty td : TE} {σ : St} (h : ty σ H fun y H1 => td σ H1 fun x H2 => ∃ a o, x = .ref a ∧ DGet H2 a y o ∧ Q (.bl o.isSome) H2) : tDIn ty td σ H Q := h
theorem valI_at {nv : List (Key × V)} : ∀ {i : Nat} {n : Int} {v : V}, (nv.map (·.1)).Nodup → nv[i]? = some (Sum.inl n, v) → valV nv (Sum.inl n) = some v := by
  induction nv with
  | nil => intro i n v _ h; cases h
  | cons p r ih =>
    intro i n v hn h
    cases i with
    | zero =>
      cases h
      exact valV_pos rfl
    | succ i =>
      rw [List.map_cons, List.nodup_cons] at hn
      have h : r[i]? = some (Sum.inl n, v) := h
      rw [valV_neg (fun e => hn.1 (by rw [e]; exact List.mem_map.mpr ⟨_, List.mem_of_getElem? h, rfl⟩))]
      exact ih hn.2 h
end
end Bz
namespace Bz
open PySem PySem.Spec PyProof.Rows L2
theorem apart_lt {rs : List RowT} (h : Apart rs) : rs.Pairwise fun a b => a.b < b.b :=
  List.Pairwise.imp_of_mem (fun ha _ hab => by
    have := h.l _ ha
    omega) h.p
theorem pair_inj {α : Type} {f : α → Int} : ∀ {l : List α}, (l.Pairwise fun a b => f a < f b) → ∀ a ∈ l, ∀ b ∈ l, f a = f b → a = b
  | [], _, a, ha, _, _, _ => by cases ha
  | x :: l, h, a, ha, b, hb, e => by
    obtain ⟨h1, h2⟩ := List.pairwise_cons.mp h
    rcases List.mem_cons.mp ha with e1 | ha'
    · rcases List.mem_cons.mp hb with e2 | hb'
      · rw [e1, e2]
      · have := h1 b hb'
        rw [← e1] at this
        omega
    · rcases List.mem_cons.mp hb with e2 | hb'
      · have := h1 a ha'
        rw [← e2] at this
        omega
      · exact pair_inj h2 a ha' b hb' e
abbrev rowK (r : RowT) : PyData := .int r.b
theorem sort_ins {rs : List RowT} {r : RowT} (ha : Apart (insB r rs)) : (rs ++ [r]).mergeSort (PySem.W.dataLe false rowK) = insB r rs := by
  have hlt := apart_lt ha
  have hp := insB_perm r rs
  rw [PySem.W.dataLe_int]
  refine mergeSort_eq (fun a b c h1 h2 => ?_) (fun a b => ?_) (fun a b h1 h2 h3 h4 => ?_) hp (List.Pairwise.imp ?_ hlt)
  · have := of_decide_eq_true h1
    have := of_decide_eq_true h2
    exact decide_eq_true (by omega)
  · by_cases h : a.b ≤ b.b
    · rw [decide_eq_true h]
      rfl
    · rw [decide_eq_true (show b.b ≤ a.b by omega), Bool.or_true]
  · have := of_decide_eq_true h3
    have := of_decide_eq_true h4
    exact pair_inj hlt a (hp.mem_iff.mpr h1) b (hp.mem_iff.mpr h2) (by omega)
  · intro a b h
    exact decide_eq_true (by omega)
theorem rows_alike (bs : List RowT) : PySem.W.AllAlike (bs.map rowK) := PySem.W.AllAlike.of fun _ _ => by simp [PySem.W.alike]
theorem rows_sortable (bs : List RowT) : PySem.W.Sortable (bs.map rowK) := PySem.W.Sortable.others fun b => ⟨by simp, by simp⟩
theorem rows_depth (bs : List RowT) : ∀ d ∈ bs.map rowK, d.depth ≤ 5 := fun d hd => by
  obtain ⟨b, _, rfl⟩ := List.mem_map.mp hd
  exact Nat.zero_le _
end Bz
namespace Bz
open PySem PySem.Spec PyProof.Rows L2
def ApartA (all : List RowT) : Prop := ∀ s, Apart (atPl all s)
theorem apart_nil : ApartA [] := fun _ => ⟨List.Pairwise.nil, fun _ h => nomatch h⟩
theorem put_apart {hp : Nat × Nat} {all : List RowT} {w : WantT} {t : Int} (h1 : 1 ≤ hp.1) (h2 : 1 ≤ hp.2) (hw : 1 ≤ w.h) (ha : ApartA all) : ApartA (all ++ [putW hp all w t]) := by
  obtain ⟨s, hs, e, _⟩ := put_good (w := w) (all := all) (t := t) h1 h2
  intro z
  rw [atPl_snoc, e]
  split
  · rename_i c
    have c : s = z := c
    subst c
    refine insB_apart (ha s) (by show freeFrom _ _ _ < freeFrom _ _ _ + w.h; omega) fun x hx => ?_
    exact free_clear (ha s) (by omega) x hx
  · exact ha z
def layJ (hp : Nat × Nat) (n c : Int) : Nat → List (Str × Int × Int) → List RowT → Int → List (RowT × Int) × List RowT × Int
  | _, [], all, t => ([], all, t)
  | k, s :: ss, all, t =>
    let r := putW hp all ⟨n, (k : Int) + 1, kindS s.1, s.2.1, s.2.2, c⟩ t
    let o := layJ hp n c (k + 1) ss (all ++ [r]) (r.e + s.2.2)
    ((r, t) :: o.1, o.2.1, o.2.2)
theorem layJ_snoc {hp : Nat × Nat} {n c : Int} {s : Str × Int × Int} : ∀ {ss : List (Str × Int × Int)} {k : Nat} {all : List RowT} {t : Int},
    layJ hp n c k (ss ++ [s]) all t =
      ((layJ hp n c k ss all t).1 ++ [(putW hp (layJ hp n c k ss all t).2.1 ⟨n, ((k + ss.length : Nat) : Int) + 1, kindS s.1, s.2.1, s.2.2, c⟩ (layJ hp n c k ss all t).2.2, (layJ hp n c k ss all t).2.2)],
       (layJ hp n c k ss all t).2.1 ++ [putW hp (layJ hp n c k ss all t).2.1 ⟨n, ((k + ss.length : Nat) : Int) + 1, kindS s.1, s.2.1, s.2.2, c⟩ (layJ hp n c k ss all t).2.2],
       (putW hp (layJ hp n c k ss all t).2.1 ⟨n, ((k + ss.length : Nat) : Int) + 1, kindS s.1, s.2.1, s.2.2, c⟩ (layJ hp n c k ss all t).2.2).e + s.2.2)
  | [], k, all, t => rfl
  | x :: ss, k, all, t => by
    show (let r := putW hp all ⟨n, (k : Int) + 1, kindS x.1, x.2.1, x.2.2, c⟩ t; let o := layJ hp n c (k + 1) (ss ++ [s]) (all ++ [r]) (r.e + x.2.2); ((r, t) :: o.1, o.2.1, o.2.2)) = _
    dsimp only
    rw [layJ_snoc (ss := ss) (k := k + 1)]
    have e : k + (x :: ss).length = k + 1 + ss.length := by rw [List.length_cons]; omega
    rw [e]
    rfl
theorem layJ_apart {hp : Nat × Nat} {n c : Int} (h1 : 1 ≤ hp.1) (h2 : 1 ≤ hp.2) : ∀ {ss : List (Str × Int × Int)} {k : Nat} {all : List RowT} {t : Int}, (∀ s ∈ ss, 1 ≤ s.2.1) → ApartA all → ApartA (layJ hp n c k ss all t).2.1
  | [], _, _, _, _, ha => ha
  | s :: ss, k, all, t, hs, ha => layJ_apart h1 h2 (ss := ss) (k := k + 1) (fun x hx => hs x (List.mem_cons_of_mem _ hx)) (put_apart h1 h2 (hs s List.mem_cons_self) ha)
theorem layJ_len {hp : Nat × Nat} {n c : Int} : ∀ {ss : List (Str × Int × Int)} {k : Nat} {all : List RowT} {t : Int}, (layJ hp n c k ss all t).1.length = ss.length ∧ (layJ hp n c k ss all t).2.1 = all ++ (layJ hp n c k ss all t).1.map Prod.fst
  | [], _, all, _ => ⟨rfl, by show all = all ++ []; rw [List.append_nil]⟩
  | s :: ss, k, all, t => by
    have ih := layJ_len (hp := hp) (n := n) (c := c) (ss := ss) (k := k + 1) (all := all ++ [putW hp all ⟨n, (k : Int) + 1, kindS s.1, s.2.1, s.2.2, c⟩ t]) (t := (putW hp all ⟨n, (k : Int) + 1, kindS s.1, s.2.1, s.2.2, c⟩ t).e + s.2.2)
    refine ⟨congrArg (· + 1) ih.1, ?_⟩
    show (layJ hp n c (k + 1) ss _ _).2.1 = all ++ (_ :: _)
    rw [ih.2, List.append_assoc]
    rfl
abbrev keyT (s : Spot) : List Key := [Sum.inr s.1, Sum.inl s.2]
theorem keyT_inj {s z : Spot} (h : keyT s = keyT z) : s = z := by
  obtain ⟨a, b⟩ := s
  obtain ⟨c, d⟩ := z
  simp only [keyT, List.cons.injEq, Sum.inr.injEq, Sum.inl.injEq, and_true] at h
  rw [h.1, h.2]
theorem valV_map {f : Spot → V} : ∀ {ss : List Spot} {s : Spot}, s ∈ ss → valV (ss.map fun s => (keyT s, f s)) (keyT s) = some (f s)
  | x :: ss, s, h => by
    rw [List.map_cons]
    by_cases e : x = s
    · subst e
      exact valV_pos rfl
    · rw [valV_neg (show ¬ (keyT x = keyT s) from fun z => e (keyT_inj z))]
      rcases List.mem_cons.mp h with h | h
      · exact absurd h.symm e
      · exact valV_map h
theorem putK_new {f : Spot → V} {ss : List Spot} {s : Spot} {v : V} (h : s ∉ ss) : putK (ss.map fun s => (keyT s, f s)) (keyT s) v = (ss.map fun s => (keyT s, f s)) ++ [(keyT s, v)] := by
  unfold putK
  rw [if_neg]
  intro z
  obtain ⟨p, hp, e⟩ := List.any_eq_true.mp z
  obtain ⟨x, hx, rfl⟩ := List.mem_map.mp hp
  exact h (keyT_inj (of_decide_eq_true e) ▸ hx)
theorem putK_map {f : Spot → V} {ss : List Spot} {s : Spot} {v : V} (h : s ∈ ss) : putK (ss.map fun s => (keyT s, f s)) (keyT s) v = ss.map fun x => (keyT x, if x = s then v else f x) := by
  unfold putK
  rw [if_pos (List.any_eq_true.mpr ⟨(keyT s, f s), List.mem_map.mpr ⟨s, h, rfl⟩, decide_eq_true rfl⟩), List.map_map]
  refine List.map_congr_left fun x _ => ?_
  show (if keyT x = keyT s then (keyT x, v) else (keyT x, f x)) = (keyT x, if x = s then v else f x)
  by_cases e : x = s
  · rw [if_pos (by rw [e]), if_pos e]
  · rw [if_neg (fun z => e (keyT_inj z)), if_neg e]
end Bz
namespace Bz
open PySem PySem.Spec PyProof.Rows L2
theorem spotsOf_nd (c : Nat) (kd : Str) : (spotsOf c kd).Nodup := List.Pairwise.imp (fun {a b} h e => by rw [e] at h; omega) (spots_pair c kd)
theorem spotsOf_kd {c : Nat} {kd : Str} {s : Spot} (h : s ∈ spotsOf c kd) : s.1 = kd := (spots_mem.mp h).1
theorem spotsAB_nd (a b : Nat) : (spotsOf a "hand" ++ spotsOf b "press").Nodup :=
  List.nodup_append.mpr ⟨spotsOf_nd a _, spotsOf_nd b _, fun x hx y hy e => by
    have h1 := spotsOf_kd hx
    have h2 := spotsOf_kd hy
    rw [e, h2] at h1
    exact absurd h1 (by decide +kernel)⟩
theorem putI_new {nv : List (Key × V)} {n : Int} {v : V} (h : ∀ kv ∈ nv, kv.1 ≠ Sum.inl n) : putK nv (Sum.inl n) v = nv ++ [(Sum.inl n, v)] := by
  unfold putK
  rw [if_neg]
  intro z
  obtain ⟨p, hp, e⟩ := List.any_eq_true.mp z
  exact h p hp (of_decide_eq_true e)
end Bz
namespace Bz
open PySem PySem.Spec PyProof.Rows L2
theorem spotsOf_succ (i : Nat) (kd : Str) : spotsOf (i + 1) kd = spotsOf i kd ++ [(kd, (i : Int) + 1)] := by
  unfold spotsOf
  rw [List.range_succ, List.map_append]
  rfl
def wantS (n c : Int) : Nat → List (Str × Int × Int) → List WantT
  | _, [] => []
  | k, s :: ss => ⟨n, (k : Int) + 1, kindS s.1, s.2.1, s.2.2, c⟩ :: wantS n c (k + 1) ss
theorem wantS_snoc {n c : Int} {s : Str × Int × Int} : ∀ {ss : List (Str × Int × Int)} {k : Nat}, wantS n c k (ss ++ [s]) = wantS n c k ss ++ [⟨n, ((k + ss.length : Nat) : Int) + 1, kindS s.1, s.2.1, s.2.2, c⟩]
  | [], k => rfl
  | x :: ss, k => by
    show _ :: wantS n c (k + 1) (ss ++ [s]) = _ :: (wantS n c (k + 1) ss ++ _)
    rw [wantS_snoc (ss := ss) (k := k + 1)]
    have e : k + (x :: ss).length = k + 1 + ss.length := by rw [List.length_cons]; omega
    rw [e]
theorem wantS_len {n c : Int} : ∀ {ss : List (Str × Int × Int)} {k : Nat}, (wantS n c k ss).length = ss.length
  | [], _ => rfl
  | _ :: ss, k => congrArg (· + 1) (wantS_len (ss := ss) (k := k + 1))
def rdys : List RowT → List WantT → Int → List Int
  | r :: rs, w :: ws, e => (if w.k = 1 then w.c else e) :: rdys rs ws (r.e + w.rest)
  | _, _, _ => []
structure RW (hp : Nat × Nat) (r : RowT) (w : WantT) : Prop where
  n : r.n = w.n
  k : r.k = w.k
  s : r.s ∈ spotsOf (cntOf hp w.kd) w.kd
  e : r.e = r.b + w.h
theorem layJ_firm {hp : Nat × Nat} {n c : Int} (h1 : 1 ≤ hp.1) (h2 : 1 ≤ hp.2) : ∀ {ss : List (Str × Int × Int)} {k : Nat} {all : List RowT} {t : Int}, All2 (RW hp) ((layJ hp n c k ss all t).1.map Prod.fst) (wantS n c k ss)
  | [], _, _, _ => .nil
  | s :: ss, k, all, t => by
    refine .cons ?_ (layJ_firm h1 h2 (ss := ss) (k := k + 1))
    obtain ⟨z, hz, e, _⟩ := put_good (w := ⟨n, (k : Int) + 1, kindS s.1, s.2.1, s.2.2, c⟩) (all := all) (t := t) h1 h2
    show RW hp (putW hp all ⟨n, (k : Int) + 1, kindS s.1, s.2.1, s.2.2, c⟩ t) _
    rw [e]
    exact ⟨rfl, rfl, hz, rfl⟩
theorem layJ_ge {hp : Nat × Nat} {n c : Int} (h1 : 1 ≤ hp.1) (h2 : 1 ≤ hp.2) : ∀ {ss : List (Str × Int × Int)} {k : Nat} {all : List RowT} {t : Int}, ∀ p ∈ (layJ hp n c k ss all t).1, p.2 ≤ p.1.b
  | [], _, _, _, p, hp0 => by cases hp0
  | s :: ss, k, all, t, p, hp0 => by
    rcases List.mem_cons.mp (show p ∈ _ :: (layJ hp n c (k + 1) ss _ _).1 from hp0) with rfl | hp0
    · obtain ⟨z, hz, e, _⟩ := put_good (w := ⟨n, (k : Int) + 1, kindS s.1, s.2.1, s.2.2, c⟩) (all := all) (t := t) h1 h2
      show t ≤ (putW hp all ⟨n, (k : Int) + 1, kindS s.1, s.2.1, s.2.2, c⟩ t).b
      rw [e]
      exact free_ge _ _ _
    · exact layJ_ge h1 h2 (ss := ss) (k := k + 1) p hp0
theorem layJ_rdys {hp : Nat × Nat} {n c : Int} {R : List RowT} {W : List WantT} : ∀ {ss : List (Str × Int × Int)} {k : Nat} {all : List RowT} {t e : Int}, (k = 0 → t = c) → (k ≠ 0 → e = t) → (ss = [] → e = t) →
    rdys ((layJ hp n c k ss all t).1.map Prod.fst ++ R) (wantS n c k ss ++ W) e = (layJ hp n c k ss all t).1.map Prod.snd ++ rdys R W (layJ hp n c k ss all t).2.2
  | [], k, all, t, e, _, _, h3 => by rw [h3 rfl]; rfl
  | s :: ss, k, all, t, e, h1, h2, _ => by
    show (if (k : Int) + 1 = 1 then c else e) :: rdys ((layJ hp n c (k + 1) ss _ _).1.map Prod.fst ++ R) (wantS n c (k + 1) ss ++ W) _ = t :: ((layJ hp n c (k + 1) ss _ _).1.map Prod.snd ++ rdys R W (layJ hp n c (k + 1) ss _ _).2.2)
    rw [layJ_rdys (ss := ss) (k := k + 1) (by omega) (fun _ => rfl) (fun _ => rfl)]
    congr 1
    by_cases hk : k = 0
    · rw [if_pos (by omega), h1 hk]
    · rw [if_neg (by omega), h2 hk]
end Bz
namespace Bz
open PySem PySem.Spec PyProof.Rows L2
theorem hu65 {A : Around} {k : Nat} (h : Room k A) : A.units + 65 < cLine := by
  have := h.un
  omega
section
variable {K : PySem.W.Frag} {H : Hp} {Q : VK} {x y : V}
theorem g_inD {d : PyData} {ds : List PyData} (h1 : Dp K H x d) (h2 : Dp K H y (.list ds)) (s1 : SeqAt.shaped d = true) (s2 : SeqAt.shaped (.list ds) = true) (q : Q (.bl (ds.any fun z => PyData.eqv z d)) H) : rInD K x y H Q := ⟨d, ds, h1, h2, s1, s2, q⟩
theorem g_notInD {d : PyData} {ds : List PyData} (h1 : Dp K H x d) (h2 : Dp K H y (.list ds)) (s1 : SeqAt.shaped d = true) (s2 : SeqAt.shaped (.list ds) = true) (q : Q (.bl (!ds.any fun z => PyData.eqv z d)) H) : rNotInD K x y H Q := ⟨d, ds, h1, h2, s1, s2, q⟩
end
end Bz
namespace Bz
open PySem PySem.Spec PyProof.Rows L2
end Bz
namespace Bz
open PySem PySem.Spec PyProof.Rows L2
end Bz
namespace Bz
open PySem PySem.Spec PyProof.Rows L2
/-- of which further classes they are -/
structure ErrKit2 (K : PySem.W.Frag) : Prop where
  kv : KitOk K "BadValue" [] [("LookupError", false), ("IndexError", false), ("RuntimeError", false), ("ZeroDivisionError", false)]
  kt : KitOk K "BadText" [] [("LookupError", false), ("IndexError", false), ("RuntimeError", false), ("ZeroDivisionError", false)]
  kn : KitOk K "NoSuch" [] [("LookupError", true), ("IndexError", false), ("RuntimeError", false), ("ZeroDivisionError", false)]
  km : KitOk K "TooMany" [] [("LookupError", false), ("IndexError", false), ("RuntimeError", false), ("ZeroDivisionError", false)]
end Bz
namespace Bz
open PySem PySem.Spec PyProof.Rows L2
section
variable {X : Cx} {pins : List (Addr × Obj)} {σ : L2.St} {A : Around} {J : Hp → Prop} {as : List Addr} {kf : Nat → Int} {l q : Addr} {R : Result → Shared → Prop}
end
section
variable {X : Cx} {CX : CXT} {k k' : Nat} {sp : Sp} {f : Str} {gV : List V → List V → List V}
end
end Bz
namespace Bz
open PySem PySem.Spec PyProof.Rows L2
section
variable {X : Cx} {e a1 : Expr} {te : TE} {tk : TO} {pos p2 p3 : Pos} {op : UnaryOp}
theorem Vals.rev : ∀ {xs : List V} {us : List Value}, Vals xs us → Vals xs.reverse us.reverse
  | _, _, .nil => .nil
  | _, _, .cons r t => by
    rw [List.reverse_cons, List.reverse_cons]
    exact (Vals.rev t).append (.cons r .nil)
end
end Bz
namespace Bz
open PySem PySem.Spec PyProof.Rows L2
section
variable {K : PySem.W.Frag} {H : Hp} {Q : VK} {a : Addr} {ns : List Int} {d : V}
end
end Bz
namespace Bz
open PySem PySem.Spec PyProof.Rows L2
section
variable {X : Cx} {pins : List (Addr × Obj)} {σ : L2.St} {H : Hp} {s : Shared}
end
section
variable {X : Cx} {k k' : Nat} {q : Str} {params : Arguments} {body : Expr} {scope : Scope} {N : List Str} {tb : TE} {b : Str}
end
section
variable {X : Cx} {k : Nat} {params : Arguments} {body : Expr} {scope : Scope} {N : List Str} {tb te : TE} {b : Str} {c P : Addr} {e : Expr} {pos p kp lpos : Pos}
end
section
variable {K : PySem.W.Frag} {B H : Hp} {M L : List (Addr × HO)} {Q : VK} {P : Addr} {q : Str} {N : List Str} {ps : Array Value} {te tb : TE} {σ : L2.St} {x : V}
end
end Bz
namespace Bz
open PySem PySem.Spec PyProof.Rows L2
section
variable {B H : Hp} {M L : List (Addr × HO)} {Q : VK} {i j : Int}
end
end Bz
namespace Bz
open PySem PySem.Spec PyProof.Rows L2
instance memK (k : Key) (ks : List Key) : Decidable (k ∈ ks) := @List.instDecidableMemOfLawfulBEq Key instBEqOfDecidableEq inferInstance k ks
def kOf (e : Int × Value) : Key := match e.2 with
  | .int k _ => .inl k
  | .str x _ => .inr x
  | _ => .inl 0
def GoodM (P : Program) (w : World) (e : Int × Value) : Prop := ∃ k, RelV (kV k) e.2 ∧ e.1 = (mixKind P w).hash k
def SetM (P : Program) (w : World) (h : Heap) (a : Addr) (S : Key → Bool) (n : Nat) : Prop :=
  ∃ o es ep t, h.get? a = some o ∧ o.ExactSet ∧ o.data = .set es ep t ∧ (∀ e ∈ es.toList, GoodM P w e) ∧ (es.toList.map kOf).Nodup ∧ (∀ k, S k = true ↔ k ∈ es.toList.map kOf) ∧
    es.size < scanBound ∧ t.fits es.size = true ∧ es.size = n ∧ Ris t.place.toList ∧ (w.params.followText "set-order" = true ∨ t.led = true)
section
variable {P : Program} {w : World} {h h' : Heap} {a : Addr} {S : Key → Bool} {n : Nat}
theorem SetM.at (R : SetM P w h a S n) (k : ∀ o, h.get? a = some o → h'.get? a = some o) : SetM P w h' a S n := by
  obtain ⟨o, es, ep, t, ho, r⟩ := R
  exact ⟨o, es, ep, t, k o ho, r⟩
theorem SetM.congr {S' : Key → Bool} (R : SetM P w h a S n) (e : ∀ k, S' k = S k) : SetM P w h a S' n := by
  have q : S' = S := funext e
  rw [q]
  exact R
end
section
variable {P : Program} {w : World} {A : Around} {E : Value → Shared → Prop} {s : Shared} {a : Addr} {S : Key → Bool} {n : Nat}
end
end Bz
namespace Bz
open PySem PySem.Spec PyProof.Rows L2
section
variable {P : Program} {w : World} {A : Around} {E : Value → Shared → Prop} {s : Shared} {a : Addr} {β : Type}
end
end Bz
namespace Bz
open PySem PySem.Spec PyProof.Rows L2
section
variable {X : Cx} {k : Nat} {e : Expr} {te : TE} {p p2 pos pos2 : Pos}
theorem SetM.lt {P : Program} {w : World} {h : Heap} {a : Addr} {S : Key → Bool} {n : Nat} (R : SetM P w h a S n) : a < h.objs.size := by
  obtain ⟨o, es, ep, t, ho, _⟩ := R
  exact Heap.lt_size ho
end
section
variable {K : PySem.W.Frag} {B H : Hp} {M L : List (Addr × HO)} {Q : VK} {te : TE} {σ : L2.St} {a : Addr}
end
end Bz
namespace Bz
open PySem PySem.Spec PyProof.Rows L2
/-- what is walked: the iterator at I stands at i -/
structure NextS (X : Cx) (xs : List V) (Sq : Hp → Prop) (I : Addr) (It : Heap → Nat → Prop) : Prop where
  item : ∀ {A : Around} {E : Value → Shared → Prop} {Q : Option Value → Shared → Prop} {pins : List (Addr × Obj)} {σ : L2.St} {H : Hp} {s : Shared} {i : Nat} {x : V}, Inv X pins σ H s → Sq H → It s.heap i → xs[i]? = some x →
    (∀ v h', RelV x v → It h' (i + 1) → Heap.SameBut I s.heap h' → Q (some v) { s with heap := h' }) → wpAny (model X.prog X.w) A (pyNext (.ref I)) Q E s
  done : ∀ {A : Around} {E : Value → Shared → Prop} {Q : Option Value → Shared → Prop} {pins : List (Addr × Obj)} {σ : L2.St} {H : Hp} {s : Shared}, A.handled = none → Inv X pins σ H s → Sq H → It s.heap xs.length →
    (∀ h', Heap.ExtBut I s.heap h' → Q none { s with heap := h' }) → wpAny (model X.prog X.w) A (pyNext (.ref I)) Q E s
  keep : ∀ {h h' : Heap} {i : Nat}, It h i → (∀ o, h.get? I = some o → h'.get? I = some o) → It h' i
  obj : ∀ {h : Heap} {i : Nat}, It h i → ∃ o, h.get? I = some o ∧ ∀ v, o.data ≠ .cell v
section
variable {X : Cx} {pins : List (Addr × Obj)} {σ : L2.St} {A : Around} {J : Nat → Hp → Prop} {xs : List V} {kz : List PyData} {Sq : Hp → Prop} {I S f : Addr} {It : Heap → Nat → Prop} {R : Result → Shared → Prop}
end
end Bz
namespace Bz
open PySem PySem.Spec PyProof.Rows L2
section
variable {X : Cx} {pins : List (Addr × Obj)} {σ : L2.St} {J : Nat → Hp → Prop} {xs : List V} {kz : List PyData} {Sq : Hp → Prop} {f a : Addr} {It : Heap → Nat → Prop}
end
section
variable {X : Cx} {CX : CXT} {k k' : Nat} {sp : Sp} {f : Str} {gV : List V → List V → List V}
end
end Bz
namespace Bz
open PySem PySem.Spec PyProof.Rows L2
section
variable {K : PySem.W.Frag} {B H : Hp} {M L L' : List (Addr × HO)} {Q : VK} {a : Addr} {σ : L2.St}
end
section
variable {K : PySem.W.Frag} {B H : Hp} {M L : List (Addr × HO)} {Q : VK}
end
end Bz
namespace Bz
open PySem PySem.Spec PyProof.Rows L2
section
variable {β : Type} (le : β → β → Bool)
variable {le}
end
section
variable {β : Type} {key : β → PyData}
theorem dle_tr (a b c : β) : PySem.W.dataLe false key a b = true → PySem.W.dataLe false key b c = true → PySem.W.dataLe false key a c = true := fun h1 h2 => (PySem.W.sortLe_total _ _ _).trans _ _ _ h1 h2
theorem dle_to (a b : β) : (PySem.W.dataLe false key a b || PySem.W.dataLe false key b a) = true := by
  have t : PySem.W.TotalLe (PySem.W.dataLe false key) := PySem.W.sortLe_total _ _ _
  rcases t.total a b with h | h
  · rw [show PySem.W.dataLe false key a b = true from h, Bool.true_or]
  · rw [show PySem.W.dataLe false key b a = true from h, Bool.or_true]
end
end Bz
namespace Bz
open PySem PySem.Spec PyProof.Rows L2
section
variable {X : Cx} {k : Nat}
end
section
variable {K : PySem.W.Frag} {H : Hp} {Q : VK}
end
end Bz
namespace Bz
open PySem PySem.Spec PyProof.Rows L2
def rEqNil (K : PySem.W.Frag) : R2 := fun x y H Q => ∃ (a b : Addr) (xs : List V), x = .ref a ∧ y = .ref b ∧ SqL K H a xs ∧ SqL K H b [] ∧ Q (.bl xs.isEmpty) H
def rNeNil (K : PySem.W.Frag) : R2 := fun x y H Q => ∃ (a b : Addr) (xs : List V), x = .ref a ∧ y = .ref b ∧ SqL K H a xs ∧ SqL K H b [] ∧ Q (.bl (!xs.isEmpty)) H
theorem op_eqNil {X : Cx} {k : Nat} (hr : Room k X.A) : OpR X (compareOp .Eq) (rEqNil X.K) := by
  intro pins s σ H x y v u Q I rx ry h
  obtain ⟨a, b, xs, rfl, rfl, ha, hb, q⟩ := h
  cases rx
  cases ry
  obtain ⟨ia, ra, ta, _⟩ := I.list ha
  obtain ⟨ib, rb, tb, _⟩ := I.list hb
  have hu := hr.units
  have lb : ib.length = 0 := rb.length.symm
  have la : ia.length = xs.length := ra.length.symm
  cases xs with
  | nil =>
    refine SeqAt.eq_listAt (e := fun _ => true) ta.isList tb.isList (by simp only [List.size_toArray]; rw [la, lb]; rfl) (by omega) (fun j h1 h2 => absurd h2 (by simp only [List.size_toArray]; omega)) ?_
    refine ⟨.bl true, H, I, ?_, q⟩
    rw [show (List.range ia.toArray.size).all (fun _ => true) = true from List.all_eq_true.mpr fun _ _ => rfl]
    rfl
  | cons x xs =>
    refine SeqAt.eq_list_lengthsAt ta.isList tb.isList (by simp only [List.size_toArray]; rw [la, lb]; rfl) (by omega) ?_
    exact ⟨.bl false, H, I, rfl, q⟩
theorem op_neNil {X : Cx} {k : Nat} (hr : Room k X.A) : OpR X (compareOp .NotEq) (rNeNil X.K) := by
  intro pins s σ H x y v u Q I rx ry h
  obtain ⟨a, b, xs, rfl, rfl, ha, hb, q⟩ := h
  cases rx
  cases ry
  obtain ⟨ia, ra, ta, _⟩ := I.list ha
  obtain ⟨ib, rb, tb, _⟩ := I.list hb
  have hu := hr.units
  have lb : ib.length = 0 := rb.length.symm
  have la : ia.length = xs.length := ra.length.symm
  cases xs with
  | nil =>
    refine SeqAt.RcNeAt.lists (e := fun _ => true) ta.isList tb.isList (by simp only [List.size_toArray]; rw [la, lb]; rfl) (by omega) (fun j h1 h2 => absurd h2 (by simp only [List.size_toArray]; omega)) X.prog X.w _ _ ?_
    refine ⟨.bl false, H, I, ?_, q⟩
    rw [show (List.range ia.toArray.size).all (fun _ => true) = true from List.all_eq_true.mpr fun _ _ => rfl]
    rfl
  | cons x xs =>
    refine SeqAt.RcNeAt.lists_lengths ta.isList tb.isList (by simp only [List.size_toArray]; rw [la, lb]; rfl) (by omega) X.prog X.w _ _ ?_
    exact ⟨.bl true, H, I, rfl, q⟩
section
variable {K : PySem.W.Frag} {H : Hp} {Q : VK} {a b : Addr} {xs : List V}
theorem g_eqNil (h1 : SqL K H a xs) (h2 : SqL K H b []) (q : Q (.bl xs.isEmpty) H) : rEqNil K (.ref a) (.ref b) H Q := ⟨a, b, xs, rfl, rfl, h1, h2, q⟩
theorem g_neNil (h1 : SqL K H a xs) (h2 : SqL K H b []) (q : Q (.bl (!xs.isEmpty)) H) : rNeNil K (.ref a) (.ref b) H Q := ⟨a, b, xs, rfl, rfl, h1, h2, q⟩
end
end Bz
namespace Bz
open PySem PySem.Spec PyProof.Rows L2
abbrev rOr (r r' : R2) : R2 := fun x y H Q => r x y H Q ∨ r' x y H Q
def rEqDc : R2 := fun x y H Q => ∃ a b kvs, x = .ref a ∧ y = .ref b ∧ H a = some (.dK kvs) ∧ H b = some (.dK kvs) ∧ (kvs.map (·.1)).Nodup ∧ (∀ p ∈ kvs, flatB p.2 = true) ∧ Q (.bl true) H
theorem op_eqDc {X : Cx} {k : Nat} (hr : Room k X.A) : OpR X (compareOp .Eq) rEqDc := op_eq_dict (by have := hr.units; omega)
section
variable {K : PySem.W.Frag} {H : Hp} {Q : VK} {x y : V} {r r' : R2}
theorem g_orL (h : r x y H Q) : rOr r r' x y H Q := .inl h
theorem g_orR (h : r' x y H Q) : rOr r r' x y H Q := .inr h
theorem g_eqDc {a b : Addr} {kvs : List (Key × V)} (h1 : H a = some (.dK kvs)) (h2 : H b = some (.dK kvs)) (nd : (kvs.map (·.1)).Nodup) (fl : ∀ p ∈ kvs, flatB p.2 = true) (q : Q (.bl true) H) : rEqDc (.ref a) (.ref b) H Q := ⟨a, b, kvs, rfl, rfl, h1, h2, nd, fl, q⟩
end
end Bz
namespace Bz
open PySem PySem.Spec PyProof.Rows L2
inductive Chn : Int → Nat → List (RowT × Int) → List (Str × Int × Int) → Int → Prop
  | nil {t : Int} {k : Nat} : Chn t k [] [] t
  | cons {t d : Int} {k : Nat} {r : RowT} {s : Str × Int × Int} {f : List (RowT × Int)} {ss : List (Str × Int × Int)} : t ≤ r.b → r.b < r.e → r.k = (k : Int) + 1 → 0 ≤ s.2.2 → Chn (r.e + s.2.2) (k + 1) f ss d → Chn t k ((r, t) :: f) (s :: ss) d
theorem layJ_chn {hp : Nat × Nat} {n c : Int} (h1 : 1 ≤ hp.1) (h2 : 1 ≤ hp.2) : ∀ {ss : List (Str × Int × Int)} {k : Nat} {all : List RowT} {t : Int}, (∀ s ∈ ss, 1 ≤ s.2.1 ∧ 0 ≤ s.2.2) → Chn t k (layJ hp n c k ss all t).1 ss (layJ hp n c k ss all t).2.2
  | [], _, _, _, _ => .nil
  | s :: ss, k, all, t, hs => by
    obtain ⟨z, hz, e, _⟩ := put_good (w := ⟨n, (k : Int) + 1, kindS s.1, s.2.1, s.2.2, c⟩) (all := all) (t := t) h1 h2
    have h3 := free_ge (atPl all z) s.2.1 t
    have h4 := hs s List.mem_cons_self
    have hb : (putW hp all ⟨n, (k : Int) + 1, kindS s.1, s.2.1, s.2.2, c⟩ t).b = freeFrom (atPl all z) s.2.1 t := by rw [e]
    have he : (putW hp all ⟨n, (k : Int) + 1, kindS s.1, s.2.1, s.2.2, c⟩ t).e = freeFrom (atPl all z) s.2.1 t + s.2.1 := by rw [e]
    have hk : (putW hp all ⟨n, (k : Int) + 1, kindS s.1, s.2.1, s.2.2, c⟩ t).k = (k : Int) + 1 := by rw [e]
    exact .cons (by omega) (by omega) hk h4.2 (layJ_chn h1 h2 (ss := ss) (k := k + 1) fun x hx => hs x (List.mem_cons_of_mem _ hx))
theorem Chn.le {t d : Int} {k : Nat} {f : List (RowT × Int)} {ss : List (Str × Int × Int)} (h : Chn t k f ss d) : t ≤ d := by
  induction h with
  | nil => exact Int.le_refl _
  | cons h1 h2 h3 h4 _ ih => omega
theorem Chn.len {t d : Int} {k : Nat} {f : List (RowT × Int)} {ss : List (Str × Int × Int)} (h : Chn t k f ss d) : f.length = ss.length := by
  induction h with
  | nil => rfl
  | cons _ _ _ _ _ ih => exact congrArg (· + 1) ih
abbrev WhT : Type := Str × Int
def stL : List RowT → List (Str × Int × Int) → Int → Int → Option WhT × Int
  | r :: own, s :: ss, _, h => if r.b ≤ h ∧ h < r.e + s.2.2 then (some (if h < r.e then ("at", r.k) else ("rests", r.k)), r.e + s.2.2) else stL own ss (r.e + s.2.2) h
  | _, _, over, _ => (none, over)
theorem Chn.early {t d h : Int} {k : Nat} {f : List (RowT × Int)} {ss : List (Str × Int × Int)} (c : Chn t k f ss d) (hh : h < t) : stL (f.map Prod.fst) ss t h = (none, d) := by
  induction c with
  | nil => rfl
  | @cons t d k r s f ss h1 h2 h3 h4 c ih =>
    show (if r.b ≤ h ∧ h < r.e + s.2.2 then _ else stL (f.map Prod.fst) ss (r.e + s.2.2) h) = _
    rw [if_neg (by omega)]
    exact ih (by omega)
theorem atPl_perm (s : Spot) : ∀ {all : List RowT}, (atPl all s).Perm (all.filter fun r => decide (r.s = s)) := by
  intro all
  generalize hn : all.length = n
  induction n generalizing all with
  | zero =>
    rw [List.length_eq_zero_iff.mp hn]
    exact List.Perm.refl _
  | succ n ih =>
    obtain ⟨ys, y, rfl⟩ : ∃ ys y, all = ys ++ [y] := ⟨all.dropLast, all.getLast (by intro h; rw [h] at hn; cases hn), (List.dropLast_concat_getLast _).symm⟩
    rw [atPl_snoc, List.filter_append]
    have h2 := ih (all := ys) (by simpa using hn)
    split
    · rename_i c
      rw [List.filter_cons, if_pos (decide_eq_true c)]
      exact (insB_perm y _).trans (h2.append_right _)
    · rename_i c
      rw [List.filter_cons, if_neg (fun z => c (of_decide_eq_true z))]
      rw [List.filter_nil, List.append_nil]
      exact h2
theorem layJ_top {hp : Nat × Nat} {n c : Int} (h1 : 1 ≤ hp.1) (h2 : 1 ≤ hp.2) : ∀ {ss : List (Str × Int × Int)} {k : Nat} {all : List RowT} {t T : Int}, (∀ s ∈ ss, s.2.1 ≤ 240 ∧ 0 ≤ s.2.1 ∧ 0 ≤ s.2.2 ∧ s.2.2 ≤ 240) → t ≤ T → (∀ r ∈ all, r.e ≤ T) →
    (∀ r ∈ (layJ hp n c k ss all t).2.1, r.e ≤ T + 480 * (ss.length : Int)) ∧ (layJ hp n c k ss all t).2.2 ≤ T + 480 * (ss.length : Int)
  | [], _, all, t, T, _, ht, ha => ⟨fun r hr => by have := ha r hr; show r.e ≤ T + 480 * ((0 : Nat) : Int); omega, by show t ≤ T + 480 * ((0 : Nat) : Int); omega⟩
  | s :: ss, k, all, t, T, hs, ht, ha => by
    obtain ⟨z, hz, e, _⟩ := put_good (w := ⟨n, (k : Int) + 1, kindS s.1, s.2.1, s.2.2, c⟩) (all := all) (t := t) h1 h2
    have h4 := hs s List.mem_cons_self
    have he : (putW hp all ⟨n, (k : Int) + 1, kindS s.1, s.2.1, s.2.2, c⟩ t).e = freeFrom (atPl all z) s.2.1 t + s.2.1 := by rw [e]
    have hf : freeFrom (atPl all z) s.2.1 t ≤ T := by
      rcases free_from (atPl all z) s.2.1 t with h | ⟨x, hx, h⟩
      · rw [h]
        exact ht
      · rw [h]
        exact ha x (atPl_mem.mp hx).1
    have ih := layJ_top h1 h2 (n := n) (c := c) (ss := ss) (k := k + 1) (all := all ++ [putW hp all ⟨n, (k : Int) + 1, kindS s.1, s.2.1, s.2.2, c⟩ t]) (t := (putW hp all ⟨n, (k : Int) + 1, kindS s.1, s.2.1, s.2.2, c⟩ t).e + s.2.2) (T := T + 480) (fun x hx => hs x (List.mem_cons_of_mem _ hx)) (by omega) (fun r hr => by
      rcases List.mem_append.mp hr with hr | hr
      · have := ha r hr
        omega
      · rw [List.mem_singleton.mp hr]
        omega)
    have e9 : T + 480 * ((s :: ss).length : Int) = T + 480 + 480 * (ss.length : Int) := by
      rw [List.length_cons]
      omega
    rw [e9]
    exact ih
end Bz
namespace Bz
open PySem PySem.Spec PyProof.Rows L2
def topS (i : Nat) : Stmt := PySem.Challenge.pw_bindbench_k27_whole_a_last_job_begins_wh.main.body.getD i (.Pass ⟨0, 0, 0, 0⟩)
def dd_BadValue_init : He.DefD := ⟨("BadValue", some "__init__"), "__init__", "BadValue.__init__", defArgs (inClass (topS 2) 0), defBody (inClass (topS 2) 0), defScope (inClass (topS 2) 0), [], []⟩
def dd_NoSuch_init : He.DefD := ⟨("NoSuch", some "__init__"), "__init__", "NoSuch.__init__", defArgs (inClass (topS 4) 0), defBody (inClass (topS 4) 0), defScope (inClass (topS 4) 0), [], []⟩
def dd_is_whole : He.DefD := ⟨("is_whole", none), "is_whole", "is_whole", defArgs (topS 15), defBody (topS 15), defScope (topS 15), [.int 1000000], []⟩
def dd_is_name : He.DefD := ⟨("is_name", none), "is_name", "is_name", defArgs (topS 16), defBody (topS 16), defScope (topS 16), [], []⟩
def dd_kind_of : He.DefD := ⟨("kind_of", none), "kind_of", "kind_of", defArgs (topS 17), defBody (topS 17), defScope (topS 17), [], []⟩
def dd_is_step : He.DefD := ⟨("is_step", none), "is_step", "is_step", defArgs (topS 18), defBody (topS 18), defScope (topS 18), [], []⟩
def dd_are_steps : He.DefD := ⟨("are_steps", none), "are_steps", "are_steps", defArgs (topS 21), defBody (topS 21), defScope (topS 21), [], []⟩
def dd_Style_init : He.DefD := ⟨("Style", some "__init__"), "__init__", "Style.__init__", defArgs (inClass (topS 22) 0), defBody (inClass (topS 22) 0), defScope (inClass (topS 22) 0), [], []⟩
def dd_Style_steps : He.DefD := ⟨("Style", some "steps"), "steps", "Style.steps", defArgs (inClass (topS 22) 2), defBody (inClass (topS 22) 2), defScope (inClass (topS 22) 2), [], []⟩
def dd_Style_span : He.DefD := ⟨("Style", some "span"), "span", "Style.span", defArgs (inClass (topS 22) 4), defBody (inClass (topS 22) 4), defScope (inClass (topS 22) 4), [], []⟩
def dd_Job_init : He.DefD := ⟨("Job", some "__init__"), "__init__", "Job.__init__", defArgs (inClass (topS 23) 0), defBody (inClass (topS 23) 0), defScope (inClass (topS 23) 0), [.int 0, .non, .bl false], []⟩
def dd_Job_numbered : He.DefD := ⟨("Job", some "numbered"), "numbered", "Job.numbered", defArgs (inClass (topS 23) 1), defBody (inClass (topS 23) 1), defScope (inClass (topS 23) 1), [], []⟩
def dd_Job_of_style : He.DefD := ⟨("Job", some "of_style"), "of_style", "Job.of_style", defArgs (inClass (topS 23) 2), defBody (inClass (topS 23) 2), defScope (inClass (topS 23) 2), [], []⟩
def dd_Job_brought_at : He.DefD := ⟨("Job", some "brought_at"), "brought_at", "Job.brought_at", defArgs (inClass (topS 23) 3), defBody (inClass (topS 23) 3), defScope (inClass (topS 23) 3), [], []⟩
def dd_Job_rank : He.DefD := ⟨("Job", some "rank"), "rank", "Job.rank", defArgs (inClass (topS 23) 6), defBody (inClass (topS 23) 6), defScope (inClass (topS 23) 6), [], []⟩
def dd_rank_of : He.DefD := ⟨("rank_of", none), "rank_of", "rank_of", defArgs (topS 24), defBody (topS 24), defScope (topS 24), [], []⟩
def dd_by_rank : He.DefD := ⟨("by_rank", none), "by_rank", "by_rank", defArgs (topS 25), defBody (topS 25), defScope (topS 25), [], []⟩
def dd_Bench_init : He.DefD := ⟨("Bench", some "__init__"), "__init__", "Bench.__init__", defArgs (inClass (topS 29) 0), defBody (inClass (topS 29) 0), defScope (inClass (topS 29) 0), [.int 1, .int 1], []⟩
def dd_Bench_places_of : He.DefD := ⟨("Bench", some "places_of"), "places_of", "Bench.places_of", defArgs (inClass (topS 29) 2), defBody (inClass (topS 29) 2), defScope (inClass (topS 29) 2), [], []⟩
def dd_Bench_places : He.DefD := ⟨("Bench", some "places"), "places", "Bench.places", defArgs (inClass (topS 29) 3), defBody (inClass (topS 29) 3), defScope (inClass (topS 29) 3), [], []⟩
def dd_Bench_eq : He.DefD := ⟨("Bench", some "__eq__"), "__eq__", "Bench.__eq__", defArgs (inClass (topS 29) 4), defBody (inClass (topS 29) 4), defScope (inClass (topS 29) 4), [], []⟩
def dd_free_from : He.DefD := ⟨("free_from", none), "free_from", "free_from", defArgs (topS 30), defBody (topS 30), defScope (topS 30), [], []⟩
def dd_are_jobs : He.DefD := ⟨("are_jobs", none), "are_jobs", "are_jobs", defArgs (topS 31), defBody (topS 31), defScope (topS 31), [], []⟩
def dd_begin_of : He.DefD := ⟨("begin_of", none), "begin_of", "begin_of", defArgs (topS 32), defBody (topS 32), defScope (topS 32), [], []⟩
def dd_Plan_init : He.DefD := ⟨("Plan", some "__init__"), "__init__", "Plan.__init__", defArgs (inClass (topS 33) 0), defBody (inClass (topS 33) 0), defScope (inClass (topS 33) 0), [.non], []⟩
def dd_Plan_take_in : He.DefD := ⟨("Plan", some "take_in"), "take_in", "Plan.take_in", defArgs (inClass (topS 33) 1), defBody (inClass (topS 33) 1), defScope (inClass (topS 33) 1), [], []⟩
def dd_Plan_job_of : He.DefD := ⟨("Plan", some "job_of"), "job_of", "Plan.job_of", defArgs (inClass (topS 33) 2), defBody (inClass (topS 33) 2), defScope (inClass (topS 33) 2), [], []⟩
def dd_Plan_rows : He.DefD := ⟨("Plan", some "rows"), "rows", "Plan.rows", defArgs (inClass (topS 33) 5), defBody (inClass (topS 33) 5), defScope (inClass (topS 33) 5), [.non], []⟩
def dd_Plan_rows_at : He.DefD := ⟨("Plan", some "rows_at"), "rows_at", "Plan.rows_at", defArgs (inClass (topS 33) 14), defBody (inClass (topS 33) 14), defScope (inClass (topS 33) 14), [], []⟩
def dd_Plan_next_free : He.DefD := ⟨("Plan", some "next_free"), "next_free", "Plan.next_free", defArgs (inClass (topS 33) 15), defBody (inClass (topS 33) 15), defScope (inClass (topS 33) 15), [.int 1, .int 0], []⟩
def dd_Plan_busy : He.DefD := ⟨("Plan", some "busy"), "busy", "Plan.busy", defArgs (inClass (topS 33) 16), defBody (inClass (topS 33) 16), defScope (inClass (topS 33) 16), [], []⟩
def dd_Plan_with_job : He.DefD := ⟨("Plan", some "with_job"), "with_job", "Plan.with_job", defArgs (inClass (topS 33) 18), defBody (inClass (topS 33) 18), defScope (inClass (topS 33) 18), [], []⟩
def dd_Plan_eq : He.DefD := ⟨("Plan", some "__eq__"), "__eq__", "Plan.__eq__", defArgs (inClass (topS 33) 21), defBody (inClass (topS 33) 21), defScope (inClass (topS 33) 21), [], []⟩
def dd_law_mixed : He.DefD := ⟨("_law_mixed", none), "_law_mixed", "_law_mixed", defArgs (topS 36), defBody (topS 36), defScope (topS 36), [], []⟩
def dd_law_folded : He.DefD := ⟨("_law_folded", none), "_law_folded", "_law_folded", defArgs (topS 37), defBody (topS 37), defScope (topS 37), [], []⟩
def dd_law_draw : He.DefD := ⟨("_law_draw", none), "_law_draw", "_law_draw", defArgs (topS 38), defBody (topS 38), defScope (topS 38), [], []⟩
def dd_law_begun : He.DefD := ⟨("_law_begun", none), "_law_begun", "_law_begun", defArgs (topS 39), defBody (topS 39), defScope (topS 39), [], []⟩
def dd_law_called : He.DefD := ⟨("_law_called", none), "_law_called", "_law_called", defArgs (topS 40), defBody (topS 40), defScope (topS 40), [], []⟩
def dd_law_step : He.DefD := ⟨("_law_step", none), "_law_step", "_law_step", defArgs (topS 41), defBody (topS 41), defScope (topS 41), [], []⟩
def dd_law_steps : He.DefD := ⟨("_law_steps", none), "_law_steps", "_law_steps", defArgs (topS 42), defBody (topS 42), defScope (topS 42), [], []⟩
def dd_law_styles : He.DefD := ⟨("_law_styles", none), "_law_styles", "_law_styles", defArgs (topS 43), defBody (topS 43), defScope (topS 43), [], []⟩
def dd_law_numbers : He.DefD := ⟨("_law_numbers", none), "_law_numbers", "_law_numbers", defArgs (topS 44), defBody (topS 44), defScope (topS 44), [], []⟩
def dd_law_plain_job : He.DefD := ⟨("_law_plain_job", none), "_law_plain_job", "_law_plain_job", defArgs (topS 45), defBody (topS 45), defScope (topS 45), [], []⟩
def dd_law_plain_jobs : He.DefD := ⟨("_law_plain_jobs", none), "_law_plain_jobs", "_law_plain_jobs", defArgs (topS 46), defBody (topS 46), defScope (topS 46), [], []⟩
def dd_law_style : He.DefD := ⟨("_law_style", none), "_law_style", "_law_style", defArgs (topS 47), defBody (topS 47), defScope (topS 47), [], []⟩
def dd_law_job : He.DefD := ⟨("_law_job", none), "_law_job", "_law_job", defArgs (topS 48), defBody (topS 48), defScope (topS 48), [], []⟩
def dd_law_plain_bench : He.DefD := ⟨("_law_plain_bench", none), "_law_plain_bench", "_law_plain_bench", defArgs (topS 49), defBody (topS 49), defScope (topS 49), [], []⟩
def dd_law_plan : He.DefD := ⟨("_law_plan", none), "_law_plan", "_law_plan", defArgs (topS 50), defBody (topS 50), defScope (topS 50), [], []⟩
def dd_law_class : He.DefD := ⟨("_law_class", none), "_law_class", "_law_class", defArgs (topS 51), defBody (topS 51), defScope (topS 51), [], []⟩
def dd_law_told : He.DefD := ⟨("_law_told", none), "_law_told", "_law_told", defArgs (topS 52), defBody (topS 52), defScope (topS 52), [], []⟩
def dd_law_rank : He.DefD := ⟨("_law_rank", none), "_law_rank", "_law_rank", defArgs (topS 53), defBody (topS 53), defScope (topS 53), [], []⟩
def dd_law_spots : He.DefD := ⟨("_law_spots", none), "_law_spots", "_law_spots", defArgs (topS 54), defBody (topS 54), defScope (topS 54), [], []⟩
def dd_law_case : He.DefD := ⟨("_law_case", none), "_law_case", "_law_case", defArgs (topS 55), defBody (topS 55), defScope (topS 55), [], []⟩
def dd_law_wanted : He.DefD := ⟨("_law_wanted", none), "_law_wanted", "_law_wanted", defArgs (topS 56), defBody (topS 56), defScope (topS 56), [], []⟩
def dd_law_readies : He.DefD := ⟨("_law_readies", none), "_law_readies", "_law_readies", defArgs (topS 57), defBody (topS 57), defScope (topS 57), [], []⟩
def dd_law_is_row : He.DefD := ⟨("_law_is_row", none), "_law_is_row", "_law_is_row", defArgs (topS 58), defBody (topS 58), defScope (topS 58), [], []⟩
def dd_law_firm : He.DefD := ⟨("_law_firm", none), "_law_firm", "_law_firm", defArgs (topS 59), defBody (topS 59), defScope (topS 59), [], []⟩
def dd_law_no : He.DefD := ⟨("_law_no", none), "_law_no", "_law_no", defArgs (topS 60), defBody (topS 60), defScope (topS 60), [], []⟩
def dd_law_far : He.DefD := ⟨("_law_far", none), "_law_far", "_law_far", defArgs (topS 61), defBody (topS 61), defScope (topS 61), [], []⟩
def dd_law_odd : He.DefD := ⟨("_law_odd", none), "_law_odd", "_law_odd", defArgs (topS 62), defBody (topS 62), defScope (topS 62), [], []⟩
def dd_law_whole : He.DefD := ⟨("_law_whole", none), "_law_whole", "_law_whole", defArgs (topS 63), defBody (topS 63), defScope (topS 63), [], []⟩
def dd_law_is_free : He.DefD := ⟨("_law_is_free", none), "_law_is_free", "_law_is_free", defArgs (topS 64), defBody (topS 64), defScope (topS 64), [], []⟩
def dd_law_least : He.DefD := ⟨("_law_least", none), "_law_least", "_law_least", defArgs (topS 65), defBody (topS 65), defScope (topS 65), [], []⟩
def dd_law_wish : He.DefD := ⟨("_law_wish", none), "_law_wish", "_law_wish", defArgs (topS 66), defBody (topS 66), defScope (topS 66), [], []⟩
def dd_law_free_right : He.DefD := ⟨("_law_free_right", none), "_law_free_right", "_law_free_right", defArgs (topS 67), defBody (topS 67), defScope (topS 67), [], []⟩
def dd_law_last_right : He.DefD := ⟨("_law_last_right", none), "_law_last_right", "_law_last_right", defArgs (topS 68), defBody (topS 68), defScope (topS 68), [], []⟩
def dd_law_is_spot : He.DefD := ⟨("_law_is_spot", none), "_law_is_spot", "_law_is_spot", defArgs (topS 69), defBody (topS 69), defScope (topS 69), [], []⟩
def dd_law_refused : He.DefD := ⟨("_law_refused", none), "_law_refused", "_law_refused", defArgs (topS 70), defBody (topS 70), defScope (topS 70), [], []⟩
def dd_law_most_right : He.DefD := ⟨("_law_most_right", none), "_law_most_right", "_law_most_right", defArgs (topS 71), defBody (topS 71), defScope (topS 71), [], []⟩
def dd_law : He.DefD := ⟨("law", none), "law", "law", defArgs (topS 72), defBody (topS 72), defScope (topS 72), [], []⟩
def fnL : List He.DefD := [dd_BadValue_init, dd_NoSuch_init, dd_is_whole, dd_is_name, dd_kind_of, dd_is_step, dd_are_steps, dd_Style_init, dd_Style_steps, dd_Style_span, dd_Job_init, dd_Job_numbered, dd_Job_of_style, dd_Job_brought_at, dd_Job_rank, dd_rank_of, dd_by_rank, dd_Bench_init, dd_Bench_places_of, dd_Bench_places, dd_Bench_eq, dd_free_from, dd_are_jobs, dd_begin_of, dd_Plan_init, dd_Plan_take_in, dd_Plan_job_of, dd_Plan_rows, dd_Plan_rows_at, dd_Plan_next_free, dd_Plan_busy, dd_Plan_with_job, dd_Plan_eq, dd_law_mixed, dd_law_folded, dd_law_draw, dd_law_begun, dd_law_called, dd_law_step, dd_law_steps, dd_law_styles, dd_law_numbers, dd_law_plain_job, dd_law_plain_jobs, dd_law_style, dd_law_job, dd_law_plain_bench, dd_law_plan, dd_law_class, dd_law_told, dd_law_rank, dd_law_spots, dd_law_case, dd_law_wanted, dd_law_readies, dd_law_is_row, dd_law_firm, dd_law_no, dd_law_far, dd_law_odd, dd_law_whole, dd_law_is_free, dd_law_least, dd_law_wish, dd_law_free_right, dd_law_last_right, dd_law_is_spot, dd_law_refused, dd_law_most_right, dd_law]
def faL : List He.Fa := [.int "MOST_LETTERS" 8, .int "MOST_NUMBER" 99999, .int "MOST_HOUR" 1000000, .int "MOST_HOURS" 240, .int "MOST_STEPS" 12, .int "MOST_PLACES" 9, .int "MOST_JOBS" 40, .str "LETTERS" "abcdefghijklmnopqrstuvwxyz", .glo "BARRED_WORDS", .glo "KINDS", .free "KeyError", .free "OverflowError", .free "ValueError", .free "all", .free "bool", .free "enumerate", .free "int", .free "isinstance", .free "len", .free "list", .free "max", .free "min", .free "range", .free "set", .free "sorted", .free "str", .free "sum", .free "tuple", .free "zip", .glo "Style", .cls "Style", .mkr "Style", .noat "Style" "called", .noat "Style" "step_rows", .glo "Job", .cls "Job", .mkr "Job", .noat "Job" "came", .noat "Job" "has_number", .noat "Job" "has_style", .noat "Job" "hasty", .noat "Job" "wanted", .glo "Bench", .cls "Bench", .mkr "Bench", .noat "Bench" "many_of", .glo "Plan", .cls "Plan", .mkr "Plan", .noat "Plan" "all_jobs", .noat "Plan" "all_rows", .noat "Plan" "by_number", .noat "Plan" "by_place", .noat "Plan" "of_bench", .glo "BadValue", .glo "BadText", .glo "NoSuch", .glo "TooMany", .glo "is_whole", .glo "is_name", .glo "kind_of", .glo "is_step", .glo "are_steps", .meth "Style" "steps", .meth "Style" "span", .meth "Job" "numbered", .meth "Job" "of_style", .meth "Job" "brought_at", .meth "Job" "rank", .glo "rank_of", .glo "by_rank", .meth "Bench" "places_of", .meth "Bench" "places", .meth "Bench" "__eq__", .glo "free_from", .glo "are_jobs", .glo "begin_of", .meth "Plan" "take_in", .meth "Plan" "job_of", .meth "Plan" "rows", .meth "Plan" "rows_at", .meth "Plan" "next_free", .meth "Plan" "busy", .meth "Plan" "with_job", .meth "Plan" "__eq__", .glo "_law_mixed", .glo "_law_folded", .glo "_law_draw", .glo "_law_begun", .glo "_law_called", .glo "_law_step", .glo "_law_steps", .glo "_law_styles", .glo "_law_numbers", .glo "_law_plain_job", .glo "_law_plain_jobs", .glo "_law_style", .glo "_law_job", .glo "_law_plain_bench", .glo "_law_plan", .glo "_law_class", .glo "_law_told", .glo "_law_rank", .glo "_law_spots", .glo "_law_case", .glo "_law_wanted", .glo "_law_readies", .glo "_law_is_row", .glo "_law_firm", .glo "_law_no", .glo "_law_far", .glo "_law_odd", .glo "_law_whole", .glo "_law_is_free", .glo "_law_least", .glo "_law_wish", .glo "_law_free_right", .glo "_law_last_right", .glo "_law_is_spot", .glo "_law_refused", .glo "_law_most_right", .glo "law"]
def tsL : List He.Tab := [(fun K => He.ga K "KINDS", ["sew", "glue", "cover", "letter", "press"])]
def bsL : List Ask := [fun K => He.tupB K "BARRED_WORDS" [.str "style", .str "job", .str "round", .str "sew", .str "glue", .str "cover", .str "letter", .str "press", .str "hand", .str "haste"], fun K => He.valsB K (He.ga K "KINDS") (([("sew", "hand"), ("glue", "hand"), ("cover", "hand"), ("letter", "hand"), ("press", "press")] : List (Str × Str)).map fun q => (q.1, He.Dv.str q.2)), fun K => ownB K (He.ga K "Style"), fun K => ownB K (He.ga K "Job"), fun K => ownB K (He.ga K "Bench"), fun K => ownB K (He.ga K "Plan"), fun K => errOkB K "BadValue" ["what"], fun K => errOkB K "BadText" ["what", "row", "word"], fun K => errOkB K "NoSuch" ["what", "name"], fun K => errOkB K "TooMany" ["most"], fun K => errKitB K, fun K => decide (([(("_law_refused" : Str), (none : Option Str))].map fun p => (He.cT K p).2).Nodup)]
abbrev RR : PySem.W.OpenRow := PySem.W.OpenLaw.row PySem.Challenge.rw_bindbench_k27_whole_a_last_job_begins_wh
def tfL : List He.Defn := [(("_law_refused" : Str), (none : Option Str))]
abbrev hkL : PySem.W.Hook := hookBT 5 faL fnL tsL bsL tfL
def obL (s : PySem.W.SharedT) : AlB × Bool := obsBT faL fnL tsL bsL tfL (HandSHeadRun.getT s) (He.frT (HandSHeadRun.getT s) (asE (HandSHeadRun.getT s) 5))
theorem obL_eq (s : PySem.W.SharedT) : obL s = hkL.obs s.abs := obsBT_eq (HandSHeadRun.getT_eq s)
def looseL : List Str := (["_wall", "BadValue", "BadText", "NoSuch", "TooMany", "LETTERS", "MOST_LETTERS", "MOST_NUMBER", "MOST_HOUR", "FAR_HOUR", "MOST_HOURS", "KINDS", "BARRED_WORDS", "is_whole", "is_name", "kind_of", "is_step", "MOST_STEPS", "are_steps", "Style", "Job", "rank_of", "by_rank", "MOST_PLACES", "MOST_JOBS", "Bench", "free_from", "are_jobs", "begin_of", "Plan"] : List Str) ++ (["need_hour", "_law_mixed", "_law_folded", "_law_draw", "_law_begun", "_law_called", "_law_step", "_law_steps", "_law_styles", "_law_numbers", "_law_plain_job", "_law_plain_jobs", "_law_style", "_law_job", "_law_plain_bench", "_law_plan", "_law_class", "_law_told", "_law_rank", "_law_spots", "_law_case", "_law_wanted", "_law_readies", "_law_is_row", "_law_firm", "_law_no", "_law_far", "_law_odd", "_law_whole", "_law_is_free"] : List Str) ++ (["_law_least", "_law_wish", "_law_free_right", "_law_last_right", "_law_is_spot", "_law_refused", "_law_most_right"] : List Str)
theorem runL_false (w : World) : HandSHeadRun.RunEq RR (PySem.W.view RR.prog [72]) hkL obL 8000 looseL (w.withFollow "special-get-raises" false) := by
  intro os
  kernel_rfl
theorem runL_true (w : World) : HandSHeadRun.RunEq RR (PySem.W.view RR.prog [72]) hkL obL 8000 looseL (w.withFollow "special-get-raises" true) := by
  intro os
  kernel_rfl
theorem runL (w : World) : HandSHeadRun.RunEq RR (PySem.W.view RR.prog [72]) hkL obL 8000 looseL w :=
  PySem.W.byRow2 "special-get-raises" (P := fun w => HandSHeadRun.RunEq RR (PySem.W.view RR.prog [72]) hkL obL 8000 looseL w) runL_false runL_true w
end Bz
section
open PySem PySem.W PySem.Calls PyProof.Rows
theorem Bz.startL (call : WalkO (view Bz.RR.prog [72]) Bz.looseL (XL (view Bz.RR.prog [72]) []) Bz.hkL.says Bz.RR.toRowW (HandSHeadRun.topDef Bz.RR.prog 72) [] fun f vs => PySem.call f vs) : PySem.Challenge.rw_bindbench_k27_whole_a_last_job_begins_wh.Holds := by
  w_on; o_law
  refine HandSHeadRun.head_any (r := Bz.RR) (q := view Bz.RR.prog [72]) (H := Bz.hkL) (ob := Bz.obL) (M := 8000) (loose := Bz.looseL) (d := HandSHeadRun.topDef Bz.RR.prog 72) (kwd := []) Bz.obL_eq
    (by kernel_rfl) (fun s => by kernel_rfl) Bz.runL (by kernel_rfl) (by kernel_rfl) (by kernel_rfl) (by rfl) (by first | assumption | decide +kernel) (by decide +kernel) ⟨rfl, rfl, rfl, rfl, rfl, by decide +kernel⟩ ?hw ?hc
  case hw => w_witness2
  case hc => exact call
end
namespace Bz
open PySem PySem.Spec PyProof.Rows L2
set_option maxRecDepth 1500
set_option hygiene false
local macro_rules | `(tactic| tm_at "at") => `(tactic| (first | exact At.z | (apply At.s; tm_at "at")))
local macro_rules | `(tactic| tm_at "set") => `(tactic| (first | exact SetAt.z | (apply SetAt.s; tm_at "set")))
local macro_rules | `(tactic| tm_at "wiped") => `(tactic| (first | exact Wiped.nil | (apply Wiped.cons; tm_at "wiped"; tm_at "set")))
local macro_rules | `(tactic| tm_at "mem") => `(tactic| (first | exact List.Mem.head _ | (apply List.Mem.tail; tm_at "mem")))
local macro_rules | `(tactic| tm_at "put") => `(tactic| (first | exact Put.here | (apply Put.there; tm_at "put")))
local macro_rules | `(tactic| tm_at "hp") => `(tactic| (first | assumption | (refine' Is.get ?i1 ?i2; (case i1 => assumption); (case i2 => tm_at "mem")) | (refine' Is.getM ?i1 ?i2; (case i1 => assumption); (case i2 => tm_at "mem")) | (refine' Is.b ?i1 ?i2; (case i1 => assumption); (case i2 => assumption))))
local macro_rules | `(tactic| tm_at "sq") => `(tactic| (first | assumption | (refine' SqL.of ?i1; (case i1 => tm_at "hp")) | (refine' Is.sq ?i1 ?i2; (case i1 => assumption); (case i2 => assumption))))
local macro_rules | `(tactic| tm_at "st") => `(tactic| (first | assumption | (refine' SqT.of ?i1; (case i1 => tm_at "hp")) | (refine' Is.st ?i1 ?i2; (case i1 => assumption); (case i2 => assumption))))
local macro_rules | `(tactic| tm_at "arith") => `(tactic| (first | omega | decide | (simp only [List.length_map]; omega) | (simp only [List.length_cons, List.length_nil, List.length_append, List.length_map, List.length_replicate, List.length_set] <;> omega) | (simp only [List.length_cons, List.length_nil, List.length_append, List.length_map, List.length_replicate, List.length_set] at * <;> omega)))
local macro_rules | `(tactic| tm_at "kne") => `(tactic| (first | assumption | decide +kernel))
local macro_rules | `(tactic| tm_at "kget") => `(tactic| (first | exact KGet.here | (apply KGet.there; tm_at "kne"; tm_at "kget")))
local macro_rules | `(tactic| tm_at "nokey") => `(tactic| (first | exact NoKey.nil | (apply NoKey.cons; tm_at "kne"; tm_at "nokey")))
local macro_rules | `(tactic| tm_at "kput") => `(tactic| (first | (apply KPut.here; tm_at "nokey"; done) | (apply KPut.there; tm_at "kne"; tm_at "kput")))
local macro_rules | `(tactic| tm_at "snoc") => `(tactic| (first | exact Snoc.nil | (apply Snoc.cons; tm_at "snoc")))
local macro_rules | `(tactic| tm_at "mrg") => `(tactic| (first | exact Mrg.nil | (apply Mrg.str; tm_at "nokey"; tm_at "snoc"; tm_at "mrg") | (apply Mrg.int; tm_at "nokey"; tm_at "snoc"; tm_at "mrg")))
local macro_rules | `(tactic| tm_at "del") => `(tactic| (first | exact Del.here | (apply Del.there; tm_at "del")))
local macro_rules | `(tactic| tm_at "slen") => `(tactic| (first | assumption | omega | (apply plainS.len; assumption) | decide +kernel))
local macro_rules | `(tactic| tm_at "fget") => `(tactic| (first | exact FGet.here | (apply FGet.there; (case _ => decide +kernel); tm_at "fget")))
local macro_rules | `(tactic| tm_at "nof") => `(tactic| (first | exact NoF.nil | (apply NoF.cons; (case _ => decide +kernel); tm_at "nof")))
local macro_rules | `(tactic| tm_at "fput") => `(tactic| (first | exact FPut.nil | exact FPut.here | (apply FPut.there; (case _ => decide +kernel); tm_at "fput")))
local macro_rules | `(tactic| tm_at "thing") => `(tactic| first | assumption | exact Thing.same (Is.ex (by assumption)) (by assumption))
local macro_rules | `(tactic| tm_at "go1") => `(tactic| first
  | with_reducible refine' g_seq ?_
  | with_reducible refine' g_op ?_
  | ((with_reducible refine' g_var ?h1 ?_); (case h1 => tm_at "at"))
  | with_reducible refine' g_c ?_
  | with_reducible refine' g_asg ?_
  | ((with_reducible refine' g_name ?h1 ?_); (case h1 => tm_at "set"))
  | with_reducible refine' g_cons ?_
  | with_reducible refine' g_nil ?_
  | with_reducible refine' g_cl ?_
  | with_reducible refine' g_cb ?_
  | with_reducible refine' g_add_i ?_
  | with_reducible refine' g_rI0 ?_
  | with_reducible refine' g_rU ?_
  | ((with_reducible refine' g_mul_i ?h1 ?_); (case h1 => (unfold CMul; omega)))
  | ((with_reducible refine' g_pow ?h1 ?h2 ?_); (case h1 => first | decide | (unfold CPow; omega)); (case h2 => (simp only [Int.reduceToNat, Int.reducePow]; exact rfl)))
  | ((with_reducible refine' g_rI ?h1 ?_); (case h1 => first | omega | (unfold CDiv; omega) | (unfold CPow; omega) | decide | (simp only [List.length_map, List.length_cons, List.length_append]; omega)))
  | with_reducible refine' g_ifS ?_
  | with_reducible refine' g_test ?_
  | with_reducible refine' g_bl ?_
  | with_reducible refine' g_tr ?_
  | with_reducible refine' g_tru_bl ?_
  | with_reducible refine' g_tru_non ?_
  | with_reducible refine' g_true ?_
  | with_reducible refine' g_false ?_
  | with_reducible refine' g_ntrue ?_
  | with_reducible refine' g_nfalse ?_
  | with_reducible refine' g_and ?_
  | with_reducible refine' g_or ?_
  | with_reducible refine' g_not ?_
  | with_reducible refine' g_andV ?_
  | with_reducible refine' g_orV ?_
  | with_reducible refine' g_ifV ?_
  | with_reducible refine' g_notV ?_
  | with_reducible refine' g_aNot ?_
  | with_reducible refine' g_ifE ?_
  | with_reducible refine' g_chain ?_
  | with_reducible refine' g_chain3 ?_
  | with_reducible refine' g_un ?_
  | with_reducible refine' g_ret ?_
  | with_reducible refine' g_retN ?_
  | with_reducible refine' g_drop ?_
  | with_reducible refine' g_next ?_
  | with_reducible refine' g_par ?_
  | ((with_reducible refine' g_par2 ?h1 ?h2 ?_); (case h1 => tm_at "set"); (case h2 => tm_at "set"))
  | with_reducible refine' g_lst ?_
  | with_reducible refine' g_tup ?_
  | with_reducible refine' g_isNo ?_
  | ((with_reducible refine' g_isiT ?h1 ?h2 ?h3 ?_); (case h1 => tm_at "thing"); (case h2 => decide); (case h3 => decide))
  | ((with_reducible refine' g_isiF ?h1 ?h2 ?h3 ?_); (case h1 => tm_at "thing"); (case h2 => decide); (case h3 => decide))
  | ((with_reducible refine' g_isi2T ?h0 ?h1 ?h2 ?h3 ?h4 ?_); (case h0 => tm_at "hp"); (case h1 => tm_at "thing"); (case h2 => decide); (case h3 => decide); (case h4 => decide))
  | ((with_reducible refine' g_isi2F ?h0 ?h1 ?h2 ?h3 ?h4 ?_); (case h0 => tm_at "hp"); (case h1 => tm_at "thing"); (case h2 => decide); (case h3 => decide); (case h4 => decide))
  | with_reducible refine' g_noNo ?_
  | ((with_reducible refine' g_eq_s ?h1 ?_); (case h1 => rfl))
  | ((with_reducible refine' g_ne_s ?h1 ?_); (case h1 => rfl))
  | with_reducible refine' g_in_c ?_
  | with_reducible refine' g_nin_c ?_
  | with_reducible refine' g_dget ?_
  | with_reducible refine' g_dput ?_
  | with_reducible refine' g_pnil ?_
  | with_reducible refine' g_pcons ?_
  | ((with_reducible refine' g_disp ?h1 ?_); (case h1 => assumption); clear hI; intro p H hI)
  | ((with_reducible refine' g_newK ?h1 ?_); (case h1 => assumption); clear hI; intro p H hI)
  | ((with_reducible refine' g_aDisp ?h0 ?h1 ?h2 ?h3 ?h4 ?_); (case h0 => assumption); (case h1 => tm_at "hp"); (case h2 => tm_at "mrg"); (case h3 => tm_at "arith"); (case h4 => tm_at "put"); clear hI; intro H hI)
  | ((with_reducible refine' g_aDGet ?h1 ?h2 ?_); (case h1 => tm_at "hp"); (case h2 => tm_at "kget"))
  | ((with_reducible refine' g_aDPut ?h0 ?h1 ?h2 ?h3 ?h4 ?_); (case h0 => assumption); (case h1 => tm_at "hp"); (case h2 => tm_at "arith"); (case h3 => tm_at "kput"); (case h4 => tm_at "put"); clear hI; intro H hI)
  | ((with_reducible refine' g_aDPutM ?h0 ?h1 ?h2 ?h3 ?h4 ?_); (case h0 => assumption); (case h1 => tm_at "hp"); (case h2 => tm_at "arith"); (case h3 => tm_at "kput"); (case h4 => tm_at "put"); clear hI; intro H hI)
  | ((with_reducible refine' g_setL ?h0 ?h1 ?h2 ?h3 ?h4 ?_); (case h0 => assumption); (case h1 => tm_at "hp"); (case h2 => tm_at "arith"); (case h3 => tm_at "arith"); (case h4 => tm_at "put"); clear hI; intro H hI)
  | ((with_reducible refine' g_setLM ?h0 ?h1 ?h2 ?h3 ?h4 ?_); (case h0 => assumption); (case h1 => tm_at "hp"); (case h2 => tm_at "arith"); (case h3 => tm_at "arith"); (case h4 => tm_at "put"); clear hI; intro H hI)
  | ((with_reducible refine' g_len_s ?h1 ?_); (case h1 => tm_at "slen"))
  | ((with_reducible refine' g_len_l ?h1 ?_); (case h1 => tm_at "sq"))
  | ((with_reducible refine' g_len_t ?h1 ?_); (case h1 => tm_at "st"))
  | ((with_reducible refine' g_app ?h0 ?h1 ?h2 ?h3 ?_); (case h0 => assumption); (case h1 => tm_at "hp"); (case h2 => tm_at "arith"); (case h3 => tm_at "put"); clear hI; intro H hI)
  | with_reducible refine' g_sub ?_
  | with_reducible refine' g_sl ?_
  | with_reducible refine' g_noPart ?_
  | with_reducible refine' g_part ?_
  | with_reducible refine' g_aPart ?_
  | with_reducible refine' g_bm ?_
  | with_reducible refine' g_bm0 ?_
  | with_reducible refine' g_m1 ?_
  | with_reducible refine' g_isStr ?_
  | with_reducible refine' mt_tyS ?_
  | ((with_reducible refine' g_tyL ?h1 ?_); (case h1 => tm_at "hp"))
  | with_reducible refine' g_lc ?_
  | with_reducible refine' g_for ?_
  | with_reducible refine' g_iAny ?_
  | with_reducible refine' g_rng1 ?_
  | with_reducible refine' g_rng2 ?_
  | with_reducible refine' g_enumA ?_
  | ((with_reducible refine' g_aEnumL ?h1 ?_); (case h1 => tm_at "sq"))
  | ((with_reducible refine' g_aEnumT ?h1 ?_); (case h1 => tm_at "st"))
  | with_reducible refine' g_zipA ?_
  | with_reducible refine' g_zip3 ?_
  | ((with_reducible refine' g_aZip3 ?h1 ?h2 ?h3 ?_); (case h1 => tm_at "sq"); (case h2 => tm_at "sq"); (case h3 => tm_at "sq"))
  | ((with_reducible refine' g_aZipL ?h1 ?h2 ?_); (case h1 => tm_at "sq"); (case h2 => tm_at "sq"))
  | ((with_reducible refine' g_aZipT ?h1 ?h2 ?_); (case h1 => tm_at "st"); (case h2 => tm_at "st"))
  | with_reducible refine' g_par3 ?_
  | ((with_reducible refine' g_par3b ?h1 ?h2 ?h3 ?_); (case h1 => tm_at "set"); (case h2 => tm_at "set"); (case h3 => tm_at "set"))
  | with_reducible refine' g_me ?_
  | ((with_reducible refine' g_aMe ?h1 ?h2 ?_); (case h1 => tm_at "hp"); (case h2 => tm_at "nof"))
  | with_reducible refine' g_mk ?_
  | ((with_reducible refine' g_aMk ?h0 ?h1 ?h2 ?_); (case h0 => assumption); (case h1 => exact rfl); (case h2 => exact rfl); clear hI; intro x dx H hI; (dsimp only [pick, nth, List.cons_append, List.nil_append]))
  | with_reducible refine' g_fld ?_
  | ((with_reducible refine' g_aFld ?h1 ?h2 ?h3 ?h4 ?_); (case h1 => tm_at "hp"); (case h2 => assumption); (case h3 => assumption); (case h4 => tm_at "fget"))
  | with_reducible refine' g_setF ?_
  | ((with_reducible refine' g_aSetF ?h0 ?h1 ?h2 ?h3 ?h4 ?h5 ?h6 ?_); (case h0 => assumption); (case h1 => tm_at "hp"); (case h2 => assumption); (case h3 => assumption); (case h4 => tm_at "arith"); (case h5 => tm_at "fput"); (case h6 => tm_at "put"); clear hI; intro H hI)
  | ((with_reducible refine' g_aug ?h1 ?_); (case h1 => tm_at "at"))
  | ((with_reducible refine' g_set ?h1 ?_); (case h1 => tm_at "set"))
  | with_reducible refine' g_ipI ?_
  | with_reducible refine' g_max2 ?_
  | with_reducible refine' g_min2 ?_
  | ((with_reducible refine' g_tupOf ?h1 ?h2 ?_); (case h1 => assumption); (case h2 => tm_at "sq"); clear hI; intro p H hI)
  | ((with_reducible refine' g_listOfL ?h1 ?h2 ?_); (case h1 => assumption); (case h2 => tm_at "sq"); clear hI; intro p H hI)
  | ((with_reducible refine' g_listOfT ?h1 ?h2 ?_); (case h1 => assumption); (case h2 => tm_at "st"); clear hI; intro p H hI)
  | ((with_reducible refine' g_aRng1 ?h1 ?_); (case h1 => tm_at "arith"))
  | ((with_reducible refine' g_aRng2 ?h1 ?_); (case h1 => tm_at "arith"))
  | with_reducible refine' g_it_s ?_
  | ((with_reducible refine' g_it_l ?h1 ?_); (case h1 => tm_at "sq"))
  | ((with_reducible refine' g_it_t ?h1 ?_); (case h1 => tm_at "st"))
  | with_reducible refine' g_yes ?_
  | with_reducible refine' g_gCons ?_
  | ((with_reducible refine' g_gTup ?h1 ?h2 ?_); (case h1 => tm_at "st"); (case h2 => exact rfl))
  | with_reducible refine' g_gNil ?_
  | ((with_reducible refine' g_aLst ?h1 ?h2 ?_); (case h1 => assumption); (case h2 => tm_at "arith"); clear hI; intro p H hI)
  | ((with_reducible refine' g_aTup ?h1 ?h2 ?_); (case h1 => assumption); (case h2 => tm_at "arith"); clear hI; intro p H hI)
  | ((with_reducible refine' g_aCl ?h1 ?h2 ?_); (case h1 => exact rfl); (case h2 => exact rfl); (dsimp only [pick, nth, List.cons_append, List.nil_append]))
)
local macro_rules | `(tactic| tm_at "go") => `(tactic| repeat (tm_at "go1"))
local macro_rules | `(tactic| tm_at "sub") => `(tactic| (first | exact List.Sublist.refl _ | exact List.nil_sublist _ | (apply List.Sublist.cons₂; tm_at "sub") | (apply List.Sublist.cons; tm_at "sub")))
local macro_rules | `(tactic| tm_at "is") => `(tactic| (first | assumption | (refine' Is.forget ?s1 ?s2; (case s1 => assumption); (case s2 => tm_at "sub"))))
local macro_rules | `(tactic| tm_at "next") => `(tactic| (repeat (first | with_reducible refine' g_next ?_ | with_reducible refine' g_bl ?_ | with_reducible refine' g_true ?_ | with_reducible refine' g_false ?_)))
local macro_rules | `(tactic| tm_at "draw") => `(tactic| ((refine' ap_law_draw (K := K) hI hd (by omega) (by tm_at "arith") (by tm_at "arith") ?_); clear hI hd; intro r H M hr0 hr1 hI hd))
local macro_rules | `(tactic| tm_at "stop") => `(tactic| (repeat (first | with_reducible refine' g_asg ?_ | with_reducible refine' g_c ?_ | ((with_reducible refine' g_var ?h1 ?_); (case h1 => tm_at "at")) | ((with_reducible refine' g_name ?h1 ?_); (case h1 => tm_at "set")) | with_reducible refine' g_next ?_)))
local macro_rules | `(tactic| tm_at "prm") => `(tactic| (first | exact List.Perm.refl _ | (apply List.Perm.cons; tm_at "prm") | exact List.Perm.swap _ _ _ | (refine' List.Perm.trans ?p1 (List.Perm.swap _ _ _); (case p1 => apply List.Perm.cons; tm_at "prm"))))
def sp_law_mixed (K : PySem.W.Frag) : Sp := fun vs H Q _ => vs.length = 2 ∧ ∃ c k : Int, vs = [.int c, .int k] ∧ 0 ≤ k ∧ k < 2 ^ 60 ∧ ∀ r : Int, 0 ≤ r → r < 400000000 → Q (.int r) H
theorem ap_law_mixed {K : PySem.W.Frag} {H : Hp} {Q : VK} {E : XK} {c k : Int} (h0 : 0 ≤ k) (h1 : k < 2 ^ 60) (q : ∀ r : Int, 0 ≤ r → r < 400000000 → Q (.int r) H) : sp_law_mixed K [.int c, .int k] H Q E :=
  ⟨rfl, c, k, rfl, h0, h1, q⟩
/-- the state of the draws at m: at most n draws so far -/
def Dr (m : Addr) (n : Int) (B : Hp) (M : List (Addr × HO)) : Prop := ∃ (c l : Addr) (cs ls : List Int) (k : Int),
  M = [(m, .dK [(Sum.inr "cells", .ref c), (Sum.inr "left", .ref l), (Sum.inr "spot", .int k)]), (l, .lst (ls.map V.int))] ∧
  B c = some (.lst (cs.map V.int)) ∧ cs.length = 64 ∧ (∀ x ∈ cs, 0 ≤ x ∧ x < 2147483647) ∧ 0 ≤ k ∧ k ≤ n
theorem Dr.same {m : Addr} {n : Int} {B B' : Hp} {M : List (Addr × HO)} (s : Same B B') (d : Dr m n B M) : Dr m n B' M := by
  obtain ⟨c, l, cs, ls, k, h1, h2, h3⟩ := d
  exact ⟨c, l, cs, ls, k, h1, s _ _ h2, h3⟩
theorem Dr.mono {m : Addr} {n n' : Int} {B : Hp} {M : List (Addr × HO)} (h : n ≤ n') (d : Dr m n B M) : Dr m n' B M := by
  obtain ⟨c, l, cs, ls, k, h1, h2, h3, h4, h5, h6⟩ := d
  exact ⟨c, l, cs, ls, k, h1, h2, h3, h4, h5, by omega⟩
def sp_law_draw (K : PySem.W.Frag) : Sp := fun vs H Q _ => vs.length = 2 ∧ ∃ (m : Addr) (many n : Int) (B : Hp) (M L : List (Addr × HO)), vs = [.ref m, .int many] ∧ Is B M L H ∧ Dr m n B M ∧ n < 2 ^ 40 ∧ 0 < many ∧ many < 1073741824 ∧
  ∀ (r : Int) (H' : Hp) (M' : List (Addr × HO)), 0 ≤ r → r < many → Is B M' L H' → Dr m (n + 1) B M' → Q (.int r) H'
theorem ap_law_draw {K : PySem.W.Frag} {H : Hp} {Q : VK} {E : XK} {m : Addr} {many n : Int} {B : Hp} {M L : List (Addr × HO)} (I : Is B M L H) (d : Dr m n B M) (h1 : n < 2 ^ 40) (h2 : 0 < many) (h3 : many < 1073741824)
    (q : ∀ (r : Int) (H' : Hp) (M' : List (Addr × HO)), 0 ≤ r → r < many → Is B M' L H' → Dr m (n + 1) B M' → Q (.int r) H') : sp_law_draw K [.ref m, .int many] H Q E :=
  ⟨rfl, m, many, n, B, M, L, rfl, I, d, h1, h2, h3, q⟩
abbrev t_law_mixed_0 (K : PySem.W.Frag) : TS := (tRet (tOp (rI CDiv fun i j => .int (i / j)) (tOp (rI (fun _ j => 0 < j) fun i j => .int (i % j)) (tOp rMulA (tVar 2) (tC (.int 69621))) (tC (.int 2147483629))) (tC (.int 7))))
def t_law_mixed (K : PySem.W.Frag) : TS := (tSeq (tAsg (tOp (rAddA K) (tOp (rAddA K) (tOp (rI (fun _ j => 0 < j) fun i j => .int (i % j)) (tOp rMulA (tOp rMulA (tVar 0) (tOp (rAddA K) (tC (.int 1)) (tOp rMulA (tC (.int 2)) (tVar 1)))) (tC (.int 48271))) (tC (.int 2147483647))) (tOp rMulA (tOp rMulA (tC (.int 7919)) (tVar 1)) (tVar 1))) (tOp rMulA (tC (.int 104729)) (tVar 1))) (gName 2)) (t_law_mixed_0 K))
theorem rd_law_mixed {K : PySem.W.Frag} (vs : List V) (H : Hp) (Q : VK) (E : XK) (h : sp_law_mixed K vs H Q E) : t_law_mixed K { nx := fun _ H' => Q .non H', rt := Q } (start ["cell", "k", "turned"] vs) H := by
  obtain ⟨_, c, k, rfl, h0, h1, q⟩ := h
  show t_law_mixed K ⟨_, _, _, _⟩ [some (.int c), some (.int k), none] H
  unfold t_law_mixed
  tm_at "go"
  exact q _ (by omega) (by omega)
theorem ints_get {ns : List Int} {i : Nat} (h : i < ns.length) : (ns.map V.int)[i]? = some (.int (ns[i])) := by simp [h]
theorem dp_ints {K : PySem.W.Frag} {H : Hp} : ∀ ns : List Int, DpAll K H (ns.map V.int) (ns.map PyData.int)
  | [] => .nil
  | n :: ns => .cons (.int n) (dp_ints ns)
abbrev t_law_draw_0 (K : PySem.W.Frag) : TS := (tRet (tOp (rI (fun _ j => 0 < j) fun i j => .int (i % j)) (tVar 4) (tVar 1)))
abbrev t_law_draw_1 (K : PySem.W.Frag) : TS := (tIfS (tTest (tOp (rI0 fun i j => .bl (decide (j < i))) (tVar 4) (tC (.int 0)))) (tSeq (tAsg (tOp (rI CDiv fun i j => .int (i / j)) (tVar 4) (tVar 1)) (gSub (tDGet (tVar 0) (tC (.str "left"))) (tVar 3) rSetL)) (t_law_draw_0 K)) tNext)
abbrev t_law_draw_2 (K : PySem.W.Frag) : TS := (tSeq (tAsg (tOp (rIx K) (tDGet (tVar 0) (tC (.str "left"))) (tVar 3)) (gName 4)) (t_law_draw_1 K))
abbrev t_law_draw_3 (K : PySem.W.Frag) : TS := (tRet (tOp (rI (fun _ j => 0 < j) fun i j => .int (i % j)) (tCl 2 0 (sp_law_mixed K) (fun vs zs => pick .non [0, 1] (vs ++ zs)) E0 (tCons (tCl 2 0 (sp_law_mixed K) (fun vs zs => pick .non [0, 1] (vs ++ zs)) E0 (tCons (tOp (rAddA K) (tOp (rIx K) (tDGet (tVar 0) (tC (.str "cells"))) (tOp (rI (fun _ j => 0 < j) fun i j => .int (i % j)) (tVar 2) (tC (.int 64)))) (tOp rMulA (tC (.int 31)) (tOp (rI CDiv fun i j => .int (i / j)) (tVar 2) (tC (.int 64))))) (tCons (tVar 2) tNil)) tNil) (tCons (tOp (rAddA K) (tVar 2) (tC (.int 7))) tNil)) tNil) (tVar 1)))
abbrev t_law_draw_4 (K : PySem.W.Frag) : TS := (tSeq (tIfS (tTest (tOp (rNeA K) (tDGet (tVar 0) (tC (.str "left"))) (tLst tNil))) (tSeq (tAsg (tOp (rI (fun _ j => 0 < j) fun i j => .int (i % j)) (tVar 2) (tCB (rLen K) (tCons (tDGet (tVar 0) (tC (.str "left"))) tNil))) (gName 3)) (t_law_draw_2 K)) tNext) (t_law_draw_3 K))
abbrev t_law_draw_5 (K : PySem.W.Frag) : TS := (tSeq (sDPut (tVar 0) (tC (.str "spot")) (tOp (rAddA K) (tVar 2) (tC (.int 1)))) (t_law_draw_4 K))
def t_law_draw (K : PySem.W.Frag) : TS := (tSeq (tAsg (tDGet (tVar 0) (tC (.str "spot"))) (gName 2)) (t_law_draw_5 K))
theorem rd_law_draw {K : PySem.W.Frag} (vs : List V) (H : Hp) (Q : VK) (E : XK) (h : sp_law_draw K vs H Q E) : t_law_draw K { nx := fun _ H' => Q .non H', rt := Q } (start ["m", "many", "k", "spot", "cell"] vs) H := by
  obtain ⟨_, m, many, n, B, M, L, rfl, hI, ⟨c, l, cs, ls, k, rfl, hc, hcs, hb, hk0, hkn⟩, h1, h2, h3, q⟩ := h
  show t_law_draw K ⟨_, _, _, _⟩ [some (.ref m), some (.int many), none, none, none] H
  unfold t_law_draw
  tm_at "go"
  refine g_ne_d (.lst (by tm_at "sq") (dp_ints ls)) (.lst (xs := []) (by tm_at "sq") .nil) (PySem.W.ke_shaped_ints ls) rfl ?_
  tm_at "go"
  -- the last row: by the cells
  have last : ∀ (H : Hp) (x y : Option V), Is B [(m, HO.dK [(Sum.inr "cells", V.ref c), (Sum.inr "left", V.ref l), (Sum.inr "spot", V.int (k + 1))]), (l, HO.lst (List.map V.int ls))] ((p, HO.lst []) :: L) H →
      t_law_draw_3 K ⟨fun _ H' => Q .non H', Q, fun _ _ => False, fun _ _ => False⟩ [some (V.ref m), some (V.int many), some (V.int k), x, y] H := by
    intro H x y hI
    tm_at "go"
    have hk : (k % 64).toNat < cs.length := by omega
    refine g_ix_l (by tm_at "sq") (atI_of (by omega) (ints_get hk)) ?_
    tm_at "go"
    refine' ap_law_mixed (K := K) (by omega) (by omega) ?_
    intro r hr0 hr1
    tm_at "go"
    refine' ap_law_mixed (K := K) (by omega) (by omega) ?_
    intro r2 hr2 hr3
    tm_at "go"
    exact q _ _ _ (Int.emod_nonneg _ (by omega)) (Int.emod_lt_of_pos _ h2) (by tm_at "is") ⟨c, l, cs, ls, k + 1, rfl, hc, hcs, hb, by omega, by omega⟩
  cases ls with
  | nil =>
    refine g_nb (fun e => ?_) (fun e => ?_)
    · simp [PyData.eqv, PyData.eqvAll] at e
    · exact g_next (last _ _ _ hI)
  | cons z zs =>
    refine g_nb (fun e => ?_) (fun e => ?_)
    · tm_at "go"
      have hp : 0 < ((z :: zs).length : Int) := by simp only [List.length_cons]; omega
      have hlt := Int.emod_lt_of_pos k hp
      have hge := Int.emod_nonneg k (by omega : ((z :: zs).length : Int) ≠ 0)
      rw [List.length_map]
      generalize hi : k % ((z :: zs).length : Int) = i at *
      have hk : i.toNat < (z :: zs).length := by omega
      refine g_ix_l (by tm_at "sq") (atI_of hge (ints_get hk)) ?_
      tm_at "go"
      refine g_dec (fun h => ?_) (fun h => ?_)
      · tm_at "go"
        refine q _ _ _ (Int.emod_nonneg _ (by omega)) (Int.emod_lt_of_pos _ h2) (by tm_at "is") ⟨c, l, cs, (z :: zs).set i.toNat ((z :: zs)[i.toNat] / many), k + 1, ?_, hc, hcs, hb, by omega, by omega⟩
        rw [List.map_set]
      · tm_at "next"
        exact last _ _ _ hI
    · simp [PyData.eqv, PyData.eqvAll] at e
def sp_law_folded (K : PySem.W.Frag) : Sp := fun vs H Q _ => vs.length = 1 ∧ ∃ (a : Addr) (ns : List Int) (B : Hp) (M L : List (Addr × HO)), vs = [.ref a] ∧ Is B M L H ∧ SqL K B a (ns.map V.int) ∧ ns.length ≤ 63 ∧
  ∀ (p : Addr) (cs : List Int) (H' : Hp), cs.length = 64 → (∀ x ∈ cs, 0 ≤ x ∧ x < 2147483647) → Is B M ((p, .lst (cs.map V.int)) :: L) H' → Q (.ref p) H'
abbrev t_law_folded_0 (K : PySem.W.Frag) : TS := (tAsg (tOp (rI (fun _ j => 0 < j) fun i j => .int (i % j)) (tOp (rAddA K) (tOp rMulA (tOp (rIx K) (tVar 1) (tOp (rI (fun _ j => 0 < j) fun i j => .int (i % j)) (tVar 2) (tC (.int 64)))) (tC (.int 48271))) (tVar 3)) (tC (.int 2147483647))) (gSub (tVar 1) (tOp (rI (fun _ j => 0 < j) fun i j => .int (i % j)) (tVar 2) (tC (.int 64))) rSetL))
abbrev t_law_folded_1 (K : PySem.W.Frag) : TS := (tAsg (tOp (rI (fun _ j => 0 < j) fun i j => .int (i % j)) (tOp (rAddA K) (tOp (rIx K) (tVar 1) (tVar 2)) (tOp rMulA (tOp (rIx K) (tVar 1) (tOp (rI0 fun i j => .int (i - j)) (tVar 2) (tC (.int 1)))) (tC (.int 16807)))) (tC (.int 2147483647))) (gSub (tVar 1) (tVar 2) rSetL))
abbrev t_law_folded_2 (K : PySem.W.Frag) : TS := (tRet (tVar 1))
abbrev t_law_folded_3 (K : PySem.W.Frag) : TS := (tSeq (tFor (iRng2 (tCons (tC (.int 1)) (tCons (tC (.int 64)) tNil))) (gName 2) (t_law_folded_1 K)) (t_law_folded_2 K))
abbrev t_law_folded_4 (K : PySem.W.Frag) : TS := (tSeq (tFor (iEnumA K (tCons (tVar 0) tNil)) (gTup K 2 (gCons (gName 2) (gCons (gName 3) gNil))) (t_law_folded_0 K)) (t_law_folded_3 K))
def t_law_folded (K : PySem.W.Frag) : TS := (tSeq (tAsg (tLc (iRng1 (tCons (tC (.int 64)) tNil)) (gName 2) tYes (tOp (rAddA K) (tC (.int 17)) (tVar 2)) [2]) (gName 1)) (t_law_folded_4 K))
theorem rd_law_folded {K : PySem.W.Frag} (vs : List V) (H : Hp) (Q : VK) (E : XK) (h : sp_law_folded K vs H Q E) : t_law_folded K { nx := fun _ H' => Q .non H', rt := Q } (start ["script", "found", "k", "cell"] vs) H := by
  obtain ⟨_, a, ns, B, M, L, rfl, hI, ha, hl, q⟩ := h
  show t_law_folded K ⟨_, _, _, _⟩ [some (.ref a), none, none, none] H
  unfold t_law_folded
  tm_at "go"
  refine' g_aLc walk_range hI (by tm_at "wiped") (by decide) (fun i acc B' M' => B' = B ∧ M' = M ∧ ∃ cs : List Int, acc = cs.map V.int ∧ cs.length = i ∧ ∀ x ∈ cs, 0 ≤ x ∧ x < 2147483647) ⟨rfl, rfl, [], rfl, rfl, fun x hx => by cases hx⟩ (fun _ _ _ _ _ _ _ _ _ _ => trivial) ?_ ?_
  · rintro i x acc B' M' D H' H'' hi s hI' ⟨rfl, rfl, cs, rfl, hl, hb⟩ ⟨rfl, rfl⟩ hz
    tm_at "go"
    refine' g_wiped (by tm_at "wiped") ?_
    tm_at "go"
    refine' lcY s hI' hz ⟨rfl, rfl, cs ++ [17 + (0 + (i : Int))], by simp, by simp [hl], ?_⟩
    intro y hy
    rcases List.mem_append.mp hy with e | e
    · exact hb y e
    · rw [List.mem_singleton.mp e]
      have : i < 64 := hi
      omega
  rintro acc B' M' p H' s hI ⟨rfl, rfl, cs, rfl, hcl, hcb⟩ _
  have hcl : cs.length = 64 := hcl
  tm_at "go"
  -- for k, cell in enumerate(script)
  refine' g_aFor walk_enum (fun i σ H => ∃ (x y : Option V) (cs : List Int), σ = [some (.ref a), some (.ref p), x, y] ∧ Is B' M' ((p, .lst (cs.map V.int)) :: L) H ∧ cs.length = 64 ∧ ∀ x ∈ cs, 0 ≤ x ∧ x < 2147483647)
    ⟨_, _, cs, rfl, hI, hcl, hcb⟩ (fun i σ H _ ⟨_, _, cs, _, hI, _⟩ => Is.sq hI ha) ?_ ?_
  · rintro i x σ H H' hi ⟨x0, y0, cs, rfl, hI, hcl, hcb⟩ ⟨T, y, z, rfl, hT, rfl, e1, e2⟩
    cases e1
    have hin : i < ns.length := by rwa [List.length_map] at hi
    have e2 : (ns.map V.int)[i]? = some z := e2
    rw [ints_get hin] at e2
    cases e2
    have hI := hI.new (o := .tup [V.int (i : Int), V.int ns[i]]) hT
    tm_at "go"
    have hk : ((i : Int) % 64).toNat < cs.length := by omega
    refine g_ix_l (by tm_at "sq") (atI_of (by omega) (ints_get hk)) ?_
    have hv := hcb _ (List.getElem_mem hk)
    tm_at "go"
    refine' ⟨_, _, cs.set ((i : Int) % 64).toNat ((cs[((i : Int) % 64).toNat] * 48271 + ns[i]) % 2147483647), rfl, ?_, by simpa using hcl, ?_⟩
    · rw [List.map_set]
      exact hI.forget (by tm_at "sub")
    · intro x hx
      rcases List.mem_or_eq_of_mem_set hx with e | e
      · exact hcb x e
      · rw [e]
        omega
  rintro σ H ⟨x0, y0, cs, rfl, hI, hcl, hcb⟩
  tm_at "go"
  -- for k in range(1, 64)
  refine' g_aFor walk_range (fun i σ H => ∃ (x y : Option V) (cs : List Int), σ = [some (.ref a), some (.ref p), x, y] ∧ Is B' M' ((p, .lst (cs.map V.int)) :: L) H ∧ cs.length = 64 ∧ ∀ x ∈ cs, 0 ≤ x ∧ x < 2147483647)
    ⟨_, _, cs, rfl, hI, hcl, hcb⟩ (fun _ _ _ _ _ => trivial) ?_ ?_
  · rintro i x σ H H' hi ⟨x0, y0, cs, rfl, hI, hcl, hcb⟩ ⟨rfl, rfl⟩
    have hi : i < 63 := hi
    tm_at "go"
    have hk : (1 + (i : Int)).toNat < cs.length := by omega
    have hk1 : (1 + (i : Int) - 1).toNat < cs.length := by omega
    refine g_ix_l (by tm_at "sq") (atI_of (by omega) (ints_get hk)) ?_
    have hv := hcb _ (List.getElem_mem hk)
    tm_at "go"
    refine g_ix_l (by tm_at "sq") (atI_of (by omega) (ints_get hk1)) ?_
    have hv1 := hcb _ (List.getElem_mem hk1)
    tm_at "go"
    refine' ⟨_, _, cs.set (1 + (i : Int)).toNat ((cs[(1 + (i : Int)).toNat] + cs[(1 + (i : Int) - 1).toNat] * 16807) % 2147483647), rfl, ?_, by simpa using hcl, ?_⟩
    · rw [List.map_set]
      exact hI.forget (by tm_at "sub")
    · intro x hx
      rcases List.mem_or_eq_of_mem_set hx with e | e
      · exact hcb x e
      · rw [e]
        omega
  rintro σ H ⟨x0, y0, cs, rfl, hI, hcl, hcb⟩
  tm_at "go"
  exact q p cs H hcl hcb hI
def sp_law_begun (K : PySem.W.Frag) : Sp := fun vs H Q _ => vs.length = 1 ∧ ∃ (a : Addr) (ns : List Int) (B : Hp) (L : List (Addr × HO)), vs = [.ref a] ∧ Is B [] L H ∧ SqL K B a (ns.map V.int) ∧ ns.length ≤ 63 ∧
  ∀ (m : Addr) (B' : Hp) (M' : List (Addr × HO)) (H' : Hp), Same B B' → Is B' M' L H' → Dr m 0 B' M' → Q (.ref m) H'
abbrev t_law_begun_0 (K : PySem.W.Frag) : TS := (tRet (tVar 1))
abbrev t_law_begun_1 (K : PySem.W.Frag) : TS := (tSeq (sDPut (tVar 1) (tC (.str "left")) (tLc (iAny K (tVar 0)) (gName 2) tYes (tIf (tTest (tOp (rI0 fun i j => .bl (decide (j ≤ i))) (tVar 2) (tOp (rI CPow fun i j => .int (i ^ j.toNat)) (tC (.int 10)) (tC (.int 18))))) (tVar 2) (tC (.int 0))) [2])) (t_law_begun_0 K))
def t_law_begun (K : PySem.W.Frag) : TS := (tSeq (tAsg (tDisp [((tC (.str "cells")), (tCl 1 0 (sp_law_folded K) (fun vs zs => pick .non [0] (vs ++ zs)) E0 (tCons (tVar 0) tNil) tNil)), ((tC (.str "left")), (tLst tNil)), ((tC (.str "spot")), (tC (.int 0)))]) (gName 1)) (t_law_begun_1 K))
theorem rd_law_begun {K : PySem.W.Frag} (vs : List V) (H : Hp) (Q : VK) (E : XK) (h : sp_law_begun K vs H Q E) : t_law_begun K { nx := fun _ H' => Q .non H', rt := Q } (start ["script", "m", "cell"] vs) H := by
  obtain ⟨_, a, ns, B, L, rfl, hI, ha, hl, q⟩ := h
  show t_law_begun K ⟨_, _, _, _⟩ [some (.ref a), none, none] H
  unfold t_law_begun
  tm_at "go"
  revert p
  intro m hI
  refine' ⟨rfl, a, ns, B, [], _, rfl, hI, ha, hl, ?_⟩
  clear hI
  intro c cs H hcs hcb hI
  tm_at "go"
  refine' g_aLc walk_list hI (by tm_at "wiped") (by rw [List.length_map]; omega) (fun i acc B' M' => B' = B ∧ M' = [] ∧ ∃ ls : List Int, acc = ls.map V.int) ⟨rfl, rfl, [], rfl⟩ (fun _ _ _ _ _ _ _ s hI' _ => Is.sq hI' (Same.seq s ha)) ?_ ?_
  · rintro i x acc B' M' D H' H'' hi s hI' ⟨rfl, rfl, ls, rfl⟩ ⟨rfl, hx⟩ hz
    have hin : i < ns.length := by rwa [List.length_map] at hi
    rw [ints_get hin] at hx
    cases hx
    tm_at "go"
    refine' g_wiped (by tm_at "wiped") ?_
    tm_at "go"
    refine g_dec (fun h => ?_) (fun h => ?_)
    · tm_at "go"
      exact lcY s hI' hz ⟨rfl, rfl, ls ++ [ns[i]], by simp⟩
    · tm_at "go"
      exact lcY s hI' hz ⟨rfl, rfl, ls ++ [0], by simp⟩
  rintro acc B' M' l H' s hI ⟨rfl, rfl, ls, rfl⟩ _
  tm_at "go"
  have hI := hI.pull (a := l) (by tm_at "del")
  have hI := hI.pull (a := m) (by tm_at "del")
  refine' hI.give (a := c) (by tm_at "del") ?_
  clear hI
  intro B2 s2 hc hI
  exact q m B2 _ _ s2 (by tm_at "is") ⟨c, l, cs, ls, 0, rfl, hc, hcs, hcb, by omega, by omega⟩
def Ints (lo hi : Int) (xs : List V) : Prop := ∀ x ∈ xs, ∃ w, x = .int w ∧ lo ≤ w ∧ w ≤ hi
theorem Ints.nil {lo hi : Int} : Ints lo hi [] := fun _ h => by cases h
theorem Ints.cons {lo hi w : Int} {xs : List V} (h : lo ≤ w ∧ w ≤ hi) (t : Ints lo hi xs) : Ints lo hi (.int w :: xs) := fun x hx => by
  rcases List.mem_cons.mp hx with e | e
  · exact ⟨w, e, h⟩
  · exact t x e
theorem g_ix_ints {K : PySem.W.Frag} {H : Hp} {Q : VK} {a : Addr} {xs : List V} {i lo hi : Int} (hs : SqL K H a xs) (h : Ints lo hi xs) (h0 : 0 ≤ i) (h1 : i < (xs.length : Int)) (q : ∀ w, lo ≤ w → w ≤ hi → Q (.int w) H) : rIx K (.ref a) (.int i) H Q := by
  have hl : i.toNat < xs.length := by omega
  obtain ⟨w, e, s1, s2⟩ := h _ (List.getElem_mem hl)
  exact g_ix_l hs (atI_of h0 (by rw [List.getElem?_eq_getElem hl, e])) (q w s1 s2)
inductive Kn where
  | non | bl | int | str | lst | tup | dct | obj
  deriving DecidableEq
def Kn.is : Kn → String → Bool
  | .bl, T => T == "bool" || T == "int"
  | .int, T => T == "int"
  | .str, T => T == "str"
  | .lst, T => T == "list"
  | .tup, T => T == "tuple"
  | _, _ => false
abbrev TYS : List String := ["int", "bool", "str", "list", "tuple"]
def Kn.fits (k : Kn) : V → Prop
  | .non => k = .non
  | .bl _ => k = .bl
  | .int _ => k = .int
  | .str z => k = .str ∧ plainS z
  | .ref _ => k = .lst ∨ k = .tup ∨ k = .dct ∨ k = .obj
  | _ => False
structure Thing (K : PySem.W.Frag) (H : Hp) (x : V) (k : Kn) : Prop where
  ty : ∃ t, TyX K H x t ∧ ∀ T ∈ TYS, PySem.W.kitOne K t (.type T) = some (k.is T)
  fit : k.fits x
theorem TyX.same {K : PySem.W.Frag} {H H' : Hp} {x : V} {t : Value} (s : Same H H') (h : TyX K H x t) : TyX K H' x t := by
  cases h with
  | base b =>
    refine .base ?_
    cases b with
    | non => exact .non
    | bl y => exact .bl y
    | int i => exact .int i
    | str y => exact .str y
    | flt y => exact .flt y
    | lst e => exact .lst (s _ _ e)
    | frz e => exact .frz (s _ _ e)
    | tup e => exact .tup (s _ _ e)
    | dK e => exact .dK (s _ _ e)
    | dT e => exact .dT (s _ _ e)
    | ins e a b c d f => exact .ins (s _ _ e) a b c d f
  | byt b => exact .byt b
  | set e => exact .set (s _ _ e)
  | kList e c => exact .kList e c
  | kTuple e c => exact .kTuple e c
  | kDict e c => exact .kDict e c
  | fTuple e => exact .fTuple (s _ _ e)
  | fDict e => exact .fDict (s _ _ e)
theorem Thing.same {K : PySem.W.Frag} {H H' : Hp} {x : V} {k : Kn} (s : Same H H') (h : Thing K H x k) : Thing K H' x k := by
  obtain ⟨⟨t, h1, h2⟩, f⟩ := h
  exact ⟨⟨t, TyX.same s h1, h2⟩, f⟩
theorem tys_mem {p : String → Prop} (h : p "int" ∧ p "bool" ∧ p "str" ∧ p "list" ∧ p "tuple") : ∀ T ∈ TYS, p T := by
  intro T hT
  obtain ⟨h1, h2, h3, h4, h5⟩ := h
  rcases List.mem_cons.mp hT with rfl | hT
  · exact h1
  rcases List.mem_cons.mp hT with rfl | hT
  · exact h2
  rcases List.mem_cons.mp hT with rfl | hT
  · exact h3
  rcases List.mem_cons.mp hT with rfl | hT
  · exact h4
  rcases List.mem_cons.mp hT with rfl | hT
  · exact h5
  cases hT
section
variable {K : PySem.W.Frag} {H : Hp} {a : Addr} {xs : List V}
theorem thing_non : Thing K H .non .non := ⟨⟨_, .base .non, tys_mem ⟨kit_ty (by decide +kernel), kit_ty (by decide +kernel), kit_ty (by decide +kernel), kit_ty (by decide +kernel), kit_ty (by decide +kernel)⟩⟩, rfl⟩
theorem thing_bl (b : Bool) : Thing K H (.bl b) .bl := ⟨⟨_, .base (.bl b), tys_mem ⟨kit_ty (by decide +kernel), kit_ty (by decide +kernel), kit_ty (by decide +kernel), kit_ty (by decide +kernel), kit_ty (by decide +kernel)⟩⟩, rfl⟩
theorem thing_int (i : Int) : Thing K H (.int i) .int := ⟨⟨_, .base (.int i), tys_mem ⟨kit_ty (by decide +kernel), kit_ty (by decide +kernel), kit_ty (by decide +kernel), kit_ty (by decide +kernel), kit_ty (by decide +kernel)⟩⟩, rfl⟩
theorem thing_str {z : Str} (h : plainS z) : Thing K H (.str z) .str := ⟨⟨_, .base (.str z), tys_mem ⟨kit_ty (by decide +kernel), kit_ty (by decide +kernel), kit_ty (by decide +kernel), kit_ty (by decide +kernel), kit_ty (by decide +kernel)⟩⟩, rfl, h⟩
theorem kit_list : ∀ T ∈ TYS, PySem.W.kitOne K (.type "list") (.type T) = some (Kn.lst.is T) := tys_mem ⟨kit_ty (by decide +kernel), kit_ty (by decide +kernel), kit_ty (by decide +kernel), kit_ty (by decide +kernel), kit_ty (by decide +kernel)⟩
theorem kit_tuple : ∀ T ∈ TYS, PySem.W.kitOne K (.type "tuple") (.type T) = some (Kn.tup.is T) := tys_mem ⟨kit_ty (by decide +kernel), kit_ty (by decide +kernel), kit_ty (by decide +kernel), kit_ty (by decide +kernel), kit_ty (by decide +kernel)⟩
theorem kit_dict : ∀ T ∈ TYS, PySem.W.kitOne K (.type "dict") (.type T) = some (Kn.dct.is T) := tys_mem ⟨kit_ty (by decide +kernel), kit_ty (by decide +kernel), kit_ty (by decide +kernel), kit_ty (by decide +kernel), kit_ty (by decide +kernel)⟩
theorem thing_lst (h : H a = some (.lst xs)) : Thing K H (.ref a) .lst := ⟨⟨_, .base (.lst h), kit_list⟩, .inl rfl⟩
theorem thing_tup (h : H a = some (.tup xs)) : Thing K H (.ref a) .tup := ⟨⟨_, .base (.tup h), kit_tuple⟩, .inr (.inl rfl)⟩
theorem thing_dct {kvs : List (Key × V)} (h : H a = some (.dK kvs)) : Thing K H (.ref a) .dct := ⟨⟨_, .base (.dK h), kit_dict⟩, .inr (.inr (.inl rfl))⟩
theorem g_isi {x : V} {k : Kn} {T : String} {Q : VK} (h : Thing K H x k) (hT : T ∈ TYS) (q : Q (.bl (k.is T)) H) : rIsi K [x, .ty T] H Q := by
  obtain ⟨⟨t, h1, h2⟩, _⟩ := h
  exact ⟨x, .ty T, t, _, _, rfl, .ty T, h1, h2 T hT, q⟩
theorem g_isiT {x : V} {k : Kn} {T : String} {Q : VK} (h : Thing K H x k) (hT : T ∈ TYS) (e : k.is T = true) (q : Q (.bl true) H) : rIsi K [x, .ty T] H Q := g_isi h hT (by rw [e]; exact q)
theorem g_isiF {x : V} {k : Kn} {T : String} {Q : VK} (h : Thing K H x k) (hT : T ∈ TYS) (e : k.is T = false) (q : Q (.bl false) H) : rIsi K [x, .ty T] H Q := g_isi h hT (by rw [e]; exact q)
theorem kit_of {t : Value} {k : Kn} {T : String} (h : ∀ T ∈ TYS, PySem.W.kitOne K t (.type T) = some (k.is T)) (hT : T ∈ TYS) : PySem.W.kitOne K t (.type T) = some (k.is T) := h T hT
/-- isinstance of one of two -/
theorem g_isi2 {x : V} {k : Kn} {T1 T2 : String} {tp : Addr} {Q : VK} (ht : H tp = some (.tup [.ty T1, .ty T2])) (h : Thing K H x k) (m1 : T1 ∈ TYS) (m2 : T2 ∈ TYS) (q : Q (.bl (k.is T1 || k.is T2)) H) : rIsiT K [x, .ref tp] H Q := by
  obtain ⟨⟨t, h1, h2⟩, _⟩ := h
  refine ⟨x, tp, _, t, _, k.is T1 || k.is T2, rfl, ht, .cons (.ty T1) (.cons (.ty T2) .nil), h1, ?_, q⟩
  refine kitAny_cons (kit_of h2 m1) (fun e => ?_) (fun e => by rw [e]; rfl)
  rw [e, Bool.false_or]
  exact kitAny_cons (kit_of h2 m2) (fun e => by rw [e]; rfl) (fun e => e)
theorem g_isi2T {x : V} {k : Kn} {T1 T2 : String} {tp : Addr} {Q : VK} (ht : H tp = some (.tup [.ty T1, .ty T2])) (h : Thing K H x k) (m1 : T1 ∈ TYS) (m2 : T2 ∈ TYS) (e : (k.is T1 || k.is T2) = true) (q : Q (.bl true) H) : rIsiT K [x, .ref tp] H Q := g_isi2 ht h m1 m2 (by rw [e]; exact q)
theorem g_isi2F {x : V} {k : Kn} {T1 T2 : String} {tp : Addr} {Q : VK} (ht : H tp = some (.tup [.ty T1, .ty T2])) (h : Thing K H x k) (m1 : T1 ∈ TYS) (m2 : T2 ∈ TYS) (e : (k.is T1 || k.is T2) = false) (q : Q (.bl false) H) : rIsiT K [x, .ref tp] H Q := g_isi2 ht h m1 m2 (by rw [e]; exact q)
theorem Thing.cases {x : V} {k : Kn} (h : Thing K H x k) {G : Prop} (h1 : x = .non → k = .non → G) (h2 : ∀ b, x = .bl b → k = .bl → G) (h3 : ∀ i, x = .int i → k = .int → G) (h4 : ∀ z, x = .str z → k = .str → plainS z → G)
    (h5 : ∀ a, x = .ref a → (k = .lst ∨ k = .tup ∨ k = .dct ∨ k = .obj) → G) : G := by
  have f := h.fit
  cases x with
  | non => exact h1 rfl f
  | bl b => exact h2 b rfl f
  | int i => exact h3 i rfl f
  | str z => exact h4 z rfl f.1 f.2
  | ref a => exact h5 a rfl f
  | _ => exact f.elim
theorem Kn.noInt {k : Kn} (h : k = .lst ∨ k = .tup ∨ k = .dct ∨ k = .obj) : k.is "int" = false ∧ k.is "bool" = false ∧ k.is "str" = false := by
  rcases h with rfl | rfl | rfl | rfl <;> decide
end
def isWhole (x : V) (lo hi : Int) : Bool := match x with
  | .int n => decide (lo ≤ n) && decide (n ≤ hi)
  | _ => false
def sp_is_whole (K : PySem.W.Frag) : Sp := fun vs H Q _ => vs.length = 3 ∧ ∃ (x : V) (k : Kn) (lo hi : Int), vs = [x, .int lo, .int hi] ∧ Thing K H x k ∧ Q (.bl (isWhole x lo hi)) H
def t_is_whole (K : PySem.W.Frag) : TS := (tRet (tAndV (tCB (rIsi K) (tCons (tVar 0) (tCons (tC (.ty "int")) tNil))) (tAndV (tNotV (tCB (rIsi K) (tCons (tVar 0) (tCons (tC (.ty "bool")) tNil)))) (tChain (rI0 fun i j => .bl (decide (i ≤ j))) (rI0 fun i j => .bl (decide (i ≤ j))) (tVar 1) (tVar 0) (tVar 2)))))
theorem rd_is_whole {K : PySem.W.Frag} (vs : List V) (H : Hp) (Q : VK) (E : XK) (h : sp_is_whole K vs H Q E) : t_is_whole K { nx := fun _ H' => Q .non H', rt := Q } (start ["thing", "least", "most"] vs) H := by
  obtain ⟨_, x, k, lo, hi, rfl, hx, q⟩ := h
  show t_is_whole K ⟨_, _, _, _⟩ [some x, some (.int lo), some (.int hi)] H
  unfold t_is_whole
  tm_at "go"
  refine hx.cases ?_ ?_ ?_ ?_ ?_
  · rintro rfl rfl
    tm_at "go"
    exact q
  · rintro b rfl rfl
    tm_at "go"
    exact q
  · rintro n rfl rfl
    tm_at "go"
    refine g_dec (fun h => ?_) (fun h => ?_)
    · tm_at "go"
      have e : isWhole (.int n) lo hi = decide (n ≤ hi) := by
        show (decide (lo ≤ n) && decide (n ≤ hi)) = _
        rw [decide_eq_true h, Bool.true_and]
      rw [e] at q
      exact q
    · tm_at "go"
      have e : isWhole (.int n) lo hi = false := by
        show (decide (lo ≤ n) && decide (n ≤ hi)) = _
        rw [decide_eq_false h, Bool.false_and]
      rw [e] at q
      exact q
  · rintro z rfl rfl hp
    tm_at "go"
    exact q
  · rintro a rfl hk
    refine g_isiF hx (by decide) (Kn.noInt hk).1 ?_
    tm_at "go"
    exact q
def letS : Str := "abcdefghijklmnopqrstuvwxyz"
def barVs : List V := [.str "style", .str "job", .str "round", .str "sew", .str "glue", .str "cover", .str "letter", .str "press", .str "hand", .str "haste"]
def isName (x : V) : Bool := match x with
  | .str z => decide (1 ≤ (z.length : Int)) && (decide ((z.length : Int) ≤ 8) && (!inV (.str z) barVs && z.cps.toList.all fun c => decide (c ∈ letS.cps.toList)))
  | _ => false
def sp_is_name (K : PySem.W.Frag) : Sp := fun vs H Q _ => vs.length = 1 ∧ ∃ (x : V) (k : Kn) (B : Hp) (M L : List (Addr × HO)), vs = [x] ∧ Is B M L H ∧ Thing K H x k ∧ ∀ H', Is B M L H' → Q (.bl (isName x)) H'
abbrev t_is_name_0 (K : PySem.W.Frag) : TS := (tRet (tCB (rAll K) (tCons (tLc (iAny K (tVar 0)) (gName 1) tYes (tOp (rInA K) (tVar 1) (tC (.str "abcdefghijklmnopqrstuvwxyz"))) [1]) tNil)))
def t_is_name (K : PySem.W.Frag) : TS := (tSeq (tIfS (tOr (tNot (tTr K (tCB (rIsi K) (tCons (tVar 0) (tCons (tC (.ty "str")) tNil))))) (tOr (tNot (tTest (tChain (rI0 fun i j => .bl (decide (i ≤ j))) (rI0 fun i j => .bl (decide (i ≤ j))) (tC (.int 1)) (tCB (rLen K) (tCons (tVar 0) tNil)) (tC (.int 8))))) (tTest (tOp (rInA K) (tVar 0) (tC (.ref (He.ga K "BARRED_WORDS"))))))) (tRet (tC (.bl false))) tNext) (t_is_name_0 K))
theorem rd_is_name {K : PySem.W.Frag} (hbar : ∀ H, SqT K H (He.ga K "BARRED_WORDS") barVs) (vs : List V) (H : Hp) (Q : VK) (E : XK) (h : sp_is_name K vs H Q E) : t_is_name K { nx := fun _ H' => Q .non H', rt := Q } (start ["thing", "sign"] vs) H := by
  obtain ⟨_, x, k, B, M, L, rfl, hI, hx, q⟩ := h
  show t_is_name K ⟨_, _, _, _⟩ [some x, none] H
  unfold t_is_name
  tm_at "go"
  refine hx.cases ?_ ?_ ?_ ?_ ?_
  · rintro rfl rfl
    tm_at "go"
    exact q _ hI
  · rintro b rfl rfl
    tm_at "go"
    exact q _ hI
  · rintro n rfl rfl
    tm_at "go"
    exact q _ hI
  · rintro z rfl rfl hp
    tm_at "go"
    have qq : Q (.bl (decide (1 ≤ (z.length : Int)) && (decide ((z.length : Int) ≤ 8) && (!inV (.str z) barVs && z.cps.toList.all fun c => decide (c ∈ letS.cps.toList))))) = Q (.bl (isName (.str z))) := rfl
    refine g_dec (fun h1 => ?_) (fun h1 => ?_)
    · tm_at "go"
      refine g_ndec (fun h2 => ?_) (fun h2 => ?_)
      · tm_at "go"
        have := q _ hI
        rw [← qq, decide_eq_true h1, decide_eq_false h2] at this
        exact this
      · tm_at "go"
        refine g_in_t (hbar H) rfl (by decide +kernel) ?_
        tm_at "go"
        refine g_b (fun h3 => ?_) (fun h3 => ?_)
        · tm_at "go"
          have := q _ hI
          rw [← qq, decide_eq_true h1, decide_eq_true h2, h3] at this
          exact this
        · tm_at "go"
          refine' g_lcS1 hI (by tm_at "wiped") (Nat.le_trans hp.1 (by decide)) (fun c => .bl (decide (c ∈ letS.cps.toList))) ?_ ?_
          · intro c D acc H' hc hI' PY hY
            tm_at "go"
            refine' g_wiped (by tm_at "wiped") ?_
            tm_at "go"
            exact hY _ hI'
          · intro D H' hI'
            tm_at "go"
            refine g_all (by tm_at "sq") ?_
            have := q _ (hI'.forget (by tm_at "sub"))
            rw [← qq, decide_eq_true h1, decide_eq_true h2, h3] at this
            exact this
    · tm_at "go"
      have := q _ hI
      rw [← qq, decide_eq_false h1] at this
      exact this
  · rintro a rfl hk
    refine g_isiF hx (by decide) (Kn.noInt hk).2.2 ?_
    tm_at "go"
    exact q _ hI
def Lets (n : Nat) (z : Str) : Prop := z.length ≤ n ∧ ∀ c ∈ z.cps.toList, c ∈ letS.cps.toList
theorem Lets.mono {n m : Nat} {z : Str} (h : Lets n z) (hn : n ≤ m) : Lets m z := ⟨Nat.le_trans h.1 hn, h.2⟩
theorem Lets.add {n m : Nat} {x y : Str} (h1 : Lets n x) (h2 : Lets m y) : Lets (n + m) (x ++ y) := by
  refine ⟨by rw [len_app]; have := h1.1; have := h2.1; omega, fun c hc => ?_⟩
  rw [cps_app] at hc
  rcases List.mem_append.mp hc with h | h
  · exact h1.2 c h
  · exact h2.2 c h
theorem letS_bd : ∀ c ∈ letS.cps.toList, c < 128 := by decide +kernel
theorem Lets.sh {n : Nat} {z : Str} (h : Lets n z) : Sh n z := ⟨h.1, fun c hc => letS_bd c (h.2 c hc)⟩
theorem Lets.sign {c : Nat} (h : c ∈ letS.cps.toList) : Lets 1 ⟨#[c]⟩ := by
  refine ⟨Nat.le_refl _, fun d hd => ?_⟩
  have : d = c := by simpa using hd
  rw [this]
  exact h
theorem Lets.name {n : Nat} {z : Str} (h : Lets n z) (hn : n ≤ 8) (h1 : 1 ≤ z.length) (hb : inV (.str z) barVs = false) : isName (.str z) = true := by
  show (decide (1 ≤ (z.length : Int)) && (decide ((z.length : Int) ≤ 8) && (!inV (.str z) barVs && z.cps.toList.all fun c => decide (c ∈ letS.cps.toList)))) = true
  have := h.1
  rw [decide_eq_true (by omega), decide_eq_true (by omega), hb, List.all_eq_true.mpr fun c hc => decide_eq_true (h.2 c hc)]
  rfl
/-- a name as a round wants it -/
def IsNm (x : V) : Prop := ∃ z, x = .str z ∧ isName (.str z) = true ∧ plainS z
def STR : List Int := [1, 3, 5, 7, 9, 11, 15, 17, 19, 21, 23, 25]
theorem g_ix_in {K : PySem.W.Frag} {H : Hp} {Q : VK} {a : Addr} {ns : List Int} {i : Int} (hs : SqL K H a (ns.map V.int)) (h0 : 0 ≤ i) (h1 : i < (ns.length : Int)) (q : ∀ n, n ∈ ns → Q (.int n) H) : rIx K (.ref a) (.int i) H Q := by
  have hl : i.toNat < ns.length := by omega
  exact g_ix_l hs (atI_of h0 (by rw [List.getElem?_map, List.getElem?_eq_getElem hl]; rfl)) (q _ (List.getElem_mem hl))
theorem atI_back {α : Type} {xs : List α} {a : α} (h0 : 0 < xs.length) (h : xs[xs.length - 1]? = some a) : atI xs (-1) = some a := by
  unfold atI ixN
  rw [if_neg (by decide), if_pos (by omega)]
  show xs[((-1 : Int) + (xs.length : Int)).toNat]? = _
  rw [show ((-1 : Int) + (xs.length : Int)).toNat = xs.length - 1 by omega]
  exact h
theorem last_app {x y : Str} {c : Nat} (h : y.cps.toList.getLast? = some c) : (x ++ y).cps.toList.getLast? = some c := by
  rw [cps_app, List.getLast?_append, h]
  rfl
def VowS (n : Nat) (z : Str) : Prop := Lets (2 + n) z ∧ 2 ≤ z.length ∧ ∀ c ∈ z.cps.toList.drop 2, c ∈ [97, 101, 105, 111, 117]
theorem VowS.add {n : Nat} {z : Str} {c : Nat} (h : VowS n z) (hc : c ∈ [97, 101, 105, 111, 117]) (hl : Lets 1 (⟨#[c]⟩ : Str)) : VowS (n + 1) (z ++ ⟨#[c]⟩) := by
  obtain ⟨h1, h2, h3⟩ := h
  refine ⟨(h1.add hl).mono (by omega), by rw [len_app]; omega, fun d hd => ?_⟩
  have hz : 2 ≤ z.cps.toList.length := by rw [← len_cps]; exact h2
  rw [cps_app, List.drop_append_of_le_length hz] at hd
  rcases List.mem_append.mp hd with h | h
  · exact h3 d h
  · have : d = c := by simpa using h
    rw [this]
    exact hc
theorem VowS.bar {n : Nat} {z : Str} (h : VowS n z) (hg : z ≠ "glue") : inV (.str z) barVs = false := by
  cases hb : inV (.str z) barVs with
  | false => rfl
  | true =>
    exfalso
    unfold inV at hb
    obtain ⟨y, hy, e⟩ := List.any_eq_true.mp hb
    have key : ∀ y ∈ barVs, ∃ w : Str, y = .str w ∧ (w = "glue" ∨ ∃ c ∈ w.cps.toList.drop 2, c ∉ [97, 101, 105, 111, 117]) := by
      intro y hy
      have : y ∈ [V.str "style", .str "job", .str "round", .str "sew", .str "glue", .str "cover", .str "letter", .str "press", .str "hand", .str "haste"] := hy
      simp only [List.mem_cons, List.not_mem_nil, or_false] at this
      rcases this with rfl | rfl | rfl | rfl | rfl | rfl | rfl | rfl | rfl | rfl
      · exact ⟨_, rfl, .inr (by decide +kernel)⟩
      · exact ⟨_, rfl, .inr (by decide +kernel)⟩
      · exact ⟨_, rfl, .inr (by decide +kernel)⟩
      · exact ⟨_, rfl, .inr (by decide +kernel)⟩
      · exact ⟨_, rfl, .inl rfl⟩
      · exact ⟨_, rfl, .inr (by decide +kernel)⟩
      · exact ⟨_, rfl, .inr (by decide +kernel)⟩
      · exact ⟨_, rfl, .inr (by decide +kernel)⟩
      · exact ⟨_, rfl, .inr (by decide +kernel)⟩
      · exact ⟨_, rfl, .inr (by decide +kernel)⟩
    obtain ⟨w, rfl, hw⟩ := key y hy
    have e2 : w = z := eq_of_beq (show (w == z) = true from e)
    subst e2
    rcases hw with hw | ⟨c, h1, h2⟩
    · exact hg hw
    · exact h2 (h.2.2 c h1)
theorem bar_y {z : Str} : inV (.str (z ++ "y")) barVs = false := by
  cases hb : inV (.str (z ++ "y")) barVs with
  | false => rfl
  | true =>
    exfalso
    unfold inV at hb
    obtain ⟨y, hy, e⟩ := List.any_eq_true.mp hb
    have key : ∀ y ∈ barVs, ∃ w : Str, y = .str w ∧ w.cps.toList.getLast? ≠ some 121 := by
      intro y hy
      have : y ∈ [V.str "style", .str "job", .str "round", .str "sew", .str "glue", .str "cover", .str "letter", .str "press", .str "hand", .str "haste"] := hy
      simp only [List.mem_cons, List.not_mem_nil, or_false] at this
      rcases this with rfl | rfl | rfl | rfl | rfl | rfl | rfl | rfl | rfl | rfl <;> exact ⟨_, rfl, by decide +kernel⟩
    obtain ⟨w, rfl, hw⟩ := key y hy
    have e2 : w = z ++ "y" := eq_of_beq (show (w == z ++ "y") = true from e)
    rw [e2] at hw
    exact hw (last_app (by decide +kernel))
def NmY (x : V) : Prop := ∃ z, x = .str z ∧ Lets 8 z ∧ 1 ≤ z.length ∧ inV (.str z) barVs = false
theorem NmY.nm {x : V} (h : NmY x) : IsNm x := by
  obtain ⟨z, rfl, h1, h2, h3⟩ := h
  exact ⟨z, rfl, h1.name (Nat.le_refl _) h2 h3, h1.sh.plain (by decide)⟩
def sp_law_called (K : PySem.W.Frag) : Sp := fun vs H Q _ => vs.length = 2 ∧ ∃ (m : Addr) (many n : Int) (B : Hp) (M L : List (Addr × HO)), vs = [.ref m, .int many] ∧ Is B M L H ∧ Dr m n B M ∧ n < 2 ^ 39 ∧ 0 ≤ many ∧ many < 1000 ∧
  ∀ (p : Addr) (xs : List V) (H' : Hp) (M' : List (Addr × HO)), Is B M' ((p, .lst xs) :: L) H' → Dr m (n + 2 + 8 * many) B M' → (∀ x ∈ xs, IsNm x) → (xs.length : Int) = many → Q (.ref p) H'
theorem ap_law_called {K : PySem.W.Frag} {B H : Hp} {M L : List (Addr × HO)} {Q : VK} {E : XK} {n : Int} {m : Addr} {many : Int} (I : Is B M L H) (d : Dr m n B M) (h : n < 2 ^ 39) (h0 : 0 ≤ many) (h1 : many < 1000) (q : ∀ (p : Addr) (xs : List V) (H' : Hp) (M' : List (Addr × HO)), Is B M' ((p, .lst xs) :: L) H' → Dr m (n + 2 + 8 * many) B M' → (∀ x ∈ xs, IsNm x) → (xs.length : Int) = many → Q (.ref p) H') : sp_law_called K [.ref m, .int many] H Q E :=
  ⟨rfl, m, many, n, B, M, L, rfl, I, d, h, h0, h1, q⟩
abbrev t_law_called_0 (K : PySem.W.Frag) : TS := (tAsg (tOp (rAddA K) (tVar 7) (tOp (rIx K) (tC (.str "aeiou")) (tCl 2 0 (sp_law_draw K) (fun vs zs => pick .non [0, 1] (vs ++ zs)) E0 (tCons (tVar 0) (tCons (tC (.int 5)) tNil)) tNil))) (gName 7))
abbrev t_law_called_1 (K : PySem.W.Frag) : TS := (tDrop (tBM K "list" rAppend (tVar 3) (tCons (tVar 7) tNil)))
abbrev t_law_called_2 (K : PySem.W.Frag) : TS := (tSeq (tIfS (tAnd (tTest (tOp (rEqA K) (tOp (rI (fun _ j => 0 < j) fun i j => .int (i % j)) (tVar 6) (tC (.int 2))) (tC (.int 1)))) (tTest (tOp (rEqA K) (tCl 2 0 (sp_law_draw K) (fun vs zs => pick .non [0, 1] (vs ++ zs)) E0 (tCons (tVar 0) (tCons (tC (.int 5)) tNil)) tNil) (tC (.int 0))))) (tAsg (tOp (rAddA K) (tSl (rSlA K) (tOp (rIx K) (tVar 3) (tUn (rU fun i => .int (-i)) (tC (.int 1)))) tNoPart (tPart (tC (.int 7)))) (tC (.str "y"))) (gName 7)) tNext) (t_law_called_1 K))
abbrev t_law_called_3 (K : PySem.W.Frag) : TS := (tSeq (tIfS (tTest (tOp (rEqA K) (tVar 7) (tC (.str "glue")))) (tAsg (tC (.str "gluea")) (gName 7)) tNext) (t_law_called_2 K))
abbrev t_law_called_4 (K : PySem.W.Frag) : TS := (tSeq (tFor (iRng1 (tCons (tOp (rIx K) (tLst (tCons (tC (.int 0)) (tCons (tC (.int 0)) (tCons (tC (.int 1)) (tCons (tCl 2 0 (sp_law_draw K) (fun vs zs => pick .non [0, 1] (vs ++ zs)) E0 (tCons (tVar 0) (tCons (tC (.int 6)) tNil)) tNil) tNil))))) (tCl 2 0 (sp_law_draw K) (fun vs zs => pick .non [0, 1] (vs ++ zs)) E0 (tCons (tVar 0) (tCons (tC (.int 4)) tNil)) tNil)) tNil)) (gName 8) (t_law_called_0 K)) (t_law_called_3 K))
abbrev t_law_called_5 (K : PySem.W.Frag) : TS := (tSeq (tAsg (tOp (rAddA K) (tVar 7) (tOp (rIx K) (tVar 2) (tOp (rI (fun _ j => 0 < j) fun i j => .int (i % j)) (tOp (rAddA K) (tVar 4) (tOp (rI CDiv fun i j => .int (i / j)) (tVar 6) (tC (.int 26)))) (tC (.int 26))))) (gName 7)) (t_law_called_4 K))
abbrev t_law_called_6 (K : PySem.W.Frag) : TS := (tSeq (tAsg (tOp (rIx K) (tVar 2) (tOp (rI (fun _ j => 0 < j) fun i j => .int (i % j)) (tOp (rAddA K) (tVar 4) (tOp rMulA (tVar 5) (tVar 6))) (tC (.int 26)))) (gName 7)) (t_law_called_5 K))
abbrev t_law_called_7 (K : PySem.W.Frag) : TS := (tRet (tVar 3))
abbrev t_law_called_8 (K : PySem.W.Frag) : TS := (tSeq (tFor (iRng1 (tCons (tVar 1) tNil)) (gName 6) (t_law_called_6 K)) (t_law_called_7 K))
abbrev t_law_called_9 (K : PySem.W.Frag) : TS := (tSeq (tAsg (tOp (rIx K) (tLst (tCons (tC (.int 1)) (tCons (tC (.int 3)) (tCons (tC (.int 5)) (tCons (tC (.int 7)) (tCons (tC (.int 9)) (tCons (tC (.int 11)) (tCons (tC (.int 15)) (tCons (tC (.int 17)) (tCons (tC (.int 19)) (tCons (tC (.int 21)) (tCons (tC (.int 23)) (tCons (tC (.int 25)) tNil))))))))))))) (tCl 2 0 (sp_law_draw K) (fun vs zs => pick .non [0, 1] (vs ++ zs)) E0 (tCons (tVar 0) (tCons (tC (.int 12)) tNil)) tNil)) (gName 5)) (t_law_called_8 K))
abbrev t_law_called_10 (K : PySem.W.Frag) : TS := (tSeq (tAsg (tCl 2 0 (sp_law_draw K) (fun vs zs => pick .non [0, 1] (vs ++ zs)) E0 (tCons (tVar 0) (tCons (tC (.int 26)) tNil)) tNil) (gName 4)) (t_law_called_9 K))
def t_law_called (K : PySem.W.Frag) : TS := (tSeq (tPar 2 3 (tCons (tC (.str "abcdefghijklmnopqrstuvwxyz")) (tCons (tLst tNil) tNil))) (t_law_called_10 K))
def PvC (m : Addr) (many n : Int) (B : Hp) (L : List (Addr × HO)) (found : Addr) (shift stride : Int) (i : Nat) (σ : St) (H : Hp) : Prop :=
  ∃ (a b c : Option V) (M : List (Addr × HO)) (xs : List V), σ = [some (.ref m), some (.int many), some (.str "abcdefghijklmnopqrstuvwxyz"), some (.ref found), some (.int shift), some (.int stride), a, b, c] ∧
    Is B M ((found, .lst xs) :: L) H ∧ Dr m (n + 2 + 8 * (i : Int)) B M ∧ (∀ x ∈ xs, NmY x) ∧ xs.length = i
theorem rd_law_called {K : PySem.W.Frag} (vs : List V) (H : Hp) (Q : VK) (E : XK) (h : sp_law_called K vs H Q E) : t_law_called K { nx := fun _ H' => Q .non H', rt := Q } (start ["m", "many", "letters", "found", "shift", "stride", "k", "said", "j"] vs) H := by
  obtain ⟨_, m, many, n, B, M, L, rfl, hI, hd, h1, h2, h3, q⟩ := h
  show t_law_called K ⟨_, _, _, _⟩ [some (.ref m), some (.int many), none, none, none, none, none, none, none] H
  unfold t_law_called
  have hlet : Sh 26 ("abcdefghijklmnopqrstuvwxyz" : Str) := Sh.lit (by decide +kernel)
  have hlet2 : ("abcdefghijklmnopqrstuvwxyz" : Str).length = 26 := by decide +kernel
  have hlet3 : ∀ c ∈ ("abcdefghijklmnopqrstuvwxyz" : Str).cps.toList, Lets 1 ⟨#[c]⟩ := fun c hc => Lets.sign hc
  have hvow : Sh 5 ("aeiou" : Str) := Sh.lit (by decide +kernel)
  have hvow2 : ("aeiou" : Str).length = 5 := by decide +kernel
  have hvow3 : ∀ c ∈ ("aeiou" : Str).cps.toList, c ∈ [97, 101, 105, 111, 117] ∧ c ∈ letS.cps.toList := by decide +kernel
  have hy : Lets 1 ("y" : Str) := ⟨by decide +kernel, by decide +kernel⟩
  tm_at "go"
  obtain ⟨found, rfl⟩ : ∃ q, q = p := ⟨_, rfl⟩
  tm_at "draw"
  revert r
  intro shift hs0 hs1
  tm_at "go"
  tm_at "draw"
  tm_at "go"
  refine g_ix_in (ns := STR) (by tm_at "sq") hr0 (by simp only [STR, List.length_cons, List.length_nil]; omega) ?_
  intro stride hst
  tm_at "go"
  have hI := hI.forget (L' := (found, .lst []) :: L) (by tm_at "sub")
  refine' g_aFor walk_range (PvC m many n B L found shift stride)
    ⟨_, _, _, _, [], rfl, hI, hd.mono (by omega), (fun _ h => by cases h), rfl⟩ (fun _ _ _ _ _ => trivial) ?_ ?_
  · rintro i x σ H H' hi ⟨a, b, c, M, xs, rfl, hI, hd, hx, hl⟩ ⟨rfl, hy'⟩
    have hi : i < many.toNat := hi
    have hy' : x = .int (i : Int) := by
      rw [hy']
      show V.int (0 + (i : Int)) = _
      rw [Int.zero_add]
    subst hy'
    tm_at "go"
    refine g_ix_sh hlet (by decide) (Int.emod_nonneg _ (by decide)) (by rw [hlet2]; exact Int.emod_lt_of_pos _ (by decide)) ?_
    intro c1 hc1 _
    have hl1 := hlet3 c1 hc1
    tm_at "go"
    refine g_ix_sh hlet (by decide) (Int.emod_nonneg _ (by decide)) (by rw [hlet2]; exact Int.emod_lt_of_pos _ (by decide)) ?_
    intro c2 hc2 _
    have hl2 := hlet3 c2 hc2
    refine g_add_sh hl1.sh hl2.sh (by decide) ?_
    intro _
    have hsaid : VowS 0 ((⟨#[c1]⟩ : Str) ++ ⟨#[c2]⟩) := ⟨hl1.add hl2, Nat.le_refl _, fun d hd => by cases hd⟩
    generalize ((⟨#[c1]⟩ : Str) ++ ⟨#[c2]⟩) = said0 at *
    tm_at "go"
    tm_at "draw"
    revert r
    intro r6 h60 h61
    tm_at "go"
    tm_at "draw"
    refine g_ix_ints (lo := 0) (hi := 5) (by tm_at "sq") (by repeat (first | exact Ints.nil | refine Ints.cons (by omega) ?_)) hr0 (by tm_at "arith") ?_
    intro w hw0 hw1
    tm_at "go"
    have hI := hI.forget (L' := (found, .lst xs) :: L) (by tm_at "sub")
    have hd : Dr m (n + 2 + 8 * (i : Int) + 2 + ((0 : Nat) : Int)) B M := hd.mono (by omega)
    have key1 : ∀ (bk : St → Hp → Prop) (said : Str) (d : Option V) (H : Hp) (M : List (Addr × HO)), Is B M ((found, .lst xs) :: L) H → Dr m (n + 2 + 8 * (i : Int) + 8) B M → NmY (.str said) →
        t_law_called_1 K ⟨PvC m many n B L found shift stride (i + 1), Q, bk, PvC m many n B L found shift stride (i + 1)⟩
          [some (.ref m), some (.int many), some (.str "abcdefghijklmnopqrstuvwxyz"), some (.ref found), some (.int shift), some (.int stride), some (.int (i : Int)), some (.str said), d] H := by
      intro bk said d H M hI hd hs
      tm_at "go"
      refine ⟨_, _, _, M, _, rfl, hI, hd.mono (by omega), (fun x hx' => ?_), by simp [hl]⟩
      rcases List.mem_append.mp hx' with h | h
      · exact hx x h
      · rw [List.mem_singleton.mp h]
        exact hs
    have key2 : ∀ (bk : St → Hp → Prop) (said : Str) (d : Option V) (H : Hp) (M : List (Addr × HO)), Is B M ((found, .lst xs) :: L) H → Dr m (n + 2 + 8 * (i : Int) + 7) B M → NmY (.str said) →
        t_law_called_2 K ⟨PvC m many n B L found shift stride (i + 1), Q, bk, PvC m many n B L found shift stride (i + 1)⟩
          [some (.ref m), some (.int many), some (.str "abcdefghijklmnopqrstuvwxyz"), some (.ref found), some (.int shift), some (.int stride), some (.int (i : Int)), some (.str said), d] H := by
      intro bk said d H M hI hd hs
      tm_at "go"
      refine g_dec (fun h => ?_) (fun h => ?_)
      · have ho : i % 2 = 1 := by
          have : (i : Int) % 2 = 1 := V.int.inj h
          omega
        tm_at "go"
        tm_at "draw"
        tm_at "go"
        refine g_dec (fun h5 => ?_) (fun h5 => ?_)
        · tm_at "go"
          obtain ⟨x, hxx⟩ : ∃ x, xs[xs.length - 1]? = some x := ⟨_, List.getElem?_eq_getElem (by omega)⟩
          obtain ⟨z, rfl, hz, hz1, _⟩ := hx _ (List.mem_of_getElem? hxx)
          refine g_ix_l (by tm_at "sq") (atI_back (by omega) hxx) ?_
          tm_at "go"
          refine g_sl_sh hz.sh (by decide) fun hcut => ?_
          have h7 : Sh 7 (cutS z none (some 7)) := hz.sh.cut_to (k := 7) none
          have hL : Lets 7 (cutS z none (some 7)) := ⟨h7.1, fun c hc => hz.2 c (List.mem_of_mem_drop (List.mem_of_mem_take hc))⟩
          tm_at "go"
          refine g_add_sh h7 hy.sh (by decide) fun _ => ?_
          tm_at "stop"
          exact key1 _ _ _ _ _ hI (hd.mono (by omega)) ⟨_, rfl, (hL.add hy).mono (by decide), by rw [len_app]; exact Nat.le_trans (show 1 ≤ ("y" : Str).length by decide +kernel) (Nat.le_add_left _ _), bar_y⟩
        · tm_at "next"
          exact key1 _ _ _ _ _ hI (hd.mono (by omega)) hs
      · tm_at "next"
        exact key1 _ _ _ _ _ hI (hd.mono (by omega)) hs
    refine' g_aFor walk_range (fun j σ H => ∃ (s : Str) (c : Option V) (M : List (Addr × HO)), σ = [some (.ref m), some (.int many), some (.str "abcdefghijklmnopqrstuvwxyz"), some (.ref found), some (.int shift), some (.int stride), some (.int (i : Int)), some (.str s), c] ∧
      Is B M ((found, .lst xs) :: L) H ∧ Dr m (n + 2 + 8 * (i : Int) + 2 + (j : Int)) B M ∧ VowS j s)
      ⟨_, _, _, rfl, hI, hd, hsaid⟩ (fun _ _ _ _ _ => trivial) ?_ ?_
    · rintro j x σ H H' hj ⟨s, c, M, rfl, hI, hd, hs⟩ ⟨rfl, rfl⟩
      have hj : j < w.toNat := hj
      tm_at "go"
      tm_at "draw"
      refine g_ix_sh hvow (by decide) (by omega) (by rw [hvow2]; omega) ?_
      intro c3 hc3 _
      obtain ⟨hv1, hv2⟩ := hvow3 c3 hc3
      have hs3 := Lets.sign hv2
      refine g_add_sh hs.1.sh hs3.sh (by omega) ?_
      intro _
      tm_at "go"
      exact ⟨_, _, M, rfl, hI, hd.mono (by omega), hs.add hv1 hs3⟩
    · rintro σ H ⟨s, c, M, rfl, hI, hd, hs⟩
      have hw : w.toNat ≤ 5 := by omega
      have hs7 : Lets 7 s := hs.1.mono (by omega)
      tm_at "go"
      refine g_dec (fun h => ?_) (fun h => ?_)
      · tm_at "stop"
        exact key2 _ _ _ _ _ hI (hd.mono (by omega)) ⟨_, rfl, ⟨by decide +kernel, by decide +kernel⟩, by decide +kernel, by decide +kernel⟩
      · tm_at "next"
        exact key2 _ _ _ _ _ hI (hd.mono (by omega)) ⟨_, rfl, hs7.mono (by decide), by have := hs.2.1; omega, hs.bar fun e => h (by rw [e])⟩
  · rintro σ H ⟨a, b, c, M, xs, rfl, hI, hd, hx, hl⟩
    tm_at "go"
    exact q _ _ _ _ hI (hd.mono (by omega)) (fun x hx' => (hx x hx').nm) (by omega)
theorem all_true {α : Type} {l : List α} : l.all (fun _ => true) = true := List.all_eq_true.mpr fun _ _ => rfl
theorem Is.thaw {B H : Hp} {M L : List (Addr × HO)} {a : Addr} {o : HO} (I : Is (upd B a o) M L H) (h : B a = none) : Is B M ((a, o) :: L) H := by
  have hne : ∀ q ∈ L ++ M, q.1 ≠ a := fun q hq z => by
    have := (I.own q hq).2
    rw [z, upd_same] at this
    cases this
  refine ⟨fun b x e => I.ex b x (by rw [upd_ne (fun z => by rw [z, h] at e; cases e)]; exact e), fun q hq => ?_, ?_⟩
  · rcases List.mem_cons.mp (show q ∈ (a, o) :: (L ++ M) from hq) with rfl | hq
    · exact ⟨I.ex _ _ upd_same, h⟩
    · have h2 := I.own q hq
      refine ⟨h2.1, ?_⟩
      have := h2.2
      rw [upd_ne (hne q hq)] at this
      exact this
  · show ((((a, o) :: (L ++ M)).map (·.1))).Nodup
    refine List.nodup_cons.mpr ⟨fun z => ?_, I.nd⟩
    obtain ⟨q, hq, e⟩ := List.mem_map.mp z
    exact hne q hq e
theorem isWhole_t {n lo hi : Int} (h1 : lo ≤ n) (h2 : n ≤ hi) : isWhole (.int n) lo hi = true := by
  show (decide (lo ≤ n) && decide (n ≤ hi)) = true
  rw [decide_eq_true h1, decide_eq_true h2]
  rfl
theorem ap_is_whole_t {K : PySem.W.Frag} {H : Hp} {Q : VK} {E : XK} {n lo hi : Int} (h1 : lo ≤ n) (h2 : n ≤ hi) (q : Q (.bl true) H) : sp_is_whole K [.int n, .int lo, .int hi] H Q E := ⟨rfl, .int n, .int, lo, hi, rfl, thing_int n, by rw [isWhole_t h1 h2]; exact q⟩
theorem ap_is_name {K : PySem.W.Frag} {H : Hp} {Q : VK} {E : XK} {x : V} {k : Kn} {B : Hp} {M L : List (Addr × HO)} (I : Is B M L H) (hx : Thing K B x k) (q : ∀ H', Is B M L H' → Q (.bl (isName x)) H') : sp_is_name K [x] H Q E := ⟨rfl, x, k, B, M, L, rfl, I, hx.same I.ex, q⟩
abbrev StepT : Type := Str × Int × Int
def kndL : List (Str × Str) := [("sew", "hand"), ("glue", "hand"), ("cover", "hand"), ("letter", "hand"), ("press", "press")]
def StepR (B : Hp) (x : V) (r : StepT) : Prop := ∃ a, x = .ref a ∧ B a = some (.tup [.str r.1, .int r.2.1, .int r.2.2])
abbrev StepsB (B : Hp) (xs : List V) (rs : List StepT) : Prop := All2 (StepR B) xs rs
theorem StepsB.same {B B' : Hp} {xs : List V} {rs : List StepT} (h : StepsB B xs rs) (s : Same B B') : StepsB B' xs rs := All2.mono (fun _ _ ⟨a, e, h⟩ => ⟨a, e, s _ _ h⟩) h
def WorkOk (z : Str) : Prop := ∃ k, (z, k) ∈ kndL
theorem work_sh {z : Str} (h : WorkOk z) : Sh 6 z := by
  obtain ⟨k, h⟩ := h
  simp only [kndL, List.mem_cons, Prod.mk.injEq, List.not_mem_nil, or_false] at h
  rcases h with ⟨rfl, _⟩ | ⟨rfl, _⟩ | ⟨rfl, _⟩ | ⟨rfl, _⟩ | ⟨rfl, _⟩ <;> exact Sh.lit (by decide +kernel)
def StepG (r : StepT) : Prop := WorkOk r.1 ∧ 1 ≤ r.2.1 ∧ r.2.1 ≤ 240 ∧ 0 ≤ r.2.2 ∧ r.2.2 ≤ 240
structure GoodT (nm : Str) (rs : List StepT) : Prop where
  nm : isName (.str nm) = true ∧ plainS nm
  l0 : 1 ≤ rs.length
  l1 : rs.length ≤ 12
  row : ∀ r ∈ rs, StepG r
def sp_kind_of (K : PySem.W.Frag) : Sp := fun vs H Q _ => vs.length = 1 ∧ ∃ z k, vs = [.str z] ∧ (z, k) ∈ kndL ∧ Q (.str k) H
theorem ap_kind_of {K : PySem.W.Frag} {H : Hp} {Q : VK} {E : XK} {z k : Str} (h : (z, k) ∈ kndL) (q : Q (.str k) H) : sp_kind_of K [.str z] H Q E := ⟨rfl, z, k, rfl, h, q⟩
def t_kind_of (K : PySem.W.Frag) : TS := (tRet (tIf (tTr K (tCB (rIsi K) (tCons (tVar 0) (tCons (tC (.ty "str")) tNil)))) (tKGet (He.ga K "KINDS") [("sew", "hand"), ("glue", "hand"), ("cover", "hand"), ("letter", "hand"), ("press", "press")] (tVar 0)) (tC .non)))
theorem rd_kind_of {K : PySem.W.Frag} (vs : List V) (H : Hp) (Q : VK) (E : XK) (h : sp_kind_of K vs H Q E) : t_kind_of K { nx := fun _ H' => Q .non H', rt := Q } (start ["work"] vs) H := by
  obtain ⟨_, z, k, rfl, h, q⟩ := h
  show t_kind_of K ⟨_, _, _, _⟩ [some (.str z)] H
  have hx : Thing K H (.str z) .str := thing_str ((work_sh ⟨k, h⟩).plain (by decide))
  unfold t_kind_of
  tm_at "go"
  refine' g_kget ?_
  tm_at "go"
  exact g_kgot h q
def sp_is_step (K : PySem.W.Frag) : Sp := fun vs H Q _ => vs.length = 1 ∧ ∃ (a : Addr) (r : StepT) (B : Hp) (M L : List (Addr × HO)), vs = [.ref a] ∧ Is B M L H ∧ B a = some (.tup [.str r.1, .int r.2.1, .int r.2.2]) ∧ StepG r ∧ ∀ H', Is B M L H' → Q (.bl true) H'
theorem ap_is_step {K : PySem.W.Frag} {H : Hp} {Q : VK} {E : XK} {a : Addr} {r : StepT} {B : Hp} {M L : List (Addr × HO)} (I : Is B M L H) (ha : B a = some (.tup [.str r.1, .int r.2.1, .int r.2.2])) (h : StepG r) (q : ∀ H', Is B M L H' → Q (.bl true) H') : sp_is_step K [.ref a] H Q E := ⟨rfl, a, r, B, M, L, rfl, I, ha, h, q⟩
abbrev t_is_step_0 (K : PySem.W.Frag) : TS := (tRet (tAndV (tCl 2 1 (sp_is_whole K) (fun vs zs => pick .non [0, 1, 2] (vs ++ (zs ++ [.int 1000000]))) E0 (tCons (tOp (rIx K) (tVar 0) (tC (.int 1))) (tCons (tC (.int 1)) tNil)) (tCons (tC (.int 240)) tNil)) (tCl 2 1 (sp_is_whole K) (fun vs zs => pick .non [0, 1, 2] (vs ++ (zs ++ [.int 1000000]))) E0 (tCons (tOp (rIx K) (tVar 0) (tC (.int 2))) (tCons (tC (.int 0)) tNil)) (tCons (tC (.int 240)) tNil))))
def t_is_step (K : PySem.W.Frag) : TS := (tSeq (tIfS (tOr (tNot (tTr K (tCB (rIsi K) (tCons (tVar 0) (tCons (tC (.ty "tuple")) tNil))))) (tOr (tTest (tOp (rNeA K) (tCB (rLen K) (tCons (tVar 0) tNil)) (tC (.int 3)))) (tTest (tOp rIsNo (tCl 1 0 (sp_kind_of K) (fun vs zs => pick .non [0] (vs ++ zs)) E0 (tCons (tOp (rIx K) (tVar 0) (tC (.int 0))) tNil) tNil) (tC .non))))) (tRet (tC (.bl false))) tNext) (t_is_step_0 K))
theorem rd_is_step {K : PySem.W.Frag} (vs : List V) (H : Hp) (Q : VK) (E : XK) (h : sp_is_step K vs H Q E) : t_is_step K { nx := fun _ H' => Q .non H', rt := Q } (start ["thing"] vs) H := by
  obtain ⟨_, a, ⟨z, n, t⟩, B, M, L, rfl, hI, ha, ⟨⟨k, hk⟩, h1, h2, h3, h4⟩, q⟩ := h
  show t_is_step K ⟨_, _, _, _⟩ [some (.ref a)] H
  have hT : Thing K B (.ref a) .tup := thing_tup ha
  unfold t_is_step
  tm_at "go"
  refine g_ndec (fun h => absurd rfl h) (fun _ => ?_)
  tm_at "go"
  refine g_ix_t (by tm_at "st") (atI_of (by decide) rfl) ?_
  tm_at "go"
  refine' ap_kind_of (K := K) hk ?_
  tm_at "go"
  refine g_dec (fun h => by cases h) (fun _ => ?_)
  tm_at "go"
  refine g_ix_t (by tm_at "st") (atI_of (by decide) rfl) ?_
  tm_at "go"
  refine' ap_is_whole_t (K := K) h1 h2 ?_
  tm_at "go"
  refine g_ix_t (by tm_at "st") (atI_of (by decide) rfl) ?_
  tm_at "go"
  refine' ap_is_whole_t (K := K) h3 h4 ?_
  exact q _ hI
def sp_are_steps (K : PySem.W.Frag) : Sp := fun vs H Q _ => vs.length = 1 ∧ ∃ (a : Addr) (xs : List V) (rs : List StepT) (B : Hp) (M L : List (Addr × HO)), vs = [.ref a] ∧ Is B M L H ∧ B a = some (.lst xs) ∧ StepsB B xs rs ∧ 1 ≤ rs.length ∧ rs.length ≤ 12 ∧ (∀ r ∈ rs, StepG r) ∧ ∀ H', Is B M L H' → Q (.bl true) H'
theorem ap_are_stepsL {K : PySem.W.Frag} {H : Hp} {Q : VK} {E : XK} {a : Addr} {xs : List V} {rs : List StepT} {B : Hp} {M L : List (Addr × HO)} (I : Is B M ((a, .lst xs) :: L) H) (hr : StepsB B xs rs) (h0 : 1 ≤ rs.length) (h1 : rs.length ≤ 12) (hg : ∀ r ∈ rs, StepG r) (q : ∀ H', Is B M ((a, .lst xs) :: L) H' → Q (.bl true) H') : sp_are_steps K [.ref a] H Q E := by
  have hb : B a = none := (I.own (a, .lst xs) (List.mem_append_left _ List.mem_cons_self)).2
  obtain ⟨I1, s⟩ := I.frz .here
  exact ⟨rfl, a, xs, rs, _, M, L, rfl, I1, upd_same, hr.same s, h0, h1, hg, fun H' I2 => q H' (I2.thaw hb)⟩
abbrev t_are_steps_0 (K : PySem.W.Frag) : TS := (tRet (tCB (rAll K) (tCons (tLc (iAny K (tVar 0)) (gName 1) tYes (tCl 1 0 (sp_is_step K) (fun vs zs => pick .non [0] (vs ++ zs)) E0 (tCons (tVar 1) tNil) tNil) [1]) tNil)))
def t_are_steps (K : PySem.W.Frag) : TS := (tSeq (tIfS (tOr (tNot (tTr K (tCB (rIsiT K) (tCons (tVar 0) (tCons (tTup (tCons (tC (.ty "list")) (tCons (tC (.ty "tuple")) tNil))) tNil))))) (tNot (tTest (tChain (rI0 fun i j => .bl (decide (i ≤ j))) (rI0 fun i j => .bl (decide (i ≤ j))) (tC (.int 1)) (tCB (rLen K) (tCons (tVar 0) tNil)) (tC (.int 12)))))) (tRet (tC (.bl false))) tNext) (t_are_steps_0 K))
theorem rd_are_steps {K : PySem.W.Frag} (vs : List V) (H : Hp) (Q : VK) (E : XK) (h : sp_are_steps K vs H Q E) : t_are_steps K { nx := fun _ H' => Q .non H', rt := Q } (start ["thing", "step"] vs) H := by
  obtain ⟨_, a, xs, rs, B, M, L, rfl, hI, ha, hr, h0, h1, hg, q⟩ := h
  show t_are_steps K ⟨_, _, _, _⟩ [some (.ref a), none] H
  have hl := hr.len
  have hT : Thing K B (.ref a) .lst := thing_lst ha
  unfold t_are_steps
  tm_at "go"
  refine g_dec (fun _ => ?_) (fun h => absurd (by omega) h)
  tm_at "go"
  refine g_ndec (fun h => absurd (by omega) h) (fun _ => ?_)
  tm_at "go"
  refine' g_lcX (xs := xs) (rs.map fun _ => V.bl true) (by rw [List.length_map, hl]) walk_list hI (by tm_at "wiped") (by omega) (fun D acc H' I => Is.sq I (SqL.of ha)) ?_ ?_
  · intro i x y D acc H' hx hy hI PY q
    obtain ⟨r, e, b, rfl, hb⟩ := hr.get hx
    have hy : y = .bl true := by
      rw [List.getElem?_map, e] at hy
      exact (Option.some.inj hy).symm
    tm_at "go"
    refine' g_wiped (by tm_at "wiped") ?_
    tm_at "go"
    refine' ap_is_step (K := K) hI hb (hg _ (List.mem_of_getElem? e)) ?_
    intro H4 hI
    rw [← hy]
    exact q _ hI
  · intro D H' hI
    tm_at "go"
    refine g_all (l := rs) (P := fun _ => true) (by tm_at "sq") ?_
    rw [all_true]
    exact q _ (hI.forget (by tm_at "sub"))
structure StyleC (K : PySem.W.Frag) : Prop where
  cl : Cls K (He.ga K "Style")
  n1 : NoAttr K (He.ga K "Style") "called"
  n2 : NoAttr K (He.ga K "Style") "step_rows"
structure StyleAt (K : PySem.W.Frag) (B : Hp) (x : Addr) (nm : Str) (rs : List StepT) : Prop where
  ex : ∃ (dx cr : Addr) (xs : List V), B x = some (.ins (He.ga K "Style") dx [("called", .str nm), ("step_rows", .ref cr)]) ∧ B cr = some (.lst xs) ∧ StepsB B xs rs
  good : GoodT nm rs
theorem StyleAt.same {K : PySem.W.Frag} {B B' : Hp} {x : Addr} {nm : Str} {rs : List StepT} (h : StyleAt K B x nm rs) (e : Same B B') : StyleAt K B' x nm rs := by
  obtain ⟨⟨dx, cr, xs, h1, h2, h3⟩, g⟩ := h
  exact ⟨⟨dx, cr, xs, e _ _ h1, e _ _ h2, h3.same e⟩, g⟩
def sp_Style_init (K : PySem.W.Frag) : Sp := fun vs H Q _ => vs.length = 3 ∧ ∃ (x dx a : Addr) (nm : Str) (xs : List V) (rs : List StepT) (B : Hp) (M L : List (Addr × HO)), vs = [.ref x, .str nm, .ref a] ∧ Is B M ((x, .ins (He.ga K "Style") dx []) :: (dx, .own x) :: (a, .lst xs) :: L) H ∧ StepsB B xs rs ∧ GoodT nm rs ∧
  ∀ (B' H' : Hp), Same B B' → Is B' M ((a, .lst xs) :: L) H' → StyleAt K B' x nm rs → Q .non H'
theorem ap_Style_init {K : PySem.W.Frag} {H : Hp} {Q : VK} {E : XK} {x dx a : Addr} {nm : Str} {xs : List V} {rs : List StepT} {B : Hp} {M L : List (Addr × HO)} (I : Is B M ((x, .ins (He.ga K "Style") dx []) :: (dx, .own x) :: (a, .lst xs) :: L) H) (hr : StepsB B xs rs) (hg : GoodT nm rs)
    (q : ∀ (B' H' : Hp), Same B B' → Is B' M ((a, .lst xs) :: L) H' → StyleAt K B' x nm rs → Q .non H') : sp_Style_init K [.ref x, .str nm, .ref a] H Q E := ⟨rfl, x, dx, a, nm, xs, rs, B, M, L, rfl, I, hr, hg, q⟩
abbrev t_Style_init_0 (K : PySem.W.Frag) : TS := (sFld K (tVar 0) (tCB (rListOf K) (tCons (tVar 2) tNil)) "step_rows")
abbrev t_Style_init_1 (K : PySem.W.Frag) : TS := (tSeq (sFld K (tVar 0) (tVar 1) "called") (t_Style_init_0 K))
abbrev t_Style_init_2 (K : PySem.W.Frag) : TS := (tSeq (tIfS (tNot (tTr K (tCl 1 0 (sp_are_steps K) (fun vs zs => pick .non [0] (vs ++ zs)) E0 (tCons (tVar 2) tNil) tNil))) tNoS tNext) (t_Style_init_1 K))
def t_Style_init (K : PySem.W.Frag) : TS := (tSeq (tIfS (tNot (tTr K (tCl 1 0 (sp_is_name K) (fun vs zs => pick .non [0] (vs ++ zs)) E0 (tCons (tVar 1) tNil) tNil))) tNoS tNext) (t_Style_init_2 K))
theorem rd_Style_init {K : PySem.W.Frag} (C : StyleC K) (vs : List V) (H : Hp) (Q : VK) (E : XK) (h : sp_Style_init K vs H Q E) : t_Style_init K { nx := fun _ H' => Q .non H', rt := Q } (start ["self", "name", "steps"] vs) H := by
  obtain ⟨_, x, dx, a, nm, xs, rs, B, M, L, rfl, hI, hr, hg, q⟩ := h
  show t_Style_init K ⟨_, _, _, _⟩ [some (.ref x), some (.str nm), some (.ref a)] H
  obtain ⟨cl, n1, n2⟩ := C
  have hl := hr.len
  have hl1 := hg.l1
  unfold t_Style_init
  tm_at "go"
  refine' ap_is_name (K := K) hI (thing_str hg.nm.2) ?_
  clear hI
  intro H hI
  rw [hg.nm.1]
  tm_at "go"
  have hI := hI.perm (L' := (a, .lst xs) :: (x, .ins (He.ga K "Style") dx []) :: (dx, .own x) :: L) (by first | exact List.perm_middle (l₁ := [_, _]) | exact (List.perm_middle (l₁ := [_, _])).symm)
  refine' ap_are_stepsL (K := K) hI hr hg.l0 hg.l1 hg.row ?_
  clear hI
  intro H hI
  tm_at "go"
  obtain ⟨cr, rfl⟩ : ∃ q, q = p := ⟨_, rfl⟩
  refine' hI.give (a := x) (by tm_at "del") ?_
  clear hI
  intro B1 s1 h1 hI
  refine' hI.give (a := cr) (by tm_at "del") ?_
  clear hI
  intro B2 s2 h2 hI
  exact q B2 _ (s1.trans s2) (hI.forget (by tm_at "sub")) ⟨⟨dx, cr, xs, s2 _ _ h1, h2, hr.same (s1.trans s2)⟩, hg⟩
def sp_Style_steps (K : PySem.W.Frag) : Sp := fun vs H Q _ => vs.length = 1 ∧ ∃ (x : Addr) (nm : Str) (rs : List StepT) (B : Hp) (M L : List (Addr × HO)), vs = [.ref x] ∧ Is B M L H ∧ StyleAt K B x nm rs ∧ ∀ p xs H', StepsB B xs rs → Is B M ((p, .lst xs) :: L) H' → Q (.ref p) H'
theorem ap_Style_steps {K : PySem.W.Frag} {H : Hp} {Q : VK} {E : XK} {x : Addr} {nm : Str} {rs : List StepT} {B : Hp} {M L : List (Addr × HO)} (I : Is B M L H) (h : StyleAt K B x nm rs) (q : ∀ p xs H', StepsB B xs rs → Is B M ((p, .lst xs) :: L) H' → Q (.ref p) H') : sp_Style_steps K [.ref x] H Q E := ⟨rfl, x, nm, rs, B, M, L, rfl, I, h, q⟩
def t_Style_steps (K : PySem.W.Frag) : TS := (tRet (tCB (rListOf K) (tCons (tFld K (tVar 0) "step_rows") tNil)))
theorem rd_Style_steps {K : PySem.W.Frag} (C : StyleC K) (vs : List V) (H : Hp) (Q : VK) (E : XK) (h : sp_Style_steps K vs H Q E) : t_Style_steps K { nx := fun _ H' => Q .non H', rt := Q } (start ["self"] vs) H := by
  obtain ⟨_, x, nm, rs, B, M, L, rfl, hI, hS, q⟩ := h
  show t_Style_steps K ⟨_, _, _, _⟩ [some (.ref x)] H
  obtain ⟨cl, n1, n2⟩ := C
  obtain ⟨⟨dx, cr, xs, h1, h2, h3⟩, hg⟩ := id hS
  unfold t_Style_steps
  tm_at "go"
  exact q _ _ _ h3 hI
/-- all hours and rests -/
def spanT (rs : List StepT) : Int := (rs.map fun r => r.2.1 + r.2.2).sum
def sp_Style_span (K : PySem.W.Frag) : Sp := fun vs H Q _ => vs.length = 1 ∧ ∃ (x : Addr) (nm : Str) (rs : List StepT) (B : Hp) (M L : List (Addr × HO)), vs = [.ref x] ∧ Is B M L H ∧ StyleAt K B x nm rs ∧ ∀ H', Is B M L H' → Q (.int (spanT rs)) H'
theorem ap_Style_span {K : PySem.W.Frag} {H : Hp} {Q : VK} {E : XK} {x : Addr} {nm : Str} {rs : List StepT} {B : Hp} {M L : List (Addr × HO)} (I : Is B M L H) (h : StyleAt K B x nm rs) (q : ∀ H', Is B M L H' → Q (.int (spanT rs)) H') : sp_Style_span K [.ref x] H Q E := ⟨rfl, x, nm, rs, B, M, L, rfl, I, h, q⟩
def t_Style_span (K : PySem.W.Frag) : TS := (tRet (tCB (rSum K) (tCons (tLc (iAny K (tFld K (tVar 0) "step_rows")) (gName 1) tYes (tOp (rAddA K) (tOp (rIx K) (tVar 1) (tC (.int 1))) (tOp (rIx K) (tVar 1) (tC (.int 2)))) [1]) tNil)))
theorem rd_Style_span {K : PySem.W.Frag} (C : StyleC K) (vs : List V) (H : Hp) (Q : VK) (E : XK) (h : sp_Style_span K vs H Q E) : t_Style_span K { nx := fun _ H' => Q .non H', rt := Q } (start ["self", "row"] vs) H := by
  obtain ⟨_, x, nm, rs, B, M, L, rfl, hI, hS, q⟩ := h
  show t_Style_span K ⟨_, _, _, _⟩ [some (.ref x), none] H
  obtain ⟨cl, n1, n2⟩ := C
  obtain ⟨⟨dx, cr, xs, h1, h2, h3⟩, hg⟩ := id hS
  have hl := h3.len
  have hl1 := hg.l1
  unfold t_Style_span
  tm_at "go"
  refine' g_lcX ((rs.map fun r => r.2.1 + r.2.2).map V.int) (by simp [hl]) walk_list hI (by tm_at "wiped") (by omega) (fun D acc H' I => SqL.of (I.b h2)) ?_ ?_
  · intro i x y D acc H' hx hy hI PY q
    obtain ⟨r, e, a, rfl, ha⟩ := h3.get hx
    tm_at "go"
    refine' g_wiped (by tm_at "wiped") ?_
    tm_at "go"
    refine g_ix_t (by tm_at "st") (atI_of (by decide) rfl) ?_
    tm_at "go"
    refine g_ix_t (by tm_at "st") (atI_of (by decide) rfl) ?_
    tm_at "go"
    have ey : y = .int (r.2.1 + r.2.2) := by
      rw [List.getElem?_map, List.getElem?_map, e] at hy
      exact (Option.some.inj hy).symm
    rw [ey] at q
    exact q _ hI
  · intro D H' hI
    tm_at "go"
    refine g_sum (by tm_at "sq") ?_
    exact q _ (hI.forget (by tm_at "sub"))
structure JobC (K : PySem.W.Frag) : Prop where
  cl : Cls K (He.ga K "Job")
  n1 : NoAttr K (He.ga K "Job") "has_number"
  n2 : NoAttr K (He.ga K "Job") "has_style"
  n3 : NoAttr K (He.ga K "Job") "came"
  n4 : NoAttr K (He.ga K "Job") "wanted"
  n5 : NoAttr K (He.ga K "Job") "hasty"
/-- a job, plain: number, style, brought, due, haste -/
structure JobT where
  n : Int
  nm : Str
  rs : List StepT
  c : Int
  w : Int
  q : Bool
structure GoodJ (j : JobT) : Prop where
  t : GoodT j.nm j.rs
  n0 : 1 ≤ j.n
  n1 : j.n ≤ 99999
  c0 : 0 ≤ j.c
  c1 : j.c ≤ 1000000
  w0 : j.c ≤ j.w
  w1 : j.w ≤ 1000000
structure JobAt (K : PySem.W.Frag) (B : Hp) (x : Addr) (j : JobT) : Prop where
  ex : ∃ (dx st : Addr), B x = some (.ins (He.ga K "Job") dx [("has_number", .int j.n), ("has_style", .ref st), ("came", .int j.c), ("wanted", .int j.w), ("hasty", .bl j.q)]) ∧ StyleAt K B st j.nm j.rs
  good : GoodJ j
theorem JobAt.same {K : PySem.W.Frag} {B B' : Hp} {x : Addr} {j : JobT} (h : JobAt K B x j) (e : Same B B') : JobAt K B' x j := by
  obtain ⟨⟨dx, st, h1, h2⟩, g⟩ := h
  exact ⟨⟨dx, st, e _ _ h1, h2.same e⟩, g⟩
def sp_Job_init (K : PySem.W.Frag) : Sp := fun vs H Q _ => vs.length = 6 ∧ ∃ (x dx st : Addr) (v : V) (j : JobT) (B : Hp) (M L : List (Addr × HO)), vs = [.ref x, .int j.n, .ref st, .int j.c, v, .bl j.q] ∧ (v = .int j.w ∨ (v = .non ∧ j.w = j.c + spanT j.rs)) ∧ Is B M ((x, .ins (He.ga K "Job") dx []) :: (dx, .own x) :: L) H ∧ StyleAt K B st j.nm j.rs ∧ GoodJ j ∧
  ∀ (B' H' : Hp), Same B B' → Is B' M L H' → JobAt K B' x j → Q .non H'
theorem ap_Job_init {K : PySem.W.Frag} {H : Hp} {Q : VK} {E : XK} {x dx st : Addr} (j : JobT) {B : Hp} {M L : List (Addr × HO)} (I : Is B M ((x, .ins (He.ga K "Job") dx []) :: (dx, .own x) :: L) H) (h : StyleAt K B st j.nm j.rs) (hg : GoodJ j)
    (q : ∀ (B' H' : Hp), Same B B' → Is B' M L H' → JobAt K B' x j → Q .non H') : sp_Job_init K [.ref x, .int j.n, .ref st, .int j.c, .int j.w, .bl j.q] H Q E := ⟨rfl, x, dx, st, .int j.w, j, B, M, L, rfl, .inl rfl, I, h, hg, q⟩
theorem ap_Job_init0 {K : PySem.W.Frag} {H : Hp} {Q : VK} {E : XK} {x dx st : Addr} (j : JobT) {B : Hp} {M L : List (Addr × HO)} (I : Is B M ((x, .ins (He.ga K "Job") dx []) :: (dx, .own x) :: L) H) (h : StyleAt K B st j.nm j.rs) (hw : j.w = j.c + spanT j.rs) (hg : GoodJ j)
    (q : ∀ (B' H' : Hp), Same B B' → Is B' M L H' → JobAt K B' x j → Q .non H') : sp_Job_init K [.ref x, .int j.n, .ref st, .int j.c, .non, .bl j.q] H Q E := ⟨rfl, x, dx, st, .non, j, B, M, L, rfl, .inr ⟨rfl, hw⟩, I, h, hg, q⟩
abbrev t_Job_init_0 (K : PySem.W.Frag) : TS := (sFld K (tVar 0) (tVar 5) "hasty")
abbrev t_Job_init_1 (K : PySem.W.Frag) : TS := (tSeq (sFld K (tVar 0) (tVar 6) "wanted") (t_Job_init_0 K))
abbrev t_Job_init_2 (K : PySem.W.Frag) : TS := (tSeq (sFld K (tVar 0) (tVar 3) "came") (t_Job_init_1 K))
abbrev t_Job_init_3 (K : PySem.W.Frag) : TS := (tSeq (sFld K (tVar 0) (tVar 2) "has_style") (t_Job_init_2 K))
abbrev t_Job_init_4 (K : PySem.W.Frag) : TS := (tSeq (sFld K (tVar 0) (tVar 1) "has_number") (t_Job_init_3 K))
abbrev t_Job_init_5 (K : PySem.W.Frag) : TS := (tSeq (tIfS (tNot (tTr K (tCB (rIsi K) (tCons (tVar 5) (tCons (tC (.ty "bool")) tNil))))) tNoS tNext) (t_Job_init_4 K))
abbrev t_Job_init_6 (K : PySem.W.Frag) : TS := (tSeq (tIfS (tNot (tTr K (tCl 2 1 (sp_is_whole K) (fun vs zs => pick .non [0, 1, 2] (vs ++ (zs ++ [.int 1000000]))) E0 (tCons (tVar 6) (tCons (tVar 3) tNil)) (tCons (tC (.int 1000000)) tNil)))) tNoS tNext) (t_Job_init_5 K))
abbrev t_Job_init_7 (K : PySem.W.Frag) : TS := (tSeq (tAsg (tIf (tTest (tOp rIsNo (tVar 4) (tC .non))) (tOp (rAddA K) (tVar 3) (tMe (He.ga K "Style") "span" 0 0 (sp_Style_span K) (fun vs zs => pick .non [0] (vs ++ zs)) E0 (tVar 2) tNil tNil)) (tVar 4)) (gName 6)) (t_Job_init_6 K))
abbrev t_Job_init_8 (K : PySem.W.Frag) : TS := (tSeq (tIfS (tNot (tTr K (tCl 2 1 (sp_is_whole K) (fun vs zs => pick .non [0, 1, 2] (vs ++ (zs ++ [.int 1000000]))) E0 (tCons (tVar 3) (tCons (tC (.int 0)) tNil)) (tCons (tC (.int 1000000)) tNil)))) tNoS tNext) (t_Job_init_7 K))
abbrev t_Job_init_9 (K : PySem.W.Frag) : TS := (tSeq (tIfS (tNot (tTr K (tCB (rIsi K) (tCons (tVar 2) (tCons (tC (.ref (He.ga K "Style"))) tNil))))) tNoS tNext) (t_Job_init_8 K))
def t_Job_init (K : PySem.W.Frag) : TS := (tSeq (tIfS (tNot (tTr K (tCl 2 1 (sp_is_whole K) (fun vs zs => pick .non [0, 1, 2] (vs ++ (zs ++ [.int 1000000]))) E0 (tCons (tVar 1) (tCons (tC (.int 1)) tNil)) (tCons (tC (.int 99999)) tNil)))) tNoS tNext) (t_Job_init_9 K))
theorem rd_Job_init {K : PySem.W.Frag} (C : JobC K) (C2 : StyleC K) (D : OwnD K (He.ga K "Style")) (vs : List V) (H : Hp) (Q : VK) (E : XK) (h : sp_Job_init K vs H Q E) : t_Job_init K { nx := fun _ H' => Q .non H', rt := Q } (start ["self", "number", "style", "brought", "due", "haste", "wanted"] vs) H := by
  obtain ⟨_, x, dx, st, v, ⟨n, nm, rs, c, w, qk⟩, B, M, L, rfl, hv, hI, hS, hg, q⟩ := h
  show t_Job_init K ⟨_, _, _, _⟩ [some (.ref x), some (.int n), some (.ref st), some (.int c), some v, some (.bl qk), none] H
  obtain ⟨cl, n1, n2, n3, n4, n5⟩ := C
  obtain ⟨⟨ds, cr, xs, h1, h2, h3⟩, _⟩ := id hS
  obtain ⟨_, g1, g2, g3, g4, g5, g6⟩ := id hg
  unfold t_Job_init
  tm_at "go"
  refine' ap_is_whole_t (K := K) g1 g2 ?_
  tm_at "go"
  refine' g_isiO D C2.cl (hI.b h1) ?_
  tm_at "go"
  refine' ap_is_whole_t (K := K) g3 g4 ?_
  tm_at "go"
  rcases hv with rfl | ⟨rfl, hw⟩
  · refine g_dec (fun h => by cases h) (fun _ => ?_)
    tm_at "go"
    refine' ap_is_whole_t (K := K) g5 g6 ?_
    have hb : Thing K H (.bl qk) .bl := thing_bl qk
    tm_at "go"
    refine' hI.give (a := x) (by tm_at "del") ?_
    clear hI
    intro B1 s1 k1 hI
    exact q B1 _ s1 (hI.forget (by tm_at "sub")) ⟨⟨dx, st, k1, hS.same s1⟩, hg⟩
  · refine g_dec (fun _ => ?_) (fun h => absurd rfl h)
    tm_at "go"
    refine' ap_Style_span (K := K) hI hS ?_
    clear hI
    intro H hI
    have hw : w = c + spanT rs := hw
    dsimp only
    tm_at "go"
    rw [← hw]
    refine' ap_is_whole_t (K := K) g5 g6 ?_
    have hb : Thing K H (.bl qk) .bl := thing_bl qk
    tm_at "go"
    refine' hI.give (a := x) (by tm_at "del") ?_
    clear hI
    intro B1 s1 k1 hI
    exact q B1 _ s1 (hI.forget (by tm_at "sub")) ⟨⟨dx, st, k1, hS.same s1⟩, hg⟩
def sp_Job_rank (K : PySem.W.Frag) : Sp := fun vs H Q _ => vs.length = 1 ∧ ∃ (x : Addr) (j : JobT) (B : Hp) (M L : List (Addr × HO)), vs = [.ref x] ∧ Is B M L H ∧ JobAt K B x j ∧ ∀ p H', Is B M ((p, .tup [.int (if j.q = true then 0 else 1), .int j.w, .int j.c, .int j.n]) :: L) H' → Q (.ref p) H'
theorem ap_Job_rank {K : PySem.W.Frag} {H : Hp} {Q : VK} {E : XK} {x : Addr} {j : JobT} {B : Hp} {M L : List (Addr × HO)} (I : Is B M L H) (h : JobAt K B x j) (q : ∀ p H', Is B M ((p, .tup [.int (if j.q = true then 0 else 1), .int j.w, .int j.c, .int j.n]) :: L) H' → Q (.ref p) H') : sp_Job_rank K [.ref x] H Q E := ⟨rfl, x, j, B, M, L, rfl, I, h, q⟩
def t_Job_rank (K : PySem.W.Frag) : TS := (tRet (tTup (tCons (tIf (tTr K (tFld K (tVar 0) "hasty")) (tC (.int 0)) (tC (.int 1))) (tCons (tFld K (tVar 0) "wanted") (tCons (tFld K (tVar 0) "came") (tCons (tFld K (tVar 0) "has_number") tNil))))))
theorem rd_Job_rank {K : PySem.W.Frag} (C : JobC K) (vs : List V) (H : Hp) (Q : VK) (E : XK) (h : sp_Job_rank K vs H Q E) : t_Job_rank K { nx := fun _ H' => Q .non H', rt := Q } (start ["self"] vs) H := by
  obtain ⟨_, x, ⟨n, nm, rs, c, w, qk⟩, B, M, L, rfl, hI, hJ, q⟩ := h
  show t_Job_rank K ⟨_, _, _, _⟩ [some (.ref x)] H
  obtain ⟨cl, n1, n2, n3, n4, n5⟩ := C
  obtain ⟨⟨dx, st, h1, h2⟩, hg⟩ := id hJ
  unfold t_Job_rank
  tm_at "go"
  refine g_b (fun hq => ?_) (fun hq => ?_)
  · subst hq
    tm_at "go"
    exact q _ _ hI
  · subst hq
    tm_at "go"
    exact q _ _ hI
def sp_Job_of_style (K : PySem.W.Frag) : Sp := fun vs H Q _ => vs.length = 1 ∧ ∃ (x : Addr) (j : JobT) (B : Hp) (M L : List (Addr × HO)), vs = [.ref x] ∧ Is B M L H ∧ JobAt K B x j ∧ ∀ st, StyleAt K B st j.nm j.rs → Q (.ref st) H
theorem ap_Job_of_style {K : PySem.W.Frag} {H : Hp} {Q : VK} {E : XK} {x : Addr} {j : JobT} {B : Hp} {M L : List (Addr × HO)} (I : Is B M L H) (h : JobAt K B x j) (q : ∀ st, StyleAt K B st j.nm j.rs → Q (.ref st) H) : sp_Job_of_style K [.ref x] H Q E := ⟨rfl, x, j, B, M, L, rfl, I, h, q⟩
def t_Job_of_style (K : PySem.W.Frag) : TS := (tRet (tFld K (tVar 0) "has_style"))
theorem rd_Job_of_style {K : PySem.W.Frag} (C : JobC K) (vs : List V) (H : Hp) (Q : VK) (E : XK) (h : sp_Job_of_style K vs H Q E) : t_Job_of_style K { nx := fun _ H' => Q .non H', rt := Q } (start ["self"] vs) H := by
  obtain ⟨_, x, j, B, M, L, rfl, hI, hX, q⟩ := h
  show t_Job_of_style K ⟨_, _, _, _⟩ [some (.ref x)] H
  obtain ⟨cl, n1, n2, n3, n4, n5⟩ := C
  obtain ⟨⟨dx, st, h1, h2⟩, hg⟩ := id hX
  unfold t_Job_of_style
  tm_at "go"
  exact q _ h2
structure PlainS (B : Hp) (p : Addr) (nm : Str) (rs : List StepT) : Prop where
  ex : ∃ (a : Addr) (xs : List V), B p = some (.tup [.str nm, .ref a]) ∧ B a = some (.lst xs) ∧ StepsB B xs rs
  good : GoodT nm rs
theorem PlainS.same {B B' : Hp} {p : Addr} {nm : Str} {rs : List StepT} (h : PlainS B p nm rs) (e : Same B B') : PlainS B' p nm rs := by
  obtain ⟨⟨a, xs, h1, h2, h3⟩, g⟩ := h
  exact ⟨⟨a, xs, e _ _ h1, e _ _ h2, h3.same e⟩, g⟩
structure PlainJ (B : Hp) (p : Addr) (j : JobT) : Prop where
  ex : ∃ s : Addr, B p = some (.tup [.int j.n, .ref s, .int j.c, .int j.w, .bl j.q]) ∧ PlainS B s j.nm j.rs
  good : GoodJ j
theorem PlainJ.same {B B' : Hp} {p : Addr} {j : JobT} (h : PlainJ B p j) (e : Same B B') : PlainJ B' p j := by
  obtain ⟨⟨s, h1, h2⟩, g⟩ := h
  exact ⟨⟨s, e _ _ h1, h2.same e⟩, g⟩
def sp_law_style (K : PySem.W.Frag) : Sp := fun vs H Q _ => vs.length = 1 ∧ ∃ (p : Addr) (nm : Str) (rs : List StepT) (B : Hp) (M L : List (Addr × HO)), vs = [.ref p] ∧ Is B M L H ∧ PlainS B p nm rs ∧ ∀ x B' H', Same B B' → Is B' M L H' → StyleAt K B' x nm rs → Q (.ref x) H'
theorem ap_law_style {K : PySem.W.Frag} {H : Hp} {Q : VK} {E : XK} {p : Addr} {nm : Str} {rs : List StepT} {B : Hp} {M L : List (Addr × HO)} (I : Is B M L H) (h : PlainS B p nm rs) (q : ∀ x B' H', Same B B' → Is B' M L H' → StyleAt K B' x nm rs → Q (.ref x) H') : sp_law_style K [.ref p] H Q E := ⟨rfl, p, nm, rs, B, M, L, rfl, I, h, q⟩
def t_law_style (K : PySem.W.Frag) : TS := (tRet (tMk (He.ga K "Style") 2 0 (sp_Style_init K) (fun vs zs => pick .non [0, 1, 2] (vs ++ zs)) E0 (tCons (tOp (rIx K) (tVar 0) (tC (.int 0))) (tCons (tCB (rListOf K) (tCons (tOp (rIx K) (tVar 0) (tC (.int 1))) tNil)) tNil)) tNil))
theorem rd_law_style {K : PySem.W.Frag} (vs : List V) (H : Hp) (Q : VK) (E : XK) (h : sp_law_style K vs H Q E) : t_law_style K { nx := fun _ H' => Q .non H', rt := Q } (start ["plain"] vs) H := by
  obtain ⟨_, pl, nm, rs, B, M, L, rfl, hI, hP, q⟩ := h
  show t_law_style K ⟨_, _, _, _⟩ [some (.ref pl)] H
  obtain ⟨⟨a, xs, h1, h2, h3⟩, hg⟩ := id hP
  unfold t_law_style
  tm_at "go"
  refine g_ix_t (by tm_at "st") (atI_of (by decide) rfl) ?_
  tm_at "go"
  refine g_ix_t (by tm_at "st") (atI_of (by decide) rfl) ?_
  tm_at "go"
  obtain ⟨x1, rfl⟩ : ∃ q, q = x := ⟨_, rfl⟩
  refine' ap_Style_init (K := K) hI h3 hg ?_
  clear hI
  intro B2 H s2 hI hS
  refine ⟨rfl, ?_⟩
  exact q x1 B2 _ s2 (hI.forget (by tm_at "sub")) hS
def sp_law_job (K : PySem.W.Frag) : Sp := fun vs H Q _ => vs.length = 1 ∧ ∃ (p : Addr) (j : JobT) (B : Hp) (M L : List (Addr × HO)), vs = [.ref p] ∧ Is B M L H ∧ PlainJ B p j ∧ ∀ x B' H', Same B B' → Is B' M L H' → JobAt K B' x j → Q (.ref x) H'
theorem ap_law_job {K : PySem.W.Frag} {H : Hp} {Q : VK} {E : XK} {p : Addr} {j : JobT} {B : Hp} {M L : List (Addr × HO)} (I : Is B M L H) (h : PlainJ B p j) (q : ∀ x B' H', Same B B' → Is B' M L H' → JobAt K B' x j → Q (.ref x) H') : sp_law_job K [.ref p] H Q E := ⟨rfl, p, j, B, M, L, rfl, I, h, q⟩
def t_law_job (K : PySem.W.Frag) : TS := (tRet (tMk (He.ga K "Job") 2 3 (sp_Job_init K) (fun vs zs => pick .non [0, 1, 2, 3, 4, 5] (vs ++ (zs ++ [.int 0, .non, .bl false]))) E0 (tCons (tOp (rIx K) (tVar 0) (tC (.int 0))) (tCons (tCl 1 0 (sp_law_style K) (fun vs zs => pick .non [0] (vs ++ zs)) E0 (tCons (tOp (rIx K) (tVar 0) (tC (.int 1))) tNil) tNil) tNil)) (tCons (tOp (rIx K) (tVar 0) (tC (.int 2))) (tCons (tOp (rIx K) (tVar 0) (tC (.int 3))) (tCons (tOp (rIx K) (tVar 0) (tC (.int 4))) tNil)))))
theorem rd_law_job {K : PySem.W.Frag} (vs : List V) (H : Hp) (Q : VK) (E : XK) (h : sp_law_job K vs H Q E) : t_law_job K { nx := fun _ H' => Q .non H', rt := Q } (start ["plain"] vs) H := by
  obtain ⟨_, pl, j, B, M, L, rfl, hI, hP, q⟩ := h
  show t_law_job K ⟨_, _, _, _⟩ [some (.ref pl)] H
  obtain ⟨⟨s, h1, h2⟩, hg⟩ := id hP
  unfold t_law_job
  tm_at "go"
  refine g_ix_t (by tm_at "st") (atI_of (by decide) rfl) ?_
  tm_at "go"
  refine g_ix_t (by tm_at "st") (atI_of (by decide) rfl) ?_
  tm_at "go"
  refine' ap_law_style (K := K) hI h2 ?_
  clear hI
  intro st B1 H s1 hI hS
  replace h1 := s1 _ _ h1
  tm_at "go"
  refine g_ix_t (by tm_at "st") (atI_of (by decide) rfl) ?_
  tm_at "go"
  refine g_ix_t (by tm_at "st") (atI_of (by decide) rfl) ?_
  tm_at "go"
  refine g_ix_t (by tm_at "st") (atI_of (by decide) rfl) ?_
  tm_at "go"
  obtain ⟨x1, rfl⟩ : ∃ q, q = x := ⟨_, rfl⟩
  refine' ap_Job_init (K := K) j hI hS hg ?_
  clear hI
  intro B2 H s2 hI hJ
  refine ⟨rfl, ?_⟩
  exact q x1 B2 _ (s1.trans s2) hI hJ
theorem g_ix_nm {K : PySem.W.Frag} {H : Hp} {Q : VK} {a : Addr} {xs : List V} {i : Int} (hs : SqL K H a xs) (h : ∀ x ∈ xs, IsNm x) (h0 : 0 ≤ i) (h1 : i < (xs.length : Int)) (q : ∀ s, isName (.str s) = true → plainS s → xs[i.toNat]? = some (.str s) → Q (.str s) H) : rIx K (.ref a) (.int i) H Q := by
  have hl : i.toNat < xs.length := by omega
  obtain ⟨z, e, s1, s2⟩ := h _ (List.getElem_mem hl)
  exact g_ix_l hs (atI_of h0 (by rw [List.getElem?_eq_getElem hl, e])) (q z s1 s2 (by rw [List.getElem?_eq_getElem hl, e]))
theorem g_ix_all {K : PySem.W.Frag} {H : Hp} {Q : VK} {a : Addr} {xs : List V} {i : Int} (P : V → Prop) (hs : SqL K H a xs) (h : ∀ x ∈ xs, P x) (h0 : 0 ≤ i) (h1 : i < (xs.length : Int)) (q : ∀ x, P x → Q x H) : rIx K (.ref a) (.int i) H Q := by
  have hl : i.toNat < xs.length := by omega
  exact g_ix_l hs (atI_of h0 (List.getElem?_eq_getElem hl)) (q _ (h _ (List.getElem_mem hl)))
def IsWk (x : V) : Prop := ∃ z, x = .str z ∧ WorkOk z
theorem wk_sew : WorkOk "sew" := ⟨"hand", by decide +kernel⟩
theorem wk_glue : WorkOk "glue" := ⟨"hand", by decide +kernel⟩
theorem wk_cover : WorkOk "cover" := ⟨"hand", by decide +kernel⟩
theorem wk_letter : WorkOk "letter" := ⟨"hand", by decide +kernel⟩
theorem wk_press : WorkOk "press" := ⟨"press", by decide +kernel⟩
def sp_law_step (K : PySem.W.Frag) : Sp := fun vs H Q _ => vs.length = 1 ∧ ∃ (m : Addr) (n : Int) (B : Hp) (M L : List (Addr × HO)), vs = [.ref m] ∧ Is B M L H ∧ Dr m n B M ∧ n < 2 ^ 39 ∧
  ∀ (p : Addr) (r : StepT) (B' H' : Hp) (M' : List (Addr × HO)), Same B B' → Is B' M' L H' → Dr m (n + 9) B' M' → StepG r → B' p = some (.tup [.str r.1, .int r.2.1, .int r.2.2]) → Q (.ref p) H'
theorem ap_law_step {K : PySem.W.Frag} {B H : Hp} {M L : List (Addr × HO)} {Q : VK} {E : XK} {n : Int} {m : Addr} (I : Is B M L H) (d : Dr m n B M) (h : n < 2 ^ 39) (q : ∀ (p : Addr) (r : StepT) (B' H' : Hp) (M' : List (Addr × HO)), Same B B' → Is B' M' L H' → Dr m (n + 9) B' M' → StepG r → B' p = some (.tup [.str r.1, .int r.2.1, .int r.2.2]) → Q (.ref p) H') : sp_law_step K [.ref m] H Q E :=
  ⟨rfl, m, n, B, M, L, rfl, I, d, h, q⟩
abbrev t_law_step_0 (K : PySem.W.Frag) : TS := (tRet (tTup (tCons (tVar 1) (tCons (tVar 2) (tCons (tOp (rIx K) (tLst (tCons (tC (.int 0)) (tCons (tC (.int 0)) (tCons (tCl 2 0 (sp_law_draw K) (fun vs zs => pick .non [0, 1] (vs ++ zs)) E0 (tCons (tVar 0) (tCons (tC (.int 5)) tNil)) tNil) (tCons (tCl 2 0 (sp_law_draw K) (fun vs zs => pick .non [0, 1] (vs ++ zs)) E0 (tCons (tVar 0) (tCons (tC (.int 40)) tNil)) tNil) (tCons (tOp (rI0 fun i j => .int (i - j)) (tC (.int 240)) (tCl 2 0 (sp_law_draw K) (fun vs zs => pick .non [0, 1] (vs ++ zs)) E0 (tCons (tVar 0) (tCons (tC (.int 2)) tNil)) tNil)) tNil)))))) (tCl 2 0 (sp_law_draw K) (fun vs zs => pick .non [0, 1] (vs ++ zs)) E0 (tCons (tVar 0) (tCons (tC (.int 5)) tNil)) tNil)) tNil)))))
abbrev t_law_step_1 (K : PySem.W.Frag) : TS := (tSeq (tAsg (tOp (rAddA K) (tC (.int 1)) (tOp (rIx K) (tLst (tCons (tCl 2 0 (sp_law_draw K) (fun vs zs => pick .non [0, 1] (vs ++ zs)) E0 (tCons (tVar 0) (tCons (tC (.int 4)) tNil)) tNil) (tCons (tCl 2 0 (sp_law_draw K) (fun vs zs => pick .non [0, 1] (vs ++ zs)) E0 (tCons (tVar 0) (tCons (tC (.int 30)) tNil)) tNil) (tCons (tOp (rI0 fun i j => .int (i - j)) (tC (.int 239)) (tCl 2 0 (sp_law_draw K) (fun vs zs => pick .non [0, 1] (vs ++ zs)) E0 (tCons (tVar 0) (tCons (tC (.int 2)) tNil)) tNil)) tNil)))) (tCl 2 0 (sp_law_draw K) (fun vs zs => pick .non [0, 1] (vs ++ zs)) E0 (tCons (tVar 0) (tCons (tC (.int 3)) tNil)) tNil))) (gName 2)) (t_law_step_0 K))
def t_law_step (K : PySem.W.Frag) : TS := (tSeq (tAsg (tOp (rIx K) (tLst (tCons (tC (.str "sew")) (tCons (tC (.str "glue")) (tCons (tC (.str "cover")) (tCons (tC (.str "letter")) (tCons (tC (.str "press")) (tCons (tC (.str "press")) (tCons (tC (.str "press")) tNil)))))))) (tCl 2 0 (sp_law_draw K) (fun vs zs => pick .non [0, 1] (vs ++ zs)) E0 (tCons (tVar 0) (tCons (tC (.int 7)) tNil)) tNil)) (gName 1)) (t_law_step_1 K))
theorem rd_law_step {K : PySem.W.Frag} (vs : List V) (H : Hp) (Q : VK) (E : XK) (h : sp_law_step K vs H Q E) : t_law_step K { nx := fun _ H' => Q .non H', rt := Q } (start ["m", "said", "few"] vs) H := by
  obtain ⟨_, m, n, B, M, L, rfl, hI, hd, h1, q⟩ := h
  show t_law_step K ⟨_, _, _, _⟩ [some (.ref m), none, none] H
  unfold t_law_step
  tm_at "go"
  tm_at "draw"
  refine g_ix_all IsWk (by tm_at "sq") (by
    intro x hx
    simp only [List.mem_cons, List.not_mem_nil, or_false] at hx
    rcases hx with rfl | rfl | rfl | rfl | rfl | rfl | rfl
    · exact ⟨_, rfl, wk_sew⟩
    · exact ⟨_, rfl, wk_glue⟩
    · exact ⟨_, rfl, wk_cover⟩
    · exact ⟨_, rfl, wk_letter⟩
    · exact ⟨_, rfl, wk_press⟩
    · exact ⟨_, rfl, wk_press⟩
    · exact ⟨_, rfl, wk_press⟩) hr0 (by tm_at "arith") ?_
  rintro _ ⟨z, rfl, hz⟩
  tm_at "go"
  tm_at "draw"
  tm_at "go"
  tm_at "draw"
  tm_at "go"
  tm_at "draw"
  tm_at "go"
  tm_at "draw"
  refine g_ix_ints (lo := 0) (hi := 239) (by tm_at "sq") (by repeat (first | exact Ints.nil | refine Ints.cons (by omega) ?_)) hr0 (by tm_at "arith") ?_
  intro w hw0 hw1
  tm_at "go"
  tm_at "draw"
  tm_at "go"
  tm_at "draw"
  tm_at "go"
  tm_at "draw"
  tm_at "go"
  tm_at "draw"
  refine g_ix_ints (lo := 0) (hi := 240) (by tm_at "sq") (by repeat (first | exact Ints.nil | refine Ints.cons (by omega) ?_)) hr0 (by tm_at "arith") ?_
  intro t ht0 ht1
  tm_at "go"
  refine' hI.give (a := p) (by tm_at "del") ?_
  clear hI
  intro B2 s2 hp hI
  exact q p (z, 1 + w, t) B2 _ _ s2 (hI.forget (by tm_at "sub")) ((hd.mono (by omega)).same s2) ⟨hz, by show (1 : Int) ≤ 1 + w; omega, by show 1 + w ≤ (240 : Int); omega, ht0, ht1⟩ hp
def sp_law_steps (K : PySem.W.Frag) : Sp := fun vs H Q _ => vs.length = 2 ∧ ∃ (m : Addr) (many n : Int) (B : Hp) (M L : List (Addr × HO)), vs = [.ref m, .int many] ∧ Is B M L H ∧ Dr m n B M ∧ n < 2 ^ 38 ∧ 1 ≤ many ∧ many ≤ 12 ∧
  ∀ (p : Addr) (xs : List V) (rs : List StepT) (B' H' : Hp) (M' : List (Addr × HO)), Same B B' → Is B' M' L H' → Dr m (n + 109) B' M' → StepsB B' xs rs → (∀ r ∈ rs, StepG r) → 1 ≤ rs.length → rs.length ≤ 12 → B' p = some (.lst xs) → Q (.ref p) H'
theorem ap_law_steps {K : PySem.W.Frag} {B H : Hp} {M L : List (Addr × HO)} {Q : VK} {E : XK} {many n : Int} {m : Addr} (I : Is B M L H) (d : Dr m n B M) (h : n < 2 ^ 38) (h1 : 1 ≤ many) (h2 : many ≤ 12) (q : ∀ (p : Addr) (xs : List V) (rs : List StepT) (B' H' : Hp) (M' : List (Addr × HO)), Same B B' → Is B' M' L H' → Dr m (n + 109) B' M' → StepsB B' xs rs → (∀ r ∈ rs, StepG r) → 1 ≤ rs.length → rs.length ≤ 12 → B' p = some (.lst xs) → Q (.ref p) H') : sp_law_steps K [.ref m, .int many] H Q E :=
  ⟨rfl, m, many, n, B, M, L, rfl, I, d, h, h1, h2, q⟩
def t_law_steps (K : PySem.W.Frag) : TS := (tRet (tLc (iRng1 (tCons (tOp (rAddA K) (tC (.int 1)) (tCl 2 0 (sp_law_draw K) (fun vs zs => pick .non [0, 1] (vs ++ zs)) E0 (tCons (tVar 0) (tCons (tVar 1) tNil)) tNil)) tNil)) (gName 2) tYes (tCl 1 0 (sp_law_step K) (fun vs zs => pick .non [0] (vs ++ zs)) E0 (tCons (tVar 0) tNil) tNil) [2]))
theorem rd_law_steps {K : PySem.W.Frag} (vs : List V) (H : Hp) (Q : VK) (E : XK) (h : sp_law_steps K vs H Q E) : t_law_steps K { nx := fun _ H' => Q .non H', rt := Q } (start ["m", "many", "k"] vs) H := by
  obtain ⟨_, m, many, n, B, M, L, rfl, hI, hd, h1, h2, h3, q⟩ := h
  show t_law_steps K ⟨_, _, _, _⟩ [some (.ref m), some (.int many), none] H
  unfold t_law_steps
  tm_at "go"
  tm_at "draw"
  tm_at "go"
  have hd : Dr m (n + 1 + 9 * ((0 : Nat) : Int)) B M := hd.mono (by omega)
  refine' g_aLc walk_range hI (by tm_at "wiped") (by omega) (fun i acc B2 M' => Dr m (n + 1 + 9 * (i : Int)) B2 M' ∧ ∃ rs, StepsB B2 acc rs ∧ rs.length = i ∧ ∀ r ∈ rs, StepG r) ⟨hd, [], .nil, rfl, fun _ h => by cases h⟩ (fun _ _ _ _ _ _ _ _ _ _ => trivial) ?_ ?_
  · rintro i x acc B2 M' D H' H'' hi s2 hI ⟨hd, rs, hrs, hrl, hrg⟩ ⟨rfl, rfl⟩ hz
    have hi : i < (1 + r).toNat := hi
    tm_at "go"
    refine' g_wiped (by tm_at "wiped") ?_
    tm_at "go"
    refine' ap_law_step (K := K) hI hd (by omega) ?_
    clear hI hd
    intro p st B3 H M3 s3 hI hd hg hp
    refine lcY (s2.trans s3) hI hz ⟨hd.mono (by omega), rs ++ [st], (hrs.same s3).snoc ⟨p, rfl, hp⟩, by simp [hrl], fun y hy => ?_⟩
    rcases List.mem_append.mp hy with h | h
    · exact hrg y h
    · rw [List.mem_singleton.mp h]
      exact hg
  clear hI hd
  rintro acc B2 M D H s2 hI ⟨hd, rs, hrs, hrl, hrg⟩ _
  have hrl : rs.length = (1 + r).toNat := hrl
  refine' hI.give (a := D) (by tm_at "del") ?_
  clear hI
  intro B3 s3 hp hI
  exact q D acc rs B3 _ _ (s2.trans s3) hI ((hd.mono (by omega)).same s3) (hrs.same s3) hrg (by omega) (by omega) hp
def IsPS (B : Hp) (x : V) : Prop := ∃ a nm rs, x = .ref a ∧ PlainS B a nm rs
theorem IsPS.same {B B' : Hp} {x : V} (h : IsPS B x) (e : Same B B') : IsPS B' x := by
  obtain ⟨a, nm, rs, rfl, h⟩ := h
  exact ⟨a, nm, rs, rfl, h.same e⟩
def sp_law_styles (K : PySem.W.Frag) : Sp := fun vs H Q _ => vs.length = 3 ∧ ∃ (m w : Addr) (ws : List V) (many n : Int) (B : Hp) (M L : List (Addr × HO)), vs = [.ref m, .ref w, .int many] ∧ Is B M L H ∧ Dr m n B M ∧ n < 2 ^ 37 ∧ 1 ≤ many ∧ many ≤ 4 ∧ B w = some (.lst ws) ∧ 4 ≤ ws.length ∧ (∀ x ∈ ws, IsNm x) ∧
  ∀ (p : Addr) (xs : List V) (B' H' : Hp) (M' : List (Addr × HO)), Same B B' → Is B' M' L H' → Dr m (n + 441) B' M' → (∀ x ∈ xs, IsPS B' x) → 1 ≤ xs.length → xs.length ≤ 4 → B' p = some (.lst xs) → Q (.ref p) H'
theorem ap_law_styles {K : PySem.W.Frag} {B H : Hp} {M L : List (Addr × HO)} {Q : VK} {E : XK} {many n : Int} {m w : Addr} {ws : List V} (I : Is B M L H) (d : Dr m n B M) (h : n < 2 ^ 37) (h1 : 1 ≤ many) (h2 : many ≤ 4) (hw : B w = some (.lst ws)) (hw4 : 4 ≤ ws.length) (hnm : ∀ x ∈ ws, IsNm x) (q : ∀ (p : Addr) (xs : List V) (B' H' : Hp) (M' : List (Addr × HO)), Same B B' → Is B' M' L H' → Dr m (n + 441) B' M' → (∀ x ∈ xs, IsPS B' x) → 1 ≤ xs.length → xs.length ≤ 4 → B' p = some (.lst xs) → Q (.ref p) H') : sp_law_styles K [.ref m, .ref w, .int many] H Q E :=
  ⟨rfl, m, w, ws, many, n, B, M, L, rfl, I, d, h, h1, h2, hw, hw4, hnm, q⟩
abbrev t_law_styles_0 (K : PySem.W.Frag) : TS := (tDrop (tBM K "list" rAppend (tVar 3) (tCons (tTup (tCons (tOp (rIx K) (tVar 1) (tVar 4)) (tCons (tCl 2 0 (sp_law_steps K) (fun vs zs => pick .non [0, 1] (vs ++ zs)) E0 (tCons (tVar 0) (tCons (tOp (rIx K) (tLst (tCons (tC (.int 4)) (tCons (tC (.int 4)) (tCons (tC (.int 12)) tNil)))) (tCl 2 0 (sp_law_draw K) (fun vs zs => pick .non [0, 1] (vs ++ zs)) E0 (tCons (tVar 0) (tCons (tC (.int 3)) tNil)) tNil)) tNil)) tNil) tNil))) tNil)))
abbrev t_law_styles_1 (K : PySem.W.Frag) : TS := (tRet (tVar 3))
abbrev t_law_styles_2 (K : PySem.W.Frag) : TS := (tSeq (tFor (iRng1 (tCons (tOp (rAddA K) (tC (.int 1)) (tCl 2 0 (sp_law_draw K) (fun vs zs => pick .non [0, 1] (vs ++ zs)) E0 (tCons (tVar 0) (tCons (tVar 2) tNil)) tNil)) tNil)) (gName 4) (t_law_styles_0 K)) (t_law_styles_1 K))
def t_law_styles (K : PySem.W.Frag) : TS := (tSeq (tAsg (tLst tNil) (gName 3)) (t_law_styles_2 K))
theorem rd_law_styles {K : PySem.W.Frag} (vs : List V) (H : Hp) (Q : VK) (E : XK) (h : sp_law_styles K vs H Q E) : t_law_styles K { nx := fun _ H' => Q .non H', rt := Q } (start ["m", "w", "many", "found", "k"] vs) H := by
  obtain ⟨_, m, w, ws, many, n, B, M, L, rfl, hI, hd, h1, h2, h3, hw, hw4, hnm, q⟩ := h
  show t_law_styles K ⟨_, _, _, _⟩ [some (.ref m), some (.ref w), some (.int many), none, none] H
  unfold t_law_styles
  tm_at "go"
  obtain ⟨found, rfl⟩ : ∃ q, q = p := ⟨_, rfl⟩
  tm_at "draw"
  tm_at "go"
  have hd : Dr m (n + 1 + 110 * ((0 : Nat) : Int)) B M := hd.mono (by omega)
  refine' g_aFor walk_range (fun i σ H => ∃ (c : Option V) (B2 : Hp) (M : List (Addr × HO)) (xs : List V), σ = [some (.ref m), some (.ref w), some (.int many), some (.ref found), c] ∧
      Same B B2 ∧ Is B2 M ((found, .lst xs) :: L) H ∧ Dr m (n + 1 + 110 * (i : Int)) B2 M ∧ (∀ x ∈ xs, IsPS B2 x) ∧ xs.length = i)
      ⟨_, B, _, [], rfl, fun _ _ e => e, hI, hd, (fun _ h => by cases h), rfl⟩ (fun _ _ _ _ _ => trivial) ?_ ?_
  · rintro i x σ H H' hi ⟨c, B2, M, xs, rfl, s2, hI, hd, hx, hl⟩ ⟨rfl, rfl⟩
    have hi : i < (1 + r).toNat := hi
    replace hw := s2 _ _ hw
    tm_at "go"
    refine g_ix_nm (by tm_at "sq") hnm (by omega) (by omega) ?_
    intro nm g1 g2 _
    tm_at "go"
    tm_at "draw"
    refine g_ix_ints (lo := 4) (hi := 12) (by tm_at "sq") (by repeat (first | exact Ints.nil | refine Ints.cons (by omega) ?_)) hr0 (by tm_at "arith") ?_
    intro u hu0 hu1
    tm_at "go"
    refine' ap_law_steps (K := K) hI hd (by omega) (by omega) (by omega) ?_
    clear hI hd
    intro ps ys rs B3 H M3 s3 hI hd hys hg l0 l1 hps
    tm_at "go"
    refine' hI.give (a := p) (by tm_at "del") ?_
    clear hI
    intro B4 s4 hp hI
    refine ⟨_, B4, _, _, rfl, (s2.trans s3).trans s4, hI.forget (L' := (found, .lst (xs ++ [V.ref p])) :: L) (by tm_at "sub"), (hd.mono (by omega)).same s4, fun x hx' => ?_, by simp [hl]⟩
    rcases List.mem_append.mp hx' with h | h
    · exact (hx x h).same (s3.trans s4)
    · rw [List.mem_singleton.mp h]
      exact ⟨p, nm, rs, rfl, ⟨ps, ys, hp, s4 _ _ hps, hys.same s4⟩, ⟨g1, g2⟩, l0, l1, hg⟩
  · rintro σ H ⟨c, B2, M, xs, rfl, s2, hI, hd, hx, hl⟩
    have hl : xs.length = (1 + r).toNat := hl
    tm_at "go"
    refine' hI.give (a := found) (by tm_at "del") ?_
    clear hI
    intro B4 s4 hp hI
    exact q found xs B4 _ _ (s2.trans s4) hI ((hd.mono (by omega)).same s4) (fun x hx' => (hx x hx').same s4) (by omega) (by omega) hp
def strideS : List Int := [1, 2, 7, 1009, 33331]
def nbr (f s : Int) (k : Nat) : Int := 1 + (f + s * (k : Int) * ((k : Int) + 1)) % 99999
theorem stride_no : ∀ s ∈ ([1, 2, 7, 1009, 33331] : List Nat), ∀ d, d < 1981 → d = 0 ∨ (s * d) % 99999 ≠ 0 := by decide +kernel
theorem nbr_ne {f s : Int} {i j : Nat} (hs : s ∈ strideS) (hij : i < j) (hj : j < 45) : nbr f s i ≠ nbr f s j := by
  intro h
  unfold nbr at h
  have h1 : (f + s * (i : Int) * ((i : Int) + 1)) % 99999 = (f + s * (j : Int) * ((j : Int) + 1)) % 99999 := by omega
  have h2 := Int.emod_eq_emod_iff_emod_sub_eq_zero.mp h1.symm
  have hle : i * (i + 1) ≤ j * (j + 1) := Nat.mul_le_mul (by omega) (by omega)
  have hlt : i * (i + 1) < j * (j + 1) := Nat.lt_of_le_of_lt (Nat.mul_le_mul_left i (show i + 1 ≤ j by omega)) (Nat.mul_lt_mul_of_lt_of_le hij (by omega) (by omega))
  have hb : j * (j + 1) ≤ 44 * 45 := Nat.mul_le_mul (by omega) (by omega)
  have e1 : ∀ k : Nat, s * (k : Int) * ((k : Int) + 1) = s * ((k * (k + 1) : Nat) : Int) := fun k => by
    rw [Int.mul_assoc, Int.natCast_mul, Int.natCast_add]
    rfl
  have e2 : (f + s * (j : Int) * ((j : Int) + 1)) - (f + s * (i : Int) * ((i : Int) + 1)) = s * ((j * (j + 1) - i * (i + 1) : Nat) : Int) := by
    rw [e1, e1, Int.natCast_sub hle, Int.mul_sub]
    omega
  rw [e2] at h2
  have key : ∀ n : Nat, n ∈ ([1, 2, 7, 1009, 33331] : List Nat) → s = (n : Int) → False := fun n hn e => by
    rw [e] at h2
    rcases stride_no n hn (j * (j + 1) - i * (i + 1)) (by omega) with h3 | h3
    · omega
    · exact h3 (by have h4 : ((n * (j * (j + 1) - i * (i + 1)) : Nat) : Int) % 99999 = 0 := by rw [Int.natCast_mul]; exact h2
                   omega)
  simp only [strideS, List.mem_cons, List.not_mem_nil, or_false] at hs
  rcases hs with h | h | h | h | h
  · exact key 1 (by simp) h
  · exact key 2 (by simp) h
  · exact key 7 (by simp) h
  · exact key 1009 (by simp) h
  · exact key 33331 (by simp) h
theorem nbr_nd {f s : Int} (hs : s ∈ strideS) {many : Nat} (h : many ≤ 45) : ((List.range many).map (nbr f s)).Nodup := by
  refine List.pairwise_map.mpr (List.Pairwise.imp_of_mem ?_ (List.pairwise_lt_range (n := many)))
  intro a b _ hb hab
  exact nbr_ne hs hab (by have := List.mem_range.mp hb; omega)
theorem nbr_in (f s : Int) (k : Nat) : 1 ≤ nbr f s k ∧ nbr f s k ≤ 99999 := by
  unfold nbr
  have h1 := Int.emod_nonneg (f + s * (k : Int) * ((k : Int) + 1)) (show (99999 : Int) ≠ 0 by decide)
  have h2 := Int.emod_lt_of_pos (f + s * (k : Int) * ((k : Int) + 1)) (show (0 : Int) < 99999 by decide)
  omega
def sp_law_numbers (K : PySem.W.Frag) : Sp := fun vs H Q _ => vs.length = 2 ∧ ∃ (m : Addr) (many n : Int) (B : Hp) (M L : List (Addr × HO)), vs = [.ref m, .int many] ∧ Is B M L H ∧ Dr m n B M ∧ n < 2 ^ 38 ∧ 0 ≤ many ∧ many ≤ 45 ∧
  ∀ (p : Addr) (f s : Int) (H' : Hp) (M' : List (Addr × HO)), Is B M' ((p, .lst ((List.range many.toNat).map fun k => .int (nbr f s k))) :: L) H' → Dr m (n + 2) B M' → s ∈ strideS → Q (.ref p) H'
theorem ap_law_numbers {K : PySem.W.Frag} {B H : Hp} {M L : List (Addr × HO)} {Q : VK} {E : XK} {many n : Int} {m : Addr} (I : Is B M L H) (d : Dr m n B M) (h : n < 2 ^ 38) (h1 : 0 ≤ many) (h2 : many ≤ 45) (q : ∀ (p : Addr) (f s : Int) (H' : Hp) (M' : List (Addr × HO)), Is B M' ((p, .lst ((List.range many.toNat).map fun k => .int (nbr f s k))) :: L) H' → Dr m (n + 2) B M' → s ∈ strideS → Q (.ref p) H') : sp_law_numbers K [.ref m, .int many] H Q E :=
  ⟨rfl, m, many, n, B, M, L, rfl, I, d, h, h1, h2, q⟩
abbrev t_law_numbers_0 (K : PySem.W.Frag) : TS := (tRet (tLc (iRng1 (tCons (tVar 1) tNil)) (gName 4) tYes (tOp (rAddA K) (tC (.int 1)) (tOp (rI (fun _ j => 0 < j) fun i j => .int (i % j)) (tOp (rAddA K) (tVar 2) (tOp rMulA (tOp rMulA (tVar 3) (tVar 4)) (tOp (rAddA K) (tVar 4) (tC (.int 1))))) (tC (.int 99999)))) [4]))
def t_law_numbers (K : PySem.W.Frag) : TS := (tSeq (tAsg (tTup (tCons (tCl 2 0 (sp_law_draw K) (fun vs zs => pick .non [0, 1] (vs ++ zs)) E0 (tCons (tVar 0) (tCons (tC (.int 99999)) tNil)) tNil) (tCons (tOp (rIx K) (tLst (tCons (tC (.int 1)) (tCons (tC (.int 2)) (tCons (tC (.int 7)) (tCons (tC (.int 1009)) (tCons (tC (.int 33331)) tNil)))))) (tCl 2 0 (sp_law_draw K) (fun vs zs => pick .non [0, 1] (vs ++ zs)) E0 (tCons (tVar 0) (tCons (tC (.int 5)) tNil)) tNil)) tNil))) (gTup K 2 (gCons (gName 2) (gCons (gName 3) gNil)))) (t_law_numbers_0 K))
theorem rd_law_numbers {K : PySem.W.Frag} (vs : List V) (H : Hp) (Q : VK) (E : XK) (h : sp_law_numbers K vs H Q E) : t_law_numbers K { nx := fun _ H' => Q .non H', rt := Q } (start ["m", "many", "first", "stride", "k"] vs) H := by
  obtain ⟨_, m, many, n, B, M, L, rfl, hI, hd, h1, h2, h3, q⟩ := h
  show t_law_numbers K ⟨_, _, _, _⟩ [some (.ref m), some (.int many), none, none, none] H
  unfold t_law_numbers
  tm_at "go"
  tm_at "draw"
  revert r
  intro first hf0 hf1
  tm_at "go"
  tm_at "draw"
  refine g_ix_all (fun x => ∃ s, x = .int s ∧ s ∈ strideS) (by tm_at "sq") (by
    intro x hx
    simp only [List.mem_cons, List.not_mem_nil, or_false] at hx
    rcases hx with rfl | rfl | rfl | rfl | rfl <;> exact ⟨_, rfl, by decide⟩) hr0 (by tm_at "arith") ?_
  rintro _ ⟨stride, rfl, hst⟩
  tm_at "go"
  replace hI := hI.forget (L' := L) (by tm_at "sub")
  refine' g_aLc walk_range hI (by tm_at "wiped") (by omega) (fun i acc B2 M' => B = B2 ∧ Dr m (n + 2) B M' ∧ acc = (List.range i).map fun k => V.int (nbr first stride k)) ⟨rfl, hd.mono (by omega), rfl⟩ (fun _ _ _ _ _ _ _ _ _ _ => trivial) ?_ ?_
  · rintro i x acc B2 M' D H' H'' hi s2 hI ⟨rfl, hd, hta⟩ ⟨rfl, rfl⟩ hz
    have hi : i < many.toNat := hi
    tm_at "go"
    refine' g_wiped (by tm_at "wiped") ?_
    tm_at "go"
    refine lcY s2 hI hz ⟨rfl, hd, ?_⟩
    rw [List.range_succ, List.map_append, hta]
    simp only [List.map_cons, List.map_nil, nbr, Int.zero_add]
  clear hI hd
  rintro ys B2 M D H s2 hI ⟨rfl, hd, hy⟩ _
  have hy : ys = (List.range many.toNat).map fun k => V.int (nbr first stride k) := by
    exact hy
  subst hy
  tm_at "go"
  exact q D first stride H M hI hd hst
def stDur (r : StepT) : Int := r.2.1 + r.2.2
theorem sum_steps : ∀ (rs : List StepT), (∀ r ∈ rs, StepG r) → 0 ≤ (rs.map stDur).sum ∧ (rs.map stDur).sum ≤ 480 * (rs.length : Int)
  | [], _ => by simp
  | r :: rs, h => by
    have ih := sum_steps rs fun x hx => h x (List.mem_cons_of_mem _ hx)
    obtain ⟨_, h1, h2, h3, h4⟩ := h r List.mem_cons_self
    rw [List.map_cons, List.sum_cons, List.length_cons]
    unfold stDur at *
    omega
def sp_law_plain_job (K : PySem.W.Frag) : Sp := fun vs H Q _ => vs.length = 4 ∧ ∃ (m p : Addr) (figure early n : Int) (nm : Str) (rs : List StepT) (B : Hp) (M L : List (Addr × HO)), vs = [.ref m, .int figure, .ref p, .int early] ∧ Is B M L H ∧ Dr m n B M ∧ n < 2 ^ 38 ∧ 1 ≤ figure ∧ figure ≤ 99999 ∧ 0 ≤ early ∧ early ≤ 988000 ∧ PlainS B p nm rs ∧
  ∀ (x : Addr) (j : JobT) (B' H' : Hp) (M' : List (Addr × HO)), Same B B' → Is B' M' L H' → Dr m (n + 7) B' M' → PlainJ B' x j → j.n = figure → j.w ≤ 999900 → Q (.ref x) H'
theorem ap_law_plain_job {K : PySem.W.Frag} {B H : Hp} {M L : List (Addr × HO)} {Q : VK} {E : XK} {m p : Addr} {figure early n : Int} {nm : Str} {rs : List StepT} (I : Is B M L H) (d : Dr m n B M) (h : n < 2 ^ 38) (h1 : 1 ≤ figure) (h2 : figure ≤ 99999) (h3 : 0 ≤ early) (h4 : early ≤ 988000) (hp : PlainS B p nm rs) (q : ∀ (x : Addr) (j : JobT) (B' H' : Hp) (M' : List (Addr × HO)), Same B B' → Is B' M' L H' → Dr m (n + 7) B' M' → PlainJ B' x j → j.n = figure → j.w ≤ 999900 → Q (.ref x) H') : sp_law_plain_job K [.ref m, .int figure, .ref p, .int early] H Q E :=
  ⟨rfl, m, p, figure, early, n, nm, rs, B, M, L, rfl, I, d, h, h1, h2, h3, h4, hp, q⟩
abbrev t_law_plain_job_0 (K : PySem.W.Frag) : TS := (tRet (tTup (tCons (tVar 1) (tCons (tVar 2) (tCons (tVar 5) (tCons (tOp (rAddA K) (tVar 5) (tVar 6)) (tCons (tOp (rIx K) (tLst (tCons (tC (.bl false)) (tCons (tC (.bl false)) (tCons (tC (.bl true)) tNil)))) (tCl 2 0 (sp_law_draw K) (fun vs zs => pick .non [0, 1] (vs ++ zs)) E0 (tCons (tVar 0) (tCons (tC (.int 3)) tNil)) tNil)) tNil)))))))
abbrev t_law_plain_job_1 (K : PySem.W.Frag) : TS := (tSeq (tAsg (tOp (rIx K) (tLst (tCons (tC (.int 0)) (tCons (tCl 2 0 (sp_law_draw K) (fun vs zs => pick .non [0, 1] (vs ++ zs)) E0 (tCons (tVar 0) (tCons (tC (.int 9)) tNil)) tNil) (tCons (tCl 2 0 (sp_law_draw K) (fun vs zs => pick .non [0, 1] (vs ++ zs)) E0 (tCons (tVar 0) (tCons (tOp (rAddA K) (tOp rMulA (tC (.int 2)) (tVar 4)) (tC (.int 1))) tNil)) tNil) (tCons (tVar 4) tNil))))) (tCl 2 0 (sp_law_draw K) (fun vs zs => pick .non [0, 1] (vs ++ zs)) E0 (tCons (tVar 0) (tCons (tC (.int 4)) tNil)) tNil)) (gName 6)) (t_law_plain_job_0 K))
abbrev t_law_plain_job_2 (K : PySem.W.Frag) : TS := (tSeq (tAsg (tOp (rAddA K) (tVar 3) (tOp (rIx K) (tLst (tCons (tC (.int 0)) (tCons (tCl 2 0 (sp_law_draw K) (fun vs zs => pick .non [0, 1] (vs ++ zs)) E0 (tCons (tVar 0) (tCons (tC (.int 9)) tNil)) tNil) (tCons (tCl 2 0 (sp_law_draw K) (fun vs zs => pick .non [0, 1] (vs ++ zs)) E0 (tCons (tVar 0) (tCons (tC (.int 200)) tNil)) tNil) tNil)))) (tCl 2 0 (sp_law_draw K) (fun vs zs => pick .non [0, 1] (vs ++ zs)) E0 (tCons (tVar 0) (tCons (tC (.int 3)) tNil)) tNil))) (gName 5)) (t_law_plain_job_1 K))
def t_law_plain_job (K : PySem.W.Frag) : TS := (tSeq (tAsg (tCB (rSum K) (tCons (tLc (iAny K (tOp (rIx K) (tVar 2) (tC (.int 1)))) (gName 7) tYes (tOp (rAddA K) (tOp (rIx K) (tVar 7) (tC (.int 1))) (tOp (rIx K) (tVar 7) (tC (.int 2)))) [7]) tNil)) (gName 4)) (t_law_plain_job_2 K))
theorem rd_law_plain_job {K : PySem.W.Frag} (vs : List V) (H : Hp) (Q : VK) (E : XK) (h : sp_law_plain_job K vs H Q E) : t_law_plain_job K { nx := fun _ H' => Q .non H', rt := Q } (start ["m", "figure", "plain", "early", "span", "came", "room", "row"] vs) H := by
  obtain ⟨_, m, pl, figure, early, n, nm, rs, B, M, L, rfl, hI, hd, h1, f0, f1, e0, e1, hP, q⟩ := h
  show t_law_plain_job K ⟨_, _, _, _⟩ [some (.ref m), some (.int figure), some (.ref pl), some (.int early), none, none, none, none] H
  obtain ⟨⟨a, xs, p1, p2, p3⟩, hg⟩ := id hP
  have hl := p3.len
  have hl1 := hg.l1
  unfold t_law_plain_job
  tm_at "go"
  refine g_ix_t (by tm_at "st") (atI_of (by decide) rfl) ?_
  tm_at "go"
  refine' g_lcX (xs := xs) ((rs.map stDur).map V.int) (by simp [hl]) walk_list hI (by tm_at "wiped") (by omega) (fun D acc H' I => SqL.of (I.b p2)) ?_ ?_
  · intro i x y D acc H' hx hy hI PY hPY
    obtain ⟨r, e, b, rfl, hb⟩ := p3.get hx
    tm_at "go"
    refine' g_wiped (by tm_at "wiped") ?_
    tm_at "go"
    refine g_ix_t (by tm_at "st") (atI_of (by decide) rfl) ?_
    tm_at "go"
    refine g_ix_t (by tm_at "st") (atI_of (by decide) rfl) ?_
    tm_at "go"
    have ey : y = .int (stDur r) := by
      rw [List.getElem?_map, List.getElem?_map, e] at hy
      exact (Option.some.inj hy).symm
    rw [ey] at hPY
    exact hPY _ hI
  clear hI
  intro D H hI
  tm_at "go"
  refine g_sum (by tm_at "sq") ?_
  obtain ⟨q0, q1⟩ := sum_steps rs hg.row
  generalize (rs.map stDur).sum = span at *
  replace hI := hI.forget (L' := L) (by tm_at "sub")
  tm_at "go"
  tm_at "draw"
  tm_at "go"
  tm_at "draw"
  tm_at "go"
  tm_at "draw"
  refine g_ix_ints (lo := 0) (hi := 199) (by tm_at "sq") (by repeat (first | exact Ints.nil | refine Ints.cons (by omega) ?_)) hr0 (by tm_at "arith") ?_
  intro c hc0 hc1
  replace hI := hI.forget (L' := L) (by tm_at "sub")
  tm_at "go"
  tm_at "draw"
  tm_at "go"
  tm_at "draw"
  tm_at "go"
  tm_at "draw"
  refine g_ix_ints (lo := 0) (hi := 11520) (by tm_at "sq") (by repeat (first | exact Ints.nil | refine Ints.cons (by omega) ?_)) hr0 (by tm_at "arith") ?_
  intro u hu0 hu1
  replace hI := hI.forget (L' := L) (by tm_at "sub")
  tm_at "go"
  tm_at "draw"
  refine g_ix_all (fun x => ∃ b, x = V.bl b) (by tm_at "sq") (by
    intro x hx
    simp only [List.mem_cons, List.not_mem_nil, or_false] at hx
    rcases hx with rfl | rfl | rfl <;> exact ⟨_, rfl⟩) hr0 (by tm_at "arith") ?_
  rintro _ ⟨b, rfl⟩
  tm_at "go"
  refine' hI.give (a := p) (by tm_at "del") ?_
  clear hI
  intro B4 s4 hp hI
  exact q p ⟨figure, nm, rs, early + c, early + c + u, b⟩ B4 _ _ s4 (hI.forget (by tm_at "sub")) ((hd.mono (by omega)).same s4) ⟨⟨pl, hp, hP.same s4⟩, hg, f0, f1, by show 0 ≤ early + c; omega, by show early + c ≤ 1000000; omega, by show early + c ≤ early + c + u; omega, by show early + c + u ≤ 1000000; omega⟩ rfl (by show early + c + u ≤ 999900; omega)
abbrev JobsB (B : Hp) (xs : List V) (js : List JobT) : Prop := All2 (fun v j => ∃ a, v = .ref a ∧ PlainJ B a j) xs js
theorem JobsB.same {B B' : Hp} {xs : List V} {js : List JobT} (h : JobsB B xs js) (e : Same B B') : JobsB B' xs js := All2.mono (fun _ _ ⟨a, e1, h1⟩ => ⟨a, e1, h1.same e⟩) h
def IsPJ (B : Hp) (x : V) : Prop := ∃ a j, x = .ref a ∧ PlainJ B a j
theorem IsPJ.same {B B' : Hp} {x : V} (h : IsPJ B x) (e : Same B B') : IsPJ B' x := by
  obtain ⟨a, j, rfl, h⟩ := h
  exact ⟨a, j, rfl, h.same e⟩
def sp_law_plain_jobs (K : PySem.W.Frag) : Sp := fun vs H Q _ => vs.length = 3 ∧ ∃ (m st : Addr) (ss : List V) (many n : Int) (B : Hp) (M L : List (Addr × HO)), vs = [.ref m, .ref st, .int many] ∧ Is B M L H ∧ Dr m n B M ∧ n < 2 ^ 37 ∧ 1 ≤ many ∧ many ≤ 45 ∧ B st = some (.lst ss) ∧ (∀ x ∈ ss, IsPS B x) ∧ 1 ≤ ss.length ∧ ss.length ≤ 4 ∧
  ∀ (p : Addr) (xs : List V) (B' H' : Hp) (M' : List (Addr × HO)), Same B B' → Is B' M' L H' → Dr m (n + 5 + 8 * many) B' M' → ∀ js, JobsB B' xs js → (js.map (·.n)).Nodup → (xs.length : Int) ≤ many → B' p = some (.lst xs) → (∀ j ∈ js, j.w ≤ 999900) → Q (.ref p) H'
theorem ap_law_plain_jobs {K : PySem.W.Frag} {B H : Hp} {M L : List (Addr × HO)} {Q : VK} {E : XK} {m st : Addr} {ss : List V} {many n : Int} (I : Is B M L H) (d : Dr m n B M) (h : n < 2 ^ 37) (h1 : 1 ≤ many) (h2 : many ≤ 45) (hs : B st = some (.lst ss)) (hS : ∀ x ∈ ss, IsPS B x) (hs1 : 1 ≤ ss.length) (hs2 : ss.length ≤ 4) (q : ∀ (p : Addr) (xs : List V) (B' H' : Hp) (M' : List (Addr × HO)), Same B B' → Is B' M' L H' → Dr m (n + 5 + 8 * many) B' M' → ∀ js, JobsB B' xs js → (js.map (·.n)).Nodup → (xs.length : Int) ≤ many → B' p = some (.lst xs) → (∀ j ∈ js, j.w ≤ 999900) → Q (.ref p) H') : sp_law_plain_jobs K [.ref m, .ref st, .int many] H Q E :=
  ⟨rfl, m, st, ss, many, n, B, M, L, rfl, I, d, h, h1, h2, hs, hS, hs1, hs2, q⟩
abbrev t_law_plain_jobs_0 (K : PySem.W.Frag) : TS := (tDrop (tBM K "list" rAppend (tVar 5) (tCons (tCl 4 0 (sp_law_plain_job K) (fun vs zs => pick .non [0, 1, 2, 3] (vs ++ zs)) E0 (tCons (tVar 0) (tCons (tOp (rIx K) (tVar 4) (tVar 6)) (tCons (tOp (rIx K) (tVar 1) (tCl 2 0 (sp_law_draw K) (fun vs zs => pick .non [0, 1] (vs ++ zs)) E0 (tCons (tVar 0) (tCons (tCB (rLen K) (tCons (tVar 1) tNil)) tNil)) tNil)) (tCons (tVar 3) tNil)))) tNil) tNil)))
abbrev t_law_plain_jobs_1 (K : PySem.W.Frag) : TS := (tRet (tVar 5))
abbrev t_law_plain_jobs_2 (K : PySem.W.Frag) : TS := (tSeq (tFor (iRng1 (tCons (tCl 2 0 (sp_law_draw K) (fun vs zs => pick .non [0, 1] (vs ++ zs)) E0 (tCons (tVar 0) (tCons (tOp (rAddA K) (tVar 2) (tC (.int 1))) tNil)) tNil) tNil)) (gName 6) (t_law_plain_jobs_0 K)) (t_law_plain_jobs_1 K))
abbrev t_law_plain_jobs_3 (K : PySem.W.Frag) : TS := (tSeq (tAsg (tLst tNil) (gName 5)) (t_law_plain_jobs_2 K))
abbrev t_law_plain_jobs_4 (K : PySem.W.Frag) : TS := (tSeq (tAsg (tCl 2 0 (sp_law_numbers K) (fun vs zs => pick .non [0, 1] (vs ++ zs)) E0 (tCons (tVar 0) (tCons (tVar 2) tNil)) tNil) (gName 4)) (t_law_plain_jobs_3 K))
def t_law_plain_jobs (K : PySem.W.Frag) : TS := (tSeq (tAsg (tOp (rIx K) (tLst (tCons (tC (.int 0)) (tCons (tCl 2 0 (sp_law_draw K) (fun vs zs => pick .non [0, 1] (vs ++ zs)) E0 (tCons (tVar 0) (tCons (tC (.int 1000)) tNil)) tNil) (tCons (tOp (rI0 fun i j => .int (i - j)) (tOp (rI CPow fun i j => .int (i ^ j.toNat)) (tC (.int 10)) (tC (.int 6))) (tC (.int 12000))) tNil)))) (tCl 2 0 (sp_law_draw K) (fun vs zs => pick .non [0, 1] (vs ++ zs)) E0 (tCons (tVar 0) (tCons (tC (.int 3)) tNil)) tNil)) (gName 3)) (t_law_plain_jobs_4 K))
theorem rd_law_plain_jobs {K : PySem.W.Frag} (vs : List V) (H : Hp) (Q : VK) (E : XK) (h : sp_law_plain_jobs K vs H Q E) : t_law_plain_jobs K { nx := fun _ H' => Q .non H', rt := Q } (start ["m", "styles", "many", "early", "numbers", "found", "k"] vs) H := by
  obtain ⟨_, m, st, ss, many, n, B, M, L, rfl, hI, hd, h1, h2, h3, hst, hS, hs1, hs2, q⟩ := h
  show t_law_plain_jobs K ⟨_, _, _, _⟩ [some (.ref m), some (.ref st), some (.int many), none, none, none, none] H
  unfold t_law_plain_jobs
  tm_at "go"
  tm_at "draw"
  tm_at "go"
  tm_at "draw"
  refine g_ix_ints (lo := 0) (hi := 988000) (by tm_at "sq") (by repeat (first | exact Ints.nil | refine Ints.cons (by omega) ?_)) hr0 (by tm_at "arith") ?_
  intro early he0 he1
  replace hI := hI.forget (L' := L) (by tm_at "sub")
  tm_at "go"
  refine' ap_law_numbers (K := K) hI hd (by omega) (by omega) (by omega) ?_
  clear hI hd
  intro pn nf ns H M hI hd hns
  have hpl : ((List.range many.toNat).map fun k => V.int (nbr nf ns k)).length = many.toNat := by simp
  tm_at "go"
  obtain ⟨found, rfl⟩ : ∃ q, q = p := ⟨_, rfl⟩
  tm_at "draw"
  tm_at "go"
  have hd : Dr m (n + 5 + 8 * ((0 : Nat) : Int)) B M := hd.mono (by omega)
  refine' g_aFor walk_range (fun i σ H => ∃ (c : Option V) (B2 : Hp) (M : List (Addr × HO)) (xs : List V) (js : List JobT), σ = [some (.ref m), some (.ref st), some (.int many), some (.int early), some (.ref pn), some (.ref found), c] ∧
      Same B B2 ∧ Is B2 M ((found, .lst xs) :: (pn, .lst ((List.range many.toNat).map fun k => .int (nbr nf ns k))) :: L) H ∧ Dr m (n + 5 + 8 * (i : Int)) B2 M ∧ JobsB B2 xs js ∧ js.map (·.n) = (List.range i).map (nbr nf ns) ∧ ∀ j ∈ js, j.w ≤ 999900)
      ⟨_, B, _, [], [], rfl, fun _ _ e => e, hI, hd, .nil, rfl, fun _ h => by cases h⟩ (fun _ _ _ _ _ => trivial) ?_ ?_
  · rintro i x σ H H' hi ⟨c, B2, M, xs, js, rfl, s2, hI, hd, hx, hj, hw9⟩ ⟨rfl, rfl⟩
    have hi : i < r.toNat := hi
    have hxl := hx.len
    have hjl : js.length = i := by simpa using congrArg List.length hj
    replace hst := s2 _ _ hst
    obtain ⟨f1, f2⟩ := nbr_in nf ns i
    tm_at "go"
    refine g_ix_l (by tm_at "sq") (atI_of (a := V.int (nbr nf ns i)) (by omega) ?_) ?_
    · rw [show ((0 : Int) + (i : Int)).toNat = i by omega, List.getElem?_map, List.getElem?_range (by omega)]
      rfl
    tm_at "go"
    tm_at "draw"
    refine g_ix_all (IsPS B) (SqL.of (hI.b hst)) hS (by omega) (by omega) ?_
    rintro _ ⟨a, nm, rs, rfl, hP⟩
    tm_at "go"
    refine' ap_law_plain_job (K := K) hI hd (by omega) f1 f2 he0 he1 (hP.same s2) ?_
    clear hI hd
    intro z j B3 H M3 s3 hI hd hJ ej ew
    tm_at "go"
    refine ⟨_, B3, _, _, js ++ [j], rfl, s2.trans s3, hI, hd.mono (by omega), (hx.same s3).snoc ⟨z, rfl, hJ⟩, ?_, fun q hq => ?_⟩
    · rw [List.map_append, hj, List.range_succ, List.map_append, List.map_cons, List.map_nil, ej]
      rfl
    · rcases List.mem_append.mp hq with h | h
      · exact hw9 q h
      · rw [List.mem_singleton.mp h]
        exact ew
  · rintro σ H ⟨c, B2, M, xs, js, rfl, s2, hI, hd, hx, hj, hw9⟩
    have hj : js.map (·.n) = (List.range r.toNat).map (nbr nf ns) := by
      exact hj
    have hxl := hx.len
    have hjl : js.length = r.toNat := by simpa using congrArg List.length hj
    tm_at "go"
    refine' hI.give (a := found) (by tm_at "del") ?_
    clear hI
    intro B4 s4 hp hI
    exact q found xs B4 _ _ (s2.trans s4) (hI.forget (by tm_at "sub")) ((hd.mono (by omega)).same s4) js (hx.same s4) (by rw [hj]; exact nbr_nd hns (by omega)) (by omega) hp hw9
def rkJ (j : JobT) : List Int := [if j.q = true then 0 else 1, j.w, j.c, j.n]
abbrev rankD (j : JobT) : PyData := .tuple ((rkJ j).map .int)
theorem rank_le : PySem.W.dataLe false rankD = fun p q => decide (rkJ p ≤ rkJ q) := by
  funext p q
  show (!PySem.W.rowLt ((rkJ q).map .int) ((rkJ p).map .int)) = _
  rw [PySem.W.dataLt_ints]
  by_cases h : rkJ q < rkJ p
  · rw [decide_eq_true h, decide_eq_false (fun z => List.not_le.mpr h z)]
    rfl
  · rw [decide_eq_false h, decide_eq_true (List.not_lt.mp h)]
    rfl
def ordJ (js : List JobT) : List JobT := js.mergeSort (PySem.W.dataLe false rankD)
theorem ordJ_perm (js : List JobT) : (ordJ js).Perm js := List.mergeSort_perm _ _
theorem jobs_alike (bs : List JobT) : PySem.W.AllAlike (bs.map rankD) := PySem.W.AllAlike.of fun a b => by
  show PySem.W.alikeAll ((rkJ a).map .int) ((rkJ b).map .int) = true
  exact PySem.W.alike_ints _ _
theorem jobs_sortable (bs : List JobT) : PySem.W.Sortable (bs.map rankD) := PySem.W.Sortable.tuples fun b => ⟨_, _, rfl⟩
theorem jobs_depth (bs : List JobT) : ∀ d ∈ bs.map rankD, d.depth ≤ 5 := fun d hd => by
  obtain ⟨b, _, rfl⟩ := List.mem_map.mp hd
  show PyData.depthAll ((rkJ b).map .int) + 1 ≤ 5
  rw [PySem.W.depth_ints]
  decide
theorem rank_key {H : Hp} {p : Addr} {j : JobT} (h : H p = some (.tup [.int (if j.q = true then 0 else 1), .int j.w, .int j.c, .int j.n])) : KeyV H (.ref p) (rankD j) :=
  .tup h (.cons (.int _) (.cons (.int _) (.cons (.int _) (.cons (.int _) .nil))))
def sp_Job_numbered (K : PySem.W.Frag) : Sp := fun vs H Q _ => vs.length = 1 ∧ ∃ (x : Addr) (j : JobT) (B : Hp) (M L : List (Addr × HO)), vs = [.ref x] ∧ Is B M L H ∧ JobAt K B x j ∧ Q (.int j.n) H
theorem ap_Job_numbered {K : PySem.W.Frag} {H : Hp} {Q : VK} {E : XK} {x : Addr} {j : JobT} {B : Hp} {M L : List (Addr × HO)} (I : Is B M L H) (h : JobAt K B x j) (q : Q (.int j.n) H) : sp_Job_numbered K [.ref x] H Q E := ⟨rfl, x, j, B, M, L, rfl, I, h, q⟩
def t_Job_numbered (K : PySem.W.Frag) : TS := (tRet (tFld K (tVar 0) "has_number"))
theorem rd_Job_numbered {K : PySem.W.Frag} (C : JobC K) (vs : List V) (H : Hp) (Q : VK) (E : XK) (h : sp_Job_numbered K vs H Q E) : t_Job_numbered K { nx := fun _ H' => Q .non H', rt := Q } (start ["self"] vs) H := by
  obtain ⟨_, x, j, B, M, L, rfl, hI, hX, q⟩ := h
  show t_Job_numbered K ⟨_, _, _, _⟩ [some (.ref x)] H
  obtain ⟨cl, n1, n2, n3, n4, n5⟩ := C
  obtain ⟨⟨dx, st, h1, h2⟩, hg⟩ := id hX
  unfold t_Job_numbered
  tm_at "go"
  exact q
def sp_Job_brought_at (K : PySem.W.Frag) : Sp := fun vs H Q _ => vs.length = 1 ∧ ∃ (x : Addr) (j : JobT) (B : Hp) (M L : List (Addr × HO)), vs = [.ref x] ∧ Is B M L H ∧ JobAt K B x j ∧ Q (.int j.c) H
theorem ap_Job_brought_at {K : PySem.W.Frag} {H : Hp} {Q : VK} {E : XK} {x : Addr} {j : JobT} {B : Hp} {M L : List (Addr × HO)} (I : Is B M L H) (h : JobAt K B x j) (q : Q (.int j.c) H) : sp_Job_brought_at K [.ref x] H Q E := ⟨rfl, x, j, B, M, L, rfl, I, h, q⟩
def t_Job_brought_at (K : PySem.W.Frag) : TS := (tRet (tFld K (tVar 0) "came"))
theorem rd_Job_brought_at {K : PySem.W.Frag} (C : JobC K) (vs : List V) (H : Hp) (Q : VK) (E : XK) (h : sp_Job_brought_at K vs H Q E) : t_Job_brought_at K { nx := fun _ H' => Q .non H', rt := Q } (start ["self"] vs) H := by
  obtain ⟨_, x, j, B, M, L, rfl, hI, hX, q⟩ := h
  show t_Job_brought_at K ⟨_, _, _, _⟩ [some (.ref x)] H
  obtain ⟨cl, n1, n2, n3, n4, n5⟩ := C
  obtain ⟨⟨dx, st, h1, h2⟩, hg⟩ := id hX
  unfold t_Job_brought_at
  tm_at "go"
  exact q
def sp_rank_of (K : PySem.W.Frag) : Sp := fun vs H Q _ => vs.length = 1 ∧ ∃ (x : Addr) (j : JobT) (B : Hp) (M L : List (Addr × HO)), vs = [.ref x] ∧ Is B M L H ∧ JobAt K B x j ∧ ∀ p H', Is B M ((p, .tup [.int (if j.q = true then 0 else 1), .int j.w, .int j.c, .int j.n]) :: L) H' → Q (.ref p) H'
def t_rank_of (K : PySem.W.Frag) : TS := (tRet (tMe (He.ga K "Job") "rank" 0 0 (sp_Job_rank K) (fun vs zs => pick .non [0] (vs ++ zs)) E0 (tVar 0) tNil tNil))
theorem rd_rank_of {K : PySem.W.Frag} (vs : List V) (H : Hp) (Q : VK) (E : XK) (h : sp_rank_of K vs H Q E) : t_rank_of K { nx := fun _ H' => Q .non H', rt := Q } (start ["job"] vs) H := by
  obtain ⟨_, x, j, B, M, L, rfl, hI, hX, q⟩ := h
  show t_rank_of K ⟨_, _, _, _⟩ [some (.ref x)] H
  obtain ⟨⟨dx, st, h1, h2⟩, hg⟩ := id hX
  unfold t_rank_of
  tm_at "go"
  exact ap_Job_rank (K := K) hI hX q
abbrev JobsA (K : PySem.W.Frag) (B : Hp) (xs : List V) (js : List JobT) : Prop := All2 (fun v j => ∃ a, v = .ref a ∧ JobAt K B a j) xs js
theorem JobsA.same {K : PySem.W.Frag} {B B' : Hp} {xs : List V} {js : List JobT} (h : JobsA K B xs js) (e : Same B B') : JobsA K B' xs js := All2.mono (fun _ _ ⟨a, e1, h1⟩ => ⟨a, e1, h1.same e⟩) h
def sp_by_rank (K : PySem.W.Frag) : Sp := fun vs H Q _ => vs.length = 1 ∧ ∃ (a : Addr) (xs : List V) (js : List JobT) (B : Hp) (M L : List (Addr × HO)), vs = [.ref a] ∧ Is B M L H ∧ (SqL K B a xs ∨ SqT K B a xs) ∧ JobsA K B xs js ∧ ∀ p ys H', JobsA K B ys (ordJ js) → Is B M ((p, .lst ys) :: L) H' → Q (.ref p) H'
theorem ap_by_rank {K : PySem.W.Frag} {H : Hp} {Q : VK} {E : XK} {a : Addr} {xs : List V} {js : List JobT} {B : Hp} {M L : List (Addr × HO)} (I : Is B M L H) (hs : SqL K B a xs ∨ SqT K B a xs) (h : JobsA K B xs js) (q : ∀ p ys H', JobsA K B ys (ordJ js) → Is B M ((p, .lst ys) :: L) H' → Q (.ref p) H') : sp_by_rank K [.ref a] H Q E := ⟨rfl, a, xs, js, B, M, L, rfl, I, hs, h, q⟩
def t_by_rank (K : PySem.W.Frag) : TS := (tRet (tCKw (rSortKey K "rank_of" (sp_rank_of K) (fun vs zs => pick .non [0] (vs ++ zs))) (tCons (tVar 0) tNil) (tCons (tC (.ref (He.ga K "rank_of"))) tNil)))
theorem rd_by_rank {K : PySem.W.Frag} (vs : List V) (H : Hp) (Q : VK) (E : XK) (h : sp_by_rank K vs H Q E) : t_by_rank K { nx := fun _ H' => Q .non H', rt := Q } (start ["jobs"] vs) H := by
  obtain ⟨_, a, xs, js, B, M, L, rfl, hI, hs, hX, q⟩ := h
  show t_by_rank K ⟨_, _, _, _⟩ [some (.ref a)] H
  unfold t_by_rank
  tm_at "go"
  refine g_ckw ?_
  tm_at "go"
  refine g_sortKey rankD hI (hs.imp (Is.sq hI) (Is.st hI)) hX (jobs_alike _) (jobs_sortable _) (jobs_depth _) (fun x j H' ⟨y, e, hJ⟩ I' => ?_) fun p ys H' hy I' => q p ys H' hy I'
  subst e
  exact ⟨rfl, y, j, B, M, L, rfl, I', hJ, fun p H' I2 => ⟨rank_key (I2.get (.head _)), I2.forget (by tm_at "sub")⟩⟩
def SpotR (B : Hp) (v : V) (s : Spot) : Prop := ∃ a, v = .ref a ∧ B a = some (.tup [.str s.1, .int s.2])
theorem SpotR.same {B B' : Hp} {v : V} {s : Spot} (h : SpotR B v s) (e : Same B B') : SpotR B' v s := h.imp fun _ ⟨a, b⟩ => ⟨a, e _ _ b⟩
abbrev SpotsB (B : Hp) (xs : List V) (ss : List Spot) : Prop := All2 (SpotR B) xs ss
theorem SpotsB.same {B B' : Hp} {xs : List V} {ss : List Spot} (h : SpotsB B xs ss) (e : Same B B') : SpotsB B' xs ss := All2.mono (fun _ _ h1 => SpotR.same h1 e) h
def RowR (B : Hp) (v : V) (r : RowT) : Prop := ∃ a sp, v = .ref a ∧ B a = some (.tup [.int r.n, .int r.k, .ref sp, .int r.b, .int r.e]) ∧ B sp = some (.tup [.str r.s.1, .int r.s.2])
theorem RowR.same {B B' : Hp} {v : V} {r : RowT} (h : RowR B v r) (e : Same B B') : RowR B' v r := by
  obtain ⟨a, sp, h1, h2, h3⟩ := h
  exact ⟨a, sp, h1, e _ _ h2, e _ _ h3⟩
abbrev RowsR (B : Hp) (xs : List V) (rs : List RowT) : Prop := All2 (RowR B) xs rs
theorem RowsR.same {B B' : Hp} {xs : List V} {rs : List RowT} (h : RowsR B xs rs) (e : Same B B') : RowsR B' xs rs := All2.mono (fun _ _ h1 => RowR.same h1 e) h
structure BenchC (K : PySem.W.Frag) : Prop where
  cl : Cls K (He.ga K "Bench")
  n1 : NoAttr K (He.ga K "Bench") "many_of"
structure GoodB (hp : Nat × Nat) : Prop where
  h0 : 1 ≤ hp.1
  h1 : hp.1 ≤ 9
  p0 : 1 ≤ hp.2
  p1 : hp.2 ≤ 9
structure BenchAt (K : PySem.W.Frag) (B : Hp) (x : Addr) (hp : Nat × Nat) : Prop where
  ex : ∃ (dx mo : Addr), B x = some (.ins (He.ga K "Bench") dx [("many_of", .ref mo)]) ∧ B mo = some (.dK [(Sum.inr "hand", .int (hp.1 : Int)), (Sum.inr "press", .int (hp.2 : Int))])
  good : GoodB hp
theorem BenchAt.same {K : PySem.W.Frag} {B B' : Hp} {x : Addr} {hp : Nat × Nat} (h : BenchAt K B x hp) (e : Same B B') : BenchAt K B' x hp := by
  obtain ⟨⟨dx, mo, h1, h2⟩, g⟩ := h
  exact ⟨⟨dx, mo, e _ _ h1, e _ _ h2⟩, g⟩
def sp_Bench_init (K : PySem.W.Frag) : Sp := fun vs H Q _ => vs.length = 3 ∧ ∃ (x dx : Addr) (hp : Nat × Nat) (B : Hp) (M L : List (Addr × HO)), vs = [.ref x, .int (hp.1 : Int), .int (hp.2 : Int)] ∧ Is B M ((x, .ins (He.ga K "Bench") dx []) :: (dx, .own x) :: L) H ∧ GoodB hp ∧
  ∀ (B' H' : Hp), Same B B' → Is B' M L H' → BenchAt K B' x hp → Q .non H'
theorem ap_Bench_init {K : PySem.W.Frag} {H : Hp} {Q : VK} {E : XK} {x dx : Addr} (hp : Nat × Nat) {B : Hp} {M L : List (Addr × HO)} (I : Is B M ((x, .ins (He.ga K "Bench") dx []) :: (dx, .own x) :: L) H) (hg : GoodB hp)
    (q : ∀ (B' H' : Hp), Same B B' → Is B' M L H' → BenchAt K B' x hp → Q .non H') : sp_Bench_init K [.ref x, .int (hp.1 : Int), .int (hp.2 : Int)] H Q E := ⟨rfl, x, dx, hp, B, M, L, rfl, I, hg, q⟩
abbrev t_Bench_init_0 (K : PySem.W.Frag) : TS := (sFld K (tVar 0) (tDisp [((tC (.str "hand")), (tVar 1)), ((tC (.str "press")), (tVar 2))]) "many_of")
abbrev t_Bench_init_1 (K : PySem.W.Frag) : TS := (tSeq (tIfS (tNot (tTr K (tCl 2 1 (sp_is_whole K) (fun vs zs => pick .non [0, 1, 2] (vs ++ (zs ++ [.int 1000000]))) E0 (tCons (tVar 2) (tCons (tC (.int 1)) tNil)) (tCons (tC (.int 9)) tNil)))) tNoS tNext) (t_Bench_init_0 K))
def t_Bench_init (K : PySem.W.Frag) : TS := (tSeq (tIfS (tNot (tTr K (tCl 2 1 (sp_is_whole K) (fun vs zs => pick .non [0, 1, 2] (vs ++ (zs ++ [.int 1000000]))) E0 (tCons (tVar 1) (tCons (tC (.int 1)) tNil)) (tCons (tC (.int 9)) tNil)))) tNoS tNext) (t_Bench_init_1 K))
theorem rd_Bench_init {K : PySem.W.Frag} (C : BenchC K) (vs : List V) (H : Hp) (Q : VK) (E : XK) (h : sp_Bench_init K vs H Q E) : t_Bench_init K { nx := fun _ H' => Q .non H', rt := Q } (start ["self", "hands", "presses"] vs) H := by
  obtain ⟨_, x, dx, hp, B, M, L, rfl, hI, hg, q⟩ := h
  show t_Bench_init K ⟨_, _, _, _⟩ [some (.ref x), some (.int (hp.1 : Int)), some (.int (hp.2 : Int))] H
  obtain ⟨cl, n1⟩ := C
  obtain ⟨g1, g2, g3, g4⟩ := id hg
  unfold t_Bench_init
  tm_at "go"
  refine' ap_is_whole_t (K := K) (by omega) (by omega) ?_
  tm_at "go"
  refine' ap_is_whole_t (K := K) (by omega) (by omega) ?_
  tm_at "go"
  obtain ⟨mo, rfl⟩ : ∃ q, q = p := ⟨_, rfl⟩
  refine' hI.give (a := x) (by tm_at "del") ?_
  clear hI
  intro B1 s1 k1 hI
  refine' hI.give (a := mo) (by tm_at "del") ?_
  clear hI
  intro B2 s2 k2 hI
  exact q B2 _ (s1.trans s2) (hI.forget (by tm_at "sub")) ⟨⟨dx, mo, s2 _ _ k1, k2⟩, hg⟩
theorem cnt_hand (hp : Nat × Nat) : cntOf hp "hand" = hp.1 := by
  unfold cntOf
  rw [if_neg (by decide +kernel)]
theorem cnt_press (hp : Nat × Nat) : cntOf hp "press" = hp.2 := by
  unfold cntOf
  rw [if_pos rfl]
def IsKd (kd : Str) : Prop := kd = "hand" ∨ kd = "press"
def sp_Bench_places_of (K : PySem.W.Frag) : Sp := fun vs H Q _ => vs.length = 2 ∧ ∃ (x : Addr) (kd : Str) (hp : Nat × Nat) (B : Hp) (M L : List (Addr × HO)), vs = [.ref x, .str kd] ∧ Is B M L H ∧ BenchAt K B x hp ∧ IsKd kd ∧
  ∀ (p : Addr) (xs : List V) (B' H' : Hp), Same B B' → Is B' M ((p, .lst xs) :: L) H' → SpotsB B' xs (spotsOf (cntOf hp kd) kd) → Q (.ref p) H'
theorem ap_Bench_places_of {K : PySem.W.Frag} {H : Hp} {Q : VK} {E : XK} {x : Addr} {kd : Str} {hp : Nat × Nat} {B : Hp} {M L : List (Addr × HO)} (I : Is B M L H) (h : BenchAt K B x hp) (hk : IsKd kd)
    (q : ∀ (p : Addr) (xs : List V) (B' H' : Hp), Same B B' → Is B' M ((p, .lst xs) :: L) H' → SpotsB B' xs (spotsOf (cntOf hp kd) kd) → Q (.ref p) H') : sp_Bench_places_of K [.ref x, .str kd] H Q E := ⟨rfl, x, kd, hp, B, M, L, rfl, I, h, hk, q⟩
def t_Bench_places_of (K : PySem.W.Frag) : TS := (tRet (tLc (iRng1 (tCons (tDGet (tFld K (tVar 0) "many_of") (tVar 1)) tNil)) (gName 2) tYes (tTup (tCons (tVar 1) (tCons (tOp (rAddA K) (tVar 2) (tC (.int 1))) tNil))) [2]))
theorem rd_Bench_places_of {K : PySem.W.Frag} (C : BenchC K) (vs : List V) (H : Hp) (Q : VK) (E : XK) (h : sp_Bench_places_of K vs H Q E) : t_Bench_places_of K { nx := fun _ H' => Q .non H', rt := Q } (start ["self", "kind", "k"] vs) H := by
  obtain ⟨_, x, kd, hp, B, M, L, rfl, hI, hX, hk, q⟩ := h
  show t_Bench_places_of K ⟨_, _, _, _⟩ [some (.ref x), some (.str kd), none] H
  obtain ⟨cl, n1⟩ := C
  obtain ⟨⟨dx, mo, h1, h2⟩, ⟨g1, g2, g3, g4⟩⟩ := id hX
  have hc : cntOf hp kd ≤ 9 := by rcases hk with rfl | rfl <;> simp only [cnt_hand, cnt_press] <;> assumption
  unfold t_Bench_places_of
  have key : ∀ R : V → Hp → Prop, R (.int (cntOf hp kd : Int)) H → aDGet (.ref mo) (.str kd) H R := fun R r => by
    rcases hk with rfl | rfl
    · rw [cnt_hand] at r
      exact g_aDGet (hI.b h2) (by tm_at "kget") r
    · rw [cnt_press] at r
      exact g_aDGet (hI.b h2) (by tm_at "kget") r
  tm_at "go"
  refine key _ ?_
  tm_at "go"
  refine' g_aLc walk_range hI (by tm_at "wiped") (by omega) (fun i acc B2 M2 => M2 = M ∧ SpotsB B2 acc (spotsOf i kd)) ⟨rfl, .nil⟩ (fun _ _ _ _ _ _ _ _ _ _ => trivial) ?_ ?_
  · rintro i v acc B2 M2 D H' H'' hi s2 hI ⟨rfl, hA⟩ ⟨rfl, rfl⟩ hz
    tm_at "go"
    refine' g_wiped (by tm_at "wiped") ?_
    tm_at "go"
    refine' hI.give .here ?_
    clear hI
    intro B3 s3 hp3 hI
    refine lcY (s2.trans s3) hI hz ⟨rfl, ?_⟩
    rw [show spotsOf (i + 1) kd = spotsOf i kd ++ [(kd, (i : Int) + 1)] from by unfold spotsOf; rw [List.range_succ, List.map_append]; rfl]
    refine (hA.same s3).snoc ⟨p, rfl, ?_⟩
    rw [hp3, Int.zero_add]
  clear hI
  rintro acc B2 M2 D H s2 hI ⟨rfl, hA⟩ _
  exact q D acc B2 H s2 hI hA
abbrev spotsA (hp : Nat × Nat) : List Spot := spotsOf hp.1 "hand" ++ spotsOf hp.2 "press"
def sp_Bench_places (K : PySem.W.Frag) : Sp := fun vs H Q _ => vs.length = 1 ∧ ∃ (x : Addr) (hp : Nat × Nat) (B : Hp) (M L : List (Addr × HO)), vs = [.ref x] ∧ Is B M L H ∧ BenchAt K B x hp ∧
  ∀ (p : Addr) (xs : List V) (B' H' : Hp), Same B B' → Is B' M ((p, .lst xs) :: L) H' → SpotsB B' xs (spotsA hp) → Q (.ref p) H'
theorem ap_Bench_places {K : PySem.W.Frag} {H : Hp} {Q : VK} {E : XK} {x : Addr} {hp : Nat × Nat} {B : Hp} {M L : List (Addr × HO)} (I : Is B M L H) (h : BenchAt K B x hp)
    (q : ∀ (p : Addr) (xs : List V) (B' H' : Hp), Same B B' → Is B' M ((p, .lst xs) :: L) H' → SpotsB B' xs (spotsA hp) → Q (.ref p) H') : sp_Bench_places K [.ref x] H Q E := ⟨rfl, x, hp, B, M, L, rfl, I, h, q⟩
def t_Bench_places (K : PySem.W.Frag) : TS := (tRet (tOp (rAddA K) (tMe (He.ga K "Bench") "places_of" 1 0 (sp_Bench_places_of K) (fun vs zs => pick .non [0, 1] (vs ++ zs)) E0 (tVar 0) (tCons (tC (.str "hand")) tNil) tNil) (tMe (He.ga K "Bench") "places_of" 1 0 (sp_Bench_places_of K) (fun vs zs => pick .non [0, 1] (vs ++ zs)) E0 (tVar 0) (tCons (tC (.str "press")) tNil) tNil)))
theorem rd_Bench_places {K : PySem.W.Frag} (vs : List V) (H : Hp) (Q : VK) (E : XK) (h : sp_Bench_places K vs H Q E) : t_Bench_places K { nx := fun _ H' => Q .non H', rt := Q } (start ["self"] vs) H := by
  obtain ⟨_, x, hp, B, M, L, rfl, hI, hX, q⟩ := h
  show t_Bench_places K ⟨_, _, _, _⟩ [some (.ref x)] H
  obtain ⟨⟨dx, mo, h1, h2⟩, ⟨g1, g2, g3, g4⟩⟩ := id hX
  unfold t_Bench_places
  tm_at "go"
  refine' ap_Bench_places_of (K := K) hI hX (.inl rfl) fun p1 xs1 B1 H s1 hI hA1 => ?_
  have h3 := s1 _ _ h1
  tm_at "go"
  refine' ap_Bench_places_of (K := K) hI (hX.same s1) (.inr rfl) fun p2 xs2 B2 H s2 hI hA2 => ?_
  have l1 := hA1.len
  have l2 := hA2.len
  rw [cnt_hand] at hA1 l1
  rw [cnt_press] at hA2 l2
  unfold spotsOf at l1 l2
  rw [List.length_map, List.length_range] at l1 l2
  refine g_add_l hI (by tm_at "hp") (by tm_at "hp") (by omega) ?_
  clear hI
  intro g H hI
  exact q g _ B2 H (s1.trans s2) (hI.forget (by tm_at "sub")) ((hA1.same s2).app hA2)
theorem free_cons (r : RowT) (rs : List RowT) (h t : Int) : freeFrom (r :: rs) h t = if t + h ≤ r.b then t else freeFrom rs h (if r.e > t then r.e else t) := rfl
def sp_free_from (K : PySem.W.Frag) : Sp := fun vs H Q _ => vs.length = 3 ∧ ∃ (a : Addr) (h t : Int) (xs : List V) (rs : List RowT) (B : Hp) (M L : List (Addr × HO)), vs = [.ref a, .int h, .int t] ∧ Is B M L H ∧ B a = some (.lst xs) ∧ RowsR B xs rs ∧ ∀ H', Is B M L H' → Q (.int (freeFrom rs h t)) H'
theorem ap_free_from {K : PySem.W.Frag} {H : Hp} {Q : VK} {E : XK} {a : Addr} {h t : Int} {xs : List V} {rs : List RowT} {B : Hp} {M L : List (Addr × HO)} (I : Is B M L H) (ha : B a = some (.lst xs)) (hr : RowsR B xs rs) (q : ∀ H', Is B M L H' → Q (.int (freeFrom rs h t)) H') : sp_free_from K [.ref a, .int h, .int t] H Q E := ⟨rfl, a, h, t, xs, rs, B, M, L, rfl, I, ha, hr, q⟩
abbrev t_free_from_0 (K : PySem.W.Frag) : TS := (tAsg (tCB rMax2 (tCons (tVar 3) (tCons (tOp (rIx K) (tVar 4) (tC (.int 4))) tNil))) (gName 3))
abbrev t_free_from_1 (K : PySem.W.Frag) : TS := (tSeq (tIfS (tTest (tOp (rI0 fun i j => .bl (decide (j ≤ i))) (tOp (rIx K) (tVar 4) (tC (.int 3))) (tOp (rAddA K) (tVar 3) (tVar 1)))) (tRet (tVar 3)) tNext) (t_free_from_0 K))
abbrev t_free_from_2 (K : PySem.W.Frag) : TS := (tRet (tVar 3))
abbrev t_free_from_3 (K : PySem.W.Frag) : TS := (tSeq (tFor (iAny K (tVar 0)) (gName 4) (t_free_from_1 K)) (t_free_from_2 K))
def t_free_from (K : PySem.W.Frag) : TS := (tSeq (tAsg (tVar 2) (gName 3)) (t_free_from_3 K))
theorem rd_free_from {K : PySem.W.Frag} (vs : List V) (H : Hp) (Q : VK) (E : XK) (h : sp_free_from K vs H Q E) : t_free_from K { nx := fun _ H' => Q .non H', rt := Q } (start ["rows", "hours", "since", "at", "row"] vs) H := by
  obtain ⟨_, a, h, t, xs, rs, B, M, L, rfl, hI, ha, hr, q⟩ := h
  show t_free_from K ⟨_, _, _, _⟩ [some (.ref a), some (.int h), some (.int t), none, none] H
  have hl := hr.len
  unfold t_free_from
  tm_at "go"
  refine' g_aFor walk_list (fun i σ H => ∃ (t' : Int) (c4 : Option V), σ = [some (.ref a), some (.int h), some (.int t), some (.int t'), c4] ∧ Is B M L H ∧ freeFrom (rs.drop i) h t' = freeFrom rs h t)
    ⟨t, _, rfl, hI, rfl⟩ (fun _ _ _ _ ⟨_, _, _, hI, _⟩ => SqL.of (hI.b ha)) ?_ ?_
  · clear hI
    rintro i x σ H H' hi ⟨t', c4, rfl, hI, hf⟩ ⟨rfl, hx⟩
    obtain ⟨r, er, b, sp, rfl, b1, b2⟩ := hr.get hx
    have hlt : i < rs.length := (List.getElem?_eq_some_iff.mp er).1
    have ed : rs.drop i = r :: rs.drop (i + 1) := by
      rw [List.drop_eq_getElem_cons hlt]
      have := (List.getElem?_eq_some_iff.mp er).2
      rw [this]
    have em : (if r.e > t' then r.e else t') = max t' r.e := by
      rw [Int.max_def]
      split <;> split <;> omega
    rw [ed, free_cons, em] at hf
    tm_at "go"
    refine g_ix_t (SqT.of (hI.b b1)) (atI_of (by decide) rfl) ?_
    tm_at "go"
    refine g_dec (fun hc => ?_) (fun hc => ?_)
    · rw [if_pos hc] at hf
      tm_at "go"
      rw [hf]
      exact q _ hI
    · rw [if_neg hc] at hf
      tm_at "go"
      refine g_ix_t (SqT.of (hI.b b1)) (atI_of (by decide) rfl) ?_
      tm_at "go"
      exact ⟨_, _, rfl, hI, hf⟩
  · clear hI
    rintro σ H ⟨t', c4, rfl, hI, hf⟩
    rw [List.drop_eq_nil_of_le (by omega)] at hf
    have hf : t' = freeFrom rs h t := hf
    subst hf
    tm_at "go"
    exact q _ hI
def sp_begin_of (K : PySem.W.Frag) : Sp := fun vs H Q _ => vs.length = 1 ∧ ∃ (r : RowT) (B : Hp) (M L : List (Addr × HO)), RowR B (vs.headD .non) r ∧ Is B M L H ∧ Q (.int r.b) H
def t_begin_of (K : PySem.W.Frag) : TS := (tRet (tOp (rIx K) (tVar 0) (tC (.int 3))))
theorem rd_begin_of {K : PySem.W.Frag} (vs : List V) (H : Hp) (Q : VK) (E : XK) (h : sp_begin_of K vs H Q E) : t_begin_of K { nx := fun _ H' => Q .non H', rt := Q } (start ["row"] vs) H := by
  obtain ⟨hl, r, B, M, L, hr, hI, q⟩ := h
  match vs, hl with
  | [v], _ =>
    obtain ⟨a, sp, e, b1, b2⟩ := hr
    have e : v = .ref a := e
    subst e
    show t_begin_of K ⟨_, _, _, _⟩ [some (.ref a)] H
    unfold t_begin_of
    tm_at "go"
    refine g_ix_t (SqT.of (hI.b b1)) (atI_of (by decide) rfl) ?_
    exact q
structure PlanC (K : PySem.W.Frag) : Prop where
  cl : Cls K (He.ga K "Plan")
  n1 : NoAttr K (He.ga K "Plan") "of_bench"
  n2 : NoAttr K (He.ga K "Plan") "all_jobs"
  n3 : NoAttr K (He.ga K "Plan") "by_number"
  n4 : NoAttr K (He.ga K "Plan") "by_place"
  n5 : NoAttr K (He.ga K "Plan") "all_rows"
def PairR (B : Hp) (v : V) (p : RowT × Int) : Prop := ∃ a ra, v = .ref a ∧ B a = some (.tup [.ref ra, .int p.2]) ∧ RowR B (.ref ra) p.1
theorem PairR.same {B B' : Hp} {v : V} {p : RowT × Int} (h : PairR B v p) (e : Same B B') : PairR B' v p := by
  obtain ⟨a, ra, h1, h2, h3⟩ := h
  exact ⟨a, ra, h1, e _ _ h2, h3.same e⟩
abbrev PairsB (B : Hp) (xs : List V) (ps : List (RowT × Int)) : Prop := All2 (PairR B) xs ps
theorem PairsB.same {B B' : Hp} {xs : List V} {ps : List (RowT × Int)} (h : PairsB B xs ps) (e : Same B B') : PairsB B' xs ps := All2.mono (fun _ _ h1 => PairR.same h1 e) h
structure InfoT where
  j : JobT
  f : List (RowT × Int)
  d : Int
def NumR (K : PySem.W.Frag) (B : Hp) (kv : Key × V) (o : InfoT) : Prop := kv.1 = Sum.inl o.j.n ∧ ∃ t job fl fv, kv.2 = .ref t ∧ B t = some (.tup [.ref job, .ref fl, .int o.d]) ∧ JobAt K B job o.j ∧ B fl = some (.lst fv) ∧ PairsB B fv o.f
theorem NumR.same {K : PySem.W.Frag} {B B' : Hp} {kv : Key × V} {o : InfoT} (h : NumR K B kv o) (e : Same B B') : NumR K B' kv o := by
  obtain ⟨h0, t, job, fl, fv, h1, h2, h3, h4, h5⟩ := h
  exact ⟨h0, t, job, fl, fv, h1, e _ _ h2, h3.same e, e _ _ h4, h5.same e⟩
structure PlsB (B : Hp) (pv : List (List Key × V)) (hp : Nat × Nat) (all : List RowT) : Prop where
  ex : ∃ ad : Spot → Addr, pv = (spotsA hp).map (fun s => (keyT s, V.ref (ad s))) ∧ ∀ s ∈ spotsA hp, ∃ xs, B (ad s) = some (.lst xs) ∧ RowsR B xs (atPl all s)
theorem PlsB.same {B B' : Hp} {pv : List (List Key × V)} {hp : Nat × Nat} {all : List RowT} (h : PlsB B pv hp all) (e : Same B B') : PlsB B' pv hp all := by
  obtain ⟨ad, h1, h2⟩ := h
  refine ⟨ad, h1, fun s hs => ?_⟩
  obtain ⟨xs, h3, h4⟩ := h2 s hs
  exact ⟨xs, e _ _ h3, h4.same e⟩
theorem PlsB.len {B : Hp} {pv : List (List Key × V)} {hp : Nat × Nat} {all : List RowT} (h : PlsB B pv hp all) : pv.length = hp.1 + hp.2 := by
  obtain ⟨ad, rfl, _⟩ := h
  simp [spotsOf]
theorem PlsB.get {B : Hp} {pv : List (List Key × V)} {hp : Nat × Nat} {all : List RowT} {s : Spot} (h : PlsB B pv hp all) (hs : s ∈ spotsA hp) : ∃ l xs, valV pv (keyT s) = some (.ref l) ∧ B l = some (.lst xs) ∧ RowsR B xs (atPl all s) := by
  obtain ⟨ad, rfl, h2⟩ := h
  obtain ⟨xs, h3, h4⟩ := h2 s hs
  exact ⟨ad s, xs, valV_map hs, h3, h4⟩
theorem PlsB.put {B : Hp} {pv : List (List Key × V)} {hp : Nat × Nat} {all : List RowT} {s : Spot} {l : Addr} {xs : List V} {r : RowT} (h : PlsB B pv hp all) (hs : s ∈ spotsA hp) (hl : B l = some (.lst xs)) (hx : RowsR B xs (insB r (atPl all s))) (e : r.s = s) : PlsB B (putK pv (keyT s) (.ref l)) hp (all ++ [r]) := by
  obtain ⟨ad, rfl, h2⟩ := h
  refine ⟨fun z => if z = s then l else ad z, ?_, fun z hz => ?_⟩
  · rw [putK_map hs]
    refine List.map_congr_left fun x _ => ?_
    show (keyT x, if x = s then V.ref l else V.ref (ad x)) = (keyT x, V.ref (if x = s then l else ad x))
    by_cases c : x = s
    · rw [if_pos c, if_pos c]
    · rw [if_neg c, if_neg c]
  · rw [atPl_snoc, e]
    show ∃ ys, B (if z = s then l else ad z) = some (.lst ys) ∧ _
    by_cases c : z = s
    · subst c
      rw [if_pos rfl, if_pos rfl]
      exact ⟨xs, hl, hx⟩
    · rw [if_neg c, if_neg (fun w => c w.symm)]
      exact h2 z hz
theorem atPl_len : ∀ (all : List RowT) (s : Spot), (atPl all s).length ≤ all.length := by
  intro all s
  generalize hn : all.length = n
  induction n generalizing all with
  | zero =>
    rw [List.length_eq_zero_iff.mp hn]
    exact Nat.le_refl _
  | succ n ih =>
    obtain ⟨ys, y, rfl⟩ : ∃ ys y, all = ys ++ [y] := ⟨all.dropLast, all.getLast (by intro h; rw [h] at hn; cases hn), (List.dropLast_concat_getLast _).symm⟩
    have h2 := ih ys (by simpa using hn)
    rw [atPl_snoc]
    split
    · rw [(insB_perm y (atPl ys s)).length_eq, List.length_append, List.length_singleton]
      omega
    · omega
theorem spots_of_A {hp : Nat × Nat} {kd : Str} (hk : IsKd kd) {s : Spot} (h : s ∈ spotsOf (cntOf hp kd) kd) : s ∈ spotsA hp := by
  rcases hk with rfl | rfl
  · rw [cnt_hand] at h
    exact List.mem_append_left _ h
  · rw [cnt_press] at h
    exact List.mem_append_right _ h
theorem kind_isKd {z k : Str} (h : (z, k) ∈ kndL) : k = kindS z ∧ IsKd k := by
  unfold kndL at h
  simp only [List.mem_cons, Prod.mk.injEq, List.not_mem_nil, or_false] at h
  rcases h with ⟨rfl, rfl⟩ | ⟨rfl, rfl⟩ | ⟨rfl, rfl⟩ | ⟨rfl, rfl⟩ | ⟨rfl, rfl⟩
  · exact ⟨by decide +kernel, .inl rfl⟩
  · exact ⟨by decide +kernel, .inl rfl⟩
  · exact ⟨by decide +kernel, .inl rfl⟩
  · exact ⟨by decide +kernel, .inl rfl⟩
  · exact ⟨by decide +kernel, .inr rfl⟩
/-- the place and the begin so far -/
def AccR (B : Hp) (v w : V) (a : Option (Spot × Int)) : Prop := (a = none ∧ v = .non ∧ w = .non) ∨ ∃ s b, a = some (s, b) ∧ SpotR B v s ∧ w = .int b
abbrev plnO (K : PySem.W.Frag) (x dx bch aj bn bp ar : Addr) : HO := .ins (He.ga K "Plan") dx [("of_bench", .ref bch), ("all_jobs", .ref aj), ("by_number", .ref bn), ("by_place", .ref bp), ("all_rows", .ref ar)]
def sp_Plan_take_in (K : PySem.W.Frag) : Sp := fun vs H Q _ => vs.length = 2 ∧ ∃ (x job dx bch aj bn bp ar : Addr) (nv : List (Key × V)) (pv : List (List Key × V)) (rv : List V) (hp : Nat × Nat) (all : List RowT) (j : JobT) (B : Hp) (M L : List (Addr × HO)), vs = [.ref x, .ref job] ∧
  Is B M ((x, plnO K x dx bch aj bn bp ar) :: (bn, .dK nv) :: (bp, .dT pv) :: (ar, .lst rv) :: L) H ∧ BenchAt K B bch hp ∧ JobAt K B job j ∧ RowsR B rv all ∧ PlsB B pv hp all ∧ nv.length ≤ 100 ∧ all.length ≤ 2000 ∧ ApartA all ∧
  ∀ (B' : Hp) (kv : Key × V) (pv' : List (List Key × V)) (rv' : List V) (H' : Hp), Same B B' → Is B' M ((x, plnO K x dx bch aj bn bp ar) :: (bn, .dK (putK nv (Sum.inl j.n) kv.2)) :: (bp, .dT pv') :: (ar, .lst rv') :: L) H' → NumR K B' kv ⟨j, (layJ hp j.n j.c 0 j.rs all j.c).1, (layJ hp j.n j.c 0 j.rs all j.c).2.2⟩ →
    PlsB B' pv' hp (layJ hp j.n j.c 0 j.rs all j.c).2.1 → RowsR B' rv' (layJ hp j.n j.c 0 j.rs all j.c).2.1 → Q .non H'
abbrev t_Plan_take_in_0 (K : PySem.W.Frag) : TS := (tIfS (tOr (tTest (tOp rIsNo (tVar 9) (tC .non))) (tTest (tOp (rI0 fun i j => .bl (decide (i < j))) (tVar 11) (tVar 9)))) (tPar 8 9 (tCons (tVar 10) (tCons (tVar 11) tNil))) tNext)
abbrev t_Plan_take_in_1 (K : PySem.W.Frag) : TS := (tSeq (tAsg (tCl 3 0 (sp_free_from K) (fun vs zs => pick .non [0, 1, 2] (vs ++ zs)) E0 (tCons (tDGet (tFld K (tVar 0) "by_place") (tVar 10)) (tCons (tVar 6) (tCons (tVar 2) tNil))) tNil) (gName 11)) (t_Plan_take_in_0 K))
abbrev t_Plan_take_in_2 (K : PySem.W.Frag) : TS := (tAsg (tOp (rAddA K) (tOp (rAddA K) (tVar 9) (tVar 6)) (tVar 7)) (gName 2))
abbrev t_Plan_take_in_3 (K : PySem.W.Frag) : TS := (tSeq (sDPut (tFld K (tVar 0) "by_place") (tVar 8) (tCKw (rSortKey K "begin_of" (sp_begin_of K) (fun vs zs => pick .non [0] (vs ++ zs))) (tCons (tOp (rAddA K) (tDGet (tFld K (tVar 0) "by_place") (tVar 8)) (tLst (tCons (tVar 12) tNil))) tNil) (tCons (tC (.ref (He.ga K "begin_of"))) tNil))) (t_Plan_take_in_2 K))
abbrev t_Plan_take_in_4 (K : PySem.W.Frag) : TS := (tSeq (tDrop (tBM K "list" rAppend (tFld K (tVar 0) "all_rows") (tCons (tVar 12) tNil))) (t_Plan_take_in_3 K))
abbrev t_Plan_take_in_5 (K : PySem.W.Frag) : TS := (tSeq (tDrop (tBM K "list" rAppend (tVar 3) (tCons (tTup (tCons (tVar 12) (tCons (tVar 2) tNil))) tNil))) (t_Plan_take_in_4 K))
abbrev t_Plan_take_in_6 (K : PySem.W.Frag) : TS := (tSeq (tAsg (tTup (tCons (tMe (He.ga K "Job") "numbered" 0 0 (sp_Job_numbered K) (fun vs zs => pick .non [0] (vs ++ zs)) E0 (tVar 1) tNil tNil) (tCons (tOp (rAddA K) (tVar 4) (tC (.int 1))) (tCons (tVar 8) (tCons (tVar 9) (tCons (tOp (rAddA K) (tVar 9) (tVar 6)) tNil)))))) (gName 12)) (t_Plan_take_in_5 K))
abbrev t_Plan_take_in_7 (K : PySem.W.Frag) : TS := (tSeq (tFor (iAny K (tMe (He.ga K "Bench") "places_of" 1 0 (sp_Bench_places_of K) (fun vs zs => pick .non [0, 1] (vs ++ zs)) E0 (tFld K (tVar 0) "of_bench") (tCons (tCl 1 0 (sp_kind_of K) (fun vs zs => pick .non [0] (vs ++ zs)) E0 (tCons (tVar 5) tNil) tNil) tNil) tNil)) (gName 10) (t_Plan_take_in_1 K)) (t_Plan_take_in_6 K))
abbrev t_Plan_take_in_8 (K : PySem.W.Frag) : TS := (tSeq (tAsg (tTup (tCons (tC .non) (tCons (tC .non) tNil))) (gTup K 2 (gCons (gName 8) (gCons (gName 9) gNil)))) (t_Plan_take_in_7 K))
abbrev t_Plan_take_in_9 (K : PySem.W.Frag) : TS := (sDPut (tFld K (tVar 0) "by_number") (tMe (He.ga K "Job") "numbered" 0 0 (sp_Job_numbered K) (fun vs zs => pick .non [0] (vs ++ zs)) E0 (tVar 1) tNil tNil) (tTup (tCons (tVar 1) (tCons (tVar 3) (tCons (tVar 2) tNil)))))
abbrev t_Plan_take_in_10 (K : PySem.W.Frag) : TS := (tSeq (tFor (iEnumA K (tCons (tMe (He.ga K "Style") "steps" 0 0 (sp_Style_steps K) (fun vs zs => pick .non [0] (vs ++ zs)) E0 (tMe (He.ga K "Job") "of_style" 0 0 (sp_Job_of_style K) (fun vs zs => pick .non [0] (vs ++ zs)) E0 (tVar 1) tNil tNil) tNil tNil) tNil)) (gTup K 2 (gCons (gName 4) (gCons (gTup K 3 (gCons (gName 5) (gCons (gName 6) (gCons (gName 7) gNil)))) gNil))) (t_Plan_take_in_8 K)) (t_Plan_take_in_9 K))
def t_Plan_take_in (K : PySem.W.Frag) : TS := (tSeq (tPar 2 3 (tCons (tMe (He.ga K "Job") "brought_at" 0 0 (sp_Job_brought_at K) (fun vs zs => pick .non [0] (vs ++ zs)) E0 (tVar 1) tNil tNil) (tCons (tLst tNil) tNil))) (t_Plan_take_in_10 K))
theorem rd_Plan_take_in {K : PySem.W.Frag} (C : PlanC K) (vs : List V) (H : Hp) (Q : VK) (E : XK) (h : sp_Plan_take_in K vs H Q E) : t_Plan_take_in K { nx := fun _ H' => Q .non H', rt := Q } (start ["self", "job", "at", "found", "k", "work", "hours", "rest", "place", "begin", "other", "hour", "row"] vs) H := by
  obtain ⟨_, x, job, dx, bch, aj, bn, bp, ar, nv, pv, rv, hp, all, j, B, M, L, rfl, hI, hBc, hJ, hrv, hpv, hn1, hn2, hap, q⟩ := h
  show t_Plan_take_in K ⟨_, _, _, _⟩ [some (.ref x), some (.ref job), none, none, none, none, none, none, none, none, none, none, none] H
  obtain ⟨cl, n1, n2, n3, n4, n5⟩ := C
  obtain ⟨⟨dj, st, j1, j2⟩, hg⟩ := id hJ
  obtain ⟨⟨db, mo, c1, c2⟩, gb⟩ := id hBc
  have hsl := hg.t.l1
  unfold t_Plan_take_in
  tm_at "go"
  refine' ap_Job_brought_at (K := K) hI hJ ?_
  tm_at "go"
  obtain ⟨fl, rfl⟩ : ∃ q, q = p := ⟨_, rfl⟩
  refine' ap_Job_of_style (K := K) hI hJ fun st2 hst => ?_
  obtain ⟨⟨ds2, cr2, xs2, s1, s2, s3⟩, _⟩ := id hst
  tm_at "go"
  refine g_aCl rfl rfl ?_
  refine' ap_Style_steps (K := K) hI hst ?_
  clear hI
  intro sp sv H hsv hI
  have hsvl := hsv.len
  tm_at "go"
  obtain ⟨o, ho⟩ : ∃ o : Nat → List (RowT × Int) × List RowT × Int, ∀ i, o i = layJ hp j.n j.c 0 (j.rs.take i) all j.c := ⟨_, fun _ => rfl⟩
  have h0 : ∀ r ∈ j.rs, 1 ≤ r.2.1 := fun r hr => (hg.t.row r hr).2.1
  refine' g_aFor walk_enum (fun i σ H => ∃ (c4 c5 c6 c7 c8 c9 c10 c11 c12 : Option V) (B2 : Hp) (fv rv : List V) (pv : List (List Key × V)), σ = [some (.ref x), some (.ref job), some (.int (o i).2.2), some (.ref fl), c4, c5, c6, c7, c8, c9, c10, c11, c12] ∧ Same B B2 ∧
      Is B2 M ((sp, .lst sv) :: (fl, .lst fv) :: (x, plnO K x dx bch aj bn bp ar) :: (bn, .dK nv) :: (bp, .dT pv) :: (ar, .lst rv) :: L) H ∧ PairsB B2 fv (o i).1 ∧ RowsR B2 rv (o i).2.1 ∧ PlsB B2 pv hp (o i).2.1)
    ⟨_, _, _, _, _, _, _, _, _, B, [], rv, pv, by rw [ho]; rfl, fun _ _ e => e, hI, by rw [ho]; exact .nil, by rw [ho]; exact hrv, by rw [ho]; exact hpv⟩ (fun _ _ _ _ ⟨_, _, _, _, _, _, _, _, _, _, _, _, _, _, _, hI, _⟩ => SqL.of (hI.get (.head _))) ?_ ?_
  · clear hI hrv hpv
    clear rv pv
    rintro i z0 σ H H' hi ⟨c4, c5, c6, c7, c8, c9, c10, c11, c12, B2, fv, rv, pv, rfl, s2, hI, hfv, hrv, hpv⟩ ⟨TT, y, z, rfl, hTT, rfl, e1, e2⟩
    cases e1
    obtain ⟨r, er, a, rfl, ba⟩ := hsv.get e2
    have hri : i < j.rs.length := (List.getElem?_eq_some_iff.mp er).1
    have hgr := hg.t.row r (List.mem_of_getElem? er)
    obtain ⟨⟨k, hk⟩, r1, r2, r3, r4⟩ := id hgr
    obtain ⟨ek, hkd⟩ := kind_isKd hk
    have et : j.rs.take (i + 1) = j.rs.take i ++ [r] := by
      rw [List.take_add_one, er]
      rfl
    have eo := ho (i + 1)
    rw [et, layJ_snoc, ← ho, List.length_take, Nat.min_eq_left (by omega), Nat.zero_add, ← ek] at eo
    have hap2 : ApartA (o i).2.1 := by
      rw [ho]
      exact layJ_apart gb.h0 gb.p0 (fun s hs => h0 s (List.mem_of_mem_take hs)) hap
    have hlen2 : (o i).1.length = i ∧ (o i).2.1.length = all.length + i := by
      rw [ho]
      obtain ⟨l1, l2⟩ := layJ_len (hp := hp) (n := j.n) (c := j.c) (ss := j.rs.take i) (k := 0) (all := all) (t := j.c)
      rw [List.length_take, Nat.min_eq_left (by omega)] at l1
      exact ⟨l1, by rw [l2, List.length_append, List.length_map, l1]⟩
    generalize hoi : o i = oi at *
    obtain ⟨f, al, t⟩ := oi
    dsimp only at *
    replace hI := hI.new (o := .tup [V.int (i : Int), .ref a]) hTT
    generalize upd H TT (.tup [V.int (i : Int), .ref a]) = H at *
    have ba2 := s2 _ _ ba
    have c12' := s2 _ _ c1
    have hJ2 := hJ.same s2
    tm_at "go"
    refine' ap_kind_of (K := K) hk ?_
    tm_at "go"
    replace hI := hI.forget (L' := (sp, .lst sv) :: (fl, .lst fv) :: (x, plnO K x dx bch aj bn bp ar) :: (bn, .dK nv) :: (bp, .dT pv) :: (ar, .lst rv) :: L) (by tm_at "sub")
    refine' ap_Bench_places_of (K := K) hI (hBc.same s2) hkd ?_
    clear hI
    intro pp xs B3 H s3 hI hss
    have hsl2 := hss.len
    replace hpv := hpv.same s3
    replace hrv := hrv.same s3
    replace hfv := hfv.same s3
    have hJ3 := hJ2.same s3
    obtain ⟨ss, hse⟩ : ∃ ss, ss = spotsOf (cntOf hp k) k := ⟨_, rfl⟩
    rw [← hse] at hss hsl2
    have hin : ∀ s ∈ ss, s ∈ spotsA hp := fun s hs => spots_of_A hkd (by rw [← hse]; exact hs)
    obtain ⟨fr, hfr⟩ : ∃ fr : Spot → Int, fr = fun s => freeFrom (atPl al s) r.2.1 t := ⟨_, rfl⟩
    tm_at "go"
    refine' g_aFor walk_list (fun i2 σ H => ∃ (v8 v9 : V) (c10 c11 : Option V), σ = [some (.ref x), some (.ref job), some (.int t), some (.ref fl), some (.int (i : Int)), some (.str r.1), some (.int r.2.1), some (.int r.2.2), some v8, some v9, c10, c11, c12] ∧ AccR B3 v8 v9 (bestOf fr none (ss.take i2)) ∧
        Is B3 M ((pp, .lst xs) :: (sp, .lst sv) :: (fl, .lst fv) :: (x, plnO K x dx bch aj bn bp ar) :: (bn, .dK nv) :: (bp, .dT pv) :: (ar, .lst rv) :: L) H)
      ⟨_, _, _, _, rfl, .inl ⟨rfl, rfl, rfl⟩, hI⟩ (fun _ _ _ _ ⟨_, _, _, _, _, _, hI⟩ => SqL.of (hI.get (.head _))) ?_ ?_
    · clear hI
      rintro i2 y σ H H' hi2 ⟨v8, v9, c10, c11, rfl, hacc, hI⟩ ⟨rfl, hy⟩
      obtain ⟨s, es, a2, rfl, ba3⟩ := hss.get hy
      have hs := List.mem_of_getElem? es
      obtain ⟨l2, ys, e3, e4, e5⟩ := hpv.get (hin s hs)
      have eb : bestOf fr none (ss.take (i2 + 1)) = better fr (bestOf fr none (ss.take i2)) s := by
        rw [List.take_add_one, es]
        show bestOf fr none (ss.take i2 ++ [s]) = _
        unfold bestOf
        rw [List.foldl_append]
        rfl
      tm_at "go"
      refine g_aDGetT (k := keyT s) (by tm_at "hp") (hI.b ba3) e3 ?_
      tm_at "go"
      refine' ap_free_from (K := K) hI e4 e5 ?_
      clear hI
      intro H hI
      rw [show freeFrom (atPl al s) r.2.1 t = fr s by rw [hfr]]
      rcases hacc with ⟨ea, rfl, rfl⟩ | ⟨s0, b0, ea, ⟨a0, rfl, hs0⟩, rfl⟩
      · tm_at "go"
        refine g_dec (fun _ => ?_) (fun h => absurd rfl h)
        tm_at "go"
        exact ⟨_, _, rfl, _, _, _, _, rfl, .inr ⟨s, fr s, by rw [eb, ea]; rfl, ⟨a2, rfl, ba3⟩, rfl⟩, hI⟩
      · tm_at "go"
        refine g_dec (fun h => by cases h) (fun _ => ?_)
        tm_at "go"
        refine g_dec (fun hlt => ?_) (fun hge => ?_)
        · tm_at "go"
          exact ⟨_, _, rfl, _, _, _, _, rfl, .inr ⟨s, fr s, by rw [eb, ea]; exact if_pos hlt, ⟨a2, rfl, ba3⟩, rfl⟩, hI⟩
        · tm_at "go"
          exact ⟨_, _, _, _, rfl, .inr ⟨s0, b0, by rw [eb, ea]; exact if_neg hge, ⟨a0, rfl, hs0⟩, rfl⟩, hI⟩
    · clear hI
      rintro σ H ⟨v8, v9, c10, c11, rfl, hacc, hI⟩
      rw [show ss.take xs.length = ss from List.take_of_length_le (by omega)] at hacc
      obtain ⟨w, hw⟩ : ∃ w : WantT, w = ⟨j.n, (i : Int) + 1, k, r.2.1, r.2.2, j.c⟩ := ⟨_, rfl⟩
      rw [← hw] at eo
      obtain ⟨s, hs, epu, _⟩ := put_good (w := w) (all := al) (t := t) gb.h0 gb.p0
      have ebest : bestOf fr none ss = some (s, (putW hp al w t).b) := by
        have e1 : (putW hp al w t).s = s := by rw [epu]
        obtain ⟨s9, h9⟩ : ∃ q, bestOf fr none ss = some q := by
          rcases hacc with ⟨ea, _⟩ | ⟨s0, b0, ea, _⟩
          · exfalso
            obtain ⟨z0, zs, ez⟩ := List.exists_cons_of_ne_nil (List.ne_nil_of_mem (show s ∈ ss by rw [hse]; rw [hw] at hs; exact hs))
            obtain ⟨z, _, ez2, _⟩ := best_some (f := fr) (ss := zs) (s0 := z0)
            rw [ez] at ea
            rw [show bestOf fr none (z0 :: zs) = bestOf fr (some (z0, fr z0)) zs from rfl, ez2] at ea
            cases ea
          · exact ⟨_, ea⟩
        have e2 : (bestOf (fun s => freeFrom (atPl al s) w.h t) none (spotsOf (cntOf hp w.kd) w.kd)) = some s9 := by
          rw [← h9, hfr, hse, hw]
        have e3 : putW hp al w t = ⟨w.n, w.k, s9.1, s9.2, s9.2 + w.h⟩ := by
          unfold putW
          rw [e2]
          rfl
        rw [h9]
        have e4 : s9.1 = s := by rw [e3] at e1; exact e1
        rw [e3]
        show some s9 = some (s, s9.2)
        rw [← e4]
      rcases hacc with ⟨ea, _⟩ | ⟨s0, b0, ea, ⟨a0, rfl, hs0⟩, rfl⟩
      · rw [ebest] at ea
        cases ea
      rw [ebest] at ea
      cases ea
      generalize hrw : putW hp al w t = rw0 at *
      have hks : s ∈ spotsA hp := hin s (by rw [hse]; rw [hw] at hs; exact hs)
      have er : rw0 = ⟨j.n, (i : Int) + 1, s, rw0.b, rw0.b + r.2.1⟩ := by
        rw [epu, hw]
      have hap3 : Apart (insB rw0 (atPl al s)) := by
        have h3 := put_apart (t := t) (w := w) gb.h0 gb.p0 (by rw [hw]; exact r1) hap2
        rw [hrw] at h3
        have h4 := h3 s
        rw [atPl_snoc, if_pos (by rw [er])] at h4
        exact h4
      have j1' := s3 _ _ (s2 _ _ j1)
      have hfl := hfv.len
      have hrl := hrv.len
      tm_at "go"
      refine' ap_Job_numbered (K := K) hI hJ3 ?_
      tm_at "go"
      have en := congrArg RowT.n er
      have ek2 := congrArg RowT.k er
      have es2 := congrArg RowT.s er
      have ee := congrArg RowT.e er
      dsimp only at en ek2 es2 ee
      refine' hI.give .here ?_
      clear hI
      intro B4 s4 hpr hI
      refine' hI.give .here ?_
      clear hI
      intro B5 s5 hrow hI
      have s45 := s4.trans s5
      replace hpr := s5 _ _ hpr
      replace hs0 := s45 _ _ hs0
      replace hpv := hpv.same s45
      replace hrv := hrv.same s45
      replace hfv := hfv.same s45
      have hRow : RowR B5 (.ref _) rw0 := ⟨_, a0, rfl, by rw [en, ek2, ee]; exact hrow, by rw [es2]; exact hs0⟩
      obtain ⟨l2, ys, e3, e4, e5⟩ := hpv.get hks
      have e5l := e5.len
      have hpl : (atPl al s).length ≤ al.length := atPl_len al s
      refine g_ckw ?_
      tm_at "go"
      refine g_aDGetT (k := keyT s) (by tm_at "hp") (hI.b hs0) e3 ?_
      tm_at "go"
      refine g_add_l hI (hI.b e4) (by tm_at "hp") (by simp only [List.length_cons, List.length_nil]; omega) ?_
      clear hI
      intro cl2 H hI
      tm_at "go"
      refine g_sortKey (R := RowR B5) rowK hI (.inl (SqL.of (hI.get (.head _)))) (e5.snoc hRow) (rows_alike _) (rows_sortable _) (rows_depth _) (fun x b H' hR I' => ⟨rfl, b, B5, M, _, hR, I', .one (.int _), I'⟩) ?_
      clear hI
      intro p2 ys2 H hy hI
      rw [sort_ins hap3] at hy
      refine' hI.give .here ?_
      clear hI
      intro B6 s6 hp2 hI
      tm_at "go"
      have hpvl := hpv.len
      have gb1 := gb.h1
      have gb2 := gb.p1
      refine g_aDPutT (k := keyT s) hI (by tm_at "hp") (hI.b (s6 _ _ hs0)) (by omega) (by tm_at "put") ?_
      clear hI
      intro H hI
      tm_at "go"
      refine ⟨_, _, _, _, _, _, _, _, _, B6, _, _, _, by rw [eo, ee], ((s2.trans s3).trans s45).trans s6, hI.forget (by tm_at "sub"), ?_, ?_, ?_⟩
      · rw [eo]
        exact (hfv.same s6).snoc ⟨_, _, rfl, s6 _ _ hpr, hRow.same s6⟩
      · rw [eo]
        exact (hrv.same s6).snoc (hRow.same s6)
      · rw [eo]
        exact (hpv.same s6).put hks hp2 (RowsR.same hy s6) es2
  · clear hI hrv hpv
    clear rv pv
    rintro σ H ⟨c4, c5, c6, c7, c8, c9, c10, c11, c12, B2, fv, rv, pv, rfl, s2, hI, hfv, hrv, hpv⟩
    have eo : o sv.length = layJ hp j.n j.c 0 j.rs all j.c := by rw [ho, List.take_of_length_le (by omega)]
    rw [eo] at hfv hrv hpv ⊢
    have j1' := s2 _ _ j1
    tm_at "go"
    refine' ap_Job_numbered (K := K) hI (hJ.same s2) ?_
    tm_at "go"
    refine' hI.give .here ?_
    clear hI
    intro B3 s3 ht hI
    refine' hI.give (a := fl) (by tm_at "del") ?_
    clear hI
    intro B4 s4 hfl hI
    refine g_aDPutI hI (by tm_at "hp") (by omega) (by tm_at "put") ?_
    clear hI
    intro H hI
    exact q B4 (Sum.inl j.n, .ref p) _ _ H ((s2.trans s3).trans s4) (hI.forget (by tm_at "sub")) ⟨rfl, p, job, fl, fv, rfl, s4 _ _ ht, ((hJ.same s2).same s3).same s4, hfl, (hfv.same s3).same s4⟩ ((hpv.same s3).same s4) ((hrv.same s3).same s4)
def sp_are_jobs (K : PySem.W.Frag) : Sp := fun vs H Q _ => vs.length = 1 ∧ ∃ (a : Addr) (xs : List V) (js : List JobT) (B : Hp) (M L : List (Addr × HO)), vs = [.ref a] ∧ Is B M L H ∧ B a = some (.lst xs) ∧ JobsA K B xs js ∧ js.length ≤ 40 ∧ (js.map (·.n)).Nodup ∧ ∀ H', Is B M L H' → Q (.bl true) H'
theorem ap_are_jobs {K : PySem.W.Frag} {H : Hp} {Q : VK} {E : XK} {a : Addr} {xs : List V} {js : List JobT} {B : Hp} {M L : List (Addr × HO)} (I : Is B M L H) (ha : B a = some (.lst xs)) (hr : JobsA K B xs js) (hl : js.length ≤ 40) (hn : (js.map (·.n)).Nodup) (q : ∀ H', Is B M L H' → Q (.bl true) H') : sp_are_jobs K [.ref a] H Q E := ⟨rfl, a, xs, js, B, M, L, rfl, I, ha, hr, hl, hn, q⟩
abbrev t_are_jobs_0 (K : PySem.W.Frag) : TS := (tRet (tOp (rEqA K) (RZ.tLenSetI K (tLc (iAny K (tVar 0)) (gName 1) tYes (tMe (He.ga K "Job") "numbered" 0 0 (sp_Job_numbered K) (fun vs zs => pick .non [0] (vs ++ zs)) E0 (tVar 1) tNil tNil) [1])) (tCB (rLen K) (tCons (tVar 0) tNil))))
abbrev t_are_jobs_1 (K : PySem.W.Frag) : TS := (tSeq (tIfS (tNot (tTr K (tCB (rAll K) (tCons (tLc (iAny K (tVar 0)) (gName 1) tYes (tCB (rIsi K) (tCons (tVar 1) (tCons (tC (.ref (He.ga K "Job"))) tNil))) [1]) tNil)))) (tRet (tC (.bl false))) tNext) (t_are_jobs_0 K))
def t_are_jobs (K : PySem.W.Frag) : TS := (tSeq (tIfS (tOr (tNot (tTr K (tCB (rIsiT K) (tCons (tVar 0) (tCons (tTup (tCons (tC (.ty "list")) (tCons (tC (.ty "tuple")) tNil))) tNil))))) (tTest (tOp (rI0 fun i j => .bl (decide (j < i))) (tCB (rLen K) (tCons (tVar 0) tNil)) (tC (.int 40))))) (tRet (tC (.bl false))) tNext) (t_are_jobs_1 K))
theorem rd_are_jobs {K : PySem.W.Frag} (C : JobC K) (D : OwnD K (He.ga K "Job")) (vs : List V) (H : Hp) (Q : VK) (E : XK) (h : sp_are_jobs K vs H Q E) : t_are_jobs K { nx := fun _ H' => Q .non H', rt := Q } (start ["thing", "job"] vs) H := by
  obtain ⟨_, a, xs, js, B, M, L, rfl, hI, ha, hr, h1, hn, q⟩ := h
  show t_are_jobs K ⟨_, _, _, _⟩ [some (.ref a), none] H
  have hl := hr.len
  have hT : Thing K B (.ref a) .lst := thing_lst ha
  unfold t_are_jobs
  tm_at "go"
  refine g_dec (fun h => absurd h (by omega)) (fun _ => ?_)
  tm_at "go"
  refine' g_lcX (xs := xs) (js.map fun _ => V.bl true) (by rw [List.length_map, hl]) walk_list hI (by tm_at "wiped") (by omega) (fun D acc H' I => Is.sq I (SqL.of ha)) ?_ ?_
  · intro i x y D2 acc H' hx hy hI PY q
    obtain ⟨j, e, b, rfl, hb⟩ := hr.get hx
    obtain ⟨⟨dx, st, k1, _⟩, _⟩ := id hb
    have hy : y = .bl true := by
      rw [List.getElem?_map, e] at hy
      exact (Option.some.inj hy).symm
    tm_at "go"
    refine' g_wiped (by tm_at "wiped") ?_
    tm_at "go"
    refine' g_isiO D C.cl (hI.b k1) ?_
    rw [← hy]
    exact q _ hI
  clear hI
  intro D2 H hI
  tm_at "go"
  refine g_all (l := js) (P := fun _ => true) (by tm_at "sq") ?_
  rw [all_true]
  tm_at "go"
  refine g_lenSet ?_
  tm_at "go"
  refine' g_lcX (xs := xs) ((js.map (·.n)).map V.int) (by rw [List.length_map, List.length_map, hl]) walk_list hI (by tm_at "wiped") (by omega) (fun D acc H' I => Is.sq I (SqL.of ha)) ?_ ?_
  · intro i x y D2 acc H' hx hy hI PY q
    obtain ⟨j, e, b, rfl, hb⟩ := hr.get hx
    obtain ⟨⟨dx, st, k1, _⟩, _⟩ := id hb
    have hy : y = .int j.n := by
      rw [List.getElem?_map, List.getElem?_map, e] at hy
      exact (Option.some.inj hy).symm
    tm_at "go"
    refine' g_wiped (by tm_at "wiped") ?_
    tm_at "go"
    refine' ap_Job_numbered (K := K) hI hb ?_
    rw [← hy]
    exact q _ hI
  clear hI
  intro D3 H hI
  refine ⟨D3, js.map (·.n), rfl, by tm_at "sq", hn, by rw [List.length_map]; omega, ?_⟩
  tm_at "go"
  rw [show ((js.map (·.n)).length : Int) = (xs.length : Int) by rw [List.length_map, hl]]
  rw [decide_eq_true rfl]
  exact q _ (hI.forget (by tm_at "sub"))
theorem perm_4 {α : Type} (x bn bp ar : α) (L : List α) : List.Perm (x :: bn :: bp :: ar :: L) (ar :: bp :: bn :: x :: L) := by
  have h : List.Perm [x, bn, bp, ar] [ar, bp, bn, x] := List.reverse_perm [ar, bp, bn, x]
  exact h.append_right L
def layJs (hp : Nat × Nat) : List JobT → List RowT → List InfoT × List RowT
  | [], all => ([], all)
  | j :: js, all => (⟨j, (layJ hp j.n j.c 0 j.rs all j.c).1, (layJ hp j.n j.c 0 j.rs all j.c).2.2⟩ :: (layJs hp js (layJ hp j.n j.c 0 j.rs all j.c).2.1).1, (layJs hp js (layJ hp j.n j.c 0 j.rs all j.c).2.1).2)
theorem layJs_snoc {hp : Nat × Nat} {j : JobT} : ∀ {js : List JobT} {all : List RowT}, layJs hp (js ++ [j]) all =
    ((layJs hp js all).1 ++ [⟨j, (layJ hp j.n j.c 0 j.rs (layJs hp js all).2 j.c).1, (layJ hp j.n j.c 0 j.rs (layJs hp js all).2 j.c).2.2⟩], (layJ hp j.n j.c 0 j.rs (layJs hp js all).2 j.c).2.1)
  | [], all => rfl
  | x :: js, all => by
    show (_ :: (layJs hp (js ++ [j]) _).1, (layJs hp (js ++ [j]) _).2) = _
    rw [layJs_snoc (js := js)]
    rfl
theorem layJs_nums {hp : Nat × Nat} : ∀ {js : List JobT} {all : List RowT}, (layJs hp js all).1.map (·.j) = js
  | [], _ => rfl
  | x :: js, all => congrArg (x :: ·) (layJs_nums (js := js))
theorem layJs_len {hp : Nat × Nat} : ∀ {js : List JobT} {all : List RowT}, (∀ j ∈ js, j.rs.length ≤ 12) → (layJs hp js all).2.length ≤ all.length + 12 * js.length
  | [], _, _ => Nat.le_refl _
  | x :: js, all, h => by
    have h1 := layJ_len (hp := hp) (n := x.n) (c := x.c) (ss := x.rs) (k := 0) (all := all) (t := x.c)
    have h2 := layJs_len (hp := hp) (js := js) (all := (layJ hp x.n x.c 0 x.rs all x.c).2.1) fun j hj => h j (List.mem_cons_of_mem _ hj)
    have h3 := h x List.mem_cons_self
    show (layJs hp js (layJ hp x.n x.c 0 x.rs all x.c).2.1).2.length ≤ _
    rw [h1.2, List.length_append, List.length_map, h1.1] at h2
    rw [List.length_cons]
    rw [h1.2]
    omega
theorem layJs_apart {hp : Nat × Nat} (h1 : 1 ≤ hp.1) (h2 : 1 ≤ hp.2) : ∀ {js : List JobT} {all : List RowT}, (∀ j ∈ js, GoodJ j) → ApartA all → ApartA (layJs hp js all).2
  | [], _, _, ha => ha
  | x :: js, all, h, ha => layJs_apart h1 h2 (js := js) (fun j hj => h j (List.mem_cons_of_mem _ hj)) (layJ_apart h1 h2 (fun s hs => ((h x List.mem_cons_self).t.row s hs).2.1) ha)
structure PlanAt (K : PySem.W.Frag) (B : Hp) (x : Addr) (hp : Nat × Nat) (js : List JobT) : Prop where
  ex : ∃ (dx bch aj bn bp ar : Addr) (jv rv : List V) (nv : List (Key × V)) (pv : List (List Key × V)), B x = some (plnO K x dx bch aj bn bp ar) ∧ BenchAt K B bch hp ∧ B aj = some (.lst jv) ∧ JobsA K B jv js ∧
    B bn = some (.dK nv) ∧ All2 (NumR K B) nv (layJs hp js []).1 ∧ B bp = some (.dT pv) ∧ PlsB B pv hp (layJs hp js []).2 ∧ B ar = some (.lst rv) ∧ RowsR B rv (layJs hp js []).2
  gb : GoodB hp
  gj : ∀ j ∈ js, GoodJ j
  nd : (js.map (·.n)).Nodup
  l : js.length ≤ 40
theorem PlanAt.same {K : PySem.W.Frag} {B B' : Hp} {x : Addr} {hp : Nat × Nat} {js : List JobT} (h : PlanAt K B x hp js) (e : Same B B') : PlanAt K B' x hp js := by
  obtain ⟨⟨dx, bch, aj, bn, bp, ar, jv, rv, nv, pv, h1, h2, h3, h4, h5, h6, h7, h8, h9, h10⟩, a, b, c, d⟩ := h
  exact ⟨⟨dx, bch, aj, bn, bp, ar, jv, rv, nv, pv, e _ _ h1, h2.same e, e _ _ h3, h4.same e, e _ _ h5, All2.mono (fun _ _ h => NumR.same h e) h6, e _ _ h7, h8.same e, e _ _ h9, h10.same e⟩, a, b, c, d⟩
theorem JobsA.good {K : PySem.W.Frag} {B : Hp} {xs : List V} {js : List JobT} (h : JobsA K B xs js) : ∀ j ∈ js, GoodJ j := by
  intro j hj
  obtain ⟨i, hi, e⟩ := List.getElem_of_mem hj
  obtain ⟨v, _, a, _, hJ⟩ := h.get' (List.getElem?_eq_some_iff.mpr ⟨hi, e⟩)
  exact hJ.good
def sp_Plan_init (K : PySem.W.Frag) : Sp := fun vs H Q _ => vs.length = 3 ∧ ∃ (x dx bch : Addr) (v : V) (hp : Nat × Nat) (js : List JobT) (B : Hp) (M L : List (Addr × HO)), vs = [.ref x, .ref bch, v] ∧ Is B M ((x, .ins (He.ga K "Plan") dx []) :: (dx, .own x) :: L) H ∧ BenchAt K B bch hp ∧
  ((∃ (a : Addr) (xs : List V), v = .ref a ∧ B a = some (.lst xs) ∧ JobsA K B xs js ∧ js.length ≤ 40 ∧ (js.map (·.n)).Nodup) ∨ (v = .non ∧ js = [])) ∧
  ∀ (B' H' : Hp), Same B B' → Is B' M L H' → PlanAt K B' x hp (ordJ js) → Q .non H'
theorem ap_Plan_init {K : PySem.W.Frag} {H : Hp} {Q : VK} {E : XK} {x dx bch a : Addr} {hp : Nat × Nat} {xs : List V} {js : List JobT} {B : Hp} {M L : List (Addr × HO)} (I : Is B M ((x, .ins (He.ga K "Plan") dx []) :: (dx, .own x) :: L) H) (hb : BenchAt K B bch hp) (ha : B a = some (.lst xs)) (hj : JobsA K B xs js) (hl : js.length ≤ 40) (hn : (js.map (·.n)).Nodup)
    (q : ∀ (B' H' : Hp), Same B B' → Is B' M L H' → PlanAt K B' x hp (ordJ js) → Q .non H') : sp_Plan_init K [.ref x, .ref bch, .ref a] H Q E := ⟨rfl, x, dx, bch, .ref a, hp, js, B, M, L, rfl, I, hb, .inl ⟨a, xs, rfl, ha, hj, hl, hn⟩, q⟩
theorem ap_Plan_init0 {K : PySem.W.Frag} {H : Hp} {Q : VK} {E : XK} {x dx bch : Addr} {hp : Nat × Nat} {B : Hp} {M L : List (Addr × HO)} (I : Is B M ((x, .ins (He.ga K "Plan") dx []) :: (dx, .own x) :: L) H) (hb : BenchAt K B bch hp)
    (q : ∀ (B' H' : Hp), Same B B' → Is B' M L H' → PlanAt K B' x hp (ordJ []) → Q .non H') : sp_Plan_init K [.ref x, .ref bch, .non] H Q E := ⟨rfl, x, dx, bch, .non, hp, [], B, M, L, rfl, I, hb, .inr ⟨rfl, rfl⟩, q⟩
abbrev t_Plan_init_0 (K : PySem.W.Frag) : TS := (sDPut (tFld K (tVar 0) "by_place") (tVar 3) (tLst tNil))
abbrev t_Plan_init_1 (K : PySem.W.Frag) : TS := (tDrop (tMe (He.ga K "Plan") "take_in" 1 0 (sp_Plan_take_in K) (fun vs zs => pick .non [0, 1] (vs ++ zs)) E0 (tVar 0) (tCons (tVar 4) tNil) tNil))
abbrev t_Plan_init_2 (K : PySem.W.Frag) : TS := (tFor (iAny K (tFld K (tVar 0) "all_jobs")) (gName 4) (t_Plan_init_1 K))
abbrev t_Plan_init_3 (K : PySem.W.Frag) : TS := (tSeq (sFld K (tVar 0) (tLst tNil) "all_rows") (t_Plan_init_2 K))
abbrev t_Plan_init_4 (K : PySem.W.Frag) : TS := (tSeq (tFor (iAny K (tMe (He.ga K "Bench") "places" 0 0 (sp_Bench_places K) (fun vs zs => pick .non [0] (vs ++ zs)) E0 (tVar 1) tNil tNil)) (gName 3) (t_Plan_init_0 K)) (t_Plan_init_3 K))
abbrev t_Plan_init_5 (K : PySem.W.Frag) : TS := (tSeq (sFld K (tVar 0) tDNewT "by_place") (t_Plan_init_4 K))
abbrev t_Plan_init_6 (K : PySem.W.Frag) : TS := (tSeq (sFld K (tVar 0) tDNewK "by_number") (t_Plan_init_5 K))
abbrev t_Plan_init_7 (K : PySem.W.Frag) : TS := (tSeq (sFld K (tVar 0) (tIf (tTest (tOp rIsNo (tVar 2) (tC .non))) (tLst tNil) (tCl 1 0 (sp_by_rank K) (fun vs zs => pick .non [0] (vs ++ zs)) E0 (tCons (tVar 2) tNil) tNil)) "all_jobs") (t_Plan_init_6 K))
abbrev t_Plan_init_8 (K : PySem.W.Frag) : TS := (tSeq (sFld K (tVar 0) (tVar 1) "of_bench") (t_Plan_init_7 K))
abbrev t_Plan_init_9 (K : PySem.W.Frag) : TS := (tSeq (tIfS (tAnd (tTest (tOp rNoNo (tVar 2) (tC .non))) (tNot (tTr K (tCl 1 0 (sp_are_jobs K) (fun vs zs => pick .non [0] (vs ++ zs)) E0 (tCons (tVar 2) tNil) tNil)))) tNoS tNext) (t_Plan_init_8 K))
def t_Plan_init (K : PySem.W.Frag) : TS := (tSeq (tIfS (tNot (tTr K (tCB (rIsi K) (tCons (tVar 1) (tCons (tC (.ref (He.ga K "Bench"))) tNil))))) tNoS tNext) (t_Plan_init_9 K))
theorem plan_initL {K : PySem.W.Frag} (C : PlanC K) (C2 : BenchC K) (D : OwnD K (He.ga K "Bench")) {x dx bch a : Addr} {hp : Nat × Nat} {xs : List V} {js : List JobT} {B : Hp} {M L : List (Addr × HO)} {H : Hp} {Q : VK} (hI : Is B M ((x, .ins (He.ga K "Plan") dx []) :: (dx, .own x) :: L) H) (hBc : BenchAt K B bch hp) (ha : B a = some (.lst xs)) (hjs : JobsA K B xs js) (hl : js.length ≤ 40) (hn : (js.map (·.n)).Nodup) (q : ∀ (B' H' : Hp), Same B B' → Is B' M L H' → PlanAt K B' x hp (ordJ js) → Q .non H') : t_Plan_init K ⟨fun _ H' => Q .non H', Q, fun _ _ => False, fun _ _ => False⟩ [some (.ref x), some (.ref bch), some (.ref a), none, none] H := by
  obtain ⟨cl, n1, n2, n3, n4, n5⟩ := C
  obtain ⟨⟨db, mo, c1, c2⟩, gb⟩ := id hBc
  have gb1 := gb.h1
  have gb2 := gb.p1
  unfold t_Plan_init
  tm_at "go"
  refine' g_isiO D C2.cl (hI.b c1) ?_
  tm_at "go"
  refine g_ndec (fun _ => ?_) (fun h => by cases h)
  tm_at "go"
  refine' ap_are_jobs (K := K) hI ha hjs hl hn ?_
  clear hI
  intro H hI
  tm_at "go"
  refine g_dec (fun h => by cases h) (fun _ => ?_)
  tm_at "go"
  refine' ap_by_rank (K := K) hI (.inl (SqL.of ha)) hjs ?_
  clear hI
  intro aj jv H hjv hI
  tm_at "go"
  obtain ⟨bn, rfl⟩ : ∃ q, q = p := ⟨_, rfl⟩
  refine g_newT hI ?_
  clear hI
  intro bp H hI
  tm_at "go"
  refine' hI.give (a := aj) (by tm_at "del") ?_
  clear hI
  intro B1 s1 haj hI
  refine' ap_Bench_places (K := K) hI (hBc.same s1) ?_
  clear hI
  intro pp ss B2 H s2 hI hss
  replace haj := s2 _ _ haj
  have s12 := s1.trans s2
  have hsl := hss.len
  have hsl2 : (spotsA hp).length = hp.1 + hp.2 := by simp [spotsOf]
  have hnd : (spotsA hp).Nodup := spotsAB_nd _ _
  tm_at "go"
  refine' g_aFor walk_list (fun i σ H => ∃ (c3 : Option V) (B3 : Hp) (ad : Spot → Addr), σ = [some (.ref x), some (.ref bch), some (.ref a), c3, none] ∧ Same B2 B3 ∧ Is B3 M ((pp, .lst ss) :: (bp, .dT (((spotsA hp).take i).map fun s => (keyT s, V.ref (ad s)))) :: (bn, .dK []) :: (x, .ins (He.ga K "Plan") dx [("of_bench", .ref bch), ("all_jobs", .ref aj), ("by_number", .ref bn), ("by_place", .ref bp)]) :: (dx, .own x) :: L) H ∧ ∀ s ∈ (spotsA hp).take i, B3 (ad s) = some (.lst []))
    ⟨_, B2, fun _ => bp, rfl, fun _ _ e => e, hI, fun _ h => by cases h⟩ (fun _ _ _ _ ⟨_, _, _, _, _, hI, _⟩ => SqL.of (hI.get (.head _))) ?_ ?_
  · clear hI
    rintro i y σ H H' hi ⟨c3, B3, ad, rfl, s3, hI, had⟩ ⟨rfl, hy⟩
    obtain ⟨s, es, sa, rfl, bsa⟩ := hss.get hy
    replace bsa := s3 _ _ bsa
    have et : (spotsA hp).take (i + 1) = (spotsA hp).take i ++ [s] := by
      rw [List.take_add_one, es]
      rfl
    have hno : s ∉ (spotsA hp).take i := by
      have h1 : ((spotsA hp).take (i + 1)).Nodup := hnd.sublist (List.take_sublist _ _)
      rw [et] at h1
      exact fun h => (List.nodup_append.mp h1).2.2 s h s (List.mem_singleton.mpr rfl) rfl
    tm_at "go"
    refine' hI.give .here ?_
    clear hI
    intro B4 s4 hp4 hI
    refine g_aDPutT (k := keyT s) hI (by tm_at "hp") (hI.b (s4 _ _ bsa)) (by rw [List.length_map, List.length_take]; omega) (by tm_at "put") ?_
    clear hI
    intro H hI
    rw [putK_new hno] at hI
    obtain ⟨pn, rfl⟩ : ∃ q, q = p := ⟨_, rfl⟩
    have em : ((spotsA hp).take (i + 1)).map (fun z => (keyT z, V.ref (if z = s then pn else ad z))) = ((spotsA hp).take i).map (fun z => (keyT z, V.ref (ad z))) ++ [(keyT s, V.ref pn)] := by
      rw [et, List.map_append, List.map_cons, List.map_nil, if_pos rfl]
      congr 1
      refine List.map_congr_left fun z hz => ?_
      rw [if_neg (fun e : z = s => hno (by rw [← e]; exact hz))]
    rw [← em] at hI
    refine ⟨_, B4, fun z => if z = s then pn else ad z, rfl, s3.trans s4, hI, fun z hz => ?_⟩
    show B4 (if z = s then pn else ad z) = _
    by_cases c : z = s
    · rw [if_pos c]
      exact hp4
    · rw [if_neg c]
      rw [et] at hz
      rcases List.mem_append.mp hz with hz | hz
      · exact s4 _ _ (had z hz)
      · exact absurd (List.mem_singleton.mp hz) c
  clear hI
  rintro σ H ⟨c3, B3, ad, rfl, s3, hI, had⟩
  rw [show (spotsA hp).take ss.length = spotsA hp from List.take_of_length_le (by omega)] at hI had
  have hpl : PlsB B3 ((spotsA hp).map fun s => (keyT s, V.ref (ad s))) hp [] := ⟨ad, rfl, fun s hs => ⟨[], had s hs, .nil⟩⟩
  generalize (spotsA hp).map (fun s => (keyT s, V.ref (ad s))) = pv0 at *
  replace haj := s3 _ _ haj
  have s13 := s12.trans s3
  have hgj := hjs.good
  have hpm := ordJ_perm js
  have hndo : ((ordJ js).map (·.n)).Nodup := (hpm.map (·.n)).nodup_iff.mpr hn
  have hlo : (ordJ js).length ≤ 40 := by rw [hpm.length_eq]; exact hl
  have hgo : ∀ j ∈ ordJ js, GoodJ j := fun j hj => hgj j (hpm.mem_iff.mp hj)
  have hjl := hjv.len
  tm_at "go"
  obtain ⟨ar, rfl⟩ : ∃ q, q = p := ⟨_, rfl⟩
  replace hI := hI.forget (L' := (ar, .lst []) :: (bp, .dT pv0) :: (bn, .dK []) :: (x, plnO K x dx bch aj bn bp ar) :: (dx, .own x) :: L) (by tm_at "sub")
  replace hI := hI.perm (L' := (x, plnO K x dx bch aj bn bp ar) :: (bn, .dK []) :: (bp, .dT pv0) :: (ar, .lst []) :: (dx, .own x) :: L) (perm_4 _ _ _ _ _)
  obtain ⟨o, ho⟩ : ∃ o : Nat → List InfoT × List RowT, ∀ i, o i = layJs hp ((ordJ js).take i) [] := ⟨_, fun _ => rfl⟩
  refine' g_aFor walk_list (fun i σ H => ∃ (c4 : Option V) (B4 : Hp) (nv : List (Key × V)) (pv : List (List Key × V)) (rv : List V), σ = [some (.ref x), some (.ref bch), some (.ref a), c3, c4] ∧ Same B3 B4 ∧
      Is B4 M ((x, plnO K x dx bch aj bn bp ar) :: (bn, .dK nv) :: (bp, .dT pv) :: (ar, .lst rv) :: (dx, .own x) :: L) H ∧ All2 (NumR K B4) nv (o i).1 ∧ PlsB B4 pv hp (o i).2 ∧ RowsR B4 rv (o i).2)
    ⟨_, B3, [], pv0, [], rfl, fun _ _ e => e, hI, by rw [ho]; exact .nil, by rw [ho]; exact hpl, by rw [ho]; exact .nil⟩ (fun _ _ _ _ ⟨_, _, _, _, _, _, s4, hI, _⟩ => SqL.of (hI.b (s4 _ _ haj))) ?_ ?_
  · clear hI hpl
    rintro i y σ H H' hi ⟨c4, B4, nv, pv, rv, rfl, s4, hI, hnv, hpv, hrv⟩ ⟨rfl, hy⟩
    obtain ⟨j, ej, job, rfl, hJ⟩ := hjv.get hy
    have hij : i < (ordJ js).length := (List.getElem?_eq_some_iff.mp ej).1
    have et : (ordJ js).take (i + 1) = (ordJ js).take i ++ [j] := by
      rw [List.take_add_one, ej]
      rfl
    have eo := ho (i + 1)
    rw [et, layJs_snoc, ← ho] at eo
    have hsub : ∀ z ∈ (ordJ js).take i, GoodJ z := fun z hz => hgo z (List.mem_of_mem_take hz)
    have hap : ApartA (o i).2 := by
      rw [ho]
      exact layJs_apart gb.h0 gb.p0 hsub apart_nil
    have hrl : (o i).2.length ≤ 12 * i := by
      rw [ho]
      have := layJs_len (hp := hp) (js := (ordJ js).take i) (all := []) fun z hz => (hsub z hz).t.l1
      rw [List.length_take, Nat.min_eq_left (by omega), List.length_nil] at this
      omega
    have hkeys : ∀ kv ∈ nv, kv.1 ≠ Sum.inl j.n := by
      intro kv hkv e
      obtain ⟨o1, ho1, hN, _⟩ := hnv.mem hkv
      rw [hN] at e
      have e : o1.j.n = j.n := Sum.inl.inj e
      have h1 : o1.j ∈ (ordJ js).take i := by
        rw [← layJs_nums (hp := hp) (js := (ordJ js).take i) (all := []), ← ho]
        exact List.mem_map.mpr ⟨o1, ho1, rfl⟩
      have h2 : (((ordJ js).take (i + 1)).map (·.n)).Nodup := hndo.sublist ((List.take_sublist _ _).map _)
      rw [et, List.map_append] at h2
      exact (List.nodup_append.mp h2).2.2 o1.j.n (List.mem_map.mpr ⟨_, h1, rfl⟩) j.n (List.mem_singleton.mpr rfl) e
    have hnl : nv.length ≤ 40 := by
      have h1 := hnv.len
      have h2 : (o i).1.length = ((ordJ js).take i).length := by
        rw [ho]
        have := congrArg List.length (layJs_nums (hp := hp) (js := (ordJ js).take i) (all := []))
        rwa [List.length_map] at this
      rw [List.length_take] at h2
      omega
    generalize hoi : o i = oi at *
    obtain ⟨infos, all⟩ := oi
    dsimp only at *
    tm_at "go"
    refine ⟨rfl, x, job, dx, bch, aj, bn, bp, ar, nv, pv, rv, hp, all, j, B4, M, (dx, .own x) :: L, rfl, hI, (hBc.same s13).same s4, (hJ.same s13).same s4, hrv, hpv, by omega, by omega, hap, ?_⟩
    clear hI
    intro B5 kv pv' rv' H s5 hI hN hpv' hrv'
    rw [putI_new hkeys] at hI
    tm_at "go"
    have ekv : ((Sum.inl j.n, kv.2) : Key × V) = kv := by
      rw [show Sum.inl j.n = kv.1 from hN.1.symm]
    rw [ekv] at hI
    refine ⟨_, B5, nv ++ [kv], pv', rv', rfl, s4.trans s5, hI, ?_, ?_, ?_⟩
    · rw [eo]
      exact (All2.mono (fun _ _ h => NumR.same h s5) hnv).snoc hN
    · rw [eo]
      exact hpv'
    · rw [eo]
      exact hrv'
  clear hI hpl
  rintro σ H ⟨c4, B4, nv, pv, rv, rfl, s4, hI, hnv, hpv, hrv⟩
  rw [show o jv.length = layJs hp (ordJ js) [] from by rw [ho, List.take_of_length_le (by omega)]] at hnv hpv hrv
  tm_at "go"
  refine' hI.give .here ?_
  clear hI
  intro B5 s5 k1 hI
  refine' hI.give .here ?_
  clear hI
  intro B6 s6 k2 hI
  refine' hI.give .here ?_
  clear hI
  intro B7 s7 k3 hI
  refine' hI.give .here ?_
  clear hI
  intro B8 s8 k4 hI
  have s58 := ((s5.trans s6).trans s7).trans s8
  have s18 := (s13.trans s4).trans s58
  exact q B8 H s18 (hI.forget (by tm_at "sub")) ⟨⟨dx, bch, aj, bn, bp, ar, jv, rv, nv, pv, s8 _ _ (s7 _ _ (s6 _ _ k1)), hBc.same s18, s58 _ _ (s4 _ _ haj), JobsA.same hjv s18, s8 _ _ (s7 _ _ k2), All2.mono (fun _ _ h => NumR.same h s58) hnv, s8 _ _ k3, hpv.same s58, k4, RowsR.same hrv s58⟩, gb, hgo, hndo, hlo⟩
theorem plan_initN {K : PySem.W.Frag} (C : PlanC K) (C2 : BenchC K) (D : OwnD K (He.ga K "Bench")) {x dx bch : Addr} {hp : Nat × Nat} {B : Hp} {M L : List (Addr × HO)} {H : Hp} {Q : VK} (hI : Is B M ((x, .ins (He.ga K "Plan") dx []) :: (dx, .own x) :: L) H) (hBc : BenchAt K B bch hp) (q : ∀ (B' H' : Hp), Same B B' → Is B' M L H' → PlanAt K B' x hp (ordJ []) → Q .non H') : t_Plan_init K ⟨fun _ H' => Q .non H', Q, fun _ _ => False, fun _ _ => False⟩ [some (.ref x), some (.ref bch), some .non, none, none] H := by
  obtain ⟨cl, n1, n2, n3, n4, n5⟩ := C
  obtain ⟨⟨db, mo, c1, c2⟩, gb⟩ := id hBc
  have gb1 := gb.h1
  have gb2 := gb.p1
  unfold t_Plan_init
  tm_at "go"
  refine' g_isiO D C2.cl (hI.b c1) ?_
  tm_at "go"
  refine g_ndec (fun h => absurd rfl h) (fun _ => ?_)
  tm_at "go"
  refine g_dec (fun _ => ?_) (fun h => absurd rfl h)
  tm_at "go"
  obtain ⟨bn, rfl⟩ : ∃ q, q = p := ⟨_, rfl⟩
  obtain ⟨aj, rfl⟩ : ∃ q, q = p := ⟨_, rfl⟩
  obtain ⟨js, hjs0⟩ : ∃ js : List JobT, js = [] := ⟨_, rfl⟩
  rw [← hjs0] at q
  have hjs : JobsA K B ([] : List V) js := by
    rw [hjs0]
    exact .nil
  have hl : js.length ≤ 40 := by
    rw [hjs0]
    exact Nat.zero_le _
  have hn : (js.map (·.n)).Nodup := by
    rw [hjs0]
    exact List.nodup_nil
  obtain ⟨jv, hjv0⟩ : ∃ jv : List V, jv = [] := ⟨_, rfl⟩
  rw [← hjv0] at hI
  have hjv : JobsA K B jv (ordJ js) := by
    rw [hjv0, hjs0]
    have : ordJ [] = [] := List.mergeSort_nil
    rw [this]
    exact .nil
  refine g_newT hI ?_
  clear hI
  intro bp H hI
  tm_at "go"
  refine' hI.give (a := aj) (by tm_at "del") ?_
  clear hI
  intro B1 s1 haj hI
  refine' ap_Bench_places (K := K) hI (hBc.same s1) ?_
  clear hI
  intro pp ss B2 H s2 hI hss
  replace haj := s2 _ _ haj
  have s12 := s1.trans s2
  have hsl := hss.len
  have hsl2 : (spotsA hp).length = hp.1 + hp.2 := by simp [spotsOf]
  have hnd : (spotsA hp).Nodup := spotsAB_nd _ _
  tm_at "go"
  refine' g_aFor walk_list (fun i σ H => ∃ (c3 : Option V) (B3 : Hp) (ad : Spot → Addr), σ = [some (.ref x), some (.ref bch), some .non, c3, none] ∧ Same B2 B3 ∧ Is B3 M ((pp, .lst ss) :: (bp, .dT (((spotsA hp).take i).map fun s => (keyT s, V.ref (ad s)))) :: (bn, .dK []) :: (x, .ins (He.ga K "Plan") dx [("of_bench", .ref bch), ("all_jobs", .ref aj), ("by_number", .ref bn), ("by_place", .ref bp)]) :: (dx, .own x) :: L) H ∧ ∀ s ∈ (spotsA hp).take i, B3 (ad s) = some (.lst []))
    ⟨_, B2, fun _ => bp, rfl, fun _ _ e => e, hI, fun _ h => by cases h⟩ (fun _ _ _ _ ⟨_, _, _, _, _, hI, _⟩ => SqL.of (hI.get (.head _))) ?_ ?_
  · clear hI
    rintro i y σ H H' hi ⟨c3, B3, ad, rfl, s3, hI, had⟩ ⟨rfl, hy⟩
    obtain ⟨s, es, sa, rfl, bsa⟩ := hss.get hy
    replace bsa := s3 _ _ bsa
    have et : (spotsA hp).take (i + 1) = (spotsA hp).take i ++ [s] := by
      rw [List.take_add_one, es]
      rfl
    have hno : s ∉ (spotsA hp).take i := by
      have h1 : ((spotsA hp).take (i + 1)).Nodup := hnd.sublist (List.take_sublist _ _)
      rw [et] at h1
      exact fun h => (List.nodup_append.mp h1).2.2 s h s (List.mem_singleton.mpr rfl) rfl
    tm_at "go"
    refine' hI.give .here ?_
    clear hI
    intro B4 s4 hp4 hI
    refine g_aDPutT (k := keyT s) hI (by tm_at "hp") (hI.b (s4 _ _ bsa)) (by rw [List.length_map, List.length_take]; omega) (by tm_at "put") ?_
    clear hI
    intro H hI
    rw [putK_new hno] at hI
    obtain ⟨pn, rfl⟩ : ∃ q, q = p := ⟨_, rfl⟩
    have em : ((spotsA hp).take (i + 1)).map (fun z => (keyT z, V.ref (if z = s then pn else ad z))) = ((spotsA hp).take i).map (fun z => (keyT z, V.ref (ad z))) ++ [(keyT s, V.ref pn)] := by
      rw [et, List.map_append, List.map_cons, List.map_nil, if_pos rfl]
      congr 1
      refine List.map_congr_left fun z hz => ?_
      rw [if_neg (fun e : z = s => hno (by rw [← e]; exact hz))]
    rw [← em] at hI
    refine ⟨_, B4, fun z => if z = s then pn else ad z, rfl, s3.trans s4, hI, fun z hz => ?_⟩
    show B4 (if z = s then pn else ad z) = _
    by_cases c : z = s
    · rw [if_pos c]
      exact hp4
    · rw [if_neg c]
      rw [et] at hz
      rcases List.mem_append.mp hz with hz | hz
      · exact s4 _ _ (had z hz)
      · exact absurd (List.mem_singleton.mp hz) c
  clear hI
  rintro σ H ⟨c3, B3, ad, rfl, s3, hI, had⟩
  rw [show (spotsA hp).take ss.length = spotsA hp from List.take_of_length_le (by omega)] at hI had
  have hpl : PlsB B3 ((spotsA hp).map fun s => (keyT s, V.ref (ad s))) hp [] := ⟨ad, rfl, fun s hs => ⟨[], had s hs, .nil⟩⟩
  generalize (spotsA hp).map (fun s => (keyT s, V.ref (ad s))) = pv0 at *
  replace haj := s3 _ _ haj
  have s13 := s12.trans s3
  have hgj := hjs.good
  have hpm := ordJ_perm js
  have hndo : ((ordJ js).map (·.n)).Nodup := (hpm.map (·.n)).nodup_iff.mpr hn
  have hlo : (ordJ js).length ≤ 40 := by rw [hpm.length_eq]; exact hl
  have hgo : ∀ j ∈ ordJ js, GoodJ j := fun j hj => hgj j (hpm.mem_iff.mp hj)
  have hjl := hjv.len
  tm_at "go"
  obtain ⟨ar, rfl⟩ : ∃ q, q = p := ⟨_, rfl⟩
  replace hI := hI.forget (L' := (ar, .lst []) :: (bp, .dT pv0) :: (bn, .dK []) :: (x, plnO K x dx bch aj bn bp ar) :: (dx, .own x) :: L) (by tm_at "sub")
  replace hI := hI.perm (L' := (x, plnO K x dx bch aj bn bp ar) :: (bn, .dK []) :: (bp, .dT pv0) :: (ar, .lst []) :: (dx, .own x) :: L) (perm_4 _ _ _ _ _)
  obtain ⟨o, ho⟩ : ∃ o : Nat → List InfoT × List RowT, ∀ i, o i = layJs hp ((ordJ js).take i) [] := ⟨_, fun _ => rfl⟩
  refine' g_aFor walk_list (fun i σ H => ∃ (c4 : Option V) (B4 : Hp) (nv : List (Key × V)) (pv : List (List Key × V)) (rv : List V), σ = [some (.ref x), some (.ref bch), some .non, c3, c4] ∧ Same B3 B4 ∧
      Is B4 M ((x, plnO K x dx bch aj bn bp ar) :: (bn, .dK nv) :: (bp, .dT pv) :: (ar, .lst rv) :: (dx, .own x) :: L) H ∧ All2 (NumR K B4) nv (o i).1 ∧ PlsB B4 pv hp (o i).2 ∧ RowsR B4 rv (o i).2)
    ⟨_, B3, [], pv0, [], rfl, fun _ _ e => e, hI, by rw [ho]; exact .nil, by rw [ho]; exact hpl, by rw [ho]; exact .nil⟩ (fun _ _ _ _ ⟨_, _, _, _, _, _, s4, hI, _⟩ => SqL.of (hI.b (s4 _ _ haj))) ?_ ?_
  · clear hI hpl
    rintro i y σ H H' hi ⟨c4, B4, nv, pv, rv, rfl, s4, hI, hnv, hpv, hrv⟩ ⟨rfl, hy⟩
    obtain ⟨j, ej, job, rfl, hJ⟩ := hjv.get hy
    have hij : i < (ordJ js).length := (List.getElem?_eq_some_iff.mp ej).1
    have et : (ordJ js).take (i + 1) = (ordJ js).take i ++ [j] := by
      rw [List.take_add_one, ej]
      rfl
    have eo := ho (i + 1)
    rw [et, layJs_snoc, ← ho] at eo
    have hsub : ∀ z ∈ (ordJ js).take i, GoodJ z := fun z hz => hgo z (List.mem_of_mem_take hz)
    have hap : ApartA (o i).2 := by
      rw [ho]
      exact layJs_apart gb.h0 gb.p0 hsub apart_nil
    have hrl : (o i).2.length ≤ 12 * i := by
      rw [ho]
      have := layJs_len (hp := hp) (js := (ordJ js).take i) (all := []) fun z hz => (hsub z hz).t.l1
      rw [List.length_take, Nat.min_eq_left (by omega), List.length_nil] at this
      omega
    have hkeys : ∀ kv ∈ nv, kv.1 ≠ Sum.inl j.n := by
      intro kv hkv e
      obtain ⟨o1, ho1, hN, _⟩ := hnv.mem hkv
      rw [hN] at e
      have e : o1.j.n = j.n := Sum.inl.inj e
      have h1 : o1.j ∈ (ordJ js).take i := by
        rw [← layJs_nums (hp := hp) (js := (ordJ js).take i) (all := []), ← ho]
        exact List.mem_map.mpr ⟨o1, ho1, rfl⟩
      have h2 : (((ordJ js).take (i + 1)).map (·.n)).Nodup := hndo.sublist ((List.take_sublist _ _).map _)
      rw [et, List.map_append] at h2
      exact (List.nodup_append.mp h2).2.2 o1.j.n (List.mem_map.mpr ⟨_, h1, rfl⟩) j.n (List.mem_singleton.mpr rfl) e
    have hnl : nv.length ≤ 40 := by
      have h1 := hnv.len
      have h2 : (o i).1.length = ((ordJ js).take i).length := by
        rw [ho]
        have := congrArg List.length (layJs_nums (hp := hp) (js := (ordJ js).take i) (all := []))
        rwa [List.length_map] at this
      rw [List.length_take] at h2
      omega
    generalize hoi : o i = oi at *
    obtain ⟨infos, all⟩ := oi
    dsimp only at *
    tm_at "go"
    refine ⟨rfl, x, job, dx, bch, aj, bn, bp, ar, nv, pv, rv, hp, all, j, B4, M, (dx, .own x) :: L, rfl, hI, (hBc.same s13).same s4, (hJ.same s13).same s4, hrv, hpv, by omega, by omega, hap, ?_⟩
    clear hI
    intro B5 kv pv' rv' H s5 hI hN hpv' hrv'
    rw [putI_new hkeys] at hI
    tm_at "go"
    have ekv : ((Sum.inl j.n, kv.2) : Key × V) = kv := by
      rw [show Sum.inl j.n = kv.1 from hN.1.symm]
    rw [ekv] at hI
    refine ⟨_, B5, nv ++ [kv], pv', rv', rfl, s4.trans s5, hI, ?_, ?_, ?_⟩
    · rw [eo]
      exact (All2.mono (fun _ _ h => NumR.same h s5) hnv).snoc hN
    · rw [eo]
      exact hpv'
    · rw [eo]
      exact hrv'
  clear hI hpl
  rintro σ H ⟨c4, B4, nv, pv, rv, rfl, s4, hI, hnv, hpv, hrv⟩
  rw [show o jv.length = layJs hp (ordJ js) [] from by rw [ho, List.take_of_length_le (by omega)]] at hnv hpv hrv
  tm_at "go"
  refine' hI.give .here ?_
  clear hI
  intro B5 s5 k1 hI
  refine' hI.give .here ?_
  clear hI
  intro B6 s6 k2 hI
  refine' hI.give .here ?_
  clear hI
  intro B7 s7 k3 hI
  refine' hI.give .here ?_
  clear hI
  intro B8 s8 k4 hI
  have s58 := ((s5.trans s6).trans s7).trans s8
  have s18 := (s13.trans s4).trans s58
  exact q B8 H s18 (hI.forget (by tm_at "sub")) ⟨⟨dx, bch, aj, bn, bp, ar, jv, rv, nv, pv, s8 _ _ (s7 _ _ (s6 _ _ k1)), hBc.same s18, s58 _ _ (s4 _ _ haj), JobsA.same hjv s18, s8 _ _ (s7 _ _ k2), All2.mono (fun _ _ h => NumR.same h s58) hnv, s8 _ _ k3, hpv.same s58, k4, RowsR.same hrv s58⟩, gb, hgo, hndo, hlo⟩
theorem rd_Plan_init {K : PySem.W.Frag} (C : PlanC K) (C2 : BenchC K) (D : OwnD K (He.ga K "Bench")) (vs : List V) (H : Hp) (Q : VK) (E : XK) (h : sp_Plan_init K vs H Q E) : t_Plan_init K { nx := fun _ H' => Q .non H', rt := Q } (start ["self", "bench", "jobs", "place", "job"] vs) H := by
  obtain ⟨_, x, dx, bch, v, hp, js, B, M, L, rfl, hI, hBc, hv, q⟩ := h
  rcases hv with ⟨a, xs, rfl, ha, hjs, hl, hn⟩ | ⟨rfl, rfl⟩
  · exact plan_initL C C2 D hI hBc ha hjs hl hn q
  · exact plan_initN C C2 D hI hBc q
abbrev infoP (hp : Nat × Nat) (js : List JobT) : List InfoT := (layJs hp js []).1
abbrev rowsP (hp : Nat × Nat) (js : List JobT) : List RowT := (layJs hp js []).2
theorem infoP_nd {hp : Nat × Nat} {js : List JobT} (h : (js.map (·.n)).Nodup) : ((infoP hp js).map (·.j.n)).Nodup := by
  have e : (infoP hp js).map (·.j.n) = ((infoP hp js).map (·.j)).map (·.n) := by rw [List.map_map]; rfl
  rw [e, layJs_nums]
  exact h
theorem nums_keys {K : PySem.W.Frag} {B : Hp} : ∀ {nv : List (Key × V)} {os : List InfoT}, All2 (NumR K B) nv os → nv.map (·.1) = os.map fun o => (Sum.inl o.j.n : Key)
  | _, _, .nil => rfl
  | _, _, .cons h t => by
    rw [List.map_cons, List.map_cons, h.1, nums_keys t]
theorem keys_nd {os : List InfoT} (h : (os.map (·.j.n)).Nodup) : (os.map fun o => (Sum.inl o.j.n : Key)).Nodup := by
  have e : (os.map fun o => (Sum.inl o.j.n : Key)) = (os.map (·.j.n)).map Sum.inl := by rw [List.map_map]; rfl
  rw [e]
  exact List.Pairwise.map _ (fun a b hab e => hab (Sum.inl.inj e)) h
theorem infoP_f {hp : Nat × Nat} : ∀ {js : List JobT} {all : List RowT} {o : InfoT}, (∀ j ∈ js, j.rs.length ≤ 12) → o ∈ (layJs hp js all).1 → o.f.length ≤ 900
  | x :: js, all, o, h, ho => by
    rcases List.mem_cons.mp (show o ∈ _ :: (layJs hp js _).1 from ho) with rfl | ho
    · have h1 := layJ_len (hp := hp) (n := x.n) (c := x.c) (ss := x.rs) (k := 0) (all := all) (t := x.c)
      have h2 := h x List.mem_cons_self
      show (layJ hp x.n x.c 0 x.rs all x.c).1.length ≤ 900
      omega
    · exact infoP_f (fun j hj => h j (List.mem_cons_of_mem _ hj)) ho
theorem pairs_rows {B : Hp} : ∀ {fv : List V} {ps : List (RowT × Int)}, PairsB B fv ps → ∃ ys : List V, All2 (fun v y => ∃ a t, v = .ref a ∧ B a = some (.tup [y, t])) fv ys ∧ RowsR B ys (ps.map Prod.fst)
  | _, _, .nil => ⟨[], .nil, .nil⟩
  | _, _, .cons ⟨a, ra, h1, h2, h3⟩ t => by
    obtain ⟨ys, h4, h5⟩ := pairs_rows t
    exact ⟨.ref ra :: ys, .cons ⟨a, _, h1, h2⟩ h4, .cons h3 h5⟩
def sp_Plan_job_of (K : PySem.W.Frag) : Sp := fun vs H Q _ => vs.length = 2 ∧ ∃ (x : Addr) (o : InfoT) (hp : Nat × Nat) (js : List JobT) (B : Hp) (M L : List (Addr × HO)), vs = [.ref x, .int o.j.n] ∧ Is B M L H ∧ PlanAt K B x hp js ∧ o ∈ infoP hp js ∧
  ∀ t job fl fv, B t = some (.tup [.ref job, .ref fl, .int o.d]) → JobAt K B job o.j → B fl = some (.lst fv) → PairsB B fv o.f → Q (.ref t) H
theorem ap_Plan_job_of {K : PySem.W.Frag} {H : Hp} {Q : VK} {E : XK} {x : Addr} {o : InfoT} {hp : Nat × Nat} {js : List JobT} {B : Hp} {M L : List (Addr × HO)} (I : Is B M L H) (h : PlanAt K B x hp js) (ho : o ∈ infoP hp js)
    (q : ∀ t job fl fv, B t = some (.tup [.ref job, .ref fl, .int o.d]) → JobAt K B job o.j → B fl = some (.lst fv) → PairsB B fv o.f → Q (.ref t) H) : sp_Plan_job_of K [.ref x, .int o.j.n] H Q E := ⟨rfl, x, o, hp, js, B, M, L, rfl, I, h, ho, q⟩
abbrev t_Plan_job_of_0 (K : PySem.W.Frag) : TS := (tRet (tDGet (tFld K (tVar 0) "by_number") (tVar 1)))
def t_Plan_job_of (K : PySem.W.Frag) : TS := (tSeq (tIfS (tOr (tNot (tTr K (tCl 2 0 (sp_is_whole K) (fun vs zs => pick .non [0, 1, 2] (vs ++ (zs ++ [.int 1000000]))) E0 (tCons (tVar 1) (tCons (tC (.int 1)) tNil)) tNil))) (tB (tDNotIn (tVar 1) (tFld K (tVar 0) "by_number")))) tNoS tNext) (t_Plan_job_of_0 K))
theorem rd_Plan_job_of {K : PySem.W.Frag} (C : PlanC K) (vs : List V) (H : Hp) (Q : VK) (E : XK) (h : sp_Plan_job_of K vs H Q E) : t_Plan_job_of K { nx := fun _ H' => Q .non H', rt := Q } (start ["self", "number"] vs) H := by
  obtain ⟨_, x, o, hp, js, B, M, L, rfl, hI, hP, ho, q⟩ := h
  show t_Plan_job_of K ⟨_, _, _, _⟩ [some (.ref x), some (.int o.j.n)] H
  obtain ⟨cl, n1, n2, n3, n4, n5⟩ := C
  obtain ⟨⟨dx, bch, aj, bn, bp, ar, jv, rv, nv, pv, h1, h2, h3, h4, h5, h6, h7, h8, h9, h10⟩, gb, gj, nd, l⟩ := id hP
  obtain ⟨i, hi, ei⟩ := List.getElem_of_mem ho
  obtain ⟨kv, ekv, ek, t, job, fl, fv, e1, e2, e3, e4, e5⟩ := h6.get' (List.getElem?_eq_some_iff.mpr ⟨hi, ei⟩)
  have hkn : (nv.map (·.1)).Nodup := by
    rw [nums_keys h6]
    exact keys_nd (infoP_nd nd)
  have ev : valV nv (Sum.inl o.j.n) = some (.ref t) := by
    refine valI_at (i := i) hkn ?_
    rw [ekv, ← ek, ← e1]
  have hjm : o.j ∈ js := by
    have h1 : o.j ∈ (infoP hp js).map (·.j) := List.mem_map.mpr ⟨o, ho, rfl⟩
    rwa [layJs_nums] at h1
  have hg := gj _ hjm
  have hg0 := hg.n0
  have hg1 := hg.n1
  unfold t_Plan_job_of
  tm_at "go"
  refine' ap_is_whole_t (K := K) (by omega) (by omega) ?_
  tm_at "go"
  refine g_tB ?_
  refine g_dNotInI ?_
  tm_at "go"
  refine ⟨bn, some (.ref t), rfl, .inl ⟨nv, Sum.inl o.j.n, .inl (hI.b h5), rfl, ev.symm⟩, _, rfl, ?_⟩
  show (if (false : Bool) = true then _ else _)
  tm_at "go"
  refine g_aDGetI (hI.b h5) ev ?_
  exact q t job fl fv e2 e3 e4 e5
def sp_Plan_rows (K : PySem.W.Frag) : Sp := fun vs H Q _ => vs.length = 2 ∧ ∃ (x : Addr) (hp : Nat × Nat) (js : List JobT) (B : Hp) (M L : List (Addr × HO)), Is B M L H ∧ PlanAt K B x hp js ∧
  ((vs = [.ref x, .non] ∧ ∀ p xs H', Is B M ((p, .lst xs) :: L) H' → RowsR B xs (rowsP hp js) → Q (.ref p) H') ∨ ∃ o ∈ infoP hp js, vs = [.ref x, .int o.j.n] ∧ ∀ p xs H', Is B M ((p, .lst xs) :: L) H' → RowsR B xs (o.f.map Prod.fst) → Q (.ref p) H')
theorem ap_Plan_rows {K : PySem.W.Frag} {H : Hp} {Q : VK} {E : XK} {x : Addr} {hp : Nat × Nat} {js : List JobT} {B : Hp} {M L : List (Addr × HO)} (I : Is B M L H) (h : PlanAt K B x hp js)
    (q : ∀ p xs H', Is B M ((p, .lst xs) :: L) H' → RowsR B xs (rowsP hp js) → Q (.ref p) H') : sp_Plan_rows K [.ref x, .non] H Q E := ⟨rfl, x, hp, js, B, M, L, I, h, .inl ⟨rfl, q⟩⟩
abbrev t_Plan_rows_0 (K : PySem.W.Frag) : TS := (tRet (tLc (iAny K (tOp (rIx K) (tMe (He.ga K "Plan") "job_of" 1 0 (sp_Plan_job_of K) (fun vs zs => pick .non [0, 1] (vs ++ zs)) E0 (tVar 0) (tCons (tVar 1) tNil) tNil) (tC (.int 1)))) (gName 2) tYes (tOp (rIx K) (tVar 2) (tC (.int 0))) [2]))
def t_Plan_rows (K : PySem.W.Frag) : TS := (tSeq (tIfS (tTest (tOp rIsNo (tVar 1) (tC .non))) (tRet (tCB (rListOf K) (tCons (tFld K (tVar 0) "all_rows") tNil))) tNext) (t_Plan_rows_0 K))
theorem rd_Plan_rows {K : PySem.W.Frag} (C : PlanC K) (vs : List V) (H : Hp) (Q : VK) (E : XK) (h : sp_Plan_rows K vs H Q E) : t_Plan_rows K { nx := fun _ H' => Q .non H', rt := Q } (start ["self", "number", "pair"] vs) H := by
  obtain ⟨_, x, hp, js, B, M, L, hI, hP, h⟩ := h
  obtain ⟨cl, n1, n2, n3, n4, n5⟩ := C
  obtain ⟨⟨dx, bch, aj, bn, bp, ar, jv, rv, nv, pv, h1, h2, h3, h4, h5, h6, h7, h8, h9, h10⟩, gb, gj, nd, l⟩ := id hP
  rcases h with ⟨rfl, q⟩ | ⟨o, ho, rfl, q⟩
  · show t_Plan_rows K ⟨_, _, _, _⟩ [some (.ref x), some .non, none] H
    unfold t_Plan_rows
    tm_at "go"
    refine g_dec (fun _ => ?_) (fun h => absurd rfl h)
    tm_at "go"
    exact q _ _ _ hI h10
  · show t_Plan_rows K ⟨_, _, _, _⟩ [some (.ref x), some (.int o.j.n), none] H
    unfold t_Plan_rows
    tm_at "go"
    refine g_dec (fun h => by cases h) (fun _ => ?_)
    tm_at "go"
    refine' ap_Plan_job_of (K := K) hI hP ho fun t job fl fv e1 e2 e3 e4 => ?_
    tm_at "go"
    refine g_ix_t (SqT.of (hI.b e1)) (atI_of (by decide) rfl) ?_
    tm_at "go"
    have hl := e4.len
    have hz : o.f.length ≤ 900 := by
      obtain ⟨i, hi, ei⟩ := List.getElem_of_mem ho
      exact infoP_f (hp := hp) (all := []) (fun j hj => (gj j hj).t.l1) ho
    obtain ⟨ys, hys⟩ : ∃ ys : List V, All2 (fun v y => ∃ a t, v = .ref a ∧ B a = some (.tup [y, t])) fv ys ∧ RowsR B ys (o.f.map Prod.fst) := pairs_rows e4
    refine' g_lcX (xs := fv) ys hys.1.len.symm walk_list hI (by tm_at "wiped") (by omega) (fun D acc H' I => Is.sq I (SqL.of e3)) ?_ ?_
    · intro i z y D2 acc H' hx hy hI PY q
      obtain ⟨y2, ey, a, t, rfl, ba⟩ := hys.1.get hx
      rw [hy] at ey
      cases ey
      tm_at "go"
      refine' g_wiped (by tm_at "wiped") ?_
      tm_at "go"
      refine g_ix_t (SqT.of (hI.b ba)) (atI_of (by decide) rfl) ?_
      exact q _ hI
    clear hI
    intro D H hI
    exact q _ _ _ hI hys.2
def wantsA (js : List JobT) : List WantT := js.flatMap fun j => wantS j.n j.c 0 j.rs
def allF (hp : Nat × Nat) (js : List JobT) (all : List RowT) : List (RowT × Int) := (layJs hp js all).1.flatMap (·.f)
theorem layJs_rows {hp : Nat × Nat} : ∀ {js : List JobT} {all : List RowT}, (layJs hp js all).2 = all ++ (allF hp js all).map Prod.fst
  | [], all => by show all = all ++ []; rw [List.append_nil]
  | x :: js, all => by
    show (layJs hp js (layJ hp x.n x.c 0 x.rs all x.c).2.1).2 = _
    rw [layJs_rows (js := js)]
    have h2 := (layJ_len (hp := hp) (n := x.n) (c := x.c) (ss := x.rs) (k := 0) (all := all) (t := x.c)).2
    show _ ++ (allF hp js (layJ hp x.n x.c 0 x.rs all x.c).2.1).map Prod.fst = all ++ ((layJ hp x.n x.c 0 x.rs all x.c).1 ++ (allF hp js (layJ hp x.n x.c 0 x.rs all x.c).2.1)).map Prod.fst
    rw [h2, List.map_append, List.append_assoc]
theorem rowsP_eq {hp : Nat × Nat} {js : List JobT} : rowsP hp js = (allF hp js []).map Prod.fst := by
  show (layJs hp js []).2 = _
  rw [layJs_rows]
  rfl
theorem allF_firm {hp : Nat × Nat} (h1 : 1 ≤ hp.1) (h2 : 1 ≤ hp.2) : ∀ {js : List JobT} {all : List RowT}, All2 (RW hp) ((allF hp js all).map Prod.fst) (wantsA js)
  | [], _ => .nil
  | x :: js, all => by
    show All2 (RW hp) (((layJ hp x.n x.c 0 x.rs all x.c).1 ++ allF hp js (layJ hp x.n x.c 0 x.rs all x.c).2.1).map Prod.fst) (wantS x.n x.c 0 x.rs ++ wantsA js)
    rw [List.map_append]
    exact (layJ_firm h1 h2).app (allF_firm h1 h2)
theorem allF_ge {hp : Nat × Nat} (h1 : 1 ≤ hp.1) (h2 : 1 ≤ hp.2) : ∀ {js : List JobT} {all : List RowT}, ∀ p ∈ allF hp js all, p.2 ≤ p.1.b
  | [], _, p, hp0 => by cases hp0
  | x :: js, all, p, hp0 => by
    rcases List.mem_append.mp (show p ∈ (layJ hp x.n x.c 0 x.rs all x.c).1 ++ allF hp js (layJ hp x.n x.c 0 x.rs all x.c).2.1 from hp0) with h | h
    · exact layJ_ge h1 h2 p h
    · exact allF_ge h1 h2 p h
theorem allF_rdys {hp : Nat × Nat} : ∀ {js : List JobT} {all : List RowT} {e : Int}, (∀ j ∈ js, 1 ≤ j.rs.length) → rdys ((allF hp js all).map Prod.fst) (wantsA js) e = (allF hp js all).map Prod.snd
  | [], _, _, _ => rfl
  | x :: js, all, e, h => by
    show rdys (((layJ hp x.n x.c 0 x.rs all x.c).1 ++ allF hp js (layJ hp x.n x.c 0 x.rs all x.c).2.1).map Prod.fst) (wantS x.n x.c 0 x.rs ++ wantsA js) e = ((layJ hp x.n x.c 0 x.rs all x.c).1 ++ allF hp js (layJ hp x.n x.c 0 x.rs all x.c).2.1).map Prod.snd
    rw [List.map_append, List.map_append, layJ_rdys (fun _ => rfl) (fun h => absurd rfl h) (fun h2 => by
      have := h x List.mem_cons_self
      rw [h2] at this
      exact absurd this (by decide)), allF_rdys fun j hj => h j (List.mem_cons_of_mem _ hj)]
def WantR (B : Hp) (v : V) (w : WantT) : Prop := ∃ a, v = .ref a ∧ B a = some (.tup [.int w.n, .int w.k, .str w.kd, .int w.h, .int w.rest, .int w.c])
theorem WantR.same {B B' : Hp} {v : V} {w : WantT} (h : WantR B v w) (e : Same B B') : WantR B' v w := h.imp fun _ ⟨a, b⟩ => ⟨a, e _ _ b⟩
abbrev WantsR (B : Hp) (xs : List V) (ws : List WantT) : Prop := All2 (WantR B) xs ws
theorem WantsR.same {B B' : Hp} {xs : List V} {ws : List WantT} (h : WantsR B xs ws) (e : Same B B') : WantsR B' xs ws := All2.mono (fun _ _ h1 => WantR.same h1 e) h
structure PairB (B : Hp) (a : Addr) (hp : Nat × Nat) : Prop where
  at_ : B a = some (.tup [.int (hp.1 : Int), .int (hp.2 : Int)])
  good : GoodB hp
theorem PairB.same {B B' : Hp} {a : Addr} {hp : Nat × Nat} (h : PairB B a hp) (e : Same B B') : PairB B' a hp := ⟨e _ _ h.at_, h.good⟩
def sp_law_plain_bench (K : PySem.W.Frag) : Sp := fun vs H Q _ => vs.length = 1 ∧ ∃ (m : Addr) (n : Int) (B : Hp) (M L : List (Addr × HO)), vs = [.ref m] ∧ Is B M L H ∧ Dr m n B M ∧ n < 2 ^ 39 ∧
  ∀ (p : Addr) (hp : Nat × Nat) (B' H' : Hp) (M' : List (Addr × HO)), Same B B' → Is B' M' L H' → Dr m (n + 4) B' M' → PairB B' p hp → Q (.ref p) H'
theorem ap_law_plain_bench {K : PySem.W.Frag} {B H : Hp} {M L : List (Addr × HO)} {Q : VK} {E : XK} {n : Int} {m : Addr} (I : Is B M L H) (d : Dr m n B M) (h : n < 2 ^ 39) (q : ∀ (p : Addr) (hp : Nat × Nat) (B' H' : Hp) (M' : List (Addr × HO)), Same B B' → Is B' M' L H' → Dr m (n + 4) B' M' → PairB B' p hp → Q (.ref p) H') : sp_law_plain_bench K [.ref m] H Q E :=
  ⟨rfl, m, n, B, M, L, rfl, I, d, h, q⟩
def t_law_plain_bench (K : PySem.W.Frag) : TS := (tRet (tTup (tCons (tOp (rAddA K) (tC (.int 1)) (tCl 2 0 (sp_law_draw K) (fun vs zs => pick .non [0, 1] (vs ++ zs)) E0 (tCons (tVar 0) (tCons (tOp (rIx K) (tLst (tCons (tC (.int 2)) (tCons (tC (.int 3)) (tCons (tC (.int 9)) tNil)))) (tCl 2 0 (sp_law_draw K) (fun vs zs => pick .non [0, 1] (vs ++ zs)) E0 (tCons (tVar 0) (tCons (tC (.int 3)) tNil)) tNil)) tNil)) tNil)) (tCons (tOp (rAddA K) (tC (.int 1)) (tCl 2 0 (sp_law_draw K) (fun vs zs => pick .non [0, 1] (vs ++ zs)) E0 (tCons (tVar 0) (tCons (tOp (rIx K) (tLst (tCons (tC (.int 2)) (tCons (tC (.int 3)) (tCons (tC (.int 9)) tNil)))) (tCl 2 0 (sp_law_draw K) (fun vs zs => pick .non [0, 1] (vs ++ zs)) E0 (tCons (tVar 0) (tCons (tC (.int 3)) tNil)) tNil)) tNil)) tNil)) tNil))))
theorem rd_law_plain_bench {K : PySem.W.Frag} (vs : List V) (H : Hp) (Q : VK) (E : XK) (h : sp_law_plain_bench K vs H Q E) : t_law_plain_bench K { nx := fun _ H' => Q .non H', rt := Q } (start ["m"] vs) H := by
  obtain ⟨_, m, n, B, M, L, rfl, hI, hd, h1, q⟩ := h
  show t_law_plain_bench K ⟨_, _, _, _⟩ [some (.ref m)] H
  unfold t_law_plain_bench
  tm_at "go"
  tm_at "draw"
  refine g_ix_ints (lo := 2) (hi := 9) (by tm_at "sq") (by repeat (first | exact Ints.nil | refine Ints.cons (by omega) ?_)) hr0 (by tm_at "arith") ?_
  intro w1 a1 a2
  replace hI := hI.forget (L' := L) (by tm_at "sub")
  tm_at "go"
  tm_at "draw"
  revert r
  intro h0 b1 b2
  tm_at "go"
  tm_at "draw"
  refine g_ix_ints (lo := 2) (hi := 9) (by tm_at "sq") (by repeat (first | exact Ints.nil | refine Ints.cons (by omega) ?_)) hr0 (by tm_at "arith") ?_
  intro w2 a3 a4
  replace hI := hI.forget (L' := L) (by tm_at "sub")
  tm_at "go"
  tm_at "draw"
  revert r
  intro p0 b3 b4
  tm_at "go"
  refine' hI.give .here ?_
  clear hI
  intro B2 s2 hp2 hI
  refine q _ ((1 + h0).toNat, (1 + p0).toNat) B2 H _ s2 hI ((hd.mono (by omega)).same s2) ⟨?_, ⟨by show 1 ≤ (1 + h0).toNat; omega, by show (1 + h0).toNat ≤ 9; omega, by show 1 ≤ (1 + p0).toNat; omega, by show (1 + p0).toNat ≤ 9; omega⟩⟩
  rw [hp2, show (((1 + h0).toNat, (1 + p0).toNat) : Nat × Nat).1 = (1 + h0).toNat from rfl, show (((1 + h0).toNat, (1 + p0).toNat) : Nat × Nat).2 = (1 + p0).toNat from rfl, Int.toNat_of_nonneg (by omega), Int.toNat_of_nonneg (by omega)]
def sp_law_plan (K : PySem.W.Frag) : Sp := fun vs H Q _ => vs.length = 2 ∧ ∃ (pr pl : Addr) (hp : Nat × Nat) (xs : List V) (js : List JobT) (B : Hp) (M L : List (Addr × HO)), vs = [.ref pr, .ref pl] ∧ Is B M L H ∧ PairB B pr hp ∧ B pl = some (.lst xs) ∧ JobsB B xs js ∧ js.length ≤ 40 ∧ (js.map (·.n)).Nodup ∧
  ∀ (x : Addr) (B' H' : Hp), Same B B' → Is B' M L H' → PlanAt K B' x hp (ordJ js) → Q (.ref x) H'
theorem ap_law_plan {K : PySem.W.Frag} {H : Hp} {Q : VK} {E : XK} {pr pl : Addr} {hp : Nat × Nat} {xs : List V} {js : List JobT} {B : Hp} {M L : List (Addr × HO)} (I : Is B M L H) (hpr : PairB B pr hp) (hpl : B pl = some (.lst xs)) (hj : JobsB B xs js) (hl : js.length ≤ 40) (hn : (js.map (·.n)).Nodup)
    (q : ∀ (x : Addr) (B' H' : Hp), Same B B' → Is B' M L H' → PlanAt K B' x hp (ordJ js) → Q (.ref x) H') : sp_law_plan K [.ref pr, .ref pl] H Q E := ⟨rfl, pr, pl, hp, xs, js, B, M, L, rfl, I, hpr, hpl, hj, hl, hn, q⟩
def t_law_plan (K : PySem.W.Frag) : TS := (tRet (tMk (He.ga K "Plan") 2 0 (sp_Plan_init K) (fun vs zs => pick .non [0, 1, 2] (vs ++ (zs ++ [.non]))) E0 (tCons (tMk (He.ga K "Bench") 0 2 (sp_Bench_init K) (fun vs zs => pick .non [0, 1, 2] (vs ++ (zs ++ [.int 1, .int 1]))) E0 tNil (tCons (tOp (rIx K) (tVar 0) (tC (.int 0))) (tCons (tOp (rIx K) (tVar 0) (tC (.int 1))) tNil))) (tCons (tLc (iAny K (tVar 1)) (gName 2) tYes (tCl 1 0 (sp_law_job K) (fun vs zs => pick .non [0] (vs ++ zs)) E0 (tCons (tVar 2) tNil) tNil) [2]) tNil)) tNil))
theorem rd_law_plan {K : PySem.W.Frag} (vs : List V) (H : Hp) (Q : VK) (E : XK) (h : sp_law_plan K vs H Q E) : t_law_plan K { nx := fun _ H' => Q .non H', rt := Q } (start ["pair", "plains", "plain"] vs) H := by
  obtain ⟨_, pr, pl, hp, xs, js, B, M, L, rfl, hI, hpr, hpl, hj, hl, hn, q⟩ := h
  show t_law_plan K ⟨_, _, _, _⟩ [some (.ref pr), some (.ref pl), none] H
  obtain ⟨pa, pg⟩ := id hpr
  have hxl := hj.len
  unfold t_law_plan
  tm_at "go"
  refine g_ix_t (SqT.of (hI.b pa)) (atI_of (by decide) rfl) ?_
  tm_at "go"
  refine g_ix_t (SqT.of (hI.b pa)) (atI_of (by decide) rfl) ?_
  tm_at "go"
  refine' ap_Bench_init (K := K) hp hI pg ?_
  clear hI
  intro B1 H s1 hI hb
  refine ⟨rfl, ?_⟩
  obtain ⟨bch, rfl⟩ : ∃ q, q = x := ⟨_, rfl⟩
  replace hpl := s1 _ _ hpl
  replace hj := hj.same s1
  tm_at "go"
  refine' g_aLc walk_list hI (by tm_at "wiped") (by omega) (fun i acc B2 M2 => M2 = M ∧ JobsA K B2 acc (js.take i)) ⟨rfl, .nil⟩ (fun _ _ _ _ _ _ _ s hI' _ => Is.sq hI' (SqL.of (s _ _ hpl))) ?_ ?_
  · rintro i v acc B2 M2 D H' H'' hi s2 hI ⟨rfl, hA⟩ ⟨rfl, hv⟩ hz
    obtain ⟨j, ej, a, rfl, hJ⟩ := hj.get hv
    tm_at "go"
    refine' g_wiped (by tm_at "wiped") ?_
    tm_at "go"
    refine' ap_law_job (K := K) hI (hJ.same s2) ?_
    clear hI
    intro x B3 H s3 hI hx
    refine lcY (s2.trans s3) hI hz ⟨rfl, ?_⟩
    rw [List.take_add_one, ej]
    exact (hA.same s3).snoc ⟨x, rfl, hx⟩
  clear hI
  rintro acc B2 M2 D H s2 hI ⟨rfl, hA⟩ _
  rw [List.take_of_length_le (by omega)] at hA
  refine' hI.give .here ?_
  clear hI
  intro B3 s3 hD hI
  have s13 := s2.trans s3
  tm_at "go"
  refine' ap_Plan_init (K := K) hI (hb.same s13) hD (hA.same s3) hl hn ?_
  clear hI
  intro B4 H s4 hI hP
  refine ⟨rfl, ?_⟩
  exact q x B4 H ((s1.trans s13).trans s4) hI hP
def sp_law_rank (K : PySem.W.Frag) : Sp := fun vs H Q _ => vs.length = 1 ∧ ∃ (x : Addr) (j : JobT) (B : Hp) (M L : List (Addr × HO)), vs = [.ref x] ∧ Is B M L H ∧ PlainJ B x j ∧ ∀ p H', Is B M ((p, .tup [.int (if j.q = true then 0 else 1), .int j.w, .int j.c, .int j.n]) :: L) H' → Q (.ref p) H'
def t_law_rank (K : PySem.W.Frag) : TS := (tRet (tTup (tCons (tIf (tTr K (tOp (rIx K) (tVar 0) (tC (.int 4)))) (tC (.int 0)) (tC (.int 1))) (tCons (tOp (rIx K) (tVar 0) (tC (.int 3))) (tCons (tOp (rIx K) (tVar 0) (tC (.int 2))) (tCons (tOp (rIx K) (tVar 0) (tC (.int 0))) tNil))))))
theorem rd_law_rank {K : PySem.W.Frag} (vs : List V) (H : Hp) (Q : VK) (E : XK) (h : sp_law_rank K vs H Q E) : t_law_rank K { nx := fun _ H' => Q .non H', rt := Q } (start ["plain"] vs) H := by
  obtain ⟨_, x, ⟨n, nm, rs, c, w, qk⟩, B, M, L, rfl, hI, hX, q⟩ := h
  show t_law_rank K ⟨_, _, _, _⟩ [some (.ref x)] H
  obtain ⟨⟨s, h1, h2⟩, hg⟩ := id hX
  unfold t_law_rank
  tm_at "go"
  refine g_ix_t (SqT.of (hI.b h1)) (atI_of (by decide) rfl) ?_
  tm_at "go"
  refine g_b (fun hq => ?_) (fun hq => ?_)
  · subst hq
    tm_at "go"
    refine g_ix_t (SqT.of (hI.b h1)) (atI_of (by decide) rfl) ?_
    tm_at "go"
    refine g_ix_t (SqT.of (hI.b h1)) (atI_of (by decide) rfl) ?_
    tm_at "go"
    refine g_ix_t (SqT.of (hI.b h1)) (atI_of (by decide) rfl) ?_
    tm_at "go"
    exact q _ _ hI
  · subst hq
    tm_at "go"
    refine g_ix_t (SqT.of (hI.b h1)) (atI_of (by decide) rfl) ?_
    tm_at "go"
    refine g_ix_t (SqT.of (hI.b h1)) (atI_of (by decide) rfl) ?_
    tm_at "go"
    refine g_ix_t (SqT.of (hI.b h1)) (atI_of (by decide) rfl) ?_
    tm_at "go"
    exact q _ _ hI
def sp_law_spots (K : PySem.W.Frag) : Sp := fun vs H Q _ => vs.length = 1 ∧ ∃ (pr : Addr) (hp : Nat × Nat) (B : Hp) (M L : List (Addr × HO)), vs = [.ref pr] ∧ Is B M L H ∧ PairB B pr hp ∧
  ∀ (p : Addr) (xs : List V) (B' H' : Hp), Same B B' → Is B' M ((p, .lst xs) :: L) H' → SpotsB B' xs (spotsA hp) → Q (.ref p) H'
theorem ap_law_spots {K : PySem.W.Frag} {H : Hp} {Q : VK} {E : XK} {pr : Addr} {hp : Nat × Nat} {B : Hp} {M L : List (Addr × HO)} (I : Is B M L H) (h : PairB B pr hp)
    (q : ∀ (p : Addr) (xs : List V) (B' H' : Hp), Same B B' → Is B' M ((p, .lst xs) :: L) H' → SpotsB B' xs (spotsA hp) → Q (.ref p) H') : sp_law_spots K [.ref pr] H Q E := ⟨rfl, pr, hp, B, M, L, rfl, I, h, q⟩
def t_law_spots (K : PySem.W.Frag) : TS := (tRet (tOp (rAddA K) (tLc (iRng1 (tCons (tOp (rIx K) (tVar 0) (tC (.int 0))) tNil)) (gName 1) tYes (tTup (tCons (tC (.str "hand")) (tCons (tOp (rAddA K) (tVar 1) (tC (.int 1))) tNil))) [1]) (tLc (iRng1 (tCons (tOp (rIx K) (tVar 0) (tC (.int 1))) tNil)) (gName 1) tYes (tTup (tCons (tC (.str "press")) (tCons (tOp (rAddA K) (tVar 1) (tC (.int 1))) tNil))) [1])))
theorem rd_law_spots {K : PySem.W.Frag} (vs : List V) (H : Hp) (Q : VK) (E : XK) (h : sp_law_spots K vs H Q E) : t_law_spots K { nx := fun _ H' => Q .non H', rt := Q } (start ["pair", "k"] vs) H := by
  obtain ⟨_, pr, hp, B, M, L, rfl, hI, hX, q⟩ := h
  show t_law_spots K ⟨_, _, _, _⟩ [some (.ref pr), none] H
  obtain ⟨pa, ⟨g1, g2, g3, g4⟩⟩ := id hX
  unfold t_law_spots
  tm_at "go"
  refine g_ix_t (SqT.of (hI.b pa)) (atI_of (by decide) rfl) ?_
  tm_at "go"
  refine' g_aLc walk_range hI (by tm_at "wiped") (by omega) (fun i acc B2 M2 => M2 = M ∧ SpotsB B2 acc (spotsOf i "hand")) ⟨rfl, .nil⟩ (fun _ _ _ _ _ _ _ _ _ _ => trivial) ?_ ?_
  · rintro i v acc B2 M2 D H' H'' hi s2 hI ⟨rfl, hA⟩ ⟨rfl, rfl⟩ hz
    tm_at "go"
    refine' g_wiped (by tm_at "wiped") ?_
    tm_at "go"
    refine' hI.give .here ?_
    clear hI
    intro B3 s3 hp3 hI
    refine lcY (s2.trans s3) hI hz ⟨rfl, ?_⟩
    rw [spotsOf_succ]
    refine (hA.same s3).snoc ⟨p, rfl, ?_⟩
    rw [hp3, Int.zero_add]
  clear hI
  rintro acc B2 M2 D H s2 hI ⟨rfl, hA⟩ _
  have pa2 := s2 _ _ pa
  tm_at "go"
  refine g_ix_t (SqT.of (hI.b pa2)) (atI_of (by decide) rfl) ?_
  tm_at "go"
  refine' g_aLc walk_range hI (by tm_at "wiped") (by omega) (fun i acc B3 M3 => M3 = M2 ∧ SpotsB B3 acc (spotsOf i "press")) ⟨rfl, .nil⟩ (fun _ _ _ _ _ _ _ _ _ _ => trivial) ?_ ?_
  · rintro i v acc B3 M2 D H' H'' hi s3 hI ⟨rfl, hA⟩ ⟨rfl, rfl⟩ hz
    tm_at "go"
    refine' g_wiped (by tm_at "wiped") ?_
    tm_at "go"
    refine' hI.give .here ?_
    clear hI
    intro B4 s4 hp3 hI
    refine lcY (s3.trans s4) hI hz ⟨rfl, ?_⟩
    rw [spotsOf_succ]
    refine (hA.same s4).snoc ⟨p, rfl, ?_⟩
    rw [hp3, Int.zero_add]
  clear hI
  rintro acc2 B3 M3 D2 H s3 hI ⟨rfl, hA2⟩ _
  have l1 := hA.len
  have l2 := hA2.len
  unfold spotsOf at l1 l2
  rw [List.length_map, List.length_range] at l1 l2
  refine g_add_l hI (by tm_at "hp") (by tm_at "hp") (by omega) ?_
  clear hI
  intro g H hI
  exact q g _ B3 H (s2.trans s3) (hI.forget (by tm_at "sub")) ((hA.same s3).app hA2)
theorem log2_smallI {n : Int} (h0 : -(2 ^ 200) < n) (h : n < 2 ^ 200) : n.natAbs.log2 < 1920 := by
  rcases Nat.eq_zero_or_pos n.natAbs with e | e
  · rw [e]
    decide
  · have : n.natAbs < 2 ^ 200 := by omega
    have := (Nat.log2_lt (by omega)).mpr this
    omega
theorem shn_int {n : Int} {k : Nat} (h0 : -(2 ^ 200) < n) (h : n < 2 ^ 200) : Shn (.int n) 2000 k := .int (log2_smallI h0 h)
theorem All2.take {α β : Type} {R : α → β → Prop} : ∀ {xs : List α} {ys : List β} (n : Nat), All2 R xs ys → All2 R (xs.take n) (ys.take n)
  | _, _, 0, _ => .nil
  | _, _, _ + 1, .nil => .nil
  | _, _, n + 1, .cons a t => .cons a (All2.take n t)
theorem All2.drop {α β : Type} {R : α → β → Prop} : ∀ {xs : List α} {ys : List β} (n : Nat), All2 R xs ys → All2 R (xs.drop n) (ys.drop n)
  | _, _, 0, h => h
  | _, _, _ + 1, .nil => .nil
  | _, _, n + 1, .cons _ t => All2.drop n t
theorem walk_zipLL2 {K : PySem.W.Frag} {a b : Addr} {xs ys : List V} {n : Nat} (hn : n = min xs.length ys.length) : Walk (Itz K a b) n (fun H => SqL K H a xs ∧ SqL K H b ys) (YPair (fun i => xs[i]?) (fun i => ys[i]?)) := by
  subst hn
  refine ⟨fun i _ hi q => ?_, fun _ q => ⟨xs, ys, q.1, q.2, by omega⟩, fun i H v H' _ q y => ?_⟩
  · have h1 : i < xs.length := by omega
    have h2 : i < ys.length := by omega
    exact ⟨xs, ys, xs[i], ys[i], q.1, q.2, by simp [h1], by simp [h2]⟩
  · obtain ⟨T, x, z, h1, h2, h3, h4, h5⟩ := y
    exact ⟨T, x, z, h1, h2, h3, h4 xs q.1, h5 ys q.2⟩
def sp_law_case (K : PySem.W.Frag) : Sp := fun vs H Q _ => vs.length = 2 ∧ ∃ (m : Addr) (n many : Int) (B : Hp) (M L : List (Addr × HO)), vs = [.ref m, .int many] ∧ Is B M L H ∧ Dr m n B M ∧ n < 2 ^ 36 ∧ 1 ≤ many ∧ many ≤ 45 ∧
  ∀ (p pr pl : Addr) (hp : Nat × Nat) (xs : List V) (js : List JobT) (B' H' : Hp) (M' : List (Addr × HO)), Same B B' → Is B' M' L H' → Dr m (n + 484 + 8 * many) B' M' → B' p = some (.tup [.ref pr, .ref pl]) → PairB B' pr hp → B' pl = some (.lst xs) → JobsB B' xs js → (js.map (·.n)).Nodup → (js.length : Int) ≤ many → (∀ j ∈ js, j.w ≤ 999900) → Q (.ref p) H'
theorem ap_law_case {K : PySem.W.Frag} {B H : Hp} {M L : List (Addr × HO)} {Q : VK} {E : XK} {m : Addr} {n many : Int} (I : Is B M L H) (d : Dr m n B M) (h : n < 2 ^ 36) (h1 : 1 ≤ many) (h2 : many ≤ 45)
    (q : ∀ (p pr pl : Addr) (hp : Nat × Nat) (xs : List V) (js : List JobT) (B' H' : Hp) (M' : List (Addr × HO)), Same B B' → Is B' M' L H' → Dr m (n + 484 + 8 * many) B' M' → B' p = some (.tup [.ref pr, .ref pl]) → PairB B' pr hp → B' pl = some (.lst xs) → JobsB B' xs js → (js.map (·.n)).Nodup → (js.length : Int) ≤ many → (∀ j ∈ js, j.w ≤ 999900) → Q (.ref p) H') : sp_law_case K [.ref m, .int many] H Q E :=
  ⟨rfl, m, n, many, B, M, L, rfl, I, d, h, h1, h2, q⟩
abbrev t_law_case_0 (K : PySem.W.Frag) : TS := (tRet (tTup (tCons (tVar 3) (tCons (tCl 3 0 (sp_law_plain_jobs K) (fun vs zs => pick .non [0, 1, 2] (vs ++ zs)) E0 (tCons (tVar 0) (tCons (tCl 3 0 (sp_law_styles K) (fun vs zs => pick .non [0, 1, 2] (vs ++ zs)) E0 (tCons (tVar 0) (tCons (tVar 2) (tCons (tC (.int 4)) tNil))) tNil) (tCons (tVar 1) tNil))) tNil) tNil))))
abbrev t_law_case_1 (K : PySem.W.Frag) : TS := (tSeq (tAsg (tCl 1 0 (sp_law_plain_bench K) (fun vs zs => pick .non [0] (vs ++ zs)) E0 (tCons (tVar 0) tNil) tNil) (gName 3)) (t_law_case_0 K))
def t_law_case (K : PySem.W.Frag) : TS := (tSeq (tAsg (tCl 2 0 (sp_law_called K) (fun vs zs => pick .non [0, 1] (vs ++ zs)) E0 (tCons (tVar 0) (tCons (tC (.int 4)) tNil)) tNil) (gName 2)) (t_law_case_1 K))
theorem rd_law_case {K : PySem.W.Frag} (vs : List V) (H : Hp) (Q : VK) (E : XK) (h : sp_law_case K vs H Q E) : t_law_case K { nx := fun _ H' => Q .non H', rt := Q } (start ["m", "many", "w", "pair"] vs) H := by
  obtain ⟨_, m, n, many, B, M, L, rfl, hI, hd, hn, hm1, hm2, q⟩ := h
  show t_law_case K ⟨_, _, _, _⟩ [some (.ref m), some (.int many), none, none] H
  unfold t_law_case
  tm_at "go"
  refine' ap_law_called (K := K) hI hd (by omega) (by omega) (by omega) ?_
  clear hI hd
  intro w ws H M hI hd hnm hwl
  refine' hI.give .here ?_
  clear hI
  intro B1 s1 hw hI
  replace hd := hd.same s1
  tm_at "go"
  refine' ap_law_plain_bench (K := K) hI hd (by omega) ?_
  clear hI hd
  intro pr hp B2 H M s2 hI hd hP
  tm_at "go"
  refine' ap_law_styles (K := K) hI hd (by omega) (by omega) (by omega) (s2 _ _ hw) (by omega) hnm ?_
  clear hI hd
  intro st ss B3 H M s3 hI hd hS hs1 hs2 hst
  tm_at "go"
  refine' ap_law_plain_jobs (K := K) hI hd (by omega) hm1 hm2 hst hS hs1 hs2 ?_
  clear hI hd
  intro pl xs B4 H M s4 hI hd js hj hnd hl hpl hw9
  tm_at "go"
  refine' hI.give .here ?_
  clear hI
  intro B5 s5 hp5 hI
  have hjl := hj.len
  exact q p pr pl hp xs js B5 H M ((((s1.trans s2).trans s3).trans s4).trans s5) hI ((hd.mono (by omega)).same s5) hp5 (hP.same ((s3.trans s4).trans s5)) (s5 _ _ hpl) (hj.same s5) hnd (by omega) hw9
theorem wantsA_len {js : List JobT} (h : ∀ j ∈ js, j.rs.length ≤ 12) : (wantsA js).length ≤ 12 * js.length := by
  induction js with
  | nil => exact Nat.le_refl _
  | cons j l ih =>
    have h1 := h j List.mem_cons_self
    have h2 := ih fun x hx => h x (List.mem_cons_of_mem _ hx)
    show (wantS j.n j.c 0 j.rs ++ wantsA l).length ≤ _
    rw [List.length_append, wantS_len, List.length_cons]
    omega
theorem wantsA_snoc (js : List JobT) (j : JobT) : wantsA (js ++ [j]) = wantsA js ++ wantS j.n j.c 0 j.rs := by
  unfold wantsA
  rw [List.flatMap_append]
  show _ ++ (wantS j.n j.c 0 j.rs ++ []) = _
  rw [List.append_nil]
theorem JobsB.of_perm {B : Hp} {xs : List V} {js : List JobT} (h : JobsB B xs js) : ∀ j ∈ js, GoodJ j := fun j hj => by
  obtain ⟨i, hi, e⟩ := List.mem_iff_getElem.mp hj
  obtain ⟨v, a, e2, e3, h4⟩ := h.get' (i := i) (y := j) (by rw [List.getElem?_eq_getElem hi, e])
  exact h4.good
def sp_law_wanted (K : PySem.W.Frag) : Sp := fun vs H Q _ => vs.length = 1 ∧ ∃ (pl : Addr) (xs : List V) (js : List JobT) (B : Hp) (M L : List (Addr × HO)), vs = [.ref pl] ∧ Is B M L H ∧ B pl = some (.lst xs) ∧ JobsB B xs js ∧ js.length ≤ 45 ∧
  ∀ (p : Addr) (ws : List V) (B' H' : Hp), Same B B' → Is B' M L H' → B' p = some (.lst ws) → WantsR B' ws (wantsA (ordJ js)) → Q (.ref p) H'
theorem ap_law_wanted {K : PySem.W.Frag} {H : Hp} {Q : VK} {E : XK} {pl : Addr} {xs : List V} {js : List JobT} {B : Hp} {M L : List (Addr × HO)} (I : Is B M L H) (h : B pl = some (.lst xs)) (hj : JobsB B xs js) (hl : js.length ≤ 45)
    (q : ∀ (p : Addr) (ws : List V) (B' H' : Hp), Same B B' → Is B' M L H' → B' p = some (.lst ws) → WantsR B' ws (wantsA (ordJ js)) → Q (.ref p) H') : sp_law_wanted K [.ref pl] H Q E := ⟨rfl, pl, xs, js, B, M, L, rfl, I, h, hj, hl, q⟩
abbrev t_law_wanted_0 (K : PySem.W.Frag) : TS := (tDrop (tBM K "list" rAppend (tVar 1) (tCons (tTup (tCons (tOp (rIx K) (tVar 2) (tC (.int 0))) (tCons (tOp (rAddA K) (tVar 3) (tC (.int 1))) (tCons (tIf (tTest (tOp (rEqA K) (tVar 4) (tC (.str "press")))) (tC (.str "press")) (tC (.str "hand"))) (tCons (tVar 5) (tCons (tVar 6) (tCons (tOp (rIx K) (tVar 2) (tC (.int 2))) tNil))))))) tNil)))
abbrev t_law_wanted_1 (K : PySem.W.Frag) : TS := (tFor (iEnumA K (tCons (tOp (rIx K) (tOp (rIx K) (tVar 2) (tC (.int 1))) (tC (.int 1))) tNil)) (gTup K 2 (gCons (gName 3) (gCons (gTup K 3 (gCons (gName 4) (gCons (gName 5) (gCons (gName 6) gNil)))) gNil))) (t_law_wanted_0 K))
abbrev t_law_wanted_2 (K : PySem.W.Frag) : TS := (tRet (tVar 1))
abbrev t_law_wanted_3 (K : PySem.W.Frag) : TS := (tSeq (tFor (iAny K (tCKw (rSortKey K "_law_rank" (sp_law_rank K) (fun vs zs => pick .non [0] (vs ++ zs))) (tCons (tVar 0) tNil) (tCons (tC (.ref (He.ga K "_law_rank"))) tNil))) (gName 2) (t_law_wanted_1 K)) (t_law_wanted_2 K))
def t_law_wanted (K : PySem.W.Frag) : TS := (tSeq (tAsg (tLst tNil) (gName 1)) (t_law_wanted_3 K))
theorem rd_law_wanted {K : PySem.W.Frag} (vs : List V) (H : Hp) (Q : VK) (E : XK) (h : sp_law_wanted K vs H Q E) : t_law_wanted K { nx := fun _ H' => Q .non H', rt := Q } (start ["plains", "found", "plain", "k", "work", "few", "rest"] vs) H := by
  obtain ⟨_, pl, xs, js, B, M, L, rfl, hI, hpl, hj, hl, q⟩ := h
  show t_law_wanted K ⟨_, _, _, _⟩ [some (.ref pl), none, none, none, none, none, none] H
  have hgd := hj.of_perm
  unfold t_law_wanted
  tm_at "go"
  obtain ⟨fd, rfl⟩ : ∃ q, q = p := ⟨_, rfl⟩
  refine g_ckw ?_
  tm_at "go"
  refine g_sortKey rankD hI (.inl (SqL.of (hI.b hpl))) hj (jobs_alike _) (jobs_sortable _) (jobs_depth _) (fun x j H' ⟨y, e, hJ⟩ I' => ?_) ?_
  · subst e
    exact ⟨rfl, y, j, B, M, _, rfl, I', hJ, fun p H' I2 => ⟨rank_key (I2.get (.head _)), I2.forget (by tm_at "sub")⟩⟩
  clear hI
  intro sp ys H hy hI
  replace hy : JobsB B ys (ordJ js) := hy
  have hyl := hy.len
  have hol := (ordJ_perm js).length_eq
  tm_at "go"
  refine' g_aFor walk_list (fun i σ H => ∃ (c2 c3 c4 c5 c6 : Option V) (B2 : Hp) (wv : List V), σ = [some (.ref pl), some (.ref fd), c2, c3, c4, c5, c6] ∧ Same B B2 ∧ Is B2 M ((sp, .lst ys) :: (fd, .lst wv) :: L) H ∧ WantsR B2 wv (wantsA ((ordJ js).take i)))
    ⟨_, _, _, _, _, B, [], rfl, fun _ _ e => e, hI, .nil⟩ (fun _ _ _ _ ⟨_, _, _, _, _, _, _, _, _, hI, _⟩ => SqL.of (hI.get (.head _))) ?_ ?_
  · clear hI
    rintro i x σ H H' hi ⟨c2, c3, c4, c5, c6, B2, wv, rfl, s2, hI, hw⟩ ⟨rfl, hx⟩
    obtain ⟨j, ej, a, rfl, hJ⟩ := hy.get hx
    obtain ⟨⟨s, j1, ⟨⟨a2, xs2, j2, j3, j4⟩, _⟩⟩, hg⟩ := hJ.same s2
    have hwl := hw.len
    have hwb := wantsA_len (js := (ordJ js).take i) fun j hj => (hgd j ((ordJ_perm js).mem_iff.mp (List.mem_of_mem_take hj))).t.l1
    rw [List.length_take] at hwb
    have hsl := j4.len
    have hl12 := hg.t.l1
    have et : (ordJ js).take (i + 1) = (ordJ js).take i ++ [j] := by
      rw [List.take_add_one, ej]
      rfl
    tm_at "go"
    refine g_ix_t (SqT.of (hI.b j1)) (atI_of (by decide) rfl) ?_
    tm_at "go"
    refine g_ix_t (SqT.of (hI.b j2)) (atI_of (by decide) rfl) ?_
    tm_at "go"
    refine' g_aFor walk_enum (fun k σ H => ∃ (c3 c4 c5 c6 : Option V) (B3 : Hp) (wv : List V), σ = [some (.ref pl), some (.ref fd), some (.ref a), c3, c4, c5, c6] ∧ Same B2 B3 ∧ Is B3 M ((sp, .lst ys) :: (fd, .lst wv) :: L) H ∧ WantsR B3 wv (wantsA ((ordJ js).take i) ++ wantS j.n j.c 0 (j.rs.take k)))
      ⟨_, _, _, _, B2, wv, rfl, fun _ _ e => e, hI, by rw [List.take_zero]; show WantsR B2 wv (_ ++ []); rw [List.append_nil]; exact hw⟩ (fun _ _ _ _ ⟨_, _, _, _, _, _, _, s, hI, _⟩ => SqL.of (hI.b (s _ _ j3))) ?_ ?_
    · clear hI hw
      clear wv hwl
      rintro k z0 σ H H' hk ⟨c3, c4, c5, c6, B3, wv, rfl, s3, hI, hw⟩ ⟨TT, y, z, rfl, hTT, rfl, e1, e2⟩
      cases e1
      obtain ⟨r, er, b, rfl, hb⟩ := j4.get e2
      replace hb := s3 _ _ hb
      replace j1 := s3 _ _ j1
      have hwl := hw.len
      rw [List.length_append, wantS_len, List.length_take] at hwl
      have hki : k < j.rs.length := (List.getElem?_eq_some_iff.mp er).1
      have ek : j.rs.take (k + 1) = j.rs.take k ++ [r] := by
        rw [List.take_add_one, er]
        rfl
      replace hI := hI.new (o := .tup [V.int (k : Int), .ref b]) hTT
      generalize upd H TT (.tup [V.int (k : Int), .ref b]) = H at *
      tm_at "go"
      refine g_ix_t (SqT.of (hI.b j1)) (atI_of (by decide) rfl) ?_
      tm_at "go"
      refine g_dec (fun h0 => ?_) (fun h0 => ?_)
      · tm_at "go"
        refine g_ix_t (SqT.of (hI.b j1)) (atI_of (by decide) rfl) ?_
        tm_at "go"
        have ek2 : kindS r.1 = "press" := if_pos (V.str.inj h0)
        refine' (hI.forget (L' := (p, .tup [V.int j.n, V.int ((k : Int) + 1), V.str "press", V.int r.2.1, V.int r.2.2, V.int j.c]) :: (sp, .lst ys) :: (fd, .lst (wv ++ [V.ref p])) :: L) (by tm_at "sub")).give .here ?_
        clear hI
        intro B4 s4 hp4 hI
        refine ⟨_, _, _, _, B4, _, rfl, s3.trans s4, hI, ?_⟩
        rw [ek, wantS_snoc, ← List.append_assoc, List.length_take, Nat.min_eq_left (by omega), Nat.zero_add, ek2]
        exact (hw.same s4).snoc ⟨p, rfl, hp4⟩
      · tm_at "go"
        refine g_ix_t (SqT.of (hI.b j1)) (atI_of (by decide) rfl) ?_
        tm_at "go"
        have ek2 : kindS r.1 = "hand" := if_neg fun h => h0 (congrArg V.str h)
        refine' (hI.forget (L' := (p, .tup [V.int j.n, V.int ((k : Int) + 1), V.str "hand", V.int r.2.1, V.int r.2.2, V.int j.c]) :: (sp, .lst ys) :: (fd, .lst (wv ++ [V.ref p])) :: L) (by tm_at "sub")).give .here ?_
        clear hI
        intro B4 s4 hp4 hI
        refine ⟨_, _, _, _, B4, _, rfl, s3.trans s4, hI, ?_⟩
        rw [ek, wantS_snoc, ← List.append_assoc, List.length_take, Nat.min_eq_left (by omega), Nat.zero_add, ek2]
        exact (hw.same s4).snoc ⟨p, rfl, hp4⟩
    · rintro σ H ⟨c3, c4, c5, c6, B3, wv2, rfl, s3, hI, hw2⟩
      refine ⟨_, _, _, _, _, B3, wv2, rfl, s2.trans s3, hI, ?_⟩
      rw [et, wantsA_snoc]
      rw [List.take_of_length_le (l := j.rs) (by omega)] at hw2
      exact hw2
  · rintro σ H ⟨c2, c3, c4, c5, c6, B2, wv, rfl, s2, hI, hw⟩
    rw [List.take_of_length_le (by omega)] at hw
    tm_at "go"
    refine' (hI.forget (L' := (fd, .lst wv) :: L) (by tm_at "sub")).give .here ?_
    clear hI
    intro B4 s4 hp4 hI
    exact q fd wv B4 H (s2.trans s4) hI hp4 (hw.same s4)
def sp_law_readies (K : PySem.W.Frag) : Sp := fun vs H Q _ => vs.length = 2 ∧ ∃ (rp wp : Addr) (rv wv : List V) (rows : List RowT) (wants : List WantT) (B : Hp) (M L : List (Addr × HO)), vs = [.ref rp, .ref wp] ∧ Is B M L H ∧ B rp = some (.lst rv) ∧ RowsR B rv rows ∧ B wp = some (.lst wv) ∧ WantsR B wv wants ∧ rows.length = wants.length ∧ rows.length ≤ 1000 ∧
  ∀ p H', Is B M ((p, .lst ((rdys rows wants 0).map V.int)) :: L) H' → Q (.ref p) H'
theorem ap_law_readies {K : PySem.W.Frag} {H : Hp} {Q : VK} {E : XK} {rp wp : Addr} {rv wv : List V} {rows : List RowT} {wants : List WantT} {B : Hp} {M L : List (Addr × HO)} (I : Is B M L H) (h1 : B rp = some (.lst rv)) (h2 : RowsR B rv rows) (h3 : B wp = some (.lst wv)) (h4 : WantsR B wv wants) (h5 : rows.length = wants.length) (h6 : rows.length ≤ 1000)
    (q : ∀ p H', Is B M ((p, .lst ((rdys rows wants 0).map V.int)) :: L) H' → Q (.ref p) H') : sp_law_readies K [.ref rp, .ref wp] H Q E := ⟨rfl, rp, wp, rv, wv, rows, wants, B, M, L, rfl, I, h1, h2, h3, h4, h5, h6, q⟩
abbrev t_law_readies_0 (K : PySem.W.Frag) : TS := (tAsg (tOp (rAddA K) (tOp (rIx K) (tVar 4) (tC (.int 4))) (tOp (rIx K) (tVar 5) (tC (.int 4)))) (gName 3))
abbrev t_law_readies_1 (K : PySem.W.Frag) : TS := (tSeq (tDrop (tBM K "list" rAppend (tVar 2) (tCons (tIf (tTest (tOp (rEqA K) (tOp (rIx K) (tVar 5) (tC (.int 1))) (tC (.int 1)))) (tOp (rIx K) (tVar 5) (tC (.int 5))) (tVar 3)) tNil))) (t_law_readies_0 K))
abbrev t_law_readies_2 (K : PySem.W.Frag) : TS := (tRet (tVar 2))
abbrev t_law_readies_3 (K : PySem.W.Frag) : TS := (tSeq (tFor (RZ.iZipA K (tCons (tVar 0) (tCons (tVar 1) tNil))) (gTup K 2 (gCons (gName 4) (gCons (gName 5) gNil))) (t_law_readies_1 K)) (t_law_readies_2 K))
def t_law_readies (K : PySem.W.Frag) : TS := (tSeq (tPar 2 3 (tCons (tLst tNil) (tCons (tC (.int 0)) tNil))) (t_law_readies_3 K))
theorem rd_law_readies {K : PySem.W.Frag} (vs : List V) (H : Hp) (Q : VK) (E : XK) (h : sp_law_readies K vs H Q E) : t_law_readies K { nx := fun _ H' => Q .non H', rt := Q } (start ["rows", "wanted", "found", "early", "row", "want"] vs) H := by
  obtain ⟨_, rp, wp, rv, wv, rows, wants, B, M, L, rfl, hI, h1, h2, h3, h4, h5, h6, q⟩ := h
  show t_law_readies K ⟨_, _, _, _⟩ [some (.ref rp), some (.ref wp), none, none, none, none] H
  have l2 := h2.len
  have l4 := h4.len
  unfold t_law_readies
  tm_at "go"
  obtain ⟨fd, rfl⟩ : ∃ q, q = p := ⟨_, rfl⟩
  refine' g_aFor (walk_zipLL2 (xs := rv) (ys := wv) (n := rows.length) (by omega)) (fun i σ H => ∃ (e : Int) (c4 c5 : Option V) (acc : List Int), σ = [some (.ref rp), some (.ref wp), some (.ref fd), some (.int e), c4, c5] ∧ Is B M ((fd, .lst (acc.map V.int)) :: L) H ∧ acc.length = i ∧ acc ++ rdys (rows.drop i) (wants.drop i) e = rdys rows wants 0)
    ⟨0, _, _, [], rfl, hI, rfl, rfl⟩ (fun _ _ _ _ ⟨_, _, _, _, _, hI, _⟩ => ⟨SqL.of (hI.b h1), SqL.of (hI.b h3)⟩) ?_ ?_
  · clear hI
    rintro i x σ H H' hi ⟨e, c4, c5, acc, rfl, hI, hl, ha⟩ ⟨TT, x1, x2, rfl, hTT, rfl, e1, e2⟩
    obtain ⟨r, er, a, sp, rfl, b1, b2⟩ := h2.get e1
    obtain ⟨w, ew, b, rfl, b3⟩ := h4.get e2
    have hr := (List.getElem?_eq_some_iff.mp er)
    have hw := (List.getElem?_eq_some_iff.mp ew)
    obtain ⟨hr1, hr2⟩ := hr
    obtain ⟨hw1, hw2⟩ := hw
    rw [List.drop_eq_getElem_cons hr1, List.drop_eq_getElem_cons hw1, hr2, hw2] at ha
    replace ha : acc ++ ((if w.k = 1 then w.c else e) :: rdys (rows.drop (i + 1)) (wants.drop (i + 1)) (r.e + w.rest)) = rdys rows wants 0 := ha
    replace hI := hI.new (o := .tup [V.ref a, .ref b]) hTT
    generalize upd H TT (.tup [V.ref a, .ref b]) = H at *
    tm_at "go"
    refine g_ix_t (SqT.of (hI.b b3)) (atI_of (by decide) rfl) ?_
    tm_at "go"
    refine g_dec (fun h0 => ?_) (fun h0 => ?_)
    · have h1' : w.k = 1 := V.int.inj h0
      tm_at "go"
      refine g_ix_t (SqT.of (hI.b b3)) (atI_of (by decide) rfl) ?_
      tm_at "go"
      refine g_ix_t (SqT.of (hI.b b1)) (atI_of (by decide) rfl) ?_
      tm_at "go"
      refine g_ix_t (SqT.of (hI.b b3)) (atI_of (by decide) rfl) ?_
      tm_at "go"
      refine ⟨_, _, _, acc ++ [w.c], rfl, by rw [List.map_append]; exact hI.forget (by tm_at "sub"), by rw [List.length_append, hl]; rfl, ?_⟩
      rw [if_pos h1'] at ha
      rw [← ha, List.append_assoc]
      rfl
    · have h1' : ¬ w.k = 1 := fun z => h0 (congrArg V.int z)
      tm_at "go"
      refine g_ix_t (SqT.of (hI.b b1)) (atI_of (by decide) rfl) ?_
      tm_at "go"
      refine g_ix_t (SqT.of (hI.b b3)) (atI_of (by decide) rfl) ?_
      tm_at "go"
      refine ⟨_, _, _, acc ++ [e], rfl, by rw [List.map_append]; exact hI.forget (by tm_at "sub"), by rw [List.length_append, hl]; rfl, ?_⟩
      rw [if_neg h1'] at ha
      rw [← ha, List.append_assoc]
      rfl
  · rintro σ H ⟨e, c4, c5, acc, rfl, hI, hl, ha⟩
    rw [List.drop_of_length_le (by omega), List.drop_of_length_le (by omega)] at ha
    tm_at "go"
    have ha2 : acc = rdys rows wants 0 := by
      rw [← ha]
      exact (List.append_nil _).symm
    rw [ha2] at hI
    exact q fd H hI
def spotD (s : Spot) : PyData := .tuple [.str s.1, .int s.2]
theorem dp_spots {K : PySem.W.Frag} {B H : Hp} (e : Same B H) : ∀ {xs : List V} {ss : List Spot}, SpotsB B xs ss → DpAll K H xs (ss.map spotD)
  | _, _, .nil => .nil
  | _, _, .cons ⟨a, rfl, h⟩ t => .cons (.tup (SqT.of (e _ _ h)) (.cons (.str _) (.cons (.int _) .nil))) (dp_spots e t)
theorem spot_sh : (∀ c ∈ ("hand" : Str).cps.toList, c < 128) ∧ (∀ c ∈ ("press" : Str).cps.toList, c < 128) := by decide +kernel
theorem shn_spot {hp : Nat × Nat} {s : Spot} (hg : GoodB hp) (h : s ∈ spotsA hp) : ∃ n, Shn (spotD s) n 1 := by
  obtain ⟨h1, h2⟩ := spot_sh
  obtain ⟨g1, g2, g3, g4⟩ := hg
  rcases List.mem_append.mp h with h | h
  · obtain ⟨e1, e2, e3⟩ := spots_mem.mp h
    exact ⟨_, .tup (.cons (.str (by rw [e1]; exact h1)) (.cons (shn_int (by omega) (by omega)) .nil))⟩
  · obtain ⟨e1, e2, e3⟩ := spots_mem.mp h
    exact ⟨_, .tup (.cons (.str (by rw [e1]; exact h2)) (.cons (shn_int (by omega) (by omega)) .nil))⟩
theorem shn_spots {hp : Nat × Nat} (hg : GoodB hp) : ∀ {ss : List Spot}, (∀ s ∈ ss, s ∈ spotsA hp) → ∃ n, ShnAll (ss.map spotD) n 1
  | [], _ => ⟨0, .nil⟩
  | s :: ss, h => by
    obtain ⟨n, hn⟩ := shn_spots hg fun x hx => h x (List.mem_cons_of_mem _ hx)
    obtain ⟨n2, hn2⟩ := shn_spot hg (h s List.mem_cons_self)
    exact ⟨_, .cons hn2 hn⟩
theorem eqv_spot (s : Spot) : PyData.eqv (spotD s) (spotD s) = true := by simp [spotD, PyData.eqv, PyData.eqvAll]
theorem any_spot {ss : List Spot} {s : Spot} (h : s ∈ ss) : ((ss.map spotD).any fun z => PyData.eqv z (spotD s)) = true :=
  List.any_eq_true.mpr ⟨_, List.mem_map_of_mem h, eqv_spot s⟩
def sp_law_is_row (K : PySem.W.Frag) : Sp := fun vs H Q _ => vs.length = 3 ∧ ∃ (row w s : Addr) (sv : List V) (hp : Nat × Nat) (r : RowT) (wt : WantT) (B : Hp) (M L : List (Addr × HO)), vs = [.ref row, .ref w, .ref s] ∧ Is B M L H ∧ RowR B (.ref row) r ∧ WantR B (.ref w) wt ∧ B s = some (.lst sv) ∧ SpotsB B sv (spotsA hp) ∧ GoodB hp ∧ IsKd wt.kd ∧ RW hp r wt ∧ ∀ H', Is B M L H' → Q (.bl true) H'
theorem ap_law_is_row {K : PySem.W.Frag} {H : Hp} {Q : VK} {E : XK} {row w s : Addr} {sv : List V} {hp : Nat × Nat} {r : RowT} {wt : WantT} {B : Hp} {M L : List (Addr × HO)} (I : Is B M L H) (h1 : RowR B (.ref row) r) (h2 : WantR B (.ref w) wt) (h3 : B s = some (.lst sv)) (h4 : SpotsB B sv (spotsA hp)) (h5 : GoodB hp) (h6 : IsKd wt.kd) (h7 : RW hp r wt) (q : ∀ H', Is B M L H' → Q (.bl true) H') :
    sp_law_is_row K [.ref row, .ref w, .ref s] H Q E := ⟨rfl, row, w, s, sv, hp, r, wt, B, M, L, rfl, I, h1, h2, h3, h4, h5, h6, h7, q⟩
abbrev t_law_is_row_0 (K : PySem.W.Frag) : TS := (tRet (tAndV (tCB (rIsi K) (tCons (tOp (rIx K) (tVar 0) (tC (.int 2))) (tCons (tC (.ty "tuple")) tNil))) (tAndV (tOp (rEqA K) (tOp (rIx K) (tOp (rIx K) (tVar 0) (tC (.int 2))) (tC (.int 0))) (tOp (rIx K) (tVar 1) (tC (.int 2)))) (tOp (rEqA K) (tOp (rI0 fun i j => .int (i - j)) (tOp (rIx K) (tVar 0) (tC (.int 4))) (tOp (rIx K) (tVar 0) (tC (.int 3)))) (tOp (rIx K) (tVar 1) (tC (.int 3)))))))
abbrev t_law_is_row_1 (K : PySem.W.Frag) : TS := (tSeq (tIfS (tNot (tTr K (tCB (rAll K) (tCons (tLc (iAny K (tVar 3)) (gName 4) tYes (tAndV (tCB (rIsi K) (tCons (tVar 4) (tCons (tC (.ty "int")) tNil))) (tNotV (tCB (rIsi K) (tCons (tVar 4) (tCons (tC (.ty "bool")) tNil))))) [4]) tNil)))) (tRet (tC (.bl false))) tNext) (t_law_is_row_0 K))
abbrev t_law_is_row_2 (K : PySem.W.Frag) : TS := (tSeq (tAsg (tLst (tCons (tOp (rIx K) (tVar 0) (tC (.int 0))) (tCons (tOp (rIx K) (tVar 0) (tC (.int 1))) (tCons (tOp (rIx K) (tOp (rIx K) (tVar 0) (tC (.int 2))) (tC (.int 1))) (tCons (tOp (rIx K) (tVar 0) (tC (.int 3))) (tCons (tOp (rIx K) (tVar 0) (tC (.int 4))) tNil)))))) (gName 3)) (t_law_is_row_1 K))
def t_law_is_row (K : PySem.W.Frag) : TS := (tSeq (tIfS (tOr (tNot (tTr K (tCB (rIsi K) (tCons (tVar 0) (tCons (tC (.ty "tuple")) tNil))))) (tOr (tTest (tOp (rNeA K) (tCB (rLen K) (tCons (tVar 0) tNil)) (tC (.int 5)))) (tOr (tTest (tOp (rNeA K) (tSl (rSlA K) (tVar 0) tNoPart (tPart (tC (.int 2)))) (tSl (rSlA K) (tVar 1) tNoPart (tPart (tC (.int 2)))))) (tTest (tOp (rNotInD K) (tOp (rIx K) (tVar 0) (tC (.int 2))) (tVar 2)))))) (tRet (tC (.bl false))) tNext) (t_law_is_row_2 K))
theorem rd_law_is_row {K : PySem.W.Frag} (vs : List V) (H : Hp) (Q : VK) (E : XK) (h : sp_law_is_row K vs H Q E) : t_law_is_row K { nx := fun _ H' => Q .non H', rt := Q } (start ["row", "want", "spots", "figures", "one"] vs) H := by
  obtain ⟨_, row, w, s, sv, hp, r, wt, B, M, L, rfl, hI, ⟨_, sp, e1, b1, b2⟩, ⟨_, e2, b3⟩, hs, hss, hg, hkd, hrw, q⟩ := h
  cases e1
  cases e2
  show t_law_is_row K ⟨_, _, _, _⟩ [some (.ref row), some (.ref w), some (.ref s), none, none] H
  obtain ⟨r1, r2, r3, r4⟩ := id hrw
  have hin : r.s ∈ spotsA hp := spots_of_A hkd r3
  have hk1 := (spots_mem.mp r3).1
  obtain ⟨n1, sh1⟩ := shn_spot hg hin
  obtain ⟨n2, sh2⟩ := shn_spots hg fun s hs => hs
  have t1 : Thing K B (.ref row) .tup := thing_tup b1
  have t2 : Thing K B (.ref sp) .tup := thing_tup b2
  unfold t_law_is_row
  tm_at "go"
  refine g_nb (fun h => absurd rfl (of_decide_eq_false h)) (fun _ => ?_)
  tm_at "go"
  refine g_sl_t hI (SqT.of (hI.b b1)) (show ¬ (HT.sIx 5 0 none = 0 ∧ HT.sIx 5 5 (some 2) = 5) by decide) ?_
  clear hI
  intro q1 H hI
  tm_at "go"
  refine g_sl_t hI (SqT.of (hI.b b3)) (show ¬ (HT.sIx 6 0 none = 0 ∧ HT.sIx 6 6 (some 2) = 6) by decide) ?_
  clear hI
  intro q2 H hI
  replace hI : Is B M ((q2, .tup [V.int wt.n, .int wt.k]) :: (q1, .tup [V.int r.n, .int r.k]) :: L) H := hI
  rw [r1, r2] at hI
  refine g_ne_d (d := .tuple [.int wt.n, .int wt.k]) (e := .tuple [.int wt.n, .int wt.k]) (.tup (SqT.of (hI.get (by tm_at "mem"))) (.cons (.int _) (.cons (.int _) .nil))) (.tup (SqT.of (hI.get (by tm_at "mem"))) (.cons (.int _) (.cons (.int _) .nil))) rfl rfl ?_
  rw [show PyData.eqv (.tuple [.int wt.n, .int wt.k]) (.tuple [.int wt.n, .int wt.k]) = true by simp [PyData.eqv, PyData.eqvAll]]
  tm_at "go"
  refine g_ix_t (SqT.of (hI.b b1)) (atI_of (by decide) rfl) ?_
  tm_at "go"
  refine g_notInD (d := spotD r.s) (.tup (SqT.of (hI.b b2)) (.cons (.str _) (.cons (.int _) .nil))) (.lst (SqL.of (hI.b hs)) (dp_spots hI.ex hss)) (Shn.shaped sh1 (by decide)) (Shn.shaped (.lst sh2) (by decide)) ?_
  rw [any_spot hin]
  tm_at "go"
  refine g_ix_t (SqT.of (hI.b b1)) (atI_of (by decide) rfl) ?_
  tm_at "go"
  refine g_ix_t (SqT.of (hI.b b1)) (atI_of (by decide) rfl) ?_
  tm_at "go"
  refine g_ix_t (SqT.of (hI.b b1)) (atI_of (by decide) rfl) ?_
  tm_at "go"
  refine g_ix_t (SqT.of (hI.b b2)) (atI_of (by decide) rfl) ?_
  tm_at "go"
  refine g_ix_t (SqT.of (hI.b b1)) (atI_of (by decide) rfl) ?_
  tm_at "go"
  refine g_ix_t (SqT.of (hI.b b1)) (atI_of (by decide) rfl) ?_
  tm_at "go"
  refine' g_lcX (xs := [V.int r.n, V.int r.k, V.int r.s.snd, V.int r.b, V.int r.e]) ([(), (), (), (), ()].map fun _ => V.bl true) rfl walk_list hI (by tm_at "wiped") (by tm_at "arith") (fun D acc H' I => SqL.of (I.get (by tm_at "mem"))) ?_ ?_
  · intro i x y D acc H' hx hy hI PY hPY
    obtain ⟨z, rfl⟩ : ∃ z, x = V.int z := by
      have hm := List.mem_of_getElem? hx
      simp only [List.mem_cons, List.not_mem_nil, or_false] at hm
      rcases hm with rfl | rfl | rfl | rfl | rfl <;> exact ⟨_, rfl⟩
    have ey : y = .bl true := by
      rw [List.getElem?_map] at hy
      obtain ⟨_, _, h⟩ := Option.map_eq_some_iff.mp hy
      exact h.symm
    rw [ey] at hPY
    have t3 : Thing K B (.int z) .int := thing_int z
    tm_at "go"
    refine' g_wiped (by tm_at "wiped") ?_
    tm_at "go"
    exact hPY _ hI
  clear hI
  intro D H hI
  tm_at "go"
  refine g_all (l := [(), (), (), (), ()]) (P := fun _ => true) (SqL.of (hI.get (by tm_at "mem"))) ?_
  rw [show ([(), (), (), (), ()].all fun _ => true) = true by rfl]
  tm_at "go"
  refine g_ix_t (SqT.of (hI.b b1)) (atI_of (by decide) rfl) ?_
  tm_at "go"
  refine g_ix_t (SqT.of (hI.b b1)) (atI_of (by decide) rfl) ?_
  tm_at "go"
  refine g_ix_t (SqT.of (hI.b b2)) (atI_of (by decide) rfl) ?_
  tm_at "go"
  refine g_ix_t (SqT.of (hI.b b3)) (atI_of (by decide) rfl) ?_
  tm_at "go"
  refine g_dec (fun _ => ?_) (fun h => absurd (congrArg V.str hk1) h)
  tm_at "go"
  refine g_ix_t (SqT.of (hI.b b1)) (atI_of (by decide) rfl) ?_
  tm_at "go"
  refine g_ix_t (SqT.of (hI.b b1)) (atI_of (by decide) rfl) ?_
  tm_at "go"
  refine g_ix_t (SqT.of (hI.b b3)) (atI_of (by decide) rfl) ?_
  tm_at "go"
  rw [decide_eq_true (show V.int (r.e - r.b) = V.int wt.h by rw [r4]; congr 1; omega)]
  exact q H (hI.forget (by tm_at "sub"))
theorem wantS_kd {n c : Int} : ∀ {ss : List (Str × Int × Int)} {k : Nat}, ∀ w ∈ wantS n c k ss, IsKd w.kd
  | [], _, w, h => by cases h
  | s :: ss, k, w, h => by
    rcases List.mem_cons.mp (show w ∈ _ :: wantS n c (k + 1) ss from h) with rfl | h
    · show IsKd (kindS s.1)
      unfold kindS
      split
      · exact .inr rfl
      · exact .inl rfl
    · exact wantS_kd (ss := ss) (k := k + 1) w h
theorem wantsA_kd {js : List JobT} : ∀ w ∈ wantsA js, IsKd w.kd := fun w h => by
  obtain ⟨j, _, h2⟩ := List.mem_flatMap.mp h
  exact wantS_kd w h2
theorem All2.at {α β : Type} {R : α → β → Prop} {xs : List α} {ys : List β} (h : All2 R xs ys) {i : Nat} {x : α} {y : β} (h1 : xs[i]? = some x) (h2 : ys[i]? = some y) : R x y := by
  obtain ⟨z, h3, h4⟩ := h.get h1
  rw [h2] at h3
  cases h3
  exact h4
def sp_law_firm (K : PySem.W.Frag) : Sp := fun vs H Q _ => vs.length = 3 ∧ ∃ (rp pr pl : Addr) (rv xs : List V) (rows : List RowT) (hp : Nat × Nat) (js : List JobT) (B : Hp) (M L : List (Addr × HO)), vs = [.ref rp, .ref pr, .ref pl] ∧ Is B M L H ∧ B rp = some (.lst rv) ∧ RowsR B rv rows ∧ PairB B pr hp ∧ B pl = some (.lst xs) ∧ JobsB B xs js ∧ js.length ≤ 45 ∧
  All2 (RW hp) rows (wantsA (ordJ js)) ∧ All2 (fun (r : RowT) (t : Int) => t ≤ r.b) rows (rdys rows (wantsA (ordJ js)) 0) ∧ ∀ B' H', Same B B' → Is B' M L H' → Q (.bl true) H'
theorem ap_law_firm {K : PySem.W.Frag} {H : Hp} {Q : VK} {E : XK} {rp pr pl : Addr} {rv xs : List V} {rows : List RowT} {hp : Nat × Nat} {js : List JobT} {B : Hp} {M L : List (Addr × HO)} (I : Is B M L H) (h1 : B rp = some (.lst rv)) (h2 : RowsR B rv rows) (h3 : PairB B pr hp) (h4 : B pl = some (.lst xs)) (h5 : JobsB B xs js) (h6 : js.length ≤ 45)
    (h7 : All2 (RW hp) rows (wantsA (ordJ js))) (h8 : All2 (fun (r : RowT) (t : Int) => t ≤ r.b) rows (rdys rows (wantsA (ordJ js)) 0)) (q : ∀ B' H', Same B B' → Is B' M L H' → Q (.bl true) H') : sp_law_firm K [.ref rp, .ref pr, .ref pl] H Q E := ⟨rfl, rp, pr, pl, rv, xs, rows, hp, js, B, M, L, rfl, I, h1, h2, h3, h4, h5, h6, h7, h8, q⟩
abbrev t_law_firm_0 (K : PySem.W.Frag) : TS := (tRet (tCB (rAll K) (tCons (tLc (RZ.iZipA K (tCons (tVar 0) (tCons (tCl 2 0 (sp_law_readies K) (fun vs zs => pick .non [0, 1] (vs ++ zs)) E0 (tCons (tVar 0) (tCons (tVar 3) tNil)) tNil) tNil))) (gTup K 2 (gCons (gName 5) (gCons (gName 7) gNil))) tYes (tOp (rI0 fun i j => .bl (decide (j ≤ i))) (tOp (rIx K) (tVar 5) (tC (.int 3))) (tVar 7)) [5, 7]) tNil)))
abbrev t_law_firm_1 (K : PySem.W.Frag) : TS := (tSeq (tIfS (tNot (tTr K (tCB (rAll K) (tCons (tLc (RZ.iZipA K (tCons (tVar 0) (tCons (tVar 3) tNil))) (gTup K 2 (gCons (gName 5) (gCons (gName 6) gNil))) tYes (tCl 3 0 (sp_law_is_row K) (fun vs zs => pick .non [0, 1, 2] (vs ++ zs)) E0 (tCons (tVar 5) (tCons (tVar 6) (tCons (tVar 4) tNil))) tNil) [5, 6]) tNil)))) (tRet (tC (.bl false))) tNext) (t_law_firm_0 K))
abbrev t_law_firm_2 (K : PySem.W.Frag) : TS := (tSeq (tIfS (tOr (tNot (tTr K (tCB (rIsi K) (tCons (tVar 0) (tCons (tC (.ty "list")) tNil))))) (tTest (tOp (rNeA K) (tCB (rLen K) (tCons (tVar 0) tNil)) (tCB (rLen K) (tCons (tVar 3) tNil))))) (tRet (tC (.bl false))) tNext) (t_law_firm_1 K))
def t_law_firm (K : PySem.W.Frag) : TS := (tSeq (tAsg (tTup (tCons (tCl 1 0 (sp_law_wanted K) (fun vs zs => pick .non [0] (vs ++ zs)) E0 (tCons (tVar 2) tNil) tNil) (tCons (tCl 1 0 (sp_law_spots K) (fun vs zs => pick .non [0] (vs ++ zs)) E0 (tCons (tVar 1) tNil) tNil) tNil))) (gTup K 2 (gCons (gName 3) (gCons (gName 4) gNil)))) (t_law_firm_2 K))
theorem rd_law_firm {K : PySem.W.Frag} (vs : List V) (H : Hp) (Q : VK) (E : XK) (h : sp_law_firm K vs H Q E) : t_law_firm K { nx := fun _ H' => Q .non H', rt := Q } (start ["rows", "pair", "plains", "wanted", "spots", "row", "want", "first"] vs) H := by
  obtain ⟨_, rp, pr, pl, rv, xs, rows, hp, js, B, M, L, rfl, hI, hrp, hrv, hpr, hpl, hj, hl, hrw, hge, q⟩ := h
  show t_law_firm K ⟨_, _, _, _⟩ [some (.ref rp), some (.ref pr), some (.ref pl), none, none, none, none, none] H
  have l1 := hrv.len
  have l2 := hrw.len
  have l3 := wantsA_len (js := ordJ js) fun j h => (hj.of_perm j ((ordJ_perm js).mem_iff.mp h)).t.l1
  have hol := (ordJ_perm js).length_eq
  have t1 : Thing K B (.ref rp) .lst := thing_lst hrp
  unfold t_law_firm
  tm_at "go"
  refine' ap_law_wanted (K := K) hI hpl hj hl ?_
  clear hI
  intro wp wv B2 H s2 hI hwp hwv
  have l4 := hwv.len
  tm_at "go"
  refine' ap_law_spots (K := K) hI (hpr.same s2) ?_
  clear hI
  intro sp sv B3 H s3 hI hsv
  refine' hI.give .here ?_
  clear hI
  intro B4 s4 hsp hI
  have s24 := s2.trans (s3.trans s4)
  replace hwp := (s3.trans s4) _ _ hwp
  replace hwv := hwv.same (s3.trans s4)
  replace hsv := hsv.same s4
  replace hrp := s24 _ _ hrp
  replace hrv := hrv.same s24
  replace t1 : Thing K B4 (.ref rp) .lst := thing_lst hrp
  tm_at "go"
  refine g_nb (fun h => absurd (congrArg (fun n : Nat => V.int (n : Int)) (show rv.length = wv.length by omega)) (of_decide_eq_false h)) (fun _ => ?_)
  replace hI := hI.forget (L' := L) (by tm_at "sub")
  tm_at "go"
  refine' g_lcI (n := rows.length) (rows.map fun _ => V.bl true) (by rw [List.length_map]) (walk_zipLL2 (xs := rv) (ys := wv) (by omega)) hI (by tm_at "wiped") (by omega) (fun D acc H' I => ⟨SqL.of (I.b hrp), SqL.of (I.b hwp)⟩) ?_ ?_
  · intro i x y D acc H' H'' hi hY hy hI PY q
    obtain ⟨TT, x1, x2, rfl, hTT, rfl, e1, e2⟩ := hY
    obtain ⟨r, er, hr⟩ := hrv.get e1
    obtain ⟨w, ew, hw⟩ := hwv.get e2
    have hrw2 := hrw.at er ew
    have hkd := wantsA_kd w (List.mem_of_getElem? ew)
    obtain ⟨a, sp2, rfl, b1, b2⟩ := id hr
    obtain ⟨b, rfl, b3⟩ := id hw
    have ey : y = .bl true := by
      rw [List.getElem?_map, er] at hy
      exact (Option.some.inj hy).symm
    rw [ey] at q
    replace hI := hI.new (o := .tup [V.ref a, .ref b]) hTT
    tm_at "go"
    refine' g_wiped (by tm_at "wiped") ?_
    tm_at "go"
    refine' ap_law_is_row (K := K) hI hr hw hsp hsv (hpr.good) hkd hrw2 ?_
    clear hI
    intro H hI
    exact q H (hI.forget (by tm_at "sub"))
  clear hI
  intro D H hI
  tm_at "go"
  refine g_all (l := rows) (P := fun _ => true) (SqL.of (hI.get (by tm_at "mem"))) ?_
  rw [show (rows.all fun _ => true) = true from List.all_eq_true.mpr fun _ _ => rfl]
  replace hI := hI.forget (L' := L) (by tm_at "sub")
  tm_at "go"
  refine' ap_law_readies (K := K) hI hrp hrv hwp hwv (by omega) (by omega) ?_
  clear hI
  intro rdp H hI
  generalize rdys rows (wantsA (ordJ js)) 0 = ts at *
  have l5 := hge.len
  have l6 : (ts.map V.int).length = ts.length := List.length_map _
  tm_at "go"
  refine' g_lcI (n := rows.length) (rows.map fun _ => V.bl true) (by rw [List.length_map]) (walk_zipLL2 (xs := rv) (ys := ts.map V.int) (by omega)) hI (by tm_at "wiped") (by omega) (fun D acc H' I => ⟨SqL.of (I.b hrp), SqL.of (I.get (by tm_at "mem"))⟩) ?_ ?_
  · intro i x y D acc H' H'' hi hY hy hI PY q
    obtain ⟨TT, x1, x2, rfl, hTT, rfl, e1, e2⟩ := hY
    obtain ⟨r, er, a, sp2, rfl, b1, b2⟩ := hrv.get e1
    obtain ⟨t, et, rfl⟩ : ∃ t, ts[i]? = some t ∧ V.int t = x2 := Option.map_eq_some_iff.mp (by rw [← List.getElem?_map]; exact e2)
    have hle := hge.at er et
    have ey : y = .bl true := by
      rw [List.getElem?_map, er] at hy
      exact (Option.some.inj hy).symm
    rw [ey] at q
    replace hI := hI.new (o := .tup [V.ref a, .int t]) hTT
    tm_at "go"
    refine' g_wiped (by tm_at "wiped") ?_
    tm_at "go"
    refine g_ix_t (SqT.of (hI.b b1)) (atI_of (by decide) rfl) ?_
    tm_at "go"
    rw [decide_eq_true hle]
    exact q _ (hI.forget (by tm_at "sub"))
  clear hI
  intro D H hI
  tm_at "go"
  refine g_all (l := rows) (P := fun _ => true) (SqL.of (hI.get (by tm_at "mem"))) ?_
  rw [show (rows.all fun _ => true) = true from List.all_eq_true.mpr fun _ _ => rfl]
  exact q B4 H s24 (hI.forget (by tm_at "sub"))
theorem ap_law_begun {K : PySem.W.Frag} {B H : Hp} {L : List (Addr × HO)} {Q : VK} {E : XK} {a : Addr} {ns : List Int} (I : Is B [] L H) (h : SqL K B a (ns.map V.int)) (hl : ns.length ≤ 63) (q : ∀ (m : Addr) (B' : Hp) (M' : List (Addr × HO)) (H' : Hp), Same B B' → Is B' M' L H' → Dr m 0 B' M' → Q (.ref m) H') : sp_law_begun K [.ref a] H Q E :=
  ⟨rfl, a, ns, B, L, rfl, I, h, hl, q⟩
structure Due (hp : Nat × Nat) (all : List RowT) (r : RowT) (t : Int) : Prop where
  ap : ApartA all
  be : r.b < r.e
  at_ : r.b = freeFrom (atPl all r.s) (r.e - r.b) t
  sp : ∃ kd, IsKd kd ∧ r.s ∈ spotsOf (cntOf hp kd) kd ∧ ∀ x ∈ spotsOf (cntOf hp kd) kd, r.b + (if x.2 < r.s.2 then 1 else 0) ≤ freeFrom (atPl all x) (r.e - r.b) t
theorem kindS_kd (z : Str) : IsKd (kindS z) := by
  unfold kindS
  split
  · exact .inr rfl
  · exact .inl rfl
theorem All2.of_maps {α β γ : Type} {R : β → γ → Prop} {f : α → β} {g : α → γ} : ∀ {l : List α}, (∀ p ∈ l, R (f p) (g p)) → All2 R (l.map f) (l.map g)
  | [], _ => .nil
  | x :: l, h => .cons (h x List.mem_cons_self) (All2.of_maps fun p hp => h p (List.mem_cons_of_mem _ hp))
def sp_BadValue_init (K : PySem.W.Frag) : Sp := sp_xinit K 1 ["what"] fun ws => [("what", nth .non ws 0)]
def t_BadValue_init (K : PySem.W.Frag) : TS := (tOsg K "what" (tVar 0) (tVar 1))
theorem rd_BadValue_init {K : PySem.W.Frag} (vs : List V) (H : Hp) (Q : VK) (E : XK) (h : sp_BadValue_init K vs H Q E) : t_BadValue_init K { nx := fun _ H' => Q .non H', rt := Q } (start ["self", "what"] vs) H := by
  obtain ⟨hl, a, C, ws, rfl, T, hf, ha, q⟩ := h
  match ws, hl with
  | [x], _ =>
    show t_BadValue_init K ⟨_, _, _, _⟩ [some (.ref a), some x] H
    unfold t_BadValue_init
    exact g_osg1 rfl rfl T (hf _ (by tm_at "mem")) ha q
def sp_NoSuch_init (K : PySem.W.Frag) : Sp := sp_xinit K 2 ["what", "name"] fun ws => [("name", nth .non ws 1), ("what", nth .non ws 0)]
abbrev t_NoSuch_init_0 (K : PySem.W.Frag) : TS := (tOsg K "name" (tVar 0) (tVar 2))
def t_NoSuch_init (K : PySem.W.Frag) : TS := (tSeq (tOsg K "what" (tVar 0) (tVar 1)) (t_NoSuch_init_0 K))
theorem rd_NoSuch_init {K : PySem.W.Frag} (vs : List V) (H : Hp) (Q : VK) (E : XK) (h : sp_NoSuch_init K vs H Q E) : t_NoSuch_init K { nx := fun _ H' => Q .non H', rt := Q } (start ["self", "what", "name"] vs) H := by
  obtain ⟨hl, a, C, ws, rfl, T, hf, ha, q⟩ := h
  match ws, hl with
  | [x, y], _ =>
    show t_NoSuch_init K ⟨_, _, _, _⟩ [some (.ref a), some x, some y] H
    unfold t_NoSuch_init
    refine g_seq ?_
    refine g_osg1 rfl rfl T (hf _ (by tm_at "mem")) ha fun dx hd hne => ?_
    exact g_osg2 rfl rfl T (hf _ (by tm_at "mem")) hne (Nat.le_of_ble_eq_true rfl) (q dx hd hne)
section
variable {K : PySem.W.Frag} {B H : Hp} {M L : List (Addr × HO)} {Q : XK}
/-- raised ones -/
theorem g_bv {gV : List V → List V → List V} {x : V} (C : ErrC K) (I : Is B M L H) (hg : ∀ a, gV [.ref a, x] [] = [.ref a, x]) (q : ∀ d H', Is B M ((d, .xd [(("what" : Str), x)]) :: L) H' → Q (.ref (He.ga K "BadValue")) (some d) H') : aXmk (He.ga K "BadValue") 1 (sp_xinit K 1 ["what"] fun ws => [("what", nth .non ws 0)]) gV [x] H Q :=
  g_aXmk I C.bv.ox C.bv.nf rfl (by decide) hg q
theorem g_ns {gV : List V → List V → List V} {x y : V} (C : ErrC K) (I : Is B M L H) (hg : ∀ a, gV [.ref a, x, y] [] = [.ref a, x, y]) (q : ∀ d H', Is B M ((d, .xd [(("name" : Str), y), ("what", x)]) :: L) H' → Q (.ref (He.ga K "NoSuch")) (some d) H') : aXmk (He.ga K "NoSuch") 2 (sp_xinit K 2 ["what", "name"] fun ws => [("name", nth .non ws 1), ("what", nth .non ws 0)]) gV [x, y] H Q :=
  g_aXmk I C.ns.ox C.ns.nf rfl (by decide) hg q
end
def tTry3 (K : PySem.W.Frag) (c1 c2 c3 : Value) (i : Nat) (tb : WX → TS) (ts : Addr → Value → Option Addr → TS) : TS := fun D σ H => tb (wAs3 K c1 c2 c3 i ts D) D σ H
def tAct (f c' : Addr) (q : Str) (tl : XK → Hp → VK → Prop) : WX → TE := fun W σZ HZ Q => σZ[0]? = some (some (.ref f)) ∧ HZ c' = some (LamX.CodeO c' q) ∧ ∃ E : XK, (∀ cls d H', E cls d H' → W cls d σZ H') ∧ tl E HZ Q
def sp_law_class (K : PySem.W.Frag) : Sp := fun vs H Q _ => vs.length = 1 ∧ ∃ (a dd : Addr) (X : Str) (fs : List (Str × V)) (ws : List V), vs = [.ref a] ∧ ErrT X fs ws ∧ H a = some (exv a (.ref (He.ga K X)) (some dd)) ∧ H dd = some (.xd fs) ∧ ∀ p, H p = none → Q (.ref p) (upd H p (.tup ws))
abbrev t_law_told_0 (K : PySem.W.Frag) (ac : WX → TE) : TS := (tRet (tIf (tTest (tOp rIsNo (tVar 1) (tC .non))) (tVar 2) (tCl 1 0 (sp_law_class K) (fun vs zs => pick .non [0] (vs ++ zs)) E0 (tCons (tVar 1) tNil) tNil)))
abbrev t_law_told_1 (K : PySem.W.Frag) (ac : WX → TE) : TS := (tSeq (tTry3 K (.ref (He.ga K "BadValue")) (.ref (He.ga K "NoSuch")) (.ref (He.ga K "TooMany")) 3 (fun W => (tAsg (tLst (tCons (ac W) tNil)) (gName 2))) (fun _ _ _ => (tAsg (tVar 3) (gName 1)))) (t_law_told_0 K ac))
abbrev t_law_told_2 (K : PySem.W.Frag) (ac : WX → TE) : TS := (tSeq (tAsg (tLst tNil) (gName 2)) (t_law_told_1 K ac))
def t_law_told (K : PySem.W.Frag) (ac : WX → TE) : TS := (tSeq (tAsg (tC .non) (gName 1)) (t_law_told_2 K ac))
abbrev sTold (f p0 : Addr) : St := [some (.ref f), some .non, some (.ref p0), none]
def nTold (K : PySem.W.Frag) (f p0 : Addr) (Q : VK) : VK := fun x H1 => ([x] : List V).length ≤ sizeLine ∧ ∀ p, H1 p = none → gName 2 (.ref p) (sTold f p0) (upd H1 p (.lst [x])) fun σ' H' => t_law_told_0 K (fun _ => tC .non) { nx := fun _ H' => Q .non H', rt := Q } σ' H'
def eTold (K : PySem.W.Frag) (f p0 : Addr) (Q : VK) : XK := fun cls d H' => wAs3 K (.ref (He.ga K "BadValue")) (.ref (He.ga K "NoSuch")) (.ref (He.ga K "TooMany")) 3 (fun _ _ _ => tAsg (tVar 3) (gName 1)) { nx := fun σ' H' => t_law_told_0 K (fun _ => tC .non) { nx := fun _ H' => Q .non H', rt := Q } σ' H', rt := Q } cls d (sTold f p0) H'
def TTold (K : PySem.W.Frag) : (XK → Hp → VK → Prop) → Hp → VK → Prop := fun tl H Q => ∀ f p0, H p0 = none → tl (eTold K f p0 Q) (upd H p0 (.lst [])) (nTold K f p0 Q)
theorem rd_law_told {K : PySem.W.Frag} {f c' : Addr} {q : Str} {tl : XK → Hp → VK → Prop} {H : Hp} {Q : VK} (hc : H c' = some (LamX.CodeO c' q)) (h : TTold K tl H Q) :
    t_law_told K (tAct f c' q tl) { nx := fun _ H' => Q .non H', rt := Q } (L2.start ["deed", "error", "found", "e"] [.ref f]) H := by
  show t_law_told K (tAct f c' q tl) ⟨_, _, _, _⟩ [some (.ref f), none, none, none] H
  unfold t_law_told
  refine ⟨by decide, fun p0 hp0 => ?_⟩
  have nc : c' ≠ p0 := fun z => by
    rw [z, hp0] at hc
    cases hc
  exact ⟨rfl, by rw [upd_ne nc]; exact hc, eTold K f p0 Q, fun _ _ _ h => h, h f p0 hp0⟩
theorem told_err {K : PySem.W.Frag} (C : ErrC K) {f p0 dd : Addr} {X : Str} {fs : List (Str × V)} {ws : List V} (hX : ErrT X fs ws) {B H : Hp} {M L : List (Addr × HO)} {Q : VK} (I : Is B M ((dd, .xd fs) :: L) H)
    (q : ∀ p H', Is B M ((p, .tup ws) :: L) H' → Q (.ref p) H') : eTold K f p0 Q (.ref (He.ga K X)) (some dd) H := by
  refine ⟨hX.mm C, fun a na => ?_⟩
  have hI := I.new (o := exv a (.ref (He.ga K X)) (some dd)) na
  show tAsg (tVar 3) (gName 1) ⟨_, _, _, _⟩ [some (.ref f), some .non, some (.ref p0), some (.ref a)] _
  tm_at "go"
  refine g_dec (fun h => by cases h) (fun _ => ?_)
  show tCl 1 0 (sp_law_class K) (fun vs zs => pick .non [0] (vs ++ zs)) E0 (tCons (tVar 1) tNil) tNil [some (.ref f), some (.ref a), some (.ref p0), none] _ Q
  tm_at "go"
  exact ⟨rfl, a, dd, X, fs, ws, rfl, hX, upd_same, hI.get (by tm_at "mem"), fun p hp => q p _ ((hI.new hp).forget (by tm_at "sub"))⟩
abbrev t_law_class_0 (K : PySem.W.Frag) : TS := (tRet (tIf (tTr K (tCB (rIsX K) (tCons (tVar 0) (tCons (tC (.ty "OverflowError")) tNil)))) (tTup (tCons (tC (.str "many")) (tCons (tXv K "most" (tVar 0)) tNil))) (tTup (tCons (tC (.str "else")) tNil))))
abbrev t_law_class_1 (K : PySem.W.Frag) : TS := (tSeq (tIfS (tTr K (tCB (rIsX K) (tCons (tVar 0) (tCons (tC (.ref (He.ga K "NoSuch"))) tNil)))) (tRet (tIf (tTr K (tCB (rIsX K) (tCons (tVar 0) (tCons (tC (.ty "KeyError")) tNil)))) (tTup (tCons (tC (.str "no")) (tCons (tXv K "what" (tVar 0)) (tCons (tXv K "name" (tVar 0)) tNil)))) (tTup (tCons (tC (.str "else")) tNil)))) tNext) (t_law_class_0 K))
abbrev t_law_class_2 (K : PySem.W.Frag) : TS := (tSeq (tIfS (tTr K (tCB (rIsX K) (tCons (tVar 0) (tCons (tC (.ref (He.ga K "BadValue"))) tNil)))) (tRet (tIf (tTr K (tCB (rIsX K) (tCons (tVar 0) (tCons (tC (.ty "ValueError")) tNil)))) (tTup (tCons (tC (.str "value")) (tCons (tXv K "what" (tVar 0)) tNil))) (tTup (tCons (tC (.str "else")) tNil)))) tNext) (t_law_class_1 K))
def t_law_class (K : PySem.W.Frag) : TS := (tSeq (tIfS (tTr K (tCB (rIsX K) (tCons (tVar 0) (tCons (tC (.ref (He.ga K "BadText"))) tNil)))) (tRet (tIf (tAnd (tTr K (tCB (rIsX K) (tCons (tVar 0) (tCons (tC (.ref (He.ga K "BadValue"))) tNil)))) (tTest (tOp (rEqA K) (tXv K "what" (tVar 0)) (tC (.str "text"))))) (tTup (tCons (tC (.str "text")) (tCons (tXv K "row" (tVar 0)) (tCons (tXv K "word" (tVar 0)) tNil)))) (tTup (tCons (tC (.str "else")) tNil)))) tNext) (t_law_class_2 K))
theorem rd_law_class {K : PySem.W.Frag} (C : ErrC K) (vs : List V) (H : Hp) (Q : VK) (E : XK) (h : sp_law_class K vs H Q E) : t_law_class K { nx := fun _ H' => Q .non H', rt := Q } (start ["error"] vs) H := by
  obtain ⟨_, a, dd, X, fs, ws, rfl, hX, ha, hd, q⟩ := h
  show t_law_class K ⟨_, _, _, _⟩ [some (.ref a)] H
  have ex := hX.ex C
  unfold t_law_class
  cases hX with
  | val x =>
    tm_at "go"
    refine g_isE ha hd ex (.own _) (C.kit.kv.o ("BadText", _) (by tm_at "mem")) ?_
    tm_at "go"
    refine g_isE ha hd ex (.own _) (C.kit.kv.o ("BadValue", _) (by tm_at "mem")) ?_
    tm_at "go"
    refine g_isE ha hd ex (.ty _) (C.kit.kv.t ("ValueError", _) (by tm_at "mem")) ?_
    tm_at "go"
    refine g_xv ?_
    tm_at "go"
    refine g_aXv ha hd ex (C.bv.nf _ (by tm_at "mem")) (by tm_at "fget") ?_
    tm_at "go"
    exact ⟨by rw [sizeLine_eq]; simp, fun p hp => q p hp⟩
  | text r w =>
    tm_at "go"
    refine g_isE ha hd ex (.own _) (C.kit.kt.o ("BadText", _) (by tm_at "mem")) ?_
    tm_at "go"
    refine g_isE ha hd ex (.own _) (C.kit.kt.o ("BadValue", _) (by tm_at "mem")) ?_
    tm_at "go"
    refine g_xv ?_
    tm_at "go"
    refine g_aXv ha hd ex (C.bt.nf _ (by tm_at "mem")) (by tm_at "fget") ?_
    tm_at "go"
    refine g_dec (fun _ => ?_) (fun h => absurd rfl h)
    tm_at "go"
    refine g_xv ?_
    tm_at "go"
    refine g_aXv ha hd ex (C.bt.nf _ (by tm_at "mem")) (by tm_at "fget") ?_
    tm_at "go"
    refine g_xv ?_
    tm_at "go"
    refine g_aXv ha hd ex (C.bt.nf _ (by tm_at "mem")) (by tm_at "fget") ?_
    tm_at "go"
    exact ⟨by rw [sizeLine_eq]; simp, fun p hp => q p hp⟩
  | no x y =>
    tm_at "go"
    refine g_isE ha hd ex (.own _) (C.kit.kn.o ("BadText", _) (by tm_at "mem")) ?_
    tm_at "go"
    refine g_isE ha hd ex (.own _) (C.kit.kn.o ("BadValue", _) (by tm_at "mem")) ?_
    tm_at "go"
    refine g_isE ha hd ex (.own _) (C.kit.kn.o ("NoSuch", _) (by tm_at "mem")) ?_
    tm_at "go"
    refine g_isE ha hd ex (.ty _) (C.kit.kn.t ("KeyError", _) (by tm_at "mem")) ?_
    tm_at "go"
    refine g_xv ?_
    tm_at "go"
    refine g_aXv ha hd ex (C.ns.nf _ (by tm_at "mem")) (by tm_at "fget") ?_
    tm_at "go"
    refine g_xv ?_
    tm_at "go"
    refine g_aXv ha hd ex (C.ns.nf _ (by tm_at "mem")) (by tm_at "fget") ?_
    tm_at "go"
    exact ⟨by rw [sizeLine_eq]; simp, fun p hp => q p hp⟩
  | many x =>
    tm_at "go"
    refine g_isE ha hd ex (.own _) (C.kit.km.o ("BadText", _) (by tm_at "mem")) ?_
    tm_at "go"
    refine g_isE ha hd ex (.own _) (C.kit.km.o ("BadValue", _) (by tm_at "mem")) ?_
    tm_at "go"
    refine g_isE ha hd ex (.own _) (C.kit.km.o ("NoSuch", _) (by tm_at "mem")) ?_
    tm_at "go"
    refine g_isE ha hd ex (.ty _) (C.kit.km.t ("OverflowError", _) (by tm_at "mem")) ?_
    tm_at "go"
    refine g_xv ?_
    tm_at "go"
    refine g_aXv ha hd ex (C.tm.nf _ (by tm_at "mem")) (by tm_at "fget") ?_
    tm_at "go"
    exact ⟨by rw [sizeLine_eq]; simp, fun p hp => q p hp⟩
theorem thing_own {K : PySem.W.Frag} {H : Hp} {C a dx : Addr} {fs : List (Str × V)} (D : OwnD K C) (c : Cls K C) (h : H a = some (.ins C dx fs)) : Thing K H (.ref a) .obj := ⟨⟨_, .base (D.ty c h), fun T hT => D.k2 T hT⟩, by first | trivial | exact .inr (.inr (.inr rfl)) | simp [Kn.fits]⟩
inductive NoPl (K : PySem.W.Frag) (B : Hp) (hp : Nat × Nat) : V → Prop
  | other {x : V} {k : Kn} : Thing K B x k → k ≠ .tup → NoPl K B hp x
  | len {a : Addr} {xs : List V} : B a = some (.tup xs) → xs.length ≠ 2 → xs.length ≤ 100 → NoPl K B hp (.ref a)
  | first {a : Addr} {u v : V} {k : Kn} : B a = some (.tup [u, v]) → Thing K B u k → k ≠ .str → NoPl K B hp (.ref a)
  | second {a : Addr} {z : Str} {v : V} {k : Kn} : B a = some (.tup [.str z, v]) → plainS z → Thing K B v k → isWhole v 1 9 = false → NoPl K B hp (.ref a)
  | out {a : Addr} {z : Str} {n : Int} : B a = some (.tup [.str z, .int n]) → plainS z → (z, n) ∉ spotsA hp → NoPl K B hp (.ref a)
theorem NoPl.same {K : PySem.W.Frag} {B B' : Hp} {hp : Nat × Nat} {x : V} (h : NoPl K B hp x) (s : Same B B') : NoPl K B' hp x := by
  cases h with
  | other h n => exact .other (Thing.same s h) n
  | len h n m => exact .len (s _ _ h) n m
  | first h u n => exact .first (s _ _ h) (Thing.same s u) n
  | second h z v n => exact .second (s _ _ h) z (Thing.same s v) n
  | out h z n => exact .out (s _ _ h) z n
def IsPl (B : Hp) (hp : Nat × Nat) (x : V) (s : Spot) : Prop := SpotR B x s ∧ s ∈ spotsA hp
theorem IsPl.same {B B' : Hp} {hp : Nat × Nat} {x : V} {s : Spot} (h : IsPl B hp x s) (e : Same B B') : IsPl B' hp x s := ⟨h.1.same e, h.2⟩
theorem valV_noneT {f : Spot → V} : ∀ {ss : List Spot} {s : Spot}, s ∉ ss → valV (ss.map fun s => (keyT s, f s)) (keyT s) = none
  | [], _, _ => rfl
  | z :: ss, s, h => by
    rw [List.map_cons, valV_neg (fun e => h (by rw [keyT_inj e]; exact List.mem_cons_self))]
    exact valV_noneT fun z => h (List.mem_cons_of_mem _ z)
theorem PlsB.none {B : Hp} {pv : List (List Key × V)} {hp : Nat × Nat} {all : List RowT} {s : Spot} (h : PlsB B pv hp all) (hs : s ∉ spotsA hp) : valV pv (keyT s) = none := by
  obtain ⟨ad, rfl, _⟩ := h.ex
  exact valV_noneT hs
theorem spots_n {hp : Nat × Nat} (g : GoodB hp) {s : Spot} (h : s ∈ spotsA hp) : 1 ≤ s.2 ∧ s.2 ≤ 9 ∧ plainS s.1 ∧ (s.1 = "hand" ∨ s.1 = "press") := by
  obtain ⟨a, b, c, d⟩ := g
  rcases List.mem_append.mp h with h | h
  · obtain ⟨h1, h2, h3⟩ := spots_mem.mp h
    rw [h1]
    exact ⟨h2, by omega, (Sh.lit (n := 8) (by decide +kernel)).plain (by decide), .inl rfl⟩
  · obtain ⟨h1, h2, h3⟩ := spots_mem.mp h
    rw [h1]
    exact ⟨h2, by omega, (Sh.lit (n := 8) (by decide +kernel)).plain (by decide), .inr rfl⟩
theorem ap_is_whole {K : PySem.W.Frag} {H : Hp} {Q : VK} {E : XK} {x : V} {k : Kn} {lo hi : Int} (h : Thing K H x k) (q : Q (.bl (isWhole x lo hi)) H) : sp_is_whole K [x, .int lo, .int hi] H Q E := ⟨rfl, x, k, lo, hi, rfl, h, q⟩
def RefNo (K : PySem.W.Frag) (v : V) (B : Hp) (M L : List (Addr × HO)) (E : XK) : Prop := ∀ d H', Is B M ((d, .xd [(("name" : Str), v), ("what", .str "place")]) :: L) H' → E (.ref (He.ga K "NoSuch")) (some d) H'
def RefVal (K : PySem.W.Frag) (w : Str) (B : Hp) (M L : List (Addr × HO)) (E : XK) : Prop := ∀ d H', Is B M ((d, .xd [(("what" : Str), .str w)]) :: L) H' → E (.ref (He.ga K "BadValue")) (some d) H'
def sp_Plan_rows_at (K : PySem.W.Frag) : Sp := fun vs H Q E => vs.length = 2 ∧ ∃ (x : Addr) (v : V) (hp : Nat × Nat) (js : List JobT) (B : Hp) (M L : List (Addr × HO)), vs = [.ref x, v] ∧ Is B M L H ∧ PlanAt K B x hp js ∧
  ((NoPl K B hp v ∧ RefNo K v B M L E) ∨ ∃ s, IsPl B hp v s ∧ ∀ l xs H', Is B M L H' → B l = some (.lst xs) → RowsR B xs (atPl (rowsP hp js) s) → Q (.ref l) H')
theorem ap_rows_at {K : PySem.W.Frag} {H : Hp} {Q : VK} {E : XK} {x : Addr} {v : V} {hp : Nat × Nat} {js : List JobT} {s : Spot} {B : Hp} {M L : List (Addr × HO)} (I : Is B M L H) (h : PlanAt K B x hp js) (hs : IsPl B hp v s) (q : ∀ l xs H', Is B M L H' → B l = some (.lst xs) → RowsR B xs (atPl (rowsP hp js) s) → Q (.ref l) H') : sp_Plan_rows_at K [.ref x, v] H Q E := ⟨rfl, x, v, hp, js, B, M, L, rfl, I, h, .inr ⟨s, hs, q⟩⟩
theorem ap_rows_no {K : PySem.W.Frag} {H : Hp} {Q : VK} {E : XK} {x : Addr} {v : V} {hp : Nat × Nat} {js : List JobT} {B : Hp} {M L : List (Addr × HO)} (I : Is B M L H) (h : PlanAt K B x hp js) (hs : NoPl K B hp v) (q : RefNo K v B M L E) : sp_Plan_rows_at K [.ref x, v] H Q E := ⟨rfl, x, v, hp, js, B, M, L, rfl, I, h, .inl ⟨hs, q⟩⟩
abbrev t_Plan_rows_at_0 (K : PySem.W.Frag) (E : XK) : TS := (tRet (tDGet (tFld K (tVar 0) "by_place") (tVar 1)))
abbrev t_Plan_rows_at_1 (K : PySem.W.Frag) (E : XK) : TS := (tSeq (tIfS (tOr (tNot (tTr K (tCl 2 1 (sp_is_whole K) (fun vs zs => pick .non [0, 1, 2] (vs ++ (zs ++ [.int 1000000]))) E0 (tCons (tOp (rIx K) (tVar 1) (tC (.int 1))) (tCons (tC (.int 1)) tNil)) (tCons (tC (.int 9)) tNil)))) (tB (tDNotIn (tVar 1) (tFld K (tVar 0) "by_place")))) (tRaise (fun cls d _ H' => E cls d H') (tXMk (He.ga K "NoSuch") 2 (sp_NoSuch_init K) (fun vs zs => pick .non [0, 1, 2] (vs ++ zs)) (tCons (tC (.str "place")) (tCons (tVar 1) tNil)))) tNext) (t_Plan_rows_at_0 K E))
def t_Plan_rows_at (K : PySem.W.Frag) (E : XK) : TS := (tSeq (tIfS (tOr (tNot (tTr K (tCB (rIsi K) (tCons (tVar 1) (tCons (tC (.ty "tuple")) tNil))))) (tOr (tTest (tOp (rNeA K) (tCB (rLen K) (tCons (tVar 1) tNil)) (tC (.int 2)))) (tNot (tTr K (tCB (rIsi K) (tCons (tOp (rIx K) (tVar 1) (tC (.int 0))) (tCons (tC (.ty "str")) tNil))))))) (tRaise (fun cls d _ H' => E cls d H') (tXMk (He.ga K "NoSuch") 2 (sp_NoSuch_init K) (fun vs zs => pick .non [0, 1, 2] (vs ++ zs)) (tCons (tC (.str "place")) (tCons (tVar 1) tNil)))) tNext) (t_Plan_rows_at_1 K E))
theorem rd_Plan_rows_at {K : PySem.W.Frag} (C : PlanC K) (C2 : ErrC K) (vs : List V) (H : Hp) (Q : VK) (E : XK) (h : sp_Plan_rows_at K vs H Q E) : t_Plan_rows_at K E { nx := fun _ H' => Q .non H', rt := Q } (start ["self", "place"] vs) H := by
  obtain ⟨_, x, v, hp, js, B, M, L, rfl, hI, hP, hv⟩ := h
  show t_Plan_rows_at K E ⟨_, _, _, _⟩ [some (.ref x), some v] H
  obtain ⟨cl, n1, n2, n3, n4, n5⟩ := C
  obtain ⟨⟨dx, bch, aj, bn, bp, ar, jv, rv, nv, pv, p1, p2, p3, p4, p5, p6, p7, p8, p9, p10⟩, gb, gj, nd, pl⟩ := id hP
  unfold t_Plan_rows_at
  rcases hv with ⟨hv, q⟩ | ⟨s, ⟨⟨a, rfl, ha⟩, hs⟩, q⟩
  · cases hv with
    | other hv hk =>
      cases hk' : (‹Kn› : Kn) with
      | tup => exact absurd hk' hk
      | _ =>
        rw [hk'] at hv
        tm_at "go"
        refine g_raise ?_
        refine g_xmk ?_
        tm_at "go"
        refine g_ns C2 hI (fun _ => rfl) fun d H' hI => ?_
        exact q d H' hI
    | len ha hl hm =>
      have ht := thing_tup (K := K) ha
      tm_at "go"
      refine g_ndec (fun _ => ?_) (fun h => absurd (by have := V.int.inj h; omega) hl)
      tm_at "go"
      refine g_raise ?_
      refine g_xmk ?_
      tm_at "go"
      refine g_ns C2 hI (fun _ => rfl) fun d H' hI => ?_
      exact q d H' hI
    | first ha hu hk =>
      have ht := thing_tup (K := K) ha
      tm_at "go"
      refine g_ndec (fun h => absurd rfl h) (fun _ => ?_)
      tm_at "go"
      refine g_ix_t (SqT.of (hI.b ha)) (atI_of (by decide) rfl) ?_
      cases hk' : (‹Kn› : Kn) with
      | str => exact absurd hk' hk
      | _ =>
        rw [hk'] at hu
        tm_at "go"
        refine g_raise ?_
        refine g_xmk ?_
        tm_at "go"
        refine g_ns C2 hI (fun _ => rfl) fun d H' hI => ?_
        exact q d H' hI
    | second ha hz hu hw =>
      have ht := thing_tup (K := K) ha
      have hzt := thing_str (K := K) (H := B) hz
      tm_at "go"
      refine g_ndec (fun h => absurd rfl h) (fun _ => ?_)
      tm_at "go"
      refine g_ix_t (SqT.of (hI.b ha)) (atI_of (by decide) rfl) ?_
      tm_at "go"
      refine g_ix_t (SqT.of (hI.b ha)) (atI_of (by decide) rfl) ?_
      tm_at "go"
      refine' ap_is_whole (K := K) (Thing.same hI.ex hu) ?_
      rw [hw]
      tm_at "go"
      refine g_raise ?_
      refine g_xmk ?_
      tm_at "go"
      refine g_ns C2 hI (fun _ => rfl) fun d H' hI => ?_
      exact q d H' hI
    | @out a z n ha hz hs =>
      have ht := thing_tup (K := K) ha
      have hzt := thing_str (K := K) (H := B) hz
      tm_at "go"
      refine g_ndec (fun h => absurd rfl h) (fun _ => ?_)
      tm_at "go"
      refine g_ix_t (SqT.of (hI.b ha)) (atI_of (by decide) rfl) ?_
      tm_at "go"
      refine g_ix_t (SqT.of (hI.b ha)) (atI_of (by decide) rfl) ?_
      tm_at "go"
      refine' ap_is_whole (K := K) (thing_int _) ?_
      cases hw : isWhole (.int n) 1 9 with
      | false =>
        tm_at "go"
        refine g_raise ?_
        refine g_xmk ?_
        tm_at "go"
        refine g_ns C2 hI (fun _ => rfl) fun d H' hI => ?_
        exact q d H' hI
      | true =>
        tm_at "go"
        refine g_tB ?_
        refine g_dNotInI ?_
        tm_at "go"
        refine ⟨bp, none, rfl, ?_, ?_⟩
        · rw [← p8.none hs]
          exact DGet.t (hI.b p7) (hI.b ha)
        refine g_bl ?_
        refine g_true ?_
        tm_at "go"
        refine g_raise ?_
        refine g_xmk ?_
        tm_at "go"
        refine g_ns C2 hI (fun _ => rfl) fun d H' hI => ?_
        exact q d H' hI
  · obtain ⟨h1, h2, h3, h4⟩ := spots_n gb hs
    obtain ⟨l, xs, e1, e2, e3⟩ := p8.get hs
    have ht := thing_tup (K := K) ha
    have hzt := thing_str (K := K) (H := B) h3
    tm_at "go"
    refine g_ndec (fun h => absurd rfl h) (fun _ => ?_)
    tm_at "go"
    refine g_ix_t (SqT.of (hI.b ha)) (atI_of (by decide) rfl) ?_
    tm_at "go"
    refine g_ix_t (SqT.of (hI.b ha)) (atI_of (by decide) rfl) ?_
    tm_at "go"
    refine' ap_is_whole_t (K := K) h1 h2 ?_
    tm_at "go"
    refine g_tB ?_
    refine g_dNotInI ?_
    tm_at "go"
    refine ⟨bp, some (.ref l), rfl, ?_, ?_⟩
    · rw [← e1]
      exact DGet.t (hI.b p7) (hI.b ha)
    refine g_bl ?_
    refine g_false ?_
    tm_at "go"
    refine g_aDGetT (k := keyT s) (hI.b p7) (hI.b ha) e1 ?_
    exact q l xs H hI e2 e3
def sp_Plan_next_free (K : PySem.W.Frag) : Sp := fun vs H Q E => vs.length = 4 ∧ ∃ (x : Addr) (v h t : V) (hp : Nat × Nat) (js : List JobT) (B : Hp) (M L : List (Addr × HO)), vs = [.ref x, v, h, t] ∧ Is B M L H ∧ PlanAt K B x hp js ∧
  ((NoPl K B hp v ∧ RefNo K v B M L E) ∨ ∃ s, IsPl B hp v s ∧ (((∃ k, Thing K B h k) ∧ isWhole h 1 1000000 = false ∧ RefVal K "hours" B M L E) ∨
    ∃ hn, h = .int hn ∧ 1 ≤ hn ∧ hn ≤ 1000000 ∧ (((∃ k, Thing K B t k) ∧ isWhole t 0 1000000 = false ∧ RefVal K "since" B M L E) ∨
      ∃ tn, t = .int tn ∧ 0 ≤ tn ∧ tn ≤ 1000000 ∧ ∀ H', Is B M L H' → Q (.int (freeFrom (atPl (rowsP hp js) s) hn tn)) H')))
abbrev t_Plan_next_free_0 (K : PySem.W.Frag) (E : XK) : TS := (tRet (tCl 3 0 (sp_free_from K) (fun vs zs => pick .non [0, 1, 2] (vs ++ zs)) E0 (tCons (tVar 4) (tCons (tVar 2) (tCons (tVar 3) tNil))) tNil))
abbrev t_Plan_next_free_1 (K : PySem.W.Frag) (E : XK) : TS := (tSeq (tIfS (tNot (tTr K (tCl 2 1 (sp_is_whole K) (fun vs zs => pick .non [0, 1, 2] (vs ++ (zs ++ [.int 1000000]))) E0 (tCons (tVar 3) (tCons (tC (.int 0)) tNil)) (tCons (tC (.int 1000000)) tNil)))) (tRaise (fun cls d _ H' => E cls d H') (tXMk (He.ga K "BadValue") 1 (sp_BadValue_init K) (fun vs zs => pick .non [0, 1] (vs ++ zs)) (tCons (tC (.str "since")) tNil))) tNext) (t_Plan_next_free_0 K E))
abbrev t_Plan_next_free_2 (K : PySem.W.Frag) (E : XK) : TS := (tSeq (tIfS (tNot (tTr K (tCl 2 1 (sp_is_whole K) (fun vs zs => pick .non [0, 1, 2] (vs ++ (zs ++ [.int 1000000]))) E0 (tCons (tVar 2) (tCons (tC (.int 1)) tNil)) (tCons (tC (.int 1000000)) tNil)))) (tRaise (fun cls d _ H' => E cls d H') (tXMk (He.ga K "BadValue") 1 (sp_BadValue_init K) (fun vs zs => pick .non [0, 1] (vs ++ zs)) (tCons (tC (.str "hours")) tNil))) tNext) (t_Plan_next_free_1 K E))
def t_Plan_next_free (K : PySem.W.Frag) (E : XK) : TS := (tSeq (tAsg (tMe (He.ga K "Plan") "rows_at" 1 0 (sp_Plan_rows_at K) (fun vs zs => pick .non [0, 1] (vs ++ zs)) E (tVar 0) (tCons (tVar 1) tNil) tNil) (gName 4)) (t_Plan_next_free_2 K E))
theorem rd_Plan_next_free {K : PySem.W.Frag} (C : PlanC K) (C2 : ErrC K) (vs : List V) (H : Hp) (Q : VK) (E : XK) (h : sp_Plan_next_free K vs H Q E) : t_Plan_next_free K E { nx := fun _ H' => Q .non H', rt := Q } (start ["self", "place", "hours", "since", "rows"] vs) H := by
  obtain ⟨_, x, v, h, t, hp, js, B, M, L, rfl, hI, hP, hv⟩ := h
  show t_Plan_next_free K E ⟨_, _, _, _⟩ [some (.ref x), some v, some h, some t, none] H
  obtain ⟨cl, n1, n2, n3, n4, n5⟩ := C
  obtain ⟨⟨dx, bch, aj, bn, bp, ar, jv, rv, nv, pv, p1, p2, p3, p4, p5, p6, p7, p8, p9, p10⟩, gb, gj, nd, pl⟩ := id hP
  unfold t_Plan_next_free
  rcases hv with ⟨hv, q⟩ | ⟨s, hs, hv⟩
  · tm_at "go"
    exact ap_rows_no (K := K) hI hP hv q
  tm_at "go"
  refine' ap_rows_at (K := K) hI hP hs ?_
  clear hI
  intro l xs H hI hl hr
  rcases hv with ⟨⟨k, hk⟩, hw, q⟩ | ⟨hn, rfl, hn0, hn1, hv⟩
  · tm_at "go"
    refine' ap_is_whole (K := K) (Thing.same hI.ex hk) ?_
    rw [hw]
    tm_at "go"
    refine g_raise ?_
    refine g_xmk ?_
    tm_at "go"
    refine g_bv C2 hI (fun _ => rfl) fun d H' hI => ?_
    exact q d H' hI
  rcases hv with ⟨⟨k, hk⟩, hw, q⟩ | ⟨tn, rfl, hn2, hn3, q⟩
  · tm_at "go"
    refine' ap_is_whole_t (K := K) hn0 hn1 ?_
    tm_at "go"
    refine' ap_is_whole (K := K) (Thing.same hI.ex hk) ?_
    rw [hw]
    tm_at "go"
    refine g_raise ?_
    refine g_xmk ?_
    tm_at "go"
    refine g_bv C2 hI (fun _ => rfl) fun d H' hI => ?_
    exact q d H' hI
  · tm_at "go"
    refine' ap_is_whole_t (K := K) hn0 hn1 ?_
    tm_at "go"
    refine' ap_is_whole_t (K := K) hn2 hn3 ?_
    tm_at "go"
    refine' ap_free_from (K := K) hI hl hr ?_
    intro H hI
    exact q H hI
def durS (rs : List RowT) : Int := (rs.map fun r => r.e - r.b).sum
def sp_Plan_busy (K : PySem.W.Frag) : Sp := fun vs H Q E => vs.length = 2 ∧ ∃ (x : Addr) (v : V) (hp : Nat × Nat) (js : List JobT) (B : Hp) (M L : List (Addr × HO)), vs = [.ref x, v] ∧ Is B M L H ∧ PlanAt K B x hp js ∧
  ((NoPl K B hp v ∧ RefNo K v B M L E) ∨ ∃ s, IsPl B hp v s ∧ ∀ H', Is B M L H' → Q (.int (durS (atPl (rowsP hp js) s))) H')
def t_Plan_busy (K : PySem.W.Frag) (E : XK) : TS := (tRet (tCB (rSum K) (tCons (tLc (iAny K (tMe (He.ga K "Plan") "rows_at" 1 0 (sp_Plan_rows_at K) (fun vs zs => pick .non [0, 1] (vs ++ zs)) E (tVar 0) (tCons (tVar 1) tNil) tNil)) (gName 2) tYes (tOp (rI0 fun i j => .int (i - j)) (tOp (rIx K) (tVar 2) (tC (.int 4))) (tOp (rIx K) (tVar 2) (tC (.int 3)))) [2]) tNil)))
theorem rd_Plan_busy {K : PySem.W.Frag} (C : PlanC K) (C2 : ErrC K) (vs : List V) (H : Hp) (Q : VK) (E : XK) (h : sp_Plan_busy K vs H Q E) : t_Plan_busy K E { nx := fun _ H' => Q .non H', rt := Q } (start ["self", "place", "row"] vs) H := by
  obtain ⟨_, x, v, hp, js, B, M, L, rfl, hI, hP, hv⟩ := h
  show t_Plan_busy K E ⟨_, _, _, _⟩ [some (.ref x), some v, none] H
  obtain ⟨cl, n1, n2, n3, n4, n5⟩ := C
  obtain ⟨⟨dx, bch, aj, bn, bp, ar, jv, rv, nv, pv, p1, p2, p3, p4, p5, p6, p7, p8, p9, p10⟩, gb, gj, nd, pl⟩ := id hP
  unfold t_Plan_busy
  rcases hv with ⟨hv, q⟩ | ⟨s, hs, q⟩
  · tm_at "go"
    exact ap_rows_no (K := K) hI hP hv q
  tm_at "go"
  refine' ap_rows_at (K := K) hI hP hs ?_
  clear hI
  intro l xs H hI hl hr
  have hrl := hr.len
  have hall := layJs_len (hp := hp) (js := js) (all := []) fun z hz => (gj z hz).t.l1
  have hpl := (atPl_perm s (all := rowsP hp js)).length_eq
  have hfl := List.length_filter_le (fun r : RowT => decide (r.s = s)) (rowsP hp js)
  have hxl : xs.length ≤ 1000 := by
    have h0 : (rowsP hp js).length ≤ 12 * js.length + 0 := by
      have := hall
      simpa using this
    omega
  tm_at "go"
  refine' g_lcX (xs := xs) ((atPl (rowsP hp js) s).map fun r => V.int (r.e - r.b)) (by rw [List.length_map]; exact hrl.symm) walk_list hI (by tm_at "wiped") (by omega) (fun D acc H' I => SqL.of (I.b hl)) ?_ ?_
  · clear hI
    intro i y z D acc H' hx hy hI PY hPY
    obtain ⟨r, er, a, sp, rfl, b1, b2⟩ := hr.get hx
    tm_at "go"
    refine' g_wiped (by tm_at "wiped") ?_
    tm_at "go"
    refine g_ix_t (SqT.of (hI.b b1)) (atI_of (by decide) rfl) ?_
    tm_at "go"
    refine g_ix_t (SqT.of (hI.b b1)) (atI_of (by decide) rfl) ?_
    tm_at "go"
    rw [List.getElem?_map, er] at hy
    cases hy
    exact hPY _ hI
  clear hI
  intro D H hI
  tm_at "go"
  have em : ((atPl (rowsP hp js) s).map fun r => V.int (r.e - r.b)) = ((atPl (rowsP hp js) s).map fun r => r.e - r.b).map V.int := by
    rw [List.map_map]
    rfl
  rw [em] at hI
  refine g_sum (SqL.of (hI.get (.head _))) ?_
  exact q H (hI.forget (by tm_at "sub"))
def sp_Bench_eq (K : PySem.W.Frag) : Sp := fun vs H Q _ => vs.length = 2 ∧ ∃ (x y : Addr) (hp : Nat × Nat) (B : Hp) (M L : List (Addr × HO)), vs = [.ref x, .ref y] ∧ Is B M L H ∧ BenchAt K B x hp ∧ BenchAt K B y hp ∧ ∀ H', Is B M L H' → Q (.bl true) H'
theorem ap_Bench_eq {K : PySem.W.Frag} {H : Hp} {Q : VK} {E : XK} {x y : Addr} {hp : Nat × Nat} {B : Hp} {M L : List (Addr × HO)} (I : Is B M L H) (h : BenchAt K B x hp) (h2 : BenchAt K B y hp) (q : ∀ H', Is B M L H' → Q (.bl true) H') : sp_Bench_eq K [.ref x, .ref y] H Q E := ⟨rfl, x, y, hp, B, M, L, rfl, I, h, h2, q⟩
def t_Bench_eq (K : PySem.W.Frag) : TS := (tRet (tAndV (tCB (rIsi K) (tCons (tVar 1) (tCons (tC (.ref (He.ga K "Bench"))) tNil))) (tOp rEqDc (tFld K (tVar 0) "many_of") (tFld K (tVar 1) "many_of"))))
theorem rd_Bench_eq {K : PySem.W.Frag} (C : BenchC K) (D : OwnD K (He.ga K "Bench")) (vs : List V) (H : Hp) (Q : VK) (E : XK) (h : sp_Bench_eq K vs H Q E) : t_Bench_eq K { nx := fun _ H' => Q .non H', rt := Q } (start ["self", "other"] vs) H := by
  obtain ⟨_, x, y, hp, B, M, L, rfl, hI, h1, h2, q⟩ := h
  show t_Bench_eq K ⟨_, _, _, _⟩ [some (.ref x), some (.ref y)] H
  obtain ⟨cl, n1⟩ := C
  obtain ⟨⟨dx, mo, a1, a2⟩, _⟩ := id h1
  obtain ⟨⟨dy, mp, b1, b2⟩, _⟩ := id h2
  unfold t_Bench_eq
  tm_at "go"
  refine' g_isiO D cl (hI.b b1) ?_
  tm_at "go"
  refine g_eqDc (hI.b a2) (hI.b b2) (show ([Sum.inr "hand", Sum.inr "press"] : List Key).Nodup from by decide +kernel) (fun p hp' => ?_) ?_
  · rcases List.mem_cons.mp hp' with rfl | hp'
    · rfl
    · rw [List.mem_singleton.mp hp']
      rfl
  exact q H hI
def sp_Plan_eq (K : PySem.W.Frag) : Sp := fun vs H Q _ => vs.length = 2 ∧ ∃ (x y : Addr) (hp : Nat × Nat) (B : Hp) (M L : List (Addr × HO)), vs = [.ref x, .ref y] ∧ Is B M L H ∧ PlanAt K B x hp [] ∧ PlanAt K B y hp [] ∧ ∀ H', Is B M L H' → Q (.bl true) H'
theorem ap_Plan_eq {K : PySem.W.Frag} {H : Hp} {Q : VK} {E : XK} {x y : Addr} {hp : Nat × Nat} {B : Hp} {M L : List (Addr × HO)} (I : Is B M L H) (h : PlanAt K B x hp []) (h2 : PlanAt K B y hp []) (q : ∀ H', Is B M L H' → Q (.bl true) H') : sp_Plan_eq K [.ref x, .ref y] H Q E := ⟨rfl, x, y, hp, B, M, L, rfl, I, h, h2, q⟩
def t_Plan_eq (K : PySem.W.Frag) : TS := (tRet (tAndV (tCB (rIsi K) (tCons (tVar 1) (tCons (tC (.ref (He.ga K "Plan"))) tNil))) (tAndV (tOp (rOwnEq K (He.ga K "Bench") (sp_Bench_eq K) (fun vs zs => pick .non [0, 1] (vs ++ zs)) E0) (tFld K (tVar 0) "of_bench") (tFld K (tVar 1) "of_bench")) (tOp (rEqNil K) (tFld K (tVar 0) "all_jobs") (tFld K (tVar 1) "all_jobs")))))
theorem rd_Plan_eq {K : PySem.W.Frag} (C : PlanC K) (D : OwnD K (He.ga K "Plan")) (C2 : BenchC K) (D2 : OwnD K (He.ga K "Bench")) (vs : List V) (H : Hp) (Q : VK) (E : XK) (h : sp_Plan_eq K vs H Q E) : t_Plan_eq K { nx := fun _ H' => Q .non H', rt := Q } (start ["self", "other"] vs) H := by
  obtain ⟨_, x, y, hp, B, M, L, rfl, hI, h1, h2, q⟩ := h
  show t_Plan_eq K ⟨_, _, _, _⟩ [some (.ref x), some (.ref y)] H
  obtain ⟨cl, n1, n2, n3, n4, n5⟩ := C
  obtain ⟨⟨dx, bch, aj, bn, bp, ar, jv, rv, nv, pv, p1, p2, p3, p4, _⟩, _⟩ := id h1
  obtain ⟨⟨dy, bch', aj', bn', bp', ar', jv', rv', nv', pv', r1, r2, r3, r4, _⟩, _⟩ := id h2
  cases p4
  cases r4
  obtain ⟨⟨db, mo, a1, a2⟩, _⟩ := id p2
  obtain ⟨⟨dc, mp, b1, b2⟩, _⟩ := id r2
  unfold t_Plan_eq
  tm_at "go"
  refine' g_isiO D cl (hI.b r1) ?_
  tm_at "go"
  refine' g_ownEqI D2 C2.cl (hI.b a1) (hI.b b1) ?_
  refine' ap_Bench_eq (K := K) hI p2 r2 ?_
  clear hI
  intro H hI
  tm_at "go"
  refine g_eqNil (SqL.of (hI.b p3)) (SqL.of (hI.b r3)) ?_
  exact q H hI
inductive SelfQ (K : PySem.W.Frag) (B : Hp) : V → Prop
  | dat {x : V} {d : PyData} : Dp K B x d → SeqAt.shaped d = true → d.canLay0 = true → SelfQ K B x
  | dct {a : Addr} : B a = some (.dK []) → SelfQ K B (.ref a)
  | bench {a : Addr} {hp : Nat × Nat} : BenchAt K B a hp → SelfQ K B (.ref a)
  | plan {a : Addr} {hp : Nat × Nat} : PlanAt K B a hp [] → SelfQ K B (.ref a)
theorem SelfQ.same {K : PySem.W.Frag} {B B' : Hp} {x : V} (h : SelfQ K B x) (s : Same B B') : SelfQ K B' x := by
  cases h with
  | dat a b c => exact .dat (Dp.same s a) b c
  | dct a => exact .dct (s _ _ a)
  | bench a => exact .bench (a.same s)
  | plan a => exact .plan (a.same s)
def sp_law_no (K : PySem.W.Frag) : Sp := fun vs H Q _ => vs.length = 3 ∧ ∃ (t : Addr) (w : Str) (x : V) (k : Kn) (B : Hp) (M L : List (Addr × HO)), vs = [.ref t, .str w, x] ∧ Is B M L H ∧ B t = some (.tup [.str "no", .str w, x]) ∧ SelfQ K B x ∧ Thing K B x k ∧ ∀ H', Is B M L H' → Q (.bl true) H'
theorem ap_law_no {K : PySem.W.Frag} {H : Hp} {Q : VK} {E : XK} {t : Addr} {w : Str} {x : V} {k : Kn} {B : Hp} {M L : List (Addr × HO)} (I : Is B M L H) (h : B t = some (.tup [.str "no", .str w, x])) (hs : SelfQ K B x) (hk : Thing K B x k) (q : ∀ H', Is B M L H' → Q (.bl true) H') : sp_law_no K [.ref t, .str w, x] H Q E := ⟨rfl, t, w, x, k, B, M, L, rfl, I, h, hs, hk, q⟩
abbrev t_law_no_0 (K : PySem.W.Frag) : TS := (tRet (tAndV (tOp (rOr (rEqA K) (rOr (rOwnEq K (He.ga K "Plan") (sp_Plan_eq K) (fun vs zs => pick .non [0, 1] (vs ++ zs)) E0) (rOr (rOwnEq K (He.ga K "Bench") (sp_Bench_eq K) (fun vs zs => pick .non [0, 1] (vs ++ zs)) E0) rEqDc))) (tOp (rIx K) (tVar 0) (tC (.int 2))) (tVar 2)) (tOp (rEqA K) (tCB (rIsi K) (tCons (tOp (rIx K) (tVar 0) (tC (.int 2))) (tCons (tC (.ty "bool")) tNil))) (tCB (rIsi K) (tCons (tVar 2) (tCons (tC (.ty "bool")) tNil))))))
def t_law_no (K : PySem.W.Frag) : TS := (tSeq (tIfS (tOr (tNot (tTr K (tCB (rIsi K) (tCons (tVar 0) (tCons (tC (.ty "tuple")) tNil))))) (tOr (tTest (tOp (rNeA K) (tCB (rLen K) (tCons (tVar 0) tNil)) (tC (.int 3)))) (tTest (tOp (rNeA K) (tSl (rSlA K) (tVar 0) tNoPart (tPart (tC (.int 2)))) (tTup (tCons (tC (.str "no")) (tCons (tVar 1) tNil))))))) (tRet (tC (.bl false))) tNext) (t_law_no_0 K))
theorem rd_law_no {K : PySem.W.Frag} (C : PlanC K) (D : OwnD K (He.ga K "Plan")) (C2 : BenchC K) (D2 : OwnD K (He.ga K "Bench")) (vs : List V) (H : Hp) (Q : VK) (E : XK) (h : sp_law_no K vs H Q E) : t_law_no K { nx := fun _ H' => Q .non H', rt := Q } (start ["found", "word", "thing"] vs) H := by
  obtain ⟨_, t, w, x, k, B, M, L, rfl, hI, ht, hs, hx, q⟩ := h
  show t_law_no K ⟨_, _, _, _⟩ [some (.ref t), some (.str w), some x] H
  have htt := thing_tup (K := K) ht
  unfold t_law_no
  tm_at "go"
  refine g_ndec (fun h => absurd rfl h) (fun _ => ?_)
  tm_at "go"
  refine g_sl_t hI (hI.st (SqT.of ht)) (fun h => absurd h.2 (show ¬ ((2 : Nat) = 3) from by decide)) ?_
  clear hI
  intro p2 H hI
  replace hI : Is B M ((p2, .tup [.str "no", .str w]) :: L) H := hI
  tm_at "go"
  refine g_ne_i (xs := [.str "no", .str w]) (SqT.of (hI.get (by tm_at "mem"))) (SqT.of (hI.get (.head _))) rfl ?_
  replace hI := hI.forget (L' := L) (by tm_at "sub")
  tm_at "go"
  refine g_ix_t (SqT.of (hI.b ht)) (atI_of (a := x) (by decide) rfl) ?_
  tm_at "go"
  have rest : ∀ H', Is B M L H' → tOp (rEqA K) (tCB (rIsi K) (tCons (tOp (rIx K) (tVar 0) (tC (.int 2))) (tCons (tC (.ty "bool")) tNil))) (tCB (rIsi K) (tCons (tVar 2) (tCons (tC (.ty "bool")) tNil))) [some (.ref t), some (.str w), some x] H' Q := by
    intro H hI
    tm_at "go"
    refine g_ix_t (SqT.of (hI.b ht)) (atI_of (a := x) (by decide) rfl) ?_
    cases k with
    | _ =>
      tm_at "go"
      exact q _ hI
  cases hs with
  | dat a b c =>
    refine g_orL (g_eq_d (Dp.same hI.ex a) (Dp.same hI.ex a) b b ?_)
    rw [SeqAt.eqv_refl _ c]
    refine g_ifV ?_
    refine g_true ?_
    exact rest _ hI
  | dct a =>
    refine g_orR (g_orR (g_orR (g_eqDc (hI.b a) (hI.b a) List.nodup_nil (fun p hp => by cases hp) ?_)))
    refine g_ifV ?_
    refine g_true ?_
    exact rest _ hI
  | bench a =>
    obtain ⟨⟨db, mo, a1, a2⟩, _⟩ := id a
    refine g_orR (g_orR (g_orL (g_ownEqI D2 C2.cl (hI.b a1) (hI.b a1) ?_)))
    refine' ap_Bench_eq (K := K) hI a a ?_
    clear hI
    intro H hI
    refine g_ifV ?_
    refine g_true ?_
    exact rest _ hI
  | plan a =>
    obtain ⟨⟨dx, bch, aj, bn, bp, ar, jv, rv, nv, pv, p1, _⟩, _⟩ := id a
    refine g_orR (g_orL (g_ownEqI D C.cl (hI.b p1) (hI.b p1) ?_))
    refine' ap_Plan_eq (K := K) hI a a ?_
    clear hI
    intro H hI
    refine g_ifV ?_
    refine g_true ?_
    exact rest _ hI
inductive OddT : List V → Prop
  | nil : OddT []
  | one (n : Int) : -100 ≤ n → n ≤ 100 → OddT [.int n]
  | pair (kd : Str) (n : Int) : (kd = "hand" ∨ kd = "press") → -100 ≤ n → n ≤ 100 → OddT [.str kd, .int n]
  | prb (kd : Str) (b : Bool) : (kd = "hand" ∨ kd = "press") → OddT [.str kd, .bl b]
inductive OddZ (K : PySem.W.Frag) (B : Hp) : V → Prop
  | thing {x : V} {k : Kn} : Thing K B x k → k ≠ .tup → SelfQ K B x → OddZ K B x
  | tup {a : Addr} {xs : List V} : B a = some (.tup xs) → OddT xs → OddZ K B (.ref a)
theorem OddZ.same {K : PySem.W.Frag} {B B' : Hp} {x : V} (h : OddZ K B x) (s : Same B B') : OddZ K B' x := by
  cases h with
  | thing a b c => exact .thing (Thing.same s a) b (c.same s)
  | tup a b => exact .tup (s _ _ a) b
theorem kd_plain {kd : Str} (h : kd = "hand" ∨ kd = "press") : plainS kd ∧ ∀ c ∈ kd.cps.toList, c < 128 := by
  rcases h with rfl | rfl
  · exact ⟨(Sh.lit (n := 8) (by decide +kernel)).plain (by decide), by decide +kernel⟩
  · exact ⟨(Sh.lit (n := 8) (by decide +kernel)).plain (by decide), by decide +kernel⟩
theorem OddT.dat {K : PySem.W.Frag} {B : Hp} {a : Addr} {xs : List V} (h : B a = some (.tup xs)) (o : OddT xs) : ∃ d, Dp K B (.ref a) (.tuple d) ∧ ∃ n, Shn (.tuple d) n 1 ∧
    (xs = [] → d = []) ∧ (∀ n, xs = [.int n] → d = [.int n]) ∧ (∀ kd n, xs = [.str kd, .int n] → d = [.str kd, .int n]) ∧ (∀ kd b, xs = [.str kd, .bl b] → d = [.str kd, .bool b]) := by
  cases o with
  | nil => exact ⟨[], .tup (SqT.of h) .nil, _, .tup .nil, fun _ => rfl, fun _ e => (by cases e), fun _ _ e => (by cases e), fun _ _ e => (by cases e)⟩
  | one n n0 n1 => exact ⟨[.int n], .tup (SqT.of h) (.cons (.int _) .nil), _, .tup (.cons (shn_int (by omega) (by omega)) .nil), fun e => (by cases e), fun _ e => (by cases e; rfl), fun _ _ e => (by cases e), fun _ _ e => (by cases e)⟩
  | pair kd n hk n0 n1 => exact ⟨[.str kd, .int n], .tup (SqT.of h) (.cons (.str _) (.cons (.int _) .nil)), _, .tup (.cons (.str (kd_plain hk).2) (.cons (shn_int (by omega) (by omega)) .nil)), fun e => (by cases e), fun _ e => (by cases e), fun _ _ e => (by cases e; rfl), fun _ _ e => (by cases e)⟩
  | prb kd b hk => exact ⟨[.str kd, .bool b], .tup (SqT.of h) (.cons (.str _) (.cons (.bl _) .nil)), _, .tup (.cons (.str (kd_plain hk).2) (.cons .bl .nil)), fun e => (by cases e), fun _ e => (by cases e), fun _ _ e => (by cases e), fun _ _ e => (by cases e; rfl)⟩
theorem OddZ.self {K : PySem.W.Frag} {B : Hp} {x : V} (h : OddZ K B x) : SelfQ K B x ∧ ∃ k, Thing K B x k := by
  cases h with
  | thing a b c => exact ⟨c, _, a⟩
  | tup a b =>
    obtain ⟨d, h1, n, h2, _⟩ := b.dat (K := K) a
    exact ⟨.dat h1 (h2.shaped (by decide)) h2.lay, _, thing_tup a⟩
theorem OddZ.place {K : PySem.W.Frag} {B : Hp} {x : V} {hp : Nat × Nat} (h : OddZ K B x) : (∃ s, IsPl B hp x s) ∨ NoPl K B hp x := by
  cases h with
  | thing a b c => exact .inr (.other a b)
  | tup a b =>
    cases b with
    | nil => exact .inr (.len a (by decide) (by decide))
    | one n => exact .inr (.len a (by simp) (by simp))
    | pair kd n hk =>
      by_cases hs : (kd, n) ∈ spotsA hp
      · exact .inl ⟨(kd, n), ⟨_, rfl, a⟩, hs⟩
      · exact .inr (.out a (kd_plain hk).1 hs)
    | prb kd b hk => exact .inr (.second a (kd_plain hk).1 (thing_bl b) rfl)
theorem any_eqv {ss : List Spot} {d : PyData} (p : Spot → Bool) (h : ∀ s, PyData.eqv (spotD s) d = p s) : ((ss.map spotD).any fun z => PyData.eqv z d) = ss.any p := by
  rw [List.any_map]
  congr 1
  funext s
  exact h s
def sp_law_is_spot (K : PySem.W.Frag) : Sp := fun vs H Q _ => vs.length = 2 ∧ ∃ (x : V) (pr : Addr) (hp : Nat × Nat) (B : Hp) (M L : List (Addr × HO)), vs = [x, .ref pr] ∧ Is B M L H ∧ PairB B pr hp ∧ OddZ K B x ∧
  (∀ s B' H', Same B B' → Is B' M L H' → IsPl B hp x s → Q (.bl true) H') ∧ (∀ B' H', Same B B' → Is B' M L H' → NoPl K B hp x → Q (.bl false) H')
theorem ap_law_is_spot {K : PySem.W.Frag} {H : Hp} {Q : VK} {E : XK} {x : V} {pr : Addr} {hp : Nat × Nat} {B : Hp} {M L : List (Addr × HO)} (I : Is B M L H) (h : PairB B pr hp) (ho : OddZ K B x)
    (q1 : ∀ s B' H', Same B B' → Is B' M L H' → IsPl B hp x s → Q (.bl true) H') (q2 : ∀ B' H', Same B B' → Is B' M L H' → NoPl K B hp x → Q (.bl false) H') : sp_law_is_spot K [x, .ref pr] H Q E := ⟨rfl, x, pr, hp, B, M, L, rfl, I, h, ho, q1, q2⟩
def t_law_is_spot (K : PySem.W.Frag) : TS := (tRet (tAndV (tCB (rIsi K) (tCons (tVar 0) (tCons (tC (.ty "tuple")) tNil))) (tAndV (tOp (rInD K) (tVar 0) (tCl 1 0 (sp_law_spots K) (fun vs zs => pick .non [0] (vs ++ zs)) E0 (tCons (tVar 1) tNil) tNil)) (tNotV (tCB (rIsi K) (tCons (tOp (rIx K) (tVar 0) (tC (.int 1))) (tCons (tC (.ty "bool")) tNil)))))))
theorem rd_law_is_spot {K : PySem.W.Frag} (vs : List V) (H : Hp) (Q : VK) (E : XK) (h : sp_law_is_spot K vs H Q E) : t_law_is_spot K { nx := fun _ H' => Q .non H', rt := Q } (start ["thing", "pair"] vs) H := by
  obtain ⟨_, x, pr, hp, B, M, L, rfl, hI, hpr, ho, q1, q2⟩ := h
  show t_law_is_spot K ⟨_, _, _, _⟩ [some x, some (.ref pr)] H
  unfold t_law_is_spot
  cases ho with
  | thing hv hk hs =>
    cases hk' : (‹Kn› : Kn) with
    | tup => exact absurd hk' hk
    | _ =>
      have hno : NoPl K B hp x := .other hv hk
      rw [hk'] at hv
      tm_at "go"
      exact q2 B _ (fun _ _ e => e) hI hno
  | @tup a xs ha ht =>
    have htt := thing_tup (K := K) ha
    obtain ⟨d, d1, n, d2, dn, do1, dp, db⟩ := ht.dat (K := K) ha
    have hg := hpr.good
    obtain ⟨n2, sh2⟩ := shn_spots hg (ss := spotsA hp) fun s hs => hs
    tm_at "go"
    refine' ap_law_spots (K := K) hI hpr ?_
    clear hI
    intro p ss B1 H s1 hI hss
    refine g_inD (Dp.same (s1.trans hI.ex) d1) (.lst (SqL.of (hI.get (.head _))) (dp_spots hI.ex hss)) (d2.shaped (by decide)) (Shn.shaped (.lst sh2) (by decide)) ?_
    replace ha1 := s1 _ _ ha
    replace hI := hI.forget (L' := L) (by tm_at "sub")
    cases ht with
    | nil =>
      rw [dn rfl, any_eqv (fun _ => false) (fun s => by simp [spotD, PyData.eqv, PyData.eqvAll]), show ((spotsA hp).any fun _ => false) = false from by simp]
      tm_at "go"
      exact q2 B1 _ s1 hI (.len ha (by decide) (by decide))
    | one n =>
      rw [do1 n rfl, any_eqv (fun _ => false) (fun s => by simp [spotD, PyData.eqv, PyData.eqvAll]), show ((spotsA hp).any fun _ => false) = false from by simp]
      tm_at "go"
      exact q2 B1 _ s1 hI (.len ha (by simp) (by simp))
    | pair kd n hk =>
      rw [dp kd n rfl, any_eqv (fun s => decide (s = (kd, n))) (fun s => by
        obtain ⟨a, b⟩ := s
        by_cases h1 : a = kd <;> by_cases h2 : b = n <;> simp [spotD, PyData.eqv, PyData.eqvAll, h1, h2])]
      by_cases hs : (kd, n) ∈ spotsA hp
      · rw [show ((spotsA hp).any fun s => decide (s = (kd, n))) = true from List.any_eq_true.mpr ⟨_, hs, decide_eq_true rfl⟩]
        tm_at "go"
        refine g_ix_t (SqT.of (hI.b ha1)) (atI_of (by decide) rfl) ?_
        have hnt := thing_int (K := K) (H := B1) n
        tm_at "go"
        exact q1 (kd, n) B1 _ s1 hI ⟨⟨_, rfl, ha⟩, hs⟩
      · rw [show ((spotsA hp).any fun s => decide (s = (kd, n))) = false from List.any_eq_false.mpr fun z hz h => hs (by rw [← of_decide_eq_true h]; exact hz)]
        tm_at "go"
        exact q2 B1 _ s1 hI (.out ha (kd_plain hk).1 hs)
    | prb kd b hk =>
      generalize ((spotsA hp).map spotD).any (fun z => PyData.eqv z (.tuple d)) = c
      have hno : NoPl K B hp (.ref a) := .second ha (kd_plain hk).1 (thing_bl b) rfl
      cases c with
      | false =>
        tm_at "go"
        exact q2 B1 _ s1 hI hno
      | true =>
        tm_at "go"
        refine g_ix_t (SqT.of (hI.b ha1)) (atI_of (a := V.bl b) (by decide) rfl) ?_
        have hbt := thing_bl (K := K) (H := B1) b
        tm_at "go"
        exact q2 B1 _ s1 hI hno
def sp_law_far (K : PySem.W.Frag) : Sp := fun vs H Q _ => vs.length = 0 ∧ ∃ (B : Hp) (M L : List (Addr × HO)), vs = [] ∧ Is B M L H ∧
  ∀ (p a b : Addr) (B' H' : Hp), Same B B' → Is B' M ((p, .tup [.ref a, .ref b]) :: L) H' → (∀ hp, NoPl K B' hp (.ref a)) → (∀ hp, NoPl K B' hp (.ref b)) → Thing K B' (.ref a) .tup → Thing K B' (.ref b) .tup → Q (.ref p) H'
theorem ap_law_far {K : PySem.W.Frag} {B H : Hp} {M L : List (Addr × HO)} {Q : VK} {E : XK} (I : Is B M L H) (q : ∀ (p a b : Addr) (B' H' : Hp), Same B B' → Is B' M ((p, .tup [.ref a, .ref b]) :: L) H' → (∀ hp, NoPl K B' hp (.ref a)) → (∀ hp, NoPl K B' hp (.ref b)) → Thing K B' (.ref a) .tup → Thing K B' (.ref b) .tup → Q (.ref p) H') : sp_law_far K [] H Q E := ⟨rfl, B, M, L, rfl, I, q⟩
abbrev t_law_far_0 (K : PySem.W.Frag) : TS := (tAsg (tTup (tCons (tVar 0) tNil)) (gName 0))
abbrev t_law_far_1 (K : PySem.W.Frag) : TS := (tAsg (tTup (tCons (tVar 1) (tCons (tVar 1) tNil))) (gName 1))
abbrev t_law_far_2 (K : PySem.W.Frag) : TS := (tRet (tTup (tCons (tVar 0) (tCons (tVar 1) tNil))))
abbrev t_law_far_3 (K : PySem.W.Frag) : TS := (tSeq (tFor (iRng1 (tCons (tC (.int 30)) tNil)) (gName 2) (t_law_far_1 K)) (t_law_far_2 K))
abbrev t_law_far_4 (K : PySem.W.Frag) : TS := (tSeq (tFor (iRng1 (tCons (tC (.int 3000)) tNil)) (gName 2) (t_law_far_0 K)) (t_law_far_3 K))
def t_law_far (K : PySem.W.Frag) : TS := (tSeq (tAsg (tTup (tCons (tTup tNil) (tCons (tTup (tCons (tC (.str "hand")) (tCons (tC (.int 1)) tNil))) tNil))) (gTup K 2 (gCons (gName 0) (gCons (gName 1) gNil)))) (t_law_far_4 K))
theorem rd_law_far {K : PySem.W.Frag} (vs : List V) (H : Hp) (Q : VK) (E : XK) (h : sp_law_far K vs H Q E) : t_law_far K { nx := fun _ H' => Q .non H', rt := Q } (start ["deep", "wide", "k"] vs) H := by
  obtain ⟨_, B, M, L, rfl, hI, q⟩ := h
  show t_law_far K ⟨_, _, _, _⟩ [none, none, none] H
  unfold t_law_far
  tm_at "go"
  rename_i deep0 _ wide0 _
  refine' hI.give (a := wide0) (by tm_at "del") ?_
  clear hI
  intro B1 s1 hw hI
  refine' hI.give (a := deep0) (by tm_at "del") ?_
  clear hI
  intro B2 s2 hd hI
  replace hw := s2 _ _ hw
  replace hI := hI.forget (L' := L) (by tm_at "sub")
  refine' g_aFor walk_range (fun i σ H => ∃ (deep : Addr) (c : Option V) (xs : List V) (B' : Hp), σ = [some (.ref deep), some (.ref wide0), c] ∧ Same B2 B' ∧ Is B' M L H ∧ B' deep = some (.tup xs) ∧ xs.length ≤ 1)
    ⟨_, _, _, B2, rfl, fun _ _ h => h, hI, hd, Nat.zero_le _⟩ (fun _ _ _ _ _ => trivial) ?_ ?_
  · rintro i x σ H H' hi ⟨deep, c, xs, B', rfl, s, hI, hd, hl⟩ ⟨rfl, rfl⟩
    tm_at "go"
    refine' hI.give (a := p) (by tm_at "del") ?_
    clear hI
    intro B3 s3 hp hI
    exact ⟨p, _, _, B3, rfl, s.trans s3, hI, hp, Nat.le_refl _⟩
  clear hI hd
  rintro σ H ⟨deep, c, xs, B3, rfl, s3, hI, hd, hl⟩
  replace hw := s3 _ _ hw
  have s13 := (s1.trans s2).trans s3
  tm_at "go"
  refine' g_aFor walk_range (fun i σ H => ∃ (wide : Addr) (c : Option V) (B' : Hp), σ = [some (.ref deep), some (.ref wide), c] ∧ Same B3 B' ∧ Is B' M L H ∧ Thing K B' (.ref wide) .tup ∧ (0 < i → ∃ u, B' wide = some (.tup [.ref u, .ref u]) ∧ Thing K B' (.ref u) .tup))
    ⟨_, _, B3, rfl, fun _ _ h => h, hI, thing_tup hw, fun h => absurd h (Nat.lt_irrefl 0)⟩ (fun _ _ _ _ _ => trivial) ?_ ?_
  · rintro i x σ H H' hi ⟨wide, c, B', rfl, s, hI, ht, _⟩ ⟨rfl, rfl⟩
    tm_at "go"
    refine' hI.give (a := p) (by tm_at "del") ?_
    clear hI
    intro B4 s4 hp hI
    exact ⟨p, _, B4, rfl, s.trans s4, hI, thing_tup hp, fun _ => ⟨wide, hp, Thing.same s4 ht⟩⟩
  clear hI
  rintro σ H ⟨wide, c, B4, rfl, s4, hI, ht, hw4⟩
  obtain ⟨u, hw4, hu⟩ := hw4 (by decide)
  tm_at "go"
  exact q p deep wide B4 H (s13.trans s4) hI (fun hp => .len (s4 _ _ hd) (by omega) (by omega)) (fun hp => .first hw4 hu (by decide)) (thing_tup (s4 _ _ hd)) ht
def sp_law_odd (K : PySem.W.Frag) : Sp := fun vs H Q _ => vs.length = 1 ∧ ∃ (m : Addr) (n : Int) (B : Hp) (M L : List (Addr × HO)), vs = [.ref m] ∧ Is B M L H ∧ Dr m n B M ∧ n < 2 ^ 38 ∧
  ∀ (x : V) (B' H' : Hp) (M' : List (Addr × HO)), Same B B' → Is B' M' L H' → Dr m (n + 1) B' M' → OddZ K B' x → Q x H'
theorem ap_law_odd {K : PySem.W.Frag} {B H : Hp} {M L : List (Addr × HO)} {Q : VK} {E : XK} {n : Int} {m : Addr} (I : Is B M L H) (d : Dr m n B M) (h : n < 2 ^ 38) (q : ∀ (x : V) (B' H' : Hp) (M' : List (Addr × HO)), Same B B' → Is B' M' L H' → Dr m (n + 1) B' M' → OddZ K B' x → Q x H') : sp_law_odd K [.ref m] H Q E := ⟨rfl, m, n, B, M, L, rfl, I, d, h, q⟩
theorem oz_int {K : PySem.W.Frag} {B : Hp} {n : Int} (h : -(2 ^ 200) < n ∧ n < 2 ^ 200) : OddZ K B (.int n) := .thing (thing_int n) (by decide) (.dat (.int n) ((shn_int h.1 h.2 : Shn _ _ 1).shaped (by decide)) (shn_int h.1 h.2 : Shn _ _ 1).lay)
theorem oz_str {K : PySem.W.Frag} {B : Hp} {z : Str} (h : shB 8 z = true) : OddZ K B (.str z) := .thing (thing_str ((Sh.lit h).plain (by decide))) (by decide) (.dat (.str z) ((Shn.str (Sh.lit h).2 : Shn _ _ 1).shaped (by decide)) (Shn.str (Sh.lit h).2 : Shn _ _ 1).lay)
theorem oz_bl {K : PySem.W.Frag} {B : Hp} (b : Bool) : OddZ K B (.bl b) := .thing (thing_bl b) (by decide) (.dat (.bl b) ((Shn.bl : Shn (.bool b) _ 1).shaped (by decide)) (Shn.bl : Shn (.bool b) _ 1).lay)
theorem oz_non {K : PySem.W.Frag} {B : Hp} : OddZ K B .non := .thing thing_non (by decide) (.dat .non ((Shn.non : Shn _ _ 1).shaped (by decide)) (Shn.non : Shn _ _ 1).lay)
theorem oz_lst0 {K : PySem.W.Frag} {B : Hp} {a : Addr} (h : B a = some (.lst [])) : OddZ K B (.ref a) := .thing (thing_lst h) (by decide) (.dat (.lst (SqL.of h) .nil) ((Shn.lst .nil : Shn _ _ 1).shaped (by decide)) (Shn.lst .nil : Shn _ _ 1).lay)
theorem oz_lst2 {K : PySem.W.Frag} {B : Hp} {a : Addr} (h : B a = some (.lst [.str "press", .int 1])) : OddZ K B (.ref a) := .thing (thing_lst h) (by decide) (.dat (.lst (SqL.of h) (.cons (.str _) (.cons (.int _) .nil))) ((Shn.lst (.cons (.str (kd_plain (.inr rfl)).2) (.cons (shn_int (by decide) (by decide)) .nil)) : Shn _ _ 1).shaped (by decide)) (Shn.lst (.cons (.str (kd_plain (.inr rfl)).2) (.cons (shn_int (by decide) (by decide)) .nil)) : Shn _ _ 1).lay)
abbrev t_law_odd_0 (K : PySem.W.Frag) : TS := (tRet (tOp (rIx K) (tVar 1) (tCl 2 0 (sp_law_draw K) (fun vs zs => pick .non [0, 1] (vs ++ zs)) E0 (tCons (tVar 0) (tCons (tCB (rLen K) (tCons (tVar 1) tNil)) tNil)) tNil)))
abbrev t_law_odd_1 (K : PySem.W.Frag) : TS := (tSeq (tAsg (tOp (rAddA K) (tVar 1) (tLst (tCons (tOp (rI CPow fun i j => .int (i ^ j.toNat)) (tC (.int 10)) (tC (.int 30))) (tCons (tLst (tCons (tC (.str "press")) (tCons (tC (.int 1)) tNil))) (tCons (tTup (tCons (tC (.str "hand")) (tCons (tC (.bl true)) tNil))) (tCons (tTup (tCons (tC (.str "press")) (tCons (tC (.int 10)) tNil))) (tCons (tTup (tCons (tC (.str "hand")) (tCons (tC (.int 0)) tNil))) (tCons (tMk (He.ga K "Bench") 0 0 (sp_Bench_init K) (fun vs zs => pick .non [0, 1, 2] (vs ++ (zs ++ [.int 1, .int 1]))) E0 tNil tNil) (tCons (tMk (He.ga K "Plan") 1 0 (sp_Plan_init K) (fun vs zs => pick .non [0, 1, 2] (vs ++ (zs ++ [.non]))) E0 (tCons (tMk (He.ga K "Bench") 0 0 (sp_Bench_init K) (fun vs zs => pick .non [0, 1, 2] (vs ++ (zs ++ [.int 1, .int 1]))) E0 tNil tNil) tNil) tNil) tNil))))))))) (gName 1)) (t_law_odd_0 K))
def t_law_odd (K : PySem.W.Frag) : TS := (tSeq (tAsg (tLst (tCons (tC .non) (tCons (tC (.bl true)) (tCons (tC (.bl false)) (tCons (tC (.int 0)) (tCons (tC (.int 1)) (tCons (tC (.int 9)) (tCons (tC (.int 10)) (tCons (tUn (rU fun i => .int (-i)) (tC (.int 1))) (tCons (tC (.str "")) (tCons (tC (.str "hand")) (tCons (tC (.str "press")) (tCons (tC (.str "hands")) (tCons (tC (.str "2")) (tCons (tC (.str "qqq")) (tCons (tTup tNil) (tCons (tLst tNil) (tCons tDNewK (tCons (tTup (tCons (tC (.int 1)) tNil)) (tCons (tTup (tCons (tC (.str "hand")) (tCons (tC (.int 1)) tNil))) tNil)))))))))))))))))))) (gName 1)) (t_law_odd_1 K))
theorem rd_law_odd {K : PySem.W.Frag} (C : PlanC K) (D : OwnD K (He.ga K "Plan")) (C2 : BenchC K) (D2 : OwnD K (He.ga K "Bench")) (vs : List V) (H : Hp) (Q : VK) (E : XK) (h : sp_law_odd K vs H Q E) : t_law_odd K { nx := fun _ H' => Q .non H', rt := Q } (start ["m", "some"] vs) H := by
  obtain ⟨_, m, n, B, M, L, rfl, hI, hd, hn, q⟩ := h
  show t_law_odd K ⟨_, _, _, _⟩ [some (.ref m), none] H
  unfold t_law_odd
  tm_at "go"
  obtain ⟨bx, rfl⟩ : ∃ q, q = x := ⟨_, rfl⟩
  obtain ⟨tz, rfl⟩ : ∃ q, q = p := ⟨_, rfl⟩
  rename_i e0 _ l0 _ d0 _ o1 _ t0 _ som _ l2 _ tb _ _ _
  obtain ⟨tp, rfl⟩ : ∃ q, q = p := ⟨_, rfl⟩
  refine' hI.give (a := e0) (by tm_at "del") ?_
  clear hI
  intro G1 g1 he0 hI
  refine' hI.give (a := l0) (by tm_at "del") ?_
  clear hI
  intro G2 g2 hl0 hI
  replace he0 := g2 _ _ he0
  refine' hI.give (a := d0) (by tm_at "del") ?_
  clear hI
  intro G3 g3 hd0 hI
  replace he0 := g3 _ _ he0
  replace hl0 := g3 _ _ hl0
  refine' hI.give (a := o1) (by tm_at "del") ?_
  clear hI
  intro G4 g4 ho1 hI
  replace he0 := g4 _ _ he0
  replace hl0 := g4 _ _ hl0
  replace hd0 := g4 _ _ hd0
  refine' hI.give (a := t0) (by tm_at "del") ?_
  clear hI
  intro G5 g5 ht0 hI
  replace he0 := g5 _ _ he0
  replace hl0 := g5 _ _ hl0
  replace hd0 := g5 _ _ hd0
  replace ho1 := g5 _ _ ho1
  refine' hI.give (a := l2) (by tm_at "del") ?_
  clear hI
  intro G6 g6 hl2 hI
  replace he0 := g6 _ _ he0
  replace hl0 := g6 _ _ hl0
  replace hd0 := g6 _ _ hd0
  replace ho1 := g6 _ _ ho1
  replace ht0 := g6 _ _ ht0
  refine' hI.give (a := tb) (by tm_at "del") ?_
  clear hI
  intro G7 g7 htb hI
  replace he0 := g7 _ _ he0
  replace hl0 := g7 _ _ hl0
  replace hd0 := g7 _ _ hd0
  replace ho1 := g7 _ _ ho1
  replace ht0 := g7 _ _ ht0
  replace hl2 := g7 _ _ hl2
  refine' hI.give (a := tp) (by tm_at "del") ?_
  clear hI
  intro G8 g8 htp hI
  replace he0 := g8 _ _ he0
  replace hl0 := g8 _ _ hl0
  replace hd0 := g8 _ _ hd0
  replace ho1 := g8 _ _ ho1
  replace ht0 := g8 _ _ ht0
  replace hl2 := g8 _ _ hl2
  replace htb := g8 _ _ htb
  refine' hI.give (a := tz) (by tm_at "del") ?_
  clear hI
  intro G9 g9 htz hI
  replace he0 := g9 _ _ he0
  replace hl0 := g9 _ _ hl0
  replace hd0 := g9 _ _ hd0
  replace ho1 := g9 _ _ ho1
  replace ht0 := g9 _ _ ht0
  replace hl2 := g9 _ _ hl2
  replace htb := g9 _ _ htb
  replace htp := g9 _ _ htp
  have gs : Same B G9 := ((((((((g1.trans g2).trans g3).trans g4).trans g5).trans g6).trans g7).trans g8).trans g9)
  have gb11 : GoodB (1, 1) := ⟨by decide, by decide, by decide, by decide⟩
  refine' ap_Bench_init (K := K) (1, 1) hI gb11 ?_
  clear hI
  intro B1 H s1 hI hb1
  refine ⟨rfl, ?_⟩
  tm_at "go"
  obtain ⟨bx2, rfl⟩ : ∃ q, q = x := ⟨_, rfl⟩
  refine' ap_Bench_init (K := K) (1, 1) hI gb11 ?_
  clear hI
  intro B2 H s2 hI hb2
  refine ⟨rfl, ?_⟩
  tm_at "go"
  obtain ⟨pz, rfl⟩ : ∃ q, q = x := ⟨_, rfl⟩
  refine' ap_Plan_init0 (K := K) hI hb2 ?_
  clear hI
  intro B3 H s3 hI hpz
  have eo : ordJ [] = [] := List.mergeSort_nil
  rw [eo] at hpz
  refine ⟨rfl, ?_⟩
  have s13 := (s1.trans s2).trans s3
  replace hb1 := hb1.same (s2.trans s3)
  tm_at "go"
  refine g_add_l hI (hI.get (by tm_at "mem")) (hI.get (.head _)) (Nat.le_of_ble_eq_true rfl) ?_
  clear hI
  intro so H hI
  replace hd := hd.same (gs.trans s13)
  tm_at "go"
  tm_at "draw"
  obtain ⟨⟨db, mo, b1, b2⟩, _⟩ := id hb1
  obtain ⟨⟨dx9, bch9, aj9, bn9, bp9, ar9, jv9, rv9, nv9, pv9, p1, _⟩, _⟩ := id hpz
  refine g_ix_all (OddZ K B3) (SqL.of (hI.get (.head _))) (fun y hy => ?_) hr0 (by tm_at "arith") ?_
  · simp only [List.cons_append, List.nil_append, List.mem_cons, List.not_mem_nil, or_false] at hy
    rcases hy with rfl | rfl | rfl | rfl | rfl | rfl | rfl | rfl | rfl | rfl | rfl | rfl | rfl | rfl | rfl | rfl | rfl | rfl | rfl | rfl | rfl | rfl | rfl | rfl | rfl | rfl
    · exact oz_non
    · exact oz_bl _
    · exact oz_bl _
    · exact oz_int (by decide)
    · exact oz_int (by decide)
    · exact oz_int (by decide)
    · exact oz_int (by decide)
    · exact oz_int (by decide)
    · exact oz_str (by decide +kernel)
    · exact oz_str (by decide +kernel)
    · exact oz_str (by decide +kernel)
    · exact oz_str (by decide +kernel)
    · exact oz_str (by decide +kernel)
    · exact oz_str (by decide +kernel)
    · exact .tup (s13 _ _ he0) .nil
    · exact oz_lst0 (s13 _ _ hl0)
    · exact .thing (thing_dct (s13 _ _ hd0)) (by decide) (.dct (s13 _ _ hd0))
    · exact .tup (s13 _ _ ho1) (.one 1 (by decide) (by decide))
    · exact .tup (s13 _ _ ht0) (.pair "hand" 1 (.inl rfl) (by decide) (by decide))
    · exact oz_int (by decide)
    · exact oz_lst2 (s13 _ _ hl2)
    · exact .tup (s13 _ _ htb) (.prb "hand" true (.inl rfl))
    · exact .tup (s13 _ _ htp) (.pair "press" 10 (.inr rfl) (by decide) (by decide))
    · exact .tup (s13 _ _ htz) (.pair "hand" 0 (.inl rfl) (by decide) (by decide))
    · exact .thing (thing_own D2 C2.cl b1) (by decide) (.bench hb1)
    · exact .thing (thing_own D C.cl p1) (by decide) (.plan hpz)
  intro y hy
  exact q y B3 H _ (gs.trans s13) (hI.forget (by tm_at "sub")) hd hy
def sp_law_whole (K : PySem.W.Frag) : Sp := fun vs H Q _ => vs.length = 3 ∧ ∃ (x : V) (k : Kn) (lo hi : Int), vs = [x, .int lo, .int hi] ∧ Thing K H x k ∧ Q (.bl (isWhole x lo hi)) H
theorem ap_law_whole {K : PySem.W.Frag} {H : Hp} {Q : VK} {E : XK} {x : V} {k : Kn} {lo hi : Int} (h : Thing K H x k) (q : Q (.bl (isWhole x lo hi)) H) : sp_law_whole K [x, .int lo, .int hi] H Q E := ⟨rfl, x, k, lo, hi, rfl, h, q⟩
def t_law_whole (K : PySem.W.Frag) : TS := (tRet (tAndV (tCB (rIsi K) (tCons (tVar 0) (tCons (tC (.ty "int")) tNil))) (tAndV (tNotV (tCB (rIsi K) (tCons (tVar 0) (tCons (tC (.ty "bool")) tNil)))) (tChain (rI0 fun i j => .bl (decide (i ≤ j))) (rI0 fun i j => .bl (decide (i ≤ j))) (tVar 1) (tVar 0) (tVar 2)))))
theorem rd_law_whole {K : PySem.W.Frag} (vs : List V) (H : Hp) (Q : VK) (E : XK) (h : sp_law_whole K vs H Q E) : t_law_whole K { nx := fun _ H' => Q .non H', rt := Q } (start ["thing", "least", "most_of"] vs) H := by
  obtain ⟨_, x, k, lo, hi, rfl, hx, q⟩ := h
  show t_law_whole K ⟨_, _, _, _⟩ [some x, some (.int lo), some (.int hi)] H
  unfold t_law_whole
  tm_at "go"
  refine hx.cases ?_ ?_ ?_ ?_ ?_
  · rintro rfl rfl
    tm_at "go"
    exact q
  · rintro b rfl rfl
    tm_at "go"
    exact q
  · rintro n rfl rfl
    tm_at "go"
    refine g_dec (fun h => ?_) (fun h => ?_)
    · tm_at "go"
      have e : isWhole (.int n) lo hi = decide (n ≤ hi) := by
        show (decide (lo ≤ n) && decide (n ≤ hi)) = _
        rw [decide_eq_true h, Bool.true_and]
      rw [e] at q
      exact q
    · tm_at "go"
      have e : isWhole (.int n) lo hi = false := by
        show (decide (lo ≤ n) && decide (n ≤ hi)) = _
        rw [decide_eq_false h, Bool.false_and]
      rw [e] at q
      exact q
  · rintro z rfl rfl hp
    tm_at "go"
    exact q
  · rintro a rfl hk
    refine g_isiF hx (by decide) (Kn.noInt hk).1 ?_
    tm_at "go"
    exact q
abbrev tRf (K : PySem.W.Frag) : Addr := (He.cT K (("_law_refused" : Str), (none : Option Str))).2
abbrev qRf : Str := "_law_refused.<locals>.<lambda>"
theorem spot_hand {hp : Nat × Nat} (g : GoodB hp) : (("hand", 1) : Spot) ∈ spotsA hp := List.mem_append_left _ (spots_mem.mpr ⟨rfl, by decide, by have := g.h0; show (1 : Int) ≤ (hp.1 : Int); omega⟩)
theorem spot_press {hp : Nat × Nat} (g : GoodB hp) : (("press", 1) : Spot) ∈ spotsA hp := List.mem_append_right _ (spots_mem.mpr ⟨rfl, by decide, by have := g.p0; show (1 : Int) ≤ (hp.2 : Int); omega⟩)
def sp_law_refused (K : PySem.W.Frag) : Sp := fun vs H Q _ => vs.length = 3 ∧ ∃ (m x pr : Addr) (hp : Nat × Nat) (js : List JobT) (n : Int) (ps : Array Value) (B : Hp) (M L : List (Addr × HO)), vs = [.ref m, .ref x, .ref pr] ∧ Is B M ((tRf K, .tbl ps) :: L) H ∧ TabI B qRf ps ∧ Dr m n B M ∧ n < 2 ^ 36 ∧ PlanAt K B x hp js ∧ PairB B pr hp ∧
  ∀ (B' : Hp) (ps' : Array Value) (M' : List (Addr × HO)) (H' : Hp), Same B B' → Is B' M' ((tRf K, .tbl ps') :: L) H' → TabI B' qRf ps' → Dr m (n + 4) B' M' → Q (.bl true) H'
theorem ap_law_refused {K : PySem.W.Frag} {H : Hp} {Q : VK} {E : XK} {m x pr : Addr} {hp : Nat × Nat} {js : List JobT} {n : Int} {ps : Array Value} {B : Hp} {M L : List (Addr × HO)} (I : Is B M ((tRf K, .tbl ps) :: L) H) (hT : TabI B qRf ps) (d : Dr m n B M) (hn : n < 2 ^ 36) (h : PlanAt K B x hp js) (hpr : PairB B pr hp)
    (q : ∀ (B' : Hp) (ps' : Array Value) (M' : List (Addr × HO)) (H' : Hp), Same B B' → Is B' M' ((tRf K, .tbl ps') :: L) H' → TabI B' qRf ps' → Dr m (n + 4) B' M' → Q (.bl true) H') : sp_law_refused K [.ref m, .ref x, .ref pr] H Q E := ⟨rfl, m, x, pr, hp, js, n, ps, B, M, L, rfl, I, hT, d, hn, h, hpr, q⟩
abbrev t_law_refused_0 (K : PySem.W.Frag) : TS := (tIfS (tNot (tTr K (tCB (rAll K) (tCons (tLc (iAny K (tVar 4)) (gName 5) tYes (tCl 3 0 (sp_law_no K) (fun vs zs => pick .non [0, 1, 2] (vs ++ zs)) E0 (tCons (tVar 5) (tCons (tC (.str "place")) (tCons (tVar 3) tNil))) tNil) [5]) tNil)))) (tRet (tC (.bl false))) tNext)
abbrev t_law_refused_1 (K : PySem.W.Frag) : TS := (tSeq (tDrop (tBM K "list" rAppend (tVar 4) (tCons (tLamG (He.cT K ("_law_refused", none)).2 "_law_refused.<locals>.<lambda>" (TTold K) (fun E => (tMe (He.ga K "Plan") "busy" 1 0 (sp_Plan_busy K) (fun vs zs => pick .non [0, 1] (vs ++ zs)) E (tVar 1) (tCons (tVar 3) tNil) tNil))) tNil))) (t_law_refused_0 K))
abbrev t_law_refused_2 (K : PySem.W.Frag) : TS := (tIfS (tNot (tTr K (tCl 2 0 (sp_law_is_spot K) (fun vs zs => pick .non [0, 1] (vs ++ zs)) E0 (tCons (tVar 3) (tCons (tVar 2) tNil)) tNil))) (tSeq (tAsg (tLst (tCons (tLamG (He.cT K ("_law_refused", none)).2 "_law_refused.<locals>.<lambda>" (TTold K) (fun E => (tMe (He.ga K "Plan") "next_free" 2 1 (sp_Plan_next_free K) (fun vs zs => pick .non [0, 1, 2, 3] (vs ++ (zs ++ [.int 1, .int 0]))) E (tVar 1) (tCons (tVar 3) (tCons (tC (.int 0)) tNil)) (tCons (tUn (rU fun i => .int (-i)) (tC (.int 1))) tNil)))) tNil)) (gName 4)) (t_law_refused_1 K)) tNext)
abbrev t_law_refused_3 (K : PySem.W.Frag) : TS := (tIfS (tTest (tOp (rNeA K) (tLamG (He.cT K ("_law_refused", none)).2 "_law_refused.<locals>.<lambda>" (TTold K) (fun E => (tMe (He.ga K "Plan") "next_free" 3 0 (sp_Plan_next_free K) (fun vs zs => pick .non [0, 1, 2, 3] (vs ++ (zs ++ [.int 1, .int 0]))) E (tVar 1) (tCons (tTup (tCons (tC (.str "hand")) (tCons (tC (.int 1)) tNil))) (tCons (tVar 3) (tCons (tVar 3) tNil))) tNil))) (tTup (tCons (tC (.str "value")) (tCons (tC (.str "hours")) tNil))))) (tRet (tC (.bl false))) tNext)
abbrev t_law_refused_4 (K : PySem.W.Frag) : TS := (tSeq (tIfS (tTest (tOp (rNeA K) (tSl (rSlA K) (tLamG (He.cT K ("_law_refused", none)).2 "_law_refused.<locals>.<lambda>" (TTold K) (fun E => (tMe (He.ga K "Plan") "busy" 1 0 (sp_Plan_busy K) (fun vs zs => pick .non [0, 1] (vs ++ zs)) E (tVar 1) (tCons (tVar 3) tNil) tNil))) tNoPart (tPart (tC (.int 2)))) (tTup (tCons (tC (.str "no")) (tCons (tC (.str "place")) tNil))))) (tRet (tC (.bl false))) tNext) (t_law_refused_3 K))
abbrev t_law_refused_5 (K : PySem.W.Frag) : TS := (tIfS (tNot (tTr K (tCl 3 0 (sp_law_whole K) (fun vs zs => pick .non [0, 1, 2] (vs ++ zs)) E0 (tCons (tVar 3) (tCons (tC (.int 0)) (tCons (tOp (rI CPow fun i j => .int (i ^ j.toNat)) (tC (.int 10)) (tC (.int 6))) tNil))) tNil))) (tIfS (tTest (tOp (rNeA K) (tLamG (He.cT K ("_law_refused", none)).2 "_law_refused.<locals>.<lambda>" (TTold K) (fun E => (tMe (He.ga K "Plan") "next_free" 3 0 (sp_Plan_next_free K) (fun vs zs => pick .non [0, 1, 2, 3] (vs ++ (zs ++ [.int 1, .int 0]))) E (tVar 1) (tCons (tTup (tCons (tC (.str "press")) (tCons (tC (.int 1)) tNil))) (tCons (tC (.int 1)) (tCons (tVar 3) tNil))) tNil))) (tTup (tCons (tC (.str "value")) (tCons (tC (.str "since")) tNil))))) (tRet (tC (.bl false))) tNext) tNext)
abbrev t_law_refused_6 (K : PySem.W.Frag) : TS := (tSeq (tIfS (tNot (tTr K (tCl 3 0 (sp_law_whole K) (fun vs zs => pick .non [0, 1, 2] (vs ++ zs)) E0 (tCons (tVar 3) (tCons (tC (.int 1)) (tCons (tOp (rI CPow fun i j => .int (i ^ j.toNat)) (tC (.int 10)) (tC (.int 6))) tNil))) tNil))) (tIfS (tTest (tOp (rNeA K) (tLamG (He.cT K ("_law_refused", none)).2 "_law_refused.<locals>.<lambda>" (TTold K) (fun E => (tMe (He.ga K "Plan") "next_free" 1 2 (sp_Plan_next_free K) (fun vs zs => pick .non [0, 1, 2, 3] (vs ++ (zs ++ [.int 1, .int 0]))) E (tVar 1) (tCons (tTup (tCons (tC (.str "hand")) (tCons (tC (.int 1)) tNil))) tNil) (tCons (tVar 3) (tCons (tC .non) tNil))))) (tTup (tCons (tC (.str "value")) (tCons (tC (.str "hours")) tNil))))) (tRet (tC (.bl false))) tNext) tNext) (t_law_refused_5 K))
abbrev t_law_refused_7 (K : PySem.W.Frag) : TS := (tRet (tC (.bl true)))
abbrev t_law_refused_8 (K : PySem.W.Frag) : TS := (tSeq (tFor (iAny K (tTup (tCons (tCl 1 0 (sp_law_odd K) (fun vs zs => pick .non [0] (vs ++ zs)) E0 (tCons (tVar 0) tNil) tNil) (tCons (tC (.int 0)) (tCons (tOp (rAddA K) (tOp (rI CPow fun i j => .int (i ^ j.toNat)) (tC (.int 10)) (tC (.int 6))) (tC (.int 1))) (tCons (tC (.bl true)) (tCons (tC .non) (tCons (tCl 1 0 (sp_law_odd K) (fun vs zs => pick .non [0] (vs ++ zs)) E0 (tCons (tVar 0) tNil) tNil) (tCons (tC (.str "1")) (tCons (tUn (rU fun i => .int (-i)) (tC (.int 1))) tNil)))))))))) (gName 3) (t_law_refused_6 K)) (t_law_refused_7 K))
abbrev t_law_refused_9 (K : PySem.W.Frag) : TS := (tSeq (tFor (iAny K (tCl 0 0 (sp_law_far K) (fun vs zs => pick .non [] (vs ++ zs)) E0 tNil tNil)) (gName 3) (t_law_refused_4 K)) (t_law_refused_8 K))
def t_law_refused (K : PySem.W.Frag) : TS := (tSeq (tFor (iAny K (tTup (tCons (tCl 1 0 (sp_law_odd K) (fun vs zs => pick .non [0] (vs ++ zs)) E0 (tCons (tVar 0) tNil) tNil) (tCons (tTup (tCons (tC (.str "hand")) (tCons (tOp (rAddA K) (tOp (rIx K) (tVar 2) (tC (.int 0))) (tC (.int 1))) tNil))) (tCons (tTup (tCons (tC (.str "press")) (tCons (tC (.int 0)) tNil))) (tCons (tTup (tCons (tC (.str "press")) (tCons (tC (.bl true)) tNil))) (tCons (tC (.str "hand 1")) (tCons (tCl 1 0 (sp_law_odd K) (fun vs zs => pick .non [0] (vs ++ zs)) E0 (tCons (tVar 0) tNil) tNil) (tCons (tC .non) tNil))))))))) (gName 3) (t_law_refused_2 K)) (t_law_refused_9 K))
theorem rd_law_refused {K : PySem.W.Frag} (C : PlanC K) (C2 : ErrC K) (vs : List V) (H : Hp) (Q : VK) (E : XK) (h : sp_law_refused K vs H Q E) : t_law_refused K { nx := fun _ H' => Q .non H', rt := Q } (start ["m", "made", "pair", "thing", "found", "one"] vs) H := by
  obtain ⟨_, m, x, pr, hp, js, n, ps, B, M, L, rfl, hI, hT, hd, hn, hP, hpr, q⟩ := h
  show t_law_refused K ⟨_, _, _, _⟩ [some (.ref m), some (.ref x), some (.ref pr), none, none, none] H
  have hg := hpr.good
  have g1 := hg.h1
  have gI : ∀ {B' : Hp}, PlanAt K B' x hp js → ∃ (dx : Addr) (fs : List (Str × V)), B' x = some (.ins (He.ga K "Plan") dx fs) ∧ NoF "next_free" fs ∧ NoF "busy" fs := fun h => by
    obtain ⟨⟨dx, bch, aj, bn, bp, ar, jv, rv, nv, pv, p1, _⟩, _⟩ := h
    exact ⟨dx, _, p1, by tm_at "nof", by tm_at "nof"⟩
  unfold t_law_refused
  tm_at "go"
  refine' ap_law_odd (K := K) hI hd (by omega) ?_
  clear hI hd
  intro y1 B1 H M s1 hI hd o1
  replace hP := hP.same s1
  replace hpr := hpr.same s1
  replace hT := hT.same s1
  tm_at "go"
  refine g_ix_t (SqT.of (hI.b hpr.at_)) (atI_of (by decide) rfl) ?_
  tm_at "go"
  refine' ap_law_odd (K := K) hI hd (by omega) ?_
  clear hI hd
  intro y2 B2 H M s2 hI hd o2
  replace hP := hP.same s2
  replace hpr := hpr.same s2
  replace hT := hT.same s2
  tm_at "go"
  refine' hI.give (o := .tup [.str "hand", .int ((hp.1 : Int) + 1)]) (by tm_at "del") ?_
  clear hI
  intro G1 g1 k1 hI
  refine' hI.give (o := .tup [.str "press", .int 0]) (by tm_at "del") ?_
  clear hI
  intro G2 g2 k2 hI
  refine' hI.give (o := .tup [.str "press", .bl true]) (by tm_at "del") ?_
  clear hI
  intro G3 g3 k3 hI
  obtain ⟨tt, rfl⟩ : ∃ q, q = p := ⟨_, rfl⟩
  refine' hI.give (a := tt) (by tm_at "del") ?_
  clear hI
  intro G4 g4 k4 hI
  have s4 := ((g1.trans g2).trans g3).trans g4
  replace hP := hP.same s4
  replace hpr := hpr.same s4
  replace hT := hT.same s4
  replace hd := hd.same s4
  rename_i th _ tq _ _ _
  have hodd : ∀ y ∈ [y1, .ref th, .ref tq, .ref p, .str "hand 1", y2, .non], OddZ K G4 y := fun y hy => by
    simp only [List.mem_cons, List.not_mem_nil, or_false] at hy
    rcases hy with rfl | rfl | rfl | rfl | rfl | rfl | rfl
    · exact o1.same (s2.trans s4)
    · exact .tup (((g2.trans g3).trans g4) _ _ k1) (.pair "hand" _ (.inl rfl) (by omega) (by omega))
    · exact .tup ((g3.trans g4) _ _ k2) (.pair "press" 0 (.inr rfl) (by decide) (by decide))
    · exact .tup (g4 _ _ k3) (.prb "press" true (.inr rfl))
    · exact oz_str (by decide +kernel)
    · exact o2.same s4
    · exact oz_non
  have s14 := (s1.trans s2).trans s4
  clear s1 s2 s4 g2 g3 g4
  tm_at "go"
  refine' g_aFor walk_tup (fun i σ H => ∃ (c3 c4 : Option V) (B5 : Hp) (ps : Array Value), σ = [some (.ref m), some (.ref x), some (.ref pr), c3, c4, none] ∧ Same G4 B5 ∧ Is B5 M ((tRf K, .tbl ps) :: L) H ∧ TabI B5 qRf ps)
    ⟨_, _, G4, _, rfl, fun _ _ e => e, hI, hT⟩ (fun _ _ _ _ ⟨_, _, _, _, _, s5, hI, _⟩ => SqT.of (hI.b (s5 _ _ k4))) ?_ ?_
  · clear hI hT
    rintro i y σ H H' hi ⟨c3, c4, B5, ps, rfl, s5, hI, hT⟩ ⟨rfl, hy⟩
    have hy := (hodd y (List.mem_of_getElem? hy)).same s5
    replace hP := hP.same s5
    replace hpr := hpr.same s5
    tm_at "go"
    refine' ap_law_is_spot (K := K) hI hpr hy (fun s B6 H s6 hI hs => ?_) (fun B6 H s6 hI hno => ?_)
    · tm_at "go"
      exact ⟨_, _, B6, _, rfl, s5.trans s6, hI, hT.same s6⟩
    · replace hy := hy.same s6
      replace hP := hP.same s6
      replace hT := hT.same s6
      obtain ⟨hself, ky, hky⟩ := hy.self
      replace hno := hno.same s6
      tm_at "go"
      refine g_lamG hI hT ?_
      clear hI hT
      intro B7 ps7 H s7 hI hT
      intro f p0 hp0
      replace hI := hI.new (o := .lst []) hp0
      generalize upd H p0 (.lst []) = H at *
      replace hno := hno.same s7
      replace hP := hP.same s7
      obtain ⟨dx, fs, hx1, hx2, hx3⟩ := gI hP
      tm_at "go"
      refine g_aMe (hI.b hx1) hx2 ?_
      tm_at "go"
      refine ⟨rfl, x, y, .int 0, .int (-1), hp, js, B7, M, _, rfl, hI, hP, .inl ⟨hno, fun d H hI => ?_⟩⟩
      refine told_err C2 (.no _ _) hI fun l1 H hI => ?_
      replace hI := hI.forget (L' := (l1, .tup _) :: (tRf K, .tbl ps7) :: L) (by tm_at "sub")
      refine' hI.give .here ?_
      clear hI
      intro B8 s8 hl1 hI
      replace hT := hT.same s8
      replace hno := hno.same s8
      replace hP := hP.same s8
      tm_at "go"
      obtain ⟨fd, rfl⟩ : ∃ q, q = p := ⟨_, rfl⟩
      replace hI := hI.perm (L' := (tRf K, .tbl ps7) :: (fd, .lst [.ref l1]) :: L) (List.Perm.swap _ _ _)
      refine g_lamG hI hT ?_
      clear hI hT
      intro B9 ps9 H s9 hI hT
      intro f p0 hp0
      replace hI := hI.new (o := .lst []) hp0
      generalize upd H p0 (.lst []) = H at *
      replace hno := hno.same s9
      replace hP := hP.same s9
      replace hl1 := s9 _ _ hl1
      obtain ⟨dx, fs, hx1, hx2, hx3⟩ := gI hP
      tm_at "go"
      refine g_aMe (hI.b hx1) hx3 ?_
      tm_at "go"
      refine ⟨rfl, x, y, hp, js, B9, M, _, rfl, hI, hP, .inl ⟨hno, fun d H hI => ?_⟩⟩
      refine told_err C2 (.no _ _) hI fun l2 H hI => ?_
      replace hI := hI.forget (L' := (l2, .tup _) :: (tRf K, .tbl ps9) :: (fd, .lst [.ref l1]) :: L) (by tm_at "sub")
      refine' hI.give .here ?_
      clear hI
      intro B10 s10 hl2 hI
      replace hl1 := s10 _ _ hl1
      replace hT := hT.same s10
      have s610 := ((s7.trans s8).trans s9).trans s10
      replace hself := hself.same s610
      replace hky := Thing.same s610 hky
      tm_at "go"
      refine' g_lcX (xs := [.ref l1, .ref l2]) ([true, true].map V.bl) rfl walk_list hI (by tm_at "wiped") (Nat.le_of_ble_eq_true rfl) (fun D acc H' I => SqL.of (I.get (by tm_at "mem"))) ?_ ?_
      · clear hI
        intro i2 z w D acc H' hz hw hI PY hPY
        have hw : w = .bl true := by
          match i2, hw with
          | 0, hw => cases hw; rfl
          | 1, hw => cases hw; rfl
        subst hw
        have hz : ∃ l, z = .ref l ∧ B10 l = some (.tup [.str "no", .str "place", y]) := by
          match i2, hz with
          | 0, hz => cases hz; exact ⟨_, rfl, hl1⟩
          | 1, hz => cases hz; exact ⟨_, rfl, hl2⟩
        obtain ⟨l, rfl, hl⟩ := hz
        tm_at "go"
        refine' g_wiped (by tm_at "wiped") ?_
        tm_at "go"
        exact ap_law_no (K := K) hI hl hself hky fun H hI => hPY _ hI
      clear hI
      intro D H hI
      tm_at "go"
      refine g_all (l := [true, true]) (P := fun b => b) (SqL.of (hI.get (.head _))) ?_
      replace hI := hI.forget (L' := (tRf K, .tbl ps9) :: L) (by tm_at "sub")
      tm_at "go"
      exact ⟨_, _, B10, _, rfl, (s5.trans s6).trans s610, hI, hT⟩
  clear hI hT
  rintro σ H ⟨c3, c4, B5, ps5, rfl, s5, hI, hT⟩
  replace hP := hP.same s5
  replace hpr := hpr.same s5
  replace hd := hd.same s5
  have s15 := s14.trans s5
  clear s14 s5
  tm_at "go"
  try refine' g_aCl rfl rfl ?_
  refine' ap_law_far (K := K) hI ?_
  clear hI
  intro ft da wa B6 H s6 hI na nb ta tb
  refine' hI.give .here ?_
  clear hI
  intro B7 s7 hft hI
  have s67 := s6.trans s7
  replace hP := hP.same s67
  replace hd := hd.same s67
  replace hT := hT.same s67
  have hfar : ∀ y ∈ [V.ref da, .ref wa], ∃ a, y = .ref a ∧ NoPl K B7 hp y ∧ Thing K B7 y .tup := fun y hy => by
    rcases List.mem_cons.mp hy with rfl | hy
    · exact ⟨_, rfl, (na hp).same s7, Thing.same s7 ta⟩
    · rw [List.mem_singleton.mp hy]
      exact ⟨_, rfl, (nb hp).same s7, Thing.same s7 tb⟩
  have s17 := s15.trans s67
  clear s15 s67
  tm_at "go"
  refine' g_aFor walk_tup (fun i σ H => ∃ (c3 c4 : Option V) (B5 : Hp) (ps : Array Value), σ = [some (.ref m), some (.ref x), some (.ref pr), c3, c4, none] ∧ Same B7 B5 ∧ Is B5 M ((tRf K, .tbl ps) :: L) H ∧ TabI B5 qRf ps)
    ⟨_, _, B7, _, rfl, fun _ _ e => e, hI, hT⟩ (fun _ _ _ _ ⟨_, _, _, _, _, s5, hI, _⟩ => SqT.of (hI.b (s5 _ _ hft))) ?_ ?_
  · clear hI hT
    rintro i y σ H H' hi ⟨c3, c4, B8, ps, rfl, s8, hI, hT⟩ ⟨rfl, hy⟩
    obtain ⟨ya, rfl, hno, hyt⟩ := hfar y (List.mem_of_getElem? hy)
    replace hno := hno.same s8
    replace hyt := Thing.same s8 hyt
    replace hP := hP.same s8
    tm_at "go"
    refine g_lamG hI hT ?_
    clear hI hT
    intro B9 ps9 H s9 hI hT
    intro f p0 hp0
    replace hI := hI.new (o := .lst []) hp0
    generalize upd H p0 (.lst []) = H at *
    replace hno := hno.same s9
    replace hP := hP.same s9
    replace hyt := Thing.same s9 hyt
    obtain ⟨dx, fs, hx1, hx2, hx3⟩ := gI hP
    tm_at "go"
    refine g_aMe (hI.b hx1) hx3 ?_
    tm_at "go"
    refine ⟨rfl, x, .ref ya, hp, js, B9, M, _, rfl, hI, hP, .inl ⟨hno, fun d H hI => ?_⟩⟩
    refine told_err C2 (.no _ _) hI fun l1 H hI => ?_
    replace hI := hI.forget (L' := (l1, .tup _) :: (tRf K, .tbl ps9) :: L) (by tm_at "sub")
    tm_at "go"
    refine g_sl_t hI (SqT.of (hI.get (.head _))) (fun h => absurd h.2 (show ¬ ((2 : Nat) = 3) from by decide)) ?_
    clear hI
    intro p2 H hI
    replace hI : Is B9 M ((p2, .tup [.str "no", .str "place"]) :: (l1, _) :: (tRf K, .tbl ps9) :: L) H := hI
    tm_at "go"
    refine g_ne_i (xs := [.str "no", .str "place"]) (SqT.of (hI.get (by tm_at "mem"))) (SqT.of (hI.get (.head _))) rfl ?_
    replace hI := hI.forget (L' := (tRf K, .tbl ps9) :: L) (by tm_at "sub")
    tm_at "go"
    refine g_lamG hI hT ?_
    clear hI hT
    intro B10 ps10 H s10 hI hT
    intro f p0 hp0
    replace hI := hI.new (o := .lst []) hp0
    generalize upd H p0 (.lst []) = H at *
    replace hP := hP.same s10
    replace hyt := Thing.same s10 hyt
    obtain ⟨dx, fs, hx1, hx2, hx3⟩ := gI hP
    tm_at "go"
    refine g_aMe (hI.b hx1) hx2 ?_
    tm_at "go"
    refine' hI.give .here ?_
    clear hI
    intro B11 s11 htp hI
    refine ⟨rfl, x, .ref p, .ref ya, .ref ya, hp, js, B11, M, _, rfl, hI, hP.same s11, .inr ⟨("hand", 1), ⟨⟨p, rfl, htp⟩, spot_hand hg⟩, .inl ⟨⟨_, Thing.same s11 hyt⟩, rfl, fun d H hI => ?_⟩⟩⟩
    refine told_err C2 (.val _) hI fun l1 H hI => ?_
    tm_at "go"
    refine g_ne_i (xs := [.str "value", .str "hours"]) (SqT.of (hI.get (by tm_at "mem"))) (SqT.of (hI.get (.head _))) rfl ?_
    replace hI := hI.forget (L' := (tRf K, .tbl ps10) :: L) (by tm_at "sub")
    tm_at "go"
    exact ⟨_, _, B11, _, rfl, ((s8.trans s9).trans s10).trans s11, hI, hT.same s11⟩
  clear hI hT
  rintro σ H ⟨c3, c4, B8, ps8, rfl, s8, hI, hT⟩
  replace hP := hP.same s8
  replace hd := hd.same s8
  have s18 := s17.trans s8
  clear s17 s8
  tm_at "go"
  refine' ap_law_odd (K := K) hI hd (by omega) ?_
  clear hI hd
  intro y3 B9 H M s9 hI hd o3
  replace hP := hP.same s9
  replace hT := hT.same s9
  tm_at "go"
  refine' ap_law_odd (K := K) hI hd (by omega) ?_
  clear hI hd
  intro y4 B10 H M s10 hI hd o4
  replace hP := hP.same s10
  replace hT := hT.same s10
  tm_at "go"
  refine' hI.give .here ?_
  clear hI
  intro B11 s11 htt hI
  replace hP := hP.same s11
  replace hT := hT.same s11
  replace hd := hd.same s11
  have s8b := (s9.trans s10).trans s11
  have hth : ∀ y ∈ [y3, .int 0, .int (1000000 + 1), .bl true, .non, y4, .str "1", .int (-1)], ∃ k, Thing K B11 y k := fun y hy => by
    simp only [List.mem_cons, List.not_mem_nil, or_false] at hy
    rcases hy with rfl | rfl | rfl | rfl | rfl | rfl | rfl | rfl
    · exact (o3.same (s10.trans s11)).self.2
    · exact ⟨_, thing_int _⟩
    · exact ⟨_, thing_int _⟩
    · exact ⟨_, thing_bl _⟩
    · exact ⟨_, thing_non⟩
    · exact (o4.same s11).self.2
    · exact ⟨_, thing_str ((Sh.lit (n := 8) (by decide +kernel)).plain (by decide))⟩
    · exact ⟨_, thing_int _⟩
  have s1b := s18.trans s8b
  clear s18 s8b
  tm_at "go"
  refine' g_aFor walk_tup (fun i σ H => ∃ (c3 c4 : Option V) (B5 : Hp) (ps : Array Value), σ = [some (.ref m), some (.ref x), some (.ref pr), c3, c4, none] ∧ Same B11 B5 ∧ Is B5 M ((tRf K, .tbl ps) :: L) H ∧ TabI B5 qRf ps)
    ⟨_, _, B11, _, rfl, fun _ _ e => e, hI, hT⟩ (fun _ _ _ _ ⟨_, _, _, _, _, s5, hI, _⟩ => SqT.of (hI.b (s5 _ _ htt))) ?_ ?_
  · clear hI hT
    rintro i y σ H H' hi ⟨c3, c4, B12, ps, rfl, s12, hI, hT⟩ ⟨rfl, hy⟩
    obtain ⟨ky, hky⟩ := hth y (List.mem_of_getElem? hy)
    replace hky := Thing.same s12 hky
    replace hP := hP.same s12
    have part2 : ∀ (bk ct : L2.St → Hp → Prop) (B13 : Hp) (ps : Array Value) (H : Hp), Same B12 B13 → Is B13 M ((tRf K, .tbl ps) :: L) H → TabI B13 qRf ps → t_law_refused_5 K ⟨fun σ H => ∃ (c3 c4 : Option V) (B5 : Hp) (ps : Array Value), σ = [some (.ref m), some (.ref x), some (.ref pr), c3, c4, none] ∧ Same B11 B5 ∧ Is B5 M ((tRf K, .tbl ps) :: L) H ∧ TabI B5 qRf ps, Q, bk, ct⟩ [some (.ref m), some (.ref x), some (.ref pr), some y, c4, none] H := by
      intro bk ct B13 ps H s13 hI hT
      replace hky := Thing.same s13 hky
      replace hP := hP.same s13
      tm_at "go"
      refine' ap_law_whole (K := K) (Thing.same hI.ex hky) ?_
      cases hw : isWhole y 0 1000000 with
      | true =>
        tm_at "go"
        exact ⟨_, _, B13, _, rfl, s12.trans s13, hI, hT⟩
      | false =>
        tm_at "go"
        refine g_lamG hI hT ?_
        clear hI hT
        intro B14 ps14 H s14 hI hT
        intro f p0 hp0
        replace hI := hI.new (o := .lst []) hp0
        generalize upd H p0 (.lst []) = H at *
        replace hP := hP.same s14
        replace hky := Thing.same s14 hky
        obtain ⟨dx, fs, hx1, hx2, hx3⟩ := gI hP
        tm_at "go"
        refine g_aMe (hI.b hx1) hx2 ?_
        tm_at "go"
        refine' hI.give .here ?_
        clear hI
        intro B15 s15 htp hI
        refine ⟨rfl, x, .ref p, .int 1, y, hp, js, B15, M, _, rfl, hI, hP.same s15, .inr ⟨("press", 1), ⟨⟨p, rfl, htp⟩, spot_press hg⟩, .inr ⟨1, rfl, by decide, by decide, .inl ⟨⟨_, Thing.same s15 hky⟩, hw, fun d H hI => ?_⟩⟩⟩⟩
        refine told_err C2 (.val _) hI fun l1 H hI => ?_
        tm_at "go"
        refine g_ne_i (xs := [.str "value", .str "since"]) (SqT.of (hI.get (by tm_at "mem"))) (SqT.of (hI.get (.head _))) rfl ?_
        replace hI := hI.forget (L' := (tRf K, .tbl ps14) :: L) (by tm_at "sub")
        tm_at "go"
        exact ⟨_, _, B15, _, rfl, ((s12.trans s13).trans s14).trans s15, hI, hT.same s15⟩
    refine' g_seq ?_
    tm_at "go"
    refine' ap_law_whole (K := K) (Thing.same hI.ex hky) ?_
    cases hw : isWhole y 1 1000000 with
    | true =>
      refine g_tru_bl ?_
      refine g_ntrue ?_
      refine g_next ?_
      exact part2 _ _ B12 _ _ (fun _ _ e => e) hI hT
    | false =>
      tm_at "go"
      refine g_lamG hI hT ?_
      clear hI hT
      intro B14 ps14 H s14 hI hT
      intro f p0 hp0
      replace hI := hI.new (o := .lst []) hp0
      generalize upd H p0 (.lst []) = H at *
      replace hP := hP.same s14
      replace hky := Thing.same s14 hky
      obtain ⟨dx, fs, hx1, hx2, hx3⟩ := gI hP
      tm_at "go"
      refine g_aMe (hI.b hx1) hx2 ?_
      tm_at "go"
      refine' hI.give .here ?_
      clear hI
      intro B15 s15 htp hI
      refine ⟨rfl, x, .ref p, y, .non, hp, js, B15, M, _, rfl, hI, hP.same s15, .inr ⟨("hand", 1), ⟨⟨p, rfl, htp⟩, spot_hand hg⟩, .inl ⟨⟨_, Thing.same s15 hky⟩, hw, fun d H hI => ?_⟩⟩⟩
      refine told_err C2 (.val _) hI fun l1 H hI => ?_
      tm_at "go"
      refine g_ne_i (xs := [.str "value", .str "hours"]) (SqT.of (hI.get (by tm_at "mem"))) (SqT.of (hI.get (.head _))) rfl ?_
      replace hI := hI.forget (L' := (tRf K, .tbl ps14) :: L) (by tm_at "sub")
      refine g_bl ?_
      refine g_false ?_
      refine g_next ?_
      exact part2 _ _ B15 _ _ (s14.trans s15) hI (hT.same s15)
  clear hI hT
  rintro σ H ⟨c3, c4, B12, ps12, rfl, s12, hI, hT⟩
  tm_at "go"
  exact q B12 ps12 M H (s1b.trans s12) hI hT ((hd.mono (by omega)).same s12)
def busyB (b f : Int) (r : RowT) : Bool := decide (r.b < b + f) && decide (b < r.e)
def isFree (rs : List RowT) (b f : Int) : Bool := (rs.filter (busyB b f)).isEmpty
theorem isFree_perm {rs ss : List RowT} (h : rs.Perm ss) (b f : Int) : isFree rs b f = isFree ss b f := by
  unfold isFree
  have := (h.filter (busyB b f)).length_eq
  cases h1 : rs.filter (busyB b f) <;> cases h2 : ss.filter (busyB b f) <;> simp_all
theorem isFree_all {rs : List RowT} {b f : Int} (h : ∀ r ∈ rs, r.e ≤ b ∨ b + f ≤ r.b) : isFree rs b f = true := by
  unfold isFree
  rw [List.filter_eq_nil_iff.mpr fun r hr => ?_]
  · rfl
  · intro z
    unfold busyB at z
    rw [Bool.and_eq_true, decide_eq_true_eq, decide_eq_true_eq] at z
    have := h r hr
    omega
theorem isFree_not {rs : List RowT} {b f : Int} (h : ∃ r ∈ rs, r.b < b + f ∧ b < r.e) : isFree rs b f = false := by
  obtain ⟨r, hr, h1, h2⟩ := h
  unfold isFree
  cases e : rs.filter (busyB b f) with
  | nil =>
    have := List.filter_eq_nil_iff.mp e r hr
    exact absurd (by unfold busyB; rw [decide_eq_true h1, decide_eq_true h2]; rfl) this
  | cons _ _ => rfl
/-- what the law's own looking comes to -/
structure Least (rs : List RowT) (f t u : Int) : Prop where
  mem : u = t ∨ ∃ r ∈ rs, t < r.e ∧ r.e = u
  free : isFree rs u f = true
  ge : t ≤ u
  not : ∀ v, t ≤ v → v < u → isFree rs v f = false
theorem least_free {all : List RowT} {s : Spot} {f t : Int} (ha : Apart (atPl all s)) (hf : 0 < f) : Least (all.filter fun r => decide (r.s = s)) f t (freeFrom (atPl all s) f t) := by
  have hp := atPl_perm s (all := all)
  have g := free_ge (atPl all s) f t
  refine ⟨?_, ?_, g, fun v h0 h1 => ?_⟩
  · rcases free_from (atPl all s) f t with e | ⟨r, hr, e⟩
    · exact .inl e
    · by_cases h : freeFrom (atPl all s) f t = t
      · exact .inl h
      · exact .inr ⟨r, hp.mem_iff.mp hr, by omega, e.symm⟩
  · rw [← isFree_perm hp]
    exact isFree_all fun r hr => (free_clear ha hf r hr)
  · rw [← isFree_perm hp]
    obtain ⟨r, hr, a, b⟩ := free_least ha hf h0 h1
    exact isFree_not ⟨r, hr, a, b⟩
theorem all2_filt {α β : Type} {R : α → β → Prop} (p : β → Bool) : ∀ {xs : List α} {ys : List β}, All2 R xs ys → All2 R (((xs.zip ys).filter fun z => p z.2).map Prod.fst) (ys.filter p)
  | _, _, .nil => .nil
  | x :: xs, y :: ys, .cons h t => by
    rw [List.zip_cons_cons, List.filter_cons, List.filter_cons]
    by_cases hp : p y = true
    · rw [if_pos hp, if_pos hp]
      exact .cons h (all2_filt p t)
    · rw [if_neg hp, if_neg hp]
      exact all2_filt p t
theorem zip_at {α β : Type} {xs : List α} {ys : List β} {i : Nat} {x : α} {z : α × β} (h1 : xs[i]? = some x) (h2 : (xs.zip ys)[i]? = some z) : z.1 = x ∧ ys[i]? = some z.2 := by
  rw [List.getElem?_zip_eq_some] at h2
  exact ⟨by rw [h2.1] at h1; exact (Option.some.inj h1), h2.2⟩
def sp_law_is_free (K : PySem.W.Frag) : Sp := fun vs H Q _ => vs.length = 3 ∧ ∃ (a : Addr) (b f : Int) (xs : List V) (rs : List RowT) (B : Hp) (M L : List (Addr × HO)), vs = [.ref a, .int b, .int f] ∧ Is B M L H ∧ B a = some (.lst xs) ∧ RowsR B xs rs ∧ rs.length ≤ 1000 ∧ ∀ H', Is B M L H' → Q (.bl (isFree rs b f)) H'
theorem ap_law_is_free {K : PySem.W.Frag} {H : Hp} {Q : VK} {E : XK} {a : Addr} {b f : Int} {xs : List V} {rs : List RowT} {B : Hp} {M L : List (Addr × HO)} (I : Is B M L H) (ha : B a = some (.lst xs)) (hr : RowsR B xs rs) (hl : rs.length ≤ 1000) (q : ∀ H', Is B M L H' → Q (.bl (isFree rs b f)) H') : sp_law_is_free K [.ref a, .int b, .int f] H Q E := ⟨rfl, a, b, f, xs, rs, B, M, L, rfl, I, ha, hr, hl, q⟩
def t_law_is_free (K : PySem.W.Frag) : TS := (tRet (tOp (rEqNil K) (tLc (iAny K (tVar 0)) (gName 3) (tAnd (tTest (tOp (rI0 fun i j => .bl (decide (i < j))) (tOp (rIx K) (tVar 3) (tC (.int 3))) (tOp (rAddA K) (tVar 1) (tVar 2)))) (tTest (tOp (rI0 fun i j => .bl (decide (i < j))) (tVar 1) (tOp (rIx K) (tVar 3) (tC (.int 4)))))) (tVar 3) [3]) (tLst tNil)))
theorem rd_law_is_free {K : PySem.W.Frag} (vs : List V) (H : Hp) (Q : VK) (E : XK) (h : sp_law_is_free K vs H Q E) : t_law_is_free K { nx := fun _ H' => Q .non H', rt := Q } (start ["there", "begun", "few", "one"] vs) H := by
  obtain ⟨_, a, b, f, xs, rs, B, M, L, rfl, hI, ha, hr, hl, q⟩ := h
  show t_law_is_free K ⟨_, _, _, _⟩ [some (.ref a), some (.int b), some (.int f), none] H
  have hxl := hr.len
  unfold t_law_is_free
  tm_at "go"
  refine' g_lcF (xs.zip rs) (by rw [List.length_zip]; omega) walk_list hI (by tm_at "wiped") (by omega) (fun z => busyB b f z.2) (fun z => z.1) (fun D acc H' I => SqL.of (I.b ha)) ?_ ?_
  · clear hI
    intro i x z D acc H' hx hz hI PY PN hY hN
    obtain ⟨e1, e2⟩ := zip_at hx hz
    obtain ⟨r, er, c, sp, rfl, b1, b2⟩ := hr.get hx
    rw [er] at e2
    have e2 : r = z.2 := Option.some.inj e2
    rw [← e2, e1] at hY
    rw [← e2] at hN
    tm_at "go"
    refine' g_wiped (by tm_at "wiped") ?_
    tm_at "go"
    refine g_ix_t (SqT.of (hI.b b1)) (atI_of (by decide) rfl) ?_
    tm_at "go"
    refine g_dec (fun h1 => ?_) (fun h1 => ?_)
    · tm_at "go"
      refine g_ix_t (SqT.of (hI.b b1)) (atI_of (by decide) rfl) ?_
      tm_at "go"
      refine g_dec (fun h2 => ?_) (fun h2 => ?_)
      · tm_at "go"
        exact hY _ (by unfold busyB; rw [decide_eq_true h1, decide_eq_true h2]; rfl) hI
      · exact hN _ (by unfold busyB; rw [decide_eq_false h2, Bool.and_false]) hI
    · tm_at "go"
      exact hN _ (by unfold busyB; rw [decide_eq_false h1, Bool.false_and]) hI
  clear hI
  intro D H hI
  tm_at "go"
  refine g_eqNil (SqL.of (hI.get (by tm_at "mem"))) (SqL.of (hI.get (.head _))) ?_
  have e : (((xs.zip rs).filter fun z => busyB b f z.2).map fun z => z.1).isEmpty = isFree rs b f := by
    have := (all2_filt (busyB b f) hr).len
    unfold isFree
    cases h1 : ((xs.zip rs).filter fun z => busyB b f z.2) <;> cases h2 : rs.filter (busyB b f) <;> simp_all
  rw [e]
  exact q _ (hI.forget (by tm_at "sub"))
def sp_law_least (K : PySem.W.Frag) : Sp := fun vs H Q _ => vs.length = 3 ∧ ∃ (a : Addr) (f t u : Int) (xs : List V) (rs : List RowT) (B : Hp) (M L : List (Addr × HO)), vs = [.ref a, .int f, .int t] ∧ Is B M L H ∧ B a = some (.lst xs) ∧ RowsR B xs rs ∧ rs.length ≤ 1000 ∧ Least rs f t u ∧ ∀ H', Is B M L H' → Q (.int u) H'
theorem ap_law_least {K : PySem.W.Frag} {H : Hp} {Q : VK} {E : XK} {a : Addr} {f t u : Int} {xs : List V} {rs : List RowT} {B : Hp} {M L : List (Addr × HO)} (I : Is B M L H) (ha : B a = some (.lst xs)) (hr : RowsR B xs rs) (hl : rs.length ≤ 1000) (hu : Least rs f t u) (q : ∀ H', Is B M L H' → Q (.int u) H') : sp_law_least K [.ref a, .int f, .int t] H Q E := ⟨rfl, a, f, t, u, xs, rs, B, M, L, rfl, I, ha, hr, hl, hu, q⟩
abbrev t_law_least_0 (K : PySem.W.Frag) : TS := (tIfS (tTr K (tCl 3 0 (sp_law_is_free K) (fun vs zs => pick .non [0, 1, 2] (vs ++ zs)) E0 (tCons (tVar 0) (tCons (tVar 3) (tCons (tVar 1) tNil))) tNil)) (tRet (tVar 3)) tNext)
abbrev t_law_least_1 (K : PySem.W.Frag) : TS := (tRet (tC .non))
def t_law_least (K : PySem.W.Frag) : TS := (tSeq (tFor (iAny K (tCB (rSortedI K) (tCons (tOp (rAddA K) (tLst (tCons (tVar 2) tNil)) (tLc (iAny K (tVar 0)) (gName 4) (tTest (tOp (rI0 fun i j => .bl (decide (j < i))) (tOp (rIx K) (tVar 4) (tC (.int 4))) (tVar 2))) (tOp (rIx K) (tVar 4) (tC (.int 4))) [4])) tNil))) (gName 3) (t_law_least_0 K)) (t_law_least_1 K))
theorem rd_law_least {K : PySem.W.Frag} (vs : List V) (H : Hp) (Q : VK) (E : XK) (h : sp_law_least K vs H Q E) : t_law_least K { nx := fun _ H' => Q .non H', rt := Q } (start ["there", "few", "early", "mark", "one"] vs) H := by
  obtain ⟨_, a, f, t, u, xs, rs, B, M, L, rfl, hI, ha, hr, hl, hu, q⟩ := h
  show t_law_least K ⟨_, _, _, _⟩ [some (.ref a), some (.int f), some (.int t), none, none] H
  have hxl := hr.len
  unfold t_law_least
  tm_at "go"
  refine' g_lcF rs (by omega) walk_list hI (by tm_at "wiped") (by omega) (fun r => decide (t < r.e)) (fun r => V.int r.e) (fun D acc H' I => SqL.of (I.b ha)) ?_ ?_
  · clear hI
    intro i x r D acc H' hx hz hI PY PN hY hN
    obtain ⟨r', er, c, sp, rfl, b1, b2⟩ := hr.get hx
    rw [hz] at er
    cases er
    tm_at "go"
    refine' g_wiped (by tm_at "wiped") ?_
    tm_at "go"
    refine g_ix_t (SqT.of (hI.b b1)) (atI_of (by decide) rfl) ?_
    tm_at "go"
    refine g_dec (fun h1 => ?_) (fun h1 => ?_)
    · tm_at "go"
      refine g_ix_t (SqT.of (hI.b b1)) (atI_of (by decide) rfl) ?_
      exact hY _ (decide_eq_true h1) hI
    · exact hN _ (decide_eq_false h1) hI
  clear hI
  intro D H hI
  tm_at "go"
  refine g_add_l hI (hI.get (by tm_at "mem")) (hI.get (.head _)) (by
    have := List.length_filter_le (fun r : RowT => decide (t < r.e)) rs
    rw [List.length_map, List.length_singleton]
    omega) ?_
  clear hI
  intro p2 H hI
  obtain ⟨cs, hcs⟩ : ∃ cs : List Int, cs = t :: (rs.filter fun r => decide (t < r.e)).map (·.e) := ⟨_, rfl⟩
  have ecs : ([V.int t] : List V) ++ (rs.filter fun r => decide (t < r.e)).map (fun r => V.int r.e) = cs.map V.int := by
    rw [hcs, List.map_cons, List.map_map]
    rfl
  rw [ecs] at hI
  tm_at "go"
  refine g_sortedI hI (SqL.of (hI.get (.head _))) ?_
  clear hI
  intro ms p3 H hpm hup hI
  replace hI := hI.forget (L' := (p3, .lst (ms.map V.int)) :: L) (by tm_at "sub")
  have humem : u ∈ ms := by
    rw [hpm.mem_iff, hcs]
    rcases hu.mem with e | ⟨r, hr, h1, h2⟩
    · rw [e]
      exact List.mem_cons_self
    · exact List.mem_cons_of_mem _ (List.mem_map.mpr ⟨r, List.mem_filter.mpr ⟨hr, decide_eq_true h1⟩, h2⟩)
  have hge : ∀ v ∈ ms, t ≤ v := fun v hv => by
    rw [hpm.mem_iff, hcs] at hv
    rcases List.mem_cons.mp hv with e | hv
    · omega
    · obtain ⟨r, hr, e⟩ := List.mem_map.mp hv
      have := of_decide_eq_true (List.mem_filter.mp hr).2
      omega
  tm_at "go"
  refine' g_aFor (walk_list (xs := ms.map V.int)) (fun i σ H => ∃ c : Option V, σ = [some (.ref a), some (.int f), some (.int t), c, none] ∧ Is B M ((p3, .lst (ms.map V.int)) :: L) H ∧ ∀ v ∈ ms.take i, v < u)
    ⟨_, rfl, hI, fun _ h => by cases h⟩ (fun _ _ _ _ ⟨_, _, hI, _⟩ => SqL.of (hI.get (.head _))) ?_ ?_
  · clear hI
    rintro i x σ H H' hi ⟨c, rfl, hI, hbel⟩ ⟨rfl, hx⟩
    rw [List.getElem?_map] at hx
    obtain ⟨v, ev, rfl⟩ := Option.map_eq_some_iff.mp hx
    have hvm := List.mem_of_getElem? ev
    tm_at "go"
    refine' ap_law_is_free (K := K) hI ha hr hl ?_
    clear hI
    intro H hI
    have hle : v ≤ u := by
      obtain ⟨j, hj, ej⟩ := List.mem_iff_getElem.mp humem
      rcases Nat.lt_or_ge j i with h | h
      · have := hbel u (by rw [← ej]; exact List.mem_iff_getElem.mpr ⟨j, by rw [List.length_take]; omega, by rw [List.getElem_take]⟩)
        omega
      · obtain ⟨hi2, ei⟩ := List.getElem?_eq_some_iff.mp ev
        rcases Nat.eq_or_lt_of_le h with e | h
        · subst e
          omega
        · have := List.pairwise_iff_getElem.mp hup i j hi2 hj h
          omega
    rcases Int.lt_or_eq_of_le hle with h | h
    · rw [hu.not v (hge v hvm) h]
      tm_at "go"
      refine ⟨_, rfl, hI, fun w hw => ?_⟩
      rw [List.take_add_one, ev] at hw
      rcases List.mem_append.mp hw with hw | hw
      · exact hbel w hw
      · have : w = v := by simpa using hw
        omega
    · rw [h, hu.free]
      tm_at "go"
      exact q _ (hI.forget (by tm_at "sub"))
  · rintro σ H ⟨c, rfl, hI, hbel⟩
    rw [List.length_map, List.take_of_length_le (Nat.le_refl _)] at hbel
    exact absurd (hbel u humem) (Int.lt_irrefl _)
def sp_law_wish (K : PySem.W.Frag) : Sp := fun vs H Q _ => vs.length = 2 ∧ ∃ (m rp : Addr) (n : Int) (xs : List V) (rs : List RowT) (B : Hp) (M L : List (Addr × HO)), vs = [.ref m, .ref rp] ∧ Is B M L H ∧ Dr m n B M ∧ n < 2 ^ 37 ∧ B rp = some (.lst xs) ∧ RowsR B xs rs ∧ rs.length ≤ 1000 ∧
  ∀ (p : Addr) (f t : Int) (H' : Hp) (M' : List (Addr × HO)), Is B M' ((p, .tup [.int f, .int t]) :: L) H' → Dr m (n + 12) B M' → 1 ≤ f → f ≤ 3000 → 0 ≤ t → t ≤ 1000000 → Q (.ref p) H'
theorem ap_law_wish {K : PySem.W.Frag} {B H : Hp} {M L : List (Addr × HO)} {Q : VK} {E : XK} {m rp : Addr} {n : Int} {xs : List V} {rs : List RowT} (I : Is B M L H) (d : Dr m n B M) (h : n < 2 ^ 37) (hx : B rp = some (.lst xs)) (hr : RowsR B xs rs) (hl : rs.length ≤ 1000)
    (q : ∀ (p : Addr) (f t : Int) (H' : Hp) (M' : List (Addr × HO)), Is B M' ((p, .tup [.int f, .int t]) :: L) H' → Dr m (n + 12) B M' → 1 ≤ f → f ≤ 3000 → 0 ≤ t → t ≤ 1000000 → Q (.ref p) H') : sp_law_wish K [.ref m, .ref rp] H Q E := ⟨rfl, m, rp, n, xs, rs, B, M, L, rfl, I, d, h, hx, hr, hl, q⟩
abbrev t_law_wish_0 (K : PySem.W.Frag) : TS := (tAsg (tCB rMax2 (tCons (tC (.int 0)) (tCons (tOp (rAddA K) (tOp (rI0 fun i j => .int (i - j)) (tOp (rIx K) (tVar 4) (tOp (rAddA K) (tC (.int 3)) (tCl 2 0 (sp_law_draw K) (fun vs zs => pick .non [0, 1] (vs ++ zs)) E0 (tCons (tVar 0) (tCons (tC (.int 2)) tNil)) tNil))) (tC (.int 1))) (tCl 2 0 (sp_law_draw K) (fun vs zs => pick .non [0, 1] (vs ++ zs)) E0 (tCons (tVar 0) (tCons (tC (.int 3)) tNil)) tNil)) tNil))) (gName 3))
abbrev t_law_wish_1 (K : PySem.W.Frag) : TS := (tRet (tTup (tCons (tVar 2) (tCons (tCB rMin2 (tCons (tVar 3) (tCons (tOp (rI CPow fun i j => .int (i ^ j.toNat)) (tC (.int 10)) (tC (.int 6))) tNil))) tNil))))
abbrev t_law_wish_2 (K : PySem.W.Frag) : TS := (tSeq (tIfS (tAnd (tTest (tOp (rNeNil K) (tVar 1) (tLst tNil))) (tTest (tOp (rI0 fun i j => .bl (decide (j < i))) (tCl 2 0 (sp_law_draw K) (fun vs zs => pick .non [0, 1] (vs ++ zs)) E0 (tCons (tVar 0) (tCons (tC (.int 3)) tNil)) tNil) (tC (.int 0))))) (tSeq (tAsg (tOp (rIx K) (tVar 1) (tCl 2 0 (sp_law_draw K) (fun vs zs => pick .non [0, 1] (vs ++ zs)) E0 (tCons (tVar 0) (tCons (tCB (rLen K) (tCons (tVar 1) tNil)) tNil)) tNil)) (gName 4)) (t_law_wish_0 K)) tNext) (t_law_wish_1 K))
abbrev t_law_wish_3 (K : PySem.W.Frag) : TS := (tSeq (tAsg (tOp (rIx K) (tLst (tCons (tC (.int 0)) (tCons (tCl 2 0 (sp_law_draw K) (fun vs zs => pick .non [0, 1] (vs ++ zs)) E0 (tCons (tVar 0) (tCons (tC (.int 400)) tNil)) tNil) (tCons (tOp (rI0 fun i j => .int (i - j)) (tOp (rI CPow fun i j => .int (i ^ j.toNat)) (tC (.int 10)) (tC (.int 6))) (tCl 2 0 (sp_law_draw K) (fun vs zs => pick .non [0, 1] (vs ++ zs)) E0 (tCons (tVar 0) (tCons (tC (.int 2)) tNil)) tNil)) (tCons (tCl 2 0 (sp_law_draw K) (fun vs zs => pick .non [0, 1] (vs ++ zs)) E0 (tCons (tVar 0) (tCons (tOp (rI CPow fun i j => .int (i ^ j.toNat)) (tC (.int 10)) (tC (.int 6))) tNil)) tNil) tNil))))) (tCl 2 0 (sp_law_draw K) (fun vs zs => pick .non [0, 1] (vs ++ zs)) E0 (tCons (tVar 0) (tCons (tC (.int 4)) tNil)) tNil)) (gName 3)) (t_law_wish_2 K))
def t_law_wish (K : PySem.W.Frag) : TS := (tSeq (tAsg (tOp (rAddA K) (tC (.int 1)) (tOp (rIx K) (tLst (tCons (tC (.int 0)) (tCons (tCl 2 0 (sp_law_draw K) (fun vs zs => pick .non [0, 1] (vs ++ zs)) E0 (tCons (tVar 0) (tCons (tC (.int 5)) tNil)) tNil) (tCons (tCl 2 0 (sp_law_draw K) (fun vs zs => pick .non [0, 1] (vs ++ zs)) E0 (tCons (tVar 0) (tCons (tC (.int 300)) tNil)) tNil) (tCons (tCl 2 0 (sp_law_draw K) (fun vs zs => pick .non [0, 1] (vs ++ zs)) E0 (tCons (tVar 0) (tCons (tC (.int 3000)) tNil)) tNil) tNil))))) (tCl 2 0 (sp_law_draw K) (fun vs zs => pick .non [0, 1] (vs ++ zs)) E0 (tCons (tVar 0) (tCons (tC (.int 4)) tNil)) tNil))) (gName 2)) (t_law_wish_3 K))
theorem rd_law_wish {K : PySem.W.Frag} (vs : List V) (H : Hp) (Q : VK) (E : XK) (h : sp_law_wish K vs H Q E) : t_law_wish K { nx := fun _ H' => Q .non H', rt := Q } (start ["m", "rows", "few", "early", "row"] vs) H := by
  obtain ⟨_, m, rp, n, xs, rs, B, M, L, rfl, hI, hd, hn, hx, hr, hl, q⟩ := h
  show t_law_wish K ⟨_, _, _, _⟩ [some (.ref m), some (.ref rp), none, none, none] H
  have hxl := hr.len
  unfold t_law_wish
  tm_at "go"
  tm_at "draw"
  tm_at "go"
  tm_at "draw"
  tm_at "go"
  tm_at "draw"
  tm_at "go"
  tm_at "draw"
  refine g_ix_ints (lo := 0) (hi := 2999) (by tm_at "sq") (by repeat (first | exact Ints.nil | refine Ints.cons (by omega) ?_)) hr0 (by tm_at "arith") ?_
  intro f hf0 hf1
  replace hI := hI.forget (L' := L) (by tm_at "sub")
  tm_at "go"
  tm_at "draw"
  tm_at "go"
  tm_at "draw"
  tm_at "go"
  tm_at "draw"
  tm_at "go"
  tm_at "draw"
  refine g_ix_ints (lo := 0) (hi := 1000000) (by tm_at "sq") (by repeat (first | exact Ints.nil | refine Ints.cons (by omega) ?_)) hr0 (by tm_at "arith") ?_
  intro t ht0 ht1
  replace hI := hI.forget (L' := L) (by tm_at "sub")
  have fin : ∀ (t : Int) (c4 : Option V) (H : Hp) (M : List (Addr × HO)), 0 ≤ t → Is B M L H → Dr m (n + 12) B M → t_law_wish_1 K ⟨fun _ H' => Q .non H', Q, fun _ _ => False, fun _ _ => False⟩ [some (.ref m), some (.ref rp), some (.int (1 + f)), some (.int t), c4] H := by
    intro t c4 H M ht hI hd
    tm_at "go"
    exact q _ _ _ _ M hI hd (by omega) (by omega) (by omega) (by omega)
  tm_at "go"
  refine g_neNil (SqL.of (hI.b hx)) (SqL.of (hI.get (.head _))) ?_
  replace hI := hI.forget (L' := L) (by tm_at "sub")
  refine g_bl ?_
  refine g_nb (fun he => ?_) (fun he => ?_)
  · have hpos : 0 < xs.length := by
      cases xs with
      | nil => cases he
      | cons _ _ => exact Nat.succ_pos _
    tm_at "go"
    tm_at "draw"
    tm_at "go"
    refine g_dec (fun _ => ?_) (fun _ => ?_)
    · tm_at "go"
      tm_at "draw"
      revert r
      intro spot p0 p1
      obtain ⟨y, hy⟩ : ∃ y, xs[spot.toNat]? = some y := ⟨_, List.getElem?_eq_getElem (by omega)⟩
      obtain ⟨rr, er, c, sp, rfl, b1, b2⟩ := hr.get hy
      refine g_ix_l (SqL.of (hI.b hx)) (atI_of p0 hy) ?_
      tm_at "go"
      tm_at "draw"
      have two : ∃ w : Int, atI [V.int rr.n, .int rr.k, .ref sp, .int rr.b, .int rr.e] (3 + r) = some (.int w) := by
        have : r = 0 ∨ r = 1 := by omega
        rcases this with rfl | rfl
        · exact ⟨_, atI_of (by decide) rfl⟩
        · exact ⟨_, atI_of (by decide) rfl⟩
      obtain ⟨w, hw⟩ := two
      tm_at "go"
      refine g_ix_t (SqT.of (hI.b b1)) hw ?_
      tm_at "go"
      tm_at "draw"
      tm_at "go"
      exact q _ _ _ _ _ hI (hd.mono (by omega)) (by omega) (by omega) (by omega) (by omega)
    · tm_at "next"
      exact fin _ _ _ _ ht0 hI (hd.mono (by omega))
  · tm_at "next"
    exact fin _ _ _ _ ht0 hI (hd.mono (by omega))
structure Lay (d : PyData) (k : Nat) : Prop where
  lay : d.canLay0 = true
  dep : d.depth ≤ k
theorem layAll0 : ∀ {ds : List PyData}, (∀ d ∈ ds, d.canLay0 = true) → PyData.canLayAll0 ds = true
  | [], _ => by simp [PyData.canLayAll0]
  | d :: ds, h => by
    have h1 := layAll0 (ds := ds) fun x hx => h x (List.mem_cons_of_mem _ hx)
    have h2 := h d List.mem_cons_self
    simp [PyData.canLayAll0, h1, h2]
theorem depAll : ∀ {ds : List PyData} {k : Nat}, (∀ d ∈ ds, d.depth ≤ k) → PyData.depthAll ds ≤ k
  | [], k, _ => by simp [PyData.depthAll]
  | d :: ds, k, h => by
    have h1 := depAll (ds := ds) (k := k) fun x hx => h x (List.mem_cons_of_mem _ hx)
    have h2 := h d List.mem_cons_self
    simp only [PyData.depthAll]
    omega
theorem Lay.lst {ds : List PyData} {k : Nat} (h : ∀ d ∈ ds, Lay d k) : Lay (.list ds) (k + 1) :=
  ⟨by simp only [PyData.canLay0]; exact layAll0 fun d hd => (h d hd).lay, by have := depAll (k := k) fun d hd => (h d hd).dep; simp only [PyData.depth]; omega⟩
theorem Lay.tup {ds : List PyData} {k : Nat} (h : ∀ d ∈ ds, Lay d k) : Lay (.tuple ds) (k + 1) :=
  ⟨by simp only [PyData.canLay0]; exact layAll0 fun d hd => (h d hd).lay, by have := depAll (k := k) fun d hd => (h d hd).dep; simp only [PyData.depth]; omega⟩
theorem lay_int (i : Int) (k : Nat) : Lay (.int i) k := ⟨by simp [PyData.canLay0], by simp [PyData.depth]⟩
theorem lay_str {z : Str} (k : Nat) (h : ∀ c ∈ z.cps.toList, c < 128) : Lay (.str z) k := ⟨Shn.lay (.str (k := 0) h), by simp [PyData.depth]⟩
theorem Lay.mono {d : PyData} {k m : Nat} (h : Lay d k) (e : k ≤ m) : Lay d m := ⟨h.lay, Nat.le_trans h.dep e⟩
theorem Lay.shaped {d : PyData} {k : Nat} (h : Lay d k) (hk : k ≤ 64) : SeqAt.shaped d = true := by
  have h2 := h.dep
  show (d.canLay0 && decide (d.depth ≤ 64)) = true
  rw [h.lay, Bool.true_and]
  exact decide_eq_true (by omega)
theorem spotA_kd {hp : Nat × Nat} {s : Spot} (h : s ∈ spotsA hp) : IsKd s.1 := by
  rcases List.mem_append.mp h with h | h
  · exact .inl (spotsOf_kd h)
  · exact .inr (spotsOf_kd h)
theorem kd_sh {z : Str} (h : IsKd z) : ∀ c ∈ z.cps.toList, c < 128 := by
  rcases h with rfl | rfl
  · exact spot_sh.1
  · exact spot_sh.2
theorem lay_spot {s : Spot} (h : IsKd s.1) : Lay (spotD s) 1 := .tup fun d hd => by
  simp only [List.mem_cons, List.not_mem_nil, or_false] at hd
  rcases hd with rfl | rfl
  · exact lay_str _ (kd_sh h)
  · exact lay_int _ _
def rowD (r : RowT) : PyData := .tuple [.int r.n, .int r.k, spotD r.s, .int r.b, .int r.e]
theorem lay_row {r : RowT} (h : IsKd r.s.1) : Lay (rowD r) 2 := .tup fun d hd => by
  simp only [List.mem_cons, List.not_mem_nil, or_false] at hd
  rcases hd with rfl | rfl | rfl | rfl | rfl
  · exact lay_int _ _
  · exact lay_int _ _
  · exact lay_spot h
  · exact lay_int _ _
  · exact lay_int _ _
theorem lay_rows {rs : List RowT} (h : ∀ r ∈ rs, IsKd r.s.1) : Lay (.list (rs.map rowD)) 3 := .lst fun d hd => by
  obtain ⟨r, hr, rfl⟩ := List.mem_map.mp hd
  exact lay_row (h r hr)
theorem dp_rows {K : PySem.W.Frag} {B H : Hp} (e : Same B H) : ∀ {xs : List V} {rs : List RowT}, RowsR B xs rs → DpAll K H xs (rs.map rowD)
  | _, _, .nil => .nil
  | _, _, .cons ⟨a, sp, h1, h2, h3⟩ t => by
    subst h1
    exact .cons (.tup (SqT.of (e _ _ h2)) (.cons (.int _) (.cons (.int _) (.cons (.tup (SqT.of (e _ _ h3)) (.cons (.str _) (.cons (.int _) .nil))) (.cons (.int _) (.cons (.int _) .nil)))))) (dp_rows e t)
theorem rowsP_flat {hp : Nat × Nat} {js : List JobT} : rowsP hp js = ((infoP hp js).flatMap (·.f)).map Prod.fst := rowsP_eq
theorem info_lay {hp : Nat × Nat} : ∀ {js : List JobT} {all : List RowT} {o : InfoT}, o ∈ (layJs hp js all).1 → ∃ all2, o.j ∈ js ∧ o.f = (layJ hp o.j.n o.j.c 0 o.j.rs all2 o.j.c).1 ∧ o.d = (layJ hp o.j.n o.j.c 0 o.j.rs all2 o.j.c).2.2
  | x :: js, all, o, h => by
    rcases List.mem_cons.mp (show o ∈ _ :: (layJs hp js _).1 from h) with rfl | h
    · exact ⟨all, List.mem_cons_self, rfl, rfl⟩
    · obtain ⟨a, h1, h2, h3⟩ := info_lay h
      exact ⟨a, List.mem_cons_of_mem _ h1, h2, h3⟩
theorem info_chn {hp : Nat × Nat} (h1 : 1 ≤ hp.1) (h2 : 1 ≤ hp.2) {js : List JobT} {all : List RowT} {o : InfoT} (hg : ∀ j ∈ js, GoodJ j) (h : o ∈ (layJs hp js all).1) : Chn o.j.c 0 o.f o.j.rs o.d := by
  obtain ⟨a, e1, e2, e3⟩ := info_lay h
  rw [e2, e3]
  exact layJ_chn h1 h2 fun s hs => by
    have := (hg _ e1).t.row s hs
    exact ⟨this.2.1, this.2.2.2.1⟩
theorem info_firm {hp : Nat × Nat} (h1 : 1 ≤ hp.1) (h2 : 1 ≤ hp.2) {js : List JobT} {all : List RowT} {o : InfoT} (h : o ∈ (layJs hp js all).1) : All2 (RW hp) (o.f.map Prod.fst) (wantS o.j.n o.j.c 0 o.j.rs) := by
  obtain ⟨a, e1, e2, e3⟩ := info_lay h
  rw [e2]
  exact layJ_firm h1 h2
theorem wantS_nk {n c : Int} : ∀ {ss : List (Str × Int × Int)} {k : Nat}, ∀ w ∈ wantS n c k ss, w.n = n ∧ (k : Int) + 1 ≤ w.k ∧ w.k ≤ (k : Int) + ss.length
  | [], _, w, h => by cases h
  | s :: ss, k, w, h => by
    rcases List.mem_cons.mp (show w ∈ _ :: wantS n c (k + 1) ss from h) with rfl | h
    · refine ⟨rfl, Int.le_refl _, ?_⟩
      show (k : Int) + 1 ≤ (k : Int) + ((s :: ss).length : Int)
      rw [List.length_cons]
      omega
    · obtain ⟨e1, e2, e3⟩ := wantS_nk (ss := ss) (k := k + 1) w h
      refine ⟨e1, by omega, ?_⟩
      rw [List.length_cons]
      omega
theorem layJs_top {hp : Nat × Nat} (h1 : 1 ≤ hp.1) (h2 : 1 ≤ hp.2) : ∀ {js : List JobT} {all : List RowT} {T : Int}, (∀ j ∈ js, GoodJ j) → 1000000 ≤ T → (∀ r ∈ all, r.e ≤ T) → ∀ r ∈ (layJs hp js all).2, r.e ≤ T + 5760 * (js.length : Int)
  | [], _, T, _, _, ha, r, hr => by
    have := ha r hr
    show r.e ≤ T + 5760 * ((0 : Nat) : Int)
    omega
  | x :: js, all, T, hg, hT, ha, r, hr => by
    have hx := hg x List.mem_cons_self
    have hl := hx.t.l1
    have hc := hx.c1
    obtain ⟨h3, _⟩ := layJ_top h1 h2 (n := x.n) (c := x.c) (ss := x.rs) (k := 0) (all := all) (t := x.c) (T := T) (fun s hs => by
      obtain ⟨_, g1, g2, g3, g4⟩ := hx.t.row s hs
      exact ⟨g2, by omega, g3, g4⟩) (by omega) ha
    have h4 := layJs_top h1 h2 (js := js) (T := T + 5760) (fun j hj => hg j (List.mem_cons_of_mem _ hj)) (by omega) (fun r hr => by
      have := h3 r hr
      omega) r hr
    rw [List.length_cons]
    omega
theorem Chn.row {t d : Int} {k : Nat} {f : List (RowT × Int)} {ss : List (Str × Int × Int)} (c : Chn t k f ss d) : ∀ p ∈ f, t ≤ p.1.b ∧ p.1.b < p.1.e := by
  induction c with
  | nil => exact fun p h => by cases h
  | @cons t d k r s f ss h1 h2 h3 h4 c ih =>
    intro p hp
    rcases List.mem_cons.mp hp with rfl | hp
    · exact ⟨h1, h2⟩
    · have := ih p hp
      exact ⟨by omega, this.2⟩
/-- what is so of each row -/
structure RowOk (hp : Nat × Nat) (js : List JobT) (r : RowT) : Prop where
  s : r.s ∈ spotsA hp
  j : ∃ j ∈ js, r.n = j.n ∧ 1 ≤ r.k ∧ r.k ≤ j.rs.length
  b0 : 0 ≤ r.b
  be : r.b < r.e
  e1 : r.e ≤ 2000000
theorem rowsP_ok {hp : Nat × Nat} (h1 : 1 ≤ hp.1) (h2 : 1 ≤ hp.2) {js : List JobT} (hg : ∀ j ∈ js, GoodJ j) (hl : js.length ≤ 40) : ∀ r ∈ rowsP hp js, RowOk hp js r := fun r hr => by
  have hT := layJs_top h1 h2 (all := []) (T := 1000000) hg (Int.le_refl _) (fun _ h => by cases h) r hr
  rw [rowsP_flat] at hr
  obtain ⟨p, hp2, rfl⟩ := List.mem_map.mp hr
  obtain ⟨o, ho, hpo⟩ := List.mem_flatMap.mp hp2
  obtain ⟨w, hw, h3⟩ := (info_firm h1 h2 ho).mem (List.mem_map.mpr ⟨p, hpo, rfl⟩)
  obtain ⟨a, e1, _⟩ := info_lay ho
  have h4 := (info_chn h1 h2 hg ho).row p hpo
  have h5 := (hg _ e1).c0
  obtain ⟨n1, n2, n3⟩ := wantS_nk w hw
  exact ⟨spots_of_A (wantS_kd w hw) h3.s, ⟨o.j, e1, by rw [h3.n, n1], by rw [h3.k]; omega, by rw [h3.k]; omega⟩, by omega, h4.2, by omega⟩
theorem eqv_spotH (s z : Spot) : PyData.eqv (spotD s) (spotD z) = decide (s = z) := by
  obtain ⟨a, b⟩ := s
  obtain ⟨c, d⟩ := z
  by_cases h1 : a = c <;> by_cases h2 : b = d <;> simp [spotD, PyData.eqv, PyData.eqvAll, h1, h2]
theorem durS_perm {rs ss : List RowT} (h : rs.Perm ss) : durS rs = durS ss := by
  unfold durS
  induction h with
  | nil => rfl
  | cons x _ ih => simp [ih]
  | swap x y l =>
    simp only [List.map_cons, List.sum_cons]
    omega
  | trans _ _ h1 h2 => rw [h1, h2]
theorem PlanAt.apart {K : PySem.W.Frag} {B : Hp} {x : Addr} {hp : Nat × Nat} {js : List JobT} (h : PlanAt K B x hp js) : ApartA (rowsP hp js) := layJs_apart h.gb.h0 h.gb.p0 h.gj apart_nil
theorem PlanAt.rows_len {K : PySem.W.Frag} {B : Hp} {x : Addr} {hp : Nat × Nat} {js : List JobT} (h : PlanAt K B x hp js) : (rowsP hp js).length ≤ 480 := by
  have := layJs_len (hp := hp) (js := js) (all := []) fun z hz => (h.gj z hz).t.l1
  have h2 := h.l
  have h3 : (rowsP hp js).length ≤ 0 + 12 * js.length := this
  omega
abbrev thereP (hp : Nat × Nat) (js : List JobT) (s : Spot) : List RowT := (rowsP hp js).filter fun r => decide (r.s = s)
theorem dp_intsK {K : PySem.W.Frag} {H : Hp} : ∀ ns : List Int, DpAll K H (ns.map V.int) (ns.map PyData.int)
  | [] => .nil
  | n :: ns => .cons (.int n) (dp_intsK ns)
theorem g_eq_isK {K : PySem.W.Frag} {H : Hp} {Q : VK} {a b : Addr} {ns : List Int} (h1 : SqL K H a (ns.map V.int)) (h2 : SqL K H b (ns.map V.int)) (k : Q (.bl true) H) : rEqA K (.ref a) (.ref b) H Q := by
  have sh : Lay (.list (ns.map PyData.int)) 2 := .lst fun d hd => by
    obtain ⟨i, _, rfl⟩ := List.mem_map.mp hd
    exact lay_int _ _
  refine g_eq_d (.lst h1 (dp_intsK ns)) (.lst h2 (dp_intsK ns)) (sh.shaped (by decide)) (sh.shaped (by decide)) ?_
  rw [SeqAt.eqv_refl _ sh.lay]
  exact k
theorem g_ne_isK {K : PySem.W.Frag} {H : Hp} {Q : VK} {a b : Addr} {ns : List Int} (h1 : SqL K H a (ns.map V.int)) (h2 : SqL K H b (ns.map V.int)) (k : Q (.bl false) H) : rNeA K (.ref a) (.ref b) H Q := by
  have sh : Lay (.list (ns.map PyData.int)) 2 := .lst fun d hd => by
    obtain ⟨i, _, rfl⟩ := List.mem_map.mp hd
    exact lay_int _ _
  refine g_ne_d (.lst h1 (dp_intsK ns)) (.lst h2 (dp_intsK ns)) (sh.shaped (by decide)) (sh.shaped (by decide)) ?_
  rw [SeqAt.eqv_refl _ sh.lay]
  exact k
def sp_law_free_right (K : PySem.W.Frag) : Sp := fun vs H Q _ => vs.length = 4 ∧ ∃ (m x rp : Addr) (sv : V) (n : Int) (hp : Nat × Nat) (js : List JobT) (rv : List V) (s : Spot) (B : Hp) (M L : List (Addr × HO)), vs = [.ref m, .ref x, .ref rp, sv] ∧ Is B M L H ∧ Dr m n B M ∧ n < 2 ^ 36 ∧ PlanAt K B x hp js ∧ B rp = some (.lst rv) ∧ RowsR B rv (rowsP hp js) ∧ IsPl B hp sv s ∧
  ∀ (H' : Hp) (M' : List (Addr × HO)), (∃ B', Same B B' ∧ Is B' M' L H' ∧ Dr m (n + 24) B' M') → Q (.bl true) H'
theorem ap_law_free_right {K : PySem.W.Frag} {H : Hp} {Q : VK} {E : XK} {m x rp : Addr} {sv : V} {n : Int} {hp : Nat × Nat} {js : List JobT} {rv : List V} {s : Spot} {B : Hp} {M L : List (Addr × HO)} (I : Is B M L H) (d : Dr m n B M) (hn : n < 2 ^ 36) (h : PlanAt K B x hp js) (h1 : B rp = some (.lst rv)) (h2 : RowsR B rv (rowsP hp js)) (hs : IsPl B hp sv s)
    (q : ∀ (H' : Hp) (M' : List (Addr × HO)), (∃ B', Same B B' ∧ Is B' M' L H' ∧ Dr m (n + 24) B' M') → Q (.bl true) H') : sp_law_free_right K [.ref m, .ref x, .ref rp, sv] H Q E := ⟨rfl, m, x, rp, sv, n, hp, js, rv, s, B, M, L, rfl, I, d, hn, h, h1, h2, hs, q⟩
abbrev t_law_free_right_0 (K : PySem.W.Frag) : TS := (tAsg (tOp (rAddA K) (tVar 6) (tLst (tCons (tCl 3 0 (sp_law_least K) (fun vs zs => pick .non [0, 1, 2] (vs ++ zs)) E0 (tCons (tVar 4) (tCons (tC (.int 1)) (tCons (tVar 9) tNil))) tNil) (tCons (tCl 3 0 (sp_law_least K) (fun vs zs => pick .non [0, 1, 2] (vs ++ zs)) E0 (tCons (tVar 4) (tCons (tVar 8) (tCons (tC (.int 0)) tNil))) tNil) tNil)))) (gName 6))
abbrev t_law_free_right_1 (K : PySem.W.Frag) : TS := (tSeq (tAsg (tOp (rAddA K) (tVar 5) (tLst (tCons (tMe (He.ga K "Plan") "next_free" 1 1 (sp_Plan_next_free K) (fun vs zs => pick .non [0, 1, 3, 2] (vs ++ (zs ++ [.int 1, .int 0]))) E0 (tVar 1) (tCons (tVar 3) tNil) (tCons (tVar 9) tNil)) (tCons (tMe (He.ga K "Plan") "next_free" 2 0 (sp_Plan_next_free K) (fun vs zs => pick .non [0, 1, 2, 4] (vs ++ (zs ++ [.int 1, .int 0]))) E0 (tVar 1) (tCons (tVar 3) (tCons (tVar 8) tNil)) tNil) tNil)))) (gName 5)) (t_law_free_right_0 K))
abbrev t_law_free_right_2 (K : PySem.W.Frag) : TS := (tSeq (tAsg (tOp (rAddA K) (tVar 6) (tOp rMulA (tLst (tCons (tCl 3 0 (sp_law_least K) (fun vs zs => pick .non [0, 1, 2] (vs ++ zs)) E0 (tCons (tVar 4) (tCons (tVar 8) (tCons (tVar 9) tNil))) tNil) tNil)) (tC (.int 2)))) (gName 6)) (t_law_free_right_1 K))
abbrev t_law_free_right_3 (K : PySem.W.Frag) : TS := (tSeq (tAsg (tOp (rAddA K) (tVar 5) (tLst (tCons (tMe (He.ga K "Plan") "next_free" 3 0 (sp_Plan_next_free K) (fun vs zs => pick .non [0, 1, 2, 3] (vs ++ (zs ++ [.int 1, .int 0]))) E0 (tVar 1) (tCons (tVar 3) (tCons (tVar 8) (tCons (tVar 9) tNil))) tNil) (tCons (tMe (He.ga K "Plan") "next_free" 0 3 (sp_Plan_next_free K) (fun vs zs => pick .non [0, 3, 2, 1] (vs ++ (zs ++ [.int 1, .int 0]))) E0 (tVar 1) tNil (tCons (tVar 9) (tCons (tVar 8) (tCons (tVar 3) tNil)))) tNil)))) (gName 5)) (t_law_free_right_2 K))
abbrev t_law_free_right_4 (K : PySem.W.Frag) : TS := (tSeq (tAsg (tCl 2 0 (sp_law_wish K) (fun vs zs => pick .non [0, 1] (vs ++ zs)) E0 (tCons (tVar 0) (tCons (tVar 2) tNil)) tNil) (gTup K 2 (gCons (gName 8) (gCons (gName 9) gNil)))) (t_law_free_right_3 K))
abbrev t_law_free_right_5 (K : PySem.W.Frag) : TS := (tRet (tAndV (tOp (rEqA K) (tVar 5) (tVar 6)) (tCB (rAll K) (tCons (tLc (iAny K (tVar 5)) (gName 11) tYes (tAndV (tCB (rIsi K) (tCons (tVar 11) (tCons (tC (.ty "int")) tNil))) (tNotV (tCB (rIsi K) (tCons (tVar 11) (tCons (tC (.ty "bool")) tNil))))) [11]) tNil))))
abbrev t_law_free_right_6 (K : PySem.W.Frag) : TS := (tSeq (tFor (iRng1 (tCons (tC (.int 2)) tNil)) (gName 7) (t_law_free_right_4 K)) (t_law_free_right_5 K))
abbrev t_law_free_right_7 (K : PySem.W.Frag) : TS := (tSeq (tAsg (tOp (rAddA K) (tOp rMulA (tLst (tCons (tCl 3 0 (sp_law_least K) (fun vs zs => pick .non [0, 1, 2] (vs ++ zs)) E0 (tCons (tVar 4) (tCons (tC (.int 1)) (tCons (tC (.int 0)) tNil))) tNil) tNil)) (tC (.int 2))) (tOp rMulA (tLst (tCons (tCB (rSum K) (tCons (tLc (iAny K (tVar 4)) (gName 10) tYes (tOp (rI0 fun i j => .int (i - j)) (tOp (rIx K) (tVar 10) (tC (.int 4))) (tOp (rIx K) (tVar 10) (tC (.int 3)))) [10]) tNil)) tNil)) (tC (.int 2)))) (gName 6)) (t_law_free_right_6 K))
abbrev t_law_free_right_8 (K : PySem.W.Frag) : TS := (tSeq (tAsg (tLst (tCons (tMe (He.ga K "Plan") "next_free" 1 0 (sp_Plan_next_free K) (fun vs zs => pick .non [0, 1, 2, 3] (vs ++ (zs ++ [.int 1, .int 0]))) E0 (tVar 1) (tCons (tVar 3) tNil) tNil) (tCons (tMe (He.ga K "Plan") "next_free" 0 1 (sp_Plan_next_free K) (fun vs zs => pick .non [0, 1, 2, 3] (vs ++ (zs ++ [.int 1, .int 0]))) E0 (tVar 1) tNil (tCons (tVar 3) tNil)) (tCons (tMe (He.ga K "Plan") "busy" 1 0 (sp_Plan_busy K) (fun vs zs => pick .non [0, 1] (vs ++ zs)) E0 (tVar 1) (tCons (tVar 3) tNil) tNil) (tCons (tMe (He.ga K "Plan") "busy" 0 1 (sp_Plan_busy K) (fun vs zs => pick .non [0, 1] (vs ++ zs)) E0 (tVar 1) tNil (tCons (tVar 3) tNil)) tNil))))) (gName 5)) (t_law_free_right_7 K))
def t_law_free_right (K : PySem.W.Frag) : TS := (tSeq (tAsg (tLc (iAny K (tVar 2)) (gName 10) (tTest (tOp (rEqA K) (tOp (rIx K) (tVar 10) (tC (.int 2))) (tVar 3))) (tVar 10) [10]) (gName 4)) (t_law_free_right_8 K))
theorem rd_law_free_right {K : PySem.W.Frag} (vs : List V) (H : Hp) (Q : VK) (E : XK) (h : sp_law_free_right K vs H Q E) : t_law_free_right K { nx := fun _ H' => Q .non H', rt := Q } (start ["m", "made", "rows", "spot", "there", "told", "want", "k", "few", "early", "row", "one"] vs) H := by
  obtain ⟨_, m, x, rp, sv, n, hp, js, rv, s, B, M, L, rfl, hI, hd, hn, hP, hrp, hrv, hs, q⟩ := h
  show t_law_free_right K ⟨_, _, _, _⟩ [some (.ref m), some (.ref x), some (.ref rp), some sv, none, none, none, none, none, none, none, none] H
  have hxl := hrv.len
  have hl := hP.rows_len
  have hap := hP.apart
  have ok := rowsP_ok hP.gb.h0 hP.gb.p0 hP.gj hP.l
  obtain ⟨⟨sa, rfl, hsa⟩, hss⟩ := id hs
  unfold t_law_free_right
  tm_at "go"
  refine' g_lcF (rv.zip (rowsP hp js)) (by rw [List.length_zip]; omega) walk_list hI (by tm_at "wiped") (by omega) (fun z => decide (z.2.s = s)) (fun z => z.1) (fun D acc H' I => SqL.of (I.b hrp)) ?_ ?_
  · clear hI
    intro k y z D acc H' hx hz hI PY PN hY hN
    obtain ⟨e1, e2⟩ := zip_at hx hz
    obtain ⟨r, er, c, sp, rfl, b1, b2⟩ := hrv.get hx
    rw [er] at e2
    have e2 : r = z.2 := Option.some.inj e2
    rw [← e2, e1] at hY
    rw [← e2] at hN
    have hok := ok r (List.mem_of_getElem? er)
    tm_at "go"
    refine' g_wiped (by tm_at "wiped") ?_
    tm_at "go"
    refine g_ix_t (SqT.of (hI.b b1)) (atI_of (by decide) rfl) ?_
    tm_at "go"
    refine g_eq_d (d := spotD r.s) (e := spotD s) (.tup (SqT.of (hI.b b2)) (.cons (.str _) (.cons (.int _) .nil))) (.tup (SqT.of (hI.b hsa)) (.cons (.str _) (.cons (.int _) .nil))) ((lay_spot (spotA_kd hok.s)).shaped (by decide)) ((lay_spot (spotA_kd hss)).shaped (by decide)) ?_
    rw [eqv_spotH]
    tm_at "go"
    refine g_dec (fun h1 => ?_) (fun h1 => ?_)
    · tm_at "go"
      exact hY _ (decide_eq_true h1) hI
    · exact hN _ (decide_eq_false h1) hI
  clear hI
  intro yp H hI
  obtain ⟨ys, hys⟩ : ∃ ys, ys = ((rv.zip (rowsP hp js)).filter fun z => decide (z.2.s = s)).map fun z => z.1 := ⟨_, rfl⟩
  have hyr : RowsR B ys (thereP hp js s) := by
    rw [hys]
    exact all2_filt (fun r => decide (r.s = s)) hrv
  rw [← hys] at hI
  have hyl : (thereP hp js s).length ≤ 1000 := Nat.le_trans (List.length_filter_le _ _) (by omega)
  refine' hI.give (a := yp) (by tm_at "del") ?_
  clear hI
  intro B1 s1 hyp hI
  replace hP := hP.same s1
  replace hs := hs.same s1
  replace hsa := s1 _ _ hsa
  replace hrp := s1 _ _ hrp
  replace hrv : RowsR B1 rv (rowsP hp js) := hrv.same s1
  replace hyr : RowsR B1 ys (thereP hp js s) := hyr.same s1
  replace hd := hd.same s1
  obtain ⟨⟨dx, bch, aj, bn, bp, ar, jv, rv0, nv, pv, p1, _⟩, _⟩ := id hP
  have ed : durS (atPl (rowsP hp js) s) = durS (thereP hp js s) := durS_perm (atPl_perm s)
  tm_at "go"
  refine ⟨rfl, x, .ref sa, .int 1, .int 0, hp, js, _, _, _, rfl, hI, hP, .inr ⟨s, hs, .inr ⟨1, rfl, by omega, by omega, .inr ⟨0, rfl, by omega, by omega, ?_⟩⟩⟩⟩
  clear hI
  intro H hI
  tm_at "go"
  refine ⟨rfl, x, .ref sa, .int 1, .int 0, hp, js, _, _, _, rfl, hI, hP, .inr ⟨s, hs, .inr ⟨1, rfl, by omega, by omega, .inr ⟨0, rfl, by omega, by omega, ?_⟩⟩⟩⟩
  clear hI
  intro H hI
  tm_at "go"
  refine ⟨rfl, x, .ref sa, hp, js, _, _, _, rfl, hI, hP, .inr ⟨s, hs, ?_⟩⟩
  clear hI
  intro H hI
  tm_at "go"
  refine ⟨rfl, x, .ref sa, hp, js, _, _, _, rfl, hI, hP, .inr ⟨s, hs, ?_⟩⟩
  clear hI
  intro H hI
  tm_at "go"
  obtain ⟨tp, rfl⟩ : ∃ q, q = p := ⟨_, rfl⟩
  obtain ⟨tl, htl⟩ : ∃ tl : List Int, tl = [freeFrom (atPl (rowsP hp js) s) 1 0, freeFrom (atPl (rowsP hp js) s) 1 0, durS (thereP hp js s), durS (thereP hp js s)] := ⟨_, rfl⟩
  rw [ed] at hI
  replace hI : Is B1 M ((tp, .lst (tl.map V.int)) :: L) H := by
    rw [htl]
    exact hI
  refine' ap_law_least (K := K) hI hyp hyr hyl (least_free (hap s) (by omega)) ?_
  clear hI
  intro H hI
  tm_at "go"
  refine g_mul_l (n := 2) hI (hI.get (.head _)) (Nat.le_of_ble_eq_true rfl) (by decide) ?_
  clear hI
  intro q1 H hI
  tm_at "go"
  have hyxl := hyr.len
  refine' g_lcX (xs := ys) ((thereP hp js s).map fun r => V.int (r.e - r.b)) (by rw [List.length_map]; exact hyxl.symm) walk_list hI (by tm_at "wiped") (by omega) (fun D acc H' I => SqL.of (I.b hyp)) ?_ ?_
  · clear hI
    intro i y z D acc H' hx hy hI PY hPY
    obtain ⟨r, er, a, sp, rfl, b1, b2⟩ := hyr.get hx
    tm_at "go"
    refine' g_wiped (by tm_at "wiped") ?_
    tm_at "go"
    refine g_ix_t (SqT.of (hI.b b1)) (atI_of (by decide) rfl) ?_
    tm_at "go"
    refine g_ix_t (SqT.of (hI.b b1)) (atI_of (by decide) rfl) ?_
    tm_at "go"
    rw [List.getElem?_map, er] at hy
    cases hy
    exact hPY _ hI
  clear hI
  intro D H hI
  tm_at "go"
  have em : ((thereP hp js s).map fun r => V.int (r.e - r.b)) = ((thereP hp js s).map fun r => r.e - r.b).map V.int := by
    rw [List.map_map]
    rfl
  rw [em] at hI
  refine g_sum (SqL.of (hI.get (.head _))) ?_
  replace hI : Is B1 M ((D, _) :: (q1, .lst [.int (freeFrom (atPl (rowsP hp js) s) 1 0), .int (freeFrom (atPl (rowsP hp js) s) 1 0)]) :: _) H := hI
  replace hI := hI.forget (L' := (q1, .lst [.int (freeFrom (atPl (rowsP hp js) s) 1 0), .int (freeFrom (atPl (rowsP hp js) s) 1 0)]) :: (tp, .lst (tl.map V.int)) :: L) (by tm_at "sub")
  tm_at "go"
  refine g_mul_l (n := 2) hI (hI.get (.head _)) (Nat.le_of_ble_eq_true rfl) (by decide) ?_
  clear hI
  intro q2 H hI
  tm_at "go"
  replace hI : Is B1 M ((q2, .lst [.int (durS (thereP hp js s)), .int (durS (thereP hp js s))]) :: _) H := hI
  refine g_add_l hI (hI.get (by tm_at "mem")) (hI.get (.head _)) (by exact Nat.le_of_ble_eq_true rfl) ?_
  clear hI
  intro wp H hI
  have ew : ([V.int (freeFrom (atPl (rowsP hp js) s) 1 0), V.int (freeFrom (atPl (rowsP hp js) s) 1 0)] ++ [V.int (durS (thereP hp js s)), V.int (durS (thereP hp js s))]) = tl.map V.int := by
    rw [htl]
    rfl
  rw [ew] at hI
  replace hI := hI.forget (L' := (wp, .lst (tl.map V.int)) :: (tp, .lst (tl.map V.int)) :: L) (by tm_at "sub")
  have htll : tl.length = 4 := by
    rw [htl]
    rfl
  clear htl ew
  tm_at "go"
  refine' g_aFor walk_range (fun k σ H => ∃ (tp wp : Addr) (c7 c8 c9 : Option V) (M : List (Addr × HO)) (tl : List Int), σ = [some (.ref m), some (.ref x), some (.ref rp), some (.ref sa), some (.ref yp), some (.ref tp), some (.ref wp), c7, c8, c9, none, none] ∧ Is B1 M ((wp, .lst (tl.map V.int)) :: (tp, .lst (tl.map V.int)) :: L) H ∧ tl.length = 4 + 4 * k ∧ Dr m (n + 12 * (k : Int)) B1 M)
    ⟨tp, wp, _, _, _, M, tl, rfl, hI, htll, hd.mono (by omega)⟩ (fun _ _ _ _ _ => trivial) ?_ ?_
  · clear hI hd htll
    clear tl
    rintro k y σ H H' hk ⟨tp, wp, c7, c8, c9, M, tl, rfl, hI, htl, hd⟩ ⟨rfl, rfl⟩
    have hk : k < 2 := hk
    tm_at "go"
    refine' ap_law_wish (K := K) hI hd (by omega) hrp hrv (by omega) ?_
    clear hI hd
    intro p f t H M hI hd f0 f1 t0 t1
    tm_at "go"
    replace hI := hI.forget (L' := (wp, .lst (tl.map V.int)) :: (tp, .lst (tl.map V.int)) :: L) (by tm_at "sub")
    refine ⟨rfl, x, .ref sa, .int f, .int t, hp, js, _, _, _, rfl, hI, hP, .inr ⟨s, hs, .inr ⟨f, rfl, by omega, by omega, .inr ⟨t, rfl, by omega, by omega, ?_⟩⟩⟩⟩
    clear hI
    intro H hI
    tm_at "go"
    refine ⟨rfl, x, .ref sa, .int f, .int t, hp, js, _, _, _, rfl, hI, hP, .inr ⟨s, hs, .inr ⟨f, rfl, by omega, by omega, .inr ⟨t, rfl, by omega, by omega, ?_⟩⟩⟩⟩
    clear hI
    intro H hI
    tm_at "go"
    refine g_add_l hI (hI.get (by tm_at "mem")) (hI.get (.head _)) (by simp [htl]; omega) ?_
    clear hI
    intro tp2 H hI
    tm_at "go"
    refine' ap_law_least (K := K) hI hyp hyr hyl (least_free (hap s) (by omega)) ?_
    clear hI
    intro H hI
    tm_at "go"
    refine g_mul_l (n := 2) hI (hI.get (.head _)) (Nat.le_of_ble_eq_true rfl) (by decide) ?_
    clear hI
    intro q1 H hI
    tm_at "go"
    refine g_add_l hI (hI.get (by tm_at "mem")) (hI.get (by tm_at "mem")) (by simp [htl]; omega) ?_
    clear hI
    intro wp2 H hI
    tm_at "go"
    refine ⟨rfl, x, .ref sa, .int 1, .int t, hp, js, _, _, _, rfl, hI, hP, .inr ⟨s, hs, .inr ⟨1, rfl, by omega, by omega, .inr ⟨t, rfl, by omega, by omega, ?_⟩⟩⟩⟩
    clear hI
    intro H hI
    tm_at "go"
    refine ⟨rfl, x, .ref sa, .int f, .int 0, hp, js, _, _, _, rfl, hI, hP, .inr ⟨s, hs, .inr ⟨f, rfl, by omega, by omega, .inr ⟨0, rfl, by omega, by omega, ?_⟩⟩⟩⟩
    clear hI
    intro H hI
    tm_at "go"
    refine g_add_l hI (hI.get (by tm_at "mem")) (hI.get (.head _)) (by simp [htl]; omega) ?_
    clear hI
    intro tp3 H hI
    tm_at "go"
    refine' ap_law_least (K := K) hI hyp hyr hyl (least_free (hap s) (by omega)) ?_
    clear hI
    intro H hI
    tm_at "go"
    refine' ap_law_least (K := K) hI hyp hyr hyl (least_free (hap s) (by omega)) ?_
    clear hI
    intro H hI
    tm_at "go"
    refine g_add_l hI (hI.get (by tm_at "mem")) (hI.get (.head _)) (by simp [htl]; omega) ?_
    clear hI
    intro wp3 H hI
    tm_at "go"
    have e2 : ∀ (a b c : Int), ((tl.map V.int ++ (List.replicate 2 [V.int a]).flatten) ++ [V.int b, V.int c]) = (tl ++ [a, a, b, c]).map V.int := fun a b c => by
      rw [List.map_append, List.append_assoc]
      rfl
    have e1 : ∀ (a b c : Int), ((tl.map V.int ++ [V.int a, V.int a]) ++ [V.int b, V.int c]) = (tl ++ [a, a, b, c]).map V.int := fun a b c => by
      rw [List.map_append, List.append_assoc]
      rfl
    rw [e1, e2] at hI
    refine ⟨_, _, _, _, _, M, _, rfl, hI.forget (by tm_at "sub"), ?_, hd.mono (by omega)⟩
    rw [List.length_append, htl]
    show 4 + 4 * k + 4 = 4 + 4 * (k + 1)
    omega
  clear hI hd htll
  clear tl
  rintro σ H ⟨tp, wp, c7, c8, c9, M, tl, rfl, hI, htl, hd⟩
  have htl : tl.length = 12 := htl
  have hd : Dr m (n + 24) B1 M := hd.mono (show n + 12 * ((2 : Nat) : Int) ≤ n + 24 by omega)
  tm_at "go"
  refine g_eq_isK (SqL.of (hI.get (by tm_at "mem"))) (SqL.of (hI.get (by tm_at "mem"))) ?_
  tm_at "go"
  refine' g_lcX (xs := tl.map V.int) ((List.replicate tl.length true).map V.bl) (by rw [List.length_map, List.length_map, List.length_replicate]) walk_list hI (by tm_at "wiped") (by rw [List.length_map]; omega) (fun D acc H' I => SqL.of (I.get (by tm_at "mem"))) ?_ ?_
  · clear hI
    intro i y z D acc H' hx hy hI PY hPY
    rw [List.getElem?_map] at hx hy
    obtain ⟨v, _, rfl⟩ := Option.map_eq_some_iff.mp hx
    obtain ⟨b, hb, rfl⟩ := Option.map_eq_some_iff.mp hy
    rw [List.eq_of_mem_replicate (List.mem_of_getElem? hb)] at hPY
    have hvt := thing_int (K := K) (H := B1) v
    tm_at "go"
    refine' g_wiped (by tm_at "wiped") ?_
    tm_at "go"
    exact hPY _ hI
  clear hI
  intro D H hI
  tm_at "go"
  refine g_all (l := List.replicate tl.length true) (P := fun b => b) (SqL.of (hI.get (.head _))) ?_
  rw [List.all_eq_true.mpr fun b hb => List.eq_of_mem_replicate hb]
  exact q _ _ ⟨B1, s1, hI.forget (by tm_at "sub"), hd⟩
theorem valI_none : ∀ {nv : List (Key × V)} {n : Int}, (∀ kv ∈ nv, kv.1 ≠ Sum.inl n) → valV nv (Sum.inl n) = none
  | [], _, _ => rfl
  | kv :: nv, n, h => by
    rw [valV_neg (h kv List.mem_cons_self)]
    exact valI_none fun x hx => h x (List.mem_cons_of_mem _ hx)
def sp_Plan_with_job (K : PySem.W.Frag) : Sp := fun vs H Q _ => vs.length = 2 ∧ ∃ (x job : Addr) (hp : Nat × Nat) (js : List JobT) (j : JobT) (B : Hp) (M L : List (Addr × HO)), vs = [.ref x, .ref job] ∧ Is B M L H ∧ PlanAt K B x hp js ∧ JobAt K B job j ∧ j.n ∉ js.map (·.n) ∧ js.length < 40 ∧
  ∀ (y : Addr) (B' H' : Hp), Same B B' → Is B' M L H' → PlanAt K B' y hp (ordJ (js ++ [j])) → Q (.ref y) H'
theorem ap_Plan_with_job {K : PySem.W.Frag} {H : Hp} {Q : VK} {E : XK} {x job : Addr} {hp : Nat × Nat} {js : List JobT} {j : JobT} {B : Hp} {M L : List (Addr × HO)} (I : Is B M L H) (h : PlanAt K B x hp js) (hj : JobAt K B job j) (hn : j.n ∉ js.map (·.n)) (hl : js.length < 40)
    (q : ∀ (y : Addr) (B' H' : Hp), Same B B' → Is B' M L H' → PlanAt K B' y hp (ordJ (js ++ [j])) → Q (.ref y) H') : sp_Plan_with_job K [.ref x, .ref job] H Q E := ⟨rfl, x, job, hp, js, j, B, M, L, rfl, I, h, hj, hn, hl, q⟩
abbrev t_Plan_with_job_0 (K : PySem.W.Frag) : TS := (tRet (tMk (He.ga K "Plan") 2 0 (sp_Plan_init K) (fun vs zs => pick .non [0, 1, 2] (vs ++ (zs ++ [.non]))) E0 (tCons (tFld K (tVar 0) "of_bench") (tCons (tOp (rAddA K) (tFld K (tVar 0) "all_jobs") (tLst (tCons (tVar 1) tNil))) tNil)) tNil))
abbrev t_Plan_with_job_1 (K : PySem.W.Frag) : TS := (tSeq (tIfS (tTest (tOp (rEqA K) (tCB (rLen K) (tCons (tFld K (tVar 0) "all_jobs") tNil)) (tC (.int 40)))) tNoS tNext) (t_Plan_with_job_0 K))
abbrev t_Plan_with_job_2 (K : PySem.W.Frag) : TS := (tSeq (tIfS (tB (tDIn (tMe (He.ga K "Job") "numbered" 0 0 (sp_Job_numbered K) (fun vs zs => pick .non [0] (vs ++ zs)) E0 (tVar 1) tNil tNil) (tFld K (tVar 0) "by_number"))) tNoS tNext) (t_Plan_with_job_1 K))
def t_Plan_with_job (K : PySem.W.Frag) : TS := (tSeq (tIfS (tNot (tTr K (tCB (rIsi K) (tCons (tVar 1) (tCons (tC (.ref (He.ga K "Job"))) tNil))))) tNoS tNext) (t_Plan_with_job_2 K))
theorem rd_Plan_with_job {K : PySem.W.Frag} (C : PlanC K) (C2 : JobC K) (D : OwnD K (He.ga K "Job")) (vs : List V) (H : Hp) (Q : VK) (E : XK) (h : sp_Plan_with_job K vs H Q E) : t_Plan_with_job K { nx := fun _ H' => Q .non H', rt := Q } (start ["self", "job"] vs) H := by
  obtain ⟨_, mx, job, hp, js, j, B, M, L, rfl, hI, hP, hJ, hn, hl, q⟩ := h
  show t_Plan_with_job K ⟨_, _, _, _⟩ [some (.ref mx), some (.ref job)] H
  obtain ⟨cl, n1, n2, n3, n4, n5⟩ := C
  obtain ⟨⟨dx, bch, aj, bn, bp, ar, jv, rv, nv, pv, p1, p2, p3, p4, p5, p6, p7, p8, p9, p10⟩, gb, gj, nd, pl⟩ := id hP
  obtain ⟨⟨dj, st, j1, j2⟩, hg⟩ := id hJ
  have hjl := p4.len
  unfold t_Plan_with_job
  tm_at "go"
  refine' g_isiO D C2.cl (hI.b j1) ?_
  tm_at "go"
  refine g_tB ?_
  refine g_dInI ?_
  tm_at "go"
  refine' ap_Job_numbered (K := K) hI hJ ?_
  tm_at "go"
  refine ⟨bn, none, rfl, ?_, ?_⟩
  · have e : valV nv (Sum.inl j.n) = none := valI_none fun kv hkv e => by
      obtain ⟨o, ho, hN, _⟩ := p6.mem hkv
      rw [hN] at e
      have e : o.j.n = j.n := Sum.inl.inj e
      refine hn ?_
      rw [← layJs_nums (hp := hp) (js := js) (all := [])]
      exact List.mem_map.mpr ⟨o.j, List.mem_map.mpr ⟨o, ho, rfl⟩, e⟩
    rw [← e]
    exact .inl ⟨nv, Sum.inl j.n, .inl (hI.b p5), rfl, rfl⟩
  refine g_bl ?_
  refine g_false ?_
  tm_at "go"
  refine g_dec (fun h => absurd (V.int.inj h) (by omega)) (fun _ => ?_)
  tm_at "go"
  refine g_add_l hI (hI.b p3) (hI.get (.head _)) (by rw [List.length_singleton]; omega) ?_
  clear hI
  intro p2' H hI
  tm_at "go"
  obtain ⟨y, rfl⟩ : ∃ q, q = x := ⟨_, rfl⟩
  refine' hI.give (a := p2') (by tm_at "del") ?_
  clear hI
  intro B1 s1 hp2 hI
  have hnd : ((js ++ [j]).map (·.n)).Nodup := by
    rw [List.map_append]
    refine List.nodup_append.mpr ⟨nd, (by simp), fun a ha b hb e => ?_⟩
    have hb : b = j.n := List.mem_singleton.mp hb
    rw [e, hb] at ha
    exact hn ha
  refine' ap_Plan_init (K := K) hI (p2.same s1) hp2 ((JobsA.same p4 s1).snoc ⟨job, rfl, hJ.same s1⟩) (by rw [List.length_append, List.length_singleton]; omega) hnd ?_
  clear hI
  intro B2 H s2 hI hP2
  refine ⟨rfl, ?_⟩
  exact q y B2 H (s1.trans s2) (hI.forget (by tm_at "sub")) hP2
theorem filt_kdH {c : Nat} {kd kd' : Str} : (spotsOf c kd).filter (fun s => decide (s.1 = kd')) = if kd = kd' then spotsOf c kd else [] := by
  split
  · rename_i h
    exact List.filter_eq_self.mpr fun s hs => decide_eq_true ((spotsOf_kd hs).trans h)
  · rename_i h
    exact List.filter_eq_nil_iff.mpr fun s hs z => h ((spotsOf_kd hs).symm.trans (of_decide_eq_true z))
theorem filt_AH {hp : Nat × Nat} {kd : Str} (h : IsKd kd) : (spotsA hp).filter (fun s => decide (s.1 = kd)) = spotsOf (cntOf hp kd) kd := by
  unfold spotsA
  rw [List.filter_append, filt_kdH, filt_kdH]
  have hne : ¬ ("press" : Str) = "hand" := by decide +kernel
  have hne2 : ¬ ("hand" : Str) = "press" := by decide +kernel
  rcases h with rfl | rfl
  · rw [if_pos rfl, if_neg hne, cnt_hand, List.append_nil]
  · rw [if_pos rfl, if_neg hne2, cnt_press, List.nil_append]
theorem ordJ_last {js : List JobT} {j : JobT} (hs : ordJ js = js) (h : ∀ i ∈ js, rkJ i ≤ rkJ j) : ordJ (js ++ [j]) = js ++ [j] := by
  have h1 : (js ++ [j]).Pairwise (fun a b => PySem.W.dataLe false rankD a b = true) := by
    refine List.pairwise_append.mpr ⟨?_, List.pairwise_singleton _ _, fun a ha b hb => ?_⟩
    · rw [← hs]
      exact List.pairwise_mergeSort dle_tr dle_to js
    · rw [List.mem_singleton.mp hb, rank_le]
      exact decide_eq_true (h a ha)
  exact List.mergeSort_of_pairwise h1
theorem ordJ_idem (js : List JobT) : ordJ (ordJ js) = ordJ js := List.mergeSort_of_pairwise (List.pairwise_mergeSort dle_tr dle_to js)
theorem rowsP_one {hp : Nat × Nat} {js : List JobT} {n c w : Int} {nm : Str} {q : Bool} {r : StepT} : rowsP hp (js ++ [⟨n, nm, [r], c, w, q⟩]) = rowsP hp js ++ [putW hp (rowsP hp js) ⟨n, 1, kindS r.1, r.2.1, r.2.2, c⟩ c] := by
  show (layJs hp (js ++ [_]) []).2 = _
  rw [layJs_snoc]
  rfl
theorem inV_ints {ns : List Int} {n : Int} : inV (.int n) (ns.map V.int) = decide (n ∈ ns) := by
  unfold inV
  rw [List.any_map]
  rw [Bool.eq_iff_iff, List.any_eq_true, decide_eq_true_eq]
  constructor
  · rintro ⟨m, hm, e⟩
    have e : m = n := by simpa [eqV] using e
    rw [← e]
    exact hm
  · intro h
    exact ⟨n, h, by simp [eqV]⟩
theorem good_one {nm z : Str} {h r : Int} (hn : isName (.str nm) = true ∧ plainS nm) (g : StepG (z, h, r)) : GoodT nm [(z, h, r)] := ⟨hn, Nat.le_refl 1, Nat.le_of_ble_eq_true rfl, fun x hx => by
  rw [List.mem_singleton.mp hx]
  exact g⟩
theorem qqq_ok : isName (.str "qqq") = true ∧ plainS "qqq" := ⟨by decide +kernel, (Sh.lit (n := 8) (by decide +kernel)).plain (by decide)⟩
def BestV (B : Hp) (o : Option (Spot × Int)) (v : V) : Prop := match o with
  | none => v = .non
  | some sb => ∃ t sa, v = .ref t ∧ B t = some (.tup [.ref sa, .int sb.2]) ∧ B sa = some (.tup [.str sb.1.1, .int sb.1.2])
theorem BestV.same {B B' : Hp} {o : Option (Spot × Int)} {v : V} (h : BestV B o v) (s : Same B B') : BestV B' o v := by
  cases o with
  | none => exact h
  | some sb =>
    obtain ⟨t, sa, h1, h2, h3⟩ := h
    exact ⟨t, sa, h1, s _ _ h2, s _ _ h3⟩
def sp_law_last_right (K : PySem.W.Frag) : Sp := fun vs H Q _ => vs.length = 5 ∧ ∃ (m pr x rp fg : Addr) (n : Int) (hp : Nat × Nat) (js : List JobT) (rv : List V) (B : Hp) (M L : List (Addr × HO)), vs = [.ref m, .ref pr, .ref x, .ref rp, .ref fg] ∧ Is B M ((fg, .lst (js.map fun j => .int j.n)) :: L) H ∧ Dr m n B M ∧ n < 2 ^ 36 ∧ PairB B pr hp ∧ PlanAt K B x hp (ordJ js) ∧ B rp = some (.lst rv) ∧ RowsR B rv (rowsP hp (ordJ js)) ∧ js.length ≤ 30 ∧ (∀ j ∈ js, j.w ≤ 999900) ∧
  ∀ (H' : Hp) (M' : List (Addr × HO)) (B' : Hp), Same B B' → Is B' M' L H' → Dr m (n + 13) B' M' → Q (.bl true) H'
theorem ap_law_last_right {K : PySem.W.Frag} {H : Hp} {Q : VK} {E : XK} {m pr x rp fg : Addr} {n : Int} {hp : Nat × Nat} {js : List JobT} {rv : List V} {B : Hp} {M L : List (Addr × HO)} (I : Is B M ((fg, .lst (js.map fun j => .int j.n)) :: L) H) (d : Dr m n B M) (hn : n < 2 ^ 36) (hpr : PairB B pr hp) (h : PlanAt K B x hp (ordJ js)) (h1 : B rp = some (.lst rv)) (h2 : RowsR B rv (rowsP hp (ordJ js))) (hl : js.length ≤ 30) (hw : ∀ j ∈ js, j.w ≤ 999900)
    (q : ∀ (H' : Hp) (M' : List (Addr × HO)) (B' : Hp), Same B B' → Is B' M' L H' → Dr m (n + 13) B' M' → Q (.bl true) H') : sp_law_last_right K [.ref m, .ref pr, .ref x, .ref rp, .ref fg] H Q E := ⟨rfl, m, pr, x, rp, fg, n, hp, js, rv, B, M, L, rfl, I, d, hn, hpr, h, h1, h2, hl, hw, q⟩
abbrev t_law_last_right_0 (K : PySem.W.Frag) : TS := (tIfS (tOr (tTest (tOp rIsNo (tVar 11) (tC .non))) (tTest (tOp (rI0 fun i j => .bl (decide (i < j))) (tVar 13) (tOp (rIx K) (tVar 11) (tC (.int 1)))))) (tAsg (tTup (tCons (tVar 12) (tCons (tVar 13) tNil))) (gName 11)) tNext)
abbrev t_law_last_right_1 (K : PySem.W.Frag) : TS := (tSeq (tAsg (tCl 3 0 (sp_law_least K) (fun vs zs => pick .non [0, 1, 2] (vs ++ zs)) E0 (tCons (tLc (iAny K (tVar 3)) (gName 15) (tTest (tOp (rEqA K) (tOp (rIx K) (tVar 15) (tC (.int 2))) (tVar 12))) (tVar 15) [15]) (tCons (tVar 5) (tCons (tVar 6) tNil))) tNil) (gName 13)) (t_law_last_right_0 K))
abbrev t_law_last_right_2 (K : PySem.W.Frag) : TS := (tRet (tOp (rEqA K) (tMe (He.ga K "Plan") "rows" 0 0 (sp_Plan_rows K) (fun vs zs => pick .non [0, 1] (vs ++ (zs ++ [.non]))) E0 (tVar 9) tNil tNil) (tOp (rAddA K) (tVar 3) (tLst (tCons (tTup (tCons (tVar 8) (tCons (tC (.int 1)) (tCons (tOp (rIx K) (tVar 11) (tC (.int 0))) (tCons (tOp (rIx K) (tVar 11) (tC (.int 1))) (tCons (tOp (rAddA K) (tOp (rIx K) (tVar 11) (tC (.int 1))) (tVar 5)) tNil)))))) tNil)))))
abbrev t_law_last_right_3 (K : PySem.W.Frag) : TS := (tSeq (tFor (iAny K (tVar 10)) (gName 12) (t_law_last_right_1 K)) (t_law_last_right_2 K))
abbrev t_law_last_right_4 (K : PySem.W.Frag) : TS := (tSeq (tAsg (tC .non) (gName 11)) (t_law_last_right_3 K))
abbrev t_law_last_right_5 (K : PySem.W.Frag) : TS := (tSeq (tAsg (tLc (iAny K (tCl 1 0 (sp_law_spots K) (fun vs zs => pick .non [0] (vs ++ zs)) E0 (tCons (tVar 1) tNil) tNil)) (gName 12) (tTest (tOp (rEqA K) (tOp (rEqA K) (tOp (rIx K) (tVar 12) (tC (.int 0))) (tC (.str "press"))) (tOp (rEqA K) (tVar 7) (tC (.str "press"))))) (tVar 12) [12]) (gName 10)) (t_law_last_right_4 K))
abbrev t_law_last_right_6 (K : PySem.W.Frag) : TS := (tSeq (tAsg (tMe (He.ga K "Plan") "with_job" 1 0 (sp_Plan_with_job K) (fun vs zs => pick .non [0, 1] (vs ++ zs)) E0 (tVar 2) (tCons (tMk (He.ga K "Job") 2 2 (sp_Job_init K) (fun vs zs => pick .non [0, 1, 2, 3, 4, 7] (vs ++ (zs ++ [.int 0, .non, .bl false]))) E0 (tCons (tVar 8) (tCons (tMk (He.ga K "Style") 2 0 (sp_Style_init K) (fun vs zs => pick .non [0, 1, 2] (vs ++ zs)) E0 (tCons (tC (.str "qqq")) (tCons (tLst (tCons (tTup (tCons (tVar 7) (tCons (tVar 5) (tCons (tC (.int 240)) tNil)))) tNil)) tNil)) tNil) tNil)) (tCons (tVar 6) (tCons (tOp (rI CPow fun i j => .int (i ^ j.toNat)) (tC (.int 10)) (tC (.int 6))) tNil))) tNil) tNil) (gName 9)) (t_law_last_right_5 K))
abbrev t_law_last_right_7 (K : PySem.W.Frag) : TS := (tSeq (tAsg (tOp (rIx K) (tLc (iRng2 (tCons (tC (.int 1)) (tCons (tC (.int 50)) tNil))) (gName 14) (tTest (tOp (rNotInA K) (tVar 14) (tVar 4))) (tVar 14) [14]) (tC (.int 0))) (gName 8)) (t_law_last_right_6 K))
abbrev t_law_last_right_8 (K : PySem.W.Frag) : TS := (tSeq (tAsg (tTup (tCons (tOp (rAddA K) (tOp (rI (fun _ j => 0 < j) fun i j => .int (i % j)) (tOp (rI0 fun i j => .int (i - j)) (tVar 5) (tC (.int 1))) (tC (.int 240))) (tC (.int 1))) (tCons (tOp (rIx K) (tLst (tCons (tC (.str "sew")) (tCons (tC (.str "press")) (tCons (tC (.str "cover")) (tCons (tC (.str "glue")) (tCons (tC (.str "letter")) tNil)))))) (tCl 2 0 (sp_law_draw K) (fun vs zs => pick .non [0, 1] (vs ++ zs)) E0 (tCons (tVar 0) (tCons (tC (.int 5)) tNil)) tNil)) tNil))) (gTup K 2 (gCons (gName 5) (gCons (gName 7) gNil)))) (t_law_last_right_7 K))
def t_law_last_right (K : PySem.W.Frag) : TS := (tSeq (tAsg (tCl 2 0 (sp_law_wish K) (fun vs zs => pick .non [0, 1] (vs ++ zs)) E0 (tCons (tVar 0) (tCons (tVar 3) tNil)) tNil) (gTup K 2 (gCons (gName 5) (gCons (gName 6) gNil)))) (t_law_last_right_8 K))
theorem rd_law_last_right {K : PySem.W.Frag} (vs : List V) (H : Hp) (Q : VK) (E : XK) (h : sp_law_last_right K vs H Q E) : t_law_last_right K { nx := fun _ H' => Q .non H', rt := Q } (start ["m", "pair", "made", "rows", "figures", "few", "early", "work", "figure", "more", "spots", "best", "spot", "mark", "one", "row"] vs) H := by
  obtain ⟨_, m, pr, mx, rp, fg, n, hp, js0, rv, B, M, L, rfl, hI, hd, hn, hpr, hP, hrp, hrv, hjl, hw9, q⟩ := h
  show t_law_last_right K ⟨_, _, _, _⟩ [some (.ref m), some (.ref pr), some (.ref mx), some (.ref rp), some (.ref fg), none, none, none, none, none, none, none, none, none, none, none] H
  obtain ⟨js, hjs⟩ : ∃ js, js = ordJ js0 := ⟨_, rfl⟩
  have hpm := ordJ_perm js0
  rw [← hjs] at hP hrv hpm
  have hol := hpm.length_eq
  have hxl := hrv.len
  have hl := hP.rows_len
  have hap := hP.apart
  have ok := rowsP_ok hP.gb.h0 hP.gb.p0 hP.gj hP.l
  obtain ⟨⟨dx0, bch0, aj0, bn0, bp0, ar0, jv0, rv0, nv0, pv0, p1, _⟩, _⟩ := id hP
  unfold t_law_last_right
  tm_at "go"
  refine' ap_law_wish (K := K) hI hd (by omega) hrp hrv (by omega) ?_
  clear hI hd
  intro p f0 t H M hI hd f1 f2 t0 t1
  tm_at "go"
  tm_at "draw"
  refine g_ix_all (fun x => ∃ z, x = V.str z ∧ WorkOk z) (SqL.of (hI.get (.head _))) (fun y hy => ?_) hr0 (by tm_at "arith") ?_
  · simp only [List.mem_cons, List.not_mem_nil, or_false] at hy
    rcases hy with rfl | rfl | rfl | rfl | rfl
    · exact ⟨_, rfl, "hand", by decide +kernel⟩
    · exact ⟨_, rfl, "press", by decide +kernel⟩
    · exact ⟨_, rfl, "hand", by decide +kernel⟩
    · exact ⟨_, rfl, "hand", by decide +kernel⟩
    · exact ⟨_, rfl, "hand", by decide +kernel⟩
  rintro _ ⟨wk, rfl, hwk⟩
  replace hI := hI.forget (L' := (fg, .lst (js0.map fun j => .int j.n)) :: L) (by tm_at "sub")
  obtain ⟨few, hfew⟩ : ∃ few : Int, few = (f0 - 1) % 240 + 1 := ⟨_, rfl⟩
  have few0 : 1 ≤ few := by omega
  have few1 : few ≤ 240 := by omega
  rw [← hfew]
  tm_at "go"
  have efg : (js0.map fun j => V.int j.n) = (js0.map (·.n)).map V.int := by
    rw [List.map_map]
    rfl
  rw [efg] at hI
  refine' g_lcF (rng 1 49) rfl walkR hI (by tm_at "wiped") (by decide) (fun v => !inV v ((js0.map (·.n)).map V.int)) (fun v => v) (fun D acc H' I => trivial) ?_ ?_
  · clear hI
    intro i y z D acc H' hx hz hI PY PN hY hN
    rw [hx] at hz
    cases hz
    obtain ⟨v, hv, rfl⟩ := List.mem_map.mp (List.mem_of_getElem? hx)
    tm_at "go"
    refine' g_wiped (by tm_at "wiped") ?_
    tm_at "go"
    refine g_nin_l (xs := (js0.map (·.n)).map V.int) (SqL.of (hI.get (by tm_at "mem"))) rfl (List.all_eq_true.mpr fun w hw => by
      obtain ⟨u, _, rfl⟩ := List.mem_map.mp hw
      rfl) ?_
    tm_at "go"
    cases e : inV (V.int (1 + (v : Int))) ((js0.map (·.n)).map V.int) with
    | true =>
      tm_at "go"
      exact hN _ (by rw [e]; rfl) hI
    | false =>
      tm_at "go"
      exact hY _ (by rw [e]; rfl) hI
  clear hI
  intro D H hI
  obtain ⟨fv, fs, hfs, hfm⟩ : ∃ (fv : Int) (fs : List V), ((rng 1 49).filter fun v => !inV v ((js0.map (·.n)).map V.int)).map (fun v => v) = .int fv :: fs ∧ (1 ≤ fv ∧ fv ≤ 49) ∧ fv ∉ js0.map (·.n) := by
    cases e : ((rng 1 49).filter fun v => !inV v ((js0.map (·.n)).map V.int)) with
    | nil =>
      have h1 := List.filter_eq_nil_iff.mp e
      have h2 : ((List.range 49).map fun (i : Nat) => (1 : Int) + (i : Int)) ⊆ js0.map (·.n) := fun v hv => by
        obtain ⟨i, hi, rfl⟩ := List.mem_map.mp hv
        have h3 := h1 (.int (1 + (i : Int))) (List.mem_map.mpr ⟨i, hi, rfl⟩)
        rw [inV_ints] at h3
        simpa using h3
      have h4 : ((List.range 49).map fun (i : Nat) => (1 : Int) + (i : Int)).Nodup := by decide +kernel
      have h5 := List.Nodup.length_le_of_subset h4 h2
      rw [List.length_map, List.length_map, List.length_range] at h5
      omega
    | cons v vs =>
      have hm : v ∈ (rng 1 49).filter fun v => !inV v ((js0.map (·.n)).map V.int) := by
        rw [e]
        exact List.mem_cons_self
      obtain ⟨hm1, hm2⟩ := List.mem_filter.mp hm
      obtain ⟨i, hi, rfl⟩ := List.mem_map.mp hm1
      have hi := List.mem_range.mp hi
      rw [inV_ints] at hm2
      refine ⟨1 + (i : Int), vs.map fun v => v, rfl, ⟨by omega, by omega⟩, ?_⟩
      simpa using hm2
  rw [hfs] at hI
  have hfn : fv ∉ js.map (·.n) := fun h => hfm.2 ((hpm.map (·.n)).mem_iff.mp h)
  refine g_ix_l (SqL.of (hI.get (.head _))) (atI_of (by decide) rfl) ?_
  replace hI := hI.forget (L' := L) (by tm_at "sub")
  tm_at "go"
  obtain ⟨st, rfl⟩ : ∃ q, q = x := ⟨_, rfl⟩
  refine' hI.give (o := .tup [.str wk, .int few, .int 240]) (by tm_at "del") ?_
  clear hI
  intro B1 s1 e1 hI
  have hst : StepG (wk, few, 240) := ⟨hwk, few0, few1, by show (0 : Int) ≤ 240; decide, by show (240 : Int) ≤ 240; decide⟩
  have hgt : GoodT "qqq" [(wk, few, 240)] := good_one qqq_ok hst
  refine' ap_Style_init (K := K) hI (.cons ⟨_, rfl, e1⟩ .nil) hgt ?_
  clear hI
  intro B3 H s3 hI hS
  refine ⟨rfl, ?_⟩
  tm_at "go"
  obtain ⟨jb, rfl⟩ : ∃ q, q = x := ⟨_, rfl⟩
  refine' ap_Job_init (K := K) ⟨fv, "qqq", [(wk, few, 240)], t, 1000000, false⟩ hI hS ⟨hgt, hfm.1.1, by have := hfm.1.2; show fv ≤ 99999; omega, t0, by show t ≤ 1000000; omega, by show t ≤ 1000000; omega, by show (1000000 : Int) ≤ 1000000; omega⟩ ?_
  clear hI
  intro B4 H s4 hI hJ
  refine ⟨rfl, ?_⟩
  have s14 := (s1.trans s3).trans s4
  replace hP := hP.same s14
  replace hpr := hpr.same s14
  replace hrp := s14 _ _ hrp
  replace hrv : RowsR B4 rv (rowsP hp js) := hrv.same s14
  replace hd := hd.same s14
  clear s1 s3 s4 e1 hS
  tm_at "go"
  refine' ap_Plan_with_job (K := K) hI hP hJ hfn (by omega) ?_
  clear hI
  intro y B5 H s5 hI hP5
  replace hP := hP.same s5
  replace hpr := hpr.same s5
  replace hrp := s5 _ _ hrp
  replace hrv : RowsR B5 rv (rowsP hp js) := hrv.same s5
  replace hd := hd.same s5
  have s15 := s14.trans s5
  clear s14 s5
  have eord : ordJ (js ++ [⟨fv, "qqq", [(wk, few, 240)], t, 1000000, false⟩]) = js ++ [⟨fv, "qqq", [(wk, few, 240)], t, 1000000, false⟩] := ordJ_last (by rw [hjs, ordJ_idem]) fun i hi => by
    have h9 := hw9 i (hpm.mem_iff.mp hi)
    show ([if i.q = true then 0 else 1, i.w, i.c, i.n] : List Int) ≤ [1, 1000000, t, fv]
    refine Std.le_of_lt (?_ : ([if i.q = true then 0 else 1, i.w, i.c, i.n] : List Int) < [1, 1000000, t, fv])
    cases i.q with
    | true => exact List.Lex.rel (by decide)
    | false => exact List.Lex.cons (List.Lex.rel (by show i.w < 1000000; omega))
  rw [eord] at hP5
  obtain ⟨wt, hwt⟩ : ∃ wt : WantT, wt = ⟨fv, 1, kindS wk, few, 240, t⟩ := ⟨_, rfl⟩
  have erows : rowsP hp (js ++ [⟨fv, "qqq", [(wk, few, 240)], t, 1000000, false⟩]) = rowsP hp js ++ [putW hp (rowsP hp js) wt t] := by
    rw [rowsP_one, hwt]
  have hgb := hP.gb
  tm_at "go"
  refine' ap_law_spots (K := K) hI hpr ?_
  clear hI
  intro sp0 ss0 B6 H s6 hI hss0
  replace hP := hP.same s6
  replace hP5 := hP5.same s6
  replace hrp := s6 _ _ hrp
  replace hrv : RowsR B6 rv (rowsP hp js) := hrv.same s6
  replace hd := hd.same s6
  have s16 := s15.trans s6
  clear s15 s6
  have hss0l : ss0.length = (spotsA hp).length := hss0.len
  have hzl : (ss0.zip (spotsA hp)).length = ss0.length := by
    rw [List.length_zip, hss0l, Nat.min_self]
  have hspl : (spotsA hp).length ≤ 18 := by
    have h1 := hgb.h1
    have h2 := hgb.p1
    show (spotsOf hp.1 "hand" ++ spotsOf hp.2 "press").length ≤ 18
    unfold spotsOf
    rw [List.length_append, List.length_map, List.length_map, List.length_range, List.length_range]
    omega
  tm_at "go"
  refine' g_lcF (ss0.zip (spotsA hp)) hzl walk_list hI (by tm_at "wiped") (by omega) (fun z => decide (z.2.1 = kindS wk)) (fun z => z.1) (fun D acc H' I => SqL.of (I.get (by tm_at "mem"))) ?_ ?_
  · clear hI
    intro k y' z D acc H' hx hz hI PY PN hY hN
    obtain ⟨e1, e2⟩ := zip_at hx hz
    obtain ⟨s, es, sa, rfl, bsa⟩ := hss0.get hx
    rw [es] at e2
    have e2 : s = z.2 := Option.some.inj e2
    rw [← e2, e1] at hY
    rw [← e2] at hN
    have hkd := spotA_kd (List.mem_of_getElem? es)
    tm_at "go"
    refine' g_wiped (by tm_at "wiped") ?_
    tm_at "go"
    refine g_ix_t (SqT.of (hI.b bsa)) (atI_of (by decide) rfl) ?_
    tm_at "go"
    have ekk : decide (V.bl (decide (V.str s.1 = V.str "press")) = V.bl (decide (V.str wk = V.str "press"))) = decide (s.1 = kindS wk) := by
      have hne : ¬ ("hand" : Str) = "press" := by decide +kernel
      have hne2 : ¬ ("press" : Str) = "hand" := by decide +kernel
      unfold kindS
      rcases hkd with h | h <;> by_cases hw : wk = "press" <;> simp [h, hw, hne, hne2]
    rw [ekk]
    refine g_dec (fun h1 => ?_) (fun h1 => ?_)
    · tm_at "go"
      exact hY _ (decide_eq_true h1) hI
    · exact hN _ (decide_eq_false h1) hI
  clear hI
  intro sq H hI
  obtain ⟨ss, hss⟩ : ∃ ss, ss = ((ss0.zip (spotsA hp)).filter fun z => decide (z.2.1 = kindS wk)).map fun z => z.1 := ⟨_, rfl⟩
  have hssr : SpotsB B6 ss (spotsOf (cntOf hp (kindS wk)) (kindS wk)) := by
    rw [hss, ← filt_AH (kindS_kd wk)]
    exact all2_filt (fun s => decide (s.1 = kindS wk)) hss0
  rw [← hss] at hI
  replace hI := hI.forget (L' := (sq, .lst ss) :: L) (by tm_at "sub")
  obtain ⟨sl, hsl⟩ : ∃ sl, sl = spotsOf (cntOf hp (kindS wk)) (kindS wk) := ⟨_, rfl⟩
  rw [← hsl] at hssr
  have hslA : ∀ s ∈ sl, s ∈ spotsA hp := fun s hs => by
    rw [hsl, ← filt_AH (kindS_kd wk)] at hs
    exact (List.mem_filter.mp hs).1
  obtain ⟨fr, hfr⟩ : ∃ fr : Spot → Int, fr = fun s => freeFrom (atPl (rowsP hp js) s) few t := ⟨_, rfl⟩
  have hssl := hssr.len
  tm_at "go"
  refine' g_aFor (walk_list (xs := ss)) (fun i σ H => ∃ (v c12 c13 : Option V) (bv : V) (B7 : Hp), σ = [some (.ref m), some (.ref pr), some (.ref mx), some (.ref rp), some (.ref fg), some (.int few), some (.int t), some (.str wk), some (.int fv), some (.ref y), some (.ref sq), some bv, c12, c13, none, none] ∧ Same B6 B7 ∧ Is B7 M ((sq, .lst ss) :: L) H ∧ BestV B7 (bestOf fr none (sl.take i)) bv)
    ⟨none, _, _, _, B6, rfl, fun _ _ e => e, hI, rfl⟩ (fun _ _ _ _ ⟨_, _, _, _, _, _, _, hI, _⟩ => SqL.of (hI.get (.head _))) ?_ ?_
  · clear hI
    rintro i w σ H H' hi ⟨v, c12, c13, bv, B7, rfl, s7, hI, hbv⟩ ⟨rfl, hw⟩
    obtain ⟨s, es, sa, rfl, bsa⟩ := hssr.get hw
    have hss := hslA s (List.mem_of_getElem? es)
    have hsa := s7 _ _ bsa
    replace hrp := s7 _ _ hrp
    replace hrv : RowsR B7 rv (rowsP hp js) := hrv.same s7
    have eb : bestOf fr none (sl.take (i + 1)) = better fr (bestOf fr none (sl.take i)) s := by
      rw [List.take_add_one, es]
      show bestOf fr none (sl.take i ++ [s]) = _
      unfold bestOf
      rw [List.foldl_append]
      rfl
    tm_at "go"
    refine' g_lcF (rv.zip (rowsP hp js)) (by rw [List.length_zip]; omega) walk_list hI (by tm_at "wiped") (by omega) (fun z => decide (z.2.s = s)) (fun z => z.1) (fun D acc H' I => SqL.of (I.b hrp)) ?_ ?_
    · clear hI
      intro k y z D acc H' hx hz hI PY PN hY hN
      obtain ⟨e1, e2⟩ := zip_at hx hz
      obtain ⟨r, er, c, sp, rfl, b1, b2⟩ := hrv.get hx
      rw [er] at e2
      have e2 : r = z.2 := Option.some.inj e2
      rw [← e2, e1] at hY
      rw [← e2] at hN
      have hok := ok r (List.mem_of_getElem? er)
      tm_at "go"
      refine' g_wiped (by tm_at "wiped") ?_
      tm_at "go"
      refine g_ix_t (SqT.of (hI.b b1)) (atI_of (by decide) rfl) ?_
      tm_at "go"
      refine g_eq_d (d := spotD r.s) (e := spotD s) (.tup (SqT.of (hI.b b2)) (.cons (.str _) (.cons (.int _) .nil))) (.tup (SqT.of (hI.b hsa)) (.cons (.str _) (.cons (.int _) .nil))) ((lay_spot (spotA_kd hok.s)).shaped (by decide)) ((lay_spot (spotA_kd hss)).shaped (by decide)) ?_
      rw [eqv_spotH]
      tm_at "go"
      refine g_dec (fun h1 => ?_) (fun h1 => ?_)
      · tm_at "go"
        exact hY _ (decide_eq_true h1) hI
      · exact hN _ (decide_eq_false h1) hI
    clear hI
    intro yp H hI
    obtain ⟨ys, hys⟩ : ∃ ys, ys = ((rv.zip (rowsP hp js)).filter fun z => decide (z.2.s = s)).map fun z => z.1 := ⟨_, rfl⟩
    have hyr : RowsR B7 ys (thereP hp js s) := by
      rw [hys]
      exact all2_filt (fun r => decide (r.s = s)) hrv
    rw [← hys] at hI
    have hyl : (thereP hp js s).length ≤ 1000 := Nat.le_trans (List.length_filter_le _ _) (by omega)
    refine' hI.give (a := yp) (by tm_at "del") ?_
    clear hI
    intro B8 s8 hyp hI
    replace hbv := hbv.same s8
    replace hsa := s8 _ _ hsa
    replace hyr : RowsR B8 ys (thereP hp js s) := hyr.same s8
    tm_at "go"
    refine' ap_law_least (K := K) hI hyp hyr hyl (least_free (hap s) (by omega)) ?_
    clear hI
    intro H hI
    have efr : freeFrom (atPl (rowsP hp js) s) few t = fr s := by rw [hfr]
    rw [efr]
    cases ho : bestOf fr none (sl.take i) with
    | none =>
      rw [ho] at hbv eb
      cases (show bv = .non from hbv)
      tm_at "go"
      refine g_dec (fun _ => ?_) (fun h => absurd rfl h)
      tm_at "go"
      refine' hI.give .here ?_
      clear hI
      intro B9 s9 hp9 hI
      refine ⟨none, _, _, _, B9, rfl, (s7.trans s8).trans s9, hI, ?_⟩
      rw [eb]
      exact ⟨_, sa, rfl, hp9, s9 _ _ hsa⟩
    | some sb =>
      rw [ho] at hbv eb
      obtain ⟨bt, bs, rfl, hbt, hbs⟩ := id hbv
      tm_at "go"
      refine g_dec (fun h => by cases h) (fun _ => ?_)
      tm_at "go"
      refine g_ix_t (SqT.of (hI.b hbt)) (atI_of (by decide) rfl) ?_
      tm_at "go"
      refine g_dec (fun h1 => ?_) (fun h1 => ?_)
      · tm_at "go"
        refine' hI.give .here ?_
        clear hI
        intro B9 s9 hp9 hI
        refine ⟨none, _, _, _, B9, rfl, (s7.trans s8).trans s9, hI, ?_⟩
        rw [eb, show better fr (some sb) s = some (s, fr s) from if_pos h1]
        exact ⟨_, sa, rfl, hp9, s9 _ _ hsa⟩
      · tm_at "next"
        refine ⟨none, _, _, _, B8, rfl, s7.trans s8, hI, ?_⟩
        rw [eb, show better fr (some sb) s = some sb from if_neg h1]
        exact hbv
  clear hI
  rintro σ H ⟨v, c12, c13, bv, B7, rfl, s7, hI, hbv⟩
  rw [hssl, List.take_of_length_le (Nat.le_refl _)] at hbv
  replace hP5 := hP5.same s7
  replace hrp := s7 _ _ hrp
  replace hrv : RowsR B7 rv (rowsP hp js) := hrv.same s7
  replace hd := hd.same s7
  have s17 := s16.trans s7
  clear s16 s7
  obtain ⟨sb, hsb⟩ : ∃ sb, bestOf fr none sl = some sb := by
    cases sl with
    | nil =>
      have h1 := hgb.h0
      have h2 := hgb.p0
      have h3 := congrArg List.length hsl
      unfold spotsOf cntOf at h3
      rw [List.length_map, List.length_range, List.length_nil] at h3
      split at h3 <;> omega
    | cons z0 zs =>
      obtain ⟨z, _, e, _⟩ := best_some (f := fr) (ss := zs) (s0 := z0)
      exact ⟨_, e⟩
  rw [hsb] at hbv
  obtain ⟨bt, bs, rfl, hbt, hbs⟩ := hbv
  have eput : putW hp (rowsP hp js) wt t = ⟨fv, 1, sb.1, sb.2, sb.2 + few⟩ := by
    unfold putW
    rw [hwt]
    show RowT.mk fv 1 ((bestOf (fun s => freeFrom (atPl (rowsP hp js) s) few t) none (spotsOf (cntOf hp (kindS wk)) (kindS wk))).getD (("", 0), 0)).1 ((bestOf (fun s => freeFrom (atPl (rowsP hp js) s) few t) none (spotsOf (cntOf hp (kindS wk)) (kindS wk))).getD (("", 0), 0)).2 _ = _
    rw [← hsl, ← hfr, hsb]
    rfl
  have hgj5 : ∀ r ∈ rowsP hp js ++ [(⟨fv, 1, sb.1, sb.2, sb.2 + few⟩ : RowT)], IsKd r.s.1 := fun r hr => by
    rw [← eput, ← erows] at hr
    exact spotA_kd (rowsP_ok hP5.gb.h0 hP5.gb.p0 hP5.gj hP5.l r hr).s
  obtain ⟨⟨dx5, bch5, aj5, bn5, bp5, ar5, jv5, rv5, nv5, pv5, p51, _⟩, _⟩ := id hP5
  tm_at "go"
  refine' ap_Plan_rows (K := K) hI hP5 ?_
  clear hI
  intro rp5 rw5 H hI hrw5
  rw [erows, eput] at hrw5
  tm_at "go"
  refine g_ix_t (SqT.of (hI.b hbt)) (atI_of (by decide) rfl) ?_
  tm_at "go"
  refine g_ix_t (SqT.of (hI.b hbt)) (atI_of (by decide) rfl) ?_
  tm_at "go"
  refine g_ix_t (SqT.of (hI.b hbt)) (atI_of (by decide) rfl) ?_
  tm_at "go"
  obtain ⟨ln, rfl⟩ : ∃ q, q = p := ⟨_, rfl⟩
  refine' hI.give (o := .tup [.int fv, .int 1, .ref bs, .int sb.2, .int (sb.2 + few)]) (by tm_at "del") ?_
  clear hI
  intro B8 s8 hnr hI
  refine g_add_l hI (hI.b (s8 _ _ hrp)) (hI.get (.head _)) (by rw [List.length_singleton]; omega) ?_
  clear hI
  intro rs8 H hI
  have hr8 : RowsR B8 (rv ++ [.ref _]) (rowsP hp js ++ [⟨fv, 1, sb.1, sb.2, sb.2 + few⟩]) := (RowsR.same hrv s8).snoc ⟨_, bs, rfl, hnr, s8 _ _ hbs⟩
  have lay := lay_rows hgj5
  refine g_eq_d (.lst (SqL.of (hI.get (by tm_at "mem"))) (dp_rows (s8.trans hI.ex) hrw5)) (.lst (SqL.of (hI.get (.head _))) (dp_rows hI.ex hr8)) (lay.shaped (by decide)) (lay.shaped (by decide)) ?_
  rw [SeqAt.eqv_refl _ lay.lay]
  exact q _ _ B8 (s17.trans s8) (hI.forget (by tm_at "sub")) ((hd.mono (by omega)).same s8)
abbrev J7 : JobT := ⟨7, "qqq", [("press", 5, 0)], 3, 8, false⟩
theorem ordJ7 : ordJ [J7] = [J7] := List.mergeSort_singleton _
abbrev fP (f t : Int) : Int := freeFrom (atPl (rowsP (1, 1) [J7]) ("press", 1)) f t
abbrev fH (f t : Int) : Int := freeFrom (atPl (rowsP (1, 1) [J7]) ("hand", 1)) f t
theorem fP1 : fP 1 0 = 0 := by decide +kernel
theorem fP3 : fP 3 0 = 0 := by decide +kernel
theorem fP4 : fP 4 0 = 8 := by decide +kernel
theorem fP6 : fP 1000000 0 = 8 := by decide +kernel
theorem fP66 : fP 1000000 1000000 = 1000000 := by decide +kernel
theorem fH6 : fH 1000000 0 = 0 := by decide +kernel
theorem good7 : GoodT "qqq" [("press", 5, 0)] := good_one qqq_ok ⟨⟨"press", by decide +kernel⟩, by decide, by decide, by decide, by decide⟩
def sp_law_most_right (K : PySem.W.Frag) : Sp := fun vs H Q _ => vs.length = 0 ∧ ∃ (B : Hp) (M L : List (Addr × HO)), vs = [] ∧ Is B M L H ∧ ∀ B' H', Same B B' → Is B' M L H' → Q (.bl true) H'
theorem ap_law_most_right {K : PySem.W.Frag} {H : Hp} {Q : VK} {E : XK} {B : Hp} {M L : List (Addr × HO)} (I : Is B M L H) (q : ∀ B' H', Same B B' → Is B' M L H' → Q (.bl true) H') : sp_law_most_right K [] H Q E := ⟨rfl, B, M, L, rfl, I, q⟩
abbrev t_law_most_right_0 (K : PySem.W.Frag) : TS := (tRet (tAndV (tOp (rEqA K) (tMe (He.ga K "Plan") "next_free" 3 0 (sp_Plan_next_free K) (fun vs zs => pick .non [0, 1, 2, 3] (vs ++ (zs ++ [.int 1, .int 0]))) E0 (tVar 0) (tCons (tVar 1) (tCons (tOp (rI CPow fun i j => .int (i ^ j.toNat)) (tC (.int 10)) (tC (.int 6))) (tCons (tOp (rI CPow fun i j => .int (i ^ j.toNat)) (tC (.int 10)) (tC (.int 6))) tNil))) tNil) (tOp (rI CPow fun i j => .int (i ^ j.toNat)) (tC (.int 10)) (tC (.int 6)))) (tOp (rEqA K) (tMe (He.ga K "Plan") "next_free" 2 0 (sp_Plan_next_free K) (fun vs zs => pick .non [0, 1, 2, 4] (vs ++ (zs ++ [.int 1, .int 0]))) E0 (tVar 0) (tCons (tTup (tCons (tC (.str "hand")) (tCons (tC (.int 1)) tNil))) (tCons (tOp (rI CPow fun i j => .int (i ^ j.toNat)) (tC (.int 10)) (tC (.int 6))) tNil)) tNil) (tC (.int 0)))))
abbrev t_law_most_right_1 (K : PySem.W.Frag) : TS := (tSeq (tIfS (tTest (tOp (rNeA K) (tLc (iAny K (tTup (tCons (tC (.int 1)) (tCons (tC (.int 3)) (tCons (tC (.int 4)) (tCons (tOp (rI CPow fun i j => .int (i ^ j.toNat)) (tC (.int 10)) (tC (.int 6))) tNil)))))) (gName 2) tYes (tMe (He.ga K "Plan") "next_free" 2 0 (sp_Plan_next_free K) (fun vs zs => pick .non [0, 1, 2, 4] (vs ++ (zs ++ [.int 1, .int 0]))) E0 (tVar 0) (tCons (tVar 1) (tCons (tVar 2) tNil)) tNil) [2]) (tLst (tCons (tC (.int 0)) (tCons (tC (.int 0)) (tCons (tC (.int 8)) (tCons (tC (.int 8)) tNil))))))) (tRet (tC (.bl false))) tNext) (t_law_most_right_0 K))
def t_law_most_right (K : PySem.W.Frag) : TS := (tSeq (tAsg (tTup (tCons (tMk (He.ga K "Plan") 2 0 (sp_Plan_init K) (fun vs zs => pick .non [0, 1, 2] (vs ++ (zs ++ [.non]))) E0 (tCons (tMk (He.ga K "Bench") 0 0 (sp_Bench_init K) (fun vs zs => pick .non [0, 1, 2] (vs ++ (zs ++ [.int 1, .int 1]))) E0 tNil tNil) (tCons (tLst (tCons (tMk (He.ga K "Job") 2 1 (sp_Job_init K) (fun vs zs => pick .non [0, 1, 2, 3, 5, 6] (vs ++ (zs ++ [.int 0, .non, .bl false]))) E0 (tCons (tC (.int 7)) (tCons (tMk (He.ga K "Style") 2 0 (sp_Style_init K) (fun vs zs => pick .non [0, 1, 2] (vs ++ zs)) E0 (tCons (tC (.str "qqq")) (tCons (tLst (tCons (tTup (tCons (tC (.str "press")) (tCons (tC (.int 5)) (tCons (tC (.int 0)) tNil)))) tNil)) tNil)) tNil) tNil)) (tCons (tC (.int 3)) tNil)) tNil)) tNil)) tNil) (tCons (tTup (tCons (tC (.str "press")) (tCons (tC (.int 1)) tNil))) tNil))) (gTup K 2 (gCons (gName 0) (gCons (gName 1) gNil)))) (t_law_most_right_1 K))
theorem rd_law_most_right {K : PySem.W.Frag} (vs : List V) (H : Hp) (Q : VK) (E : XK) (h : sp_law_most_right K vs H Q E) : t_law_most_right K { nx := fun _ H' => Q .non H', rt := Q } (start ["made", "spot", "few"] vs) H := by
  obtain ⟨_, B, M, L, rfl, hI, q⟩ := h
  show t_law_most_right K ⟨_, _, _, _⟩ [none, none, none] H
  have gb11 : GoodB (1, 1) := ⟨by decide, by decide, by decide, by decide⟩
  unfold t_law_most_right
  tm_at "go"
  obtain ⟨bx, rfl⟩ : ∃ q, q = x := ⟨_, rfl⟩
  refine' ap_Bench_init (K := K) (1, 1) hI gb11 ?_
  clear hI
  intro B1 H s1 hI hb1
  refine ⟨rfl, ?_⟩
  tm_at "go"
  obtain ⟨st, rfl⟩ : ∃ q, q = x := ⟨_, rfl⟩
  refine' hI.give (o := .tup [.str "press", .int 5, .int 0]) (by tm_at "del") ?_
  clear hI
  intro B2 s2 e2 hI
  refine' ap_Style_init (K := K) hI (.cons ⟨_, rfl, e2⟩ .nil) good7 ?_
  clear hI
  intro B3 H s3 hI hS
  refine ⟨rfl, ?_⟩
  tm_at "go"
  obtain ⟨jb, rfl⟩ : ∃ q, q = x := ⟨_, rfl⟩
  refine' ap_Job_init0 (K := K) J7 hI hS (by decide) ⟨good7, by decide, by decide, by decide, by decide, by decide, by decide⟩ ?_
  clear hI
  intro B4 H s4 hI hJ
  refine ⟨rfl, ?_⟩
  tm_at "go"
  obtain ⟨mx, rfl⟩ : ∃ q, q = x := ⟨_, rfl⟩
  refine' hI.give (o := .lst [.ref jb]) (by tm_at "del") ?_
  clear hI
  intro B5 s5 hl5 hI
  refine' ap_Plan_init (K := K) (js := [J7]) hI (hb1.same (((s2.trans s3).trans s4).trans s5)) hl5 (.cons ⟨_, rfl, hJ.same s5⟩ .nil) (Nat.le_of_ble_eq_true rfl) (by simp) ?_
  clear hI
  intro B6 H s6 hI hP
  rw [ordJ7] at hP
  refine ⟨rfl, ?_⟩
  have s16 := ((((s1.trans s2).trans s3).trans s4).trans s5).trans s6
  clear s1 s2 s3 s4 s5 s6 e2 hl5 hb1 hS hJ
  obtain ⟨⟨dx0, bch0, aj0, bn0, bp0, ar0, jv0, rv0, nv0, pv0, p1, _⟩, _⟩ := id hP
  tm_at "go"
  refine' hI.give (o := .tup [.str "press", .int 1]) (by tm_at "del") ?_
  clear hI
  intro B7 s7 hsp hI
  rename_i spx _ _ _
  replace hP := hP.same s7
  replace p1 := s7 _ _ p1
  have hs : IsPl B7 (1, 1) (.ref spx) (("press", 1) : Spot) := ⟨⟨spx, rfl, hsp⟩, by decide +kernel⟩
  refine' g_lcX (xs := [.int 1, .int 3, .int 4, .int 1000000]) [.int 0, .int 0, .int 8, .int 8] rfl walk_tup hI (by tm_at "wiped") (by decide) (fun D acc H' I => SqT.of (I.get (by tm_at "mem"))) ?_ ?_
  · clear hI
    intro i y z D acc H' hx hy hI PY hPY
    have two : ∃ f u : Int, y = .int f ∧ z = .int u ∧ 1 ≤ f ∧ f ≤ 1000000 ∧ fP f 0 = u := by
      match i, hx, hy with
      | 0, hx, hy => cases hx; cases hy; exact ⟨_, _, rfl, rfl, by decide, by decide, fP1⟩
      | 1, hx, hy => cases hx; cases hy; exact ⟨_, _, rfl, rfl, by decide, by decide, fP3⟩
      | 2, hx, hy => cases hx; cases hy; exact ⟨_, _, rfl, rfl, by decide, by decide, fP4⟩
      | 3, hx, hy => cases hx; cases hy; exact ⟨_, _, rfl, rfl, by decide, by decide, fP6⟩
    obtain ⟨f, u, rfl, rfl, f0, f1, fu⟩ := two
    tm_at "go"
    refine' g_wiped (by tm_at "wiped") ?_
    tm_at "go"
    refine ⟨rfl, mx, .ref spx, .int f, .int 0, (1, 1), [J7], _, _, _, rfl, hI, hP, .inr ⟨_, hs, .inr ⟨f, rfl, f0, f1, .inr ⟨0, rfl, by decide, by decide, ?_⟩⟩⟩⟩
    clear hI
    intro H hI
    show PY (.int (fP f 0)) H
    rw [fu]
    exact hPY _ hI
  clear hI
  intro D H hI
  tm_at "go"
  refine g_ne_isK (ns := [0, 0, 8, 8]) (SqL.of (hI.get (by tm_at "mem"))) (SqL.of (hI.get (.head _))) ?_
  replace hI := hI.forget (L' := L) (by tm_at "sub")
  tm_at "go"
  refine ⟨rfl, mx, .ref spx, .int 1000000, .int 1000000, (1, 1), [J7], _, _, _, rfl, hI, hP, .inr ⟨_, hs, .inr ⟨_, rfl, by decide, by decide, .inr ⟨_, rfl, by decide, by decide, ?_⟩⟩⟩⟩
  clear hI
  intro H hI
  have e1 : freeFrom (atPl (rowsP (1, 1) [J7]) ("press", 1)) 1000000 1000000 = 1000000 := fP66
  rw [e1]
  tm_at "go"
  refine g_dec (fun _ => ?_) (fun h => absurd rfl h)
  tm_at "go"
  refine' hI.give .here ?_
  clear hI
  intro B8 s8 hh hI
  refine ⟨rfl, mx, .ref p, .int 1000000, .int 0, (1, 1), [J7], _, _, _, rfl, hI, hP.same s8, .inr ⟨("hand", 1), ⟨⟨p, rfl, hh⟩, by decide +kernel⟩, .inr ⟨_, rfl, by decide, by decide, .inr ⟨_, rfl, by decide, by decide, ?_⟩⟩⟩⟩
  clear hI
  intro H hI
  have e2 : freeFrom (atPl (rowsP (1, 1) [J7]) ("hand", 1)) 1000000 0 = 0 := fH6
  rw [e2]
  tm_at "go"
  exact q B8 H ((s16.trans s7).trans s8) hI
theorem plan_firm {hp : Nat × Nat} {js : List JobT} (hg : GoodB hp) (hgj : ∀ j ∈ js, GoodJ j) : All2 (RW hp) (rowsP hp js) (wantsA js) ∧ All2 (fun (r : RowT) (t : Int) => t ≤ r.b) (rowsP hp js) (rdys (rowsP hp js) (wantsA js) 0) := by
  have hrw := allF_firm (hp := hp) hg.h0 hg.p0 (js := js) (all := [])
  have hge := allF_ge (hp := hp) hg.h0 hg.p0 (js := js) (all := [])
  have hrd := allF_rdys (hp := hp) (js := js) (all := []) (e := 0) fun j h => (hgj j h).t.l0
  rw [rowsP_eq, hrd]
  exact ⟨hrw, All2.of_maps hge⟩
def sp_law (K : PySem.W.Frag) : Sp := fun vs H Q _ => vs.length = 1 ∧ ∃ (a : Addr) (ns : List Int) (B : Hp), vs = [.ref a] ∧ Is B [] [(tRf K, .tbl #[])] H ∧ SqL K B a (ns.map V.int) ∧ ns.length ≤ 63 ∧ ∀ H', Q (.bl true) H'
theorem law_asked {K : PySem.W.Frag} (hN : ([(("_law_refused" : Str), (none : Option Str))].map fun p => (He.cT K p).2).Nodup) (H : Hp) (a : Addr) (ns : List Int) (hn : ns.length ≤ 63) (ht : ∀ p ∈ [(("_law_refused" : Str), (none : Option Str))].map (He.cT K), H p.2 = some (.tbl #[]))
    (na : a ∉ ([(("_law_refused" : Str), (none : Option Str))].map (He.cT K)).map (·.2)) (h : SqL K H a (ns.map V.int)) : sp_law K [.ref a] H (fun v _ => v = .bl true) fun _ _ _ => False := by
  obtain ⟨B, hI, hs⟩ := is_tables (K := K) [tRf K] (by simp) (fun p hp => by rw [List.mem_singleton.mp hp]; exact ht _ (List.mem_cons_self)) (by simpa using na) h
  exact ⟨rfl, a, ns, B, rfl, hI, hs, hn, fun _ => rfl⟩
abbrev t_law_0 (K : PySem.W.Frag) : TS := (tIfS (tNot (tTr K (tCl 5 0 (sp_law_last_right K) (fun vs zs => pick .non [0, 1, 2, 3, 4] (vs ++ zs)) E0 (tCons (tVar 1) (tCons (tVar 3) (tCons (tVar 5) (tCons (tVar 6) (tCons (tLc (iAny K (tVar 4)) (gName 9) tYes (tOp (rIx K) (tVar 9) (tC (.int 0))) [9]) tNil))))) tNil))) (tRet (tC (.bl false))) tNext)
abbrev t_law_1 (K : PySem.W.Frag) : TS := (tIfS (tOr (tNot (tTr K (tCl 3 0 (sp_law_refused K) (fun vs zs => pick .non [0, 1, 2] (vs ++ zs)) E0 (tCons (tVar 1) (tCons (tVar 5) (tCons (tVar 3) tNil))) tNil))) (tTest (tOp (rNeA K) (tMe (He.ga K "Plan") "rows" 0 0 (sp_Plan_rows K) (fun vs zs => pick .non [0, 1] (vs ++ (zs ++ [.non]))) E0 (tVar 5) tNil tNil) (tVar 6)))) (tRet (tC (.bl false))) tNext)
abbrev t_law_2 (K : PySem.W.Frag) : TS := (tSeq (tFor (iRng1 (tCons (tC (.int 3)) tNil)) (gName 7) (t_law_0 K)) (t_law_1 K))
abbrev t_law_3 (K : PySem.W.Frag) : TS := (tSeq (tIfS (tNot (tTr K (tCB (rAll K) (tCons (tLc (iAny K (tCl 1 0 (sp_law_spots K) (fun vs zs => pick .non [0] (vs ++ zs)) E0 (tCons (tVar 3) tNil) tNil)) (gName 8) tYes (tCl 4 0 (sp_law_free_right K) (fun vs zs => pick .non [0, 1, 2, 3] (vs ++ zs)) E0 (tCons (tVar 1) (tCons (tVar 5) (tCons (tVar 6) (tCons (tVar 8) tNil)))) tNil) [8]) tNil)))) (tRet (tC (.bl false))) tNext) (t_law_2 K))
abbrev t_law_4 (K : PySem.W.Frag) : TS := (tSeq (tIfS (tNot (tTr K (tCl 3 0 (sp_law_firm K) (fun vs zs => pick .non [0, 1, 2] (vs ++ zs)) E0 (tCons (tVar 6) (tCons (tVar 3) (tCons (tVar 4) tNil))) tNil))) (tRet (tC (.bl false))) tNext) (t_law_3 K))
abbrev t_law_5 (K : PySem.W.Frag) : TS := (tSeq (tAsg (tMe (He.ga K "Plan") "rows" 0 0 (sp_Plan_rows K) (fun vs zs => pick .non [0, 1] (vs ++ (zs ++ [.non]))) E0 (tVar 5) tNil tNil) (gName 6)) (t_law_4 K))
abbrev t_law_6 (K : PySem.W.Frag) : TS := (tSeq (tAsg (tCl 2 0 (sp_law_plan K) (fun vs zs => pick .non [0, 1] (vs ++ zs)) E0 (tCons (tVar 3) (tCons (tVar 4) tNil)) tNil) (gName 5)) (t_law_5 K))
abbrev t_law_7 (K : PySem.W.Frag) : TS := (tSeq (tAsg (tCl 2 0 (sp_law_case K) (fun vs zs => pick .non [0, 1] (vs ++ zs)) E0 (tCons (tVar 1) (tCons (tOp (rIx K) (tLst (tCons (tC (.int 3)) (tCons (tC (.int 7)) tNil))) (tCl 2 0 (sp_law_draw K) (fun vs zs => pick .non [0, 1] (vs ++ zs)) E0 (tCons (tVar 1) (tCons (tC (.int 2)) tNil)) tNil)) tNil)) tNil) (gTup K 2 (gCons (gName 3) (gCons (gName 4) gNil)))) (t_law_6 K))
abbrev t_law_8 (K : PySem.W.Frag) : TS := (tRet (tC (.bl true)))
abbrev t_law_9 (K : PySem.W.Frag) : TS := (tSeq (tFor (iRng1 (tCons (tOp (rAddA K) (tC (.int 2)) (tCB rMin2 (tCons (tC (.int 2)) (tCons (tOp (rI CDiv fun i j => .int (i / j)) (tCB (rLen K) (tCons (tVar 0) tNil)) (tC (.int 16))) tNil)))) tNil)) (gName 2) (t_law_7 K)) (t_law_8 K))
abbrev t_law_10 (K : PySem.W.Frag) : TS := (tSeq (tIfS (tNot (tTr K (tCl 0 0 (sp_law_most_right K) (fun vs zs => pick .non [] (vs ++ zs)) E0 tNil tNil))) (tRet (tC (.bl false))) tNext) (t_law_9 K))
def t_law (K : PySem.W.Frag) : TS := (tSeq (tAsg (tCl 1 0 (sp_law_begun K) (fun vs zs => pick .non [0] (vs ++ zs)) E0 (tCons (tVar 0) tNil) tNil) (gName 1)) (t_law_10 K))
theorem rd_law {K : PySem.W.Frag} (vs : List V) (H : Hp) (Q : VK) (E : XK) (h : sp_law K vs H Q E) : t_law K { nx := fun _ H' => Q .non H', rt := Q } (start ["script", "m", "turn", "pair", "plains", "made", "rows", "k", "spot", "plain"] vs) H := by
  obtain ⟨_, a, ns, B, rfl, hI, ha, hl, q⟩ := h
  show t_law K ⟨_, _, _, _⟩ [some (.ref a), none, none, none, none, none, none, none, none, none] H
  unfold t_law
  tm_at "go"
  refine' ap_law_begun (K := K) hI ha hl ?_
  clear hI
  intro m B0 M H s0 hI hd
  have hsa : SqL K B0 a (ns.map V.int) := Same.seq s0 ha
  have hal : (ns.map V.int).length = ns.length := List.length_map _
  tm_at "go"
  try refine' g_aCl rfl rfl ?_
  refine' ap_law_most_right (K := K) hI ?_
  clear hI
  intro B1 H s1 hI
  replace hsa : SqL K B1 a (ns.map V.int) := Same.seq s1 hsa
  replace hd := hd.same s1
  tm_at "go"
  refine' g_aFor walk_range (fun tn σ H => ∃ (c2 c3 c4 c5 c6 c7 : Option V) (B2 : Hp) (M : List (Addr × HO)) (ps : Array Value), σ = [some (.ref a), some (.ref m), c2, c3, c4, c5, c6, c7, none, none] ∧ Is B2 M [(tRf K, .tbl ps)] H ∧ TabI B2 qRf ps ∧ Dr m (2000 * (tn : Int)) B2 M)
    ⟨_, _, _, _, _, _, B1, M, _, rfl, hI, TabI.nil, hd.mono (by omega)⟩ (fun _ _ _ _ _ => trivial) ?_ ?_
  · clear hI hd hsa ha
    rintro tn y σ H H' ht ⟨c2, c3, c4, c5, c6, c7, B2, M, ps, rfl, hI, hT, hd⟩ ⟨rfl, rfl⟩
    have ht4 : tn < 4 := by
      have ht : tn < (2 + min (2 : Int) (((ns.map V.int).length : Int) / 16)).toNat := ht
      omega
    clear ht
    tm_at "go"
    tm_at "draw"
    refine g_ix_ints (lo := 3) (hi := 7) (by tm_at "sq") (by repeat (first | exact Ints.nil | refine Ints.cons (by omega) ?_)) hr0 (by tm_at "arith") ?_
    intro top t0 t1
    replace hI := hI.forget (L' := [(tRf K, .tbl ps)]) (by tm_at "sub")
    tm_at "go"
    refine' ap_law_case (K := K) hI hd (by omega) (by omega) (by omega) ?_
    clear hI hd
    intro p pr pl hp xs js B3 H M s3 hI hd hpp hpr hpl hj hnd hjl hw9
    replace hT := hT.same s3
    have hg := hpr.good
    have hgj : ∀ j ∈ js, GoodJ j := hj.of_perm
    have hgo : ∀ j ∈ ordJ js, GoodJ j := fun j h => hgj j ((ordJ_perm js).mem_iff.mp h)
    tm_at "go"
    refine' ap_law_plan (K := K) hI hpr hpl hj (by omega) hnd ?_
    clear hI
    intro x B4 H s4 hI hP
    replace hT := hT.same s4
    replace hd := hd.same s4
    replace hpr := hpr.same s4
    replace hpl := s4 _ _ hpl
    replace hj := hj.same s4
    obtain ⟨⟨dx0, bch0, aj0, bn0, bp0, ar0, jv0, rv0, nv0, pv0, p1, _⟩, _⟩ := id hP
    tm_at "go"
    refine' ap_Plan_rows (K := K) hI hP ?_
    clear hI
    intro rp rv H hI hrv
    refine' hI.give .here ?_
    clear hI
    intro B5 s5 hrp hI
    replace hT := hT.same s5
    replace hd := hd.same s5
    replace hpr := hpr.same s5
    replace hpl := s5 _ _ hpl
    replace hj := hj.same s5
    replace hP := hP.same s5
    replace hrv : RowsR B5 rv (rowsP hp (ordJ js)) := RowsR.same hrv s5
    obtain ⟨hf1, hf2⟩ := plan_firm hg hgo
    tm_at "go"
    refine' ap_law_firm (K := K) hI hrp hrv hpr hpl hj (by omega) hf1 hf2 ?_
    clear hI
    intro B6 H s6 hI
    replace hT := hT.same s6
    replace hd := hd.same s6
    replace hpr := hpr.same s6
    replace hpl := s6 _ _ hpl
    replace hj := hj.same s6
    replace hP := hP.same s6
    replace hrp := s6 _ _ hrp
    replace hrv : RowsR B6 rv (rowsP hp (ordJ js)) := RowsR.same hrv s6
    tm_at "go"
    refine' ap_law_spots (K := K) hI hpr ?_
    clear hI
    intro sp ss B7 H s7 hI hss
    replace hT := hT.same s7
    replace hd := hd.same s7
    replace hpr := hpr.same s7
    replace hpl := s7 _ _ hpl
    replace hj := hj.same s7
    replace hP := hP.same s7
    replace hrp := s7 _ _ hrp
    replace hrv : RowsR B7 rv (rowsP hp (ordJ js)) := RowsR.same hrv s7
    have hssl : ss.length = (spotsA hp).length := hss.len
    have hspl : (spotsA hp).length ≤ 18 := by
      have h1 := hg.h1
      have h2 := hg.p1
      show (spotsOf hp.1 "hand" ++ spotsOf hp.2 "press").length ≤ 18
      unfold spotsOf
      rw [List.length_append, List.length_map, List.length_map, List.length_range, List.length_range]
      omega
    tm_at "go"
    obtain ⟨n0, hn0⟩ : ∃ n0 : Int, n0 = 2000 * (tn : Int) + 600 := ⟨_, rfl⟩
    refine' g_aLc (walk_list (xs := ss)) hI (by tm_at "wiped") (by omega) (fun i acc B' M' => acc = (List.replicate i true).map V.bl ∧ Dr m (n0 + 24 * (i : Int)) B' M' ∧ Same B7 B') ⟨rfl, hd.mono (by omega), fun _ _ e => e⟩ (fun _ _ _ _ _ _ _ _ I _ => SqL.of (I.get (by tm_at "mem"))) ?_ ?_
    · clear hI hd
      rintro i v acc B8 M8 D H' H'' hi s8 hI ⟨rfl, hd, _⟩ ⟨rfl, hv⟩ hz
      obtain ⟨s, es, hsr⟩ := hss.get hv
      have hpl9 : IsPl B8 hp v s := ⟨hsr.same s8, List.mem_of_getElem? es⟩
      tm_at "go"
      refine' g_wiped (by tm_at "wiped") ?_
      tm_at "go"
      refine' ap_law_free_right (K := K) hI hd (by omega) (hP.same s8) (s8 _ _ hrp) (RowsR.same hrv s8) hpl9 ?_
      clear hI hd
      rintro H M9 ⟨B9, s9, hI, hd⟩
      refine lcY (s8.trans s9) hI hz ⟨?_, hd.mono (by omega), s8.trans s9⟩
      rw [List.replicate_succ', List.map_append]
      rfl
    clear hI hd
    rintro acc B8 M D H s8 hI ⟨rfl, hd, _⟩ _
    replace hT := hT.same s8
    replace hpr := hpr.same s8
    replace hpl := s8 _ _ hpl
    replace hj := hj.same s8
    replace hP := hP.same s8
    replace hrp := s8 _ _ hrp
    replace hrv : RowsR B8 rv (rowsP hp (ordJ js)) := RowsR.same hrv s8
    replace hd : Dr m (n0 + 500) B8 M := hd.mono (by omega)
    tm_at "go"
    refine g_all (l := List.replicate ss.length true) (P := fun b => b) (SqL.of (hI.get (.head _))) ?_
    rw [List.all_eq_true.mpr fun b hb => List.eq_of_mem_replicate hb]
    replace hI := hI.forget (L' := [(tRf K, .tbl ps)]) (by tm_at "sub")
    have hxl := hj.len
    tm_at "go"
    refine' g_aFor walk_range (fun k σ H => ∃ (c7 : Option V) (B9 : Hp) (M : List (Addr × HO)), σ = [some (.ref a), some (.ref m), some (.int (0 + (tn : Int))), some (.ref pr), some (.ref pl), some (.ref x), some (.ref rp), c7, none, none] ∧ Same B8 B9 ∧ Is B9 M [(tRf K, .tbl ps)] H ∧ Dr m (n0 + 500 + 13 * (k : Int)) B9 M)
      ⟨_, B8, M, rfl, fun _ _ e => e, hI, hd.mono (by omega)⟩ (fun _ _ _ _ _ => trivial) ?_ ?_
    · clear hI hd
      rintro k y σ H H' hk ⟨c7, B9, M, rfl, s9, hI, hd⟩ ⟨rfl, rfl⟩
      have hk : k < 3 := hk
      have hpl9 := s9 _ _ hpl
      have hj9 := hj.same s9
      tm_at "go"
      refine' g_lcX (xs := xs) (js.map fun j => V.int j.n) (by rw [List.length_map, hxl]) walk_list hI (by tm_at "wiped") (by omega) (fun D acc H' I => SqL.of (I.b hpl9)) ?_ ?_
      · clear hI
        intro i y z D acc H' hx hy hI PY hPY
        obtain ⟨j, ej, b, rfl, hJ⟩ := hj9.get hx
        obtain ⟨⟨s, h1, _⟩, _⟩ := id hJ
        tm_at "go"
        refine' g_wiped (by tm_at "wiped") ?_
        tm_at "go"
        refine g_ix_t (SqT.of (hI.b h1)) (atI_of (by decide) rfl) ?_
        rw [List.getElem?_map, ej] at hy
        cases hy
        exact hPY _ hI
      clear hI
      intro D H hI
      tm_at "go"
      refine' ap_law_last_right (K := K) hI hd (by omega) (hpr.same s9) (hP.same s9) (s9 _ _ hrp) (RowsR.same hrv s9) (by omega) hw9 ?_
      clear hI hd
      intro H M B10 s10 hI hd
      tm_at "go"
      exact ⟨_, B10, M, rfl, s9.trans s10, hI, hd.mono (by omega)⟩
    clear hI hd
    rintro σ H ⟨c7, B9, M, rfl, s9, hI, hd⟩
    replace hT := hT.same s9
    replace hpr := hpr.same s9
    replace hP := hP.same s9
    replace hrp := s9 _ _ hrp
    replace hrv : RowsR B9 rv (rowsP hp (ordJ js)) := RowsR.same hrv s9
    replace hd : Dr m (n0 + 600) B9 M := hd.mono (show n0 + 500 + 13 * ((3 : Nat) : Int) ≤ n0 + 600 by omega)
    tm_at "go"
    refine' ap_law_refused (K := K) hI hT hd (by omega) hP hpr ?_
    clear hI hT hd
    intro B10 ps10 M H s10 hI hT hd
    replace hP := hP.same s10
    replace hrp := s10 _ _ hrp
    replace hrv : RowsR B10 rv (rowsP hp (ordJ js)) := RowsR.same hrv s10
    obtain ⟨⟨dx1, bch1, aj1, bn1, bp1, ar1, jv1, rv1, nv1, pv1, p11, _⟩, _⟩ := id hP
    tm_at "go"
    refine' ap_Plan_rows (K := K) hI hP ?_
    clear hI
    intro rp2 rw2 H hI hrw2
    have lay := lay_rows (rs := rowsP hp (ordJ js)) fun r hr => spotA_kd (rowsP_ok hP.gb.h0 hP.gb.p0 hP.gj hP.l r hr).s
    tm_at "go"
    refine g_ne_d (.lst (SqL.of (hI.get (.head _))) (dp_rows hI.ex hrw2)) (.lst (SqL.of (hI.b hrp)) (dp_rows hI.ex hrv)) (lay.shaped (by decide)) (lay.shaped (by decide)) ?_
    rw [SeqAt.eqv_refl _ lay.lay]
    replace hI := hI.forget (L' := [(tRf K, .tbl ps10)]) (by tm_at "sub")
    tm_at "go"
    exact ⟨_, _, _, _, _, _, B10, M, ps10, rfl, hI, hT, hd.mono (by omega)⟩
  · clear hI hd
    rintro σ H ⟨c2, c3, c4, c5, c6, c7, B2, M, ps, rfl, hI, hT, hd⟩
    tm_at "go"
    exact q _
end Bz
namespace Bz
open PySem PySem.Spec PyProof.Rows L2
abbrev FnP (K : PySem.W.Frag) (x q : Str) (st : Stmt) (dvs : List V) (f : Addr) (fd : FuncData) : Prop := FunD K x q (defArgs st) (defBody st) (defScope st) dvs [] f fd
structure Txt (K : PySem.W.Frag) (w : World) (mg : Str → Option Value) : Prop where
  c_MOST_LETTERS : ∃ t, mg "MOST_LETTERS" = some (.int 8 t)
  c_MOST_NUMBER : ∃ t, mg "MOST_NUMBER" = some (.int 99999 t)
  c_MOST_HOUR : ∃ t, mg "MOST_HOUR" = some (.int 1000000 t)
  c_MOST_HOURS : ∃ t, mg "MOST_HOURS" = some (.int 240 t)
  c_MOST_STEPS : ∃ t, mg "MOST_STEPS" = some (.int 12 t)
  c_MOST_PLACES : ∃ t, mg "MOST_PLACES" = some (.int 9 t)
  c_MOST_JOBS : ∃ t, mg "MOST_JOBS" = some (.int 40 t)
  c_LETTERS : ∃ t, mg "LETTERS" = some (.str "abcdefghijklmnopqrstuvwxyz" t)
  g_BARRED_WORDS : mg "BARRED_WORDS" = some (.ref (He.ga K "BARRED_WORDS"))
  k_BARRED_WORDS : ∀ H, SqT K H (He.ga K "BARRED_WORDS") [.str "style", .str "job", .str "round", .str "sew", .str "glue", .str "cover", .str "letter", .str "press", .str "hand", .str "haste"]
  g_KINDS : mg "KINDS" = some (.ref (He.ga K "KINDS"))
  k_KINDS : KTab K w (He.ga K "KINDS") [("sew", "hand"), ("glue", "hand"), ("cover", "hand"), ("letter", "hand"), ("press", "press")]
  z_KeyError : mg "KeyError" = none
  z_OverflowError : mg "OverflowError" = none
  z_ValueError : mg "ValueError" = none
  z_all : mg "all" = none
  z_bool : mg "bool" = none
  z_enumerate : mg "enumerate" = none
  z_int : mg "int" = none
  z_isinstance : mg "isinstance" = none
  z_len : mg "len" = none
  z_list : mg "list" = none
  z_max : mg "max" = none
  z_min : mg "min" = none
  z_range : mg "range" = none
  z_set : mg "set" = none
  z_sorted : mg "sorted" = none
  z_str : mg "str" = none
  z_sum : mg "sum" = none
  z_tuple : mg "tuple" = none
  z_zip : mg "zip" = none
  g_Style : mg "Style" = some (.ref (He.ga K "Style"))
  cl_Style : Cls K (He.ga K "Style")
  mk_Style : Mk K (He.ga K "Style") (He.ma K (He.ga K "Style") "__init__")
  od_Style : OwnD K (He.ga K "Style")
  n_Style_called : NoAttr K (He.ga K "Style") "called"
  n_Style_step_rows : NoAttr K (He.ga K "Style") "step_rows"
  g_Job : mg "Job" = some (.ref (He.ga K "Job"))
  cl_Job : Cls K (He.ga K "Job")
  mk_Job : Mk K (He.ga K "Job") (He.ma K (He.ga K "Job") "__init__")
  od_Job : OwnD K (He.ga K "Job")
  n_Job_came : NoAttr K (He.ga K "Job") "came"
  n_Job_has_number : NoAttr K (He.ga K "Job") "has_number"
  n_Job_has_style : NoAttr K (He.ga K "Job") "has_style"
  n_Job_hasty : NoAttr K (He.ga K "Job") "hasty"
  n_Job_wanted : NoAttr K (He.ga K "Job") "wanted"
  g_Bench : mg "Bench" = some (.ref (He.ga K "Bench"))
  cl_Bench : Cls K (He.ga K "Bench")
  mk_Bench : Mk K (He.ga K "Bench") (He.ma K (He.ga K "Bench") "__init__")
  od_Bench : OwnD K (He.ga K "Bench")
  n_Bench_many_of : NoAttr K (He.ga K "Bench") "many_of"
  g_Plan : mg "Plan" = some (.ref (He.ga K "Plan"))
  cl_Plan : Cls K (He.ga K "Plan")
  mk_Plan : Mk K (He.ga K "Plan") (He.ma K (He.ga K "Plan") "__init__")
  od_Plan : OwnD K (He.ga K "Plan")
  n_Plan_all_jobs : NoAttr K (He.ga K "Plan") "all_jobs"
  n_Plan_all_rows : NoAttr K (He.ga K "Plan") "all_rows"
  n_Plan_by_number : NoAttr K (He.ga K "Plan") "by_number"
  n_Plan_by_place : NoAttr K (He.ga K "Plan") "by_place"
  n_Plan_of_bench : NoAttr K (He.ga K "Plan") "of_bench"
  g_BadValue : mg "BadValue" = some (.ref (He.ga K "BadValue"))
  e_BadValue : ErrOk K "BadValue" ["what"]
  g_BadText : mg "BadText" = some (.ref (He.ga K "BadText"))
  e_BadText : ErrOk K "BadText" ["what", "row", "word"]
  g_NoSuch : mg "NoSuch" = some (.ref (He.ga K "NoSuch"))
  e_NoSuch : ErrOk K "NoSuch" ["what", "name"]
  g_TooMany : mg "TooMany" = some (.ref (He.ga K "TooMany"))
  e_TooMany : ErrOk K "TooMany" ["most"]
  kit : ErrKit K
  tn : ([(("_law_refused" : Str), (none : Option Str))].map fun p => (He.cT K p).2).Nodup
  d_BadValue_init : ∃ fd, FnP K "__init__" "BadValue.__init__" (inClass (topS 2) 0) [] (He.ma K (He.ga K "BadValue") "__init__") fd
  d_NoSuch_init : ∃ fd, FnP K "__init__" "NoSuch.__init__" (inClass (topS 4) 0) [] (He.ma K (He.ga K "NoSuch") "__init__") fd
  g_is_whole : mg "is_whole" = some (.ref (He.ga K "is_whole"))
  d_is_whole : ∃ fd, FnP K "is_whole" "is_whole" (topS 15) [.int 1000000] (He.ga K "is_whole") fd
  g_is_name : mg "is_name" = some (.ref (He.ga K "is_name"))
  d_is_name : ∃ fd, FnP K "is_name" "is_name" (topS 16) [] (He.ga K "is_name") fd
  g_kind_of : mg "kind_of" = some (.ref (He.ga K "kind_of"))
  d_kind_of : ∃ fd, FnP K "kind_of" "kind_of" (topS 17) [] (He.ga K "kind_of") fd
  g_is_step : mg "is_step" = some (.ref (He.ga K "is_step"))
  d_is_step : ∃ fd, FnP K "is_step" "is_step" (topS 18) [] (He.ga K "is_step") fd
  g_are_steps : mg "are_steps" = some (.ref (He.ga K "are_steps"))
  d_are_steps : ∃ fd, FnP K "are_steps" "are_steps" (topS 21) [] (He.ga K "are_steps") fd
  d_Style_init : ∃ fd, FnP K "__init__" "Style.__init__" (inClass (topS 22) 0) [] (He.ma K (He.ga K "Style") "__init__") fd
  m_Style_steps : Meth K (He.ga K "Style") "steps" (He.ma K (He.ga K "Style") "steps")
  d_Style_steps : ∃ fd, FnP K "steps" "Style.steps" (inClass (topS 22) 2) [] (He.ma K (He.ga K "Style") "steps") fd
  m_Style_span : Meth K (He.ga K "Style") "span" (He.ma K (He.ga K "Style") "span")
  d_Style_span : ∃ fd, FnP K "span" "Style.span" (inClass (topS 22) 4) [] (He.ma K (He.ga K "Style") "span") fd
  d_Job_init : ∃ fd, FnP K "__init__" "Job.__init__" (inClass (topS 23) 0) [.int 0, .non, .bl false] (He.ma K (He.ga K "Job") "__init__") fd
  m_Job_numbered : Meth K (He.ga K "Job") "numbered" (He.ma K (He.ga K "Job") "numbered")
  d_Job_numbered : ∃ fd, FnP K "numbered" "Job.numbered" (inClass (topS 23) 1) [] (He.ma K (He.ga K "Job") "numbered") fd
  m_Job_of_style : Meth K (He.ga K "Job") "of_style" (He.ma K (He.ga K "Job") "of_style")
  d_Job_of_style : ∃ fd, FnP K "of_style" "Job.of_style" (inClass (topS 23) 2) [] (He.ma K (He.ga K "Job") "of_style") fd
  m_Job_brought_at : Meth K (He.ga K "Job") "brought_at" (He.ma K (He.ga K "Job") "brought_at")
  d_Job_brought_at : ∃ fd, FnP K "brought_at" "Job.brought_at" (inClass (topS 23) 3) [] (He.ma K (He.ga K "Job") "brought_at") fd
  m_Job_rank : Meth K (He.ga K "Job") "rank" (He.ma K (He.ga K "Job") "rank")
  d_Job_rank : ∃ fd, FnP K "rank" "Job.rank" (inClass (topS 23) 6) [] (He.ma K (He.ga K "Job") "rank") fd
  g_rank_of : mg "rank_of" = some (.ref (He.ga K "rank_of"))
  d_rank_of : ∃ fd, FnP K "rank_of" "rank_of" (topS 24) [] (He.ga K "rank_of") fd
  g_by_rank : mg "by_rank" = some (.ref (He.ga K "by_rank"))
  d_by_rank : ∃ fd, FnP K "by_rank" "by_rank" (topS 25) [] (He.ga K "by_rank") fd
  d_Bench_init : ∃ fd, FnP K "__init__" "Bench.__init__" (inClass (topS 29) 0) [.int 1, .int 1] (He.ma K (He.ga K "Bench") "__init__") fd
  m_Bench_places_of : Meth K (He.ga K "Bench") "places_of" (He.ma K (He.ga K "Bench") "places_of")
  d_Bench_places_of : ∃ fd, FnP K "places_of" "Bench.places_of" (inClass (topS 29) 2) [] (He.ma K (He.ga K "Bench") "places_of") fd
  m_Bench_places : Meth K (He.ga K "Bench") "places" (He.ma K (He.ga K "Bench") "places")
  d_Bench_places : ∃ fd, FnP K "places" "Bench.places" (inClass (topS 29) 3) [] (He.ma K (He.ga K "Bench") "places") fd
  m_Bench_eq : Meth K (He.ga K "Bench") "__eq__" (He.ma K (He.ga K "Bench") "__eq__")
  d_Bench_eq : ∃ fd, FnP K "__eq__" "Bench.__eq__" (inClass (topS 29) 4) [] (He.ma K (He.ga K "Bench") "__eq__") fd
  g_free_from : mg "free_from" = some (.ref (He.ga K "free_from"))
  d_free_from : ∃ fd, FnP K "free_from" "free_from" (topS 30) [] (He.ga K "free_from") fd
  g_are_jobs : mg "are_jobs" = some (.ref (He.ga K "are_jobs"))
  d_are_jobs : ∃ fd, FnP K "are_jobs" "are_jobs" (topS 31) [] (He.ga K "are_jobs") fd
  g_begin_of : mg "begin_of" = some (.ref (He.ga K "begin_of"))
  d_begin_of : ∃ fd, FnP K "begin_of" "begin_of" (topS 32) [] (He.ga K "begin_of") fd
  d_Plan_init : ∃ fd, FnP K "__init__" "Plan.__init__" (inClass (topS 33) 0) [.non] (He.ma K (He.ga K "Plan") "__init__") fd
  m_Plan_take_in : Meth K (He.ga K "Plan") "take_in" (He.ma K (He.ga K "Plan") "take_in")
  d_Plan_take_in : ∃ fd, FnP K "take_in" "Plan.take_in" (inClass (topS 33) 1) [] (He.ma K (He.ga K "Plan") "take_in") fd
  m_Plan_job_of : Meth K (He.ga K "Plan") "job_of" (He.ma K (He.ga K "Plan") "job_of")
  d_Plan_job_of : ∃ fd, FnP K "job_of" "Plan.job_of" (inClass (topS 33) 2) [] (He.ma K (He.ga K "Plan") "job_of") fd
  m_Plan_rows : Meth K (He.ga K "Plan") "rows" (He.ma K (He.ga K "Plan") "rows")
  d_Plan_rows : ∃ fd, FnP K "rows" "Plan.rows" (inClass (topS 33) 5) [.non] (He.ma K (He.ga K "Plan") "rows") fd
  m_Plan_rows_at : Meth K (He.ga K "Plan") "rows_at" (He.ma K (He.ga K "Plan") "rows_at")
  d_Plan_rows_at : ∃ fd, FnP K "rows_at" "Plan.rows_at" (inClass (topS 33) 14) [] (He.ma K (He.ga K "Plan") "rows_at") fd
  m_Plan_next_free : Meth K (He.ga K "Plan") "next_free" (He.ma K (He.ga K "Plan") "next_free")
  d_Plan_next_free : ∃ fd, FnP K "next_free" "Plan.next_free" (inClass (topS 33) 15) [.int 1, .int 0] (He.ma K (He.ga K "Plan") "next_free") fd
  m_Plan_busy : Meth K (He.ga K "Plan") "busy" (He.ma K (He.ga K "Plan") "busy")
  d_Plan_busy : ∃ fd, FnP K "busy" "Plan.busy" (inClass (topS 33) 16) [] (He.ma K (He.ga K "Plan") "busy") fd
  m_Plan_with_job : Meth K (He.ga K "Plan") "with_job" (He.ma K (He.ga K "Plan") "with_job")
  d_Plan_with_job : ∃ fd, FnP K "with_job" "Plan.with_job" (inClass (topS 33) 18) [] (He.ma K (He.ga K "Plan") "with_job") fd
  m_Plan_eq : Meth K (He.ga K "Plan") "__eq__" (He.ma K (He.ga K "Plan") "__eq__")
  d_Plan_eq : ∃ fd, FnP K "__eq__" "Plan.__eq__" (inClass (topS 33) 21) [] (He.ma K (He.ga K "Plan") "__eq__") fd
  g_law_mixed : mg "_law_mixed" = some (.ref (He.ga K "_law_mixed"))
  d_law_mixed : ∃ fd, FnP K "_law_mixed" "_law_mixed" (topS 36) [] (He.ga K "_law_mixed") fd
  g_law_folded : mg "_law_folded" = some (.ref (He.ga K "_law_folded"))
  d_law_folded : ∃ fd, FnP K "_law_folded" "_law_folded" (topS 37) [] (He.ga K "_law_folded") fd
  g_law_draw : mg "_law_draw" = some (.ref (He.ga K "_law_draw"))
  d_law_draw : ∃ fd, FnP K "_law_draw" "_law_draw" (topS 38) [] (He.ga K "_law_draw") fd
  g_law_begun : mg "_law_begun" = some (.ref (He.ga K "_law_begun"))
  d_law_begun : ∃ fd, FnP K "_law_begun" "_law_begun" (topS 39) [] (He.ga K "_law_begun") fd
  g_law_called : mg "_law_called" = some (.ref (He.ga K "_law_called"))
  d_law_called : ∃ fd, FnP K "_law_called" "_law_called" (topS 40) [] (He.ga K "_law_called") fd
  g_law_step : mg "_law_step" = some (.ref (He.ga K "_law_step"))
  d_law_step : ∃ fd, FnP K "_law_step" "_law_step" (topS 41) [] (He.ga K "_law_step") fd
  g_law_steps : mg "_law_steps" = some (.ref (He.ga K "_law_steps"))
  d_law_steps : ∃ fd, FnP K "_law_steps" "_law_steps" (topS 42) [] (He.ga K "_law_steps") fd
  g_law_styles : mg "_law_styles" = some (.ref (He.ga K "_law_styles"))
  d_law_styles : ∃ fd, FnP K "_law_styles" "_law_styles" (topS 43) [] (He.ga K "_law_styles") fd
  g_law_numbers : mg "_law_numbers" = some (.ref (He.ga K "_law_numbers"))
  d_law_numbers : ∃ fd, FnP K "_law_numbers" "_law_numbers" (topS 44) [] (He.ga K "_law_numbers") fd
  g_law_plain_job : mg "_law_plain_job" = some (.ref (He.ga K "_law_plain_job"))
  d_law_plain_job : ∃ fd, FnP K "_law_plain_job" "_law_plain_job" (topS 45) [] (He.ga K "_law_plain_job") fd
  g_law_plain_jobs : mg "_law_plain_jobs" = some (.ref (He.ga K "_law_plain_jobs"))
  d_law_plain_jobs : ∃ fd, FnP K "_law_plain_jobs" "_law_plain_jobs" (topS 46) [] (He.ga K "_law_plain_jobs") fd
  g_law_style : mg "_law_style" = some (.ref (He.ga K "_law_style"))
  d_law_style : ∃ fd, FnP K "_law_style" "_law_style" (topS 47) [] (He.ga K "_law_style") fd
  g_law_job : mg "_law_job" = some (.ref (He.ga K "_law_job"))
  d_law_job : ∃ fd, FnP K "_law_job" "_law_job" (topS 48) [] (He.ga K "_law_job") fd
  g_law_plain_bench : mg "_law_plain_bench" = some (.ref (He.ga K "_law_plain_bench"))
  d_law_plain_bench : ∃ fd, FnP K "_law_plain_bench" "_law_plain_bench" (topS 49) [] (He.ga K "_law_plain_bench") fd
  g_law_plan : mg "_law_plan" = some (.ref (He.ga K "_law_plan"))
  d_law_plan : ∃ fd, FnP K "_law_plan" "_law_plan" (topS 50) [] (He.ga K "_law_plan") fd
  g_law_class : mg "_law_class" = some (.ref (He.ga K "_law_class"))
  d_law_class : ∃ fd, FnP K "_law_class" "_law_class" (topS 51) [] (He.ga K "_law_class") fd
  g_law_told : mg "_law_told" = some (.ref (He.ga K "_law_told"))
  d_law_told : ∃ fd, FnP K "_law_told" "_law_told" (topS 52) [] (He.ga K "_law_told") fd
  g_law_rank : mg "_law_rank" = some (.ref (He.ga K "_law_rank"))
  d_law_rank : ∃ fd, FnP K "_law_rank" "_law_rank" (topS 53) [] (He.ga K "_law_rank") fd
  g_law_spots : mg "_law_spots" = some (.ref (He.ga K "_law_spots"))
  d_law_spots : ∃ fd, FnP K "_law_spots" "_law_spots" (topS 54) [] (He.ga K "_law_spots") fd
  g_law_case : mg "_law_case" = some (.ref (He.ga K "_law_case"))
  d_law_case : ∃ fd, FnP K "_law_case" "_law_case" (topS 55) [] (He.ga K "_law_case") fd
  g_law_wanted : mg "_law_wanted" = some (.ref (He.ga K "_law_wanted"))
  d_law_wanted : ∃ fd, FnP K "_law_wanted" "_law_wanted" (topS 56) [] (He.ga K "_law_wanted") fd
  g_law_readies : mg "_law_readies" = some (.ref (He.ga K "_law_readies"))
  d_law_readies : ∃ fd, FnP K "_law_readies" "_law_readies" (topS 57) [] (He.ga K "_law_readies") fd
  g_law_is_row : mg "_law_is_row" = some (.ref (He.ga K "_law_is_row"))
  d_law_is_row : ∃ fd, FnP K "_law_is_row" "_law_is_row" (topS 58) [] (He.ga K "_law_is_row") fd
  g_law_firm : mg "_law_firm" = some (.ref (He.ga K "_law_firm"))
  d_law_firm : ∃ fd, FnP K "_law_firm" "_law_firm" (topS 59) [] (He.ga K "_law_firm") fd
  g_law_no : mg "_law_no" = some (.ref (He.ga K "_law_no"))
  d_law_no : ∃ fd, FnP K "_law_no" "_law_no" (topS 60) [] (He.ga K "_law_no") fd
  g_law_far : mg "_law_far" = some (.ref (He.ga K "_law_far"))
  d_law_far : ∃ fd, FnP K "_law_far" "_law_far" (topS 61) [] (He.ga K "_law_far") fd
  g_law_odd : mg "_law_odd" = some (.ref (He.ga K "_law_odd"))
  d_law_odd : ∃ fd, FnP K "_law_odd" "_law_odd" (topS 62) [] (He.ga K "_law_odd") fd
  g_law_whole : mg "_law_whole" = some (.ref (He.ga K "_law_whole"))
  d_law_whole : ∃ fd, FnP K "_law_whole" "_law_whole" (topS 63) [] (He.ga K "_law_whole") fd
  g_law_is_free : mg "_law_is_free" = some (.ref (He.ga K "_law_is_free"))
  d_law_is_free : ∃ fd, FnP K "_law_is_free" "_law_is_free" (topS 64) [] (He.ga K "_law_is_free") fd
  g_law_least : mg "_law_least" = some (.ref (He.ga K "_law_least"))
  d_law_least : ∃ fd, FnP K "_law_least" "_law_least" (topS 65) [] (He.ga K "_law_least") fd
  g_law_wish : mg "_law_wish" = some (.ref (He.ga K "_law_wish"))
  d_law_wish : ∃ fd, FnP K "_law_wish" "_law_wish" (topS 66) [] (He.ga K "_law_wish") fd
  g_law_free_right : mg "_law_free_right" = some (.ref (He.ga K "_law_free_right"))
  d_law_free_right : ∃ fd, FnP K "_law_free_right" "_law_free_right" (topS 67) [] (He.ga K "_law_free_right") fd
  g_law_last_right : mg "_law_last_right" = some (.ref (He.ga K "_law_last_right"))
  d_law_last_right : ∃ fd, FnP K "_law_last_right" "_law_last_right" (topS 68) [] (He.ga K "_law_last_right") fd
  g_law_is_spot : mg "_law_is_spot" = some (.ref (He.ga K "_law_is_spot"))
  d_law_is_spot : ∃ fd, FnP K "_law_is_spot" "_law_is_spot" (topS 69) [] (He.ga K "_law_is_spot") fd
  g_law_refused : mg "_law_refused" = some (.ref (He.ga K "_law_refused"))
  d_law_refused : ∃ fd, FnP K "_law_refused" "_law_refused" (topS 70) [] (He.ga K "_law_refused") fd
  g_law_most_right : mg "_law_most_right" = some (.ref (He.ga K "_law_most_right"))
  d_law_most_right : ∃ fd, FnP K "_law_most_right" "_law_most_right" (topS 71) [] (He.ga K "_law_most_right") fd
  g_law : mg "law" = some (.ref (He.ga K "law"))
  d_law : ∃ fd, FnP K "law" "law" (topS 72) [] (He.ga K "law") fd
structure TxtT (K : PySem.W.Frag) (w : World) (mg : Str → Option Value) (base : Heap) : Prop extends Txt K w mg where
  t_law_refused : LamX.TabB base mg (He.cT K (("_law_refused" : Str), (none : Option Str))).1 (He.cT K (("_law_refused" : Str), (none : Option Str))).2
theorem planC {K : PySem.W.Frag} {w : World} {mg : Str → Option Value} {base : Heap} (T : TxtT K w mg base) : PlanC K := ⟨T.cl_Plan, T.n_Plan_of_bench, T.n_Plan_all_jobs, T.n_Plan_by_number, T.n_Plan_by_place, T.n_Plan_all_rows⟩
theorem benchC {K : PySem.W.Frag} {w : World} {mg : Str → Option Value} {base : Heap} (T : TxtT K w mg base) : BenchC K := ⟨T.cl_Bench, T.n_Bench_many_of⟩
theorem jobC {K : PySem.W.Frag} {w : World} {mg : Str → Option Value} {base : Heap} (T : TxtT K w mg base) : JobC K := ⟨T.cl_Job, T.n_Job_has_number, T.n_Job_has_style, T.n_Job_came, T.n_Job_wanted, T.n_Job_hasty⟩
theorem styleC {K : PySem.W.Frag} {w : World} {mg : Str → Option Value} {base : Heap} (T : TxtT K w mg base) : StyleC K := ⟨T.cl_Style, T.n_Style_called, T.n_Style_step_rows⟩
theorem errC {K : PySem.W.Frag} {w : World} {mg : Str → Option Value} {base : Heap} (T : TxtT K w mg base) : ErrC K := ⟨T.e_BadValue, T.e_BadText, T.e_NoSuch, T.e_TooMany, T.kit⟩
section
variable {P : Program} {w : World} {K : PySem.W.Frag} {mg : Str → Option Value} {base : Heap}
theorem sc_BadValue_init : FnScope ["self", "what"] ["self", "what"] (defScope (inClass (topS 2) 0)) := ⟨rfl, rfl, rfl, by decide +kernel, rfl, by decide +kernel, by decide +kernel⟩
theorem ok_BadValue_init (T : TxtT K w mg base) : ∃ fd, FnP K "__init__" "BadValue.__init__" (inClass (topS 2) 0) [] (He.ma K (He.ga K "BadValue") "__init__") fd ∧ FnG P w K mg base CX0 1 (He.ma K (He.ga K "BadValue") "__init__") fd ["self", "what"] (sp_BadValue_init K) := by
  obtain ⟨fd, F⟩ := T.d_BadValue_init
  refine ⟨fd, F, fnG_of (sp := sp_BadValue_init K) F sc_BadValue_init (fun vs H Q E h => h.1) fun cdv A outer s H vs Q E hr hg h => ?_⟩
  have hu := hu_of hr
  have nd := sc_BadValue_init.nd
  exact ⟨t_BadValue_init K, PSs.nox ((pss_one (ps_osg (pv 0) (pv 1) rfl))), rd_BadValue_init vs H Q E h⟩
theorem xm_BadValue_1 (T : TxtT K w mg base) : XMakeOk P w K mg base CX0 1 "BadValue" 1 (sp_BadValue_init K) (fun vs zs => pick .non [0, 1] (vs ++ zs)) := by
  obtain ⟨fd, F, G⟩ := ok_BadValue_init (P := P) (w := w) (base := base) T
  obtain ⟨g, kb⟩ := kb0 (ps := ["self", "what"]) F 2 [] [0, 1] fun kV doc pm an cdv ct us ws h1 h2 => match us, ws, h1, h2 with | [_, _], [], _, _ => rfl
  exact ⟨T.e_BadValue.ox, ⟨_, fd, _, g, T.e_BadValue.ini, T.e_BadValue.ty, G, kb⟩, T.g_BadValue⟩
theorem sc_NoSuch_init : FnScope ["self", "what", "name"] ["self", "what", "name"] (defScope (inClass (topS 4) 0)) := ⟨rfl, rfl, rfl, by decide +kernel, rfl, by decide +kernel, by decide +kernel⟩
theorem ok_NoSuch_init (T : TxtT K w mg base) : ∃ fd, FnP K "__init__" "NoSuch.__init__" (inClass (topS 4) 0) [] (He.ma K (He.ga K "NoSuch") "__init__") fd ∧ FnG P w K mg base CX0 1 (He.ma K (He.ga K "NoSuch") "__init__") fd ["self", "what", "name"] (sp_NoSuch_init K) := by
  obtain ⟨fd, F⟩ := T.d_NoSuch_init
  refine ⟨fd, F, fnG_of (sp := sp_NoSuch_init K) F sc_NoSuch_init (fun vs H Q E h => h.1) fun cdv A outer s H vs Q E hr hg h => ?_⟩
  have hu := hu_of hr
  have nd := sc_NoSuch_init.nd
  exact ⟨t_NoSuch_init K, PSs.nox ((pss_cons (ps_osg (pv 0) (pv 1) rfl)
    (pss_one (ps_osg (pv 0) (pv 2) rfl)))), rd_NoSuch_init vs H Q E h⟩
theorem xm_NoSuch_2 (T : TxtT K w mg base) : XMakeOk P w K mg base CX0 1 "NoSuch" 2 (sp_NoSuch_init K) (fun vs zs => pick .non [0, 1, 2] (vs ++ zs)) := by
  obtain ⟨fd, F, G⟩ := ok_NoSuch_init (P := P) (w := w) (base := base) T
  obtain ⟨g, kb⟩ := kb0 (ps := ["self", "what", "name"]) F 3 [] [0, 1, 2] fun kV doc pm an cdv ct us ws h1 h2 => match us, ws, h1, h2 with | [_, _, _], [], _, _ => rfl
  exact ⟨T.e_NoSuch.ox, ⟨_, fd, _, g, T.e_NoSuch.ini, T.e_NoSuch.ty, G, kb⟩, T.g_NoSuch⟩
theorem sc_is_whole : FnScope ["thing", "least", "most"] ["thing", "least", "most"] (defScope (topS 15)) := ⟨rfl, rfl, rfl, by decide +kernel, rfl, by decide +kernel, by decide +kernel⟩
theorem ok_is_whole (T : TxtT K w mg base) : ∃ fd, FnP K "is_whole" "is_whole" (topS 15) [.int 1000000] (He.ga K "is_whole") fd ∧ FnG P w K mg base CX0 1 (He.ga K "is_whole") fd ["thing", "least", "most"] (sp_is_whole K) := by
  obtain ⟨fd, F⟩ := T.d_is_whole
  refine ⟨fd, F, fnG_of (sp := sp_is_whole K) F sc_is_whole (fun vs H Q E h => h.1) fun cdv A outer s H vs Q E hr hg h => ?_⟩
  have hu := hu_of hr
  have nd := sc_is_whole.nd
  exact ⟨t_is_whole K, PSs.nox ((pss_one (ps_ret (pe_and (pe_callB call_isi (by rfl) T.z_isinstance (by decide +kernel) (pa_cons (pv 0) (pa_cons (pe_bltn (v := .ty "int") (by rfl) T.z_int (by decide +kernel) rfl) pa_nil))) (pe_and (pe_not (pe_callB call_isi (by rfl) T.z_isinstance (by decide +kernel) (pa_cons (pv 0) (pa_cons (pe_bltn (v := .ty "bool") (by rfl) T.z_bool (by decide +kernel) rfl) pa_nil)))) (pe_one (pe_chain op_le op_le (pv 1) (pv 0) (pv 2)))))))), rd_is_whole vs H Q E h⟩
theorem cs_is_whole_2_most (T : TxtT K w mg base) : CallOk P w K mg base CX0 1 "is_whole" 2 ["most"] (sp_is_whole K) (fun vs zs => pick .non [0, 1, 2] (vs ++ (zs ++ [.int 1000000]))) := by
  obtain ⟨fd, F, G⟩ := ok_is_whole (P := P) (w := w) (base := base) T
  obtain ⟨g, kb⟩ := kb1 (ps := ["thing", "least", "most"]) F (by simp) 2 ["most"] [0, 1, 2] fun T kV doc pm an cdv ct us ws its h1 h2 h3 => match us, ws, its, h1, h2, h3 with | [_, _], [_], [_], _, _, _ => ⟨_, rfl, rfl⟩
  exact ⟨⟨fd, _, g, G, kb⟩, T.g_is_whole, F.kp⟩
theorem cs_is_whole_2 (T : TxtT K w mg base) : CallOk P w K mg base CX0 1 "is_whole" 2 [] (sp_is_whole K) (fun vs zs => pick .non [0, 1, 2] (vs ++ (zs ++ [.int 1000000]))) := by
  obtain ⟨fd, F, G⟩ := ok_is_whole (P := P) (w := w) (base := base) T
  obtain ⟨g, kb⟩ := kb1 (ps := ["thing", "least", "most"]) F (by simp) 2 [] [0, 1, 2] fun T kV doc pm an cdv ct us ws its h1 h2 h3 => match us, ws, its, h1, h2, h3 with | [_, _], [], [_], _, _, _ => ⟨_, rfl, rfl⟩
  exact ⟨⟨fd, _, g, G, kb⟩, T.g_is_whole, F.kp⟩
theorem sc_is_name : FnScope ["thing", "sign"] ["thing"] (defScope (topS 16)) := ⟨rfl, rfl, rfl, by decide +kernel, rfl, by decide +kernel, by decide +kernel⟩
theorem ok_is_name (T : TxtT K w mg base) : ∃ fd, FnP K "is_name" "is_name" (topS 16) [] (He.ga K "is_name") fd ∧ FnG P w K mg base CX0 1 (He.ga K "is_name") fd ["thing"] (sp_is_name K) := by
  obtain ⟨fd, F⟩ := T.d_is_name
  refine ⟨fd, F, fnG_of (sp := sp_is_name K) F sc_is_name (fun vs H Q E h => h.1) fun cdv A outer s H vs Q E hr hg h => ?_⟩
  have hu := hu_of hr
  have nd := sc_is_name.nd
  exact ⟨t_is_name K, PSs.nox ((pss_cons (ps_if (PW.pt (pw_or (pt_not (pt_tr (pe_callB call_isi (by rfl) T.z_isinstance (by decide +kernel) (pa_cons (pv 0) (pa_cons (pe_bltn (v := .ty "str") (by rfl) T.z_str (by decide +kernel) rfl) pa_nil))))) (pw_or (pt_not (pt_chain op_le op_le pe_int (pe_callB cl_len (by rfl) T.z_len PySem.boot_len (pa_cons (pv 0) pa_nil)) (pe_gI T.c_MOST_LETTERS))) (pw_or1 (pt_cmpR op_inA (pv 0) (pe_gR T.g_BARRED_WORDS) rfl))))) (pss_one (ps_ret pe_bl)) pss_nil)
    (pss_one (ps_ret (pe_callB (cr_all rfl) (by rfl) T.z_all (by decide +kernel) (pa_cons (pe_lc (own := [("sign", 1)]) rfl nd (pi_any (pv 0)) (blkOk_by (by first | decide +kernel | kernel_rfl)) (fun _ _ _ _ _ => (pg_name (i := 1) nd rfl (Or.inl rfl))) (fun _ _ _ _ _ => pts_nil) (fun _ _ _ _ _ => (pe_cmpR op_inA (pv 1) (pe_gS T.c_LETTERS) rfl))) pa_nil)))))), rd_is_name T.k_BARRED_WORDS vs H Q E h⟩
theorem cs_is_name_1 (T : TxtT K w mg base) : CallOk P w K mg base CX0 1 "is_name" 1 [] (sp_is_name K) (fun vs zs => pick .non [0] (vs ++ zs)) := by
  obtain ⟨fd, F, G⟩ := ok_is_name (P := P) (w := w) (base := base) T
  obtain ⟨g, kb⟩ := kb0 (ps := ["thing"]) F 1 [] [0] fun kV doc pm an cdv ct us ws h1 h2 => match us, ws, h1, h2 with | [_], [], _, _ => rfl
  exact ⟨⟨fd, _, g, G, kb⟩, T.g_is_name, F.kp⟩
theorem sc_kind_of : FnScope ["work"] ["work"] (defScope (topS 17)) := ⟨rfl, rfl, rfl, by decide +kernel, rfl, by decide +kernel, by decide +kernel⟩
theorem ok_kind_of (T : TxtT K w mg base) : ∃ fd, FnP K "kind_of" "kind_of" (topS 17) [] (He.ga K "kind_of") fd ∧ FnG P w K mg base CX0 1 (He.ga K "kind_of") fd ["work"] (sp_kind_of K) := by
  obtain ⟨fd, F⟩ := T.d_kind_of
  refine ⟨fd, F, fnG_of (sp := sp_kind_of K) F sc_kind_of (fun vs H Q E h => h.1) fun cdv A outer s H vs Q E hr hg h => ?_⟩
  have hu := hu_of hr
  have nd := sc_kind_of.nd
  exact ⟨t_kind_of K, PSs.nox ((pss_one (ps_ret (pe_ifExp (pt_tr (pe_callB call_isi (by rfl) T.z_isinstance (by decide +kernel) (pa_cons (pv 0) (pa_cons (pe_bltn (v := .ty "str") (by rfl) T.z_str (by decide +kernel) rfl) pa_nil)))) (pe_kget T.k_KINDS (pe_gR T.g_KINDS) (pv 0) ⟨rfl, rfl, rfl, rfl⟩) pe_non)))), rd_kind_of vs H Q E h⟩
theorem cs_kind_of_1 (T : TxtT K w mg base) : CallOk P w K mg base CX0 1 "kind_of" 1 [] (sp_kind_of K) (fun vs zs => pick .non [0] (vs ++ zs)) := by
  obtain ⟨fd, F, G⟩ := ok_kind_of (P := P) (w := w) (base := base) T
  obtain ⟨g, kb⟩ := kb0 (ps := ["work"]) F 1 [] [0] fun kV doc pm an cdv ct us ws h1 h2 => match us, ws, h1, h2 with | [_], [], _, _ => rfl
  exact ⟨⟨fd, _, g, G, kb⟩, T.g_kind_of, F.kp⟩
theorem sc_Style_steps : FnScope ["self"] ["self"] (defScope (inClass (topS 22) 2)) := ⟨rfl, rfl, rfl, by decide +kernel, rfl, by decide +kernel, by decide +kernel⟩
theorem ok_Style_steps (T : TxtT K w mg base) : ∃ fd, FnP K "steps" "Style.steps" (inClass (topS 22) 2) [] (He.ma K (He.ga K "Style") "steps") fd ∧ FnG P w K mg base CX0 1 (He.ma K (He.ga K "Style") "steps") fd ["self"] (sp_Style_steps K) := by
  obtain ⟨fd, F⟩ := T.d_Style_steps
  refine ⟨fd, F, fnG_of (sp := sp_Style_steps K) F sc_Style_steps (fun vs H Q E h => h.1) fun cdv A outer s H vs Q E hr hg h => ?_⟩
  have hu := hu_of hr
  have nd := sc_Style_steps.nd
  exact ⟨t_Style_steps K, PSs.nox ((pss_one (ps_ret (pe_callTy cl_listOf (by rfl) T.z_list (by decide +kernel) (pa_cons (pe_fld (pv 0) rfl) pa_nil))))), rd_Style_steps (styleC T) vs H Q E h⟩
theorem cs_Style_steps_0 (T : TxtT K w mg base) : MethOk P w K mg base CX0 1 (He.ga K "Style") "steps" 0 [] (sp_Style_steps K) (fun vs zs => pick .non [0] (vs ++ zs)) := by
  obtain ⟨fd, F, G⟩ := ok_Style_steps (P := P) (w := w) (base := base) T
  obtain ⟨g, kb⟩ := kb0 (ps := ["self"]) F 1 [] [0] fun kV doc pm an cdv ct us ws h1 h2 => match us, ws, h1, h2 with | [_], [], _, _ => rfl
  exact ⟨⟨_, fd, _, g, T.m_Style_steps, G, kb⟩, T.cl_Style⟩
theorem sc_Style_span : FnScope ["self", "row"] ["self"] (defScope (inClass (topS 22) 4)) := ⟨rfl, rfl, rfl, by decide +kernel, rfl, by decide +kernel, by decide +kernel⟩
theorem ok_Style_span (T : TxtT K w mg base) : ∃ fd, FnP K "span" "Style.span" (inClass (topS 22) 4) [] (He.ma K (He.ga K "Style") "span") fd ∧ FnG P w K mg base CX0 1 (He.ma K (He.ga K "Style") "span") fd ["self"] (sp_Style_span K) := by
  obtain ⟨fd, F⟩ := T.d_Style_span
  refine ⟨fd, F, fnG_of (sp := sp_Style_span K) F sc_Style_span (fun vs H Q E h => h.1) fun cdv A outer s H vs Q E hr hg h => ?_⟩
  have hu := hu_of hr
  have nd := sc_Style_span.nd
  exact ⟨t_Style_span K, PSs.nox ((pss_one (ps_ret (pe_callB (cr_sum rfl) (by rfl) T.z_sum (by decide +kernel) (pa_cons (pe_lc (own := [("row", 1)]) rfl nd (pi_any (pe_fld (pv 0) rfl)) (blkOk_by (by first | decide +kernel | kernel_rfl)) (fun _ _ _ _ _ => (pg_name (i := 1) nd rfl (Or.inl rfl))) (fun _ _ _ _ _ => pts_nil) (fun _ _ _ _ _ => (pe_op op_addA (pe_ix ix_seq (pv 1) pe_int (fun _ _ => rfl)) (pe_ix ix_seq (pv 1) pe_int (fun _ _ => rfl))))) pa_nil))))), rd_Style_span (styleC T) vs H Q E h⟩
theorem cs_Style_span_0 (T : TxtT K w mg base) : MethOk P w K mg base CX0 1 (He.ga K "Style") "span" 0 [] (sp_Style_span K) (fun vs zs => pick .non [0] (vs ++ zs)) := by
  obtain ⟨fd, F, G⟩ := ok_Style_span (P := P) (w := w) (base := base) T
  obtain ⟨g, kb⟩ := kb0 (ps := ["self"]) F 1 [] [0] fun kV doc pm an cdv ct us ws h1 h2 => match us, ws, h1, h2 with | [_], [], _, _ => rfl
  exact ⟨⟨_, fd, _, g, T.m_Style_span, G, kb⟩, T.cl_Style⟩
theorem sc_Job_numbered : FnScope ["self"] ["self"] (defScope (inClass (topS 23) 1)) := ⟨rfl, rfl, rfl, by decide +kernel, rfl, by decide +kernel, by decide +kernel⟩
theorem ok_Job_numbered (T : TxtT K w mg base) : ∃ fd, FnP K "numbered" "Job.numbered" (inClass (topS 23) 1) [] (He.ma K (He.ga K "Job") "numbered") fd ∧ FnG P w K mg base CX0 1 (He.ma K (He.ga K "Job") "numbered") fd ["self"] (sp_Job_numbered K) := by
  obtain ⟨fd, F⟩ := T.d_Job_numbered
  refine ⟨fd, F, fnG_of (sp := sp_Job_numbered K) F sc_Job_numbered (fun vs H Q E h => h.1) fun cdv A outer s H vs Q E hr hg h => ?_⟩
  have hu := hu_of hr
  have nd := sc_Job_numbered.nd
  exact ⟨t_Job_numbered K, PSs.nox ((pss_one (ps_ret (pe_fld (pv 0) rfl)))), rd_Job_numbered (jobC T) vs H Q E h⟩
theorem cs_Job_numbered_0 (T : TxtT K w mg base) : MethOk P w K mg base CX0 1 (He.ga K "Job") "numbered" 0 [] (sp_Job_numbered K) (fun vs zs => pick .non [0] (vs ++ zs)) := by
  obtain ⟨fd, F, G⟩ := ok_Job_numbered (P := P) (w := w) (base := base) T
  obtain ⟨g, kb⟩ := kb0 (ps := ["self"]) F 1 [] [0] fun kV doc pm an cdv ct us ws h1 h2 => match us, ws, h1, h2 with | [_], [], _, _ => rfl
  exact ⟨⟨_, fd, _, g, T.m_Job_numbered, G, kb⟩, T.cl_Job⟩
theorem sc_Job_of_style : FnScope ["self"] ["self"] (defScope (inClass (topS 23) 2)) := ⟨rfl, rfl, rfl, by decide +kernel, rfl, by decide +kernel, by decide +kernel⟩
theorem ok_Job_of_style (T : TxtT K w mg base) : ∃ fd, FnP K "of_style" "Job.of_style" (inClass (topS 23) 2) [] (He.ma K (He.ga K "Job") "of_style") fd ∧ FnG P w K mg base CX0 1 (He.ma K (He.ga K "Job") "of_style") fd ["self"] (sp_Job_of_style K) := by
  obtain ⟨fd, F⟩ := T.d_Job_of_style
  refine ⟨fd, F, fnG_of (sp := sp_Job_of_style K) F sc_Job_of_style (fun vs H Q E h => h.1) fun cdv A outer s H vs Q E hr hg h => ?_⟩
  have hu := hu_of hr
  have nd := sc_Job_of_style.nd
  exact ⟨t_Job_of_style K, PSs.nox ((pss_one (ps_ret (pe_fld (pv 0) rfl)))), rd_Job_of_style (jobC T) vs H Q E h⟩
theorem cs_Job_of_style_0 (T : TxtT K w mg base) : MethOk P w K mg base CX0 1 (He.ga K "Job") "of_style" 0 [] (sp_Job_of_style K) (fun vs zs => pick .non [0] (vs ++ zs)) := by
  obtain ⟨fd, F, G⟩ := ok_Job_of_style (P := P) (w := w) (base := base) T
  obtain ⟨g, kb⟩ := kb0 (ps := ["self"]) F 1 [] [0] fun kV doc pm an cdv ct us ws h1 h2 => match us, ws, h1, h2 with | [_], [], _, _ => rfl
  exact ⟨⟨_, fd, _, g, T.m_Job_of_style, G, kb⟩, T.cl_Job⟩
theorem sc_Job_brought_at : FnScope ["self"] ["self"] (defScope (inClass (topS 23) 3)) := ⟨rfl, rfl, rfl, by decide +kernel, rfl, by decide +kernel, by decide +kernel⟩
theorem ok_Job_brought_at (T : TxtT K w mg base) : ∃ fd, FnP K "brought_at" "Job.brought_at" (inClass (topS 23) 3) [] (He.ma K (He.ga K "Job") "brought_at") fd ∧ FnG P w K mg base CX0 1 (He.ma K (He.ga K "Job") "brought_at") fd ["self"] (sp_Job_brought_at K) := by
  obtain ⟨fd, F⟩ := T.d_Job_brought_at
  refine ⟨fd, F, fnG_of (sp := sp_Job_brought_at K) F sc_Job_brought_at (fun vs H Q E h => h.1) fun cdv A outer s H vs Q E hr hg h => ?_⟩
  have hu := hu_of hr
  have nd := sc_Job_brought_at.nd
  exact ⟨t_Job_brought_at K, PSs.nox ((pss_one (ps_ret (pe_fld (pv 0) rfl)))), rd_Job_brought_at (jobC T) vs H Q E h⟩
theorem cs_Job_brought_at_0 (T : TxtT K w mg base) : MethOk P w K mg base CX0 1 (He.ga K "Job") "brought_at" 0 [] (sp_Job_brought_at K) (fun vs zs => pick .non [0] (vs ++ zs)) := by
  obtain ⟨fd, F, G⟩ := ok_Job_brought_at (P := P) (w := w) (base := base) T
  obtain ⟨g, kb⟩ := kb0 (ps := ["self"]) F 1 [] [0] fun kV doc pm an cdv ct us ws h1 h2 => match us, ws, h1, h2 with | [_], [], _, _ => rfl
  exact ⟨⟨_, fd, _, g, T.m_Job_brought_at, G, kb⟩, T.cl_Job⟩
theorem sc_Job_rank : FnScope ["self"] ["self"] (defScope (inClass (topS 23) 6)) := ⟨rfl, rfl, rfl, by decide +kernel, rfl, by decide +kernel, by decide +kernel⟩
theorem ok_Job_rank (T : TxtT K w mg base) : ∃ fd, FnP K "rank" "Job.rank" (inClass (topS 23) 6) [] (He.ma K (He.ga K "Job") "rank") fd ∧ FnG P w K mg base CX0 1 (He.ma K (He.ga K "Job") "rank") fd ["self"] (sp_Job_rank K) := by
  obtain ⟨fd, F⟩ := T.d_Job_rank
  refine ⟨fd, F, fnG_of (sp := sp_Job_rank K) F sc_Job_rank (fun vs H Q E h => h.1) fun cdv A outer s H vs Q E hr hg h => ?_⟩
  have hu := hu_of hr
  have nd := sc_Job_rank.nd
  exact ⟨t_Job_rank K, PSs.nox ((pss_one (ps_ret (pe_tup (pa_cons (pe_ifExp (pt_tr (pe_fld (pv 0) rfl)) pe_int pe_int) (pa_cons (pe_fld (pv 0) rfl) (pa_cons (pe_fld (pv 0) rfl) (pa_cons (pe_fld (pv 0) rfl) pa_nil)))))))), rd_Job_rank (jobC T) vs H Q E h⟩
theorem cs_Job_rank_0 (T : TxtT K w mg base) : MethOk P w K mg base CX0 1 (He.ga K "Job") "rank" 0 [] (sp_Job_rank K) (fun vs zs => pick .non [0] (vs ++ zs)) := by
  obtain ⟨fd, F, G⟩ := ok_Job_rank (P := P) (w := w) (base := base) T
  obtain ⟨g, kb⟩ := kb0 (ps := ["self"]) F 1 [] [0] fun kV doc pm an cdv ct us ws h1 h2 => match us, ws, h1, h2 with | [_], [], _, _ => rfl
  exact ⟨⟨_, fd, _, g, T.m_Job_rank, G, kb⟩, T.cl_Job⟩
theorem sc_Bench_places_of : FnScope ["self", "kind", "k"] ["self", "kind"] (defScope (inClass (topS 29) 2)) := ⟨rfl, rfl, rfl, by decide +kernel, rfl, by decide +kernel, by decide +kernel⟩
theorem ok_Bench_places_of (T : TxtT K w mg base) : ∃ fd, FnP K "places_of" "Bench.places_of" (inClass (topS 29) 2) [] (He.ma K (He.ga K "Bench") "places_of") fd ∧ FnG P w K mg base CX0 1 (He.ma K (He.ga K "Bench") "places_of") fd ["self", "kind"] (sp_Bench_places_of K) := by
  obtain ⟨fd, F⟩ := T.d_Bench_places_of
  refine ⟨fd, F, fnG_of (sp := sp_Bench_places_of K) F sc_Bench_places_of (fun vs H Q E h => h.1) fun cdv A outer s H vs Q E hr hg h => ?_⟩
  have hu := hu_of hr
  have nd := sc_Bench_places_of.nd
  exact ⟨t_Bench_places_of K, PSs.nox ((pss_one (ps_ret (pe_lc (own := [("k", 2)]) rfl nd (pi_range1 (by rfl) T.z_range (pa_cons (pe_dget hu (pe_fld (pv 0) rfl) (pv 1) (fun _ _ => rfl)) pa_nil)) (blkOk_by (by first | decide +kernel | kernel_rfl)) (fun _ _ _ _ _ => (pg_name (i := 2) nd rfl (Or.inl rfl))) (fun _ _ _ _ _ => pts_nil) (fun _ _ _ _ _ => (pe_tup (pa_cons (pv 1) (pa_cons (pe_op op_addA (pv 2) pe_int) pa_nil)))))))), rd_Bench_places_of (benchC T) vs H Q E h⟩
theorem cs_Bench_places_of_1 (T : TxtT K w mg base) : MethOk P w K mg base CX0 1 (He.ga K "Bench") "places_of" 1 [] (sp_Bench_places_of K) (fun vs zs => pick .non [0, 1] (vs ++ zs)) := by
  obtain ⟨fd, F, G⟩ := ok_Bench_places_of (P := P) (w := w) (base := base) T
  obtain ⟨g, kb⟩ := kb0 (ps := ["self", "kind"]) F 2 [] [0, 1] fun kV doc pm an cdv ct us ws h1 h2 => match us, ws, h1, h2 with | [_, _], [], _, _ => rfl
  exact ⟨⟨_, fd, _, g, T.m_Bench_places_of, G, kb⟩, T.cl_Bench⟩
theorem sc_Bench_eq : FnScope ["self", "other"] ["self", "other"] (defScope (inClass (topS 29) 4)) := ⟨rfl, rfl, rfl, by decide +kernel, rfl, by decide +kernel, by decide +kernel⟩
theorem ok_Bench_eq (T : TxtT K w mg base) : ∃ fd, FnP K "__eq__" "Bench.__eq__" (inClass (topS 29) 4) [] (He.ma K (He.ga K "Bench") "__eq__") fd ∧ FnG P w K mg base CX0 1 (He.ma K (He.ga K "Bench") "__eq__") fd ["self", "other"] (sp_Bench_eq K) := by
  obtain ⟨fd, F⟩ := T.d_Bench_eq
  refine ⟨fd, F, fnG_of (sp := sp_Bench_eq K) F sc_Bench_eq (fun vs H Q E h => h.1) fun cdv A outer s H vs Q E hr hg h => ?_⟩
  have hu := hu_of hr
  have nd := sc_Bench_eq.nd
  exact ⟨t_Bench_eq K, PSs.nox ((pss_one (ps_ret (pe_and (pe_callB call_isi (by rfl) T.z_isinstance (by decide +kernel) (pa_cons (pv 1) (pa_cons (pe_gR T.g_Bench) pa_nil))) (pe_one (pe_cmpR (op_eqDc hr) (pe_fld (pv 0) rfl) (pe_fld (pv 1) rfl) (nobehind _ (by decide) (by decide)))))))), rd_Bench_eq (benchC T) T.od_Bench vs H Q E h⟩
theorem cs_Bench_eq_1 (T : TxtT K w mg base) : MethOk P w K mg base CX0 1 (He.ga K "Bench") "__eq__" 1 [] (sp_Bench_eq K) (fun vs zs => pick .non [0, 1] (vs ++ zs)) := by
  obtain ⟨fd, F, G⟩ := ok_Bench_eq (P := P) (w := w) (base := base) T
  obtain ⟨g, kb⟩ := kb0 (ps := ["self", "other"]) F 2 [] [0, 1] fun kV doc pm an cdv ct us ws h1 h2 => match us, ws, h1, h2 with | [_, _], [], _, _ => rfl
  exact ⟨⟨_, fd, _, g, T.m_Bench_eq, G, kb⟩, T.cl_Bench⟩
theorem sc_free_from : FnScope ["rows", "hours", "since", "at", "row"] ["rows", "hours", "since"] (defScope (topS 30)) := ⟨rfl, rfl, rfl, by decide +kernel, rfl, by decide +kernel, by decide +kernel⟩
theorem ok_free_from (T : TxtT K w mg base) : ∃ fd, FnP K "free_from" "free_from" (topS 30) [] (He.ga K "free_from") fd ∧ FnG P w K mg base CX0 1 (He.ga K "free_from") fd ["rows", "hours", "since"] (sp_free_from K) := by
  obtain ⟨fd, F⟩ := T.d_free_from
  refine ⟨fd, F, fnG_of (sp := sp_free_from K) F sc_free_from (fun vs H Q E h => h.1) fun cdv A outer s H vs Q E hr hg h => ?_⟩
  have hu := hu_of hr
  have nd := sc_free_from.nd
  exact ⟨t_free_from K, PSs.nox ((pss_cons (ps_set (i := 3) nd rfl (Or.inl rfl) (pv 2))
    (pss_cons (ps_for PassesOwn.never rfl (pi_any (pv 0)) (pg_name (i := 4) nd rfl (Or.inl rfl))
    (pss_cons (ps_if (pt_cmpR op_ge (pe_ix ix_seq (pv 4) pe_int (fun _ _ => rfl)) (pe_op op_addA (pv 3) (pv 1)) (nobehind _ (by decide) (by decide))) (pss_one (ps_ret (pv 3))) pss_nil)
    (pss_one (ps_set (i := 3) nd rfl (Or.inl rfl) (pe_callB (cl_max2 rfl) (by rfl) T.z_max (by decide +kernel) (pa_cons (pv 3) (pa_cons (pe_ix ix_seq (pv 4) pe_int (fun _ _ => rfl)) pa_nil)))))))
    (pss_one (ps_ret (pv 3)))))), rd_free_from vs H Q E h⟩
theorem cs_free_from_3 (T : TxtT K w mg base) : CallOk P w K mg base CX0 1 "free_from" 3 [] (sp_free_from K) (fun vs zs => pick .non [0, 1, 2] (vs ++ zs)) := by
  obtain ⟨fd, F, G⟩ := ok_free_from (P := P) (w := w) (base := base) T
  obtain ⟨g, kb⟩ := kb0 (ps := ["rows", "hours", "since"]) F 3 [] [0, 1, 2] fun kV doc pm an cdv ct us ws h1 h2 => match us, ws, h1, h2 with | [_, _, _], [], _, _ => rfl
  exact ⟨⟨fd, _, g, G, kb⟩, T.g_free_from, F.kp⟩
theorem sc_begin_of : FnScope ["row"] ["row"] (defScope (topS 32)) := ⟨rfl, rfl, rfl, by decide +kernel, rfl, by decide +kernel, by decide +kernel⟩
theorem ok_begin_of (T : TxtT K w mg base) : ∃ fd, FnP K "begin_of" "begin_of" (topS 32) [] (He.ga K "begin_of") fd ∧ FnG P w K mg base CX0 1 (He.ga K "begin_of") fd ["row"] (sp_begin_of K) := by
  obtain ⟨fd, F⟩ := T.d_begin_of
  refine ⟨fd, F, fnG_of (sp := sp_begin_of K) F sc_begin_of (fun vs H Q E h => h.1) fun cdv A outer s H vs Q E hr hg h => ?_⟩
  have hu := hu_of hr
  have nd := sc_begin_of.nd
  exact ⟨t_begin_of K, PSs.nox ((pss_one (ps_ret (pe_ix ix_seq (pv 0) pe_int (fun _ _ => rfl))))), rd_begin_of vs H Q E h⟩
theorem cs_begin_of_1 (T : TxtT K w mg base) : CallOk P w K mg base CX0 1 "begin_of" 1 [] (sp_begin_of K) (fun vs zs => pick .non [0] (vs ++ zs)) := by
  obtain ⟨fd, F, G⟩ := ok_begin_of (P := P) (w := w) (base := base) T
  obtain ⟨g, kb⟩ := kb0 (ps := ["row"]) F 1 [] [0] fun kV doc pm an cdv ct us ws h1 h2 => match us, ws, h1, h2 with | [_], [], _, _ => rfl
  exact ⟨⟨fd, _, g, G, kb⟩, T.g_begin_of, F.kp⟩
theorem sc_law_mixed : FnScope ["cell", "k", "turned"] ["cell", "k"] (defScope (topS 36)) := ⟨rfl, rfl, rfl, by decide +kernel, rfl, by decide +kernel, by decide +kernel⟩
theorem ok_law_mixed (T : TxtT K w mg base) : ∃ fd, FnP K "_law_mixed" "_law_mixed" (topS 36) [] (He.ga K "_law_mixed") fd ∧ FnG P w K mg base CX0 1 (He.ga K "_law_mixed") fd ["cell", "k"] (sp_law_mixed K) := by
  obtain ⟨fd, F⟩ := T.d_law_mixed
  refine ⟨fd, F, fnG_of (sp := sp_law_mixed K) F sc_law_mixed (fun vs H Q E h => h.1) fun cdv A outer s H vs Q E hr hg h => ?_⟩
  have hu := hu_of hr
  have nd := sc_law_mixed.nd
  exact ⟨t_law_mixed K, PSs.nox ((pss_cons (ps_set (i := 2) nd rfl (Or.inl rfl) (pe_op op_addA (pe_op op_addA (pe_op op_mod (pe_op op_mulA (pe_op op_mulA (pv 0) (pe_op op_addA pe_int (pe_op op_mulA pe_int (pv 1)))) pe_int) pe_int) (pe_op op_mulA (pe_op op_mulA pe_int (pv 1)) (pv 1))) (pe_op op_mulA pe_int (pv 1))))
    (pss_one (ps_ret (pe_op op_fdiv (pe_op op_mod (pe_op op_mulA (pv 2) pe_int) pe_int) pe_int))))), rd_law_mixed vs H Q E h⟩
theorem cs_law_mixed_2 (T : TxtT K w mg base) : CallOk P w K mg base CX0 1 "_law_mixed" 2 [] (sp_law_mixed K) (fun vs zs => pick .non [0, 1] (vs ++ zs)) := by
  obtain ⟨fd, F, G⟩ := ok_law_mixed (P := P) (w := w) (base := base) T
  obtain ⟨g, kb⟩ := kb0 (ps := ["cell", "k"]) F 2 [] [0, 1] fun kV doc pm an cdv ct us ws h1 h2 => match us, ws, h1, h2 with | [_, _], [], _, _ => rfl
  exact ⟨⟨fd, _, g, G, kb⟩, T.g_law_mixed, F.kp⟩
theorem sc_law_folded : FnScope ["script", "found", "k", "cell"] ["script"] (defScope (topS 37)) := ⟨rfl, rfl, rfl, by decide +kernel, rfl, by decide +kernel, by decide +kernel⟩
theorem ok_law_folded (T : TxtT K w mg base) : ∃ fd, FnP K "_law_folded" "_law_folded" (topS 37) [] (He.ga K "_law_folded") fd ∧ FnG P w K mg base CX0 1 (He.ga K "_law_folded") fd ["script"] (sp_law_folded K) := by
  obtain ⟨fd, F⟩ := T.d_law_folded
  refine ⟨fd, F, fnG_of (sp := sp_law_folded K) F sc_law_folded (fun vs H Q E h => h.1) fun cdv A outer s H vs Q E hr hg h => ?_⟩
  have hu := hu_of hr
  have nd := sc_law_folded.nd
  exact ⟨t_law_folded K, PSs.nox ((pss_cons (ps_setLc (i := 1) (own := [("k", 2)]) rfl nd rfl rfl (sw_true rfl rfl rfl (by decide +kernel)) (pi_range1 (by rfl) T.z_range (pa_cons pe_int pa_nil)) (blkOk_by (by first | decide +kernel | kernel_rfl)) (fun _ _ _ _ _ => (pg_name (i := 2) nd rfl (Or.inl rfl))) (fun _ _ _ _ _ => pts_nil) (fun _ _ _ _ _ => (pe_op op_addA pe_int (pv 2))))
    (pss_cons (ps_for PassesOwn.never rfl (pi_enumA (by rfl) T.z_enumerate (pa_cons (pv 0) pa_nil)) (pg_tup rfl (pgs_cons (pg_name (i := 2) nd rfl (Or.inl rfl)) (pgs_cons (pg_name (i := 3) nd rfl (Or.inl rfl)) pgs_nil)))
    (pss_one (ps_asg (pe_op op_mod (pe_op op_addA (pe_op op_mulA (pe_ix ix_seq (pv 1) (pe_op op_mod (pv 2) pe_int) (fun _ _ => rfl)) pe_int) (pv 3)) pe_int) (pg_sub (pv 1) (pe_op op_mod (pv 2) pe_int) set_list))))
    (pss_cons (ps_for PassesOwn.never rfl (pi_range2 (by rfl) T.z_range (pa_cons pe_int (pa_cons pe_int pa_nil))) (pg_name (i := 2) nd rfl (Or.inl rfl))
    (pss_one (ps_asg (pe_op op_mod (pe_op op_addA (pe_ix ix_seq (pv 1) (pv 2) (fun _ _ => rfl)) (pe_op op_mulA (pe_ix ix_seq (pv 1) (pe_op op_sub (pv 2) pe_int) (fun _ _ => rfl)) pe_int)) pe_int) (pg_sub (pv 1) (pv 2) set_list))))
    (pss_one (ps_ret (pv 1))))))), rd_law_folded vs H Q E h⟩
theorem cs_law_folded_1 (T : TxtT K w mg base) : CallOk P w K mg base CX0 1 "_law_folded" 1 [] (sp_law_folded K) (fun vs zs => pick .non [0] (vs ++ zs)) := by
  obtain ⟨fd, F, G⟩ := ok_law_folded (P := P) (w := w) (base := base) T
  obtain ⟨g, kb⟩ := kb0 (ps := ["script"]) F 1 [] [0] fun kV doc pm an cdv ct us ws h1 h2 => match us, ws, h1, h2 with | [_], [], _, _ => rfl
  exact ⟨⟨fd, _, g, G, kb⟩, T.g_law_folded, F.kp⟩
theorem sc_law_class : FnScope ["error"] ["error"] (defScope (topS 51)) := ⟨rfl, rfl, rfl, by decide +kernel, rfl, by decide +kernel, by decide +kernel⟩
theorem ok_law_class (T : TxtT K w mg base) : ∃ fd, FnP K "_law_class" "_law_class" (topS 51) [] (He.ga K "_law_class") fd ∧ FnG P w K mg base CX0 1 (He.ga K "_law_class") fd ["error"] (sp_law_class K) := by
  obtain ⟨fd, F⟩ := T.d_law_class
  refine ⟨fd, F, fnG_of (sp := sp_law_class K) F sc_law_class (fun vs H Q E h => h.1) fun cdv A outer s H vs Q E hr hg h => ?_⟩
  have hu := hu_of hr
  have nd := sc_law_class.nd
  exact ⟨t_law_class K, PSs.nox ((pss_cons (ps_if (pt_tr (pe_callB call_isX (by rfl) T.z_isinstance (by decide +kernel) (pa_cons (pv 0) (pa_cons (pe_gR T.g_BadText) pa_nil)))) (pss_one (ps_ret (pe_ifExp (PW.pt (pw_and (pt_tr (pe_callB call_isX (by rfl) T.z_isinstance (by decide +kernel) (pa_cons (pv 0) (pa_cons (pe_gR T.g_BadValue) pa_nil)))) (pw_and1 (pt_cmpR (op_eqA hr) (pe_xv (pv 0)) pe_str (nobehind _ (by decide) (by decide)))))) (pe_tup (pa_cons pe_str (pa_cons (pe_xv (pv 0)) (pa_cons (pe_xv (pv 0)) pa_nil)))) (pe_tup (pa_cons pe_str pa_nil))))) pss_nil)
    (pss_cons (ps_if (pt_tr (pe_callB call_isX (by rfl) T.z_isinstance (by decide +kernel) (pa_cons (pv 0) (pa_cons (pe_gR T.g_BadValue) pa_nil)))) (pss_one (ps_ret (pe_ifExp (pt_tr (pe_callB call_isX (by rfl) T.z_isinstance (by decide +kernel) (pa_cons (pv 0) (pa_cons (pe_bltn (v := .ty "ValueError") (by rfl) T.z_ValueError (by decide +kernel) rfl) pa_nil)))) (pe_tup (pa_cons pe_str (pa_cons (pe_xv (pv 0)) pa_nil))) (pe_tup (pa_cons pe_str pa_nil))))) pss_nil)
    (pss_cons (ps_if (pt_tr (pe_callB call_isX (by rfl) T.z_isinstance (by decide +kernel) (pa_cons (pv 0) (pa_cons (pe_gR T.g_NoSuch) pa_nil)))) (pss_one (ps_ret (pe_ifExp (pt_tr (pe_callB call_isX (by rfl) T.z_isinstance (by decide +kernel) (pa_cons (pv 0) (pa_cons (pe_bltn (v := .ty "KeyError") (by rfl) T.z_KeyError (by decide +kernel) rfl) pa_nil)))) (pe_tup (pa_cons pe_str (pa_cons (pe_xv (pv 0)) (pa_cons (pe_xv (pv 0)) pa_nil)))) (pe_tup (pa_cons pe_str pa_nil))))) pss_nil)
    (pss_one (ps_ret (pe_ifExp (pt_tr (pe_callB call_isX (by rfl) T.z_isinstance (by decide +kernel) (pa_cons (pv 0) (pa_cons (pe_bltn (v := .ty "OverflowError") (by rfl) T.z_OverflowError (by decide +kernel) rfl) pa_nil)))) (pe_tup (pa_cons pe_str (pa_cons (pe_xv (pv 0)) pa_nil))) (pe_tup (pa_cons pe_str pa_nil))))))))), rd_law_class (errC T) vs H Q E h⟩
theorem cs_law_class_1 (T : TxtT K w mg base) : CallOk P w K mg base CX0 1 "_law_class" 1 [] (sp_law_class K) (fun vs zs => pick .non [0] (vs ++ zs)) := by
  obtain ⟨fd, F, G⟩ := ok_law_class (P := P) (w := w) (base := base) T
  obtain ⟨g, kb⟩ := kb0 (ps := ["error"]) F 1 [] [0] fun kV doc pm an cdv ct us ws h1 h2 => match us, ws, h1, h2 with | [_], [], _, _ => rfl
  exact ⟨⟨fd, _, g, G, kb⟩, T.g_law_class, F.kp⟩
theorem sc_law_rank : FnScope ["plain"] ["plain"] (defScope (topS 53)) := ⟨rfl, rfl, rfl, by decide +kernel, rfl, by decide +kernel, by decide +kernel⟩
theorem ok_law_rank (T : TxtT K w mg base) : ∃ fd, FnP K "_law_rank" "_law_rank" (topS 53) [] (He.ga K "_law_rank") fd ∧ FnG P w K mg base CX0 1 (He.ga K "_law_rank") fd ["plain"] (sp_law_rank K) := by
  obtain ⟨fd, F⟩ := T.d_law_rank
  refine ⟨fd, F, fnG_of (sp := sp_law_rank K) F sc_law_rank (fun vs H Q E h => h.1) fun cdv A outer s H vs Q E hr hg h => ?_⟩
  have hu := hu_of hr
  have nd := sc_law_rank.nd
  exact ⟨t_law_rank K, PSs.nox ((pss_one (ps_ret (pe_tup (pa_cons (pe_ifExp (pt_tr (pe_ix ix_seq (pv 0) pe_int (fun _ _ => rfl))) pe_int pe_int) (pa_cons (pe_ix ix_seq (pv 0) pe_int (fun _ _ => rfl)) (pa_cons (pe_ix ix_seq (pv 0) pe_int (fun _ _ => rfl)) (pa_cons (pe_ix ix_seq (pv 0) pe_int (fun _ _ => rfl)) pa_nil)))))))), rd_law_rank vs H Q E h⟩
theorem cs_law_rank_1 (T : TxtT K w mg base) : CallOk P w K mg base CX0 1 "_law_rank" 1 [] (sp_law_rank K) (fun vs zs => pick .non [0] (vs ++ zs)) := by
  obtain ⟨fd, F, G⟩ := ok_law_rank (P := P) (w := w) (base := base) T
  obtain ⟨g, kb⟩ := kb0 (ps := ["plain"]) F 1 [] [0] fun kV doc pm an cdv ct us ws h1 h2 => match us, ws, h1, h2 with | [_], [], _, _ => rfl
  exact ⟨⟨fd, _, g, G, kb⟩, T.g_law_rank, F.kp⟩
theorem sc_law_spots : FnScope ["pair", "k"] ["pair"] (defScope (topS 54)) := ⟨rfl, rfl, rfl, by decide +kernel, rfl, by decide +kernel, by decide +kernel⟩
theorem ok_law_spots (T : TxtT K w mg base) : ∃ fd, FnP K "_law_spots" "_law_spots" (topS 54) [] (He.ga K "_law_spots") fd ∧ FnG P w K mg base CX0 1 (He.ga K "_law_spots") fd ["pair"] (sp_law_spots K) := by
  obtain ⟨fd, F⟩ := T.d_law_spots
  refine ⟨fd, F, fnG_of (sp := sp_law_spots K) F sc_law_spots (fun vs H Q E h => h.1) fun cdv A outer s H vs Q E hr hg h => ?_⟩
  have hu := hu_of hr
  have nd := sc_law_spots.nd
  exact ⟨t_law_spots K, PSs.nox ((pss_one (ps_ret (pe_op op_addA (pe_lc (own := [("k", 1)]) rfl nd (pi_range1 (by rfl) T.z_range (pa_cons (pe_ix ix_seq (pv 0) pe_int (fun _ _ => rfl)) pa_nil)) (blkOk_by (by first | decide +kernel | kernel_rfl)) (fun _ _ _ _ _ => (pg_name (i := 1) nd rfl (Or.inl rfl))) (fun _ _ _ _ _ => pts_nil) (fun _ _ _ _ _ => (pe_tup (pa_cons pe_str (pa_cons (pe_op op_addA (pv 1) pe_int) pa_nil))))) (pe_lc (own := [("k", 1)]) rfl nd (pi_range1 (by rfl) T.z_range (pa_cons (pe_ix ix_seq (pv 0) pe_int (fun _ _ => rfl)) pa_nil)) (blkOk_by (by first | decide +kernel | kernel_rfl)) (fun _ _ _ _ _ => (pg_name (i := 1) nd rfl (Or.inl rfl))) (fun _ _ _ _ _ => pts_nil) (fun _ _ _ _ _ => (pe_tup (pa_cons pe_str (pa_cons (pe_op op_addA (pv 1) pe_int) pa_nil))))))))), rd_law_spots vs H Q E h⟩
theorem cs_law_spots_1 (T : TxtT K w mg base) : CallOk P w K mg base CX0 1 "_law_spots" 1 [] (sp_law_spots K) (fun vs zs => pick .non [0] (vs ++ zs)) := by
  obtain ⟨fd, F, G⟩ := ok_law_spots (P := P) (w := w) (base := base) T
  obtain ⟨g, kb⟩ := kb0 (ps := ["pair"]) F 1 [] [0] fun kV doc pm an cdv ct us ws h1 h2 => match us, ws, h1, h2 with | [_], [], _, _ => rfl
  exact ⟨⟨fd, _, g, G, kb⟩, T.g_law_spots, F.kp⟩
theorem sc_law_readies : FnScope ["rows", "wanted", "found", "early", "row", "want"] ["rows", "wanted"] (defScope (topS 57)) := ⟨rfl, rfl, rfl, by decide +kernel, rfl, by decide +kernel, by decide +kernel⟩
theorem ok_law_readies (T : TxtT K w mg base) : ∃ fd, FnP K "_law_readies" "_law_readies" (topS 57) [] (He.ga K "_law_readies") fd ∧ FnG P w K mg base CX0 1 (He.ga K "_law_readies") fd ["rows", "wanted"] (sp_law_readies K) := by
  obtain ⟨fd, F⟩ := T.d_law_readies
  refine ⟨fd, F, fnG_of (sp := sp_law_readies K) F sc_law_readies (fun vs H Q E h => h.1) fun cdv A outer s H vs Q E hr hg h => ?_⟩
  have hu := hu_of hr
  have nd := sc_law_readies.nd
  exact ⟨t_law_readies K, PSs.nox ((pss_cons (ps_par rfl nd (i := 2) (j := 3) rfl rfl (by decide) rfl rfl (pa_cons (pe_lst pa_nil) (pa_cons pe_int pa_nil)) (by rfl))
    (pss_cons (ps_for PassesOwn.never rfl (RZ.pi_zipA (by rfl) T.z_zip (pa_cons (pv 0) (pa_cons (pv 1) pa_nil))) (pg_tup rfl (pgs_cons (pg_name (i := 4) nd rfl (Or.inl rfl)) (pgs_cons (pg_name (i := 5) nd rfl (Or.inl rfl)) pgs_nil)))
    (pss_cons (ps_expr (pe_bm PySem.F.plainAttrs_list PySem.F.slot_list_append PySem.F.type_list_append mt_append (pv 2) (pa_cons (pe_ifExp (pt_cmpR (op_eqA hr) (pe_ix ix_seq (pv 5) pe_int (fun _ _ => rfl)) pe_int (nobehind _ (by decide) (by decide))) (pe_ix ix_seq (pv 5) pe_int (fun _ _ => rfl)) (pv 3)) pa_nil)))
    (pss_one (ps_set (i := 3) nd rfl (Or.inl rfl) (pe_op op_addA (pe_ix ix_seq (pv 4) pe_int (fun _ _ => rfl)) (pe_ix ix_seq (pv 5) pe_int (fun _ _ => rfl)))))))
    (pss_one (ps_ret (pv 2)))))), rd_law_readies vs H Q E h⟩
theorem cs_law_readies_2 (T : TxtT K w mg base) : CallOk P w K mg base CX0 1 "_law_readies" 2 [] (sp_law_readies K) (fun vs zs => pick .non [0, 1] (vs ++ zs)) := by
  obtain ⟨fd, F, G⟩ := ok_law_readies (P := P) (w := w) (base := base) T
  obtain ⟨g, kb⟩ := kb0 (ps := ["rows", "wanted"]) F 2 [] [0, 1] fun kV doc pm an cdv ct us ws h1 h2 => match us, ws, h1, h2 with | [_, _], [], _, _ => rfl
  exact ⟨⟨fd, _, g, G, kb⟩, T.g_law_readies, F.kp⟩
theorem sc_law_is_row : FnScope ["row", "want", "spots", "figures", "one"] ["row", "want", "spots"] (defScope (topS 58)) := ⟨rfl, rfl, rfl, by decide +kernel, rfl, by decide +kernel, by decide +kernel⟩
theorem ok_law_is_row (T : TxtT K w mg base) : ∃ fd, FnP K "_law_is_row" "_law_is_row" (topS 58) [] (He.ga K "_law_is_row") fd ∧ FnG P w K mg base CX0 1 (He.ga K "_law_is_row") fd ["row", "want", "spots"] (sp_law_is_row K) := by
  obtain ⟨fd, F⟩ := T.d_law_is_row
  refine ⟨fd, F, fnG_of (sp := sp_law_is_row K) F sc_law_is_row (fun vs H Q E h => h.1) fun cdv A outer s H vs Q E hr hg h => ?_⟩
  have hu := hu_of hr
  have nd := sc_law_is_row.nd
  exact ⟨t_law_is_row K, PSs.nox ((pss_cons (ps_if (PW.pt (pw_or (pt_not (pt_tr (pe_callB call_isi (by rfl) T.z_isinstance (by decide +kernel) (pa_cons (pv 0) (pa_cons (pe_bltn (v := .ty "tuple") (by rfl) T.z_tuple (by decide +kernel) rfl) pa_nil))))) (pw_or (pt_cmpR (op_neA hr) (pe_callB cl_len (by rfl) T.z_len PySem.boot_len (pa_cons (pv 0) pa_nil)) pe_int (nobehind _ (by decide) (by decide))) (pw_or (pt_cmpR (op_neA hr) (pe_slice sl_any (pv 0) po_none (po_some pe_int)) (pe_slice sl_any (pv 1) po_none (po_some pe_int)) (nobehind _ (by decide) (by decide))) (pw_or1 (pt_cmpR (op_notInD (hu65 hr)) (pe_ix ix_seq (pv 0) pe_int (fun _ _ => rfl)) (pv 2) rfl)))))) (pss_one (ps_ret pe_bl)) pss_nil)
    (pss_cons (ps_set (i := 3) nd rfl (Or.inl rfl) (pe_lst (pa_cons (pe_ix ix_seq (pv 0) pe_int (fun _ _ => rfl)) (pa_cons (pe_ix ix_seq (pv 0) pe_int (fun _ _ => rfl)) (pa_cons (pe_ix ix_seq (pe_ix ix_seq (pv 0) pe_int (fun _ _ => rfl)) pe_int (fun _ _ => rfl)) (pa_cons (pe_ix ix_seq (pv 0) pe_int (fun _ _ => rfl)) (pa_cons (pe_ix ix_seq (pv 0) pe_int (fun _ _ => rfl)) pa_nil)))))))
    (pss_cons (ps_if (pt_not (pt_tr (pe_callB (cr_all rfl) (by rfl) T.z_all (by decide +kernel) (pa_cons (pe_lc (own := [("one", 4)]) rfl nd (pi_any (pv 3)) (blkOk_by (by first | decide +kernel | kernel_rfl)) (fun _ _ _ _ _ => (pg_name (i := 4) nd rfl (Or.inl rfl))) (fun _ _ _ _ _ => pts_nil) (fun _ _ _ _ _ => (pe_and (pe_callB call_isi (by rfl) T.z_isinstance (by decide +kernel) (pa_cons (pv 4) (pa_cons (pe_bltn (v := .ty "int") (by rfl) T.z_int (by decide +kernel) rfl) pa_nil))) (pe_one (pe_not (pe_callB call_isi (by rfl) T.z_isinstance (by decide +kernel) (pa_cons (pv 4) (pa_cons (pe_bltn (v := .ty "bool") (by rfl) T.z_bool (by decide +kernel) rfl) pa_nil)))))))) pa_nil)))) (pss_one (ps_ret pe_bl)) pss_nil)
    (pss_one (ps_ret (pe_and (pe_callB call_isi (by rfl) T.z_isinstance (by decide +kernel) (pa_cons (pe_ix ix_seq (pv 0) pe_int (fun _ _ => rfl)) (pa_cons (pe_bltn (v := .ty "tuple") (by rfl) T.z_tuple (by decide +kernel) rfl) pa_nil))) (pe_and (pe_cmpR (op_eqA hr) (pe_ix ix_seq (pe_ix ix_seq (pv 0) pe_int (fun _ _ => rfl)) pe_int (fun _ _ => rfl)) (pe_ix ix_seq (pv 1) pe_int (fun _ _ => rfl)) (nobehind _ (by decide) (by decide))) (pe_one (pe_cmpR (op_eqA hr) (pe_op op_sub (pe_ix ix_seq (pv 0) pe_int (fun _ _ => rfl)) (pe_ix ix_seq (pv 0) pe_int (fun _ _ => rfl))) (pe_ix ix_seq (pv 1) pe_int (fun _ _ => rfl)) (nobehind _ (by decide) (by decide)))))))))))), rd_law_is_row vs H Q E h⟩
theorem cs_law_is_row_3 (T : TxtT K w mg base) : CallOk P w K mg base CX0 1 "_law_is_row" 3 [] (sp_law_is_row K) (fun vs zs => pick .non [0, 1, 2] (vs ++ zs)) := by
  obtain ⟨fd, F, G⟩ := ok_law_is_row (P := P) (w := w) (base := base) T
  obtain ⟨g, kb⟩ := kb0 (ps := ["row", "want", "spots"]) F 3 [] [0, 1, 2] fun kV doc pm an cdv ct us ws h1 h2 => match us, ws, h1, h2 with | [_, _, _], [], _, _ => rfl
  exact ⟨⟨fd, _, g, G, kb⟩, T.g_law_is_row, F.kp⟩
theorem sc_law_far : FnScope ["deep", "wide", "k"] [] (defScope (topS 61)) := ⟨rfl, rfl, rfl, by decide +kernel, rfl, by decide +kernel, by decide +kernel⟩
theorem ok_law_far (T : TxtT K w mg base) : ∃ fd, FnP K "_law_far" "_law_far" (topS 61) [] (He.ga K "_law_far") fd ∧ FnG P w K mg base CX0 1 (He.ga K "_law_far") fd [] (sp_law_far K) := by
  obtain ⟨fd, F⟩ := T.d_law_far
  refine ⟨fd, F, fnG_of (sp := sp_law_far K) F sc_law_far (fun vs H Q E h => h.1) fun cdv A outer s H vs Q E hr hg h => ?_⟩
  have hu := hu_of hr
  have nd := sc_law_far.nd
  exact ⟨t_law_far K, PSs.nox ((pss_cons (ps_asg (pe_tup (pa_cons (pe_tup pa_nil) (pa_cons (pe_tup (pa_cons pe_str (pa_cons pe_int pa_nil))) pa_nil))) (pg_tup rfl (pgs_cons (pg_name (i := 0) nd rfl (Or.inl rfl)) (pgs_cons (pg_name (i := 1) nd rfl (Or.inl rfl)) pgs_nil))))
    (pss_cons (ps_for PassesOwn.never rfl (pi_range1 (by rfl) T.z_range (pa_cons pe_int pa_nil)) (pg_name (i := 2) nd rfl (Or.inl rfl))
    (pss_one (ps_set (i := 0) nd rfl (Or.inl rfl) (pe_tup (pa_cons (pv 0) pa_nil)))))
    (pss_cons (ps_for PassesOwn.never rfl (pi_range1 (by rfl) T.z_range (pa_cons pe_int pa_nil)) (pg_name (i := 2) nd rfl (Or.inl rfl))
    (pss_one (ps_set (i := 1) nd rfl (Or.inl rfl) (pe_tup (pa_cons (pv 1) (pa_cons (pv 1) pa_nil))))))
    (pss_one (ps_ret (pe_tup (pa_cons (pv 0) (pa_cons (pv 1) pa_nil))))))))), rd_law_far vs H Q E h⟩
theorem cs_law_far_0 (T : TxtT K w mg base) : CallOk P w K mg base CX0 1 "_law_far" 0 [] (sp_law_far K) (fun vs zs => pick .non [] (vs ++ zs)) := by
  obtain ⟨fd, F, G⟩ := ok_law_far (P := P) (w := w) (base := base) T
  obtain ⟨g, kb⟩ := kb0 (ps := []) F 0 [] [] fun kV doc pm an cdv ct us ws h1 h2 => match us, ws, h1, h2 with | [], [], _, _ => rfl
  exact ⟨⟨fd, _, g, G, kb⟩, T.g_law_far, F.kp⟩
theorem sc_law_whole : FnScope ["thing", "least", "most_of"] ["thing", "least", "most_of"] (defScope (topS 63)) := ⟨rfl, rfl, rfl, by decide +kernel, rfl, by decide +kernel, by decide +kernel⟩
theorem ok_law_whole (T : TxtT K w mg base) : ∃ fd, FnP K "_law_whole" "_law_whole" (topS 63) [] (He.ga K "_law_whole") fd ∧ FnG P w K mg base CX0 1 (He.ga K "_law_whole") fd ["thing", "least", "most_of"] (sp_law_whole K) := by
  obtain ⟨fd, F⟩ := T.d_law_whole
  refine ⟨fd, F, fnG_of (sp := sp_law_whole K) F sc_law_whole (fun vs H Q E h => h.1) fun cdv A outer s H vs Q E hr hg h => ?_⟩
  have hu := hu_of hr
  have nd := sc_law_whole.nd
  exact ⟨t_law_whole K, PSs.nox ((pss_one (ps_ret (pe_and (pe_callB call_isi (by rfl) T.z_isinstance (by decide +kernel) (pa_cons (pv 0) (pa_cons (pe_bltn (v := .ty "int") (by rfl) T.z_int (by decide +kernel) rfl) pa_nil))) (pe_and (pe_not (pe_callB call_isi (by rfl) T.z_isinstance (by decide +kernel) (pa_cons (pv 0) (pa_cons (pe_bltn (v := .ty "bool") (by rfl) T.z_bool (by decide +kernel) rfl) pa_nil)))) (pe_one (pe_chain op_le op_le (pv 1) (pv 0) (pv 2)))))))), rd_law_whole vs H Q E h⟩
theorem cs_law_whole_3 (T : TxtT K w mg base) : CallOk P w K mg base CX0 1 "_law_whole" 3 [] (sp_law_whole K) (fun vs zs => pick .non [0, 1, 2] (vs ++ zs)) := by
  obtain ⟨fd, F, G⟩ := ok_law_whole (P := P) (w := w) (base := base) T
  obtain ⟨g, kb⟩ := kb0 (ps := ["thing", "least", "most_of"]) F 3 [] [0, 1, 2] fun kV doc pm an cdv ct us ws h1 h2 => match us, ws, h1, h2 with | [_, _, _], [], _, _ => rfl
  exact ⟨⟨fd, _, g, G, kb⟩, T.g_law_whole, F.kp⟩
theorem sc_law_is_free : FnScope ["there", "begun", "few", "one"] ["there", "begun", "few"] (defScope (topS 64)) := ⟨rfl, rfl, rfl, by decide +kernel, rfl, by decide +kernel, by decide +kernel⟩
theorem ok_law_is_free (T : TxtT K w mg base) : ∃ fd, FnP K "_law_is_free" "_law_is_free" (topS 64) [] (He.ga K "_law_is_free") fd ∧ FnG P w K mg base CX0 1 (He.ga K "_law_is_free") fd ["there", "begun", "few"] (sp_law_is_free K) := by
  obtain ⟨fd, F⟩ := T.d_law_is_free
  refine ⟨fd, F, fnG_of (sp := sp_law_is_free K) F sc_law_is_free (fun vs H Q E h => h.1) fun cdv A outer s H vs Q E hr hg h => ?_⟩
  have hu := hu_of hr
  have nd := sc_law_is_free.nd
  exact ⟨t_law_is_free K, PSs.nox ((pss_one (ps_ret (pe_cmpR (op_eqNil hr) (pe_lc (own := [("one", 3)]) rfl nd (pi_any (pv 0)) (blkOk_by (by first | decide +kernel | kernel_rfl)) (fun _ _ _ _ _ => (pg_name (i := 3) nd rfl (Or.inl rfl))) (fun _ _ _ _ _ => (pts_one (PW.pt (pw_and (pt_cmpR op_lt (pe_ix ix_seq (pv 3) pe_int (fun _ _ => rfl)) (pe_op op_addA (pv 1) (pv 2)) (nobehind _ (by decide) (by decide))) (pw_and1 (pt_cmpR op_lt (pv 1) (pe_ix ix_seq (pv 3) pe_int (fun _ _ => rfl)) (nobehind _ (by decide) (by decide)))))))) (fun _ _ _ _ _ => (pv 3))) (pe_lst pa_nil) (nobehind _ (by decide) (by decide)))))), rd_law_is_free vs H Q E h⟩
theorem cs_law_is_free_3 (T : TxtT K w mg base) : CallOk P w K mg base CX0 1 "_law_is_free" 3 [] (sp_law_is_free K) (fun vs zs => pick .non [0, 1, 2] (vs ++ zs)) := by
  obtain ⟨fd, F, G⟩ := ok_law_is_free (P := P) (w := w) (base := base) T
  obtain ⟨g, kb⟩ := kb0 (ps := ["there", "begun", "few"]) F 3 [] [0, 1, 2] fun kV doc pm an cdv ct us ws h1 h2 => match us, ws, h1, h2 with | [_, _, _], [], _, _ => rfl
  exact ⟨⟨fd, _, g, G, kb⟩, T.g_law_is_free, F.kp⟩
theorem sc_is_step : FnScope ["thing"] ["thing"] (defScope (topS 18)) := ⟨rfl, rfl, rfl, by decide +kernel, rfl, by decide +kernel, by decide +kernel⟩
theorem ok_is_step (T : TxtT K w mg base) : ∃ fd, FnP K "is_step" "is_step" (topS 18) [] (He.ga K "is_step") fd ∧ FnG P w K mg base CX0 2 (He.ga K "is_step") fd ["thing"] (sp_is_step K) := by
  obtain ⟨fd, F⟩ := T.d_is_step
  refine ⟨fd, F, fnG_of (sp := sp_is_step K) F sc_is_step (fun vs H Q E h => h.1) fun cdv A outer s H vs Q E hr hg h => ?_⟩
  have hu := hu_of hr
  have nd := sc_is_step.nd
  exact ⟨t_is_step K, PSs.nox ((pss_cons (ps_if (PW.pt (pw_or (pt_not (pt_tr (pe_callB call_isi (by rfl) T.z_isinstance (by decide +kernel) (pa_cons (pv 0) (pa_cons (pe_bltn (v := .ty "tuple") (by rfl) T.z_tuple (by decide +kernel) rfl) pa_nil))))) (pw_or (pt_cmpR (op_neA hr) (pe_callB cl_len (by rfl) T.z_len PySem.boot_len (pa_cons (pv 0) pa_nil)) pe_int (nobehind _ (by decide) (by decide))) (pw_or1 (pt_cmpR op_isNo (pe_ca (cs_kind_of_1 T) hr (by decide) hg rfl pass0 (pa_cons (pe_ix ix_seq (pv 0) pe_int (fun _ _ => rfl)) pa_nil) pk_nil) pe_non (nobehind _ (by decide) (by decide))))))) (pss_one (ps_ret pe_bl)) pss_nil)
    (pss_one (ps_ret (pe_and (pe_ca (cs_is_whole_2_most T) hr (by decide) hg rfl pass0 (pa_cons (pe_ix ix_seq (pv 0) pe_int (fun _ _ => rfl)) (pa_cons pe_int pa_nil)) (pk_cons (pe_gI T.c_MOST_HOURS) pk_nil)) (pe_one (pe_ca (cs_is_whole_2_most T) hr (by decide) hg rfl pass0 (pa_cons (pe_ix ix_seq (pv 0) pe_int (fun _ _ => rfl)) (pa_cons pe_int pa_nil)) (pk_cons (pe_gI T.c_MOST_HOURS) pk_nil)))))))), rd_is_step vs H Q E h⟩
theorem cs_is_step_1 (T : TxtT K w mg base) : CallOk P w K mg base CX0 2 "is_step" 1 [] (sp_is_step K) (fun vs zs => pick .non [0] (vs ++ zs)) := by
  obtain ⟨fd, F, G⟩ := ok_is_step (P := P) (w := w) (base := base) T
  obtain ⟨g, kb⟩ := kb0 (ps := ["thing"]) F 1 [] [0] fun kV doc pm an cdv ct us ws h1 h2 => match us, ws, h1, h2 with | [_], [], _, _ => rfl
  exact ⟨⟨fd, _, g, G, kb⟩, T.g_is_step, F.kp⟩
theorem sc_Job_init : FnScope ["self", "number", "style", "brought", "due", "haste", "wanted"] ["self", "number", "style", "brought", "due", "haste"] (defScope (inClass (topS 23) 0)) := ⟨rfl, rfl, rfl, by decide +kernel, rfl, by decide +kernel, by decide +kernel⟩
theorem ok_Job_init (T : TxtT K w mg base) : ∃ fd, FnP K "__init__" "Job.__init__" (inClass (topS 23) 0) [.int 0, .non, .bl false] (He.ma K (He.ga K "Job") "__init__") fd ∧ FnG P w K mg base CX0 2 (He.ma K (He.ga K "Job") "__init__") fd ["self", "number", "style", "brought", "due", "haste"] (sp_Job_init K) := by
  obtain ⟨fd, F⟩ := T.d_Job_init
  refine ⟨fd, F, fnG_of (sp := sp_Job_init K) F sc_Job_init (fun vs H Q E h => h.1) fun cdv A outer s H vs Q E hr hg h => ?_⟩
  have hu := hu_of hr
  have nd := sc_Job_init.nd
  exact ⟨t_Job_init K, PSs.nox ((pss_cons (ps_if (pt_not (pt_tr (pe_ca (cs_is_whole_2_most T) hr (by decide) hg rfl pass0 (pa_cons (pv 1) (pa_cons pe_int pa_nil)) (pk_cons (pe_gI T.c_MOST_NUMBER) pk_nil)))) (pss_one ps_no) pss_nil)
    (pss_cons (ps_if (pt_not (pt_tr (pe_callB call_isi (by rfl) T.z_isinstance (by decide +kernel) (pa_cons (pv 2) (pa_cons (pe_gR T.g_Style) pa_nil))))) (pss_one ps_no) pss_nil)
    (pss_cons (ps_if (pt_not (pt_tr (pe_ca (cs_is_whole_2_most T) hr (by decide) hg rfl pass0 (pa_cons (pv 3) (pa_cons pe_int pa_nil)) (pk_cons (pe_gI T.c_MOST_HOUR) pk_nil)))) (pss_one ps_no) pss_nil)
    (pss_cons (ps_set (i := 6) nd rfl (Or.inl rfl) (pe_ifExp (pt_cmpR op_isNo (pv 4) pe_non (nobehind _ (by decide) (by decide))) (pe_op op_addA (pv 3) (pe_me0 (cs_Style_span_0 T) hr (by decide) hg pass0 (pv 2) pk_nil)) (pv 4)))
    (pss_cons (ps_if (pt_not (pt_tr (pe_ca (cs_is_whole_2_most T) hr (by decide) hg rfl pass0 (pa_cons (pv 6) (pa_cons (pv 3) pa_nil)) (pk_cons (pe_gI T.c_MOST_HOUR) pk_nil)))) (pss_one ps_no) pss_nil)
    (pss_cons (ps_if (pt_not (pt_tr (pe_callB call_isi (by rfl) T.z_isinstance (by decide +kernel) (pa_cons (pv 5) (pa_cons (pe_bltn (v := .ty "bool") (by rfl) T.z_bool (by decide +kernel) rfl) pa_nil))))) (pss_one ps_no) pss_nil)
    (pss_cons (ps_fld (pv 0) (pv 1) rfl)
    (pss_cons (ps_fld (pv 0) (pv 2) rfl)
    (pss_cons (ps_fld (pv 0) (pv 3) rfl)
    (pss_cons (ps_fld (pv 0) (pv 6) rfl)
    (pss_one (ps_fld (pv 0) (pv 5) rfl))))))))))))), rd_Job_init (jobC T) (styleC T) T.od_Style vs H Q E h⟩
theorem cs_Job_init_2_brought_due_haste (T : TxtT K w mg base) : MakeOk P w K mg base CX0 2 "Job" 2 ["brought", "due", "haste"] (sp_Job_init K) (fun vs zs => pick .non [0, 1, 2, 3, 4, 5] (vs ++ (zs ++ [.int 0, .non, .bl false]))) := by
  obtain ⟨fd, F, G⟩ := ok_Job_init (P := P) (w := w) (base := base) T
  obtain ⟨g, kb⟩ := kb1 (ps := ["self", "number", "style", "brought", "due", "haste"]) F (by simp) 3 ["brought", "due", "haste"] [0, 1, 2, 3, 4, 5] fun T kV doc pm an cdv ct us ws its h1 h2 h3 => match us, ws, its, h1, h2, h3 with | [_, _, _], [_, _, _], [_, _, _], _, _, _ => ⟨_, rfl, rfl⟩
  exact ⟨⟨_, fd, _, g, T.mk_Job, G, kb⟩, T.g_Job⟩
theorem cs_Job_init_2_brought_due (T : TxtT K w mg base) : MakeOk P w K mg base CX0 2 "Job" 2 ["brought", "due"] (sp_Job_init K) (fun vs zs => pick .non [0, 1, 2, 3, 4, 7] (vs ++ (zs ++ [.int 0, .non, .bl false]))) := by
  obtain ⟨fd, F, G⟩ := ok_Job_init (P := P) (w := w) (base := base) T
  obtain ⟨g, kb⟩ := kb1 (ps := ["self", "number", "style", "brought", "due", "haste"]) F (by simp) 3 ["brought", "due"] [0, 1, 2, 3, 4, 7] fun T kV doc pm an cdv ct us ws its h1 h2 h3 => match us, ws, its, h1, h2, h3 with | [_, _, _], [_, _], [_, _, _], _, _, _ => ⟨_, rfl, rfl⟩
  exact ⟨⟨_, fd, _, g, T.mk_Job, G, kb⟩, T.g_Job⟩
theorem cs_Job_init_2_brought (T : TxtT K w mg base) : MakeOk P w K mg base CX0 2 "Job" 2 ["brought"] (sp_Job_init K) (fun vs zs => pick .non [0, 1, 2, 3, 5, 6] (vs ++ (zs ++ [.int 0, .non, .bl false]))) := by
  obtain ⟨fd, F, G⟩ := ok_Job_init (P := P) (w := w) (base := base) T
  obtain ⟨g, kb⟩ := kb1 (ps := ["self", "number", "style", "brought", "due", "haste"]) F (by simp) 3 ["brought"] [0, 1, 2, 3, 5, 6] fun T kV doc pm an cdv ct us ws its h1 h2 h3 => match us, ws, its, h1, h2, h3 with | [_, _, _], [_], [_, _, _], _, _, _ => ⟨_, rfl, rfl⟩
  exact ⟨⟨_, fd, _, g, T.mk_Job, G, kb⟩, T.g_Job⟩
theorem sc_rank_of : FnScope ["job"] ["job"] (defScope (topS 24)) := ⟨rfl, rfl, rfl, by decide +kernel, rfl, by decide +kernel, by decide +kernel⟩
theorem ok_rank_of (T : TxtT K w mg base) : ∃ fd, FnP K "rank_of" "rank_of" (topS 24) [] (He.ga K "rank_of") fd ∧ FnG P w K mg base CX0 2 (He.ga K "rank_of") fd ["job"] (sp_rank_of K) := by
  obtain ⟨fd, F⟩ := T.d_rank_of
  refine ⟨fd, F, fnG_of (sp := sp_rank_of K) F sc_rank_of (fun vs H Q E h => h.1) fun cdv A outer s H vs Q E hr hg h => ?_⟩
  have hu := hu_of hr
  have nd := sc_rank_of.nd
  exact ⟨t_rank_of K, PSs.nox ((pss_one (ps_ret (pe_me0 (cs_Job_rank_0 T) hr (by decide) hg pass0 (pv 0) pk_nil)))), rd_rank_of vs H Q E h⟩
theorem cs_rank_of_1 (T : TxtT K w mg base) : CallOk P w K mg base CX0 2 "rank_of" 1 [] (sp_rank_of K) (fun vs zs => pick .non [0] (vs ++ zs)) := by
  obtain ⟨fd, F, G⟩ := ok_rank_of (P := P) (w := w) (base := base) T
  obtain ⟨g, kb⟩ := kb0 (ps := ["job"]) F 1 [] [0] fun kV doc pm an cdv ct us ws h1 h2 => match us, ws, h1, h2 with | [_], [], _, _ => rfl
  exact ⟨⟨fd, _, g, G, kb⟩, T.g_rank_of, F.kp⟩
theorem sc_Bench_init : FnScope ["self", "hands", "presses"] ["self", "hands", "presses"] (defScope (inClass (topS 29) 0)) := ⟨rfl, rfl, rfl, by decide +kernel, rfl, by decide +kernel, by decide +kernel⟩
theorem ok_Bench_init (T : TxtT K w mg base) : ∃ fd, FnP K "__init__" "Bench.__init__" (inClass (topS 29) 0) [.int 1, .int 1] (He.ma K (He.ga K "Bench") "__init__") fd ∧ FnG P w K mg base CX0 2 (He.ma K (He.ga K "Bench") "__init__") fd ["self", "hands", "presses"] (sp_Bench_init K) := by
  obtain ⟨fd, F⟩ := T.d_Bench_init
  refine ⟨fd, F, fnG_of (sp := sp_Bench_init K) F sc_Bench_init (fun vs H Q E h => h.1) fun cdv A outer s H vs Q E hr hg h => ?_⟩
  have hu := hu_of hr
  have nd := sc_Bench_init.nd
  exact ⟨t_Bench_init K, PSs.nox ((pss_cons (ps_if (pt_not (pt_tr (pe_ca (cs_is_whole_2_most T) hr (by decide) hg rfl pass0 (pa_cons (pv 1) (pa_cons pe_int pa_nil)) (pk_cons (pe_gI T.c_MOST_PLACES) pk_nil)))) (pss_one ps_no) pss_nil)
    (pss_cons (ps_if (pt_not (pt_tr (pe_ca (cs_is_whole_2_most T) hr (by decide) hg rfl pass0 (pa_cons (pv 2) (pa_cons pe_int pa_nil)) (pk_cons (pe_gI T.c_MOST_PLACES) pk_nil)))) (pss_one ps_no) pss_nil)
    (pss_one (ps_fld (pv 0) (pe_disp (pps_cons pe_str (pv 1) (pps_cons pe_str (pv 2) pps_nil)) (by rfl) (by rfl) (fun z => by cases z) (by decide)) rfl))))), rd_Bench_init (benchC T) vs H Q E h⟩
theorem cs_Bench_init_0_hands_presses (T : TxtT K w mg base) : MakeOk P w K mg base CX0 2 "Bench" 0 ["hands", "presses"] (sp_Bench_init K) (fun vs zs => pick .non [0, 1, 2] (vs ++ (zs ++ [.int 1, .int 1]))) := by
  obtain ⟨fd, F, G⟩ := ok_Bench_init (P := P) (w := w) (base := base) T
  obtain ⟨g, kb⟩ := kb1 (ps := ["self", "hands", "presses"]) F (by simp) 1 ["hands", "presses"] [0, 1, 2] fun T kV doc pm an cdv ct us ws its h1 h2 h3 => match us, ws, its, h1, h2, h3 with | [_], [_, _], [_, _], _, _, _ => ⟨_, rfl, rfl⟩
  exact ⟨⟨_, fd, _, g, T.mk_Bench, G, kb⟩, T.g_Bench⟩
theorem cs_Bench_init_0 (T : TxtT K w mg base) : MakeOk P w K mg base CX0 2 "Bench" 0 [] (sp_Bench_init K) (fun vs zs => pick .non [0, 1, 2] (vs ++ (zs ++ [.int 1, .int 1]))) := by
  obtain ⟨fd, F, G⟩ := ok_Bench_init (P := P) (w := w) (base := base) T
  obtain ⟨g, kb⟩ := kb1 (ps := ["self", "hands", "presses"]) F (by simp) 1 [] [0, 1, 2] fun T kV doc pm an cdv ct us ws its h1 h2 h3 => match us, ws, its, h1, h2, h3 with | [_], [], [_, _], _, _, _ => ⟨_, rfl, rfl⟩
  exact ⟨⟨_, fd, _, g, T.mk_Bench, G, kb⟩, T.g_Bench⟩
theorem sc_Bench_places : FnScope ["self"] ["self"] (defScope (inClass (topS 29) 3)) := ⟨rfl, rfl, rfl, by decide +kernel, rfl, by decide +kernel, by decide +kernel⟩
theorem ok_Bench_places (T : TxtT K w mg base) : ∃ fd, FnP K "places" "Bench.places" (inClass (topS 29) 3) [] (He.ma K (He.ga K "Bench") "places") fd ∧ FnG P w K mg base CX0 2 (He.ma K (He.ga K "Bench") "places") fd ["self"] (sp_Bench_places K) := by
  obtain ⟨fd, F⟩ := T.d_Bench_places
  refine ⟨fd, F, fnG_of (sp := sp_Bench_places K) F sc_Bench_places (fun vs H Q E h => h.1) fun cdv A outer s H vs Q E hr hg h => ?_⟩
  have hu := hu_of hr
  have nd := sc_Bench_places.nd
  exact ⟨t_Bench_places K, PSs.nox ((pss_one (ps_ret (pe_op op_addA (pe_me (cs_Bench_places_of_1 T) hr (by decide) hg pass0 (pv 0) (pa_cons pe_str pa_nil) pk_nil) (pe_me (cs_Bench_places_of_1 T) hr (by decide) hg pass0 (pv 0) (pa_cons pe_str pa_nil) pk_nil))))), rd_Bench_places vs H Q E h⟩
theorem cs_Bench_places_0 (T : TxtT K w mg base) : MethOk P w K mg base CX0 2 (He.ga K "Bench") "places" 0 [] (sp_Bench_places K) (fun vs zs => pick .non [0] (vs ++ zs)) := by
  obtain ⟨fd, F, G⟩ := ok_Bench_places (P := P) (w := w) (base := base) T
  obtain ⟨g, kb⟩ := kb0 (ps := ["self"]) F 1 [] [0] fun kV doc pm an cdv ct us ws h1 h2 => match us, ws, h1, h2 with | [_], [], _, _ => rfl
  exact ⟨⟨_, fd, _, g, T.m_Bench_places, G, kb⟩, T.cl_Bench⟩
theorem sc_are_jobs : FnScope ["thing", "job"] ["thing"] (defScope (topS 31)) := ⟨rfl, rfl, rfl, by decide +kernel, rfl, by decide +kernel, by decide +kernel⟩
theorem ok_are_jobs (T : TxtT K w mg base) : ∃ fd, FnP K "are_jobs" "are_jobs" (topS 31) [] (He.ga K "are_jobs") fd ∧ FnG P w K mg base CX0 2 (He.ga K "are_jobs") fd ["thing"] (sp_are_jobs K) := by
  obtain ⟨fd, F⟩ := T.d_are_jobs
  refine ⟨fd, F, fnG_of (sp := sp_are_jobs K) F sc_are_jobs (fun vs H Q E h => h.1) fun cdv A outer s H vs Q E hr hg h => ?_⟩
  have hu := hu_of hr
  have nd := sc_are_jobs.nd
  exact ⟨t_are_jobs K, PSs.nox ((pss_cons (ps_if (PW.pt (pw_or (pt_not (pt_tr (pe_callB call_isiT (by rfl) T.z_isinstance (by decide +kernel) (pa_cons (pv 0) (pa_cons (pe_tup (pa_cons (pe_bltn (v := .ty "list") (by rfl) T.z_list (by decide +kernel) rfl) (pa_cons (pe_bltn (v := .ty "tuple") (by rfl) T.z_tuple (by decide +kernel) rfl) pa_nil))) pa_nil))))) (pw_or1 (pt_cmpR op_gt (pe_callB cl_len (by rfl) T.z_len PySem.boot_len (pa_cons (pv 0) pa_nil)) (pe_gI T.c_MOST_JOBS) (nobehind _ (by decide) (by decide)))))) (pss_one (ps_ret pe_bl)) pss_nil)
    (pss_cons (ps_if (pt_not (pt_tr (pe_callB (cr_all rfl) (by rfl) T.z_all (by decide +kernel) (pa_cons (pe_lc (own := [("job", 1)]) rfl nd (pi_any (pv 0)) (blkOk_by (by first | decide +kernel | kernel_rfl)) (fun _ _ _ _ _ => (pg_name (i := 1) nd rfl (Or.inl rfl))) (fun _ _ _ _ _ => pts_nil) (fun _ _ _ _ _ => (pe_callB call_isi (by rfl) T.z_isinstance (by decide +kernel) (pa_cons (pv 1) (pa_cons (pe_gR T.g_Job) pa_nil))))) pa_nil)))) (pss_one (ps_ret pe_bl)) pss_nil)
    (pss_one (ps_ret (pe_cmpR (op_eqA hr) (RZ.pe_lenSetI (by rfl) T.z_len (by rfl) T.z_set (pe_lc (own := [("job", 1)]) rfl nd (pi_any (pv 0)) (blkOk_by (by first | decide +kernel | kernel_rfl)) (fun _ _ _ _ _ => (pg_name (i := 1) nd rfl (Or.inl rfl))) (fun _ _ _ _ _ => pts_nil) (fun _ _ _ _ _ => (pe_me0 (cs_Job_numbered_0 T) hr (by decide) hg pass0 (pv 1) pk_nil)))) (pe_callB cl_len (by rfl) T.z_len PySem.boot_len (pa_cons (pv 0) pa_nil)) (nobehind _ (by decide) (by decide)))))))), rd_are_jobs (jobC T) T.od_Job vs H Q E h⟩
theorem cs_are_jobs_1 (T : TxtT K w mg base) : CallOk P w K mg base CX0 2 "are_jobs" 1 [] (sp_are_jobs K) (fun vs zs => pick .non [0] (vs ++ zs)) := by
  obtain ⟨fd, F, G⟩ := ok_are_jobs (P := P) (w := w) (base := base) T
  obtain ⟨g, kb⟩ := kb0 (ps := ["thing"]) F 1 [] [0] fun kV doc pm an cdv ct us ws h1 h2 => match us, ws, h1, h2 with | [_], [], _, _ => rfl
  exact ⟨⟨fd, _, g, G, kb⟩, T.g_are_jobs, F.kp⟩
theorem sc_Plan_job_of : FnScope ["self", "number"] ["self", "number"] (defScope (inClass (topS 33) 2)) := ⟨rfl, rfl, rfl, by decide +kernel, rfl, by decide +kernel, by decide +kernel⟩
theorem ok_Plan_job_of (T : TxtT K w mg base) : ∃ fd, FnP K "job_of" "Plan.job_of" (inClass (topS 33) 2) [] (He.ma K (He.ga K "Plan") "job_of") fd ∧ FnG P w K mg base CX0 2 (He.ma K (He.ga K "Plan") "job_of") fd ["self", "number"] (sp_Plan_job_of K) := by
  obtain ⟨fd, F⟩ := T.d_Plan_job_of
  refine ⟨fd, F, fnG_of (sp := sp_Plan_job_of K) F sc_Plan_job_of (fun vs H Q E h => h.1) fun cdv A outer s H vs Q E hr hg h => ?_⟩
  have hu := hu_of hr
  have nd := sc_Plan_job_of.nd
  exact ⟨t_Plan_job_of K, PSs.nox ((pss_cons (ps_if (PW.pt (pw_or (pt_not (pt_tr (pe_ca (cs_is_whole_2 T) hr (by decide) hg rfl pass0 (pa_cons (pv 1) (pa_cons pe_int pa_nil)) pk_nil))) (pw_or1 (pt_cmp (pc_dnotin hu (pv 1) (pe_fld (pv 0) rfl)))))) (pss_one ps_no) pss_nil)
    (pss_one (ps_ret (pe_dget hu (pe_fld (pv 0) rfl) (pv 1) (fun _ _ => rfl)))))), rd_Plan_job_of (planC T) vs H Q E h⟩
theorem cs_Plan_job_of_1 (T : TxtT K w mg base) : MethOk P w K mg base CX0 2 (He.ga K "Plan") "job_of" 1 [] (sp_Plan_job_of K) (fun vs zs => pick .non [0, 1] (vs ++ zs)) := by
  obtain ⟨fd, F, G⟩ := ok_Plan_job_of (P := P) (w := w) (base := base) T
  obtain ⟨g, kb⟩ := kb0 (ps := ["self", "number"]) F 2 [] [0, 1] fun kV doc pm an cdv ct us ws h1 h2 => match us, ws, h1, h2 with | [_, _], [], _, _ => rfl
  exact ⟨⟨_, fd, _, g, T.m_Plan_job_of, G, kb⟩, T.cl_Plan⟩
theorem sc_Plan_eq : FnScope ["self", "other"] ["self", "other"] (defScope (inClass (topS 33) 21)) := ⟨rfl, rfl, rfl, by decide +kernel, rfl, by decide +kernel, by decide +kernel⟩
theorem ok_Plan_eq (T : TxtT K w mg base) : ∃ fd, FnP K "__eq__" "Plan.__eq__" (inClass (topS 33) 21) [] (He.ma K (He.ga K "Plan") "__eq__") fd ∧ FnG P w K mg base CX0 2 (He.ma K (He.ga K "Plan") "__eq__") fd ["self", "other"] (sp_Plan_eq K) := by
  obtain ⟨fd, F⟩ := T.d_Plan_eq
  refine ⟨fd, F, fnG_of (sp := sp_Plan_eq K) F sc_Plan_eq (fun vs H Q E h => h.1) fun cdv A outer s H vs Q E hr hg h => ?_⟩
  have hu := hu_of hr
  have nd := sc_Plan_eq.nd
  exact ⟨t_Plan_eq K, PSs.nox ((pss_one (ps_ret (pe_and (pe_callB call_isi (by rfl) T.z_isinstance (by decide +kernel) (pa_cons (pv 1) (pa_cons (pe_gR T.g_Plan) pa_nil))) (pe_and (pe_cmpR (op_ownEq (cs_Bench_eq_1 T) hr (by decide) hg pass0) (pe_fld (pv 0) rfl) (pe_fld (pv 1) rfl) (nobehind _ (by decide) (by decide))) (pe_one (pe_cmpR (op_eqNil hr) (pe_fld (pv 0) rfl) (pe_fld (pv 1) rfl) (nobehind _ (by decide) (by decide))))))))), rd_Plan_eq (planC T) T.od_Plan (benchC T) T.od_Bench vs H Q E h⟩
theorem cs_Plan_eq_1 (T : TxtT K w mg base) : MethOk P w K mg base CX0 2 (He.ga K "Plan") "__eq__" 1 [] (sp_Plan_eq K) (fun vs zs => pick .non [0, 1] (vs ++ zs)) := by
  obtain ⟨fd, F, G⟩ := ok_Plan_eq (P := P) (w := w) (base := base) T
  obtain ⟨g, kb⟩ := kb0 (ps := ["self", "other"]) F 2 [] [0, 1] fun kV doc pm an cdv ct us ws h1 h2 => match us, ws, h1, h2 with | [_, _], [], _, _ => rfl
  exact ⟨⟨_, fd, _, g, T.m_Plan_eq, G, kb⟩, T.cl_Plan⟩
theorem sc_law_draw : FnScope ["m", "many", "k", "spot", "cell"] ["m", "many"] (defScope (topS 38)) := ⟨rfl, rfl, rfl, by decide +kernel, rfl, by decide +kernel, by decide +kernel⟩
theorem ok_law_draw (T : TxtT K w mg base) : ∃ fd, FnP K "_law_draw" "_law_draw" (topS 38) [] (He.ga K "_law_draw") fd ∧ FnG P w K mg base CX0 2 (He.ga K "_law_draw") fd ["m", "many"] (sp_law_draw K) := by
  obtain ⟨fd, F⟩ := T.d_law_draw
  refine ⟨fd, F, fnG_of (sp := sp_law_draw K) F sc_law_draw (fun vs H Q E h => h.1) fun cdv A outer s H vs Q E hr hg h => ?_⟩
  have hu := hu_of hr
  have nd := sc_law_draw.nd
  exact ⟨t_law_draw K, PSs.nox ((pss_cons (ps_set (i := 2) nd rfl (Or.inl rfl) (pe_dget hu (pv 0) pe_str (fun _ _ => rfl)))
    (pss_cons (ps_dput hu (pv 0) pe_str (pe_op op_addA (pv 2) pe_int) rfl)
    (pss_cons (ps_if (pt_cmpR (op_neA hr) (pe_dget hu (pv 0) pe_str (fun _ _ => rfl)) (pe_lst pa_nil) (nobehind _ (by decide) (by decide))) (pss_cons (ps_set (i := 3) nd rfl (Or.inl rfl) (pe_op op_mod (pv 2) (pe_callB cl_len (by rfl) T.z_len PySem.boot_len (pa_cons (pe_dget hu (pv 0) pe_str (fun _ _ => rfl)) pa_nil))))
    (pss_cons (ps_set (i := 4) nd rfl (Or.inl rfl) (pe_ix ix_seq (pe_dget hu (pv 0) pe_str (fun _ _ => rfl)) (pv 3) (fun _ _ => rfl)))
    (pss_one (ps_if (pt_cmpR op_gt (pv 4) pe_int (nobehind _ (by decide) (by decide))) (pss_cons (ps_asg (pe_op op_fdiv (pv 4) (pv 1)) (pg_sub (pe_dget hu (pv 0) pe_str (fun _ _ => rfl)) (pv 3) set_list))
    (pss_one (ps_ret (pe_op op_mod (pv 4) (pv 1))))) pss_nil)))) pss_nil)
    (pss_one (ps_ret (pe_op op_mod (pe_ca (cs_law_mixed_2 T) hr (by decide) hg rfl pass0 (pa_cons (pe_ca (cs_law_mixed_2 T) hr (by decide) hg rfl pass0 (pa_cons (pe_op op_addA (pe_ix ix_seq (pe_dget hu (pv 0) pe_str (fun _ _ => rfl)) (pe_op op_mod (pv 2) pe_int) (fun _ _ => rfl)) (pe_op op_mulA pe_int (pe_op op_fdiv (pv 2) pe_int))) (pa_cons (pv 2) pa_nil)) pk_nil) (pa_cons (pe_op op_addA (pv 2) pe_int) pa_nil)) pk_nil) (pv 1)))))))), rd_law_draw vs H Q E h⟩
theorem cs_law_draw_2 (T : TxtT K w mg base) : CallOk P w K mg base CX0 2 "_law_draw" 2 [] (sp_law_draw K) (fun vs zs => pick .non [0, 1] (vs ++ zs)) := by
  obtain ⟨fd, F, G⟩ := ok_law_draw (P := P) (w := w) (base := base) T
  obtain ⟨g, kb⟩ := kb0 (ps := ["m", "many"]) F 2 [] [0, 1] fun kV doc pm an cdv ct us ws h1 h2 => match us, ws, h1, h2 with | [_, _], [], _, _ => rfl
  exact ⟨⟨fd, _, g, G, kb⟩, T.g_law_draw, F.kp⟩
theorem sc_law_begun : FnScope ["script", "m", "cell"] ["script"] (defScope (topS 39)) := ⟨rfl, rfl, rfl, by decide +kernel, rfl, by decide +kernel, by decide +kernel⟩
theorem ok_law_begun (T : TxtT K w mg base) : ∃ fd, FnP K "_law_begun" "_law_begun" (topS 39) [] (He.ga K "_law_begun") fd ∧ FnG P w K mg base CX0 2 (He.ga K "_law_begun") fd ["script"] (sp_law_begun K) := by
  obtain ⟨fd, F⟩ := T.d_law_begun
  refine ⟨fd, F, fnG_of (sp := sp_law_begun K) F sc_law_begun (fun vs H Q E h => h.1) fun cdv A outer s H vs Q E hr hg h => ?_⟩
  have hu := hu_of hr
  have nd := sc_law_begun.nd
  exact ⟨t_law_begun K, PSs.nox ((pss_cons (ps_set (i := 1) nd rfl (Or.inl rfl) (pe_disp (pps_cons pe_str (pe_ca (cs_law_folded_1 T) hr (by decide) hg rfl pass0 (pa_cons (pv 0) pa_nil) pk_nil) (pps_cons pe_str (pe_lst pa_nil) (pps_cons pe_str pe_int pps_nil))) (by rfl) (by rfl) (fun z => by cases z) (by decide)))
    (pss_cons (ps_dput hu (pv 1) pe_str (pe_lc (own := [("cell", 2)]) rfl nd (pi_any (pv 0)) (blkOk_by (by first | decide +kernel | kernel_rfl)) (fun _ _ _ _ _ => (pg_name (i := 2) nd rfl (Or.inl rfl))) (fun _ _ _ _ _ => pts_nil) (fun _ _ _ _ _ => (pe_ifExp (pt_cmpR op_ge (pv 2) (pe_op op_pow pe_int pe_int) (nobehind _ (by decide) (by decide))) (pv 2) pe_int))) rfl)
    (pss_one (ps_ret (pv 1)))))), rd_law_begun vs H Q E h⟩
theorem cs_law_begun_1 (T : TxtT K w mg base) : CallOk P w K mg base CX0 2 "_law_begun" 1 [] (sp_law_begun K) (fun vs zs => pick .non [0] (vs ++ zs)) := by
  obtain ⟨fd, F, G⟩ := ok_law_begun (P := P) (w := w) (base := base) T
  obtain ⟨g, kb⟩ := kb0 (ps := ["script"]) F 1 [] [0] fun kV doc pm an cdv ct us ws h1 h2 => match us, ws, h1, h2 with | [_], [], _, _ => rfl
  exact ⟨⟨fd, _, g, G, kb⟩, T.g_law_begun, F.kp⟩
theorem sc_law_told : FnScope ["deed", "error", "found", "e"] ["deed"] (defScope (topS 52)) := ⟨rfl, rfl, rfl, by decide +kernel, rfl, by decide +kernel, by decide +kernel⟩
theorem told_binds (T : TxtT K w mg base) : L2.Binds K (T.d_law_told).choose ["deed"] [] := L2.FunD.bindsN (ps := ["deed"]) (T.d_law_told).choose_spec (fun _ _ _ _ _ _ us hl => match us, hl with | [_], _ => rfl)
theorem gives0_law_told {A : Around} {stack : List Env} {k : Nat} {q : Str} (T : TxtT K w mg base) (hg : A.guards = some []) (hk : 1 ≤ k) (cdg : Value) (f c' : Addr) (s : Shared) (H : Hp) (Q : VK) (tl : XK → Hp → VK → Prop) (hr : Room k (A.deeper (envOfC "_law_told" (defScope (topS 52)) s.heap.objs.size (He.ga K "_law_told") cdg)))
    (act : ∀ (W : WX) (pn : List (Addr × Obj)) (xe : Value → Shared → Prop) (p1 p2 : Pos), Takes ((cxOf CX0 P w K mg base ["deed", "error", "found", "e"] "_law_told" (defScope (topS 52)) (He.ga K "_law_told") cdg A stack s H E0).tr pn xe) W → PE ((cxOf CX0 P w K mg base ["deed", "error", "found", "e"] "_law_told" (defScope (topS 52)) (He.ga K "_law_told") cdg A stack s H E0).tr pn xe) (.Call (.Name "deed" p1) [] [] p2) (tAct f c' q tl W)) (hc : H c' = some (LamX.CodeO c' q)) (hTT : TTold K tl H Q) :
    ∃ t, PSs (cxOf CX0 P w K mg base ["deed", "error", "found", "e"] "_law_told" (defScope (topS 52)) (He.ga K "_law_told") cdg A stack s H E0) (defBody (topS 52)) t ∧ t { nx := fun _ H' => Q .non H', rt := Q } (L2.start ["deed", "error", "found", "e"] [.ref f]) H := by
  have nd := sc_law_told.nd
  have hg : (A.deeper (envOfC "_law_told" (defScope (topS 52)) s.heap.objs.size (He.ga K "_law_told") cdg)).guards = some [] := guards_deeper hg
  exact ⟨t_law_told K (tAct f c' q tl), (pss_cons (ps_set (i := 1) nd rfl (Or.inl rfl) pe_non)
    (pss_cons (ps_set (i := 2) nd rfl (Or.inl rfl) (pe_lst pa_nil))
    (pss_cons (ps_try_as3 (i := 3) rfl rfl rfl nd rfl rfl ⟨by rfl, by decide, .inl T.g_BadValue⟩ ⟨by rfl, by decide, .inl T.g_NoSuch⟩ ⟨by rfl, by decide, .inl T.g_TooMany⟩ (fun W pn xe tk _ => (pss_one (ps_set (i := 2) nd rfl (Or.inl rfl) (pe_lst (pa_cons (act W pn xe _ _ tk) pa_nil))))) (fun a oe cls d pn _ _ => (pss_one (ps_set (i := 1) nd rfl (Or.inl rfl) (pv 3)))))
    (pss_one (ps_ret (pe_ifExp (pt_cmpR op_isNo (pv 1) pe_non (nobehind _ (by decide) (by decide))) (pv 2) (pe_ca (cs_law_class_1 T) hr (by first | decide | omega) hg rfl pass0 (pa_cons (pv 1) pa_nil) pk_nil))))))), rd_law_told hc hTT⟩
theorem gives_law_told {X : Cx} {k : Nat} {q : Str} (T : TxtT X.K X.w X.mg X.base) (hg : X.A.guards = some []) (hk : 1 ≤ k) (cdg : Value) : GivesG X k ["deed", "error", "found", "e"] "_law_told" (defScope (topS 52)) (He.ga X.K "_law_told") cdg (defBody (topS 52)) "deed" q (TTold X.K) :=
  fun f c' s H Q tl hr act hc hTT => gives0_law_told T hg hk cdg f c' s H Q tl hr act hc hTT
theorem sc_law_least : FnScope ["there", "few", "early", "mark", "one"] ["there", "few", "early"] (defScope (topS 65)) := ⟨rfl, rfl, rfl, by decide +kernel, rfl, by decide +kernel, by decide +kernel⟩
theorem ok_law_least (T : TxtT K w mg base) : ∃ fd, FnP K "_law_least" "_law_least" (topS 65) [] (He.ga K "_law_least") fd ∧ FnG P w K mg base CX0 2 (He.ga K "_law_least") fd ["there", "few", "early"] (sp_law_least K) := by
  obtain ⟨fd, F⟩ := T.d_law_least
  refine ⟨fd, F, fnG_of (sp := sp_law_least K) F sc_law_least (fun vs H Q E h => h.1) fun cdv A outer s H vs Q E hr hg h => ?_⟩
  have hu := hu_of hr
  have nd := sc_law_least.nd
  exact ⟨t_law_least K, PSs.nox ((pss_cons (ps_for PassesOwn.never rfl (pi_any (pe_callB cr_sortedI (by rfl) T.z_sorted (by decide +kernel) (pa_cons (pe_op op_addA (pe_lst (pa_cons (pv 2) pa_nil)) (pe_lc (own := [("one", 4)]) rfl nd (pi_any (pv 0)) (blkOk_by (by first | decide +kernel | kernel_rfl)) (fun _ _ _ _ _ => (pg_name (i := 4) nd rfl (Or.inl rfl))) (fun _ _ _ _ _ => (pts_one (pt_cmpR op_gt (pe_ix ix_seq (pv 4) pe_int (fun _ _ => rfl)) (pv 2) (nobehind _ (by decide) (by decide))))) (fun _ _ _ _ _ => (pe_ix ix_seq (pv 4) pe_int (fun _ _ => rfl))))) pa_nil))) (pg_name (i := 3) nd rfl (Or.inl rfl))
    (pss_one (ps_if (pt_tr (pe_ca (cs_law_is_free_3 T) hr (by decide) hg rfl pass0 (pa_cons (pv 0) (pa_cons (pv 3) (pa_cons (pv 1) pa_nil))) pk_nil)) (pss_one (ps_ret (pv 3))) pss_nil)))
    (pss_one (ps_ret pe_non)))), rd_law_least vs H Q E h⟩
theorem cs_law_least_3 (T : TxtT K w mg base) : CallOk P w K mg base CX0 2 "_law_least" 3 [] (sp_law_least K) (fun vs zs => pick .non [0, 1, 2] (vs ++ zs)) := by
  obtain ⟨fd, F, G⟩ := ok_law_least (P := P) (w := w) (base := base) T
  obtain ⟨g, kb⟩ := kb0 (ps := ["there", "few", "early"]) F 3 [] [0, 1, 2] fun kV doc pm an cdv ct us ws h1 h2 => match us, ws, h1, h2 with | [_, _, _], [], _, _ => rfl
  exact ⟨⟨fd, _, g, G, kb⟩, T.g_law_least, F.kp⟩
theorem sc_law_is_spot : FnScope ["thing", "pair"] ["thing", "pair"] (defScope (topS 69)) := ⟨rfl, rfl, rfl, by decide +kernel, rfl, by decide +kernel, by decide +kernel⟩
theorem ok_law_is_spot (T : TxtT K w mg base) : ∃ fd, FnP K "_law_is_spot" "_law_is_spot" (topS 69) [] (He.ga K "_law_is_spot") fd ∧ FnG P w K mg base CX0 2 (He.ga K "_law_is_spot") fd ["thing", "pair"] (sp_law_is_spot K) := by
  obtain ⟨fd, F⟩ := T.d_law_is_spot
  refine ⟨fd, F, fnG_of (sp := sp_law_is_spot K) F sc_law_is_spot (fun vs H Q E h => h.1) fun cdv A outer s H vs Q E hr hg h => ?_⟩
  have hu := hu_of hr
  have nd := sc_law_is_spot.nd
  exact ⟨t_law_is_spot K, PSs.nox ((pss_one (ps_ret (pe_and (pe_callB call_isi (by rfl) T.z_isinstance (by decide +kernel) (pa_cons (pv 0) (pa_cons (pe_bltn (v := .ty "tuple") (by rfl) T.z_tuple (by decide +kernel) rfl) pa_nil))) (pe_and (pe_cmpR (op_inD (hu65 hr)) (pv 0) (pe_ca (cs_law_spots_1 T) hr (by decide) hg rfl pass0 (pa_cons (pv 1) pa_nil) pk_nil) rfl) (pe_one (pe_not (pe_callB call_isi (by rfl) T.z_isinstance (by decide +kernel) (pa_cons (pe_ix ix_seq (pv 0) pe_int (fun _ _ => rfl)) (pa_cons (pe_bltn (v := .ty "bool") (by rfl) T.z_bool (by decide +kernel) rfl) pa_nil)))))))))), rd_law_is_spot vs H Q E h⟩
theorem cs_law_is_spot_2 (T : TxtT K w mg base) : CallOk P w K mg base CX0 2 "_law_is_spot" 2 [] (sp_law_is_spot K) (fun vs zs => pick .non [0, 1] (vs ++ zs)) := by
  obtain ⟨fd, F, G⟩ := ok_law_is_spot (P := P) (w := w) (base := base) T
  obtain ⟨g, kb⟩ := kb0 (ps := ["thing", "pair"]) F 2 [] [0, 1] fun kV doc pm an cdv ct us ws h1 h2 => match us, ws, h1, h2 with | [_, _], [], _, _ => rfl
  exact ⟨⟨fd, _, g, G, kb⟩, T.g_law_is_spot, F.kp⟩
theorem sc_are_steps : FnScope ["thing", "step"] ["thing"] (defScope (topS 21)) := ⟨rfl, rfl, rfl, by decide +kernel, rfl, by decide +kernel, by decide +kernel⟩
theorem ok_are_steps (T : TxtT K w mg base) : ∃ fd, FnP K "are_steps" "are_steps" (topS 21) [] (He.ga K "are_steps") fd ∧ FnG P w K mg base CX0 3 (He.ga K "are_steps") fd ["thing"] (sp_are_steps K) := by
  obtain ⟨fd, F⟩ := T.d_are_steps
  refine ⟨fd, F, fnG_of (sp := sp_are_steps K) F sc_are_steps (fun vs H Q E h => h.1) fun cdv A outer s H vs Q E hr hg h => ?_⟩
  have hu := hu_of hr
  have nd := sc_are_steps.nd
  exact ⟨t_are_steps K, PSs.nox ((pss_cons (ps_if (PW.pt (pw_or (pt_not (pt_tr (pe_callB call_isiT (by rfl) T.z_isinstance (by decide +kernel) (pa_cons (pv 0) (pa_cons (pe_tup (pa_cons (pe_bltn (v := .ty "list") (by rfl) T.z_list (by decide +kernel) rfl) (pa_cons (pe_bltn (v := .ty "tuple") (by rfl) T.z_tuple (by decide +kernel) rfl) pa_nil))) pa_nil))))) (pw_or1 (pt_not (pt_chain op_le op_le pe_int (pe_callB cl_len (by rfl) T.z_len PySem.boot_len (pa_cons (pv 0) pa_nil)) (pe_gI T.c_MOST_STEPS)))))) (pss_one (ps_ret pe_bl)) pss_nil)
    (pss_one (ps_ret (pe_callB (cr_all rfl) (by rfl) T.z_all (by decide +kernel) (pa_cons (pe_lc (own := [("step", 1)]) rfl nd (pi_any (pv 0)) (blkOk_by (by first | decide +kernel | kernel_rfl)) (fun _ _ _ _ _ => (pg_name (i := 1) nd rfl (Or.inl rfl))) (fun _ _ _ _ _ => pts_nil) (fun _ _ _ _ _ => (pe_ca (cs_is_step_1 T) hr (by decide) hg rfl pass0 (pa_cons (pv 1) pa_nil) pk_nil))) pa_nil)))))), rd_are_steps vs H Q E h⟩
theorem cs_are_steps_1 (T : TxtT K w mg base) : CallOk P w K mg base CX0 3 "are_steps" 1 [] (sp_are_steps K) (fun vs zs => pick .non [0] (vs ++ zs)) := by
  obtain ⟨fd, F, G⟩ := ok_are_steps (P := P) (w := w) (base := base) T
  obtain ⟨g, kb⟩ := kb0 (ps := ["thing"]) F 1 [] [0] fun kV doc pm an cdv ct us ws h1 h2 => match us, ws, h1, h2 with | [_], [], _, _ => rfl
  exact ⟨⟨fd, _, g, G, kb⟩, T.g_are_steps, F.kp⟩
theorem sc_Plan_rows : FnScope ["self", "number", "pair"] ["self", "number"] (defScope (inClass (topS 33) 5)) := ⟨rfl, rfl, rfl, by decide +kernel, rfl, by decide +kernel, by decide +kernel⟩
theorem ok_Plan_rows (T : TxtT K w mg base) : ∃ fd, FnP K "rows" "Plan.rows" (inClass (topS 33) 5) [.non] (He.ma K (He.ga K "Plan") "rows") fd ∧ FnG P w K mg base CX0 3 (He.ma K (He.ga K "Plan") "rows") fd ["self", "number"] (sp_Plan_rows K) := by
  obtain ⟨fd, F⟩ := T.d_Plan_rows
  refine ⟨fd, F, fnG_of (sp := sp_Plan_rows K) F sc_Plan_rows (fun vs H Q E h => h.1) fun cdv A outer s H vs Q E hr hg h => ?_⟩
  have hu := hu_of hr
  have nd := sc_Plan_rows.nd
  exact ⟨t_Plan_rows K, PSs.nox ((pss_cons (ps_if (pt_cmpR op_isNo (pv 1) pe_non (nobehind _ (by decide) (by decide))) (pss_one (ps_ret (pe_callTy cl_listOf (by rfl) T.z_list (by decide +kernel) (pa_cons (pe_fld (pv 0) rfl) pa_nil)))) pss_nil)
    (pss_one (ps_ret (pe_lc (own := [("pair", 2)]) rfl nd (pi_any (pe_ix ix_seq (pe_me (cs_Plan_job_of_1 T) hr (by decide) hg pass0 (pv 0) (pa_cons (pv 1) pa_nil) pk_nil) pe_int (fun _ _ => rfl))) (blkOk_by (by first | decide +kernel | kernel_rfl)) (fun _ _ _ _ _ => (pg_name (i := 2) nd rfl (Or.inl rfl))) (fun _ _ _ _ _ => pts_nil) (fun _ _ _ _ _ => (pe_ix ix_seq (pv 2) pe_int (fun _ _ => rfl)))))))), rd_Plan_rows (planC T) vs H Q E h⟩
theorem cs_Plan_rows_0 (T : TxtT K w mg base) : MethOk P w K mg base CX0 3 (He.ga K "Plan") "rows" 0 [] (sp_Plan_rows K) (fun vs zs => pick .non [0, 1] (vs ++ (zs ++ [.non]))) := by
  obtain ⟨fd, F, G⟩ := ok_Plan_rows (P := P) (w := w) (base := base) T
  obtain ⟨g, kb⟩ := kb1 (ps := ["self", "number"]) F (by simp) 1 [] [0, 1] fun T kV doc pm an cdv ct us ws its h1 h2 h3 => match us, ws, its, h1, h2, h3 with | [_], [], [_], _, _, _ => ⟨_, rfl, rfl⟩
  exact ⟨⟨_, fd, _, g, T.m_Plan_rows, G, kb⟩, T.cl_Plan⟩
theorem sc_Plan_rows_at : FnScope ["self", "place"] ["self", "place"] (defScope (inClass (topS 33) 14)) := ⟨rfl, rfl, rfl, by decide +kernel, rfl, by decide +kernel, by decide +kernel⟩
theorem ok_Plan_rows_at (T : TxtT K w mg base) : ∃ fd, FnP K "rows_at" "Plan.rows_at" (inClass (topS 33) 14) [] (He.ma K (He.ga K "Plan") "rows_at") fd ∧ FnG P w K mg base (L2.CX P w) 3 (He.ma K (He.ga K "Plan") "rows_at") fd ["self", "place"] (sp_Plan_rows_at K) := by
  obtain ⟨fd, F⟩ := T.d_Plan_rows_at
  refine ⟨fd, F, fnG_of (sp := sp_Plan_rows_at K) F sc_Plan_rows_at (fun vs H Q E h => h.1) fun cdv A outer s H vs Q E hr hg h => ?_⟩
  have hu := hu_of hr
  have nd := sc_Plan_rows_at.nd
  exact ⟨t_Plan_rows_at K E, (pss_cons (ps_if (PW.pt (pw_or (pt_not (pt_tr (pe_callB call_isi (by rfl) T.z_isinstance (by decide +kernel) (pa_cons (pv 1) (pa_cons (pe_bltn (v := .ty "tuple") (by rfl) T.z_tuple (by decide +kernel) rfl) pa_nil))))) (pw_or (pt_cmpR (op_neA hr) (pe_callB cl_len (by rfl) T.z_len PySem.boot_len (pa_cons (pv 1) pa_nil)) pe_int (nobehind _ (by decide) (by decide))) (pw_or1 (pt_not (pt_tr (pe_callB call_isi (by rfl) T.z_isinstance (by decide +kernel) (pa_cons (pe_ix ix_seq (pv 1) pe_int (fun _ _ => rfl)) (pa_cons (pe_bltn (v := .ty "str") (by rfl) T.z_str (by decide +kernel) rfl) pa_nil))))))))) (pss_one (ps_raise rfl (takes_of rfl rfl rfl rfl) (pmk_xg (xm_NoSuch_2 T) hr (by decide) hg pass0 rfl (pa_cons pe_str (pa_cons (pv 1) pa_nil))))) pss_nil)
    (pss_cons (ps_if (PW.pt (pw_or (pt_not (pt_tr (pe_ca (cs_is_whole_2_most T) hr (by decide) hg rfl pass0 (pa_cons (pe_ix ix_seq (pv 1) pe_int (fun _ _ => rfl)) (pa_cons pe_int pa_nil)) (pk_cons (pe_gI T.c_MOST_PLACES) pk_nil)))) (pw_or1 (pt_cmp (pc_dnotin hu (pv 1) (pe_fld (pv 0) rfl)))))) (pss_one (ps_raise rfl (takes_of rfl rfl rfl rfl) (pmk_xg (xm_NoSuch_2 T) hr (by decide) hg pass0 rfl (pa_cons pe_str (pa_cons (pv 1) pa_nil))))) pss_nil)
    (pss_one (ps_ret (pe_dget hu (pe_fld (pv 0) rfl) (pv 1) (fun _ _ => rfl)))))), rd_Plan_rows_at (planC T) (errC T) vs H Q E h⟩
theorem cs_Plan_rows_at_1 (T : TxtT K w mg base) : MethOk P w K mg base (L2.CX P w) 3 (He.ga K "Plan") "rows_at" 1 [] (sp_Plan_rows_at K) (fun vs zs => pick .non [0, 1] (vs ++ zs)) := by
  obtain ⟨fd, F, G⟩ := ok_Plan_rows_at (P := P) (w := w) (base := base) T
  obtain ⟨g, kb⟩ := kb0 (ps := ["self", "place"]) F 2 [] [0, 1] fun kV doc pm an cdv ct us ws h1 h2 => match us, ws, h1, h2 with | [_, _], [], _, _ => rfl
  exact ⟨⟨_, fd, _, g, T.m_Plan_rows_at, G, kb⟩, T.cl_Plan⟩
theorem sc_law_called : FnScope ["m", "many", "letters", "found", "shift", "stride", "k", "said", "j"] ["m", "many"] (defScope (topS 40)) := ⟨rfl, rfl, rfl, by decide +kernel, rfl, by decide +kernel, by decide +kernel⟩
theorem ok_law_called (T : TxtT K w mg base) : ∃ fd, FnP K "_law_called" "_law_called" (topS 40) [] (He.ga K "_law_called") fd ∧ FnG P w K mg base CX0 3 (He.ga K "_law_called") fd ["m", "many"] (sp_law_called K) := by
  obtain ⟨fd, F⟩ := T.d_law_called
  refine ⟨fd, F, fnG_of (sp := sp_law_called K) F sc_law_called (fun vs H Q E h => h.1) fun cdv A outer s H vs Q E hr hg h => ?_⟩
  have hu := hu_of hr
  have nd := sc_law_called.nd
  exact ⟨t_law_called K, PSs.nox ((pss_cons (ps_par rfl nd (i := 2) (j := 3) rfl rfl (by decide) rfl rfl (pa_cons pe_str (pa_cons (pe_lst pa_nil) pa_nil)) (by rfl))
    (pss_cons (ps_set (i := 4) nd rfl (Or.inl rfl) (pe_ca (cs_law_draw_2 T) hr (by decide) hg rfl pass0 (pa_cons (pv 0) (pa_cons pe_int pa_nil)) pk_nil))
    (pss_cons (ps_set (i := 5) nd rfl (Or.inl rfl) (pe_ix ix_seq (pe_lst (pa_cons pe_int (pa_cons pe_int (pa_cons pe_int (pa_cons pe_int (pa_cons pe_int (pa_cons pe_int (pa_cons pe_int (pa_cons pe_int (pa_cons pe_int (pa_cons pe_int (pa_cons pe_int (pa_cons pe_int pa_nil))))))))))))) (pe_ca (cs_law_draw_2 T) hr (by decide) hg rfl pass0 (pa_cons (pv 0) (pa_cons pe_int pa_nil)) pk_nil) (fun _ _ => rfl)))
    (pss_cons (ps_for PassesOwn.never rfl (pi_range1 (by rfl) T.z_range (pa_cons (pv 1) pa_nil)) (pg_name (i := 6) nd rfl (Or.inl rfl))
    (pss_cons (ps_set (i := 7) nd rfl (Or.inl rfl) (pe_ix ix_seq (pv 2) (pe_op op_mod (pe_op op_addA (pv 4) (pe_op op_mulA (pv 5) (pv 6))) pe_int) (fun _ _ => rfl)))
    (pss_cons (ps_set (i := 7) nd rfl (Or.inl rfl) (pe_op op_addA (pv 7) (pe_ix ix_seq (pv 2) (pe_op op_mod (pe_op op_addA (pv 4) (pe_op op_fdiv (pv 6) pe_int)) pe_int) (fun _ _ => rfl))))
    (pss_cons (ps_for PassesOwn.never rfl (pi_range1 (by rfl) T.z_range (pa_cons (pe_ix ix_seq (pe_lst (pa_cons pe_int (pa_cons pe_int (pa_cons pe_int (pa_cons (pe_ca (cs_law_draw_2 T) hr (by decide) hg rfl pass0 (pa_cons (pv 0) (pa_cons pe_int pa_nil)) pk_nil) pa_nil))))) (pe_ca (cs_law_draw_2 T) hr (by decide) hg rfl pass0 (pa_cons (pv 0) (pa_cons pe_int pa_nil)) pk_nil) (fun _ _ => rfl)) pa_nil)) (pg_name (i := 8) nd rfl (Or.inl rfl))
    (pss_one (ps_set (i := 7) nd rfl (Or.inl rfl) (pe_op op_addA (pv 7) (pe_ix ix_seq pe_str (pe_ca (cs_law_draw_2 T) hr (by decide) hg rfl pass0 (pa_cons (pv 0) (pa_cons pe_int pa_nil)) pk_nil) (fun _ _ => rfl))))))
    (pss_cons (ps_if (pt_cmpR (op_eqA hr) (pv 7) pe_str (nobehind _ (by decide) (by decide))) (pss_one (ps_set (i := 7) nd rfl (Or.inl rfl) pe_str)) pss_nil)
    (pss_cons (ps_if (PW.pt (pw_and (pt_cmpR (op_eqA hr) (pe_op op_mod (pv 6) pe_int) pe_int (nobehind _ (by decide) (by decide))) (pw_and1 (pt_cmpR (op_eqA hr) (pe_ca (cs_law_draw_2 T) hr (by decide) hg rfl pass0 (pa_cons (pv 0) (pa_cons pe_int pa_nil)) pk_nil) pe_int (nobehind _ (by decide) (by decide)))))) (pss_one (ps_set (i := 7) nd rfl (Or.inl rfl) (pe_op op_addA (pe_slice sl_any (pe_ix ix_seq (pv 3) (pe_un un_neg pe_int) (fun _ _ => rfl)) po_none (po_some pe_int)) pe_str))) pss_nil)
    (pss_one (ps_expr (pe_bm PySem.F.plainAttrs_list PySem.F.slot_list_append PySem.F.type_list_append mt_append (pv 3) (pa_cons (pv 7) pa_nil))))))))))
    (pss_one (ps_ret (pv 3)))))))), rd_law_called vs H Q E h⟩
theorem cs_law_called_2 (T : TxtT K w mg base) : CallOk P w K mg base CX0 3 "_law_called" 2 [] (sp_law_called K) (fun vs zs => pick .non [0, 1] (vs ++ zs)) := by
  obtain ⟨fd, F, G⟩ := ok_law_called (P := P) (w := w) (base := base) T
  obtain ⟨g, kb⟩ := kb0 (ps := ["m", "many"]) F 2 [] [0, 1] fun kV doc pm an cdv ct us ws h1 h2 => match us, ws, h1, h2 with | [_, _], [], _, _ => rfl
  exact ⟨⟨fd, _, g, G, kb⟩, T.g_law_called, F.kp⟩
theorem sc_law_step : FnScope ["m", "said", "few"] ["m"] (defScope (topS 41)) := ⟨rfl, rfl, rfl, by decide +kernel, rfl, by decide +kernel, by decide +kernel⟩
theorem ok_law_step (T : TxtT K w mg base) : ∃ fd, FnP K "_law_step" "_law_step" (topS 41) [] (He.ga K "_law_step") fd ∧ FnG P w K mg base CX0 3 (He.ga K "_law_step") fd ["m"] (sp_law_step K) := by
  obtain ⟨fd, F⟩ := T.d_law_step
  refine ⟨fd, F, fnG_of (sp := sp_law_step K) F sc_law_step (fun vs H Q E h => h.1) fun cdv A outer s H vs Q E hr hg h => ?_⟩
  have hu := hu_of hr
  have nd := sc_law_step.nd
  exact ⟨t_law_step K, PSs.nox ((pss_cons (ps_set (i := 1) nd rfl (Or.inl rfl) (pe_ix ix_seq (pe_lst (pa_cons pe_str (pa_cons pe_str (pa_cons pe_str (pa_cons pe_str (pa_cons pe_str (pa_cons pe_str (pa_cons pe_str pa_nil)))))))) (pe_ca (cs_law_draw_2 T) hr (by decide) hg rfl pass0 (pa_cons (pv 0) (pa_cons pe_int pa_nil)) pk_nil) (fun _ _ => rfl)))
    (pss_cons (ps_set (i := 2) nd rfl (Or.inl rfl) (pe_op op_addA pe_int (pe_ix ix_seq (pe_lst (pa_cons (pe_ca (cs_law_draw_2 T) hr (by decide) hg rfl pass0 (pa_cons (pv 0) (pa_cons pe_int pa_nil)) pk_nil) (pa_cons (pe_ca (cs_law_draw_2 T) hr (by decide) hg rfl pass0 (pa_cons (pv 0) (pa_cons pe_int pa_nil)) pk_nil) (pa_cons (pe_op op_sub pe_int (pe_ca (cs_law_draw_2 T) hr (by decide) hg rfl pass0 (pa_cons (pv 0) (pa_cons pe_int pa_nil)) pk_nil)) pa_nil)))) (pe_ca (cs_law_draw_2 T) hr (by decide) hg rfl pass0 (pa_cons (pv 0) (pa_cons pe_int pa_nil)) pk_nil) (fun _ _ => rfl))))
    (pss_one (ps_ret (pe_tup (pa_cons (pv 1) (pa_cons (pv 2) (pa_cons (pe_ix ix_seq (pe_lst (pa_cons pe_int (pa_cons pe_int (pa_cons (pe_ca (cs_law_draw_2 T) hr (by decide) hg rfl pass0 (pa_cons (pv 0) (pa_cons pe_int pa_nil)) pk_nil) (pa_cons (pe_ca (cs_law_draw_2 T) hr (by decide) hg rfl pass0 (pa_cons (pv 0) (pa_cons pe_int pa_nil)) pk_nil) (pa_cons (pe_op op_sub pe_int (pe_ca (cs_law_draw_2 T) hr (by decide) hg rfl pass0 (pa_cons (pv 0) (pa_cons pe_int pa_nil)) pk_nil)) pa_nil)))))) (pe_ca (cs_law_draw_2 T) hr (by decide) hg rfl pass0 (pa_cons (pv 0) (pa_cons pe_int pa_nil)) pk_nil) (fun _ _ => rfl)) pa_nil))))))))), rd_law_step vs H Q E h⟩
theorem cs_law_step_1 (T : TxtT K w mg base) : CallOk P w K mg base CX0 3 "_law_step" 1 [] (sp_law_step K) (fun vs zs => pick .non [0] (vs ++ zs)) := by
  obtain ⟨fd, F, G⟩ := ok_law_step (P := P) (w := w) (base := base) T
  obtain ⟨g, kb⟩ := kb0 (ps := ["m"]) F 1 [] [0] fun kV doc pm an cdv ct us ws h1 h2 => match us, ws, h1, h2 with | [_], [], _, _ => rfl
  exact ⟨⟨fd, _, g, G, kb⟩, T.g_law_step, F.kp⟩
theorem sc_law_numbers : FnScope ["m", "many", "first", "stride", "k"] ["m", "many"] (defScope (topS 44)) := ⟨rfl, rfl, rfl, by decide +kernel, rfl, by decide +kernel, by decide +kernel⟩
theorem ok_law_numbers (T : TxtT K w mg base) : ∃ fd, FnP K "_law_numbers" "_law_numbers" (topS 44) [] (He.ga K "_law_numbers") fd ∧ FnG P w K mg base CX0 3 (He.ga K "_law_numbers") fd ["m", "many"] (sp_law_numbers K) := by
  obtain ⟨fd, F⟩ := T.d_law_numbers
  refine ⟨fd, F, fnG_of (sp := sp_law_numbers K) F sc_law_numbers (fun vs H Q E h => h.1) fun cdv A outer s H vs Q E hr hg h => ?_⟩
  have hu := hu_of hr
  have nd := sc_law_numbers.nd
  exact ⟨t_law_numbers K, PSs.nox ((pss_cons (ps_asg (pe_tup (pa_cons (pe_ca (cs_law_draw_2 T) hr (by decide) hg rfl pass0 (pa_cons (pv 0) (pa_cons pe_int pa_nil)) pk_nil) (pa_cons (pe_ix ix_seq (pe_lst (pa_cons pe_int (pa_cons pe_int (pa_cons pe_int (pa_cons pe_int (pa_cons pe_int pa_nil)))))) (pe_ca (cs_law_draw_2 T) hr (by decide) hg rfl pass0 (pa_cons (pv 0) (pa_cons pe_int pa_nil)) pk_nil) (fun _ _ => rfl)) pa_nil))) (pg_tup rfl (pgs_cons (pg_name (i := 2) nd rfl (Or.inr rfl)) (pgs_cons (pg_name (i := 3) nd rfl (Or.inr rfl)) pgs_nil))))
    (pss_one (ps_ret (pe_lc (own := [("k", 4)]) rfl nd (pi_range1 (by rfl) T.z_range (pa_cons (pv 1) pa_nil)) (blkOk_by (by first | decide +kernel | kernel_rfl)) (fun _ _ _ _ _ => (pg_name (i := 4) nd rfl (Or.inl rfl))) (fun _ _ _ _ _ => pts_nil) (fun _ _ _ _ _ => (pe_op op_addA pe_int (pe_op op_mod (pe_op op_addA (pv 2) (pe_op op_mulA (pe_op op_mulA (pv 3) (pv 4)) (pe_op op_addA (pv 4) pe_int))) pe_int)))))))), rd_law_numbers vs H Q E h⟩
theorem cs_law_numbers_2 (T : TxtT K w mg base) : CallOk P w K mg base CX0 3 "_law_numbers" 2 [] (sp_law_numbers K) (fun vs zs => pick .non [0, 1] (vs ++ zs)) := by
  obtain ⟨fd, F, G⟩ := ok_law_numbers (P := P) (w := w) (base := base) T
  obtain ⟨g, kb⟩ := kb0 (ps := ["m", "many"]) F 2 [] [0, 1] fun kV doc pm an cdv ct us ws h1 h2 => match us, ws, h1, h2 with | [_, _], [], _, _ => rfl
  exact ⟨⟨fd, _, g, G, kb⟩, T.g_law_numbers, F.kp⟩
theorem sc_law_plain_job : FnScope ["m", "figure", "plain", "early", "span", "came", "room", "row"] ["m", "figure", "plain", "early"] (defScope (topS 45)) := ⟨rfl, rfl, rfl, by decide +kernel, rfl, by decide +kernel, by decide +kernel⟩
theorem ok_law_plain_job (T : TxtT K w mg base) : ∃ fd, FnP K "_law_plain_job" "_law_plain_job" (topS 45) [] (He.ga K "_law_plain_job") fd ∧ FnG P w K mg base CX0 3 (He.ga K "_law_plain_job") fd ["m", "figure", "plain", "early"] (sp_law_plain_job K) := by
  obtain ⟨fd, F⟩ := T.d_law_plain_job
  refine ⟨fd, F, fnG_of (sp := sp_law_plain_job K) F sc_law_plain_job (fun vs H Q E h => h.1) fun cdv A outer s H vs Q E hr hg h => ?_⟩
  have hu := hu_of hr
  have nd := sc_law_plain_job.nd
  exact ⟨t_law_plain_job K, PSs.nox ((pss_cons (ps_set (i := 4) nd rfl (Or.inl rfl) (pe_callB (cr_sum rfl) (by rfl) T.z_sum (by decide +kernel) (pa_cons (pe_lc (own := [("row", 7)]) rfl nd (pi_any (pe_ix ix_seq (pv 2) pe_int (fun _ _ => rfl))) (blkOk_by (by first | decide +kernel | kernel_rfl)) (fun _ _ _ _ _ => (pg_name (i := 7) nd rfl (Or.inl rfl))) (fun _ _ _ _ _ => pts_nil) (fun _ _ _ _ _ => (pe_op op_addA (pe_ix ix_seq (pv 7) pe_int (fun _ _ => rfl)) (pe_ix ix_seq (pv 7) pe_int (fun _ _ => rfl))))) pa_nil)))
    (pss_cons (ps_set (i := 5) nd rfl (Or.inl rfl) (pe_op op_addA (pv 3) (pe_ix ix_seq (pe_lst (pa_cons pe_int (pa_cons (pe_ca (cs_law_draw_2 T) hr (by decide) hg rfl pass0 (pa_cons (pv 0) (pa_cons pe_int pa_nil)) pk_nil) (pa_cons (pe_ca (cs_law_draw_2 T) hr (by decide) hg rfl pass0 (pa_cons (pv 0) (pa_cons pe_int pa_nil)) pk_nil) pa_nil)))) (pe_ca (cs_law_draw_2 T) hr (by decide) hg rfl pass0 (pa_cons (pv 0) (pa_cons pe_int pa_nil)) pk_nil) (fun _ _ => rfl))))
    (pss_cons (ps_set (i := 6) nd rfl (Or.inl rfl) (pe_ix ix_seq (pe_lst (pa_cons pe_int (pa_cons (pe_ca (cs_law_draw_2 T) hr (by decide) hg rfl pass0 (pa_cons (pv 0) (pa_cons pe_int pa_nil)) pk_nil) (pa_cons (pe_ca (cs_law_draw_2 T) hr (by decide) hg rfl pass0 (pa_cons (pv 0) (pa_cons (pe_op op_addA (pe_op op_mulA pe_int (pv 4)) pe_int) pa_nil)) pk_nil) (pa_cons (pv 4) pa_nil))))) (pe_ca (cs_law_draw_2 T) hr (by decide) hg rfl pass0 (pa_cons (pv 0) (pa_cons pe_int pa_nil)) pk_nil) (fun _ _ => rfl)))
    (pss_one (ps_ret (pe_tup (pa_cons (pv 1) (pa_cons (pv 2) (pa_cons (pv 5) (pa_cons (pe_op op_addA (pv 5) (pv 6)) (pa_cons (pe_ix ix_seq (pe_lst (pa_cons pe_bl (pa_cons pe_bl (pa_cons pe_bl pa_nil)))) (pe_ca (cs_law_draw_2 T) hr (by decide) hg rfl pass0 (pa_cons (pv 0) (pa_cons pe_int pa_nil)) pk_nil) (fun _ _ => rfl)) pa_nil)))))))))))), rd_law_plain_job vs H Q E h⟩
theorem cs_law_plain_job_4 (T : TxtT K w mg base) : CallOk P w K mg base CX0 3 "_law_plain_job" 4 [] (sp_law_plain_job K) (fun vs zs => pick .non [0, 1, 2, 3] (vs ++ zs)) := by
  obtain ⟨fd, F, G⟩ := ok_law_plain_job (P := P) (w := w) (base := base) T
  obtain ⟨g, kb⟩ := kb0 (ps := ["m", "figure", "plain", "early"]) F 4 [] [0, 1, 2, 3] fun kV doc pm an cdv ct us ws h1 h2 => match us, ws, h1, h2 with | [_, _, _, _], [], _, _ => rfl
  exact ⟨⟨fd, _, g, G, kb⟩, T.g_law_plain_job, F.kp⟩
theorem sc_law_plain_bench : FnScope ["m"] ["m"] (defScope (topS 49)) := ⟨rfl, rfl, rfl, by decide +kernel, rfl, by decide +kernel, by decide +kernel⟩
theorem ok_law_plain_bench (T : TxtT K w mg base) : ∃ fd, FnP K "_law_plain_bench" "_law_plain_bench" (topS 49) [] (He.ga K "_law_plain_bench") fd ∧ FnG P w K mg base CX0 3 (He.ga K "_law_plain_bench") fd ["m"] (sp_law_plain_bench K) := by
  obtain ⟨fd, F⟩ := T.d_law_plain_bench
  refine ⟨fd, F, fnG_of (sp := sp_law_plain_bench K) F sc_law_plain_bench (fun vs H Q E h => h.1) fun cdv A outer s H vs Q E hr hg h => ?_⟩
  have hu := hu_of hr
  have nd := sc_law_plain_bench.nd
  exact ⟨t_law_plain_bench K, PSs.nox ((pss_one (ps_ret (pe_tup (pa_cons (pe_op op_addA pe_int (pe_ca (cs_law_draw_2 T) hr (by decide) hg rfl pass0 (pa_cons (pv 0) (pa_cons (pe_ix ix_seq (pe_lst (pa_cons pe_int (pa_cons pe_int (pa_cons pe_int pa_nil)))) (pe_ca (cs_law_draw_2 T) hr (by decide) hg rfl pass0 (pa_cons (pv 0) (pa_cons pe_int pa_nil)) pk_nil) (fun _ _ => rfl)) pa_nil)) pk_nil)) (pa_cons (pe_op op_addA pe_int (pe_ca (cs_law_draw_2 T) hr (by decide) hg rfl pass0 (pa_cons (pv 0) (pa_cons (pe_ix ix_seq (pe_lst (pa_cons pe_int (pa_cons pe_int (pa_cons pe_int pa_nil)))) (pe_ca (cs_law_draw_2 T) hr (by decide) hg rfl pass0 (pa_cons (pv 0) (pa_cons pe_int pa_nil)) pk_nil) (fun _ _ => rfl)) pa_nil)) pk_nil)) pa_nil)))))), rd_law_plain_bench vs H Q E h⟩
theorem cs_law_plain_bench_1 (T : TxtT K w mg base) : CallOk P w K mg base CX0 3 "_law_plain_bench" 1 [] (sp_law_plain_bench K) (fun vs zs => pick .non [0] (vs ++ zs)) := by
  obtain ⟨fd, F, G⟩ := ok_law_plain_bench (P := P) (w := w) (base := base) T
  obtain ⟨g, kb⟩ := kb0 (ps := ["m"]) F 1 [] [0] fun kV doc pm an cdv ct us ws h1 h2 => match us, ws, h1, h2 with | [_], [], _, _ => rfl
  exact ⟨⟨fd, _, g, G, kb⟩, T.g_law_plain_bench, F.kp⟩
theorem sc_law_no : FnScope ["found", "word", "thing"] ["found", "word", "thing"] (defScope (topS 60)) := ⟨rfl, rfl, rfl, by decide +kernel, rfl, by decide +kernel, by decide +kernel⟩
theorem ok_law_no (T : TxtT K w mg base) : ∃ fd, FnP K "_law_no" "_law_no" (topS 60) [] (He.ga K "_law_no") fd ∧ FnG P w K mg base CX0 3 (He.ga K "_law_no") fd ["found", "word", "thing"] (sp_law_no K) := by
  obtain ⟨fd, F⟩ := T.d_law_no
  refine ⟨fd, F, fnG_of (sp := sp_law_no K) F sc_law_no (fun vs H Q E h => h.1) fun cdv A outer s H vs Q E hr hg h => ?_⟩
  have hu := hu_of hr
  have nd := sc_law_no.nd
  exact ⟨t_law_no K, PSs.nox ((pss_cons (ps_if (PW.pt (pw_or (pt_not (pt_tr (pe_callB call_isi (by rfl) T.z_isinstance (by decide +kernel) (pa_cons (pv 0) (pa_cons (pe_bltn (v := .ty "tuple") (by rfl) T.z_tuple (by decide +kernel) rfl) pa_nil))))) (pw_or (pt_cmpR (op_neA hr) (pe_callB cl_len (by rfl) T.z_len PySem.boot_len (pa_cons (pv 0) pa_nil)) pe_int (nobehind _ (by decide) (by decide))) (pw_or1 (pt_cmpR (op_neA hr) (pe_slice sl_any (pv 0) po_none (po_some pe_int)) (pe_tup (pa_cons pe_str (pa_cons (pv 1) pa_nil))) (nobehind _ (by decide) (by decide))))))) (pss_one (ps_ret pe_bl)) pss_nil)
    (pss_one (ps_ret (pe_and (pe_cmpR (OpR.or (op_eqA hr) (OpR.or (op_ownEq (cs_Plan_eq_1 T) hr (by decide) hg pass0) (OpR.or (op_ownEq (cs_Bench_eq_1 T) hr (by decide) hg pass0) (op_eqDc hr)))) (pe_ix ix_seq (pv 0) pe_int (fun _ _ => rfl)) (pv 2) (nobehind _ (by decide) (by decide))) (pe_one (pe_cmpR (op_eqA hr) (pe_callB call_isi (by rfl) T.z_isinstance (by decide +kernel) (pa_cons (pe_ix ix_seq (pv 0) pe_int (fun _ _ => rfl)) (pa_cons (pe_bltn (v := .ty "bool") (by rfl) T.z_bool (by decide +kernel) rfl) pa_nil))) (pe_callB call_isi (by rfl) T.z_isinstance (by decide +kernel) (pa_cons (pv 2) (pa_cons (pe_bltn (v := .ty "bool") (by rfl) T.z_bool (by decide +kernel) rfl) pa_nil))) (nobehind _ (by decide) (by decide))))))))), rd_law_no (planC T) T.od_Plan (benchC T) T.od_Bench vs H Q E h⟩
theorem cs_law_no_3 (T : TxtT K w mg base) : CallOk P w K mg base CX0 3 "_law_no" 3 [] (sp_law_no K) (fun vs zs => pick .non [0, 1, 2] (vs ++ zs)) := by
  obtain ⟨fd, F, G⟩ := ok_law_no (P := P) (w := w) (base := base) T
  obtain ⟨g, kb⟩ := kb0 (ps := ["found", "word", "thing"]) F 3 [] [0, 1, 2] fun kV doc pm an cdv ct us ws h1 h2 => match us, ws, h1, h2 with | [_, _, _], [], _, _ => rfl
  exact ⟨⟨fd, _, g, G, kb⟩, T.g_law_no, F.kp⟩
theorem sc_law_wish : FnScope ["m", "rows", "few", "early", "row"] ["m", "rows"] (defScope (topS 66)) := ⟨rfl, rfl, rfl, by decide +kernel, rfl, by decide +kernel, by decide +kernel⟩
theorem ok_law_wish (T : TxtT K w mg base) : ∃ fd, FnP K "_law_wish" "_law_wish" (topS 66) [] (He.ga K "_law_wish") fd ∧ FnG P w K mg base CX0 3 (He.ga K "_law_wish") fd ["m", "rows"] (sp_law_wish K) := by
  obtain ⟨fd, F⟩ := T.d_law_wish
  refine ⟨fd, F, fnG_of (sp := sp_law_wish K) F sc_law_wish (fun vs H Q E h => h.1) fun cdv A outer s H vs Q E hr hg h => ?_⟩
  have hu := hu_of hr
  have nd := sc_law_wish.nd
  exact ⟨t_law_wish K, PSs.nox ((pss_cons (ps_set (i := 2) nd rfl (Or.inl rfl) (pe_op op_addA pe_int (pe_ix ix_seq (pe_lst (pa_cons pe_int (pa_cons (pe_ca (cs_law_draw_2 T) hr (by decide) hg rfl pass0 (pa_cons (pv 0) (pa_cons pe_int pa_nil)) pk_nil) (pa_cons (pe_ca (cs_law_draw_2 T) hr (by decide) hg rfl pass0 (pa_cons (pv 0) (pa_cons pe_int pa_nil)) pk_nil) (pa_cons (pe_ca (cs_law_draw_2 T) hr (by decide) hg rfl pass0 (pa_cons (pv 0) (pa_cons pe_int pa_nil)) pk_nil) pa_nil))))) (pe_ca (cs_law_draw_2 T) hr (by decide) hg rfl pass0 (pa_cons (pv 0) (pa_cons pe_int pa_nil)) pk_nil) (fun _ _ => rfl))))
    (pss_cons (ps_set (i := 3) nd rfl (Or.inl rfl) (pe_ix ix_seq (pe_lst (pa_cons pe_int (pa_cons (pe_ca (cs_law_draw_2 T) hr (by decide) hg rfl pass0 (pa_cons (pv 0) (pa_cons pe_int pa_nil)) pk_nil) (pa_cons (pe_op op_sub (pe_op op_pow pe_int pe_int) (pe_ca (cs_law_draw_2 T) hr (by decide) hg rfl pass0 (pa_cons (pv 0) (pa_cons pe_int pa_nil)) pk_nil)) (pa_cons (pe_ca (cs_law_draw_2 T) hr (by decide) hg rfl pass0 (pa_cons (pv 0) (pa_cons (pe_op op_pow pe_int pe_int) pa_nil)) pk_nil) pa_nil))))) (pe_ca (cs_law_draw_2 T) hr (by decide) hg rfl pass0 (pa_cons (pv 0) (pa_cons pe_int pa_nil)) pk_nil) (fun _ _ => rfl)))
    (pss_cons (ps_if (PW.pt (pw_and (pt_cmpR (op_neNil hr) (pv 1) (pe_lst pa_nil) (nobehind _ (by decide) (by decide))) (pw_and1 (pt_cmpR op_gt (pe_ca (cs_law_draw_2 T) hr (by decide) hg rfl pass0 (pa_cons (pv 0) (pa_cons pe_int pa_nil)) pk_nil) pe_int (nobehind _ (by decide) (by decide)))))) (pss_cons (ps_set (i := 4) nd rfl (Or.inl rfl) (pe_ix ix_seq (pv 1) (pe_ca (cs_law_draw_2 T) hr (by decide) hg rfl pass0 (pa_cons (pv 0) (pa_cons (pe_callB cl_len (by rfl) T.z_len PySem.boot_len (pa_cons (pv 1) pa_nil)) pa_nil)) pk_nil) (fun _ _ => rfl)))
    (pss_one (ps_set (i := 3) nd rfl (Or.inl rfl) (pe_callB (cl_max2 rfl) (by rfl) T.z_max (by decide +kernel) (pa_cons pe_int (pa_cons (pe_op op_addA (pe_op op_sub (pe_ix ix_seq (pv 4) (pe_op op_addA pe_int (pe_ca (cs_law_draw_2 T) hr (by decide) hg rfl pass0 (pa_cons (pv 0) (pa_cons pe_int pa_nil)) pk_nil)) (fun _ _ => rfl)) pe_int) (pe_ca (cs_law_draw_2 T) hr (by decide) hg rfl pass0 (pa_cons (pv 0) (pa_cons pe_int pa_nil)) pk_nil)) pa_nil)))))) pss_nil)
    (pss_one (ps_ret (pe_tup (pa_cons (pv 2) (pa_cons (pe_callB (cl_min2 rfl) (by rfl) T.z_min (by decide +kernel) (pa_cons (pv 3) (pa_cons (pe_op op_pow pe_int pe_int) pa_nil))) pa_nil))))))))), rd_law_wish vs H Q E h⟩
theorem cs_law_wish_2 (T : TxtT K w mg base) : CallOk P w K mg base CX0 3 "_law_wish" 2 [] (sp_law_wish K) (fun vs zs => pick .non [0, 1] (vs ++ zs)) := by
  obtain ⟨fd, F, G⟩ := ok_law_wish (P := P) (w := w) (base := base) T
  obtain ⟨g, kb⟩ := kb0 (ps := ["m", "rows"]) F 2 [] [0, 1] fun kV doc pm an cdv ct us ws h1 h2 => match us, ws, h1, h2 with | [_, _], [], _, _ => rfl
  exact ⟨⟨fd, _, g, G, kb⟩, T.g_law_wish, F.kp⟩
theorem sc_Style_init : FnScope ["self", "name", "steps"] ["self", "name", "steps"] (defScope (inClass (topS 22) 0)) := ⟨rfl, rfl, rfl, by decide +kernel, rfl, by decide +kernel, by decide +kernel⟩
theorem ok_Style_init (T : TxtT K w mg base) : ∃ fd, FnP K "__init__" "Style.__init__" (inClass (topS 22) 0) [] (He.ma K (He.ga K "Style") "__init__") fd ∧ FnG P w K mg base CX0 4 (He.ma K (He.ga K "Style") "__init__") fd ["self", "name", "steps"] (sp_Style_init K) := by
  obtain ⟨fd, F⟩ := T.d_Style_init
  refine ⟨fd, F, fnG_of (sp := sp_Style_init K) F sc_Style_init (fun vs H Q E h => h.1) fun cdv A outer s H vs Q E hr hg h => ?_⟩
  have hu := hu_of hr
  have nd := sc_Style_init.nd
  exact ⟨t_Style_init K, PSs.nox ((pss_cons (ps_if (pt_not (pt_tr (pe_ca (cs_is_name_1 T) hr (by decide) hg rfl pass0 (pa_cons (pv 1) pa_nil) pk_nil))) (pss_one ps_no) pss_nil)
    (pss_cons (ps_if (pt_not (pt_tr (pe_ca (cs_are_steps_1 T) hr (by decide) hg rfl pass0 (pa_cons (pv 2) pa_nil) pk_nil))) (pss_one ps_no) pss_nil)
    (pss_cons (ps_fld (pv 0) (pv 1) rfl)
    (pss_one (ps_fld (pv 0) (pe_callTy cl_listOf (by rfl) T.z_list (by decide +kernel) (pa_cons (pv 2) pa_nil)) rfl)))))), rd_Style_init (styleC T) vs H Q E h⟩
theorem cs_Style_init_2 (T : TxtT K w mg base) : MakeOk P w K mg base CX0 4 "Style" 2 [] (sp_Style_init K) (fun vs zs => pick .non [0, 1, 2] (vs ++ zs)) := by
  obtain ⟨fd, F, G⟩ := ok_Style_init (P := P) (w := w) (base := base) T
  obtain ⟨g, kb⟩ := kb0 (ps := ["self", "name", "steps"]) F 3 [] [0, 1, 2] fun kV doc pm an cdv ct us ws h1 h2 => match us, ws, h1, h2 with | [_, _, _], [], _, _ => rfl
  exact ⟨⟨_, fd, _, g, T.mk_Style, G, kb⟩, T.g_Style⟩
theorem sc_Plan_take_in : FnScope ["self", "job", "at", "found", "k", "work", "hours", "rest", "place", "begin", "other", "hour", "row"] ["self", "job"] (defScope (inClass (topS 33) 1)) := ⟨rfl, rfl, rfl, by decide +kernel, rfl, by decide +kernel, by decide +kernel⟩
theorem ok_Plan_take_in (T : TxtT K w mg base) : ∃ fd, FnP K "take_in" "Plan.take_in" (inClass (topS 33) 1) [] (He.ma K (He.ga K "Plan") "take_in") fd ∧ FnG P w K mg base CX0 4 (He.ma K (He.ga K "Plan") "take_in") fd ["self", "job"] (sp_Plan_take_in K) := by
  obtain ⟨fd, F⟩ := T.d_Plan_take_in
  refine ⟨fd, F, fnG_of (sp := sp_Plan_take_in K) F sc_Plan_take_in (fun vs H Q E h => h.1) fun cdv A outer s H vs Q E hr hg h => ?_⟩
  have hu := hu_of hr
  have nd := sc_Plan_take_in.nd
  exact ⟨t_Plan_take_in K, PSs.nox ((pss_cons (ps_par rfl nd (i := 2) (j := 3) rfl rfl (by decide) rfl rfl (pa_cons (pe_me0 (cs_Job_brought_at_0 T) hr (by decide) hg pass0 (pv 1) pk_nil) (pa_cons (pe_lst pa_nil) pa_nil)) (by rfl))
    (pss_cons (ps_for PassesOwn.never rfl (pi_enumA (by rfl) T.z_enumerate (pa_cons (pe_me0 (cs_Style_steps_0 T) hr (by decide) hg pass0 (pe_me0 (cs_Job_of_style_0 T) hr (by decide) hg pass0 (pv 1) pk_nil) pk_nil) pa_nil)) (pg_tup rfl (pgs_cons (pg_name (i := 4) nd rfl (Or.inl rfl)) (pgs_cons (pg_tup rfl (pgs_cons (pg_name (i := 5) nd rfl (Or.inl rfl)) (pgs_cons (pg_name (i := 6) nd rfl (Or.inl rfl)) (pgs_cons (pg_name (i := 7) nd rfl (Or.inl rfl)) pgs_nil)))) pgs_nil)))
    (pss_cons (ps_asg (pe_tup (pa_cons pe_non (pa_cons pe_non pa_nil))) (pg_tup rfl (pgs_cons (pg_name (i := 8) nd rfl (Or.inl rfl)) (pgs_cons (pg_name (i := 9) nd rfl (Or.inl rfl)) pgs_nil))))
    (pss_cons (ps_for PassesOwn.never rfl (pi_any (pe_me (cs_Bench_places_of_1 T) hr (by decide) hg pass0 (pe_fld (pv 0) rfl) (pa_cons (pe_ca (cs_kind_of_1 T) hr (by decide) hg rfl pass0 (pa_cons (pv 5) pa_nil) pk_nil) pa_nil) pk_nil)) (pg_name (i := 10) nd rfl (Or.inl rfl))
    (pss_cons (ps_set (i := 11) nd rfl (Or.inl rfl) (pe_ca (cs_free_from_3 T) hr (by decide) hg rfl pass0 (pa_cons (pe_dget hu (pe_fld (pv 0) rfl) (pv 10) (fun _ _ => rfl)) (pa_cons (pv 6) (pa_cons (pv 2) pa_nil))) pk_nil))
    (pss_one (ps_if (PW.pt (pw_or (pt_cmpR op_isNo (pv 9) pe_non (nobehind _ (by decide) (by decide))) (pw_or1 (pt_cmpR op_lt (pv 11) (pv 9) (nobehind _ (by decide) (by decide)))))) (pss_one (ps_par rfl nd (i := 8) (j := 9) rfl rfl (by decide) rfl rfl (pa_cons (pv 10) (pa_cons (pv 11) pa_nil)) (by rfl))) pss_nil))))
    (pss_cons (ps_set (i := 12) nd rfl (Or.inl rfl) (pe_tup (pa_cons (pe_me0 (cs_Job_numbered_0 T) hr (by decide) hg pass0 (pv 1) pk_nil) (pa_cons (pe_op op_addA (pv 4) pe_int) (pa_cons (pv 8) (pa_cons (pv 9) (pa_cons (pe_op op_addA (pv 9) (pv 6)) pa_nil)))))))
    (pss_cons (ps_expr (pe_bm PySem.F.plainAttrs_list PySem.F.slot_list_append PySem.F.type_list_append mt_append (pv 3) (pa_cons (pe_tup (pa_cons (pv 12) (pa_cons (pv 2) pa_nil))) pa_nil)))
    (pss_cons (ps_expr (pe_bm PySem.F.plainAttrs_list PySem.F.slot_list_append PySem.F.type_list_append mt_append (pe_fld (pv 0) rfl) (pa_cons (pv 12) pa_nil)))
    (pss_cons (ps_dput hu (pe_fld (pv 0) rfl) (pv 8) (pe_callBK (ck_sortKey (cs_begin_of_1 T) hr (by decide) hg fun _ => pass0) (by rfl) T.z_sorted (by decide +kernel) (pa_cons (pe_op op_addA (pe_dget hu (pe_fld (pv 0) rfl) (pv 8) (fun _ _ => rfl)) (pe_lst (pa_cons (pv 12) pa_nil))) pa_nil) (pk_cons (pe_gR T.g_begin_of) pk_nil)) rfl)
    (pss_one (ps_set (i := 2) nd rfl (Or.inl rfl) (pe_op op_addA (pe_op op_addA (pv 9) (pv 6)) (pv 7)))))))))))
    (pss_one (ps_dput hu (pe_fld (pv 0) rfl) (pe_me0 (cs_Job_numbered_0 T) hr (by decide) hg pass0 (pv 1) pk_nil) (pe_tup (pa_cons (pv 1) (pa_cons (pv 3) (pa_cons (pv 2) pa_nil)))) rfl))))), rd_Plan_take_in (planC T) vs H Q E h⟩
theorem cs_Plan_take_in_1 (T : TxtT K w mg base) : MethOk P w K mg base CX0 4 (He.ga K "Plan") "take_in" 1 [] (sp_Plan_take_in K) (fun vs zs => pick .non [0, 1] (vs ++ zs)) := by
  obtain ⟨fd, F, G⟩ := ok_Plan_take_in (P := P) (w := w) (base := base) T
  obtain ⟨g, kb⟩ := kb0 (ps := ["self", "job"]) F 2 [] [0, 1] fun kV doc pm an cdv ct us ws h1 h2 => match us, ws, h1, h2 with | [_, _], [], _, _ => rfl
  exact ⟨⟨_, fd, _, g, T.m_Plan_take_in, G, kb⟩, T.cl_Plan⟩
theorem sc_Plan_next_free : FnScope ["self", "place", "hours", "since", "rows"] ["self", "place", "hours", "since"] (defScope (inClass (topS 33) 15)) := ⟨rfl, rfl, rfl, by decide +kernel, rfl, by decide +kernel, by decide +kernel⟩
theorem ok_Plan_next_free (T : TxtT K w mg base) : ∃ fd, FnP K "next_free" "Plan.next_free" (inClass (topS 33) 15) [.int 1, .int 0] (He.ma K (He.ga K "Plan") "next_free") fd ∧ FnG P w K mg base (L2.CX P w) 4 (He.ma K (He.ga K "Plan") "next_free") fd ["self", "place", "hours", "since"] (sp_Plan_next_free K) := by
  obtain ⟨fd, F⟩ := T.d_Plan_next_free
  refine ⟨fd, F, fnG_of (sp := sp_Plan_next_free K) F sc_Plan_next_free (fun vs H Q E h => h.1) fun cdv A outer s H vs Q E hr hg h => ?_⟩
  have hu := hu_of hr
  have nd := sc_Plan_next_free.nd
  exact ⟨t_Plan_next_free K E, (pss_cons (ps_set (i := 4) nd rfl (Or.inl rfl) (pe_me (cs_Plan_rows_at_1 T) hr (by decide) hg (passes_call (takes_of rfl rfl rfl rfl) fun _ _ _ _ h => h) (pv 0) (pa_cons (pv 1) pa_nil) pk_nil))
    (pss_cons (ps_if (pt_not (pt_tr (pe_ca (cs_is_whole_2_most T) hr (by decide) hg rfl pass0 (pa_cons (pv 2) (pa_cons pe_int pa_nil)) (pk_cons (pe_gI T.c_MOST_HOUR) pk_nil)))) (pss_one (ps_raise rfl (takes_of rfl rfl rfl rfl) (pmk_xg (xm_BadValue_1 T) hr (by decide) hg pass0 rfl (pa_cons pe_str pa_nil)))) pss_nil)
    (pss_cons (ps_if (pt_not (pt_tr (pe_ca (cs_is_whole_2_most T) hr (by decide) hg rfl pass0 (pa_cons (pv 3) (pa_cons pe_int pa_nil)) (pk_cons (pe_gI T.c_MOST_HOUR) pk_nil)))) (pss_one (ps_raise rfl (takes_of rfl rfl rfl rfl) (pmk_xg (xm_BadValue_1 T) hr (by decide) hg pass0 rfl (pa_cons pe_str pa_nil)))) pss_nil)
    (pss_one (ps_ret (pe_ca (cs_free_from_3 T) hr (by decide) hg rfl pass0 (pa_cons (pv 4) (pa_cons (pv 2) (pa_cons (pv 3) pa_nil))) pk_nil)))))), rd_Plan_next_free (planC T) (errC T) vs H Q E h⟩
theorem cs_Plan_next_free_0_place (T : TxtT K w mg base) : MethOk P w K mg base (L2.CX P w) 4 (He.ga K "Plan") "next_free" 0 ["place"] (sp_Plan_next_free K) (fun vs zs => pick .non [0, 1, 2, 3] (vs ++ (zs ++ [.int 1, .int 0]))) := by
  obtain ⟨fd, F, G⟩ := ok_Plan_next_free (P := P) (w := w) (base := base) T
  obtain ⟨g, kb⟩ := kb1 (ps := ["self", "place", "hours", "since"]) F (by simp) 1 ["place"] [0, 1, 2, 3] fun T kV doc pm an cdv ct us ws its h1 h2 h3 => match us, ws, its, h1, h2, h3 with | [_], [_], [_, _], _, _, _ => ⟨_, rfl, rfl⟩
  exact ⟨⟨_, fd, _, g, T.m_Plan_next_free, G, kb⟩, T.cl_Plan⟩
theorem cs_Plan_next_free_1 (T : TxtT K w mg base) : MethOk P w K mg base (L2.CX P w) 4 (He.ga K "Plan") "next_free" 1 [] (sp_Plan_next_free K) (fun vs zs => pick .non [0, 1, 2, 3] (vs ++ (zs ++ [.int 1, .int 0]))) := by
  obtain ⟨fd, F, G⟩ := ok_Plan_next_free (P := P) (w := w) (base := base) T
  obtain ⟨g, kb⟩ := kb1 (ps := ["self", "place", "hours", "since"]) F (by simp) 2 [] [0, 1, 2, 3] fun T kV doc pm an cdv ct us ws its h1 h2 h3 => match us, ws, its, h1, h2, h3 with | [_, _], [], [_, _], _, _, _ => ⟨_, rfl, rfl⟩
  exact ⟨⟨_, fd, _, g, T.m_Plan_next_free, G, kb⟩, T.cl_Plan⟩
theorem cs_Plan_next_free_0_since_hours_place (T : TxtT K w mg base) : MethOk P w K mg base (L2.CX P w) 4 (He.ga K "Plan") "next_free" 0 ["since", "hours", "place"] (sp_Plan_next_free K) (fun vs zs => pick .non [0, 3, 2, 1] (vs ++ (zs ++ [.int 1, .int 0]))) := by
  obtain ⟨fd, F, G⟩ := ok_Plan_next_free (P := P) (w := w) (base := base) T
  obtain ⟨g, kb⟩ := kb1 (ps := ["self", "place", "hours", "since"]) F (by simp) 1 ["since", "hours", "place"] [0, 3, 2, 1] fun T kV doc pm an cdv ct us ws its h1 h2 h3 => match us, ws, its, h1, h2, h3 with | [_], [_, _, _], [_, _], _, _, _ => ⟨_, rfl, rfl⟩
  exact ⟨⟨_, fd, _, g, T.m_Plan_next_free, G, kb⟩, T.cl_Plan⟩
theorem cs_Plan_next_free_3 (T : TxtT K w mg base) : MethOk P w K mg base (L2.CX P w) 4 (He.ga K "Plan") "next_free" 3 [] (sp_Plan_next_free K) (fun vs zs => pick .non [0, 1, 2, 3] (vs ++ (zs ++ [.int 1, .int 0]))) := by
  obtain ⟨fd, F, G⟩ := ok_Plan_next_free (P := P) (w := w) (base := base) T
  obtain ⟨g, kb⟩ := kb1 (ps := ["self", "place", "hours", "since"]) F (by simp) 4 [] [0, 1, 2, 3] fun T kV doc pm an cdv ct us ws its h1 h2 h3 => match us, ws, its, h1, h2, h3 with | [_, _, _, _], [], [_, _], _, _, _ => ⟨_, rfl, rfl⟩
  exact ⟨⟨_, fd, _, g, T.m_Plan_next_free, G, kb⟩, T.cl_Plan⟩
theorem cs_Plan_next_free_2 (T : TxtT K w mg base) : MethOk P w K mg base (L2.CX P w) 4 (He.ga K "Plan") "next_free" 2 [] (sp_Plan_next_free K) (fun vs zs => pick .non [0, 1, 2, 4] (vs ++ (zs ++ [.int 1, .int 0]))) := by
  obtain ⟨fd, F, G⟩ := ok_Plan_next_free (P := P) (w := w) (base := base) T
  obtain ⟨g, kb⟩ := kb1 (ps := ["self", "place", "hours", "since"]) F (by simp) 3 [] [0, 1, 2, 4] fun T kV doc pm an cdv ct us ws its h1 h2 h3 => match us, ws, its, h1, h2, h3 with | [_, _, _], [], [_, _], _, _, _ => ⟨_, rfl, rfl⟩
  exact ⟨⟨_, fd, _, g, T.m_Plan_next_free, G, kb⟩, T.cl_Plan⟩
theorem cs_Plan_next_free_1_since (T : TxtT K w mg base) : MethOk P w K mg base (L2.CX P w) 4 (He.ga K "Plan") "next_free" 1 ["since"] (sp_Plan_next_free K) (fun vs zs => pick .non [0, 1, 3, 2] (vs ++ (zs ++ [.int 1, .int 0]))) := by
  obtain ⟨fd, F, G⟩ := ok_Plan_next_free (P := P) (w := w) (base := base) T
  obtain ⟨g, kb⟩ := kb1 (ps := ["self", "place", "hours", "since"]) F (by simp) 2 ["since"] [0, 1, 3, 2] fun T kV doc pm an cdv ct us ws its h1 h2 h3 => match us, ws, its, h1, h2, h3 with | [_, _], [_], [_, _], _, _, _ => ⟨_, rfl, rfl⟩
  exact ⟨⟨_, fd, _, g, T.m_Plan_next_free, G, kb⟩, T.cl_Plan⟩
theorem cs_Plan_next_free_2_since (T : TxtT K w mg base) : MethOk P w K mg base (L2.CX P w) 4 (He.ga K "Plan") "next_free" 2 ["since"] (sp_Plan_next_free K) (fun vs zs => pick .non [0, 1, 2, 3] (vs ++ (zs ++ [.int 1, .int 0]))) := by
  obtain ⟨fd, F, G⟩ := ok_Plan_next_free (P := P) (w := w) (base := base) T
  obtain ⟨g, kb⟩ := kb1 (ps := ["self", "place", "hours", "since"]) F (by simp) 3 ["since"] [0, 1, 2, 3] fun T kV doc pm an cdv ct us ws its h1 h2 h3 => match us, ws, its, h1, h2, h3 with | [_, _, _], [_], [_, _], _, _, _ => ⟨_, rfl, rfl⟩
  exact ⟨⟨_, fd, _, g, T.m_Plan_next_free, G, kb⟩, T.cl_Plan⟩
theorem cs_Plan_next_free_1_hours_since (T : TxtT K w mg base) : MethOk P w K mg base (L2.CX P w) 4 (He.ga K "Plan") "next_free" 1 ["hours", "since"] (sp_Plan_next_free K) (fun vs zs => pick .non [0, 1, 2, 3] (vs ++ (zs ++ [.int 1, .int 0]))) := by
  obtain ⟨fd, F, G⟩ := ok_Plan_next_free (P := P) (w := w) (base := base) T
  obtain ⟨g, kb⟩ := kb1 (ps := ["self", "place", "hours", "since"]) F (by simp) 2 ["hours", "since"] [0, 1, 2, 3] fun T kV doc pm an cdv ct us ws its h1 h2 h3 => match us, ws, its, h1, h2, h3 with | [_, _], [_, _], [_, _], _, _, _ => ⟨_, rfl, rfl⟩
  exact ⟨⟨_, fd, _, g, T.m_Plan_next_free, G, kb⟩, T.cl_Plan⟩
theorem sc_Plan_busy : FnScope ["self", "place", "row"] ["self", "place"] (defScope (inClass (topS 33) 16)) := ⟨rfl, rfl, rfl, by decide +kernel, rfl, by decide +kernel, by decide +kernel⟩
theorem ok_Plan_busy (T : TxtT K w mg base) : ∃ fd, FnP K "busy" "Plan.busy" (inClass (topS 33) 16) [] (He.ma K (He.ga K "Plan") "busy") fd ∧ FnG P w K mg base (L2.CX P w) 4 (He.ma K (He.ga K "Plan") "busy") fd ["self", "place"] (sp_Plan_busy K) := by
  obtain ⟨fd, F⟩ := T.d_Plan_busy
  refine ⟨fd, F, fnG_of (sp := sp_Plan_busy K) F sc_Plan_busy (fun vs H Q E h => h.1) fun cdv A outer s H vs Q E hr hg h => ?_⟩
  have hu := hu_of hr
  have nd := sc_Plan_busy.nd
  exact ⟨t_Plan_busy K E, (pss_one (ps_ret (pe_callB (cr_sum rfl) (by rfl) T.z_sum (by decide +kernel) (pa_cons (pe_lc (own := [("row", 2)]) rfl nd (pi_any (pe_me (cs_Plan_rows_at_1 T) hr (by decide) hg (passes_call (takes_of rfl rfl rfl rfl) fun _ _ _ _ h => h) (pv 0) (pa_cons (pv 1) pa_nil) pk_nil)) (blkOk_by (by first | decide +kernel | kernel_rfl)) (fun _ _ _ _ _ => (pg_name (i := 2) nd rfl (Or.inl rfl))) (fun _ _ _ _ _ => pts_nil) (fun _ _ _ _ _ => (pe_op op_sub (pe_ix ix_seq (pv 2) pe_int (fun _ _ => rfl)) (pe_ix ix_seq (pv 2) pe_int (fun _ _ => rfl))))) pa_nil)))), rd_Plan_busy (planC T) (errC T) vs H Q E h⟩
theorem cs_Plan_busy_0_place (T : TxtT K w mg base) : MethOk P w K mg base (L2.CX P w) 4 (He.ga K "Plan") "busy" 0 ["place"] (sp_Plan_busy K) (fun vs zs => pick .non [0, 1] (vs ++ zs)) := by
  obtain ⟨fd, F, G⟩ := ok_Plan_busy (P := P) (w := w) (base := base) T
  obtain ⟨g, kb⟩ := kb0 (ps := ["self", "place"]) F 1 ["place"] [0, 1] fun kV doc pm an cdv ct us ws h1 h2 => match us, ws, h1, h2 with | [_], [_], _, _ => rfl
  exact ⟨⟨_, fd, _, g, T.m_Plan_busy, G, kb⟩, T.cl_Plan⟩
theorem cs_Plan_busy_1 (T : TxtT K w mg base) : MethOk P w K mg base (L2.CX P w) 4 (He.ga K "Plan") "busy" 1 [] (sp_Plan_busy K) (fun vs zs => pick .non [0, 1] (vs ++ zs)) := by
  obtain ⟨fd, F, G⟩ := ok_Plan_busy (P := P) (w := w) (base := base) T
  obtain ⟨g, kb⟩ := kb0 (ps := ["self", "place"]) F 2 [] [0, 1] fun kV doc pm an cdv ct us ws h1 h2 => match us, ws, h1, h2 with | [_, _], [], _, _ => rfl
  exact ⟨⟨_, fd, _, g, T.m_Plan_busy, G, kb⟩, T.cl_Plan⟩
theorem sc_law_steps : FnScope ["m", "many", "k"] ["m", "many"] (defScope (topS 42)) := ⟨rfl, rfl, rfl, by decide +kernel, rfl, by decide +kernel, by decide +kernel⟩
theorem ok_law_steps (T : TxtT K w mg base) : ∃ fd, FnP K "_law_steps" "_law_steps" (topS 42) [] (He.ga K "_law_steps") fd ∧ FnG P w K mg base CX0 4 (He.ga K "_law_steps") fd ["m", "many"] (sp_law_steps K) := by
  obtain ⟨fd, F⟩ := T.d_law_steps
  refine ⟨fd, F, fnG_of (sp := sp_law_steps K) F sc_law_steps (fun vs H Q E h => h.1) fun cdv A outer s H vs Q E hr hg h => ?_⟩
  have hu := hu_of hr
  have nd := sc_law_steps.nd
  exact ⟨t_law_steps K, PSs.nox ((pss_one (ps_ret (pe_lc (own := [("k", 2)]) rfl nd (pi_range1 (by rfl) T.z_range (pa_cons (pe_op op_addA pe_int (pe_ca (cs_law_draw_2 T) hr (by decide) hg rfl pass0 (pa_cons (pv 0) (pa_cons (pv 1) pa_nil)) pk_nil)) pa_nil)) (blkOk_by (by first | decide +kernel | kernel_rfl)) (fun _ _ _ _ _ => (pg_name (i := 2) nd rfl (Or.inl rfl))) (fun _ _ _ _ _ => pts_nil) (fun _ _ _ _ _ => (pe_ca (cs_law_step_1 T) hr (by decide) hg rfl pass0 (pa_cons (pv 0) pa_nil) pk_nil)))))), rd_law_steps vs H Q E h⟩
theorem cs_law_steps_2 (T : TxtT K w mg base) : CallOk P w K mg base CX0 4 "_law_steps" 2 [] (sp_law_steps K) (fun vs zs => pick .non [0, 1] (vs ++ zs)) := by
  obtain ⟨fd, F, G⟩ := ok_law_steps (P := P) (w := w) (base := base) T
  obtain ⟨g, kb⟩ := kb0 (ps := ["m", "many"]) F 2 [] [0, 1] fun kV doc pm an cdv ct us ws h1 h2 => match us, ws, h1, h2 with | [_, _], [], _, _ => rfl
  exact ⟨⟨fd, _, g, G, kb⟩, T.g_law_steps, F.kp⟩
theorem sc_law_plain_jobs : FnScope ["m", "styles", "many", "early", "numbers", "found", "k"] ["m", "styles", "many"] (defScope (topS 46)) := ⟨rfl, rfl, rfl, by decide +kernel, rfl, by decide +kernel, by decide +kernel⟩
theorem ok_law_plain_jobs (T : TxtT K w mg base) : ∃ fd, FnP K "_law_plain_jobs" "_law_plain_jobs" (topS 46) [] (He.ga K "_law_plain_jobs") fd ∧ FnG P w K mg base CX0 4 (He.ga K "_law_plain_jobs") fd ["m", "styles", "many"] (sp_law_plain_jobs K) := by
  obtain ⟨fd, F⟩ := T.d_law_plain_jobs
  refine ⟨fd, F, fnG_of (sp := sp_law_plain_jobs K) F sc_law_plain_jobs (fun vs H Q E h => h.1) fun cdv A outer s H vs Q E hr hg h => ?_⟩
  have hu := hu_of hr
  have nd := sc_law_plain_jobs.nd
  exact ⟨t_law_plain_jobs K, PSs.nox ((pss_cons (ps_set (i := 3) nd rfl (Or.inl rfl) (pe_ix ix_seq (pe_lst (pa_cons pe_int (pa_cons (pe_ca (cs_law_draw_2 T) hr (by decide) hg rfl pass0 (pa_cons (pv 0) (pa_cons pe_int pa_nil)) pk_nil) (pa_cons (pe_op op_sub (pe_op op_pow pe_int pe_int) pe_int) pa_nil)))) (pe_ca (cs_law_draw_2 T) hr (by decide) hg rfl pass0 (pa_cons (pv 0) (pa_cons pe_int pa_nil)) pk_nil) (fun _ _ => rfl)))
    (pss_cons (ps_set (i := 4) nd rfl (Or.inl rfl) (pe_ca (cs_law_numbers_2 T) hr (by decide) hg rfl pass0 (pa_cons (pv 0) (pa_cons (pv 2) pa_nil)) pk_nil))
    (pss_cons (ps_set (i := 5) nd rfl (Or.inl rfl) (pe_lst pa_nil))
    (pss_cons (ps_for PassesOwn.never rfl (pi_range1 (by rfl) T.z_range (pa_cons (pe_ca (cs_law_draw_2 T) hr (by decide) hg rfl pass0 (pa_cons (pv 0) (pa_cons (pe_op op_addA (pv 2) pe_int) pa_nil)) pk_nil) pa_nil)) (pg_name (i := 6) nd rfl (Or.inl rfl))
    (pss_one (ps_expr (pe_bm PySem.F.plainAttrs_list PySem.F.slot_list_append PySem.F.type_list_append mt_append (pv 5) (pa_cons (pe_ca (cs_law_plain_job_4 T) hr (by decide) hg rfl pass0 (pa_cons (pv 0) (pa_cons (pe_ix ix_seq (pv 4) (pv 6) (fun _ _ => rfl)) (pa_cons (pe_ix ix_seq (pv 1) (pe_ca (cs_law_draw_2 T) hr (by decide) hg rfl pass0 (pa_cons (pv 0) (pa_cons (pe_callB cl_len (by rfl) T.z_len PySem.boot_len (pa_cons (pv 1) pa_nil)) pa_nil)) pk_nil) (fun _ _ => rfl)) (pa_cons (pv 3) pa_nil)))) pk_nil) pa_nil)))))
    (pss_one (ps_ret (pv 5)))))))), rd_law_plain_jobs vs H Q E h⟩
theorem cs_law_plain_jobs_3 (T : TxtT K w mg base) : CallOk P w K mg base CX0 4 "_law_plain_jobs" 3 [] (sp_law_plain_jobs K) (fun vs zs => pick .non [0, 1, 2] (vs ++ zs)) := by
  obtain ⟨fd, F, G⟩ := ok_law_plain_jobs (P := P) (w := w) (base := base) T
  obtain ⟨g, kb⟩ := kb0 (ps := ["m", "styles", "many"]) F 3 [] [0, 1, 2] fun kV doc pm an cdv ct us ws h1 h2 => match us, ws, h1, h2 with | [_, _, _], [], _, _ => rfl
  exact ⟨⟨fd, _, g, G, kb⟩, T.g_law_plain_jobs, F.kp⟩
theorem sc_law_wanted : FnScope ["plains", "found", "plain", "k", "work", "few", "rest"] ["plains"] (defScope (topS 56)) := ⟨rfl, rfl, rfl, by decide +kernel, rfl, by decide +kernel, by decide +kernel⟩
theorem ok_law_wanted (T : TxtT K w mg base) : ∃ fd, FnP K "_law_wanted" "_law_wanted" (topS 56) [] (He.ga K "_law_wanted") fd ∧ FnG P w K mg base CX0 4 (He.ga K "_law_wanted") fd ["plains"] (sp_law_wanted K) := by
  obtain ⟨fd, F⟩ := T.d_law_wanted
  refine ⟨fd, F, fnG_of (sp := sp_law_wanted K) F sc_law_wanted (fun vs H Q E h => h.1) fun cdv A outer s H vs Q E hr hg h => ?_⟩
  have hu := hu_of hr
  have nd := sc_law_wanted.nd
  exact ⟨t_law_wanted K, PSs.nox ((pss_cons (ps_set (i := 1) nd rfl (Or.inl rfl) (pe_lst pa_nil))
    (pss_cons (ps_for PassesOwn.never rfl (pi_any (pe_callBK (ck_sortKey (cs_law_rank_1 T) hr (by decide) hg fun _ => pass0) (by rfl) T.z_sorted (by decide +kernel) (pa_cons (pv 0) pa_nil) (pk_cons (pe_gR T.g_law_rank) pk_nil))) (pg_name (i := 2) nd rfl (Or.inl rfl))
    (pss_one (ps_for PassesOwn.never rfl (pi_enumA (by rfl) T.z_enumerate (pa_cons (pe_ix ix_seq (pe_ix ix_seq (pv 2) pe_int (fun _ _ => rfl)) pe_int (fun _ _ => rfl)) pa_nil)) (pg_tup rfl (pgs_cons (pg_name (i := 3) nd rfl (Or.inl rfl)) (pgs_cons (pg_tup rfl (pgs_cons (pg_name (i := 4) nd rfl (Or.inl rfl)) (pgs_cons (pg_name (i := 5) nd rfl (Or.inl rfl)) (pgs_cons (pg_name (i := 6) nd rfl (Or.inl rfl)) pgs_nil)))) pgs_nil)))
    (pss_one (ps_expr (pe_bm PySem.F.plainAttrs_list PySem.F.slot_list_append PySem.F.type_list_append mt_append (pv 1) (pa_cons (pe_tup (pa_cons (pe_ix ix_seq (pv 2) pe_int (fun _ _ => rfl)) (pa_cons (pe_op op_addA (pv 3) pe_int) (pa_cons (pe_ifExp (pt_cmpR (op_eqA hr) (pv 4) pe_str (nobehind _ (by decide) (by decide))) pe_str pe_str) (pa_cons (pv 5) (pa_cons (pv 6) (pa_cons (pe_ix ix_seq (pv 2) pe_int (fun _ _ => rfl)) pa_nil))))))) pa_nil)))))))
    (pss_one (ps_ret (pv 1)))))), rd_law_wanted vs H Q E h⟩
theorem cs_law_wanted_1 (T : TxtT K w mg base) : CallOk P w K mg base CX0 4 "_law_wanted" 1 [] (sp_law_wanted K) (fun vs zs => pick .non [0] (vs ++ zs)) := by
  obtain ⟨fd, F, G⟩ := ok_law_wanted (P := P) (w := w) (base := base) T
  obtain ⟨g, kb⟩ := kb0 (ps := ["plains"]) F 1 [] [0] fun kV doc pm an cdv ct us ws h1 h2 => match us, ws, h1, h2 with | [_], [], _, _ => rfl
  exact ⟨⟨fd, _, g, G, kb⟩, T.g_law_wanted, F.kp⟩
theorem sc_by_rank : FnScope ["jobs"] ["jobs"] (defScope (topS 25)) := ⟨rfl, rfl, rfl, by decide +kernel, rfl, by decide +kernel, by decide +kernel⟩
theorem ok_by_rank (T : TxtT K w mg base) : ∃ fd, FnP K "by_rank" "by_rank" (topS 25) [] (He.ga K "by_rank") fd ∧ FnG P w K mg base CX0 5 (He.ga K "by_rank") fd ["jobs"] (sp_by_rank K) := by
  obtain ⟨fd, F⟩ := T.d_by_rank
  refine ⟨fd, F, fnG_of (sp := sp_by_rank K) F sc_by_rank (fun vs H Q E h => h.1) fun cdv A outer s H vs Q E hr hg h => ?_⟩
  have hu := hu_of hr
  have nd := sc_by_rank.nd
  exact ⟨t_by_rank K, PSs.nox ((pss_one (ps_ret (pe_callBK (ck_sortKey (cs_rank_of_1 T) hr (by decide) hg fun _ => pass0) (by rfl) T.z_sorted (by decide +kernel) (pa_cons (pv 0) pa_nil) (pk_cons (pe_gR T.g_rank_of) pk_nil))))), rd_by_rank vs H Q E h⟩
theorem cs_by_rank_1 (T : TxtT K w mg base) : CallOk P w K mg base CX0 5 "by_rank" 1 [] (sp_by_rank K) (fun vs zs => pick .non [0] (vs ++ zs)) := by
  obtain ⟨fd, F, G⟩ := ok_by_rank (P := P) (w := w) (base := base) T
  obtain ⟨g, kb⟩ := kb0 (ps := ["jobs"]) F 1 [] [0] fun kV doc pm an cdv ct us ws h1 h2 => match us, ws, h1, h2 with | [_], [], _, _ => rfl
  exact ⟨⟨fd, _, g, G, kb⟩, T.g_by_rank, F.kp⟩
theorem sc_law_styles : FnScope ["m", "w", "many", "found", "k"] ["m", "w", "many"] (defScope (topS 43)) := ⟨rfl, rfl, rfl, by decide +kernel, rfl, by decide +kernel, by decide +kernel⟩
theorem ok_law_styles (T : TxtT K w mg base) : ∃ fd, FnP K "_law_styles" "_law_styles" (topS 43) [] (He.ga K "_law_styles") fd ∧ FnG P w K mg base CX0 5 (He.ga K "_law_styles") fd ["m", "w", "many"] (sp_law_styles K) := by
  obtain ⟨fd, F⟩ := T.d_law_styles
  refine ⟨fd, F, fnG_of (sp := sp_law_styles K) F sc_law_styles (fun vs H Q E h => h.1) fun cdv A outer s H vs Q E hr hg h => ?_⟩
  have hu := hu_of hr
  have nd := sc_law_styles.nd
  exact ⟨t_law_styles K, PSs.nox ((pss_cons (ps_set (i := 3) nd rfl (Or.inl rfl) (pe_lst pa_nil))
    (pss_cons (ps_for PassesOwn.never rfl (pi_range1 (by rfl) T.z_range (pa_cons (pe_op op_addA pe_int (pe_ca (cs_law_draw_2 T) hr (by decide) hg rfl pass0 (pa_cons (pv 0) (pa_cons (pv 2) pa_nil)) pk_nil)) pa_nil)) (pg_name (i := 4) nd rfl (Or.inl rfl))
    (pss_one (ps_expr (pe_bm PySem.F.plainAttrs_list PySem.F.slot_list_append PySem.F.type_list_append mt_append (pv 3) (pa_cons (pe_tup (pa_cons (pe_ix ix_seq (pv 1) (pv 4) (fun _ _ => rfl)) (pa_cons (pe_ca (cs_law_steps_2 T) hr (by decide) hg rfl pass0 (pa_cons (pv 0) (pa_cons (pe_ix ix_seq (pe_lst (pa_cons pe_int (pa_cons pe_int (pa_cons pe_int pa_nil)))) (pe_ca (cs_law_draw_2 T) hr (by decide) hg rfl pass0 (pa_cons (pv 0) (pa_cons pe_int pa_nil)) pk_nil) (fun _ _ => rfl)) pa_nil)) pk_nil) pa_nil))) pa_nil)))))
    (pss_one (ps_ret (pv 3)))))), rd_law_styles vs H Q E h⟩
theorem cs_law_styles_3 (T : TxtT K w mg base) : CallOk P w K mg base CX0 5 "_law_styles" 3 [] (sp_law_styles K) (fun vs zs => pick .non [0, 1, 2] (vs ++ zs)) := by
  obtain ⟨fd, F, G⟩ := ok_law_styles (P := P) (w := w) (base := base) T
  obtain ⟨g, kb⟩ := kb0 (ps := ["m", "w", "many"]) F 3 [] [0, 1, 2] fun kV doc pm an cdv ct us ws h1 h2 => match us, ws, h1, h2 with | [_, _, _], [], _, _ => rfl
  exact ⟨⟨fd, _, g, G, kb⟩, T.g_law_styles, F.kp⟩
theorem sc_law_firm : FnScope ["rows", "pair", "plains", "wanted", "spots", "row", "want", "first"] ["rows", "pair", "plains"] (defScope (topS 59)) := ⟨rfl, rfl, rfl, by decide +kernel, rfl, by decide +kernel, by decide +kernel⟩
theorem ok_law_firm (T : TxtT K w mg base) : ∃ fd, FnP K "_law_firm" "_law_firm" (topS 59) [] (He.ga K "_law_firm") fd ∧ FnG P w K mg base CX0 5 (He.ga K "_law_firm") fd ["rows", "pair", "plains"] (sp_law_firm K) := by
  obtain ⟨fd, F⟩ := T.d_law_firm
  refine ⟨fd, F, fnG_of (sp := sp_law_firm K) F sc_law_firm (fun vs H Q E h => h.1) fun cdv A outer s H vs Q E hr hg h => ?_⟩
  have hu := hu_of hr
  have nd := sc_law_firm.nd
  exact ⟨t_law_firm K, PSs.nox ((pss_cons (ps_asg (pe_tup (pa_cons (pe_ca (cs_law_wanted_1 T) hr (by decide) hg rfl pass0 (pa_cons (pv 2) pa_nil) pk_nil) (pa_cons (pe_ca (cs_law_spots_1 T) hr (by decide) hg rfl pass0 (pa_cons (pv 1) pa_nil) pk_nil) pa_nil))) (pg_tup rfl (pgs_cons (pg_name (i := 3) nd rfl (Or.inl rfl)) (pgs_cons (pg_name (i := 4) nd rfl (Or.inr rfl)) pgs_nil))))
    (pss_cons (ps_if (PW.pt (pw_or (pt_not (pt_tr (pe_callB call_isi (by rfl) T.z_isinstance (by decide +kernel) (pa_cons (pv 0) (pa_cons (pe_bltn (v := .ty "list") (by rfl) T.z_list (by decide +kernel) rfl) pa_nil))))) (pw_or1 (pt_cmpR (op_neA hr) (pe_callB cl_len (by rfl) T.z_len PySem.boot_len (pa_cons (pv 0) pa_nil)) (pe_callB cl_len (by rfl) T.z_len PySem.boot_len (pa_cons (pv 3) pa_nil)) (nobehind _ (by decide) (by decide)))))) (pss_one (ps_ret pe_bl)) pss_nil)
    (pss_cons (ps_if (pt_not (pt_tr (pe_callB (cr_all rfl) (by rfl) T.z_all (by decide +kernel) (pa_cons (pe_lc (own := [("row", 5), ("want", 6)]) rfl nd (RZ.pi_zipA (by rfl) T.z_zip (pa_cons (pv 0) (pa_cons (pv 3) pa_nil))) (blkOk_by (by first | decide +kernel | kernel_rfl)) (fun _ _ _ _ _ => (pg_tup rfl (pgs_cons (pg_name (i := 5) nd rfl (Or.inl rfl)) (pgs_cons (pg_name (i := 6) nd rfl (Or.inl rfl)) pgs_nil)))) (fun _ _ _ _ _ => pts_nil) (fun _ _ _ _ _ => (pe_ca (cs_law_is_row_3 T) hr (by decide) hg rfl pass0 (pa_cons (pv 5) (pa_cons (pv 6) (pa_cons (pv 4) pa_nil))) pk_nil))) pa_nil)))) (pss_one (ps_ret pe_bl)) pss_nil)
    (pss_one (ps_ret (pe_callB (cr_all rfl) (by rfl) T.z_all (by decide +kernel) (pa_cons (pe_lc (own := [("row", 5), ("first", 7)]) rfl nd (RZ.pi_zipA (by rfl) T.z_zip (pa_cons (pv 0) (pa_cons (pe_ca (cs_law_readies_2 T) hr (by decide) hg rfl pass0 (pa_cons (pv 0) (pa_cons (pv 3) pa_nil)) pk_nil) pa_nil))) (blkOk_by (by first | decide +kernel | kernel_rfl)) (fun _ _ _ _ _ => (pg_tup rfl (pgs_cons (pg_name (i := 5) nd rfl (Or.inl rfl)) (pgs_cons (pg_name (i := 7) nd rfl (Or.inl rfl)) pgs_nil)))) (fun _ _ _ _ _ => pts_nil) (fun _ _ _ _ _ => (pe_cmpR op_ge (pe_ix ix_seq (pv 5) pe_int (fun _ _ => rfl)) (pv 7) (nobehind _ (by decide) (by decide))))) pa_nil)))))))), rd_law_firm vs H Q E h⟩
theorem cs_law_firm_3 (T : TxtT K w mg base) : CallOk P w K mg base CX0 5 "_law_firm" 3 [] (sp_law_firm K) (fun vs zs => pick .non [0, 1, 2] (vs ++ zs)) := by
  obtain ⟨fd, F, G⟩ := ok_law_firm (P := P) (w := w) (base := base) T
  obtain ⟨g, kb⟩ := kb0 (ps := ["rows", "pair", "plains"]) F 3 [] [0, 1, 2] fun kV doc pm an cdv ct us ws h1 h2 => match us, ws, h1, h2 with | [_, _, _], [], _, _ => rfl
  exact ⟨⟨fd, _, g, G, kb⟩, T.g_law_firm, F.kp⟩
theorem sc_law_free_right : FnScope ["m", "made", "rows", "spot", "there", "told", "want", "k", "few", "early", "row", "one"] ["m", "made", "rows", "spot"] (defScope (topS 67)) := ⟨rfl, rfl, rfl, by decide +kernel, rfl, by decide +kernel, by decide +kernel⟩
theorem ok_law_free_right (T : TxtT K w mg base) : ∃ fd, FnP K "_law_free_right" "_law_free_right" (topS 67) [] (He.ga K "_law_free_right") fd ∧ FnG P w K mg base CX0 5 (He.ga K "_law_free_right") fd ["m", "made", "rows", "spot"] (sp_law_free_right K) := by
  obtain ⟨fd, F⟩ := T.d_law_free_right
  refine ⟨fd, F, fnG_of (sp := sp_law_free_right K) F sc_law_free_right (fun vs H Q E h => h.1) fun cdv A outer s H vs Q E hr hg h => ?_⟩
  have hu := hu_of hr
  have nd := sc_law_free_right.nd
  exact ⟨t_law_free_right K, PSs.nox ((pss_cons (ps_setLc (i := 4) (own := [("row", 10)]) rfl nd rfl rfl (sw_true rfl rfl rfl (by decide +kernel)) (pi_any (pv 2)) (blkOk_by (by first | decide +kernel | kernel_rfl)) (fun _ _ _ _ _ => (pg_name (i := 10) nd rfl (Or.inl rfl))) (fun _ _ _ _ _ => (pts_one (pt_cmpR (op_eqA hr) (pe_ix ix_seq (pv 10) pe_int (fun _ _ => rfl)) (pv 3) (nobehind _ (by decide) (by decide))))) (fun _ _ _ _ _ => (pv 10)))
    (pss_cons (ps_set (i := 5) nd rfl (Or.inl rfl) (pe_lst (pa_cons (pe_me (cs_Plan_next_free_1 T) hr (by decide) hg passN (pv 1) (pa_cons (pv 3) pa_nil) pk_nil) (pa_cons (pe_me0 (cs_Plan_next_free_0_place T) hr (by decide) hg passN (pv 1) (pk_cons (pv 3) pk_nil)) (pa_cons (pe_me (cs_Plan_busy_1 T) hr (by decide) hg passN (pv 1) (pa_cons (pv 3) pa_nil) pk_nil) (pa_cons (pe_me0 (cs_Plan_busy_0_place T) hr (by decide) hg passN (pv 1) (pk_cons (pv 3) pk_nil)) pa_nil))))))
    (pss_cons (ps_set (i := 6) nd rfl (Or.inl rfl) (pe_op op_addA (pe_op op_mulA (pe_lst (pa_cons (pe_ca (cs_law_least_3 T) hr (by decide) hg rfl pass0 (pa_cons (pv 4) (pa_cons pe_int (pa_cons pe_int pa_nil))) pk_nil) pa_nil)) pe_int) (pe_op op_mulA (pe_lst (pa_cons (pe_callB (cr_sum rfl) (by rfl) T.z_sum (by decide +kernel) (pa_cons (pe_lc (own := [("row", 10)]) rfl nd (pi_any (pv 4)) (blkOk_by (by first | decide +kernel | kernel_rfl)) (fun _ _ _ _ _ => (pg_name (i := 10) nd rfl (Or.inl rfl))) (fun _ _ _ _ _ => pts_nil) (fun _ _ _ _ _ => (pe_op op_sub (pe_ix ix_seq (pv 10) pe_int (fun _ _ => rfl)) (pe_ix ix_seq (pv 10) pe_int (fun _ _ => rfl))))) pa_nil)) pa_nil)) pe_int)))
    (pss_cons (ps_for PassesOwn.never rfl (pi_range1 (by rfl) T.z_range (pa_cons pe_int pa_nil)) (pg_name (i := 7) nd rfl (Or.inl rfl))
    (pss_cons (ps_asg (pe_ca (cs_law_wish_2 T) hr (by decide) hg rfl pass0 (pa_cons (pv 0) (pa_cons (pv 2) pa_nil)) pk_nil) (pg_tup rfl (pgs_cons (pg_name (i := 8) nd rfl (Or.inl rfl)) (pgs_cons (pg_name (i := 9) nd rfl (Or.inl rfl)) pgs_nil))))
    (pss_cons (ps_set (i := 5) nd rfl (Or.inl rfl) (pe_op op_addA (pv 5) (pe_lst (pa_cons (pe_me (cs_Plan_next_free_3 T) hr (by decide) hg passN (pv 1) (pa_cons (pv 3) (pa_cons (pv 8) (pa_cons (pv 9) pa_nil))) pk_nil) (pa_cons (pe_me0 (cs_Plan_next_free_0_since_hours_place T) hr (by decide) hg passN (pv 1) (pk_cons (pv 9) (pk_cons (pv 8) (pk_cons (pv 3) pk_nil)))) pa_nil)))))
    (pss_cons (ps_set (i := 6) nd rfl (Or.inl rfl) (pe_op op_addA (pv 6) (pe_op op_mulA (pe_lst (pa_cons (pe_ca (cs_law_least_3 T) hr (by decide) hg rfl pass0 (pa_cons (pv 4) (pa_cons (pv 8) (pa_cons (pv 9) pa_nil))) pk_nil) pa_nil)) pe_int)))
    (pss_cons (ps_set (i := 5) nd rfl (Or.inl rfl) (pe_op op_addA (pv 5) (pe_lst (pa_cons (pe_me (cs_Plan_next_free_1_since T) hr (by decide) hg passN (pv 1) (pa_cons (pv 3) pa_nil) (pk_cons (pv 9) pk_nil)) (pa_cons (pe_me (cs_Plan_next_free_2 T) hr (by decide) hg passN (pv 1) (pa_cons (pv 3) (pa_cons (pv 8) pa_nil)) pk_nil) pa_nil)))))
    (pss_one (ps_set (i := 6) nd rfl (Or.inl rfl) (pe_op op_addA (pv 6) (pe_lst (pa_cons (pe_ca (cs_law_least_3 T) hr (by decide) hg rfl pass0 (pa_cons (pv 4) (pa_cons pe_int (pa_cons (pv 9) pa_nil))) pk_nil) (pa_cons (pe_ca (cs_law_least_3 T) hr (by decide) hg rfl pass0 (pa_cons (pv 4) (pa_cons (pv 8) (pa_cons pe_int pa_nil))) pk_nil) pa_nil)))))))))))
    (pss_one (ps_ret (pe_and (pe_cmpR (op_eqA hr) (pv 5) (pv 6) (nobehind _ (by decide) (by decide))) (pe_one (pe_callB (cr_all rfl) (by rfl) T.z_all (by decide +kernel) (pa_cons (pe_lc (own := [("one", 11)]) rfl nd (pi_any (pv 5)) (blkOk_by (by first | decide +kernel | kernel_rfl)) (fun _ _ _ _ _ => (pg_name (i := 11) nd rfl (Or.inl rfl))) (fun _ _ _ _ _ => pts_nil) (fun _ _ _ _ _ => (pe_and (pe_callB call_isi (by rfl) T.z_isinstance (by decide +kernel) (pa_cons (pv 11) (pa_cons (pe_bltn (v := .ty "int") (by rfl) T.z_int (by decide +kernel) rfl) pa_nil))) (pe_one (pe_not (pe_callB call_isi (by rfl) T.z_isinstance (by decide +kernel) (pa_cons (pv 11) (pa_cons (pe_bltn (v := .ty "bool") (by rfl) T.z_bool (by decide +kernel) rfl) pa_nil)))))))) pa_nil))))))))))), rd_law_free_right vs H Q E h⟩
theorem cs_law_free_right_4 (T : TxtT K w mg base) : CallOk P w K mg base CX0 5 "_law_free_right" 4 [] (sp_law_free_right K) (fun vs zs => pick .non [0, 1, 2, 3] (vs ++ zs)) := by
  obtain ⟨fd, F, G⟩ := ok_law_free_right (P := P) (w := w) (base := base) T
  obtain ⟨g, kb⟩ := kb0 (ps := ["m", "made", "rows", "spot"]) F 4 [] [0, 1, 2, 3] fun kV doc pm an cdv ct us ws h1 h2 => match us, ws, h1, h2 with | [_, _, _, _], [], _, _ => rfl
  exact ⟨⟨fd, _, g, G, kb⟩, T.g_law_free_right, F.kp⟩
theorem sc_Plan_init : FnScope ["self", "bench", "jobs", "place", "job"] ["self", "bench", "jobs"] (defScope (inClass (topS 33) 0)) := ⟨rfl, rfl, rfl, by decide +kernel, rfl, by decide +kernel, by decide +kernel⟩
theorem ok_Plan_init (T : TxtT K w mg base) : ∃ fd, FnP K "__init__" "Plan.__init__" (inClass (topS 33) 0) [.non] (He.ma K (He.ga K "Plan") "__init__") fd ∧ FnG P w K mg base CX0 6 (He.ma K (He.ga K "Plan") "__init__") fd ["self", "bench", "jobs"] (sp_Plan_init K) := by
  obtain ⟨fd, F⟩ := T.d_Plan_init
  refine ⟨fd, F, fnG_of (sp := sp_Plan_init K) F sc_Plan_init (fun vs H Q E h => h.1) fun cdv A outer s H vs Q E hr hg h => ?_⟩
  have hu := hu_of hr
  have nd := sc_Plan_init.nd
  exact ⟨t_Plan_init K, PSs.nox ((pss_cons (ps_if (pt_not (pt_tr (pe_callB call_isi (by rfl) T.z_isinstance (by decide +kernel) (pa_cons (pv 1) (pa_cons (pe_gR T.g_Bench) pa_nil))))) (pss_one ps_no) pss_nil)
    (pss_cons (ps_if (PW.pt (pw_and (pt_cmpR op_noNo (pv 2) pe_non (nobehind _ (by decide) (by decide))) (pw_and1 (pt_not (pt_tr (pe_ca (cs_are_jobs_1 T) hr (by decide) hg rfl pass0 (pa_cons (pv 2) pa_nil) pk_nil)))))) (pss_one ps_no) pss_nil)
    (pss_cons (ps_fld (pv 0) (pv 1) rfl)
    (pss_cons (ps_fld (pv 0) (pe_ifExp (pt_cmpR op_isNo (pv 2) pe_non (nobehind _ (by decide) (by decide))) (pe_lst pa_nil) (pe_ca (cs_by_rank_1 T) hr (by decide) hg rfl pass0 (pa_cons (pv 2) pa_nil) pk_nil)) rfl)
    (pss_cons (ps_fld (pv 0) pe_dnewK rfl)
    (pss_cons (ps_fld (pv 0) pe_dnewT rfl)
    (pss_cons (ps_for PassesOwn.never rfl (pi_any (pe_me0 (cs_Bench_places_0 T) hr (by decide) hg pass0 (pv 1) pk_nil)) (pg_name (i := 3) nd rfl (Or.inl rfl))
    (pss_one (ps_dput hu (pe_fld (pv 0) rfl) (pv 3) (pe_lst pa_nil) rfl)))
    (pss_cons (ps_fld (pv 0) (pe_lst pa_nil) rfl)
    (pss_one (ps_for PassesOwn.never rfl (pi_any (pe_fld (pv 0) rfl)) (pg_name (i := 4) nd rfl (Or.inl rfl))
    (pss_one (ps_expr (pe_me (cs_Plan_take_in_1 T) hr (by decide) hg pass0 (pv 0) (pa_cons (pv 4) pa_nil) pk_nil)))))))))))))), rd_Plan_init (planC T) (benchC T) T.od_Bench vs H Q E h⟩
theorem cs_Plan_init_2 (T : TxtT K w mg base) : MakeOk P w K mg base CX0 6 "Plan" 2 [] (sp_Plan_init K) (fun vs zs => pick .non [0, 1, 2] (vs ++ (zs ++ [.non]))) := by
  obtain ⟨fd, F, G⟩ := ok_Plan_init (P := P) (w := w) (base := base) T
  obtain ⟨g, kb⟩ := kb1 (ps := ["self", "bench", "jobs"]) F (by simp) 3 [] [0, 1, 2] fun T kV doc pm an cdv ct us ws its h1 h2 h3 => match us, ws, its, h1, h2, h3 with | [_, _, _], [], [_], _, _, _ => ⟨_, rfl, rfl⟩
  exact ⟨⟨_, fd, _, g, T.mk_Plan, G, kb⟩, T.g_Plan⟩
theorem cs_Plan_init_1 (T : TxtT K w mg base) : MakeOk P w K mg base CX0 6 "Plan" 1 [] (sp_Plan_init K) (fun vs zs => pick .non [0, 1, 2] (vs ++ (zs ++ [.non]))) := by
  obtain ⟨fd, F, G⟩ := ok_Plan_init (P := P) (w := w) (base := base) T
  obtain ⟨g, kb⟩ := kb1 (ps := ["self", "bench", "jobs"]) F (by simp) 2 [] [0, 1, 2] fun T kV doc pm an cdv ct us ws its h1 h2 h3 => match us, ws, its, h1, h2, h3 with | [_, _], [], [_], _, _, _ => ⟨_, rfl, rfl⟩
  exact ⟨⟨_, fd, _, g, T.mk_Plan, G, kb⟩, T.g_Plan⟩
theorem sc_law_style : FnScope ["plain"] ["plain"] (defScope (topS 47)) := ⟨rfl, rfl, rfl, by decide +kernel, rfl, by decide +kernel, by decide +kernel⟩
theorem ok_law_style (T : TxtT K w mg base) : ∃ fd, FnP K "_law_style" "_law_style" (topS 47) [] (He.ga K "_law_style") fd ∧ FnG P w K mg base CX0 6 (He.ga K "_law_style") fd ["plain"] (sp_law_style K) := by
  obtain ⟨fd, F⟩ := T.d_law_style
  refine ⟨fd, F, fnG_of (sp := sp_law_style K) F sc_law_style (fun vs H Q E h => h.1) fun cdv A outer s H vs Q E hr hg h => ?_⟩
  have hu := hu_of hr
  have nd := sc_law_style.nd
  exact ⟨t_law_style K, PSs.nox ((pss_one (ps_ret (pe_mk (cs_Style_init_2 T) hr (by decide) hg rfl pass0 (pa_cons (pe_ix ix_seq (pv 0) pe_int (fun _ _ => rfl)) (pa_cons (pe_callTy cl_listOf (by rfl) T.z_list (by decide +kernel) (pa_cons (pe_ix ix_seq (pv 0) pe_int (fun _ _ => rfl)) pa_nil)) pa_nil)) pk_nil)))), rd_law_style vs H Q E h⟩
theorem cs_law_style_1 (T : TxtT K w mg base) : CallOk P w K mg base CX0 6 "_law_style" 1 [] (sp_law_style K) (fun vs zs => pick .non [0] (vs ++ zs)) := by
  obtain ⟨fd, F, G⟩ := ok_law_style (P := P) (w := w) (base := base) T
  obtain ⟨g, kb⟩ := kb0 (ps := ["plain"]) F 1 [] [0] fun kV doc pm an cdv ct us ws h1 h2 => match us, ws, h1, h2 with | [_], [], _, _ => rfl
  exact ⟨⟨fd, _, g, G, kb⟩, T.g_law_style, F.kp⟩
theorem sc_law_case : FnScope ["m", "many", "w", "pair"] ["m", "many"] (defScope (topS 55)) := ⟨rfl, rfl, rfl, by decide +kernel, rfl, by decide +kernel, by decide +kernel⟩
theorem ok_law_case (T : TxtT K w mg base) : ∃ fd, FnP K "_law_case" "_law_case" (topS 55) [] (He.ga K "_law_case") fd ∧ FnG P w K mg base CX0 6 (He.ga K "_law_case") fd ["m", "many"] (sp_law_case K) := by
  obtain ⟨fd, F⟩ := T.d_law_case
  refine ⟨fd, F, fnG_of (sp := sp_law_case K) F sc_law_case (fun vs H Q E h => h.1) fun cdv A outer s H vs Q E hr hg h => ?_⟩
  have hu := hu_of hr
  have nd := sc_law_case.nd
  exact ⟨t_law_case K, PSs.nox ((pss_cons (ps_set (i := 2) nd rfl (Or.inl rfl) (pe_ca (cs_law_called_2 T) hr (by decide) hg rfl pass0 (pa_cons (pv 0) (pa_cons pe_int pa_nil)) pk_nil))
    (pss_cons (ps_set (i := 3) nd rfl (Or.inl rfl) (pe_ca (cs_law_plain_bench_1 T) hr (by decide) hg rfl pass0 (pa_cons (pv 0) pa_nil) pk_nil))
    (pss_one (ps_ret (pe_tup (pa_cons (pv 3) (pa_cons (pe_ca (cs_law_plain_jobs_3 T) hr (by decide) hg rfl pass0 (pa_cons (pv 0) (pa_cons (pe_ca (cs_law_styles_3 T) hr (by decide) hg rfl pass0 (pa_cons (pv 0) (pa_cons (pv 2) (pa_cons pe_int pa_nil))) pk_nil) (pa_cons (pv 1) pa_nil))) pk_nil) pa_nil)))))))), rd_law_case vs H Q E h⟩
theorem cs_law_case_2 (T : TxtT K w mg base) : CallOk P w K mg base CX0 6 "_law_case" 2 [] (sp_law_case K) (fun vs zs => pick .non [0, 1] (vs ++ zs)) := by
  obtain ⟨fd, F, G⟩ := ok_law_case (P := P) (w := w) (base := base) T
  obtain ⟨g, kb⟩ := kb0 (ps := ["m", "many"]) F 2 [] [0, 1] fun kV doc pm an cdv ct us ws h1 h2 => match us, ws, h1, h2 with | [_, _], [], _, _ => rfl
  exact ⟨⟨fd, _, g, G, kb⟩, T.g_law_case, F.kp⟩
theorem sc_law_job : FnScope ["plain"] ["plain"] (defScope (topS 48)) := ⟨rfl, rfl, rfl, by decide +kernel, rfl, by decide +kernel, by decide +kernel⟩
theorem ok_law_job (T : TxtT K w mg base) : ∃ fd, FnP K "_law_job" "_law_job" (topS 48) [] (He.ga K "_law_job") fd ∧ FnG P w K mg base CX0 7 (He.ga K "_law_job") fd ["plain"] (sp_law_job K) := by
  obtain ⟨fd, F⟩ := T.d_law_job
  refine ⟨fd, F, fnG_of (sp := sp_law_job K) F sc_law_job (fun vs H Q E h => h.1) fun cdv A outer s H vs Q E hr hg h => ?_⟩
  have hu := hu_of hr
  have nd := sc_law_job.nd
  exact ⟨t_law_job K, PSs.nox ((pss_one (ps_ret (pe_mk (cs_Job_init_2_brought_due_haste T) hr (by decide) hg rfl pass0 (pa_cons (pe_ix ix_seq (pv 0) pe_int (fun _ _ => rfl)) (pa_cons (pe_ca (cs_law_style_1 T) hr (by decide) hg rfl pass0 (pa_cons (pe_ix ix_seq (pv 0) pe_int (fun _ _ => rfl)) pa_nil) pk_nil) pa_nil)) (pk_cons (pe_ix ix_seq (pv 0) pe_int (fun _ _ => rfl)) (pk_cons (pe_ix ix_seq (pv 0) pe_int (fun _ _ => rfl)) (pk_cons (pe_ix ix_seq (pv 0) pe_int (fun _ _ => rfl)) pk_nil))))))), rd_law_job vs H Q E h⟩
theorem cs_law_job_1 (T : TxtT K w mg base) : CallOk P w K mg base CX0 7 "_law_job" 1 [] (sp_law_job K) (fun vs zs => pick .non [0] (vs ++ zs)) := by
  obtain ⟨fd, F, G⟩ := ok_law_job (P := P) (w := w) (base := base) T
  obtain ⟨g, kb⟩ := kb0 (ps := ["plain"]) F 1 [] [0] fun kV doc pm an cdv ct us ws h1 h2 => match us, ws, h1, h2 with | [_], [], _, _ => rfl
  exact ⟨⟨fd, _, g, G, kb⟩, T.g_law_job, F.kp⟩
theorem sc_Plan_with_job : FnScope ["self", "job"] ["self", "job"] (defScope (inClass (topS 33) 18)) := ⟨rfl, rfl, rfl, by decide +kernel, rfl, by decide +kernel, by decide +kernel⟩
theorem ok_Plan_with_job (T : TxtT K w mg base) : ∃ fd, FnP K "with_job" "Plan.with_job" (inClass (topS 33) 18) [] (He.ma K (He.ga K "Plan") "with_job") fd ∧ FnG P w K mg base CX0 8 (He.ma K (He.ga K "Plan") "with_job") fd ["self", "job"] (sp_Plan_with_job K) := by
  obtain ⟨fd, F⟩ := T.d_Plan_with_job
  refine ⟨fd, F, fnG_of (sp := sp_Plan_with_job K) F sc_Plan_with_job (fun vs H Q E h => h.1) fun cdv A outer s H vs Q E hr hg h => ?_⟩
  have hu := hu_of hr
  have nd := sc_Plan_with_job.nd
  exact ⟨t_Plan_with_job K, PSs.nox ((pss_cons (ps_if (pt_not (pt_tr (pe_callB call_isi (by rfl) T.z_isinstance (by decide +kernel) (pa_cons (pv 1) (pa_cons (pe_gR T.g_Job) pa_nil))))) (pss_one ps_no) pss_nil)
    (pss_cons (ps_if (pt_cmp (pc_din hu (pe_me0 (cs_Job_numbered_0 T) hr (by decide) hg pass0 (pv 1) pk_nil) (pe_fld (pv 0) rfl))) (pss_one ps_no) pss_nil)
    (pss_cons (ps_if (pt_cmpR (op_eqA hr) (pe_callB cl_len (by rfl) T.z_len PySem.boot_len (pa_cons (pe_fld (pv 0) rfl) pa_nil)) (pe_gI T.c_MOST_JOBS) (nobehind _ (by decide) (by decide))) (pss_one ps_no) pss_nil)
    (pss_one (ps_ret (pe_mk (cs_Plan_init_2 T) hr (by decide) hg rfl pass0 (pa_cons (pe_fld (pv 0) rfl) (pa_cons (pe_op op_addA (pe_fld (pv 0) rfl) (pe_lst (pa_cons (pv 1) pa_nil))) pa_nil)) pk_nil))))))), rd_Plan_with_job (planC T) (jobC T) T.od_Job vs H Q E h⟩
theorem cs_Plan_with_job_1 (T : TxtT K w mg base) : MethOk P w K mg base CX0 8 (He.ga K "Plan") "with_job" 1 [] (sp_Plan_with_job K) (fun vs zs => pick .non [0, 1] (vs ++ zs)) := by
  obtain ⟨fd, F, G⟩ := ok_Plan_with_job (P := P) (w := w) (base := base) T
  obtain ⟨g, kb⟩ := kb0 (ps := ["self", "job"]) F 2 [] [0, 1] fun kV doc pm an cdv ct us ws h1 h2 => match us, ws, h1, h2 with | [_, _], [], _, _ => rfl
  exact ⟨⟨_, fd, _, g, T.m_Plan_with_job, G, kb⟩, T.cl_Plan⟩
theorem sc_law_plan : FnScope ["pair", "plains", "plain"] ["pair", "plains"] (defScope (topS 50)) := ⟨rfl, rfl, rfl, by decide +kernel, rfl, by decide +kernel, by decide +kernel⟩
theorem ok_law_plan (T : TxtT K w mg base) : ∃ fd, FnP K "_law_plan" "_law_plan" (topS 50) [] (He.ga K "_law_plan") fd ∧ FnG P w K mg base CX0 8 (He.ga K "_law_plan") fd ["pair", "plains"] (sp_law_plan K) := by
  obtain ⟨fd, F⟩ := T.d_law_plan
  refine ⟨fd, F, fnG_of (sp := sp_law_plan K) F sc_law_plan (fun vs H Q E h => h.1) fun cdv A outer s H vs Q E hr hg h => ?_⟩
  have hu := hu_of hr
  have nd := sc_law_plan.nd
  exact ⟨t_law_plan K, PSs.nox ((pss_one (ps_ret (pe_mk (cs_Plan_init_2 T) hr (by decide) hg rfl pass0 (pa_cons (pe_mk0 (cs_Bench_init_0_hands_presses T) hr (by decide) hg rfl pass0 (pk_cons (pe_ix ix_seq (pv 0) pe_int (fun _ _ => rfl)) (pk_cons (pe_ix ix_seq (pv 0) pe_int (fun _ _ => rfl)) pk_nil))) (pa_cons (pe_lc (own := [("plain", 2)]) rfl nd (pi_any (pv 1)) (blkOk_by (by first | decide +kernel | kernel_rfl)) (fun _ _ _ _ _ => (pg_name (i := 2) nd rfl (Or.inl rfl))) (fun _ _ _ _ _ => pts_nil) (fun _ _ _ _ _ => (pe_ca (cs_law_job_1 T) hr (by decide) hg rfl pass0 (pa_cons (pv 2) pa_nil) pk_nil))) pa_nil)) pk_nil)))), rd_law_plan vs H Q E h⟩
theorem cs_law_plan_2 (T : TxtT K w mg base) : CallOk P w K mg base CX0 8 "_law_plan" 2 [] (sp_law_plan K) (fun vs zs => pick .non [0, 1] (vs ++ zs)) := by
  obtain ⟨fd, F, G⟩ := ok_law_plan (P := P) (w := w) (base := base) T
  obtain ⟨g, kb⟩ := kb0 (ps := ["pair", "plains"]) F 2 [] [0, 1] fun kV doc pm an cdv ct us ws h1 h2 => match us, ws, h1, h2 with | [_, _], [], _, _ => rfl
  exact ⟨⟨fd, _, g, G, kb⟩, T.g_law_plan, F.kp⟩
theorem sc_law_odd : FnScope ["m", "some"] ["m"] (defScope (topS 62)) := ⟨rfl, rfl, rfl, by decide +kernel, rfl, by decide +kernel, by decide +kernel⟩
theorem ok_law_odd (T : TxtT K w mg base) : ∃ fd, FnP K "_law_odd" "_law_odd" (topS 62) [] (He.ga K "_law_odd") fd ∧ FnG P w K mg base CX0 8 (He.ga K "_law_odd") fd ["m"] (sp_law_odd K) := by
  obtain ⟨fd, F⟩ := T.d_law_odd
  refine ⟨fd, F, fnG_of (sp := sp_law_odd K) F sc_law_odd (fun vs H Q E h => h.1) fun cdv A outer s H vs Q E hr hg h => ?_⟩
  have hu := hu_of hr
  have nd := sc_law_odd.nd
  exact ⟨t_law_odd K, PSs.nox ((pss_cons (ps_set (i := 1) nd rfl (Or.inl rfl) (pe_lst (pa_cons pe_non (pa_cons pe_bl (pa_cons pe_bl (pa_cons pe_int (pa_cons pe_int (pa_cons pe_int (pa_cons pe_int (pa_cons (pe_un un_neg pe_int) (pa_cons pe_str (pa_cons pe_str (pa_cons pe_str (pa_cons pe_str (pa_cons pe_str (pa_cons pe_str (pa_cons (pe_tup pa_nil) (pa_cons (pe_lst pa_nil) (pa_cons pe_dnewK (pa_cons (pe_tup (pa_cons pe_int pa_nil)) (pa_cons (pe_tup (pa_cons pe_str (pa_cons pe_int pa_nil))) pa_nil)))))))))))))))))))))
    (pss_cons (ps_set (i := 1) nd rfl (Or.inl rfl) (pe_op op_addA (pv 1) (pe_lst (pa_cons (pe_op op_pow pe_int pe_int) (pa_cons (pe_lst (pa_cons pe_str (pa_cons pe_int pa_nil))) (pa_cons (pe_tup (pa_cons pe_str (pa_cons pe_bl pa_nil))) (pa_cons (pe_tup (pa_cons pe_str (pa_cons pe_int pa_nil))) (pa_cons (pe_tup (pa_cons pe_str (pa_cons pe_int pa_nil))) (pa_cons (pe_mk0 (cs_Bench_init_0 T) hr (by decide) hg rfl pass0 pk_nil) (pa_cons (pe_mk (cs_Plan_init_1 T) hr (by decide) hg rfl pass0 (pa_cons (pe_mk0 (cs_Bench_init_0 T) hr (by decide) hg rfl pass0 pk_nil) pa_nil) pk_nil) pa_nil))))))))))
    (pss_one (ps_ret (pe_ix ix_seq (pv 1) (pe_ca (cs_law_draw_2 T) hr (by decide) hg rfl pass0 (pa_cons (pv 0) (pa_cons (pe_callB cl_len (by rfl) T.z_len PySem.boot_len (pa_cons (pv 1) pa_nil)) pa_nil)) pk_nil) (fun _ _ => rfl))))))), rd_law_odd (planC T) T.od_Plan (benchC T) T.od_Bench vs H Q E h⟩
theorem cs_law_odd_1 (T : TxtT K w mg base) : CallOk P w K mg base CX0 8 "_law_odd" 1 [] (sp_law_odd K) (fun vs zs => pick .non [0] (vs ++ zs)) := by
  obtain ⟨fd, F, G⟩ := ok_law_odd (P := P) (w := w) (base := base) T
  obtain ⟨g, kb⟩ := kb0 (ps := ["m"]) F 1 [] [0] fun kV doc pm an cdv ct us ws h1 h2 => match us, ws, h1, h2 with | [_], [], _, _ => rfl
  exact ⟨⟨fd, _, g, G, kb⟩, T.g_law_odd, F.kp⟩
theorem sc_law_most_right : FnScope ["made", "spot", "few"] [] (defScope (topS 71)) := ⟨rfl, rfl, rfl, by decide +kernel, rfl, by decide +kernel, by decide +kernel⟩
theorem ok_law_most_right (T : TxtT K w mg base) : ∃ fd, FnP K "_law_most_right" "_law_most_right" (topS 71) [] (He.ga K "_law_most_right") fd ∧ FnG P w K mg base CX0 8 (He.ga K "_law_most_right") fd [] (sp_law_most_right K) := by
  obtain ⟨fd, F⟩ := T.d_law_most_right
  refine ⟨fd, F, fnG_of (sp := sp_law_most_right K) F sc_law_most_right (fun vs H Q E h => h.1) fun cdv A outer s H vs Q E hr hg h => ?_⟩
  have hu := hu_of hr
  have nd := sc_law_most_right.nd
  exact ⟨t_law_most_right K, PSs.nox ((pss_cons (ps_asg (pe_tup (pa_cons (pe_mk (cs_Plan_init_2 T) hr (by decide) hg rfl pass0 (pa_cons (pe_mk0 (cs_Bench_init_0 T) hr (by decide) hg rfl pass0 pk_nil) (pa_cons (pe_lst (pa_cons (pe_mk (cs_Job_init_2_brought T) hr (by decide) hg rfl pass0 (pa_cons pe_int (pa_cons (pe_mk (cs_Style_init_2 T) hr (by decide) hg rfl pass0 (pa_cons pe_str (pa_cons (pe_lst (pa_cons (pe_tup (pa_cons pe_str (pa_cons pe_int (pa_cons pe_int pa_nil)))) pa_nil)) pa_nil)) pk_nil) pa_nil)) (pk_cons pe_int pk_nil)) pa_nil)) pa_nil)) pk_nil) (pa_cons (pe_tup (pa_cons pe_str (pa_cons pe_int pa_nil))) pa_nil))) (pg_tup rfl (pgs_cons (pg_name (i := 0) nd rfl (Or.inr rfl)) (pgs_cons (pg_name (i := 1) nd rfl (Or.inr rfl)) pgs_nil))))
    (pss_cons (ps_if (pt_cmpR (op_neA hr) (pe_lc (own := [("few", 2)]) rfl nd (pi_any (pe_tup (pa_cons pe_int (pa_cons pe_int (pa_cons pe_int (pa_cons (pe_op op_pow pe_int pe_int) pa_nil)))))) (blkOk_by (by first | decide +kernel | kernel_rfl)) (fun _ _ _ _ _ => (pg_name (i := 2) nd rfl (Or.inl rfl))) (fun _ _ _ _ _ => pts_nil) (fun _ _ _ _ _ => (pe_me (cs_Plan_next_free_2 T) hr (by decide) hg passN (pv 0) (pa_cons (pv 1) (pa_cons (pv 2) pa_nil)) pk_nil))) (pe_lst (pa_cons pe_int (pa_cons pe_int (pa_cons pe_int (pa_cons pe_int pa_nil))))) (nobehind _ (by decide) (by decide))) (pss_one (ps_ret pe_bl)) pss_nil)
    (pss_one (ps_ret (pe_and (pe_cmpR (op_eqA hr) (pe_me (cs_Plan_next_free_3 T) hr (by decide) hg passN (pv 0) (pa_cons (pv 1) (pa_cons (pe_op op_pow pe_int pe_int) (pa_cons (pe_op op_pow pe_int pe_int) pa_nil))) pk_nil) (pe_op op_pow pe_int pe_int) (nobehind _ (by decide) (by decide))) (pe_one (pe_cmpR (op_eqA hr) (pe_me (cs_Plan_next_free_2 T) hr (by decide) hg passN (pv 0) (pa_cons (pe_tup (pa_cons pe_str (pa_cons pe_int pa_nil))) (pa_cons (pe_op op_pow pe_int pe_int) pa_nil)) pk_nil) pe_int (nobehind _ (by decide) (by decide)))))))))), rd_law_most_right vs H Q E h⟩
theorem cs_law_most_right_0 (T : TxtT K w mg base) : CallOk P w K mg base CX0 8 "_law_most_right" 0 [] (sp_law_most_right K) (fun vs zs => pick .non [] (vs ++ zs)) := by
  obtain ⟨fd, F, G⟩ := ok_law_most_right (P := P) (w := w) (base := base) T
  obtain ⟨g, kb⟩ := kb0 (ps := []) F 0 [] [] fun kV doc pm an cdv ct us ws h1 h2 => match us, ws, h1, h2 with | [], [], _, _ => rfl
  exact ⟨⟨fd, _, g, G, kb⟩, T.g_law_most_right, F.kp⟩
theorem sc_law_last_right : FnScope ["m", "pair", "made", "rows", "figures", "few", "early", "work", "figure", "more", "spots", "best", "spot", "mark", "one", "row"] ["m", "pair", "made", "rows", "figures"] (defScope (topS 68)) := ⟨rfl, rfl, rfl, by decide +kernel, rfl, by decide +kernel, by decide +kernel⟩
theorem ok_law_last_right (T : TxtT K w mg base) : ∃ fd, FnP K "_law_last_right" "_law_last_right" (topS 68) [] (He.ga K "_law_last_right") fd ∧ FnG P w K mg base CX0 9 (He.ga K "_law_last_right") fd ["m", "pair", "made", "rows", "figures"] (sp_law_last_right K) := by
  obtain ⟨fd, F⟩ := T.d_law_last_right
  refine ⟨fd, F, fnG_of (sp := sp_law_last_right K) F sc_law_last_right (fun vs H Q E h => h.1) fun cdv A outer s H vs Q E hr hg h => ?_⟩
  have hu := hu_of hr
  have nd := sc_law_last_right.nd
  exact ⟨t_law_last_right K, PSs.nox ((pss_cons (ps_asg (pe_ca (cs_law_wish_2 T) hr (by decide) hg rfl pass0 (pa_cons (pv 0) (pa_cons (pv 3) pa_nil)) pk_nil) (pg_tup rfl (pgs_cons (pg_name (i := 5) nd rfl (Or.inl rfl)) (pgs_cons (pg_name (i := 6) nd rfl (Or.inl rfl)) pgs_nil))))
    (pss_cons (ps_asg (pe_tup (pa_cons (pe_op op_addA (pe_op op_mod (pe_op op_sub (pv 5) pe_int) pe_int) pe_int) (pa_cons (pe_ix ix_seq (pe_lst (pa_cons pe_str (pa_cons pe_str (pa_cons pe_str (pa_cons pe_str (pa_cons pe_str pa_nil)))))) (pe_ca (cs_law_draw_2 T) hr (by decide) hg rfl pass0 (pa_cons (pv 0) (pa_cons pe_int pa_nil)) pk_nil) (fun _ _ => rfl)) pa_nil))) (pg_tup rfl (pgs_cons (pg_name (i := 5) nd rfl (Or.inl rfl)) (pgs_cons (pg_name (i := 7) nd rfl (Or.inr rfl)) pgs_nil))))
    (pss_cons (ps_set (i := 8) nd rfl (Or.inl rfl) (pe_ix ix_seq (pe_lc (own := [("one", 14)]) rfl nd (pi_range2 (by rfl) T.z_range (pa_cons pe_int (pa_cons pe_int pa_nil))) (blkOk_by (by first | decide +kernel | kernel_rfl)) (fun _ _ _ _ _ => (pg_name (i := 14) nd rfl (Or.inl rfl))) (fun _ _ _ _ _ => (pts_one (pt_cmpR op_notInA (pv 14) (pv 4) rfl))) (fun _ _ _ _ _ => (pv 14))) pe_int (fun _ _ => rfl)))
    (pss_cons (ps_set (i := 9) nd rfl (Or.inl rfl) (pe_me (cs_Plan_with_job_1 T) hr (by decide) hg pass0 (pv 2) (pa_cons (pe_mk (cs_Job_init_2_brought_due T) hr (by decide) hg rfl pass0 (pa_cons (pv 8) (pa_cons (pe_mk (cs_Style_init_2 T) hr (by decide) hg rfl pass0 (pa_cons pe_str (pa_cons (pe_lst (pa_cons (pe_tup (pa_cons (pv 7) (pa_cons (pv 5) (pa_cons pe_int pa_nil)))) pa_nil)) pa_nil)) pk_nil) pa_nil)) (pk_cons (pv 6) (pk_cons (pe_op op_pow pe_int pe_int) pk_nil))) pa_nil) pk_nil))
    (pss_cons (ps_setLc (i := 10) (own := [("spot", 12)]) rfl nd rfl rfl (sw_true rfl rfl rfl (by decide +kernel)) (pi_any (pe_ca (cs_law_spots_1 T) hr (by decide) hg rfl pass0 (pa_cons (pv 1) pa_nil) pk_nil)) (blkOk_by (by first | decide +kernel | kernel_rfl)) (fun _ _ _ _ _ => (pg_name (i := 12) nd rfl (Or.inl rfl))) (fun _ _ _ _ _ => (pts_one (pt_cmpR (op_eqA hr) (pe_cmpR (op_eqA hr) (pe_ix ix_seq (pv 12) pe_int (fun _ _ => rfl)) pe_str (nobehind _ (by decide) (by decide))) (pe_cmpR (op_eqA hr) (pv 7) pe_str (nobehind _ (by decide) (by decide))) (nobehind _ (by decide) (by decide))))) (fun _ _ _ _ _ => (pv 12)))
    (pss_cons (ps_set (i := 11) nd rfl (Or.inl rfl) pe_non)
    (pss_cons (ps_for PassesOwn.never rfl (pi_any (pv 10)) (pg_name (i := 12) nd rfl (Or.inr rfl))
    (pss_cons (ps_set (i := 13) nd rfl (Or.inl rfl) (pe_ca (cs_law_least_3 T) hr (by decide) hg rfl pass0 (pa_cons (pe_lc (own := [("row", 15)]) rfl nd (pi_any (pv 3)) (blkOk_by (by first | decide +kernel | kernel_rfl)) (fun _ _ _ _ _ => (pg_name (i := 15) nd rfl (Or.inl rfl))) (fun _ _ _ _ _ => (pts_one (pt_cmpR (op_eqA hr) (pe_ix ix_seq (pv 15) pe_int (fun _ _ => rfl)) (pv 12) (nobehind _ (by decide) (by decide))))) (fun _ _ _ _ _ => (pv 15))) (pa_cons (pv 5) (pa_cons (pv 6) pa_nil))) pk_nil))
    (pss_one (ps_if (PW.pt (pw_or (pt_cmpR op_isNo (pv 11) pe_non (nobehind _ (by decide) (by decide))) (pw_or1 (pt_cmpR op_lt (pv 13) (pe_ix ix_seq (pv 11) pe_int (fun _ _ => rfl)) (nobehind _ (by decide) (by decide)))))) (pss_one (ps_set (i := 11) nd rfl (Or.inl rfl) (pe_tup (pa_cons (pv 12) (pa_cons (pv 13) pa_nil))))) pss_nil))))
    (pss_one (ps_ret (pe_cmpR (op_eqA hr) (pe_me0 (cs_Plan_rows_0 T) hr (by decide) hg pass0 (pv 9) pk_nil) (pe_op op_addA (pv 3) (pe_lst (pa_cons (pe_tup (pa_cons (pv 8) (pa_cons pe_int (pa_cons (pe_ix ix_seq (pv 11) pe_int (fun _ _ => rfl)) (pa_cons (pe_ix ix_seq (pv 11) pe_int (fun _ _ => rfl)) (pa_cons (pe_op op_addA (pe_ix ix_seq (pv 11) pe_int (fun _ _ => rfl)) (pv 5)) pa_nil)))))) pa_nil))) (nobehind _ (by decide) (by decide))))))))))))), rd_law_last_right vs H Q E h⟩
theorem cs_law_last_right_5 (T : TxtT K w mg base) : CallOk P w K mg base CX0 9 "_law_last_right" 5 [] (sp_law_last_right K) (fun vs zs => pick .non [0, 1, 2, 3, 4] (vs ++ zs)) := by
  obtain ⟨fd, F, G⟩ := ok_law_last_right (P := P) (w := w) (base := base) T
  obtain ⟨g, kb⟩ := kb0 (ps := ["m", "pair", "made", "rows", "figures"]) F 5 [] [0, 1, 2, 3, 4] fun kV doc pm an cdv ct us ws h1 h2 => match us, ws, h1, h2 with | [_, _, _, _, _], [], _, _ => rfl
  exact ⟨⟨fd, _, g, G, kb⟩, T.g_law_last_right, F.kp⟩
theorem sc_law_refused : FnScope ["m", "made", "pair", "thing", "found", "one"] ["m", "made", "pair"] (defScope (topS 70)) := ⟨rfl, rfl, rfl, by decide +kernel, rfl, by decide +kernel, by decide +kernel⟩
theorem ok_law_refused (T : TxtT K w mg base) : ∃ fd, FnP K "_law_refused" "_law_refused" (topS 70) [] (He.ga K "_law_refused") fd ∧ FnG P w K mg base CX0 9 (He.ga K "_law_refused") fd ["m", "made", "pair"] (sp_law_refused K) := by
  obtain ⟨fd, F⟩ := T.d_law_refused
  refine ⟨fd, F, fnG_ofC (p := (("_law_refused" : Str), (none : Option Str))) (sp := sp_law_refused K) F sc_law_refused (fun vs H Q E h => h.1) fun A outer s H vs Q E hr hg h => ?_⟩
  have hu := hu_of hr
  have nd := sc_law_refused.nd
  exact ⟨t_law_refused K, PSs.nox ((pss_cons (ps_for PassesOwn.never rfl (pi_any (pe_tup (pa_cons (pe_ca (cs_law_odd_1 T) hr (by decide) hg rfl pass0 (pa_cons (pv 0) pa_nil) pk_nil) (pa_cons (pe_tup (pa_cons pe_str (pa_cons (pe_op op_addA (pe_ix ix_seq (pv 2) pe_int (fun _ _ => rfl)) pe_int) pa_nil))) (pa_cons (pe_tup (pa_cons pe_str (pa_cons pe_int pa_nil))) (pa_cons (pe_tup (pa_cons pe_str (pa_cons pe_bl pa_nil))) (pa_cons pe_str (pa_cons (pe_ca (cs_law_odd_1 T) hr (by decide) hg rfl pass0 (pa_cons (pv 0) pa_nil) pk_nil) (pa_cons pe_non pa_nil))))))))) (pg_name (i := 3) nd rfl (Or.inr rfl))
    (pss_one (ps_if (pt_not (pt_tr (pe_ca (cs_law_is_spot_2 T) hr (by decide) hg rfl pass0 (pa_cons (pv 3) (pa_cons (pv 2) pa_nil)) pk_nil))) (pss_cons (ps_set (i := 4) nd rfl (Or.inl rfl) (pe_lst (pa_cons (pe_lamG rfl T.g_law_told (T.d_law_told).choose_spec (told_binds T) sc_law_told rfl (Or.inl rfl) hg (fun cdg => gives_law_told T hg (by decide) cdg) (T.t_law_refused) rfl hr (LamX.lamS_by (by first | decide +kernel | kernel_rfl | rfl)) rfl (fun _ _ _ _ _ => rfl) (fun A outer s H E f c' hr hg => (pe_me (cs_Plan_next_free_2_since T) hr (by decide) hg (passes_call (takes_of rfl rfl rfl rfl) fun _ _ _ _ h => h) (pv 1) (pa_cons (pv 3) (pa_cons pe_int pa_nil)) (pk_cons (pe_un un_neg pe_int) pk_nil)))) pa_nil)))
    (pss_cons (ps_expr (pe_bm PySem.F.plainAttrs_list PySem.F.slot_list_append PySem.F.type_list_append mt_append (pv 4) (pa_cons (pe_lamG rfl T.g_law_told (T.d_law_told).choose_spec (told_binds T) sc_law_told rfl (Or.inl rfl) hg (fun cdg => gives_law_told T hg (by decide) cdg) (T.t_law_refused) rfl hr (LamX.lamS_by (by first | decide +kernel | kernel_rfl | rfl)) rfl (fun _ _ _ _ _ => rfl) (fun A outer s H E f c' hr hg => (pe_me (cs_Plan_busy_1 T) hr (by decide) hg (passes_call (takes_of rfl rfl rfl rfl) fun _ _ _ _ h => h) (pv 1) (pa_cons (pv 3) pa_nil) pk_nil))) pa_nil)))
    (pss_one (ps_if (pt_not (pt_tr (pe_callB (cr_all rfl) (by rfl) T.z_all (by decide +kernel) (pa_cons (pe_lc (own := [("one", 5)]) rfl nd (pi_any (pv 4)) (blkOk_by (by first | decide +kernel | kernel_rfl)) (fun _ _ _ _ _ => (pg_name (i := 5) nd rfl (Or.inl rfl))) (fun _ _ _ _ _ => pts_nil) (fun _ _ _ _ _ => (pe_ca (cs_law_no_3 T) hr (by decide) hg rfl pass0 (pa_cons (pv 5) (pa_cons pe_str (pa_cons (pv 3) pa_nil))) pk_nil))) pa_nil)))) (pss_one (ps_ret pe_bl)) pss_nil)))) pss_nil)))
    (pss_cons (ps_for PassesOwn.never rfl (pi_any (pe_ca0 (cs_law_far_0 T) hr (by decide) hg rfl pass0 pk_nil)) (pg_name (i := 3) nd rfl (Or.inr rfl))
    (pss_cons (ps_if (pt_cmpR (op_neA hr) (pe_slice sl_any (pe_lamG rfl T.g_law_told (T.d_law_told).choose_spec (told_binds T) sc_law_told rfl (Or.inl rfl) hg (fun cdg => gives_law_told T hg (by decide) cdg) (T.t_law_refused) rfl hr (LamX.lamS_by (by first | decide +kernel | kernel_rfl | rfl)) rfl (fun _ _ _ _ _ => rfl) (fun A outer s H E f c' hr hg => (pe_me (cs_Plan_busy_1 T) hr (by decide) hg (passes_call (takes_of rfl rfl rfl rfl) fun _ _ _ _ h => h) (pv 1) (pa_cons (pv 3) pa_nil) pk_nil))) po_none (po_some pe_int)) (pe_tup (pa_cons pe_str (pa_cons pe_str pa_nil))) (nobehind _ (by decide) (by decide))) (pss_one (ps_ret pe_bl)) pss_nil)
    (pss_one (ps_if (pt_cmpR (op_neA hr) (pe_lamG rfl T.g_law_told (T.d_law_told).choose_spec (told_binds T) sc_law_told rfl (Or.inl rfl) hg (fun cdg => gives_law_told T hg (by decide) cdg) (T.t_law_refused) rfl hr (LamX.lamS_by (by first | decide +kernel | kernel_rfl | rfl)) rfl (fun _ _ _ _ _ => rfl) (fun A outer s H E f c' hr hg => (pe_me (cs_Plan_next_free_3 T) hr (by decide) hg (passes_call (takes_of rfl rfl rfl rfl) fun _ _ _ _ h => h) (pv 1) (pa_cons (pe_tup (pa_cons pe_str (pa_cons pe_int pa_nil))) (pa_cons (pv 3) (pa_cons (pv 3) pa_nil))) pk_nil))) (pe_tup (pa_cons pe_str (pa_cons pe_str pa_nil))) (nobehind _ (by decide) (by decide))) (pss_one (ps_ret pe_bl)) pss_nil))))
    (pss_cons (ps_for PassesOwn.never rfl (pi_any (pe_tup (pa_cons (pe_ca (cs_law_odd_1 T) hr (by decide) hg rfl pass0 (pa_cons (pv 0) pa_nil) pk_nil) (pa_cons pe_int (pa_cons (pe_op op_addA (pe_op op_pow pe_int pe_int) pe_int) (pa_cons pe_bl (pa_cons pe_non (pa_cons (pe_ca (cs_law_odd_1 T) hr (by decide) hg rfl pass0 (pa_cons (pv 0) pa_nil) pk_nil) (pa_cons pe_str (pa_cons (pe_un un_neg pe_int) pa_nil)))))))))) (pg_name (i := 3) nd rfl (Or.inr rfl))
    (pss_cons (ps_if (pt_not (pt_tr (pe_ca (cs_law_whole_3 T) hr (by decide) hg rfl pass0 (pa_cons (pv 3) (pa_cons pe_int (pa_cons (pe_op op_pow pe_int pe_int) pa_nil))) pk_nil))) (pss_one (ps_if (pt_cmpR (op_neA hr) (pe_lamG rfl T.g_law_told (T.d_law_told).choose_spec (told_binds T) sc_law_told rfl (Or.inl rfl) hg (fun cdg => gives_law_told T hg (by decide) cdg) (T.t_law_refused) rfl hr (LamX.lamS_by (by first | decide +kernel | kernel_rfl | rfl)) rfl (fun _ _ _ _ _ => rfl) (fun A outer s H E f c' hr hg => (pe_me (cs_Plan_next_free_1_hours_since T) hr (by decide) hg (passes_call (takes_of rfl rfl rfl rfl) fun _ _ _ _ h => h) (pv 1) (pa_cons (pe_tup (pa_cons pe_str (pa_cons pe_int pa_nil))) pa_nil) (pk_cons (pv 3) (pk_cons pe_non pk_nil))))) (pe_tup (pa_cons pe_str (pa_cons pe_str pa_nil))) (nobehind _ (by decide) (by decide))) (pss_one (ps_ret pe_bl)) pss_nil)) pss_nil)
    (pss_one (ps_if (pt_not (pt_tr (pe_ca (cs_law_whole_3 T) hr (by decide) hg rfl pass0 (pa_cons (pv 3) (pa_cons pe_int (pa_cons (pe_op op_pow pe_int pe_int) pa_nil))) pk_nil))) (pss_one (ps_if (pt_cmpR (op_neA hr) (pe_lamG rfl T.g_law_told (T.d_law_told).choose_spec (told_binds T) sc_law_told rfl (Or.inl rfl) hg (fun cdg => gives_law_told T hg (by decide) cdg) (T.t_law_refused) rfl hr (LamX.lamS_by (by first | decide +kernel | kernel_rfl | rfl)) rfl (fun _ _ _ _ _ => rfl) (fun A outer s H E f c' hr hg => (pe_me (cs_Plan_next_free_3 T) hr (by decide) hg (passes_call (takes_of rfl rfl rfl rfl) fun _ _ _ _ h => h) (pv 1) (pa_cons (pe_tup (pa_cons pe_str (pa_cons pe_int pa_nil))) (pa_cons pe_int (pa_cons (pv 3) pa_nil))) pk_nil))) (pe_tup (pa_cons pe_str (pa_cons pe_str pa_nil))) (nobehind _ (by decide) (by decide))) (pss_one (ps_ret pe_bl)) pss_nil)) pss_nil))))
    (pss_one (ps_ret pe_bl)))))), rd_law_refused (planC T) (errC T) vs H Q E h⟩
theorem cs_law_refused_3 (T : TxtT K w mg base) : CallOk P w K mg base CX0 9 "_law_refused" 3 [] (sp_law_refused K) (fun vs zs => pick .non [0, 1, 2] (vs ++ zs)) := by
  obtain ⟨fd, F, G⟩ := ok_law_refused (P := P) (w := w) (base := base) T
  obtain ⟨g, kb⟩ := kb0 (ps := ["m", "made", "pair"]) F 3 [] [0, 1, 2] fun kV doc pm an cdv ct us ws h1 h2 => match us, ws, h1, h2 with | [_, _, _], [], _, _ => rfl
  exact ⟨⟨fd, _, g, G, kb⟩, T.g_law_refused, F.kp⟩
theorem sc_law : FnScope ["script", "m", "turn", "pair", "plains", "made", "rows", "k", "spot", "plain"] ["script"] (defScope (topS 72)) := ⟨rfl, rfl, rfl, by decide +kernel, rfl, by decide +kernel, by decide +kernel⟩
theorem ok_law (T : TxtT K w mg base) : ∃ fd, FnP K "law" "law" (topS 72) [] (He.ga K "law") fd ∧ FnG P w K mg base CX0 10 (He.ga K "law") fd ["script"] (sp_law K) := by
  obtain ⟨fd, F⟩ := T.d_law
  refine ⟨fd, F, fnG_of (sp := sp_law K) F sc_law (fun vs H Q E h => h.1) fun cdv A outer s H vs Q E hr hg h => ?_⟩
  have hu := hu_of hr
  have nd := sc_law.nd
  exact ⟨t_law K, PSs.nox ((pss_cons (ps_set (i := 1) nd rfl (Or.inr rfl) (pe_ca (cs_law_begun_1 T) hr (by decide) hg rfl pass0 (pa_cons (pv 0) pa_nil) pk_nil))
    (pss_cons (ps_if (pt_not (pt_tr (pe_ca0 (cs_law_most_right_0 T) hr (by decide) hg rfl pass0 pk_nil))) (pss_one (ps_ret pe_bl)) pss_nil)
    (pss_cons (ps_for PassesOwn.never rfl (pi_range1 (by rfl) T.z_range (pa_cons (pe_op op_addA pe_int (pe_callB (cl_min2 rfl) (by rfl) T.z_min (by decide +kernel) (pa_cons pe_int (pa_cons (pe_op op_fdiv (pe_callB cl_len (by rfl) T.z_len PySem.boot_len (pa_cons (pv 0) pa_nil)) pe_int) pa_nil)))) pa_nil)) (pg_name (i := 2) nd rfl (Or.inl rfl))
    (pss_cons (ps_asg (pe_ca (cs_law_case_2 T) hr (by decide) hg rfl pass0 (pa_cons (pv 1) (pa_cons (pe_ix ix_seq (pe_lst (pa_cons pe_int (pa_cons pe_int pa_nil))) (pe_ca (cs_law_draw_2 T) hr (by decide) hg rfl pass0 (pa_cons (pv 1) (pa_cons pe_int pa_nil)) pk_nil) (fun _ _ => rfl)) pa_nil)) pk_nil) (pg_tup rfl (pgs_cons (pg_name (i := 3) nd rfl (Or.inl rfl)) (pgs_cons (pg_name (i := 4) nd rfl (Or.inl rfl)) pgs_nil))))
    (pss_cons (ps_set (i := 5) nd rfl (Or.inr rfl) (pe_ca (cs_law_plan_2 T) hr (by decide) hg rfl pass0 (pa_cons (pv 3) (pa_cons (pv 4) pa_nil)) pk_nil))
    (pss_cons (ps_set (i := 6) nd rfl (Or.inr rfl) (pe_me0 (cs_Plan_rows_0 T) hr (by decide) hg pass0 (pv 5) pk_nil))
    (pss_cons (ps_if (pt_not (pt_tr (pe_ca (cs_law_firm_3 T) hr (by decide) hg rfl pass0 (pa_cons (pv 6) (pa_cons (pv 3) (pa_cons (pv 4) pa_nil))) pk_nil))) (pss_one (ps_ret pe_bl)) pss_nil)
    (pss_cons (ps_if (pt_not (pt_tr (pe_callB (cr_all rfl) (by rfl) T.z_all (by decide +kernel) (pa_cons (pe_lc (own := [("spot", 8)]) rfl nd (pi_any (pe_ca (cs_law_spots_1 T) hr (by decide) hg rfl pass0 (pa_cons (pv 3) pa_nil) pk_nil)) (blkOk_by (by first | decide +kernel | kernel_rfl)) (fun _ _ _ _ _ => (pg_name (i := 8) nd rfl (Or.inl rfl))) (fun _ _ _ _ _ => pts_nil) (fun _ _ _ _ _ => (pe_ca (cs_law_free_right_4 T) hr (by decide) hg rfl pass0 (pa_cons (pv 1) (pa_cons (pv 5) (pa_cons (pv 6) (pa_cons (pv 8) pa_nil)))) pk_nil))) pa_nil)))) (pss_one (ps_ret pe_bl)) pss_nil)
    (pss_cons (ps_for PassesOwn.never rfl (pi_range1 (by rfl) T.z_range (pa_cons pe_int pa_nil)) (pg_name (i := 7) nd rfl (Or.inl rfl))
    (pss_one (ps_if (pt_not (pt_tr (pe_ca (cs_law_last_right_5 T) hr (by decide) hg rfl pass0 (pa_cons (pv 1) (pa_cons (pv 3) (pa_cons (pv 5) (pa_cons (pv 6) (pa_cons (pe_lc (own := [("plain", 9)]) rfl nd (pi_any (pv 4)) (blkOk_by (by first | decide +kernel | kernel_rfl)) (fun _ _ _ _ _ => (pg_name (i := 9) nd rfl (Or.inl rfl))) (fun _ _ _ _ _ => pts_nil) (fun _ _ _ _ _ => (pe_ix ix_seq (pv 9) pe_int (fun _ _ => rfl)))) pa_nil))))) pk_nil))) (pss_one (ps_ret pe_bl)) pss_nil)))
    (pss_one (ps_if (PW.pt (pw_or (pt_not (pt_tr (pe_ca (cs_law_refused_3 T) hr (by decide) hg rfl pass0 (pa_cons (pv 1) (pa_cons (pv 5) (pa_cons (pv 3) pa_nil))) pk_nil))) (pw_or1 (pt_cmpR (op_neA hr) (pe_me0 (cs_Plan_rows_0 T) hr (by decide) hg pass0 (pv 5) pk_nil) (pv 6) (nobehind _ (by decide) (by decide)))))) (pss_one (ps_ret pe_bl)) pss_nil)))))))))
    (pss_one (ps_ret pe_bl)))))), rd_law vs H Q E h⟩
end
theorem txt_of {w : World} {K : PySem.W.Frag} {h : Heap} {mg : Str → Option Value} (X : K.In h) (G : h.Ns mainGlobals mg) (c : SaysB faL fnL tsL bsL w K) : Txt K w mg where
  c_MOST_LETTERS := He.int_ok X G (c.d.fact 0 (f := .int "MOST_LETTERS" 8) rfl)
  c_MOST_NUMBER := He.int_ok X G (c.d.fact 1 (f := .int "MOST_NUMBER" 99999) rfl)
  c_MOST_HOUR := He.int_ok X G (c.d.fact 2 (f := .int "MOST_HOUR" 1000000) rfl)
  c_MOST_HOURS := He.int_ok X G (c.d.fact 3 (f := .int "MOST_HOURS" 240) rfl)
  c_MOST_STEPS := He.int_ok X G (c.d.fact 4 (f := .int "MOST_STEPS" 12) rfl)
  c_MOST_PLACES := He.int_ok X G (c.d.fact 5 (f := .int "MOST_PLACES" 9) rfl)
  c_MOST_JOBS := He.int_ok X G (c.d.fact 6 (f := .int "MOST_JOBS" 40) rfl)
  c_LETTERS := He.str_ok X G (c.d.fact 7 (f := .str "LETTERS" "abcdefghijklmnopqrstuvwxyz") rfl)
  g_BARRED_WORDS := He.glo_ok X G (c.d.fact 8 (f := .glo "BARRED_WORDS") rfl)
  g_KINDS := He.glo_ok X G (c.d.fact 9 (f := .glo "KINDS") rfl)
  z_KeyError := He.free_ok X G (c.d.fact 10 (f := .free "KeyError") rfl)
  z_OverflowError := He.free_ok X G (c.d.fact 11 (f := .free "OverflowError") rfl)
  z_ValueError := He.free_ok X G (c.d.fact 12 (f := .free "ValueError") rfl)
  z_all := He.free_ok X G (c.d.fact 13 (f := .free "all") rfl)
  z_bool := He.free_ok X G (c.d.fact 14 (f := .free "bool") rfl)
  z_enumerate := He.free_ok X G (c.d.fact 15 (f := .free "enumerate") rfl)
  z_int := He.free_ok X G (c.d.fact 16 (f := .free "int") rfl)
  z_isinstance := He.free_ok X G (c.d.fact 17 (f := .free "isinstance") rfl)
  z_len := He.free_ok X G (c.d.fact 18 (f := .free "len") rfl)
  z_list := He.free_ok X G (c.d.fact 19 (f := .free "list") rfl)
  z_max := He.free_ok X G (c.d.fact 20 (f := .free "max") rfl)
  z_min := He.free_ok X G (c.d.fact 21 (f := .free "min") rfl)
  z_range := He.free_ok X G (c.d.fact 22 (f := .free "range") rfl)
  z_set := He.free_ok X G (c.d.fact 23 (f := .free "set") rfl)
  z_sorted := He.free_ok X G (c.d.fact 24 (f := .free "sorted") rfl)
  z_str := He.free_ok X G (c.d.fact 25 (f := .free "str") rfl)
  z_sum := He.free_ok X G (c.d.fact 26 (f := .free "sum") rfl)
  z_tuple := He.free_ok X G (c.d.fact 27 (f := .free "tuple") rfl)
  z_zip := He.free_ok X G (c.d.fact 28 (f := .free "zip") rfl)
  g_Style := He.glo_ok X G (c.d.fact 29 (f := .glo "Style") rfl)
  cl_Style := He.cls_ok (c.d.fact 30 (f := .cls "Style") rfl)
  mk_Style := He.mkr_ok (c.d.fact 31 (f := .mkr "Style") rfl)
  n_Style_called := He.noat_ok (c.d.fact 32 (f := .noat "Style" "called") rfl)
  n_Style_step_rows := He.noat_ok (c.d.fact 33 (f := .noat "Style" "step_rows") rfl)
  g_Job := He.glo_ok X G (c.d.fact 34 (f := .glo "Job") rfl)
  cl_Job := He.cls_ok (c.d.fact 35 (f := .cls "Job") rfl)
  mk_Job := He.mkr_ok (c.d.fact 36 (f := .mkr "Job") rfl)
  n_Job_came := He.noat_ok (c.d.fact 37 (f := .noat "Job" "came") rfl)
  n_Job_has_number := He.noat_ok (c.d.fact 38 (f := .noat "Job" "has_number") rfl)
  n_Job_has_style := He.noat_ok (c.d.fact 39 (f := .noat "Job" "has_style") rfl)
  n_Job_hasty := He.noat_ok (c.d.fact 40 (f := .noat "Job" "hasty") rfl)
  n_Job_wanted := He.noat_ok (c.d.fact 41 (f := .noat "Job" "wanted") rfl)
  g_Bench := He.glo_ok X G (c.d.fact 42 (f := .glo "Bench") rfl)
  cl_Bench := He.cls_ok (c.d.fact 43 (f := .cls "Bench") rfl)
  mk_Bench := He.mkr_ok (c.d.fact 44 (f := .mkr "Bench") rfl)
  n_Bench_many_of := He.noat_ok (c.d.fact 45 (f := .noat "Bench" "many_of") rfl)
  g_Plan := He.glo_ok X G (c.d.fact 46 (f := .glo "Plan") rfl)
  cl_Plan := He.cls_ok (c.d.fact 47 (f := .cls "Plan") rfl)
  mk_Plan := He.mkr_ok (c.d.fact 48 (f := .mkr "Plan") rfl)
  n_Plan_all_jobs := He.noat_ok (c.d.fact 49 (f := .noat "Plan" "all_jobs") rfl)
  n_Plan_all_rows := He.noat_ok (c.d.fact 50 (f := .noat "Plan" "all_rows") rfl)
  n_Plan_by_number := He.noat_ok (c.d.fact 51 (f := .noat "Plan" "by_number") rfl)
  n_Plan_by_place := He.noat_ok (c.d.fact 52 (f := .noat "Plan" "by_place") rfl)
  n_Plan_of_bench := He.noat_ok (c.d.fact 53 (f := .noat "Plan" "of_bench") rfl)
  g_BadValue := He.glo_ok X G (c.d.fact 54 (f := .glo "BadValue") rfl)
  g_BadText := He.glo_ok X G (c.d.fact 55 (f := .glo "BadText") rfl)
  g_NoSuch := He.glo_ok X G (c.d.fact 56 (f := .glo "NoSuch") rfl)
  g_TooMany := He.glo_ok X G (c.d.fact 57 (f := .glo "TooMany") rfl)
  g_is_whole := He.glo_ok X G (c.d.fact 58 (f := .glo "is_whole") rfl)
  g_is_name := He.glo_ok X G (c.d.fact 59 (f := .glo "is_name") rfl)
  g_kind_of := He.glo_ok X G (c.d.fact 60 (f := .glo "kind_of") rfl)
  g_is_step := He.glo_ok X G (c.d.fact 61 (f := .glo "is_step") rfl)
  g_are_steps := He.glo_ok X G (c.d.fact 62 (f := .glo "are_steps") rfl)
  m_Style_steps := He.meth_ok (c.d.fact 63 (f := .meth "Style" "steps") rfl)
  m_Style_span := He.meth_ok (c.d.fact 64 (f := .meth "Style" "span") rfl)
  m_Job_numbered := He.meth_ok (c.d.fact 65 (f := .meth "Job" "numbered") rfl)
  m_Job_of_style := He.meth_ok (c.d.fact 66 (f := .meth "Job" "of_style") rfl)
  m_Job_brought_at := He.meth_ok (c.d.fact 67 (f := .meth "Job" "brought_at") rfl)
  m_Job_rank := He.meth_ok (c.d.fact 68 (f := .meth "Job" "rank") rfl)
  g_rank_of := He.glo_ok X G (c.d.fact 69 (f := .glo "rank_of") rfl)
  g_by_rank := He.glo_ok X G (c.d.fact 70 (f := .glo "by_rank") rfl)
  m_Bench_places_of := He.meth_ok (c.d.fact 71 (f := .meth "Bench" "places_of") rfl)
  m_Bench_places := He.meth_ok (c.d.fact 72 (f := .meth "Bench" "places") rfl)
  m_Bench_eq := He.meth_ok (c.d.fact 73 (f := .meth "Bench" "__eq__") rfl)
  g_free_from := He.glo_ok X G (c.d.fact 74 (f := .glo "free_from") rfl)
  g_are_jobs := He.glo_ok X G (c.d.fact 75 (f := .glo "are_jobs") rfl)
  g_begin_of := He.glo_ok X G (c.d.fact 76 (f := .glo "begin_of") rfl)
  m_Plan_take_in := He.meth_ok (c.d.fact 77 (f := .meth "Plan" "take_in") rfl)
  m_Plan_job_of := He.meth_ok (c.d.fact 78 (f := .meth "Plan" "job_of") rfl)
  m_Plan_rows := He.meth_ok (c.d.fact 79 (f := .meth "Plan" "rows") rfl)
  m_Plan_rows_at := He.meth_ok (c.d.fact 80 (f := .meth "Plan" "rows_at") rfl)
  m_Plan_next_free := He.meth_ok (c.d.fact 81 (f := .meth "Plan" "next_free") rfl)
  m_Plan_busy := He.meth_ok (c.d.fact 82 (f := .meth "Plan" "busy") rfl)
  m_Plan_with_job := He.meth_ok (c.d.fact 83 (f := .meth "Plan" "with_job") rfl)
  m_Plan_eq := He.meth_ok (c.d.fact 84 (f := .meth "Plan" "__eq__") rfl)
  g_law_mixed := He.glo_ok X G (c.d.fact 85 (f := .glo "_law_mixed") rfl)
  g_law_folded := He.glo_ok X G (c.d.fact 86 (f := .glo "_law_folded") rfl)
  g_law_draw := He.glo_ok X G (c.d.fact 87 (f := .glo "_law_draw") rfl)
  g_law_begun := He.glo_ok X G (c.d.fact 88 (f := .glo "_law_begun") rfl)
  g_law_called := He.glo_ok X G (c.d.fact 89 (f := .glo "_law_called") rfl)
  g_law_step := He.glo_ok X G (c.d.fact 90 (f := .glo "_law_step") rfl)
  g_law_steps := He.glo_ok X G (c.d.fact 91 (f := .glo "_law_steps") rfl)
  g_law_styles := He.glo_ok X G (c.d.fact 92 (f := .glo "_law_styles") rfl)
  g_law_numbers := He.glo_ok X G (c.d.fact 93 (f := .glo "_law_numbers") rfl)
  g_law_plain_job := He.glo_ok X G (c.d.fact 94 (f := .glo "_law_plain_job") rfl)
  g_law_plain_jobs := He.glo_ok X G (c.d.fact 95 (f := .glo "_law_plain_jobs") rfl)
  g_law_style := He.glo_ok X G (c.d.fact 96 (f := .glo "_law_style") rfl)
  g_law_job := He.glo_ok X G (c.d.fact 97 (f := .glo "_law_job") rfl)
  g_law_plain_bench := He.glo_ok X G (c.d.fact 98 (f := .glo "_law_plain_bench") rfl)
  g_law_plan := He.glo_ok X G (c.d.fact 99 (f := .glo "_law_plan") rfl)
  g_law_class := He.glo_ok X G (c.d.fact 100 (f := .glo "_law_class") rfl)
  g_law_told := He.glo_ok X G (c.d.fact 101 (f := .glo "_law_told") rfl)
  g_law_rank := He.glo_ok X G (c.d.fact 102 (f := .glo "_law_rank") rfl)
  g_law_spots := He.glo_ok X G (c.d.fact 103 (f := .glo "_law_spots") rfl)
  g_law_case := He.glo_ok X G (c.d.fact 104 (f := .glo "_law_case") rfl)
  g_law_wanted := He.glo_ok X G (c.d.fact 105 (f := .glo "_law_wanted") rfl)
  g_law_readies := He.glo_ok X G (c.d.fact 106 (f := .glo "_law_readies") rfl)
  g_law_is_row := He.glo_ok X G (c.d.fact 107 (f := .glo "_law_is_row") rfl)
  g_law_firm := He.glo_ok X G (c.d.fact 108 (f := .glo "_law_firm") rfl)
  g_law_no := He.glo_ok X G (c.d.fact 109 (f := .glo "_law_no") rfl)
  g_law_far := He.glo_ok X G (c.d.fact 110 (f := .glo "_law_far") rfl)
  g_law_odd := He.glo_ok X G (c.d.fact 111 (f := .glo "_law_odd") rfl)
  g_law_whole := He.glo_ok X G (c.d.fact 112 (f := .glo "_law_whole") rfl)
  g_law_is_free := He.glo_ok X G (c.d.fact 113 (f := .glo "_law_is_free") rfl)
  g_law_least := He.glo_ok X G (c.d.fact 114 (f := .glo "_law_least") rfl)
  g_law_wish := He.glo_ok X G (c.d.fact 115 (f := .glo "_law_wish") rfl)
  g_law_free_right := He.glo_ok X G (c.d.fact 116 (f := .glo "_law_free_right") rfl)
  g_law_last_right := He.glo_ok X G (c.d.fact 117 (f := .glo "_law_last_right") rfl)
  g_law_is_spot := He.glo_ok X G (c.d.fact 118 (f := .glo "_law_is_spot") rfl)
  g_law_refused := He.glo_ok X G (c.d.fact 119 (f := .glo "_law_refused") rfl)
  g_law_most_right := He.glo_ok X G (c.d.fact 120 (f := .glo "_law_most_right") rfl)
  g_law := He.glo_ok X G (c.d.fact 121 (f := .glo "law") rfl)
  k_BARRED_WORDS := fun H => He.tupB_ok (c.ask 0 rfl) H
  k_KINDS := ktab_of (dk := fun K => He.ga K "KINDS") (kvs := [("sew", "hand"), ("glue", "hand"), ("cover", "hand"), ("letter", "hand"), ("press", "press")]) c.t 0 rfl (c.ask 1 rfl)
  od_Style := ownB_ok (c.ask 2 rfl)
  od_Job := ownB_ok (c.ask 3 rfl)
  od_Bench := ownB_ok (c.ask 4 rfl)
  od_Plan := ownB_ok (c.ask 5 rfl)
  e_BadValue := errOkB_ok (c.ask 6 rfl)
  e_BadText := errOkB_ok (c.ask 7 rfl)
  e_NoSuch := errOkB_ok (c.ask 8 rfl)
  e_TooMany := errOkB_ok (c.ask 9 rfl)
  kit := errKitB_ok (c.ask 10 rfl)
  tn := of_decide_eq_true (c.ask 11 rfl)
  d_BadValue_init := c.d.def_ 0 (d := dd_BadValue_init) rfl
  d_NoSuch_init := c.d.def_ 1 (d := dd_NoSuch_init) rfl
  d_is_whole := c.d.def_ 2 (d := dd_is_whole) rfl
  d_is_name := c.d.def_ 3 (d := dd_is_name) rfl
  d_kind_of := c.d.def_ 4 (d := dd_kind_of) rfl
  d_is_step := c.d.def_ 5 (d := dd_is_step) rfl
  d_are_steps := c.d.def_ 6 (d := dd_are_steps) rfl
  d_Style_init := c.d.def_ 7 (d := dd_Style_init) rfl
  d_Style_steps := c.d.def_ 8 (d := dd_Style_steps) rfl
  d_Style_span := c.d.def_ 9 (d := dd_Style_span) rfl
  d_Job_init := c.d.def_ 10 (d := dd_Job_init) rfl
  d_Job_numbered := c.d.def_ 11 (d := dd_Job_numbered) rfl
  d_Job_of_style := c.d.def_ 12 (d := dd_Job_of_style) rfl
  d_Job_brought_at := c.d.def_ 13 (d := dd_Job_brought_at) rfl
  d_Job_rank := c.d.def_ 14 (d := dd_Job_rank) rfl
  d_rank_of := c.d.def_ 15 (d := dd_rank_of) rfl
  d_by_rank := c.d.def_ 16 (d := dd_by_rank) rfl
  d_Bench_init := c.d.def_ 17 (d := dd_Bench_init) rfl
  d_Bench_places_of := c.d.def_ 18 (d := dd_Bench_places_of) rfl
  d_Bench_places := c.d.def_ 19 (d := dd_Bench_places) rfl
  d_Bench_eq := c.d.def_ 20 (d := dd_Bench_eq) rfl
  d_free_from := c.d.def_ 21 (d := dd_free_from) rfl
  d_are_jobs := c.d.def_ 22 (d := dd_are_jobs) rfl
  d_begin_of := c.d.def_ 23 (d := dd_begin_of) rfl
  d_Plan_init := c.d.def_ 24 (d := dd_Plan_init) rfl
  d_Plan_take_in := c.d.def_ 25 (d := dd_Plan_take_in) rfl
  d_Plan_job_of := c.d.def_ 26 (d := dd_Plan_job_of) rfl
  d_Plan_rows := c.d.def_ 27 (d := dd_Plan_rows) rfl
  d_Plan_rows_at := c.d.def_ 28 (d := dd_Plan_rows_at) rfl
  d_Plan_next_free := c.d.def_ 29 (d := dd_Plan_next_free) rfl
  d_Plan_busy := c.d.def_ 30 (d := dd_Plan_busy) rfl
  d_Plan_with_job := c.d.def_ 31 (d := dd_Plan_with_job) rfl
  d_Plan_eq := c.d.def_ 32 (d := dd_Plan_eq) rfl
  d_law_mixed := c.d.def_ 33 (d := dd_law_mixed) rfl
  d_law_folded := c.d.def_ 34 (d := dd_law_folded) rfl
  d_law_draw := c.d.def_ 35 (d := dd_law_draw) rfl
  d_law_begun := c.d.def_ 36 (d := dd_law_begun) rfl
  d_law_called := c.d.def_ 37 (d := dd_law_called) rfl
  d_law_step := c.d.def_ 38 (d := dd_law_step) rfl
  d_law_steps := c.d.def_ 39 (d := dd_law_steps) rfl
  d_law_styles := c.d.def_ 40 (d := dd_law_styles) rfl
  d_law_numbers := c.d.def_ 41 (d := dd_law_numbers) rfl
  d_law_plain_job := c.d.def_ 42 (d := dd_law_plain_job) rfl
  d_law_plain_jobs := c.d.def_ 43 (d := dd_law_plain_jobs) rfl
  d_law_style := c.d.def_ 44 (d := dd_law_style) rfl
  d_law_job := c.d.def_ 45 (d := dd_law_job) rfl
  d_law_plain_bench := c.d.def_ 46 (d := dd_law_plain_bench) rfl
  d_law_plan := c.d.def_ 47 (d := dd_law_plan) rfl
  d_law_class := c.d.def_ 48 (d := dd_law_class) rfl
  d_law_told := c.d.def_ 49 (d := dd_law_told) rfl
  d_law_rank := c.d.def_ 50 (d := dd_law_rank) rfl
  d_law_spots := c.d.def_ 51 (d := dd_law_spots) rfl
  d_law_case := c.d.def_ 52 (d := dd_law_case) rfl
  d_law_wanted := c.d.def_ 53 (d := dd_law_wanted) rfl
  d_law_readies := c.d.def_ 54 (d := dd_law_readies) rfl
  d_law_is_row := c.d.def_ 55 (d := dd_law_is_row) rfl
  d_law_firm := c.d.def_ 56 (d := dd_law_firm) rfl
  d_law_no := c.d.def_ 57 (d := dd_law_no) rfl
  d_law_far := c.d.def_ 58 (d := dd_law_far) rfl
  d_law_odd := c.d.def_ 59 (d := dd_law_odd) rfl
  d_law_whole := c.d.def_ 60 (d := dd_law_whole) rfl
  d_law_is_free := c.d.def_ 61 (d := dd_law_is_free) rfl
  d_law_least := c.d.def_ 62 (d := dd_law_least) rfl
  d_law_wish := c.d.def_ 63 (d := dd_law_wish) rfl
  d_law_free_right := c.d.def_ 64 (d := dd_law_free_right) rfl
  d_law_last_right := c.d.def_ 65 (d := dd_law_last_right) rfl
  d_law_is_spot := c.d.def_ 66 (d := dd_law_is_spot) rfl
  d_law_refused := c.d.def_ 67 (d := dd_law_refused) rfl
  d_law_most_right := c.d.def_ 68 (d := dd_law_most_right) rfl
  d_law := c.d.def_ 69 (d := dd_law) rfl
end Bz
open PySem PySem.W PySem.Calls PyProof.Rows
theorem PySem.Challenge.cw_bindbench_k27_whole_a_last_job_begins_wh_holds : PySem.Challenge.rw_bindbench_k27_whole_a_last_job_begins_wh.Holds := by
  refine Bz.startL ?hc
  case hc =>
    refine Bz.walk_ofGT (l := PySem.Challenge.rw_bindbench_k27_whole_a_last_job_begins_wh) (n := 63) (k := 10) (x := "script") (CX := L2.CX0) rfl (by decide) (by kernel_rfl) ⟨rfl, by decide, by decide⟩ ?F (fun _ _ _ _ z => z)
    intro w mg fa h Y G hmg0
    obtain ⟨K, KX, c, q1, q2, q3⟩ := Y
    have T := Bz.txt_of KX G c
    have hmg : mg ("law" : PySem.Str) = some (.ref fa) := by
      have e : (HandSHeadRun.topDef Bz.RR.prog 72).name = ("law" : PySem.Str) := by kernel_rfl
      rw [← e]
      exact hmg0
    have e := hmg.symm.trans T.g_law
    cases e
    obtain ⟨fd0, F0⟩ := T.d_law
    refine ⟨K, fd0, Bz.sp_law K, Bz.tfL.map (He.cT K), KX, fun p hp => by obtain ⟨q, hq, e⟩ := List.mem_map.mp hp; rw [← e]; exact q3 q hq, fun p hp => by obtain ⟨q, hq, e⟩ := List.mem_map.mp hp; rw [← e]; exact q2 q hq, fun p hp => ?_, fun s u => L2.FunD.bindsA (ps := ["script"]) F0 (fun _ _ _ _ _ _ us hl => match us, hl with | [_], _ => rfl) s [u] rfl, Bz.law_asked T.tn, fun base KB _ TBs => ?_⟩
    · obtain ⟨q, hq, e⟩ := List.mem_map.mp hp
      rw [← e]
      exact PySem.W.codeHd_of_K KX (q1 q hq)
    have T : Bz.TxtT K w mg base := { toTxt := T, t_law_refused := TBs _ (List.mem_map.mpr ⟨_, List.Mem.head _, rfl⟩) }
    obtain ⟨fd, F, g⟩ := Bz.ok_law (P := (PySem.Challenge.rw_bindbench_k27_whole_a_last_job_begins_wh).prog) (w := w) (base := base) T
    obtain ⟨_, _, _, _, _, _, _, _, _, _, e1, l1, _⟩ := F0.ex
    obtain ⟨_, _, _, _, _, _, _, _, _, _, e2, l2, _⟩ := F.ex
    have e3 := l1.symm.trans l2
    cases e3
    exact g
