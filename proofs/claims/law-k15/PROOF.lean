import PyProof.Rows.All
import HandS.ForMost
import HandS.Defaults
import HandS.IsInst
import HandS.StrMore
import HandS.Wide
import HandS.WideBits
import HandS.HeadHook3
import HandS.HeadEnd
import HandS.Head2
import PyProof.ReprNest
import HandS.TupAny
import HandS.Style
import PyProof.NeKinds
import HandS.Walk
import HandS.TupMul
import HandS.Text
import KE.IntTextLaws
import PyProof.ReprLen
import HandS.MakeKw
import HandS.Zip
import HandS.SortInts
import KE.GoesMore
import HandS.SortKw
import HandS.SlotsOwn
import PyProof.Rows.Range3
import PyProof.CallStr
import OpenK.KOps
import PyProof.FactsAll.dict
import PyProof.MeetsIn
import PyProof.EqAt
import HandS.OwnEq
import HandS.FStr
import HandS.HeadHook1
import HandS.TryOnly
import HandS.More
import HandS.Exc
import HandS.ExcInit
import KE.KTryMore
import HandS.ExcIs
import HandS.ExcField
import KE.KExcIs
import HandS.Lambda
import HandS.Ends
import HandS.HeadHook4
import HandS.HeadWalk
import HandS.EndTab
import PyProof.ExcBaseAll.LookupError
import PyProof.ExcBaseAll.OverflowError
import PyProof.ExcBaseAll.RuntimeError
import PyProof.ExcBaseAll.Exception
import PyProof.ExcBaseAll.ValueError
import KE.KDictDisplayH
import HandS.Conv
import KE.SortKeyHeap
import HandS.Keys
import HandS.ExcValue
import HandS.Deep
import KE.KMinKey
import KE.KRevSl
import KE.DatumOrd
import HandS.SetFor
import HandS.TupSets
import HandS.SetKeys
import KE.SortCalls
import KE.DataCmp
import KE.DataMinKey
import PySem.Challenge.RW_bindbench_k15_jobs_in_order
set_option Elab.async false
set_option linter.all false
set_option maxRecDepth 100000
set_option maxHeartbeats 4000000
namespace Bz
open PySem PySem.Spec PyProof.Rows L2
/-! a def's contract where no repr is under way -/
structure FnG (P : Program) (w : World) (K : PySem.W.Frag) (mg : Str → Option Value) (base : Heap) (CX : CXT)
    (k : Nat) (f : Addr) (fd : FuncData) (ps : List Str) (sp : Sp) : Prop where
  len : ∀ vs H Q E, sp vs H Q E → vs.length = ps.length
  go : ∀ (A : Around) (outer : List Env) (s : Shared) (H : Hp) (args : Args) (us : List Value) (vs : List V) (Q : VK) (E : XK),
    Room k A → A.guards = some [] → Env0 P w K mg base A outer s H → BindsTo s fd args (ps.zip us) → Vals vs us →
    sp vs H Q E → codeAny (model P w) A (.call (.ref f) args) (CR CX outer P w H s Q E) s
section
variable {P : Program} {w : World} {K : PySem.W.Frag} {mg : Str → Option Value} {base : Heap} {CX : CXT}
variable {k : Nat} {f : Addr} {fd : FuncData} {ps : List Str} {sp : Sp}
theorem FnG.of (F : FnOk P w K mg base CX k f fd ps sp) : FnG P w K mg base CX k f fd ps sp :=
  ⟨F.len, fun A o s H a us vs Q E r _ e b v q => F.run A o s H a us vs Q E r e b v q⟩
theorem FnG.mono {j : Nat} (F : FnG P w K mg base CX j f fd ps sp) (h : j ≤ k) : FnG P w K mg base CX k f fd ps sp :=
  ⟨F.len, fun A o s H a us vs Q E r g e b v q => F.go A o s H a us vs Q E (r.mono h) g e b v q⟩
theorem guards_deeper {A : Around} {env : Env} (h : A.guards = some []) : (A.deeper env).guards = some [] := h
theorem guards_make {A : Around} {a : Args} (h : A.guards = some []) : (A.under (.builtin "type.__call__" a)).guards = some [] := by
  have e : (Code.builtin "type.__call__" a).isGuard = false := by
    show guardIds.contains "type.__call__" = false
    decide +kernel
  simp [Around.under, Code.guards, e, h, pushGuards]
/-- a def by its body -/
theorem fnG_of {N : List Str} {x qual : Str} {params : Arguments} {body : List Stmt} {scope : Scope} {dvs : List V} {kws : List (Str × V)}
    (F : FunD K x qual params body scope dvs kws f fd) (S : FnScope N ps scope) (len : ∀ vs H Q E, sp vs H Q E → vs.length = ps.length)
    (hb : ∀ (cdv : Value) (A : Around) (outer : List Env) (s : Shared) (H : Hp) (vs : List V) (Q : VK) (E : XK),
      Room k (A.deeper (envOfC qual scope s.heap.objs.size f cdv)) → (A.deeper (envOfC qual scope s.heap.objs.size f cdv)).guards = some [] → sp vs H Q E →
      ∃ t, PSs (cxOf CX P w K mg base N qual scope f cdv A outer s H E) body t ∧ t { nx := fun _ H' => Q .non H', rt := Q } (start N vs) H) :
    FnG P w K mg base CX (k + 1) f fd ps sp := by
  obtain ⟨oc, od, dV, kV, doc, pm, an, cdv, ct, osl, rfl, lk, hcd, _, _⟩ := F.ex
  refine ⟨len, fun A outer s H args us vs Q E hr hg e0 bnd rv hq => ?_⟩
  have KX : K.In s.heap := e0.mod.kin.keeps fun b o e => (e0.bs b o e).1
  refine codeAny_call_function hr.depth (KX _ _ lk) rfl S.co S.gen rfl (PySem.W.codeRec_of KX hcd) (bnd _ _ _ _ ?_)
  refine wpAny_newFunctionEnv_cells S.kind ?_ ?_
  · rintro ⟨n, v⟩ hy
    rcases S.par n (List.of_mem_zip hy).1 with q | q
    · exact Or.inl q
    · exact Or.inr ⟨q, PySem.W.cellsFrom_some _ _ _ (Or.inl q)⟩
  · intro env he s1 x
    subst he
    have lim : s.heap.NoLimit := e0.mod.nolimit.keeps fun b o e => (e0.bs b o e).1
    refine ⟨lim.keeps x.toInCall.keep, codeAny_func ?_⟩
    obtain ⟨t, ht, q⟩ := hb cdv A outer s H vs Q E (hr.deeper _) (guards_deeper hg) hq
    have I := inv_start (CX := CX) (E := E) S hr.hd e0 (len _ _ _ _ hq) rv x
    refine wpAny_mono (ht.run [] s1 (start N vs) H _ I q) ?_ (fun _ _ z => z)
    intro fl s' z
    cases fl with
    | ret u =>
      obtain ⟨v, σ', H', J, r, q'⟩ := z
      exact ⟨v, H', J.os, J.bare, J.base, J.hok, r, q'⟩
    | next =>
      obtain ⟨σ', H', J, q'⟩ := z
      exact ⟨V.non, H', J.os, J.bare, J.base, J.hok, rfl, q'⟩
    | brk => exact z.elim fun _ z => z.elim fun _ z => z.2.elim
    | cont => exact z.elim fun _ z => z.elim fun _ z => z.2.elim
end
section
variable {X : Cx} {CX : CXT} {k : Nat} {f C : Addr} {fd : FuncData} {ps : List Str} {sp : Sp} {dvs : List V} {ds : List Value} {E : XK}
theorem run_g {pins : List (Addr × Obj)} {σ : L2.St} {H : Hp} {s : Shared} {Q : VK} {args : Args} {us : List Value} {vs : List V}
    (F : FnG X.prog X.w X.K X.mg X.base CX k f fd ps sp) (hr : Room k X.A) (hg : X.A.guards = some []) (hx : Passes CX X E)
    (I : Inv X pins σ H s) (b : BindsTo s fd args (ps.zip us)) (r : Vals vs us) (h : sp vs H Q E) :
    wpAny (model X.prog X.w) X.A (call (.ref f) args.pos args.kw) (EP X pins σ Q) X.xe s := by
  refine wpAny_call (codeAny_mono (F.go X.A X.stack s H args us vs Q E hr hg I.env0 b r h) ?_)
  intro r s' z
  cases r with
  | error e => exact hx pins σ H s e s' I z
  | ok fl =>
    cases fl with
    | ret u => exact I.after z
    | next => exact False.elim z
    | brk => exact False.elim z
    | cont => exact False.elim z
end
/-! ### the parts of a list by their places -/
def nth {α : Type} (d : α) : List α → Nat → α
  | [], _ => d
  | a :: _, 0 => a
  | _ :: l, n + 1 => nth d l n
def pick {α : Type} (d : α) : List Nat → List α → List α
  | [], _ => []
  | i :: r, l => nth d l i :: pick d r l
theorem nth_rel : ∀ {l : List V} {u : List Value} (i : Nat), Vals l u → RelV (nth .non l i) (nth .none u i)
  | _, _, _, .nil => rfl
  | _, _, 0, .cons r _ => r
  | _, _, i + 1, .cons _ t => nth_rel i t
theorem pick_rel {l : List V} {u : List Value} (r : Vals l u) : ∀ ix : List Nat, Vals (pick .non ix l) (pick .none ix u)
  | [] => .nil
  | i :: ix => .cons (nth_rel i r) (pick_rel r ix)
section
variable {K : PySem.W.Frag} {x qual : Str} {params : Arguments} {body : List Stmt} {scope : Scope} {dvs : List V} {kws : List (Str × V)} {f : Addr} {fd : FuncData} {ps : List Str}
/-- how a call binds: n places, keywords ks, no defaults -/
theorem kb0 (F : FunD K x qual params body scope [] kws f fd) (n : Nat) (ks : List Str) (ix : List Nat)
    (h : ∀ (kV doc pm : Value) (an : Option Addr) (cdv ct : Value) (us ws : List Value), us.length = n → ws.length = ks.length →
      bindArgs (PySem.W.fnOf x qual params body scope .none kV doc pm an cdv ct) ⟨us, ks.zip ws⟩ = pure (ps.zip (pick .none ix (us ++ ws)))) :
    ∃ g, KBn K fd ps n ks g (fun vs zs => pick .non ix (vs ++ zs)) := by
  obtain ⟨oc, od, dV, kV, doc, pm, an, cdv, ct, osl, rfl, lk, hcd, hD, hK⟩ := F.ex
  rcases hD with ⟨_, rfl⟩ | ⟨e, _⟩
  · exact ⟨fun us ws => pick .none ix (us ++ ws), fun s us ws _ l1 l2 => .of_eq (h kV doc pm an cdv ct us ws l1 l2), fun r1 r2 => pick_rel (r1.append r2) ix⟩
  · exact absurd rfl e
theorem kb1 (F : FunD K x qual params body scope dvs kws f fd) (hd : dvs ≠ []) (n : Nat) (ks : List Str) (ix : List Nat)
    (h : ∀ (T : Addr) (kV doc pm : Value) (an : Option Addr) (cdv ct : Value) (us ws its : List Value), us.length = n → ws.length = ks.length → its.length = dvs.length →
      ∃ k, bindArgs (PySem.W.fnOf x qual params body scope (.ref T) kV doc pm an cdv ct) ⟨us, ks.zip ws⟩ = seqItems? (.ref T) >>= k ∧ k (some its.toArray) = pure (ps.zip (pick .none ix (us ++ (ws ++ its))))) :
    ∃ g, KBn K fd ps n ks g (fun vs zs => pick .non ix (vs ++ (zs ++ dvs))) := by
  obtain ⟨oc, od, dV, kV, doc, pm, an, cdv, ct, osl, rfl, lk, hcd, hD, hK⟩ := F.ex
  rcases hD with ⟨e, _⟩ | ⟨_, T, o, its, m, rfl, lT, oT, rT⟩
  · exact absurd e hd
  · refine ⟨fun us ws => pick .none ix (us ++ (ws ++ its)), fun s us ws X l1 l2 => ?_, fun r1 r2 => pick_rel (r1.append (r2.append rT)) ix⟩
    obtain ⟨k, e1, e2⟩ := h T kV doc pm an cdv ct us ws its l1 l2 rT.length.symm
    refine L2.BindsTo.of_looks fun M => ?_
    rw [e1]
    exact looks_items X lT oT (.of_pure e2)
end
/-! ### calls by names -/
def tCl (n m : Nat) (sp : Sp) (gV : List V → List V → List V) (E : XK) (t tk : TA) : TE :=
  fun σ H Q => t σ H fun vs H1 => tk σ H1 fun zs H2 => vs.length = n ∧ zs.length = m ∧ sp (gV vs zs) H2 Q E
section
variable {X : Cx} {CX : CXT} {k n : Nat} {f C : Addr} {fd : FuncData} {ps ks : List Str} {sp : Sp} {E : XK} {x : Str} {p pos : Pos} {e : Expr} {es : List Expr} {kws : List Keyword} {t tk : TA}
variable {g : List Value → List Value → List Value} {gV : List V → List V → List V}
theorem run_gn {pins : List (Addr × Obj)} {σ : L2.St} {H : Hp} {s : Shared} {Q : VK} {us ws : List Value} {vs zs : List V}
    (F : FnG X.prog X.w X.K X.mg X.base CX k f fd ps sp) (hr : Room k X.A) (hg : X.A.guards = some []) (hb : KBn X.K fd ps n ks g gV) (hx : Passes CX X E)
    (I : Inv X pins σ H s) (r : Vals vs us) (rz : Vals zs ws) (l1 : vs.length = n) (l2 : zs.length = ks.length) (h : sp (gV vs zs) H Q E) :
    wpAny (model X.prog X.w) X.A (call (.ref f) us (ks.zip ws)) (EP X pins σ Q) X.xe s :=
  run_g (args := ⟨us, ks.zip ws⟩) F hr hg hx I (hb.to s us ws I.kIn (r.length.symm.trans l1) (rz.length.symm.trans l2)) (hb.rel r rz) h
/-- f(e, .., k = v, ..) with a place at least -/
theorem pe_cl (F : FnG X.prog X.w X.K X.mg X.base CX k f fd ps sp) (hr : Room k X.A) (hg : X.A.guards = some []) (gl : Gl X x) (hm : X.mg x = some (.ref f))
    (hk : PySem.W.keepIn X.K (.ref f) = true) (hb : KBn X.K fd ps n ks g gV) (hx : Passes CX X E) (ha : PA X (e :: es) t) (hkw : PK X kws tk)
    (h1 : (backToKw pos (keywordEach kws X.env)).all (·.1.isSome) = true := by rfl) (h2 : (backToKw pos (keywordEach kws X.env)).filterMap (·.1) = ks := by rfl)
    (h3 : (x == ("__debug__" : Str)) = false := by decide) (h4 : starEach (e :: es) X.env = (false, eval e X.env) :: starEach es X.env := by rfl)
    (h5 : ((backTo pos (starEach (e :: es) X.env)).any (·.1) || (backToKw pos (keywordEach kws X.env)).any (·.1.isNone)) = false := by rfl) :
    PE X (.Call (.Name x p) (e :: es) kws pos) (tCl n ks.length sp gV E t tk) := ⟨fun pins s σ H Q I h => by
  refine wpAny_Call_Name_kw (ld_glob I gl hm ?_ h3)
  refine PySem.W.callWith_KW (h₀ := X.base) I.ok.mod.kin hk h1 (thn (ha.run pos pins s σ H _ I h) ?_) h5 h4
  rintro us s1 ⟨vs, H1, I1, r, q⟩
  refine thn (hkw.run pos pins s1 σ H1 _ I1 q) ?_
  rintro ws s2 ⟨zs, H2, I2, rz, l1, l2, q2⟩
  refine ⟨I2.kIn, ?_⟩
  rw [h2]
  exact run_gn F hr hg hb hx I2 r rz l1 l2 q2⟩
/-- f(k = v, ..), f() -/
theorem pe_cl0 (F : FnG X.prog X.w X.K X.mg X.base CX k f fd ps sp) (hr : Room k X.A) (hg : X.A.guards = some []) (gl : Gl X x) (hm : X.mg x = some (.ref f))
    (hk : PySem.W.keepIn X.K (.ref f) = true) (hb : KBn X.K fd ps n ks g gV) (hx : Passes CX X E) (hkw : PK X kws tk)
    (h1 : (backToKw pos (keywordEach kws X.env)).all (·.1.isSome) = true := by rfl) (h2 : (backToKw pos (keywordEach kws X.env)).filterMap (·.1) = ks := by rfl)
    (h3 : (x == ("__debug__" : Str)) = false := by decide)
    (h5 : ((backTo pos (starEach [] X.env)).any (·.1) || (backToKw pos (keywordEach kws X.env)).any (·.1.isNone)) = false := by rfl) :
    PE X (.Call (.Name x p) [] kws pos) (tCl n ks.length sp gV E tNil tk) := ⟨fun pins s σ H Q I h => by
  refine wpAny_Call_Name_kw (ld_glob I gl hm ?_ h3)
  refine PySem.W.callWith_KW0 (h₀ := X.base) I.ok.mod.kin hk h1 (thn (hkw.run pos pins s σ H _ I h) ?_) h5
  rintro ws s2 ⟨zs, H2, I2, rz, l1, l2, q2⟩
  refine ⟨I2.kIn, ?_⟩
  rw [h2]
  exact run_gn (us := []) (vs := []) F hr hg hb hx I2 .nil rz l1 l2 q2⟩
end
/-! ### operators, whatever the kinds -/
section
variable {X : Cx}
abbrev rAddI : R2 := rI0 fun i j => .int (i + j)
def rAddS : R2 := fun x y H Q => ∃ i j, x = .str i ∧ y = .str j ∧ i.length + j.length ≤ sizeLine ∧ Q (.str (i ++ j)) H
def rAddA (K : PySem.W.Frag) : R2 := fun x y H Q => rAddI x y H Q ∨ rAddS x y H Q ∨ rCat x y H Q ∨ L2.rCatA K x y H Q
theorem op_addA : OpR X (binaryOp .Add) (rAddA X.K) := OpR.or op_add (OpR.or op_add_str (OpR.or op_cat op_catA))
/-- text * number, the number 0 or more -/
def repS (x : Str) (n : Nat) : Str := ⟨(List.replicate n x.cps.toList).flatten.toArray⟩
theorem repS_fold (a : Array Nat) : ∀ (n : Nat) (acc : Array Nat), (List.replicate n a).foldl (· ++ ·) acc = acc ++ (List.replicate n a.toList).flatten.toArray
  | 0, acc => by simp
  | n + 1, acc => by
    rw [List.replicate_succ, List.foldl_cons, repS_fold a n, List.replicate_succ, List.flatten_cons]
    apply Array.ext'
    simp
def rMulS : R2 := fun x y H Q => ∃ (z : Str) (n : Nat), x = .str z ∧ y = .int n ∧ z.length * n ≤ 16777216 ∧ 1 < n ∧ 0 < z.length ∧ Q (.str (repS z n)) H
theorem op_mulS : OpR X (binaryOp .Mult) rMulS := by
  intro pins s σ H x y v u Q I rx ry h
  obtain ⟨z, n, rfl, rfl, hz, h1, h0, q⟩ := h
  obtain ⟨t, rfl⟩ := rx
  obtain ⟨t', rfl⟩ := ry
  have hn : n ≤ 16777216 := Nat.le_trans (Nat.le_mul_of_pos_left n h0) hz
  have e1 : ((n : Int) == 1 || z.length == 0) = false := by
    have a : ((n : Int) == 1) = false := beq_eq_false_iff_ne.mpr (by omega)
    have b : (z.length == 0) = false := beq_eq_false_iff_ne.mpr (by omega)
    rw [a, b]
    rfl
  have hl : z.length ≤ 16777216 := Nat.le_trans (Nat.le_mul_of_pos_right _ (by omega)) hz
  refine PySem.P.mul_str (by rw [decide_eq_false (by omega), decide_eq_false (by omega)]; rfl) (fun _ _ hc => ?_) (fun _ _ => ?_) ?_
  · have h2 : (2 ^ 63 - 1 : Int) / (n : Int) ≥ (2 ^ 63 - 1) / 16777216 := by
      rw [ge_iff_le, Int.le_ediv_iff_mul_le (by omega)]
      have : ((2 ^ 63 - 1 : Int) / 16777216) * (n : Int) ≤ (2 ^ 63 - 1) / 16777216 * 16777216 := Int.mul_le_mul_of_nonneg_left (by omega) (by decide)
      omega
    have h3 : ((2 ^ 63 - 1 : Int) / 16777216) = 549755813887 := by decide
    omega
  · show decide _ = false
    rw [Int.toNat_natCast]
    refine decide_eq_false ?_
    have e := sizeLine_eq
    omega
  · rw [if_neg (by omega), if_neg (by rw [e1]; exact Bool.false_ne_true), Int.toNat_natCast]
    have e2 : (⟨(List.replicate n z.cps).foldl (· ++ ·) #[]⟩ : Str) = repS z n := by
      unfold repS
      rw [repS_fold]
      simp
    rw [e2]
    refine ⟨?_, ⟨.str (repS z n), H, I.tok _, ⟨_, rfl⟩, q⟩⟩
    show (repS z n).cps.size ≤ sizeLine
    unfold repS
    rw [List.size_toArray, PyProof.Rows.lm_len_rep_flat, sizeLine_eq]
    have : z.cps.toList.length = z.length := by simp [Str.length]
    rw [this, Nat.mul_comm]
    exact hz
def rMulA : R2 := fun x y H Q => rI CMul (fun i j => .int (i * j)) x y H Q ∨ rMulS x y H Q ∨ rRep x y H Q
theorem op_mulA : OpR X (binaryOp .Mult) rMulA := OpR.or op_mul (OpR.or op_mulS op_rep)
/-! == of anything that is data -/
/-- what is the very same at two places, or a scalar -/
def plainV : V → Bool
  | .ref _ => true
  | .int _ => true
  | .str _ => true
  | .bl _ => true
  | .non => true
  | _ => false
theorem eqAt_same {A : Around} {s : Shared} {v : V} {u u' : Value} (h : plainV v = true) (r : RelV v u) (r' : RelV v u') : SeqAt.EqAt A s u u' true := by
  cases v with
  | ref a =>
    cases r
    cases r'
    exact SeqAt.EqAt.same _
  | int i =>
    obtain ⟨t, rfl⟩ := r
    obtain ⟨t', rfl⟩ := r'
    have := SeqAt.EqAt.int_int (A := A) (s := s) i t i t'
    rwa [beq_self_eq_true] at this
  | str z =>
    obtain ⟨t, rfl⟩ := r
    obtain ⟨t', rfl⟩ := r'
    have := SeqAt.EqAt.str_str (A := A) (s := s) z t z t'
    rwa [beq_self_eq_true] at this
  | bl b =>
    cases r
    cases r'
    exact SeqAt.EqAt.same _
  | non =>
    cases r
    cases r'
    exact SeqAt.EqAt.same _
  | _ => cases h
theorem nth_arr {d : Value} : ∀ {l : List Value} {j : Nat} (h : j < l.toArray.size), l.toArray[j] = nth d l j
  | [], j, h => absurd h (by simp)
  | a :: l, 0, _ => rfl
  | a :: l, j + 1, h => by
    have h' : j < l.toArray.size := by simpa using h
    have := nth_arr (d := d) h'
    simpa [nth] using this
theorem plain_nth : ∀ {xs : List V} (j : Nat), xs.all plainV = true → plainV (nth .non xs j) = true
  | [], _, _ => rfl
  | x :: xs, 0, h => by
    rw [List.all_cons, Bool.and_eq_true] at h
    exact h.1
  | x :: xs, j + 1, h => by
    rw [List.all_cons, Bool.and_eq_true] at h
    exact plain_nth j h.2
def rEqI (K : PySem.W.Frag) : R2 := fun x y H Q => ∃ a b xs, x = .ref a ∧ y = .ref b ∧ SqT K H a xs ∧ SqT K H b xs ∧ xs.all plainV = true ∧ Q (.bl true) H
def rNeI (K : PySem.W.Frag) : R2 := fun x y H Q => ∃ a b xs, x = .ref a ∧ y = .ref b ∧ SqT K H a xs ∧ SqT K H b xs ∧ xs.all plainV = true ∧ Q (.bl false) H
theorem eqI_items {A : Around} {s : Shared} {xs : List V} {ia ib : List Value} (ra : Vals xs ia) (rb : Vals xs ib) (hp : xs.all plainV = true) : ∀ j (h1 : j < ia.toArray.size) (h2 : j < ib.toArray.size), SeqAt.EqAt A s ia.toArray[j] ib.toArray[j] true := by
  intro j h1 h2
  rw [nth_arr (d := .none) h1, nth_arr (d := .none) h2]
  exact eqAt_same (plain_nth j hp) (nth_rel j ra) (nth_rel j rb)
theorem eqI_all {xs : List V} {ia ib : List Value} (ra : Vals xs ia) (rb : Vals xs ib) : ((List.range (min ia.toArray.size ib.toArray.size)).all (fun _ => true) && ia.toArray.size == ib.toArray.size) = true := by
  rw [Bool.and_eq_true]
  refine ⟨List.all_eq_true.mpr fun _ _ => rfl, ?_⟩
  rw [List.size_toArray, List.size_toArray, ← ra.length, ← rb.length]
  exact beq_self_eq_true _
theorem op_eqI {k : Nat} (hr : Room k X.A) : OpR X (compareOp .Eq) (rEqI X.K) := by
  intro pins s σ H x y v u Q I rx ry h
  obtain ⟨a, b, xs, rfl, rfl, ha, hb, hp, q⟩ := h
  cases rx
  cases ry
  obtain ⟨ia, ra, ta, _⟩ := I.tuple ha
  obtain ⟨ib, rb, tb, _⟩ := I.tuple hb
  have hu := hr.units
  refine SeqAt.eq_tupleAt (e := fun _ => true) ta tb (by omega) (eqI_items ra rb hp) ?_
  rw [eqI_all ra rb]
  exact ⟨.bl true, H, I, rfl, q⟩
theorem op_neI {k : Nat} (hr : Room k X.A) : OpR X (compareOp .NotEq) (rNeI X.K) := by
  intro pins s σ H x y v u Q I rx ry h
  obtain ⟨a, b, xs, rfl, rfl, ha, hb, hp, q⟩ := h
  cases rx
  cases ry
  obtain ⟨ia, ra, ta, _⟩ := I.tuple ha
  obtain ⟨ib, rb, tb, _⟩ := I.tuple hb
  have hu := hr.units
  refine SeqAt.RcNeAt.tuples (e := fun _ => true) ta tb (by omega) (eqI_items ra rb hp) X.prog X.w _ _ ?_
  rw [eqI_all ra rb]
  exact ⟨.bl false, H, I, rfl, q⟩
def rEqA (K : PySem.W.Frag) : R2 := fun x y H Q => rEq x y H Q ∨ rEqD K x y H Q ∨ rEqI K x y H Q
def rNeA (K : PySem.W.Frag) : R2 := fun x y H Q => rNe x y H Q ∨ rNeD K x y H Q ∨ rNeI K x y H Q
theorem op_eqA {k : Nat} (hr : Room k X.A) : OpR X (compareOp .Eq) (rEqA X.K) := OpR.or op_eq (OpR.or (op_eqD hr.units) (op_eqI hr))
theorem op_neA {k : Nat} (hr : Room k X.A) : OpR X (compareOp .NotEq) (rNeA X.K) := OpR.or op_ne (OpR.or (op_neD hr.units) (op_neI hr))
/-! in: of a list or tuple of flat things, a sign in a text -/
def rInSg : R2 := fun x y H Q => ∃ (c : Nat) (z : Str), x = .str ⟨#[c]⟩ ∧ y = .str z ∧ Q (.bl (decide (c ∈ z.cps.toList))) H
def rNotInSg : R2 := fun x y H Q => ∃ (c : Nat) (z : Str), x = .str ⟨#[c]⟩ ∧ y = .str z ∧ Q (.bl (!decide (c ∈ z.cps.toList))) H
def rInA (K : PySem.W.Frag) : R2 := fun x y H Q => rIn K false x y H Q ∨ rInSg x y H Q
def rNotInA (K : PySem.W.Frag) : R2 := fun x y H Q => rIn K true x y H Q ∨ rNotInSg x y H Q
theorem op_inA : OpR X (compareOp .In) (rInA X.K) := OpR.or op_in_seq op_in_sign
theorem op_notInA : OpR X (compareOp .NotIn) (rNotInA X.K) := OpR.or op_notIn_seq op_notIn_sign
/-! repr of data -/
def rRepr (K : PySem.W.Frag) : List V → Hp → VK → Prop := fun xs H Q => ∃ a d, xs = [a] ∧ Dp K H a d ∧ d.showable = true ∧ d.hasDict = false ∧ d.shown.length ≤ sizeLine ∧ d.depth ≤ 60 ∧ Q (.str d.shown) H
theorem call_repr {k : Nat} (hr : Room k X.A) (hg : X.A.guards = some []) : CallR X (.builtin "repr") (rRepr X.K) := by
  intro pins s σ H xs us Q I r h
  obtain ⟨a, d, rfl, hd, hs, hn, hz, hw, q⟩ := h
  obtain ⟨u, rfl, ru⟩ := vals1 r
  obtain ⟨as, rd⟩ := Dp.reads I d a u hd ru
  have := hr.units
  cases hd with
  | non =>
    cases ru
    refine PySem.P.repr_of_none ⟨.str _, H, I.tok _, ⟨_, rfl⟩, ?_⟩
    simpa only [PyData.shown] using q
  | bl b =>
    cases ru
    refine PySem.P.repr_of_bool ⟨.str _, H, I.tok _, ⟨_, rfl⟩, ?_⟩
    simpa only [PyData.shown] using q
  | int i =>
    obtain ⟨t, rfl⟩ := ru
    refine PySem.P.repr_of_int (by simpa [PyData.showable] using hs) ⟨.str _, H, I.tok _, ⟨_, rfl⟩, ?_⟩
    simpa only [PyData.shown] using q
  | str x =>
    obtain ⟨t, rfl⟩ := ru
    refine PySem.P.repr_of_str ⟨.str _, H, I.tok _, ⟨_, rfl⟩, ?_⟩ (by simpa only [PyData.shown] using hz)
    simpa only [PyData.shown] using q
  | lst h1 h2 =>
    cases ru
    exact repr_of_reads' rd hs (PyData.noDict_hsm hn) hg (by omega) (fun _ _ e => e) (fun h' u tk kp => ⟨.str _, H, I.kept kp, ⟨_, rfl⟩, q⟩) hz
  | tup h1 h2 =>
    cases ru
    exact repr_of_reads' rd hs (PyData.noDict_hsm hn) hg (by omega) (fun _ _ e => e) (fun h' u tk kp => ⟨.str _, H, I.kept kp, ⟨_, rfl⟩, q⟩) hz
end
end Bz
namespace Bz
open PySem PySem.Spec PyProof.Rows L2
/-! ### what is known of the heap: B what stays for good, M and L what is owned and may change -/
structure Is (B : Hp) (M L : List (Addr × HO)) (H : Hp) : Prop where
  ex : Same B H
  own : ∀ p ∈ L ++ M, H p.1 = some p.2 ∧ B p.1 = none
  nd : ((L ++ M).map (·.1)).Nodup
inductive Put (a : Addr) (o : HO) : List (Addr × HO) → List (Addr × HO) → Prop
  | here {u : HO} {L : List (Addr × HO)} : Put a o ((a, u) :: L) ((a, o) :: L)
  | there {x : Addr × HO} {L L' : List (Addr × HO)} : Put a o L L' → Put a o (x :: L) (x :: L')
inductive Del (a : Addr) (o : HO) : List (Addr × HO) → List (Addr × HO) → Prop
  | here {L : List (Addr × HO)} : Del a o ((a, o) :: L) L
  | there {x : Addr × HO} {L L' : List (Addr × HO)} : Del a o L L' → Del a o (x :: L) (x :: L')
section
variable {a : Addr} {o : HO} {L L' : List (Addr × HO)}
theorem Put.keys : ∀ {L L'}, Put a o L L' → L'.map (·.1) = L.map (·.1)
  | _, _, .here => rfl
  | _, _, .there h => by rw [List.map_cons, List.map_cons, h.keys]
theorem Put.mem : ∀ {L L'}, Put a o L L' → ∀ p ∈ L', p ∈ L ∨ p = (a, o)
  | _, _, .here, p, hp => by
    rcases List.mem_cons.mp hp with e | e
    · exact .inr e
    · exact .inl (List.mem_cons_of_mem _ e)
  | _, _, .there h, p, hp => by
    rcases List.mem_cons.mp hp with e | e
    · exact .inl (by rw [e]; exact List.mem_cons_self)
    · rcases h.mem p e with q | q
      · exact .inl (List.mem_cons_of_mem _ q)
      · exact .inr q
theorem Put.has : ∀ {L L'}, Put a o L L' → a ∈ L.map (·.1)
  | _, _, .here => List.mem_cons_self
  | _, _, .there h => List.mem_cons_of_mem _ h.has
theorem Put.app {M : List (Addr × HO)} : ∀ {L L'}, Put a o L L' → Put a o (L ++ M) (L' ++ M)
  | _, _, .here => .here
  | _, _, .there h => .there h.app
theorem Put.app2 (h : Put a o L L') : ∀ M : List (Addr × HO), Put a o (M ++ L) (M ++ L')
  | [] => h
  | _ :: M => .there (Put.app2 h M)
theorem Del.mem : ∀ {L L'}, Del a o L L' → (a, o) ∈ L
  | _, _, .here => List.mem_cons_self
  | _, _, .there h => List.mem_cons_of_mem _ h.mem
theorem Del.perm : ∀ {L L'}, Del a o L L' → L.Perm ((a, o) :: L')
  | _, _, .here => .refl _
  | _, _, .there h => (List.Perm.cons _ h.perm).trans (.swap _ _ _)
end
section
variable {B B' H H' : Hp} {M M' L L' : List (Addr × HO)} {a p : Addr} {o u : HO} {K : PySem.W.Frag} {xs : List V}
theorem Is.get (I : Is B M L H) (h : (a, o) ∈ L) : H a = some o := (I.own (a, o) (List.mem_append_left _ h)).1
theorem Is.getM (I : Is B M L H) (h : (a, o) ∈ M) : H a = some o := (I.own (a, o) (List.mem_append_right _ h)).1
theorem Is.free (I : Is B M L H) (h : H p = none) : B p = none := I.ex.free h
theorem Is.back {B0 : Hp} (s : Same B0 B) (I : Is B M L H) : Is B0 M L H := ⟨s.trans I.ex, fun p hp => ⟨(I.own p hp).1, s.free (I.own p hp).2⟩, I.nd⟩
theorem Is.notin (I : Is B M L H) (h : H p = none) : p ∉ (L ++ M).map (·.1) := fun z => by
  obtain ⟨q, hq, e⟩ := List.mem_map.mp z
  have := (I.own q hq).1
  rw [e, h] at this
  cases this
/-- a new object -/
theorem Is.new (I : Is B M L H) (h : H p = none) : Is B M ((p, o) :: L) (upd H p o) := by
  refine ⟨fun b x e => ?_, fun q hq => ?_, ?_⟩
  · have := I.ex b x e
    rw [upd_ne (ne_of_none this h)]
    exact this
  · rcases List.mem_cons.mp hq with e | e
    · rw [e]
      exact ⟨upd_same, I.free h⟩
    · obtain ⟨h1, h2⟩ := I.own q e
      exact ⟨by rw [upd_ne (ne_of_none h1 h)]; exact h1, h2⟩
  · exact List.nodup_cons.mpr ⟨I.notin h, I.nd⟩
/-- a new object, the rest as it was (behind a call) -/
theorem Is.new' (I : Is B M L H) (s : Same H H') (h : H p = none) (e : H' p = some o) : Is B M ((p, o) :: L) H' := by
  refine ⟨I.ex.trans s, fun q hq => ?_, List.nodup_cons.mpr ⟨I.notin h, I.nd⟩⟩
  rcases List.mem_cons.mp hq with z | z
  · rw [z]
    exact ⟨e, I.free h⟩
  · obtain ⟨h1, h2⟩ := I.own q z
    exact ⟨s _ _ h1, h2⟩
theorem Is.same (I : Is B M L H) (s : Same H H') : Is B M L H' := ⟨I.ex.trans s, fun q hq => ⟨s _ _ (I.own q hq).1, (I.own q hq).2⟩, I.nd⟩
theorem Is.put0 {l l' : List (Addr × HO)} (hl : Put a o l l') (ex : Same B H) (own : ∀ p ∈ l, H p.1 = some p.2 ∧ B p.1 = none) (nd : (l.map (·.1)).Nodup) :
    Same B (upd H a o) ∧ (∀ p ∈ l', (upd H a o) p.1 = some p.2 ∧ B p.1 = none) ∧ (l'.map (·.1)).Nodup := by
  have ha : B a = none := by
    obtain ⟨q, hq, e⟩ := List.mem_map.mp hl.has
    rw [← e]
    exact (own q hq).2
  refine ⟨fun b x e => ?_, fun q hq => ?_, by rw [hl.keys]; exact nd⟩
  · have hb : b ≠ a := fun z => by rw [z, ha] at e; cases e
    rw [upd_ne hb]
    exact ex b x e
  · by_cases hqa : q.1 = a
    · refine ⟨?_, by rw [hqa]; exact ha⟩
      -- the only entry at a is the new one
      have key : ∀ {l l'}, Put a o l l' → (l.map (·.1)).Nodup → ∀ q ∈ l', q.1 = a → q = (a, o) := by
        intro l l' h
        induction h with
        | here =>
          intro n q hq e
          rcases List.mem_cons.mp hq with z | z
          · exact z
          · have n1 := (List.nodup_cons.mp n).1
            exact absurd (show a ∈ _ from by rw [← e]; exact List.mem_map_of_mem z) n1
        | there h ih =>
          intro n q hq e
          obtain ⟨n1, n2⟩ := List.nodup_cons.mp n
          rcases List.mem_cons.mp hq with z | z
          · rw [z] at e
            have n1' : ¬ _ ∈ _ := n1
            exact absurd (by rw [← e] at h; exact h.has) n1'
          · exact ih n2 q z e
      rw [key hl nd q hq hqa]
      exact upd_same
    · rw [upd_ne hqa]
      rcases hl.mem q hq with z | z
      · exact own q z
      · rw [z] at hqa
        exact absurd rfl hqa
theorem Is.put (I : Is B M L H) (h : Put a o L L') : Is B M L' (upd H a o) := by
  obtain ⟨h1, h2, h3⟩ := Is.put0 (h.app (M := M)) I.ex I.own I.nd
  exact ⟨h1, h2, h3⟩
theorem Is.putM (I : Is B M L H) (h : Put a o M M') : Is B M' L (upd H a o) := by
  obtain ⟨h1, h2, h3⟩ := Is.put0 (h.app2 L) I.ex I.own I.nd
  exact ⟨h1, h2, h3⟩
/-- a thing is given away: it will not change any more -/
theorem Is.frz (I : Is B M L H) (d : Del a o L L') : Is (upd B a o) M L' H ∧ Same B (upd B a o) := by
  have pm : (L ++ M).Perm ((a, o) :: (L' ++ M)) := (d.perm.append_right M)
  have ha := I.own (a, o) (List.mem_append_left _ d.mem)
  have nd := (pm.map (·.1)).nodup_iff.mp I.nd
  obtain ⟨n1, n2⟩ := List.nodup_cons.mp nd
  refine ⟨⟨fun b x e => ?_, fun q hq => ?_, n2⟩, fun b x e => ?_⟩
  · by_cases hb : b = a
    · rw [hb, upd_same] at e
      rw [hb, ← e]
      exact ha.1
    · rw [upd_ne hb] at e
      exact I.ex b x e
  · have h2 := I.own q (pm.mem_iff.mpr (List.mem_cons_of_mem _ hq))
    refine ⟨h2.1, ?_⟩
    have hb : q.1 ≠ a := fun z => n1 (by rw [← z]; exact List.mem_map.mpr ⟨q, hq, rfl⟩)
    rw [upd_ne hb]
    exact h2.2
  · have hb : b ≠ a := fun z => by
      have := ha.2
      rw [z, this] at e
      cases e
    rw [upd_ne hb]
    exact e
theorem Is.forget (I : Is B M L H) (h : L'.Sublist L) : Is B M L' H :=
  ⟨I.ex, fun q hq => I.own q ((h.append (.refl M)).subset hq), I.nd.sublist ((h.append (.refl M)).map _)⟩
theorem Is.forgetM (I : Is B M L H) (h : M'.Sublist M) : Is B M' L H :=
  ⟨I.ex, fun q hq => I.own q (((List.Sublist.refl L).append h).subset hq), I.nd.sublist (((List.Sublist.refl L).append h).map _)⟩
theorem Is.perm (I : Is B M L H) (h : L'.Perm L) : Is B M L' H :=
  ⟨I.ex, fun q hq => I.own q ((h.append_right M).mem_iff.mp hq), ((h.append_right M).map _).nodup_iff.mpr I.nd⟩
/-- owned things told as M -/
theorem Is.toM (I : Is B [] (L ++ M) H) : Is B M L H := ⟨I.ex, fun q hq => I.own q (by rw [List.append_nil]; exact hq), by have := I.nd; rwa [List.append_nil] at this⟩
theorem Is.ofM (I : Is B M L H) : Is B [] (L ++ M) H := ⟨I.ex, fun q hq => I.own q (by rwa [List.append_nil] at hq), by have := I.nd; rwa [List.append_nil]⟩
theorem Same.sqT (e : Same H H') (h : SqT K H a xs) : SqT K H' a xs := by
  rcases h with (h | ⟨o, h⟩) | h
  · exact .inl (.inl (e _ _ h))
  · exact .inl (.inr ⟨o, e _ _ h⟩)
  · exact .inr h
theorem Is.sq (I : Is B M L H) (h : SqL K B a xs) : SqL K H a xs := Same.seq I.ex h
theorem Is.st (I : Is B M L H) (h : SqT K B a xs) : SqT K H a xs := Same.sqT I.ex h
theorem Is.sqL (I : Is B M L H) (h : (a, HO.lst xs) ∈ L) : SqL K H a xs := .of (I.get h)
theorem Is.stL (I : Is B M L H) (h : (a, HO.tup xs) ∈ L) : SqT K H a xs := .of (I.get h)
theorem Is.sqM (I : Is B M L H) (h : (a, HO.lst xs) ∈ M) : SqL K H a xs := .of (I.getM h)
theorem Is.b (I : Is B M L H) (h : B a = some o) : H a = some o := I.ex _ _ h
mutual
theorem Dp.same (e : Same H H') : ∀ {v : V} {d : PyData}, Dp K H v d → Dp K H' v d
  | _, _, .non => .non
  | _, _, .bl b => .bl b
  | _, _, .int i => .int i
  | _, _, .str x => .str x
  | _, _, .lst h1 h2 => .lst (Same.seq e h1) (DpAll.same e h2)
  | _, _, .tup h1 h2 => .tup (Same.sqT e h1) (DpAll.same e h2)
theorem DpAll.same (e : Same H H') : ∀ {v : List V} {d : List PyData}, DpAll K H v d → DpAll K H' v d
  | _, _, .nil => .nil
  | _, _, .cons h1 h2 => .cons (Dp.same e h1) (DpAll.same e h2)
end
end
end Bz
namespace Bz
open PySem PySem.Spec PyProof.Rows L2
abbrev St := L2.St
/-! ### slots -/
inductive At : St → Nat → V → Prop
  | z {v : V} {l : St} : At (some v :: l) 0 v
  | s {x : Option V} {l : St} {n : Nat} {v : V} : At l n v → At (x :: l) (n + 1) v
inductive SetAt : St → Nat → Option V → St → Prop
  | z {x v : Option V} {l : St} : SetAt (x :: l) 0 v (v :: l)
  | s {x v : Option V} {l l' : St} {n : Nat} : SetAt l n v l' → SetAt (x :: l) (n + 1) v (x :: l')
inductive Wiped : St → List Nat → St → Prop
  | nil {σ : St} : Wiped σ [] σ
  | cons {σ σ1 σ2 : St} {v : Nat} {vs : List Nat} : Wiped σ vs σ1 → SetAt σ1 v none σ2 → Wiped σ (v :: vs) σ2
theorem At.eq : ∀ {σ : St} {n : Nat} {v : V}, At σ n v → σ[n]? = some (some v)
  | _, _, _, .z => rfl
  | _, _, _, .s h => by
    rw [List.getElem?_cons_succ]
    exact h.eq
theorem SetAt.eq : ∀ {σ σ' : St} {n : Nat} {v : Option V}, SetAt σ n v σ' → σ.set n v = σ'
  | _, _, _, _, .z => rfl
  | _, _, _, _, .s h => by rw [List.set_cons_succ, h.eq]
theorem Wiped.eq : ∀ {σ σ' : St} {vs : List Nat}, Wiped σ vs σ' → wipe σ vs = σ'
  | _, _, _, .nil => rfl
  | _, _, _, .cons h s => by
    unfold wipe
    rw [h.eq, s.eq]
/-! ### steps of a reading -/
section
variable {σ σ' : St} {H : Hp} {Q : VK} {v x y : V} {i : Nat} {ta tb tc te : TE} {D : Ends} {t u : TS} {c c' : TT} {K : PySem.W.Frag} {R : It → Hp → Prop}
variable {nx bk ct : St → Hp → Prop} {rt : VK} {QB : Bool → Hp → Prop} {QL : List V → Hp → Prop} {QS : St → Hp → Prop} {tl tr : TA} {r r' : R2}
theorem g_seq (h : t ⟨fun σ H => u ⟨nx, rt, bk, ct⟩ σ H, rt, bk, ct⟩ σ H) : tSeq t u ⟨nx, rt, bk, ct⟩ σ H := h
theorem g_next (h : nx σ H) : tNext ⟨nx, rt, bk, ct⟩ σ H := h
theorem g_brk (h : bk σ H) : tBreak ⟨nx, rt, bk, ct⟩ σ H := h
theorem g_cont (h : ct σ H) : tCont ⟨nx, rt, bk, ct⟩ σ H := h
theorem g_drop (h : te σ H fun _ H1 => nx σ H1) : tDrop te ⟨nx, rt, bk, ct⟩ σ H := h
theorem g_ret (h : te σ H rt) : tRet te ⟨nx, rt, bk, ct⟩ σ H := h
theorem g_retN (h : rt .non H) : tRetN ⟨nx, rt, bk, ct⟩ σ H := h
theorem g_ifS (h : c σ H fun b H1 => if b = true then t ⟨nx, rt, bk, ct⟩ σ H1 else u ⟨nx, rt, bk, ct⟩ σ H1) : tIfS c t u ⟨nx, rt, bk, ct⟩ σ H := h
theorem g_asg {g : TG} (h : te σ H fun x H1 => g x σ H1 nx) : tAsg te g ⟨nx, rt, bk, ct⟩ σ H := h
theorem g_name (s : SetAt σ i (some v) σ') (q : QS σ' H) : gName i v σ H QS := by
  show QS (σ.set i (some v)) H
  rw [s.eq]
  exact q
theorem g_par {j : Nat} (h : tl σ H fun vs H1 => ∃ v w, vs = [v, w] ∧ nx ((σ.set i (some v)).set j (some w)) H1) : tPar i j tl ⟨nx, rt, bk, ct⟩ σ H := h
theorem g_par2 {j : Nat} {w : V} {σ2 : St} (s : SetAt σ i (some v) σ') (s2 : SetAt σ' j (some w) σ2) (q : nx σ2 H) :
    ∃ v' w', [v, w] = [v', w'] ∧ nx ((σ.set i (some v')).set j (some w')) H := by
  refine ⟨v, w, rfl, ?_⟩
  rw [s.eq, s2.eq]
  exact q
theorem g_var (h : At σ i v) (q : Q v H) : tVar i σ H Q := ⟨v, h.eq, q⟩
theorem g_c (q : Q v H) : tC v σ H Q := q
theorem g_op (h : ta σ H fun x H1 => tb σ H1 fun y H2 => r x y H2 Q) : tOp r ta tb σ H Q := h
theorem g_un {r : V → Hp → VK → Prop} (h : ta σ H fun x H1 => r x H1 Q) : tUn r ta σ H Q := h
theorem g_nil (q : QL [] H) : tNil σ H QL := q
theorem g_cons (h : te σ H fun x H1 => tr σ H1 fun xs H2 => QL (x :: xs) H2) : tCons te tr σ H QL := h
theorem g_cb {r : List V → Hp → VK → Prop} (h : tl σ H fun vs H1 => r vs H1 Q) : tCB r tl σ H Q := h
/-! tests -/
def aBl (x : V) (H : Hp) (Q : Bool → Hp → Prop) : Prop := ∃ k, x = .bl k ∧ Q k H
theorem g_test (h : te σ H fun x H1 => aBl x H1 QB) : tTest te σ H QB := h
theorem g_tB (h : te σ H fun x H1 => aBl x H1 QB) : tB te σ H QB := h
theorem g_bl {b : Bool} (q : QB b H) : aBl (.bl b) H QB := ⟨b, rfl, q⟩
theorem g_and (h : c σ H fun b H1 => if b = true then c' σ H1 QB else QB false H1) : tAnd c c' σ H QB := h
theorem g_or (h : c σ H fun b H1 => if b = true then QB true H1 else c' σ H1 QB) : tOr c c' σ H QB := h
theorem g_not (h : c σ H fun b H1 => QB (!b) H1) : tNot c σ H QB := h
def aIfV (x : V) (H : Hp) (A B : Hp → Prop) : Prop := ∃ c, x = .bl c ∧ if c = true then A H else B H
theorem g_andV (h : ta σ H fun x H1 => aIfV x H1 (fun H1 => tb σ H1 Q) fun H1 => Q (.bl false) H1) : tAndV ta tb σ H Q := h
theorem g_orV (h : ta σ H fun x H1 => aIfV x H1 (fun H1 => Q (.bl true) H1) fun H1 => tb σ H1 Q) : tOrV ta tb σ H Q := h
theorem g_ifV {A B : Hp → Prop} {b : Bool} (h : if b = true then A H else B H) : aIfV (.bl b) H A B := ⟨b, rfl, h⟩
def aNot (x : V) (H : Hp) (Q : VK) : Prop := ∃ c, x = .bl c ∧ Q (.bl (!c)) H
theorem g_notV (h : ta σ H fun x H1 => aNot x H1 Q) : tNotV ta σ H Q := h
theorem g_aNot {b : Bool} (q : Q (.bl (!b)) H) : aNot (.bl b) H Q := ⟨b, rfl, q⟩
theorem g_ifE (h : c σ H fun b H1 => if b = true then ta σ H1 Q else tb σ H1 Q) : tIf c ta tb σ H Q := h
theorem g_chain (h : ta σ H fun x H1 => tb σ H1 fun y H2 => r x y H2 fun z H3 => aIfV z H3 (fun H3 => tc σ H3 fun w H4 => r' y w H4 Q) fun H3 => Q (.bl false) H3) : tChain r r' ta tb tc σ H Q := h
def tTr (K : PySem.W.Frag) (ta : TE) : TT := fun σ H Q => ta σ H fun x H' => ∃ k, TruV K x H' k ∧ Q k H'
def aTru (K : PySem.W.Frag) (x : V) (H : Hp) (Q : Bool → Hp → Prop) : Prop := ∃ k, TruV K x H k ∧ Q k H
theorem pt_tr {X : Cx} {a : Expr} {ta : TE} (ha : PE X a ta) (he : ∀ whole, isTrue a X.env whole = (do let v ← whole; standAt a.pos; holding [v] (truthy v)) := by intro _; rfl) : PT X a (tTr X.K ta) := pt_truth ha he
theorem g_tr (h : ta σ H fun x H' => aTru K x H' QB) : tTr K ta σ H QB := h
theorem g_tru_bl {b : Bool} (q : QB b H) : aTru K (.bl b) H QB := ⟨b, rfl, q⟩
theorem g_tru_non (q : QB false H) : aTru K .non H QB := ⟨false, rfl, q⟩
theorem g_tru_int {n : Int} (q : QB (n != 0) H) : aTru K (.int n) H QB := ⟨_, rfl, q⟩
theorem g_tru_lst {a : Addr} {xs : List V} (h : SqL K H a xs) (q : QB (!xs.isEmpty) H) : aTru K (.ref a) H QB := ⟨_, .inl ⟨xs, h, rfl⟩, q⟩
theorem g_tru_str {z : Str} (h : z.length ≤ sizeLine) (q : QB ((z.length : Int) != 0) H) : aTru K (.str z) H QB := ⟨_, ⟨h, rfl⟩, q⟩
/-! numbers -/
theorem g_rI0 {g : Int → Int → V} {a b : Int} (q : Q (g a b) H) : rI0 g (.int a) (.int b) H Q := ⟨a, b, rfl, rfl, q⟩
theorem g_rI {C : Int → Int → Prop} {g : Int → Int → V} {a b : Int} (h : C a b) (q : Q (g a b) H) : rI C g (.int a) (.int b) H Q := ⟨a, b, rfl, rfl, h, q⟩
theorem g_rU {g : Int → V} {a : Int} (q : Q (g a) H) : rU g (.int a) H Q := ⟨a, rfl, q⟩
theorem g_add_i {a b : Int} (q : Q (.int (a + b)) H) : rAddA K (.int a) (.int b) H Q := .inl ⟨a, b, rfl, rfl, q⟩
theorem g_add_s {a b : Str} (h : a.length + b.length ≤ 1000000) (q : Q (.str (a ++ b)) H) : rAddA K (.str a) (.str b) H Q :=
  .inr (.inl ⟨a, b, rfl, rfl, Nat.le_trans h (by decide), q⟩)
theorem g_mul_i {a b : Int} (h : CMul a b) (q : Q (.int (a * b)) H) : rMulA (.int a) (.int b) H Q := .inl ⟨a, b, rfl, rfl, h, q⟩
theorem g_mul_s {z : Str} {n : Nat} (h : z.length * n ≤ 1000000) (h1 : 1 < n) (h0 : 0 < z.length) (q : Q (.str (repS z n)) H) : rMulA (.str z) (.int (n : Int)) H Q :=
  .inr (.inl ⟨z, n, rfl, rfl, Nat.le_trans h (by decide), h1, h0, q⟩)
/-! comparisons -/
theorem g_eq_s (h : scal x y = true) (q : Q (.bl (decide (x = y))) H) : rEqA K x y H Q := .inl ⟨h, q⟩
theorem g_ne_s (h : scal x y = true) (q : Q (.bl (!decide (x = y))) H) : rNeA K x y H Q := .inl ⟨h, q⟩
theorem g_eq_d {d e : PyData} (h1 : Dp K H x d) (h2 : Dp K H y e) (s1 : SeqAt.shaped d = true) (s2 : SeqAt.shaped e = true) (q : Q (.bl (PyData.eqv d e)) H) : rEqA K x y H Q := .inr (.inl ⟨d, e, h1, h2, s1, s2, q⟩)
theorem g_ne_d {d e : PyData} (h1 : Dp K H x d) (h2 : Dp K H y e) (s1 : SeqAt.shaped d = true) (s2 : SeqAt.shaped e = true) (q : Q (.bl (!PyData.eqv d e)) H) : rNeA K x y H Q := .inr (.inl ⟨d, e, h1, h2, s1, s2, q⟩)
theorem g_eq_i {a b : Addr} {xs : List V} (h1 : SqT K H a xs) (h2 : SqT K H b xs) (p : xs.all plainV = true) (q : Q (.bl true) H) : rEqA K (.ref a) (.ref b) H Q := .inr (.inr ⟨a, b, xs, rfl, rfl, h1, h2, p, q⟩)
theorem g_ne_i {a b : Addr} {xs : List V} (h1 : SqT K H a xs) (h2 : SqT K H b xs) (p : xs.all plainV = true) (q : Q (.bl false) H) : rNeA K (.ref a) (.ref b) H Q := .inr (.inr ⟨a, b, xs, rfl, rfl, h1, h2, p, q⟩)
theorem g_in_l {p : Addr} {xs : List V} (h : SqL K H p xs) (f : flatV x = true) (fs : xs.all flatV = true) (q : Q (.bl (inV x xs)) H) : rInA K x (.ref p) H Q := .inl ⟨p, xs, rfl, .inl h, f, fs, q⟩
theorem g_in_t {p : Addr} {xs : List V} (h : SqT K H p xs) (f : flatV x = true) (fs : xs.all flatV = true) (q : Q (.bl (inV x xs)) H) : rInA K x (.ref p) H Q := .inl ⟨p, xs, rfl, .inr h, f, fs, q⟩
theorem g_nin_l {p : Addr} {xs : List V} (h : SqL K H p xs) (f : flatV x = true) (fs : xs.all flatV = true) (q : Q (.bl (!inV x xs)) H) : rNotInA K x (.ref p) H Q := .inl ⟨p, xs, rfl, .inl h, f, fs, q⟩
theorem g_nin_t {p : Addr} {xs : List V} (h : SqT K H p xs) (f : flatV x = true) (fs : xs.all flatV = true) (q : Q (.bl (!inV x xs)) H) : rNotInA K x (.ref p) H Q := .inl ⟨p, xs, rfl, .inr h, f, fs, q⟩
theorem g_in_c {n : Nat} {z : Str} (q : Q (.bl (decide (n ∈ z.cps.toList))) H) : rInA K (.str ⟨#[n]⟩) (.str z) H Q := .inr ⟨n, z, rfl, rfl, q⟩
theorem g_nin_c {n : Nat} {z : Str} (q : Q (.bl (!decide (n ∈ z.cps.toList))) H) : rNotInA K (.str ⟨#[n]⟩) (.str z) H Q := .inr ⟨n, z, rfl, rfl, q⟩
/-! is None -/
def rIsNo : R2 := fun x y H Q => y = .non ∧ Q (.bl (decide (x = .non))) H
def rNoNo : R2 := fun x y H Q => y = .non ∧ Q (.bl (!decide (x = .non))) H
theorem op_isNo {X : Cx} : OpR X (compareOp .Is) rIsNo := op_isN
theorem op_noNo {X : Cx} : OpR X (compareOp .IsNot) rNoNo := op_notN
theorem g_isNo (q : Q (.bl (decide (x = .non))) H) : rIsNo x .non H Q := ⟨rfl, q⟩
theorem g_noNo (q : Q (.bl (!decide (x = .non))) H) : rNoNo x .non H Q := ⟨rfl, q⟩
/-! len -/
def rLen (K : PySem.W.Frag) : List V → Hp → VK → Prop := fun xs H Q => ∃ x n, xs = [x] ∧ LenV K x H n ∧ Q (.int n) H
theorem cl_len {X : Cx} : CallR X (.builtin "len") (rLen X.K) := call_len
theorem g_len_s {z : Str} (h : z.length ≤ 1000000) (q : Q (.int (z.length : Int)) H) : rLen K [.str z] H Q := ⟨_, z.length, rfl, ⟨Nat.le_trans h (by decide), rfl⟩, q⟩
theorem g_len_l {p : Addr} {xs : List V} (h : SqL K H p xs) (q : Q (.int (xs.length : Int)) H) : rLen K [.ref p] H Q := ⟨_, xs.length, rfl, .inl ⟨xs, h, rfl⟩, q⟩
theorem g_len_t {p : Addr} {xs : List V} (h : SqT K H p xs) (q : Q (.int (xs.length : Int)) H) : rLen K [.ref p] H Q := ⟨_, xs.length, rfl, .inr ⟨xs, h, rfl⟩, q⟩
/-! places -/
theorem g_ix_l {p : Addr} {xs : List V} {n : Int} (h : SqL K H p xs) (e : atI xs n = some v) (q : Q v H) : rIx K (.ref p) (.int n) H Q := .inl ⟨p, xs, n, v, rfl, rfl, h, e, q⟩
theorem g_ix_t {p : Addr} {xs : List V} {n : Int} (h : SqT K H p xs) (e : atI xs n = some v) (q : Q v H) : rIx K (.ref p) (.int n) H Q := .inr (.inl ⟨p, xs, n, v, rfl, rfl, h, e, q⟩)
theorem g_ix_s {z : Str} {n : Int} {k : Nat} (h : z.length ≤ 1000000) (e : atI z.cps.toList n = some k) (q : Q (.str ⟨#[k]⟩) H) : rIx K (.str z) (.int n) H Q := .inr (.inr ⟨z, n, k, rfl, rfl, Nat.le_trans h (by decide), e, q⟩)
theorem atI_of {α : Type} {xs : List α} {n : Int} {a : α} (h0 : 0 ≤ n) (h : xs[n.toNat]? = some a) : atI xs n = some a := by
  have hl := (List.getElem?_eq_some_iff.mp h).1
  unfold atI ixN
  rw [if_pos h0, if_pos (by omega)]
  exact h
theorem ixN_of {m : Nat} {n : Int} (h0 : 0 ≤ n) (h : n < m) : ixN m n = some n.toNat := by
  unfold ixN
  rw [if_pos h0, if_pos h]
/-! parts -/
def rSlA (K : PySem.W.Frag) : V → Option Int → Option Int → Hp → VK → Prop := fun x lo hi H Q => rSlL K x lo hi H Q ∨ rSlS x lo hi H Q ∨ L2.rSlA K x lo hi H Q
theorem sl_any {X : Cx} : SlR X (rSlA X.K) := SlR.or sl_list (SlR.or sl_str sl_tupA)
theorem g_sl {tl th : TO} {r : V → Option Int → Option Int → Hp → VK → Prop} (h : te σ H fun x H1 => tl σ H1 fun l H2 => th σ H2 fun u H3 => r x l u H3 Q) : tSl r te tl th σ H Q := h
theorem g_noPart {QO : Option Int → Hp → Prop} (q : QO none H) : tNoPart σ H QO := q
def aPart (x : V) (H : Hp) (Q : Option Int → Hp → Prop) : Prop := ∃ i, x = .int i ∧ Q (some i) H
theorem g_part {QO : Option Int → Hp → Prop} (h : te σ H fun x H1 => aPart x H1 QO) : tPart te σ H QO := h
theorem g_aPart {QO : Option Int → Hp → Prop} {n : Int} (q : QO (some n) H) : aPart (.int n) H QO := ⟨n, rfl, q⟩
theorem g_sl_s {z : Str} {lo hi : Option Int} (h : z.length ≤ 1000000) (q : Q (.str (cutS z lo hi)) H) : rSlA K (.str z) lo hi H Q := .inr (.inl ⟨z, rfl, Nat.le_trans h (by decide), q⟩)
/-! methods of built-in kinds -/
theorem g_bm {T : String} {r : V → List V → Hp → VK → Prop} (h : te σ H fun x H1 => tyV K T x H1 ∧ tl σ H1 fun xs H2 => r x xs H2 Q) : tBM K T r te tl σ H Q := h
theorem g_bm0 {T : String} {r : V → List V → Hp → VK → Prop} (h : te σ H fun x H1 => tyV K T x H1 ∧ r x [] H1 Q) : tBM0 K T r te σ H Q := h
theorem g_m1 {r : V → List V → Hp → VK → Prop} (h : te σ H fun x H1 => (∃ a, x = .str a) ∧ tb σ H1 fun y H2 => r x [y] H2 Q) : tM1 r te tb σ H Q := h
theorem g_isStr {z : Str} {A : Prop} (h : A) : (∃ a, V.str z = .str a) ∧ A := ⟨⟨z, rfl⟩, h⟩
/-! calls -/
def aCl (n m : Nat) (sp : Sp) (gV : List V → List V → List V) (E : XK) (vs zs : List V) (H : Hp) (Q : VK) : Prop := vs.length = n ∧ zs.length = m ∧ sp (gV vs zs) H Q E
theorem g_cl {n m : Nat} {sp : Sp} {gV : List V → List V → List V} {E : XK} (h : tl σ H fun vs H1 => tr σ H1 fun zs H2 => aCl n m sp gV E vs zs H2 Q) : tCl n m sp gV E tl tr σ H Q := h
theorem g_aCl {n m : Nat} {sp : Sp} {gV : List V → List V → List V} {E : XK} {vs zs : List V} (h1 : vs.length = n) (h2 : zs.length = m) (q : sp (gV vs zs) H Q E) : aCl n m sp gV E vs zs H Q := ⟨h1, h2, q⟩
/-! loops -/
def aFor (J : It) (g : TG) (tb : TS) (D : Ends) (σ : St) (H : Hp) : Prop := ∃ W : Nat → Nat → St → Hp → Prop, (∃ m, W 0 m σ H) ∧ ∀ i m σ H, W i m σ H →
  (J.stop i H ∧ D.nx σ H) ∨ (J.go i H ∧ ∃ N : St → Hp → Prop, (∀ σ' H', N σ' H' → ∃ m', m' < m ∧ W (i + 1) m' σ' H') ∧ ∀ x H', J.yld i H x H' → g x σ H' fun σ2 H2 => tb { D with nx := N, ct := N, bk := D.nx } σ2 H2)
theorem g_for {wi : TI} {g : TG} (h : wi σ H fun J H1 => aFor J g t ⟨nx, rt, bk, ct⟩ σ H1) : tFor wi g t ⟨nx, rt, bk, ct⟩ σ H := h
theorem g_aFor {J : It} {n : Nat} {G : Hp → Prop} {Y : Nat → Hp → V → Hp → Prop} {g : TG} (w : Walk J n G Y) (Pv : Nat → St → Hp → Prop) (h0 : Pv 0 σ H) (hG : ∀ i σ H, i ≤ n → Pv i σ H → G H)
    (hs : ∀ i x σ H H', i < n → Pv i σ H → Y i H x H' → g x σ H' fun σ2 H2 => t ⟨Pv (i + 1), rt, nx, Pv (i + 1)⟩ σ2 H2) (hd : ∀ σ H, Pv n σ H → nx σ H) : aFor J g t ⟨nx, rt, bk, ct⟩ σ H :=
  for_it w (D := ⟨nx, rt, bk, ct⟩) Pv h0 hG hs hd
/-! what is walked, by its kind -/
def iAny (K : PySem.W.Frag) (te : TE) : TI := fun σ H R => te σ H fun x H1 => (∃ a, x = .ref a ∧ (∃ xs, SqL K H1 a xs) ∧ R (Itl K a) H1) ∨ (∃ a, x = .ref a ∧ (∃ xs, SqT K H1 a xs) ∧ R (Itt K a) H1) ∨ ∃ z, x = .str z ∧ R (Its z) H1
def aIter (K : PySem.W.Frag) (x : V) (H : Hp) (R : It → Hp → Prop) : Prop := (∃ a, x = .ref a ∧ (∃ xs, SqL K H a xs) ∧ R (Itl K a) H) ∨ (∃ a, x = .ref a ∧ (∃ xs, SqT K H a xs) ∧ R (Itt K a) H) ∨ ∃ z, x = .str z ∧ R (Its z) H
theorem g_iAny (h : te σ H fun x H1 => aIter K x H1 R) : iAny K te σ H R := h
theorem g_it_l {a : Addr} {xs : List V} (h : SqL K H a xs) (q : R (Itl K a) H) : aIter K (.ref a) H R := .inl ⟨a, rfl, ⟨xs, h⟩, q⟩
theorem g_it_t {a : Addr} {xs : List V} (h : SqT K H a xs) (q : R (Itt K a) H) : aIter K (.ref a) H R := .inr (.inl ⟨a, rfl, ⟨xs, h⟩, q⟩)
theorem g_it_s {z : Str} (q : R (Its z) H) : aIter K (.str z) H R := .inr (.inr ⟨z, rfl, q⟩)
theorem pi_any {X : Cx} {tg e : Expr} (he : PE X e te) : PI X tg e (iAny X.K te) := by
  refine ⟨fun pins s σ H R I h => ?_⟩
  refine thn (he.run pins s σ H _ I h) fun v s1 ⟨x, H1, I1, r1, q1⟩ => ?_
  rcases q1 with ⟨a, rfl, ⟨xs, hx⟩, q⟩ | ⟨a, rfl, ⟨xs, hx⟩, q⟩ | ⟨z, rfl, q⟩
  · cases r1
    obtain ⟨its, rv, p, hz⟩ := I1.list hx
    refine wpAny_pyIter_list p.isList ?_
    refine ⟨s1.heap.objs.size, [s1.heap.objs.size], _, _, H1, rfl, I1.kept (t' := s1.toks) fun b o e => Heap.get?_push_of_some _ e, turn_list a _, ⟨_, Heap.get?_push_size _ rfl, rfl, rfl⟩, fun b hb => ?_, q⟩
    obtain rfl : b = s1.heap.objs.size := by simpa using hb
    exact I1.fpOk (Nat.le_refl _) (I1.hok.fresh (Nat.le_refl _))
  · cases r1
    obtain ⟨its, rv, p, hz⟩ := I1.tuple hx
    refine wpAny_pyIter_tuple (show s1.heap.IsTuple a its.toArray from p) ?_
    refine ⟨s1.heap.objs.size, [s1.heap.objs.size], _, _, H1, rfl, I1.kept (t' := s1.toks) fun b o e => Heap.get?_push_of_some _ e, turn_tuple a _, ⟨_, Heap.get?_push_size _ rfl, rfl, rfl⟩, fun b hb => ?_, q⟩
    obtain rfl : b = s1.heap.objs.size := by simpa using hb
    exact I1.fpOk (Nat.le_refl _) (I1.hok.fresh (Nat.le_refl _))
  · obtain ⟨t, rfl⟩ := r1
    cases ha : z.cps.all (· < 128)
    · exact wpAny_pyIter_wide ha (pi_one (tk := s1.toks) I1 _ (turn_str _ z t "str_iterator" (.inr rfl)) ⟨_, Heap.get?_push_size _ rfl, rfl, rfl⟩ q)
    · exact wpAny_pyIter_ascii ha (pi_one (tk := s1.toks) I1 _ (turn_str _ z t "str_ascii_iterator" (.inl rfl)) ⟨_, Heap.get?_push_size _ rfl, rfl, rfl⟩ q)
def aRng1 (vs : List V) (H : Hp) (R : It → Hp → Prop) : Prop := ∃ j : Int, vs = [.int j] ∧ -(2 ^ 62) ≤ j ∧ j < 2 ^ 62 ∧ R (Itr 0 j.toNat) H
theorem g_rng1 (h : tl σ H fun vs H1 => aRng1 vs H1 R) : iRng1 tl σ H R := h
theorem g_aRng1 {j : Int} (h : 0 ≤ j ∧ j < 4000000000) (q : R (Itr 0 j.toNat) H) : aRng1 [.int j] H R := ⟨j, rfl, by omega, by omega, q⟩
def aRng2 (vs : List V) (H : Hp) (R : It → Hp → Prop) : Prop := ∃ i j : Int, vs = [.int i, .int j] ∧ (-(2 ^ 62) ≤ i ∧ i < 2 ^ 62 ∧ -(2 ^ 62) ≤ j ∧ j < 2 ^ 62) ∧ R (Itr i (j - i).toNat) H
theorem g_rng2 (h : tl σ H fun vs H1 => aRng2 vs H1 R) : iRng2 tl σ H R := h
theorem g_aRng2 {i j : Int} (h : -4000000000 ≤ i ∧ i < 4000000000 ∧ -4000000000 ≤ j ∧ j < 4000000000) (q : R (Itr i (j - i).toNat) H) : aRng2 [.int i, .int j] H R := ⟨i, j, rfl, by omega, q⟩
def aEnum (K : PySem.W.Frag) (vs : List V) (H : Hp) (R : It → Hp → Prop) : Prop := ∃ a xs, vs = [.ref a] ∧ SqL K H a xs ∧ R (Ite K a) H
theorem g_enum (h : tl σ H fun vs H1 => aEnum K vs H1 R) : iEnum K tl σ H R := h
theorem g_aEnum {a : Addr} {xs : List V} (h : SqL K H a xs) (q : R (Ite K a) H) : aEnum K [.ref a] H R := ⟨a, xs, rfl, h, q⟩
def aZip (K : PySem.W.Frag) (vs : List V) (H : Hp) (R : It → Hp → Prop) : Prop := ∃ a b xs ys, vs = [.ref a, .ref b] ∧ SqL K H a xs ∧ SqL K H b ys ∧ R (Itz K a b) H
theorem g_zip (h : tl σ H fun vs H1 => aZip K vs H1 R) : iZip K tl σ H R := h
theorem g_aZip {a b : Addr} {xs ys : List V} (h : SqL K H a xs) (h2 : SqL K H b ys) (q : R (Itz K a b) H) : aZip K [.ref a, .ref b] H R := ⟨a, b, xs, ys, rfl, h, h2, q⟩
end
end Bz
namespace Bz
open PySem PySem.Spec PyProof.Rows L2
/-- texts as they are handed in: short enough, plain signs -/
def plainS (z : Str) : Prop := z.length ≤ 100000 ∧ ∀ c ∈ z.cps.toList, c < 128
theorem plainS.len {z : Str} (h : plainS z) : z.length ≤ 1000000 := Nat.le_trans h.1 (by decide)
/-! ### readings that touch the heap, over what is known of it -/
section
variable {B B' : Hp} {M M' L L' : List (Addr × HO)}
variable {σ σ' : St} {H : Hp} {Q : VK} {v x y : V} {i : Nat} {ta tb tc te : TE} {D : Ends} {t u : TS} {c c' : TT} {K : PySem.W.Frag} {R : It → Hp → Prop}
variable {nx bk ct : St → Hp → Prop} {rt : VK} {QB : Bool → Hp → Prop} {QL : List V → Hp → Prop} {QS : St → Hp → Prop} {tl tr : TA} {r r' : R2}
theorem sz6 {n : Nat} (h : n ≤ 1000000) : n ≤ sizeLine := Nat.le_trans h (by decide)
theorem sz6' {n : Nat} (h : n < 1000000) : n < sizeLine := Nat.lt_of_lt_of_le h (by decide)
def aLst (xs : List V) (H : Hp) (Q : VK) : Prop := xs.length ≤ sizeLine ∧ ∀ p, H p = none → Q (.ref p) (upd H p (.lst xs))
def aTup (xs : List V) (H : Hp) (Q : VK) : Prop := xs.length ≤ sizeLine ∧ ∀ p, H p = none → Q (.ref p) (upd H p (.tup xs))
theorem g_lst (h : tl σ H fun xs H1 => aLst xs H1 Q) : tLst tl σ H Q := h
theorem g_tup (h : tl σ H fun xs H1 => aTup xs H1 Q) : tTup tl σ H Q := h
theorem g_aLst {xs : List V} (I : Is B M L H) (h : xs.length ≤ 1000000) (q : ∀ p H', Is B M ((p, .lst xs) :: L) H' → Q (.ref p) H') : aLst xs H Q :=
  ⟨sz6 h, fun p hp => q p _ (I.new hp)⟩
theorem g_aTup {xs : List V} (I : Is B M L H) (h : xs.length ≤ 1000000) (q : ∀ p H', Is B M ((p, .tup xs) :: L) H' → Q (.ref p) H') : aTup xs H Q :=
  ⟨sz6 h, fun p hp => q p _ (I.new hp)⟩
/-- list + list -/
theorem g_add_l {a b : Addr} {xs ys : List V} (I : Is B M L H) (ha : H a = some (.lst xs)) (hb : H b = some (.lst ys)) (h : xs.length + ys.length ≤ 1000000)
    (q : ∀ p H', Is B M ((p, .lst (xs ++ ys)) :: L) H' → Q (.ref p) H') : rAddA K (.ref a) (.ref b) H Q :=
  .inr (.inr (.inl ⟨a, b, xs, ys, rfl, rfl, ha, hb, sz6 h, fun p hp => q p _ (I.new hp)⟩))
theorem g_mul_l {a : Addr} {xs : List V} {n : Nat} (I : Is B M L H) (ha : H a = some (.lst xs)) (h : xs.length * n ≤ 1000000) (hn : n ≤ 1000000)
    (q : ∀ p H', Is B M ((p, .lst (List.replicate n xs).flatten) :: L) H' → Q (.ref p) H') : rMulA (.ref a) (.int (n : Int)) H Q :=
  .inr (.inr ⟨a, n, xs, rfl, rfl, ha, by omega, by omega, by rw [Int.toNat_natCast]; exact sz6 h, fun p hp => by rw [Int.toNat_natCast]; exact q p _ (I.new hp)⟩)
theorem g_sl_l {a : Addr} {xs : List V} {lo hi : Option Int} (I : Is B M L H) (ha : SqL K H a xs) (q : ∀ p H', Is B M ((p, .lst (cutV xs lo hi)) :: L) H' → Q (.ref p) H') : rSlA K (.ref a) lo hi H Q :=
  .inl ⟨a, xs, rfl, ha, fun p hp => q p _ (I.new hp)⟩
theorem g_sl_t {a : Addr} {xs : List V} {lo hi : Option Int} (I : Is B M L H) (ha : SqT K H a xs) (hn : ¬ (HT.sIx xs.length 0 lo = 0 ∧ HT.sIx xs.length xs.length hi = xs.length)) (q : ∀ p H', Is B M ((p, .tup (cutV xs lo hi)) :: L) H' → Q (.ref p) H') : rSlA K (.ref a) lo hi H Q :=
  .inr (.inr ⟨a, xs, rfl, ha, fun h => absurd h hn, fun _ p hp => q p _ (I.new hp)⟩)
theorem cutV_whole {xs : List V} {lo hi : Option Int} (h : HT.sIx xs.length 0 lo = 0 ∧ HT.sIx xs.length xs.length hi = xs.length) : cutV xs lo hi = xs := by
  unfold cutV
  rw [h.1, h.2, List.drop_zero, Nat.sub_zero, List.take_length]
/-- a part of a tuple, whatever part: what it is stays -/
theorem g_sl_tB {a : Addr} {xs : List V} {lo hi : Option Int} (I : Is B M L H) (ha : SqT K B a xs) (q : ∀ p B' H', Same B B' → Is B' M L H' → SqT K B' p (cutV xs lo hi) → Q (.ref p) H') : rSlA K (.ref a) lo hi H Q := by
  refine .inr (.inr ⟨a, xs, rfl, Is.st I ha, fun h => ?_, fun _ p hp => ?_⟩)
  · exact q a B H (fun _ _ e => e) I (by rw [cutV_whole h]; exact ha)
  · obtain ⟨h1, h2⟩ := (I.new (o := .tup (cutV xs lo hi)) hp).frz .here
    exact q p _ _ h2 h1 (SqT.of upd_same)
theorem g_add_t {a b : Addr} {xs ys : List V} (I : Is B M L H) (ha : SqT K H a xs) (hb : SqT K H b ys) (h0 : xs ≠ []) (h1 : ys ≠ []) (h : xs.length + ys.length ≤ 1000000)
    (q : ∀ p H', Is B M ((p, .tup (xs ++ ys)) :: L) H' → Q (.ref p) H') : rAddA K (.ref a) (.ref b) H Q :=
  .inr (.inr (.inr ⟨a, b, xs, ys, rfl, rfl, ha, hb, sz6 h, fun e => absurd e h0, fun _ e => absurd e h1, fun _ _ p hp => q p _ (I.new hp)⟩))
theorem g_add_tB {a b : Addr} {xs ys : List V} (I : Is B M L H) (ha : SqT K B a xs) (hb : SqT K B b ys) (h : xs.length + ys.length ≤ 1000000)
    (q : ∀ p B' H', Same B B' → Is B' M L H' → SqT K B' p (xs ++ ys) → Q (.ref p) H') : rAddA K (.ref a) (.ref b) H Q := by
  refine .inr (.inr (.inr ⟨a, b, xs, ys, rfl, rfl, Is.st I ha, Is.st I hb, sz6 h, fun e => ?_, fun _ e => ?_, fun _ _ p hp => ?_⟩))
  · exact q b B H (fun _ _ e => e) I (by rw [e]; exact hb)
  · exact q a B H (fun _ _ e => e) I (by rw [e, List.append_nil]; exact ha)
  · obtain ⟨h1, h2⟩ := (I.new (o := .tup (xs ++ ys)) hp).frz .here
    exact q p _ _ h2 h1 (SqT.of upd_same)
/-- new lists of texts -/
theorem g_newS {ys : List Str} (I : Is B M L H) (q : ∀ p H', Is B M ((p, .lst (ys.map V.str)) :: L) H' → Q (.ref p) H') : rNewStrs ys H Q := fun p hp => q p _ (I.new hp)
/-- append -/
theorem g_app {l : Addr} {xs : List V} (I : Is B M L H) (hl : H l = some (.lst xs)) (h : xs.length < 1000000) (u : Put l (.lst (xs ++ [v])) L L') (q : ∀ H', Is B M L' H' → Q .non H') : rAppend (.ref l) [v] H Q :=
  ⟨l, xs, v, rfl, rfl, hl, sz6' h, q _ (I.put u)⟩
theorem g_tyL {l : Addr} {xs : List V} {A : Prop} (hl : H l = some (.lst xs)) (h : A) : tyV K "list" (.ref l) H ∧ A := ⟨.inl ⟨rfl, xs, SqL.of hl⟩, h⟩
/-- xs[i] = v -/
def aSetL (o i v : V) (H : Hp) (Q : Hp → Prop) : Prop := rSetL o i v H Q
theorem g_sub {to ti : TE} {ts : TSet} (h : to σ H fun o H1 => ti σ H1 fun i H2 => ts o i v H2 fun H3 => QS σ H3) : gSub to ti ts v σ H QS := h
theorem g_setL {l : Addr} {xs : List V} {n : Int} {QH : Hp → Prop} (I : Is B M L H) (hl : H l = some (.lst xs)) (h0 : 0 ≤ n) (h1 : n < xs.length) (u : Put l (.lst (xs.set n.toNat v)) L L') (q : ∀ H', Is B M L' H' → QH H') : rSetL (.ref l) (.int n) v H QH :=
  ⟨l, xs, n, n.toNat, rfl, rfl, hl, ixN_of h0 h1, q _ (I.put u)⟩
theorem g_setLM {l : Addr} {xs : List V} {n : Int} {QH : Hp → Prop} (I : Is B M L H) (hl : H l = some (.lst xs)) (h0 : 0 ≤ n) (h1 : n < xs.length) (u : Put l (.lst (xs.set n.toNat v)) M M') (q : ∀ H', Is B M' L H' → QH H') : rSetL (.ref l) (.int n) v H QH :=
  ⟨l, xs, n, n.toNat, rfl, rfl, hl, ixN_of h0 h1, q _ (I.putM u)⟩
/-- unpacking a tuple -/
theorem g_gTup {a : Addr} {xs : List V} {n : Nat} {ts : TGs} (h : SqT K H a xs) (hl : xs.length = n) (q : ts xs σ H QS) : gTup K n ts (.ref a) σ H QS := ⟨a, xs, rfl, h, hl, q⟩
theorem g_gCons {g : TG} {ts : TGs} {rest : List V} (q : g v σ H fun σ' H' => ts rest σ' H' QS) : gCons g ts (v :: rest) σ H QS := ⟨v, rest, rfl, q⟩
theorem g_gNil (q : QS σ H) : gNil [] σ H QS := ⟨rfl, q⟩
/-! dicts with text keys -/
inductive KGet : List (Key × V) → Key → V → Prop
  | here {k : Key} {v : V} {l : List (Key × V)} : KGet ((k, v) :: l) k v
  | there {k k' : Key} {v v' : V} {l : List (Key × V)} : ¬ k' = k → KGet l k v → KGet ((k', v') :: l) k v
inductive NoKey (k : Key) : List (Key × V) → Prop
  | nil : NoKey k []
  | cons {k' : Key} {v' : V} {l : List (Key × V)} : ¬ k' = k → NoKey k l → NoKey k ((k', v') :: l)
inductive KPut (k : Key) (v : V) : List (Key × V) → List (Key × V) → Prop
  | here {u : V} {l : List (Key × V)} : NoKey k l → KPut k v ((k, u) :: l) ((k, v) :: l)
  | there {k' : Key} {u : V} {l l' : List (Key × V)} : ¬ k' = k → KPut k v l l' → KPut k v ((k', u) :: l) ((k', u) :: l')
theorem KGet.eq {kvs : List (Key × V)} {k : Key} (h : KGet kvs k v) : valV kvs k = some v := by
  induction h with
  | here => exact valV_pos rfl
  | there hne _ ih =>
    rw [valV_neg (show ¬ _ = _ from hne)]
    exact ih
theorem NoKey.map {k : Key} {kvs : List (Key × V)} (h : NoKey k kvs) : kvs.map (fun kv => if kv.1 = k then (kv.1, v) else kv) = kvs := by
  induction h with
  | nil => rfl
  | cons hne _ ih => rw [List.map_cons, if_neg hne, ih]
theorem KPut.any {k : Key} {kvs kvs' : List (Key × V)} (h : KPut k v kvs kvs') : (kvs.any fun kv => decide (kv.1 = k)) = true ∧ kvs.map (fun kv => if kv.1 = k then (kv.1, v) else kv) = kvs' := by
  induction h with
  | here hn =>
    refine ⟨by simp, ?_⟩
    rw [List.map_cons, if_pos rfl, hn.map]
  | there hne _ ih =>
    refine ⟨by rw [List.any_cons, ih.1, Bool.or_true], ?_⟩
    rw [List.map_cons, if_neg hne, ih.2]
theorem KPut.eq {k : Key} {kvs kvs' : List (Key × V)} (h : KPut k v kvs kvs') : putK kvs k v = kvs' := by
  unfold putK
  rw [if_pos h.any.1]
  exact h.any.2
def aDGet (x y : V) (H : Hp) (Q : VK) : Prop := ∃ a v, x = .ref a ∧ DGet H a y (some v) ∧ Q v H
theorem g_dget {td ty : TE} (h : td σ H fun x H1 => ty σ H1 fun y H2 => aDGet x y H2 Q) : tDGet td ty σ H Q := h
theorem g_aDGet {a : Addr} {kvs : List (Key × V)} {z : Str} (h : H a = some (.dK kvs)) (e : KGet kvs (Sum.inr z) v) (q : Q v H) : aDGet (.ref a) (.str z) H Q :=
  ⟨a, v, rfl, .inl ⟨kvs, .inr z, .inl h, rfl, e.eq.symm⟩, q⟩
def aDPut (v x y : V) (H : Hp) (Q : Hp → Prop) : Prop := ∃ a H4, x = .ref a ∧ DPut H a y v H4 ∧ Q H4
theorem g_dput {td ty tv : TE} (h : tv σ H fun v H1 => td σ H1 fun x H2 => ty σ H2 fun y H3 => aDPut v x y H3 fun H4 => nx σ H4) : sDPut td ty tv ⟨nx, rt, bk, ct⟩ σ H := by
  exact h
theorem g_aDPut {a : Addr} {kvs kvs' : List (Key × V)} {z : Str} {QH : Hp → Prop} (I : Is B M L H) (h : H a = some (.dK kvs)) (hz : kvs.length < 100000) (kp : KPut (Sum.inr z) v kvs kvs') (u : Put a (.dK kvs') L L') (q : ∀ H', Is B M L' H' → QH H') : aDPut v (.ref a) (.str z) H QH :=
  ⟨a, _, rfl, .inl ⟨kvs, .inr z, h, rfl, sz6' (by omega), rfl⟩, q _ (by rw [kp.eq]; exact I.put u)⟩
theorem g_aDPutM {a : Addr} {kvs kvs' : List (Key × V)} {z : Str} {QH : Hp → Prop} (I : Is B M L H) (h : H a = some (.dK kvs)) (hz : kvs.length < 100000) (kp : KPut (Sum.inr z) v kvs kvs') (u : Put a (.dK kvs') M M') (q : ∀ H', Is B M' L H' → QH H') : aDPut v (.ref a) (.str z) H QH :=
  ⟨a, _, rfl, .inl ⟨kvs, .inr z, h, rfl, sz6' (by omega), rfl⟩, q _ (by rw [kp.eq]; exact I.putM u)⟩
/-! a written dict -/
inductive Snoc {α : Type} (x : α) : List α → List α → Prop
  | nil : Snoc x [] [x]
  | cons {a : α} {l l' : List α} : Snoc x l l' → Snoc x (a :: l) (a :: l')
theorem Snoc.eq {α : Type} {x : α} : ∀ {l l' : List α}, Snoc x l l' → l ++ [x] = l'
  | _, _, .nil => rfl
  | _, _, .cons h => by rw [List.cons_append, h.eq]
inductive Mrg : List (Key × V) → List (V × V) → List (Key × V) → Prop
  | nil {l : List (Key × V)} : Mrg l [] l
  | str {l l' r : List (Key × V)} {z : Str} {v : V} {more : List (V × V)} : NoKey (Sum.inr z) l → Snoc (Sum.inr z, v) l l' → Mrg l' more r → Mrg l ((.str z, v) :: more) r
  | int {l l' r : List (Key × V)} {n : Int} {v : V} {more : List (V × V)} : NoKey (Sum.inl n) l → Snoc (Sum.inl n, v) l l' → Mrg l' more r → Mrg l ((.int n, v) :: more) r
theorem NoKey.any {k : Key} {kvs : List (Key × V)} (h : NoKey k kvs) : (kvs.any fun kv => decide (kv.1 = k)) = false := by
  induction h with
  | nil => rfl
  | cons hne _ ih => rw [List.any_cons, decide_eq_false hne, ih]; rfl
theorem NoKey.put {k : Key} {kvs : List (Key × V)} (h : NoKey k kvs) : putK kvs k v = kvs ++ [(k, v)] := by
  unfold putK
  rw [h.any]
  rfl
theorem Mrg.eq {l : List (Key × V)} {ps : List (V × V)} {r : List (Key × V)} (h : Mrg l ps r) : ∃ kvs : List (Key × V), ps = kvs.map (fun kv => (kV kv.1, kv.2)) ∧ mergeK l kvs = r ∧ kvs.length = ps.length := by
  induction h with
  | nil => exact ⟨[], rfl, rfl, rfl⟩
  | @str l l' r z v more hn hs _ ih =>
    obtain ⟨kvs, e1, e2, e3⟩ := ih
    refine ⟨(Sum.inr z, v) :: kvs, by rw [e1]; rfl, ?_, by simp [e3]⟩
    show mergeK (putK l (Sum.inr z) v) kvs = r
    rw [hn.put, hs.eq]
    exact e2
  | @int l l' r n v more hn hs _ ih =>
    obtain ⟨kvs, e1, e2, e3⟩ := ih
    refine ⟨(Sum.inl n, v) :: kvs, by rw [e1]; rfl, ?_, by simp [e3]⟩
    show mergeK (putK l (Sum.inl n) v) kvs = r
    rw [hn.put, hs.eq]
    exact e2
def aDisp (p : Addr) (ps : List (V × V)) (H : Hp) (Q : VK) : Prop := H p = some (.dK []) ∧ ∃ kvs : List (Key × V), ps = kvs.map (fun kv => (kV kv.1, kv.2)) ∧ kvs.length ≤ 15 ∧ Q (.ref p) (upd H p (.dK (mergeK [] kvs)))
theorem g_disp {trs : List (TE × TE)} (I : Is B M L H) (q : ∀ p H', Is B M ((p, .dK []) :: L) H' → tPairs trs σ H' fun ps H2 => aDisp p ps H2 Q) : tDisp trs σ H Q := fun p hp => q p _ (I.new hp)
theorem g_pnil {QP : List (V × V) → Hp → Prop} (q : QP [] H) : tPairs [] σ H QP := q
theorem g_pcons {tk tv : TE} {r : List (TE × TE)} {QP : List (V × V) → Hp → Prop} (q : tk σ H fun x H1 => tv σ H1 fun y H2 => tPairs r σ H2 fun ps H3 => QP ((x, y) :: ps) H3) : tPairs ((tk, tv) :: r) σ H QP := q
theorem g_aDisp {p : Addr} {ps : List (V × V)} {kvs : List (Key × V)} (I : Is B M L H) (h : H p = some (.dK [])) (m : Mrg [] ps kvs) (hz : ps.length ≤ 15) (u : Put p (.dK kvs) L L') (q : ∀ H', Is B M L' H' → Q (.ref p) H') : aDisp p ps H Q := by
  obtain ⟨k, e1, e2, e3⟩ := m.eq
  refine ⟨h, k, e1, by omega, ?_⟩
  rw [e2]
  exact q _ (I.put u)
theorem g_newK (I : Is B M L H) (q : ∀ p H', Is B M ((p, .dK []) :: L) H' → Q (.ref p) H') : tDNewK σ H Q := fun p hp => q p _ (I.new hp)
/-- an owned thing told as M -/
theorem Is.pull {a : Addr} {o : HO} (I : Is B M L H) (d : Del a o L L') : Is B ((a, o) :: M) L' H := by
  have pm : (L ++ M).Perm (L' ++ ((a, o) :: M)) := (d.perm.append_right M).trans List.perm_middle.symm
  exact ⟨I.ex, fun q hq => I.own q (pm.mem_iff.mpr hq), (pm.map (·.1)).nodup_iff.mp I.nd⟩
/-- given away, as one asks it -/
theorem Is.give {a : Addr} {o : HO} {G : Prop} (I : Is B M L H) (d : Del a o L L') (k : ∀ B', Same B B' → B' a = some o → Is B' M L' H → G) : G := by
  obtain ⟨h1, h2⟩ := I.frz d
  exact k _ h2 upd_same h1
/-! comprehensions: P of the turn, what is made so far, what stays and M -/
def aLc (J : It) (g : TG) (tt : TT) (te : TE) (vs : List Nat) (σ : St) (H1 : Hp) (Q : VK) : Prop :=
  ∀ D, H1 D = none → ∃ W : Nat → Nat → Hp → Prop, (∃ m, W 0 m (upd H1 D (.lst []))) ∧ ∀ i m H, W i m H →
    (J.stop i H ∧ Q (.ref D) H) ∨ (J.go i H ∧ ∃ Nx : Hp → Prop, (∀ H', Nx H' → ∃ m', m' < m ∧ W (i + 1) m' H') ∧ ∀ x H', J.yld i H x H' → g x (wipe σ vs) H' fun σ2 H2 => wipe σ2 vs = wipe σ vs ∧ tt σ2 H2 fun b H3 =>
      if b = true then te σ2 H3 fun y H4 => ∃ acc, H4 D = some (.lst acc) ∧ acc.length < sizeLine ∧ Nx (upd H4 D (.lst (acc ++ [y]))) else Nx H3)
theorem g_lc {wi : TI} {g : TG} {tt : TT} {vs : List Nat} (h : wi σ H fun J H1 => aLc J g tt te vs σ H1 Q) : tLc wi g tt te vs σ H Q := h
/-- between two turns; at a turn's end with an item, without one -/
def LcI (P : Nat → List V → Hp → List (Addr × HO) → Prop) (B : Hp) (L : List (Addr × HO)) (D : Addr) (i : Nat) (H : Hp) : Prop :=
  ∃ acc B' M', Same B B' ∧ acc.length ≤ i ∧ i ≤ 900000 ∧ Is B' M' ((D, .lst acc) :: L) H ∧ P i acc B' M'
def LcY (P : Nat → List V → Hp → List (Addr × HO) → Prop) (B : Hp) (L : List (Addr × HO)) (D : Addr) (i : Nat) (y : V) (H : Hp) : Prop :=
  ∃ acc, H D = some (.lst acc) ∧ acc.length < sizeLine ∧ LcI P B L D (i + 1) (upd H D (.lst (acc ++ [y])))
theorem lcY {P : Nat → List V → Hp → List (Addr × HO) → Prop} {D : Addr} {acc : List V} (s : Same B B') (I : Is B' M' ((D, .lst acc) :: L) H) (hl : acc.length ≤ i ∧ i < 900000) (p : P (i + 1) (acc ++ [y]) B' M') : LcY P B L D i y H :=
  ⟨acc, I.get List.mem_cons_self, sz6' (by omega), acc ++ [y], B', M', s, by rw [List.length_append]; simpa using hl.1, by omega, I.put .here, p⟩
theorem lcN {P : Nat → List V → Hp → List (Addr × HO) → Prop} {D : Addr} {acc : List V} (s : Same B B') (I : Is B' M' ((D, .lst acc) :: L) H) (hl : acc.length ≤ i ∧ i < 900000) (p : P (i + 1) acc B' M') : LcI P B L D (i + 1) H :=
  ⟨acc, B', M', s, by omega, by omega, I, p⟩
theorem g_aLc {J : It} {n : Nat} {G : Hp → Prop} {Y : Nat → Hp → V → Hp → Prop} {g : TG} {tt : TT} {vs : List Nat} {σ0 : St} (w : Walk J n G Y) (I : Is B M L H) (hw : Wiped σ vs σ0) (hz : n ≤ 900000)
    (P : Nat → List V → Hp → List (Addr × HO) → Prop) (h0 : P 0 [] B M)
    (hG : ∀ i acc B' M' D H', i ≤ n → Same B B' → Is B' M' ((D, .lst acc) :: L) H' → P i acc B' M' → G H')
    (hs : ∀ i x acc B' M' D H' H'', i < n → Same B B' → Is B' M' ((D, .lst acc) :: L) H' → P i acc B' M' → Y i H' x H'' → (acc.length ≤ i ∧ i < 900000) →
      g x σ0 H'' fun σ2 H2 => wipe σ2 vs = σ0 ∧ tt σ2 H2 fun b H3 => if b = true then te σ2 H3 fun y H4 => LcY P B L D i y H4 else LcI P B L D (i + 1) H3)
    (hd : ∀ acc B' M' D H', Same B B' → Is B' M' ((D, .lst acc) :: L) H' → P n acc B' M' → acc.length ≤ n → Q (.ref D) H') : aLc J g tt te vs σ H Q := by
  intro D hD
  refine lc_it w (fun i H' => LcI P B L D i H') ⟨[], B, M, Same.refl B, Nat.le_refl _, by omega, I.new hD, h0⟩ ?_ ?_ ?_
  · rintro i H' hi ⟨acc, B', M', s, hl, _, I', p⟩
    exact hG i acc B' M' D H' hi s I' p
  · rintro i x H' H'' hi ⟨acc, B', M', s, hl, _, I', p⟩ yy
    rw [hw.eq]
    exact hs i x acc B' M' D H' H'' hi s I' p yy ⟨hl, by omega⟩
  · rintro H' ⟨acc, B', M', s, hl, _, I', p⟩
    exact hd acc B' M' D H' s I' p hl
/-- a comprehension that neither draws nor changes: (xs.filter p).map f -/
theorem g_lcM {J : It} {xs : List V} {G : Hp → Prop} {g : TG} {tt : TT} {vs : List Nat} {σ0 : St} (w : Walk J xs.length G (YAt xs)) (I : Is B M L H) (hw : Wiped σ vs σ0) (hz : xs.length ≤ 900000) (p : V → Bool) (f : V → V)
    (hG : ∀ D acc H', Is B M ((D, .lst acc) :: L) H' → G H')
    (hs : ∀ (i : Nat) (x : V) (D : Addr) (acc : List V) (H' : Hp), xs[i]? = some x → Is B M ((D, .lst acc) :: L) H' → ∀ (PY : V → Hp → Prop) (PN : Hp → Prop), (∀ H4, p x = true → Is B M ((D, .lst acc) :: L) H4 → PY (f x) H4) → (∀ H3, p x = false → Is B M ((D, .lst acc) :: L) H3 → PN H3) →
      g x σ0 H' fun σ2 H2 => wipe σ2 vs = σ0 ∧ tt σ2 H2 fun b H3 => if b = true then te σ2 H3 fun y H4 => PY y H4 else PN H3)
    (hd : ∀ D H', Is B M ((D, .lst ((xs.filter p).map f)) :: L) H' → Q (.ref D) H') : aLc J g tt te vs σ H Q := by
  refine g_aLc w I hw hz (fun i acc B' M' => B' = B ∧ M' = M ∧ acc = ((xs.take i).filter p).map f) ⟨rfl, rfl, rfl⟩ ?_ ?_ ?_
  · rintro i acc B' M' D H' _ s I' ⟨rfl, rfl, rfl⟩
    exact hG D _ H' I'
  · rintro i x acc B' M' D H' H'' hi s I' ⟨rfl, rfl, e⟩ ⟨rfl, hx⟩ hl
    refine hs i x D acc H'' hx I' _ _ (fun H4 hp I4 => lcY s I4 hl ⟨rfl, rfl, ?_⟩) fun H3 hp I3 => lcN s I3 hl ⟨rfl, rfl, ?_⟩
    · rw [List.take_add_one, hx, e]
      show _ = List.map f (List.filter p (xs.take i ++ [x]))
      rw [List.filter_append, List.map_append, List.filter_cons, if_pos hp]
      rfl
    · rw [List.take_add_one, hx, e]
      show _ = List.map f (List.filter p (xs.take i ++ [x]))
      rw [List.filter_append, List.map_append, List.filter_cons, if_neg (by rw [hp]; exact Bool.false_ne_true)]
      simp
  · rintro acc B' M' D H' s I' ⟨rfl, rfl, rfl⟩ _
    rw [List.take_length] at I'
    exact hd D H' I'
/-- signs of a text -/
def sg (c : Nat) : V := .str ⟨#[c]⟩
def signs (z : Str) : List V := z.cps.toList.map sg
theorem signs_len (z : Str) : (signs z).length = z.length := by unfold signs; rw [List.length_map]; rfl
theorem walkS {z : Str} : Walk (Its z) (signs z).length (fun _ => True) (YAt (signs z)) := by
  have w := walk_str (z := z)
  have e : z.cps.size = (signs z).length := by unfold signs; simp
  rw [e] at w
  refine w.mono (fun _ _ => trivial) fun i H x H' hi _ y => ?_
  obtain ⟨h1, c, h2, h3⟩ := y
  refine ⟨h1, ?_⟩
  unfold signs
  rw [List.getElem?_map, ← Array.getElem?_toList] at *
  rw [h2, h3]
  rfl
def rng (lo : Int) (n : Nat) : List V := (List.range n).map fun (i : Nat) => V.int (lo + (i : Int))
theorem rng_len (lo : Int) (n : Nat) : (rng lo n).length = n := by unfold rng; simp
theorem walkR {lo : Int} {n : Nat} : Walk (Itr lo n) (rng lo n).length (fun _ => True) (YAt (rng lo n)) := by
  have w := walk_range (lo := lo) (n := n)
  rw [rng_len]
  refine w.mono (fun _ _ => trivial) fun i H x H' hi _ y => ?_
  obtain ⟨h1, h2⟩ := y
  refine ⟨h1, ?_⟩
  unfold rng
  rw [List.getElem?_map, List.getElem?_range hi, h2]
  rfl
theorem signs_mem {z : Str} {x : V} {i : Nat} (h : (signs z)[i]? = some x) : ∃ c, c ∈ z.cps.toList ∧ x = .str ⟨#[c]⟩ := by
  unfold signs at h
  rw [List.getElem?_map] at h
  cases e : z.cps.toList[i]? with
  | none => rw [e] at h; cases h
  | some c => rw [e] at h; exact ⟨c, List.mem_of_getElem? e, (Option.some.inj h).symm⟩
def unsg (f : Nat → V) (v : V) : V := match v with
  | .str y => f (y.cps.getD 0 0)
  | _ => .non
def unsgB (f : Nat → Bool) (v : V) : Bool := match v with
  | .str y => f (y.cps.getD 0 0)
  | _ => false
theorem map_unsg (f : Nat → V) : ∀ l : List Nat, (l.map sg).map (unsg f) = l.map f
  | [] => rfl
  | c :: l => by rw [List.map_cons, List.map_cons, List.map_cons, map_unsg f l]; rfl
theorem filter_unsg (p : Nat → Bool) : ∀ l : List Nat, (l.map sg).filter (unsgB p) = (l.filter p).map sg
  | [] => rfl
  | c :: l => by
    have e : unsgB p (sg c) = p c := rfl
    rw [List.map_cons, List.filter_cons, List.filter_cons, e, filter_unsg p l]
    cases p c <;> simp
/-- over a text's signs, with a test -/
theorem g_lcS {z : Str} {g : TG} {tt : TT} {vs : List Nat} {σ0 : St} (I : Is B M L H) (hw : Wiped σ vs σ0) (hz : z.length ≤ 900000) (p : Nat → Bool) (f : Nat → V)
    (hs : ∀ (c : Nat) (D : Addr) (acc : List V) (H' : Hp), c ∈ z.cps.toList → Is B M ((D, .lst acc) :: L) H' → ∀ (PY : V → Hp → Prop) (PN : Hp → Prop), (∀ H4, p c = true → Is B M ((D, .lst acc) :: L) H4 → PY (f c) H4) → (∀ H3, p c = false → Is B M ((D, .lst acc) :: L) H3 → PN H3) →
      g (.str ⟨#[c]⟩) σ0 H' fun σ2 H2 => wipe σ2 vs = σ0 ∧ tt σ2 H2 fun b H3 => if b = true then te σ2 H3 fun y H4 => PY y H4 else PN H3)
    (hd : ∀ D H', Is B M ((D, .lst ((z.cps.toList.filter p).map f)) :: L) H' → Q (.ref D) H') : aLc (Its z) g tt te vs σ H Q := by
  refine g_lcM walkS I hw (by rw [signs_len]; exact hz) (unsgB p) (unsg f) (fun _ _ _ _ => trivial) ?_ ?_
  · intro i x D acc H' hx hI' PY PN hY hN
    obtain ⟨c, hc, rfl⟩ := signs_mem hx
    exact hs c D acc H' hc hI' PY PN hY hN
  · intro D H' hI'
    have e : (List.filter (unsgB p) (signs z)).map (unsg f) = (z.cps.toList.filter p).map f := by
      unfold signs
      rw [filter_unsg, map_unsg]
    rw [e] at hI'
    exact hd D H' hI'
/-- .. without one -/
theorem g_lcS1 {z : Str} {g : TG} {vs : List Nat} {σ0 : St} (I : Is B M L H) (hw : Wiped σ vs σ0) (hz : z.length ≤ 900000) (f : Nat → V)
    (hs : ∀ (c : Nat) (D : Addr) (acc : List V) (H' : Hp), c ∈ z.cps.toList → Is B M ((D, .lst acc) :: L) H' → ∀ (PY : V → Hp → Prop), (∀ H4, Is B M ((D, .lst acc) :: L) H4 → PY (f c) H4) →
      g (.str ⟨#[c]⟩) σ0 H' fun σ2 H2 => wipe σ2 vs = σ0 ∧ te σ2 H2 fun y H4 => PY y H4)
    (hd : ∀ D H', Is B M ((D, .lst (z.cps.toList.map f)) :: L) H' → Q (.ref D) H') : aLc (Its z) g tYes te vs σ H Q := by
  refine g_lcS I hw hz (fun _ => true) f ?_ ?_
  · intro c D acc H' hc hI' PY PN hY hN
    exact hs c D acc H' hc hI' PY fun H4 => hY H4 rfl
  · intro D H' hI'
    have e : z.cps.toList.filter (fun _ => true) = z.cps.toList := List.filter_eq_self.mpr fun _ _ => rfl
    rw [e] at hI'
    exact hd D H' hI'
theorem g_all {α : Type} {D : Addr} {l : List α} {P : α → Bool} (h : SqL K H D (l.map fun c => V.bl (P c))) (q : Q (.bl (l.all P)) H) : rAll K [.ref D] H Q := by
  refine ⟨D, l.map P, rfl, ?_, ?_⟩
  · rw [List.map_map]
    exact h
  · rw [List.all_map]
    exact q
theorem g_wiped {σ1 : St} {vs : List Nat} {A : Prop} (w : Wiped σ vs σ1) (h : A) : wipe σ vs = σ1 ∧ A := ⟨w.eq, h⟩
theorem g_yes (h : QB true H) : tYes σ H QB := h
theorem g_true {A E : Prop} (h : A) : if true = true then A else E := by rw [if_pos rfl]; exact h
theorem g_false {A E : Prop} (h : E) : if false = true then A else E := by rw [if_neg Bool.false_ne_true]; exact h
theorem g_ntrue {A E : Prop} (h : E) : if (!true) = true then A else E := g_false h
theorem g_nfalse {A E : Prop} (h : A) : if (!false) = true then A else E := g_true h
theorem g_dec {p : Prop} [Decidable p] {A E : Prop} (h1 : p → A) (h2 : ¬ p → E) : if decide p = true then A else E := by
  by_cases h : p
  · rw [decide_eq_true h]
    exact g_true (h1 h)
  · rw [decide_eq_false h]
    exact g_false (h2 h)
theorem g_ndec {p : Prop} [Decidable p] {A E : Prop} (h1 : ¬ p → A) (h2 : p → E) : if (!decide p) = true then A else E := by
  by_cases h : p
  · rw [decide_eq_true h]
    exact g_false (h2 h)
  · rw [decide_eq_false h]
    exact g_true (h1 h)
theorem g_b {b : Bool} {A E : Prop} (h1 : b = true → A) (h2 : b = false → E) : if b = true then A else E := by
  cases b with
  | true => exact g_true (h1 rfl)
  | false => exact g_false (h2 rfl)
theorem g_nb {b : Bool} {A E : Prop} (h1 : b = false → A) (h2 : b = true → E) : if (!b) = true then A else E := by
  cases b with
  | true => exact g_false (h2 rfl)
  | false => exact g_true (h1 rfl)
end
end Bz
namespace Bz
open PySem PySem.Spec PyProof.Rows L2
/-! ### rules by their own names -/
def rIntS : List V → Hp → VK → Prop := fun xs H Q => ∃ a n, xs = [.str a] ∧ PySem.intText? a = some n ∧ a.length ≤ 640 ∧ Q (.int n) H
def rStrI : List V → Hp → VK → Prop := fun xs H Q => ∃ i, xs = [.int i] ∧ i.natAbs.log2 < 1920 ∧ Q (.str (toString i)) H
def rSplit : V → List V → Hp → VK → Prop := fun x xs H Q => ∃ a b, x = .str a ∧ xs = [.str b] ∧ (b.length == 0) = false ∧ a.length + 2 ≤ sizeLine ∧ rNewStrs (Txt.split a b) H Q
def rJoin (K : PySem.W.Frag) : V → List V → Hp → VK → Prop := fun x xs H Q => ∃ a p, ∃ ys : List Str, x = .str a ∧ xs = [.ref p] ∧ (SqL K H p (ys.map V.str) ∨ SqT K H p (ys.map V.str)) ∧ (ys.map (·.length)).sum + ys.length * a.length ≤ 16777216 ∧ Q (.str (Txt.join a ys)) H
def rIndexS : V → List V → Hp → VK → Prop := fun x xs H Q => ∃ a b k, x = .str a ∧ xs = [.str b] ∧ Txt.index0 a b = some k ∧ Q (.int (k : Nat)) H
def rListOf (K : PySem.W.Frag) : List V → Hp → VK → Prop := fun xs H Q => ∃ p ys, xs = [.ref p] ∧ (SqL K H p ys ∨ SqT K H p ys) ∧ ∀ l, H l = none → Q (.ref l) (upd H l (.lst ys))
section
variable {X : Cx}
theorem cl_intS : CallR X (.type "int") rIntS := call_int_str
theorem cl_strI : CallR X (.type "str") rStrI := call_str_int
theorem cl_listOf : CallR X (.type "list") (rListOf X.K) := call_list_of
theorem mt_indexS : MtR X "str.index" rIndexS := by
  intro pins s σ H x xs v us Q I rx rs h
  obtain ⟨a, b, k, rfl, rfl, hk, q⟩ := h
  obtain ⟨t, rfl⟩ := rx
  cases rs with
  | cons r1 rs =>
    cases rs
    obtain ⟨u, rfl⟩ := r1
    cases e : Builtin.Str.occurrences a b 0 a.length 1 with
    | nil =>
      unfold Txt.index0 at hk
      rw [e] at hk
      cases hk
    | cons j rest =>
      have ej : j = k := by
        unfold Txt.index0 at hk
        rw [e] at hk
        exact Option.some.inj hk
      subst ej
      exact PySem.SC.index e ⟨.int (j : Nat), H, I.tok _, ⟨_, rfl⟩, q⟩
/-- tuple * int -/
def rRepTT (K : PySem.W.Frag) : R2 := fun x y H Q => ∃ l k xs, x = .ref l ∧ y = .int k ∧ SqT K H l xs ∧ xs ≠ [] ∧ 2 ≤ k ∧ k ≤ 100000 ∧ xs.length ≤ 10 ∧ ∀ p, H p = none → Q (.ref p) (upd H p (.tup (List.replicate k.toNat xs).flatten))
theorem op_repTT : OpR X (binaryOp .Mult) (rRepTT X.K) := by
  intro pins s σ H x y v u Q I rx ry h
  obtain ⟨l, k, xs, rfl, rfl, hT, hne, h1, h2, hz, q⟩ := h
  cases rx
  obtain ⟨t, rfl⟩ := ry
  obtain ⟨its, r, ⟨⟨cls, dd, data, sl⟩, ho, hc, n, hd⟩, hs⟩ := I.tuple hT
  simp only at hc hd
  subst hc hd
  have hle : its.length = xs.length := r.length.symm
  have hi : its.toArray.isEmpty = false := by
    cases its with
    | nil => exact absurd (List.eq_nil_of_length_eq_zero hle.symm) hne
    | cons a b => rfl
  have hsz0 : its.toArray.size = xs.length := by rw [List.size_toArray, hle]
  have hm : ((its.toArray.size : Nat) : Int) * k ≤ 1000000 := by
    rw [hsz0]
    have a1 : ((xs.length : Nat) : Int) * k ≤ 10 * k := Int.mul_le_mul_of_nonneg_right (by omega) (by omega)
    omega
  have flen : k.toNat * its.length ≤ 1000000 := by
    have a1 : k.toNat * its.length ≤ 100000 * 10 := Nat.mul_le_mul (by omega) (by omega)
    omega
  have e0 := sizeLine_eq
  have c0 : (decide (k < -(2 ^ 63)) || decide (k ≥ 2 ^ 63)) = false := by
    rw [decide_eq_false (by omega), decide_eq_false (by omega)]
    rfl
  have c1 : (its.toArray.isEmpty || k == 1) = false := by rw [hi, Bool.false_or]; exact beq_eq_false_iff_ne.mpr (by omega)
  have c2 : (decide (k ≤ 0) || its.toArray.isEmpty) = false := by rw [hi, Bool.or_false]; exact decide_eq_false (by omega)
  have c4 : Builtin.Tuple.tupleTooMany (((its.toArray.size : Nat) : Int) * k) = false := by
    unfold Builtin.Tuple.tupleTooMany
    exact decide_eq_false (by omega)
  have g2 := call_meets (prog := X.prog) (w := X.w) (A := X.A) (E := X.xe) (s := s) (Q := EP X pins σ Q) PySem.F.slot_tuple_mul (show s.TypeIs (.ref l) "tuple" from ⟨_, ho, rfl⟩) PySem.F.entry_tuple_mul (PySem.F.args_tuple_mul_2 _ _)
    (tuple_mulW l its.toArray n dd sl k t c0 c1 c2 (by omega) c4 (by rw [size_rep, List.size_toArray, PyProof.Rows.lm_len_rep_flat]; omega)) ⟨ho, by
      rw [size_rep]
      refine ⟨.ref s.heap.objs.size, _, I.laid (t' := s.toks) (o := .tup (List.replicate k.toNat xs).flatten) (fun b ob q => Heap.get?_push_of_some _ q) (Nat.le_refl _) ?_, rfl, q _ (I.hok.fresh (Nat.le_refl _))⟩
      exact ⟨by rw [PyProof.Rows.lm_len_rep_flat, ← hle]; omega, _, r.rep k.toNat, IsTup.new _ _⟩⟩
  exact wpAny_binaryOp_repeat_ref (T := "tuple") (U := "int") (by decide) ⟨_, ho, rfl⟩ (fun s' => typeIs_int s' k t) noFill_tuple_mul PySem.F.fills_int_mul PySem.F.slot_int_rmul repeat_tuple PySem.F.slot_int_index.lookup
    (call_meets PySem.F.slot_int_rmul (typeIs_int s k t) PySem.F.entry_int_rmul (PySem.F.args_int_rmul_2 _ _) (int_rmul_tuple k t l its.toArray n dd sl) ⟨ho, rfl, ⟨_, ho, rfl⟩, g2⟩)
/-! the module's names -/
theorem pe_gI {x : Str} {i : Int} {pos : Pos} (h : ∃ t, X.mg x = some (.int i t)) (gl : Gl X x := by rfl) (hd : (x == ("__debug__" : Str)) = false := by decide) : PE X (.Name x pos) (tC (.int i)) := by
  obtain ⟨t, h⟩ := h
  exact pe_glob gl h ⟨_, rfl⟩ hd
theorem pe_gS {x z : Str} {pos : Pos} (h : ∃ t, X.mg x = some (.str z t)) (gl : Gl X x := by rfl) (hd : (x == ("__debug__" : Str)) = false := by decide) : PE X (.Name x pos) (tC (.str z)) := by
  obtain ⟨t, h⟩ := h
  exact pe_glob gl h ⟨_, rfl⟩ hd
theorem pe_gR {x : Str} {a : Addr} {pos : Pos} (h : X.mg x = some (.ref a)) (gl : Gl X x := by rfl) (hd : (x == ("__debug__" : Str)) = false := by decide) : PE X (.Name x pos) (tC (.ref a)) := pe_glob gl h rfl hd
end
/-! ### calls of the text's defs -/
structure CallOk (P : Program) (w : World) (K : PySem.W.Frag) (mg : Str → Option Value) (base : Heap) (CX : CXT) (k : Nat) (x : Str) (n : Nat) (ks : List Str) (sp : Sp) (gV : List V → List V → List V) : Prop where
  ok : ∃ fd ps g, FnG P w K mg base CX k (He.ga K x) fd ps sp ∧ KBn K fd ps n ks g gV
  at_ : mg x = some (.ref (He.ga K x))
  kp : PySem.W.keepIn K (.ref (He.ga K x)) = true
section
variable {X : Cx} {CX : CXT} {k k' n : Nat} {ks : List Str} {sp : Sp} {E : XK} {x : Str} {p pos : Pos} {e : Expr} {es : List Expr} {kws : List Keyword} {t tk : TA} {gV : List V → List V → List V}
theorem pe_ca (c : CallOk X.prog X.w X.K X.mg X.base CX k x n ks sp gV) (hr : Room k' X.A) (hk : k ≤ k') (hg : X.A.guards = some []) (gl : Gl X x) (hx : Passes CX X E) (ha : PA X (e :: es) t) (hkw : PK X kws tk)
    (h1 : (backToKw pos (keywordEach kws X.env)).all (·.1.isSome) = true := by rfl) (h2 : (backToKw pos (keywordEach kws X.env)).filterMap (·.1) = ks := by rfl)
    (h3 : (x == ("__debug__" : Str)) = false := by decide) (h4 : starEach (e :: es) X.env = (false, eval e X.env) :: starEach es X.env := by rfl)
    (h5 : ((backTo pos (starEach (e :: es) X.env)).any (·.1) || (backToKw pos (keywordEach kws X.env)).any (·.1.isNone)) = false := by rfl) :
    PE X (.Call (.Name x p) (e :: es) kws pos) (tCl n ks.length sp gV E t tk) := by
  obtain ⟨⟨fd, ps, g, F, kb⟩, a, kp⟩ := c
  exact pe_cl F (hr.mono hk) hg gl a kp kb hx ha hkw h1 h2 h3 h4 h5
theorem pe_ca0 (c : CallOk X.prog X.w X.K X.mg X.base CX k x n ks sp gV) (hr : Room k' X.A) (hk : k ≤ k') (hg : X.A.guards = some []) (gl : Gl X x) (hx : Passes CX X E) (hkw : PK X kws tk)
    (h1 : (backToKw pos (keywordEach kws X.env)).all (·.1.isSome) = true := by rfl) (h2 : (backToKw pos (keywordEach kws X.env)).filterMap (·.1) = ks := by rfl)
    (h3 : (x == ("__debug__" : Str)) = false := by decide)
    (h5 : ((backTo pos (starEach [] X.env)).any (·.1) || (backToKw pos (keywordEach kws X.env)).any (·.1.isNone)) = false := by rfl) :
    PE X (.Call (.Name x p) [] kws pos) (tCl n ks.length sp gV E tNil tk) := by
  obtain ⟨⟨fd, ps, g, F, kb⟩, a, kp⟩ := c
  exact pe_cl0 F (hr.mono hk) hg gl a kp kb hx hkw h1 h2 h3 h5
end
end Bz
namespace Bz
open PySem PySem.Spec PyProof.Rows L2
/-! ### short plain texts -/
def Sh (n : Nat) (z : Str) : Prop := z.length ≤ n ∧ ∀ c ∈ z.cps.toList, c < 128
theorem Sh.plain {n : Nat} {z : Str} (h : Sh n z) (hn : n ≤ 100000) : plainS z := ⟨Nat.le_trans h.1 hn, h.2⟩
theorem Sh.mono {n m : Nat} {z : Str} (h : Sh n z) (hn : n ≤ m) : Sh m z := ⟨Nat.le_trans h.1 hn, h.2⟩
theorem len_cps (z : Str) : z.length = z.cps.toList.length := by simp [Str.length]
theorem cps_app (x y : Str) : (x ++ y).cps.toList = x.cps.toList ++ y.cps.toList := TL.tl_append x y
theorem len_app (x y : Str) : (x ++ y).length = x.length + y.length := by rw [len_cps, len_cps, len_cps, cps_app, List.length_append]
theorem Sh.add {n m : Nat} {x y : Str} (h1 : Sh n x) (h2 : Sh m y) : Sh (n + m) (x ++ y) := by
  refine ⟨by rw [len_app]; have := h1.1; have := h2.1; omega, fun c hc => ?_⟩
  rw [cps_app] at hc
  rcases List.mem_append.mp hc with h | h
  · exact h1.2 c h
  · exact h2.2 c h
theorem Sh.sign {c : Nat} (h : c < 128) : Sh 1 ⟨#[c]⟩ := by
  refine ⟨Nat.le_refl _, fun d hd => ?_⟩
  have : d = c := by simpa using hd
  omega
def shB (n : Nat) (z : Str) : Bool := decide (z.length ≤ n) && z.cps.toList.all fun c => decide (c < 128)
theorem Sh.lit {n : Nat} {z : Str} (h : shB n z = true) : Sh n z := by
  unfold shB at h
  rw [Bool.and_eq_true] at h
  exact ⟨of_decide_eq_true h.1, fun c hc => of_decide_eq_true (List.all_eq_true.mp h.2 c hc)⟩
theorem Sh.at {n : Nat} {z : Str} {i : Int} (h : Sh n z) (h0 : 0 ≤ i) (h1 : i < (z.length : Int)) : ∃ c, atI z.cps.toList i = some c ∧ c ∈ z.cps.toList ∧ Sh 1 ⟨#[c]⟩ := by
  have hl : i.toNat < z.cps.toList.length := by rw [← len_cps]; omega
  exact ⟨_, atI_of h0 (List.getElem?_eq_getElem hl), List.getElem_mem hl, Sh.sign (h.2 _ (List.getElem_mem hl))⟩
theorem Sh.cut {n : Nat} {z : Str} (h : Sh n z) (lo hi : Option Int) : Sh n (cutS z lo hi) :=
  ⟨Nat.le_trans (cutS_length z lo hi) h.1, fun c hc => h.2 c (List.mem_of_mem_drop (List.mem_of_mem_take hc))⟩
theorem Sh.cut_to {n k : Nat} {z : Str} (h : Sh n z) (lo : Option Int) : Sh k (cutS z lo (some (k : Int))) := by
  refine ⟨?_, (h.cut _ _).2⟩
  have e : HT.sIx z.length z.length (some (k : Int)) = min k z.length := HT.sIx_nat _ _ _
  rw [len_cps]
  show (((z.cps.toList.drop _).take (HT.sIx z.length z.length (some (k : Int)) - _)).toArray.toList).length ≤ k
  rw [List.toList_toArray, List.length_take]
  omega
theorem repS_cps (z : Str) (k : Nat) : (repS z k).cps.toList = (List.replicate k z.cps.toList).flatten := rfl
theorem Sh.rep {n k : Nat} {z : Str} (h : Sh n z) : Sh (n * k) (repS z k) := by
  refine ⟨?_, fun c hc => ?_⟩
  · rw [len_cps, repS_cps, PyProof.Rows.lm_len_rep_flat, ← len_cps, Nat.mul_comm]
    exact Nat.mul_le_mul_right _ h.1
  · rw [repS_cps] at hc
    obtain ⟨l, hl, hc⟩ := List.mem_flatten.mp hc
    rw [(List.mem_replicate.mp hl).2] at hc
    exact h.2 c hc
theorem Sh.num {i : Int} {k : Nat} (h0 : 0 ≤ i) (hk : 0 < k) (h : i < (10 ^ k : Nat)) : Sh k (Str.ofString (toString i)) := by
  obtain ⟨n, rfl⟩ := Int.eq_ofNat_of_zero_le h0
  have hn : n < 10 ^ k := Int.ofNat_lt.mp h
  have e : (Str.ofString (toString ((n : Nat) : Int))).cps.toList = TL.numL n := TL.tl_num n
  refine ⟨?_, fun c hc => ?_⟩
  · rw [len_cps, e]
    exact TL.numL_len hk hn
  · rw [e] at hc
    have := TL.numL_digits n c hc
    omega
/-- a list of such texts -/
def Txs (n : Nat) (xs : List V) : Prop := ∀ x ∈ xs, ∃ z, x = .str z ∧ Sh n z
theorem Txs.nil {n : Nat} : Txs n [] := fun _ h => by cases h
theorem Txs.cons {n : Nat} {z : Str} {xs : List V} (h : Sh n z) (t : Txs n xs) : Txs n (.str z :: xs) := fun x hx => by
  rcases List.mem_cons.mp hx with e | e
  · exact ⟨z, e, h⟩
  · exact t x e
theorem Txs.app {n : Nat} {xs ys : List V} (h : Txs n xs) (t : Txs n ys) : Txs n (xs ++ ys) := fun x hx => by
  rcases List.mem_append.mp hx with e | e
  · exact h x e
  · exact t x e
theorem Txs.mono {n m : Nat} {xs : List V} (h : Txs n xs) (hn : n ≤ m) : Txs m xs := fun x hx => by
  obtain ⟨z, e, s⟩ := h x hx
  exact ⟨z, e, s.mono hn⟩
def txB (n : Nat) : List V → Bool
  | [] => true
  | .str z :: xs => shB n z && txB n xs
  | _ :: _ => false
theorem Txs.lit {n : Nat} : ∀ {xs : List V}, txB n xs = true → Txs n xs
  | [], _ => .nil
  | .str z :: xs, h => by
    have h : (shB n z && txB n xs) = true := h
    rw [Bool.and_eq_true] at h
    exact .cons (Sh.lit h.1) (Txs.lit h.2)
theorem Txs.get {n : Nat} {xs : List V} {i : Int} (h : Txs n xs) (h0 : 0 ≤ i) (h1 : i < (xs.length : Int)) : ∃ z, atI xs i = some (.str z) ∧ Sh n z := by
  have hl : i.toNat < xs.length := by omega
  obtain ⟨z, e, s⟩ := h _ (List.getElem_mem hl)
  exact ⟨z, atI_of h0 (by rw [List.getElem?_eq_getElem hl, e]), s⟩
theorem Txs.getB {n : Nat} {xs : List V} {i : Int} (h : Txs n xs) (h0 : i < 0) (h1 : -(xs.length : Int) ≤ i) : ∃ z, atI xs i = some (.str z) ∧ Sh n z := by
  have hl : (i + xs.length).toNat < xs.length := by omega
  obtain ⟨z, e, s⟩ := h _ (List.getElem_mem hl)
  refine ⟨z, ?_, s⟩
  unfold atI ixN
  rw [if_neg (by omega), if_pos h1]
  show xs[(i + xs.length).toNat]? = _
  rw [List.getElem?_eq_getElem hl, e]
/-! ### what repr shows is short -/
mutual
inductive Shn : PyData → Nat → Nat → Prop
  | non {k : Nat} : Shn .none 5 k
  | bl {b : Bool} {k : Nat} : Shn (.bool b) 5 k
  | int {i : Int} {k : Nat} : i.natAbs.log2 < 1920 → Shn (.int i) 2000 k
  | str {z : Str} {k : Nat} : (∀ c ∈ z.cps.toList, c < 128) → Shn (.str z) (10 * z.length + 2) k
  | lst {xs : List PyData} {n k : Nat} : ShnAll xs n k → Shn (.list xs) (n + 3) (k + 1)
  | tup {xs : List PyData} {n k : Nat} : ShnAll xs n k → Shn (.tuple xs) (n + 3) (k + 1)
inductive ShnAll : List PyData → Nat → Nat → Prop
  | nil {k : Nat} : ShnAll [] 0 k
  | cons {x : PyData} {xs : List PyData} {n m k : Nat} : Shn x n k → ShnAll xs m k → ShnAll (x :: xs) (n + m + 2) k
end
mutual
theorem Shn.ok : ∀ {d : PyData} {n k : Nat}, Shn d n k → d.showable = true ∧ d.hasDict = false ∧ d.shown.length ≤ n ∧ d.depth ≤ k
  | _, _, _, .non => ⟨rfl, rfl, by decide, Nat.zero_le _⟩
  | _, _, _, .bl (b := b) => ⟨rfl, rfl, by cases b <;> decide, Nat.zero_le _⟩
  | _, _, _, .int (i := i) h => by
    refine ⟨by simpa only [PyData.showable, decide_eq_true_eq] using h, by simp only [PyData.hasDict], ?_, by simp only [PyData.depth]; omega⟩
    have e := int_text_length_le (a := i) (k := 1920) (by decide) h
    simp only [PyData.shown]
    rw [PySem.ofString_length]
    omega
  | _, _, _, .str (z := z) h => by
    refine ⟨by simp only [PyData.showable], by simp only [PyData.hasDict], ?_, by simp only [PyData.depth]; omega⟩
    have e := PySem.StrLaws.reprText_len z fun c hc => Nat.lt_of_lt_of_le (h c hc) (by decide)
    simp only [PyData.shown]
    have e2 : z.length = z.cps.size := rfl
    omega
  | _, _, _, .lst (xs := xs) h => by
    obtain ⟨h1, h2, h3, h4⟩ := ShnAll.ok h
    refine ⟨by simpa only [PyData.showable] using h1, by simpa only [PyData.hasDict] using h2, ?_, by simp only [PyData.depth]; omega⟩
    have := listText_len_le (PyData.shownAll xs)
    have h5 := PyData.shownAll_length xs
    simp only [PyData.shown]
    omega
  | _, _, _, .tup (xs := xs) h => by
    obtain ⟨h1, h2, h3, h4⟩ := ShnAll.ok h
    refine ⟨by simpa only [PyData.showable] using h1, by simpa only [PyData.hasDict] using h2, ?_, by simp only [PyData.depth]; omega⟩
    have := tupleText_len_le (PyData.shownAll xs)
    have h5 := PyData.shownAll_length xs
    simp only [PyData.shown]
    omega
theorem ShnAll.ok : ∀ {d : List PyData} {n k : Nat}, ShnAll d n k → PyData.showableAll d = true ∧ PyData.hasDictAll d = false ∧ ((PyData.shownAll d).map (·.length)).sum + 2 * d.length ≤ n ∧ PyData.depthAll d ≤ k
  | _, _, _, .nil => ⟨by simp only [PyData.showableAll], by simp only [PyData.hasDictAll], by simp [PyData.shownAll], by simp only [PyData.depthAll]; omega⟩
  | _, _, _, .cons h t => by
    obtain ⟨h1, h2, h3, h4⟩ := Shn.ok h
    obtain ⟨t1, t2, t3, t4⟩ := ShnAll.ok t
    refine ⟨by simp only [PyData.showableAll, h1, t1, Bool.and_true], by simp only [PyData.hasDictAll, h2, t2, Bool.or_false], ?_, by simp only [PyData.depthAll]; omega⟩
    simp only [PyData.shownAll, List.map_cons, List.sum_cons, List.length_cons]
    omega
end
mutual
theorem Shn.lay : ∀ {d : PyData} {n k : Nat}, Shn d n k → d.canLay0 = true
  | _, _, _, .non => rfl
  | _, _, _, .bl => rfl
  | _, _, _, .int _ => rfl
  | _, _, _, .str (z := z) h => by
    simp only [PyData.canLay0]
    unfold PyData.strOk
    rw [← Array.all_toList, List.all_eq_true]
    intro c hc
    exact decide_eq_true (Nat.lt_of_lt_of_le (h c hc) (by decide))
  | _, _, _, .lst h => by simp only [PyData.canLay0, ShnAll.lay h]
  | _, _, _, .tup h => by simp only [PyData.canLay0, ShnAll.lay h]
theorem ShnAll.lay : ∀ {d : List PyData} {n k : Nat}, ShnAll d n k → PyData.canLayAll0 d = true
  | _, _, _, .nil => by simp only [PyData.canLayAll0]
  | _, _, _, .cons h t => by simp only [PyData.canLayAll0, Shn.lay h, ShnAll.lay t, Bool.and_true]
end
theorem Shn.shaped {d : PyData} {n k : Nat} (h : Shn d n k) (hk : k ≤ 60) : SeqAt.shaped d = true := by
  unfold SeqAt.shaped
  rw [h.lay, decide_eq_true (by have := h.ok.2.2.2; omega)]
  rfl
theorem shn_signs {k : Nat} : ∀ l : List Nat, (∀ c ∈ l, c < 128) → ShnAll (l.map fun c => PyData.str ⟨#[c]⟩) (14 * l.length) k
  | [], _ => .nil
  | c :: l, h => by
    have h1 : Shn (PyData.str ⟨#[c]⟩) 12 k := Shn.str (z := ⟨#[c]⟩) (Sh.sign (h c List.mem_cons_self)).2
    have h2 := ShnAll.cons h1 (shn_signs (k := k) l fun d hd => h d (List.mem_cons_of_mem _ hd))
    rwa [show 12 + 14 * l.length + 2 = 14 * (c :: l).length by rw [List.length_cons]; omega] at h2
theorem g_repr {K : PySem.W.Frag} {H : Hp} {Q : VK} {x : V} {d : PyData} {n k : Nat} (h : Dp K H x d) (s : Shn d n k) (hn : n ≤ 16000000) (hk : k ≤ 60) (q : Q (.str d.shown) H) : rRepr K [x] H Q := by
  obtain ⟨h1, h2, h3, h4⟩ := s.ok
  exact ⟨x, d, rfl, h, h1, h2, by rw [sizeLine_eq]; omega, by omega, q⟩
/-! the same, of any two texts -/
section
variable {K : PySem.W.Frag} {H : Hp} {Q : VK} {n m : Nat}
theorem g_add_sh {a b : Str} (h1 : Sh n a) (h2 : Sh m b) (h : n + m ≤ 1000000) (q : Sh (n + m) (a ++ b) → Q (.str (a ++ b)) H) : rAddA K (.str a) (.str b) H Q :=
  g_add_s (by have := h1.1; have := h2.1; omega) (q (h1.add h2))
theorem g_ix_sh {z : Str} {i : Int} (h : Sh n z) (hn : n ≤ 1000000) (h0 : 0 ≤ i) (h1 : i < (z.length : Int)) (q : ∀ c, c ∈ z.cps.toList → Sh 1 ⟨#[c]⟩ → Q (.str ⟨#[c]⟩) H) : rIx K (.str z) (.int i) H Q := by
  obtain ⟨c, e, hc, s⟩ := h.at h0 h1
  exact g_ix_s (Nat.le_trans h.1 hn) e (q c hc s)
theorem g_ix_tx {a : Addr} {xs : List V} {i : Int} (hs : SqL K H a xs) (h : Txs n xs) (h0 : 0 ≤ i) (h1 : i < (xs.length : Int)) (q : ∀ z, Sh n z → Q (.str z) H) : rIx K (.ref a) (.int i) H Q := by
  obtain ⟨z, e, s⟩ := h.get h0 h1
  exact g_ix_l hs e (q z s)
theorem g_sl_sh {z : Str} {lo hi : Option Int} (h : Sh n z) (hn : n ≤ 1000000) (q : Sh n (cutS z lo hi) → Q (.str (cutS z lo hi)) H) : rSlA K (.str z) lo hi H Q :=
  g_sl_s (Nat.le_trans h.1 hn) (q (h.cut lo hi))
theorem g_strI {i : Int} {k : Nat} (h0 : 0 ≤ i) (hk : 0 < k ∧ k ≤ 250) (h : i < (10 ^ k : Nat)) (q : Sh k (Str.ofString (toString i)) → Q (.str (Str.ofString (toString i))) H) : rStrI [.int i] H Q := by
  refine ⟨i, rfl, ?_, q (Sh.num h0 hk.1 h)⟩
  have e : i.natAbs < 2 ^ 1920 := by
    have h1 : 10 ^ k ≤ 10 ^ 250 := Nat.pow_le_pow_right (by decide) hk.2
    have h2 : (10 : Nat) ^ 500 < 2 ^ 1920 := by decide +kernel
    omega
  by_cases hz : i.natAbs = 0
  · rw [hz]
    decide
  · exact (Nat.log2_lt hz).mpr e
end
theorem mt_tyS {K : PySem.W.Frag} {H : Hp} {z : Str} {A : Prop} (h : A) : tyV K "str" (.str z) H ∧ A := ⟨rfl, h⟩
end Bz
namespace Bz
open PySem PySem.Spec PyProof.Rows L2
/-! ### what is never reached -/
def tNoS : TS := fun _ _ _ => False
def tNoE : TE := fun _ _ _ => False
theorem ps_no {X : Cx} {st : Stmt} : PS X st tNoS := ⟨fun _ _ _ _ _ _ h => h.elim⟩
theorem pe_no {X : Cx} {e : Expr} : PE X e tNoE := ⟨fun _ _ _ _ _ _ h => h.elim⟩
/-! ### own classes: methods, makes -/
structure MethOk (P : Program) (w : World) (K : PySem.W.Frag) (mg : Str → Option Value) (base : Heap) (CX : CXT) (k : Nat) (C : Addr) (m : Str) (n : Nat) (ks : List Str) (sp : Sp) (gV : List V → List V → List V) : Prop where
  ok : ∃ f fd ps g, Meth K C m f ∧ FnG P w K mg base CX k f fd ps sp ∧ KBn K fd ps (n + 1) ks g gV
  cl : Cls K C
structure MakeOk (P : Program) (w : World) (K : PySem.W.Frag) (mg : Str → Option Value) (base : Heap) (CX : CXT) (k : Nat) (x : Str) (n : Nat) (ks : List Str) (sp : Sp) (gV : List V → List V → List V) : Prop where
  ok : ∃ f fd ps g, Mk K (He.ga K x) f ∧ FnG P w K mg base CX k f fd ps sp ∧ KBn K fd ps (n + 1) ks g gV
  at_ : mg x = some (.ref (He.ga K x))
def tMe (C : Addr) (m : Str) (n j : Nat) (sp : Sp) (gV : List V → List V → List V) (E : XK) (to : TE) (t tk : TA) : TE := fun σ H Q => to σ H fun x H1 => ∃ a dx fs, x = .ref a ∧ H1 a = some (.ins C dx fs) ∧ fs.lookup m = none ∧
  t σ H1 fun vs H2 => tk σ H2 fun zs H3 => vs.length = n ∧ zs.length = j ∧ sp (gV (x :: vs) zs) H3 Q E
def tMk (C : Addr) (n j : Nat) (sp : Sp) (gV : List V → List V → List V) (E : XK) (t tk : TA) : TE := fun σ H Q => t σ H fun vs H1 => tk σ H1 fun zs H2 => vs.length = n ∧ zs.length = j ∧
  ∀ x dx, H2 x = none → H2 dx = none → dx ≠ x → sp (gV (.ref x :: vs) zs) (upd (upd H2 dx (.own x)) x (.ins C dx [])) (fun v H3 => v = .non ∧ Q (.ref x) H3) E
section
variable {X : Cx} {CX : CXT} {k k' n : Nat} {C : Addr} {ks : List Str} {sp : Sp} {E : XK} {x m : Str} {p pos apos : Pos} {e o : Expr} {es : List Expr} {kws : List Keyword} {to : TE} {t tk : TA} {gV : List V → List V → List V}
theorem pe_me {pl : Sem Bool} (c : MethOk X.prog X.w X.K X.mg X.base CX k C m n ks sp gV) (hr : Room k' X.A) (hk : k ≤ k') (hg : X.A.guards = some []) (hx : Passes CX X E) (ho : PE X o to) (ha : PA X (e :: es) t) (hkw : PK X kws tk)
    (h1 : (backToKw pos (keywordEach kws X.env)).all (·.1.isSome) = true := by rfl) (h2 : (backToKw pos (keywordEach kws X.env)).filterMap (·.1) = ks := by rfl)
    (h4 : starEach (e :: es) X.env = (false, eval e X.env) :: starEach es X.env := by rfl)
    (h5 : ((backTo pos (starEach (e :: es) X.env)).any (·.1) || (backToKw pos (keywordEach kws X.env)).any (·.1.isNone)) = false := by rfl)
    (ht : eval (.Call (.Attribute o m apos) (e :: es) kws pos) X.env = (do
      let ov ← eval o X.env
      standAt apos.atName
      let (f, first) ← holding [ov] (getMethod ov m pl)
      callWith pos f first (backTo pos (starEach (e :: es) X.env)) (backToKw pos (keywordEach kws X.env))) := by rfl) :
    PE X (.Call (.Attribute o m apos) (e :: es) kws pos) (tMe C m n ks.length sp gV E to t tk) := by
  obtain ⟨⟨f, fd, ps, g, hm, F, kb⟩, cl⟩ := c
  refine ⟨fun pins s σ H Q I h => ?_⟩
  refine PySem.W.methodCall_KW (pl := pl) (thn (ho.run pins s σ H _ I h) fun u s1 ⟨x, H1, I1, rx, a, dx, fs, ex, ea, l, q⟩ => ?_) ht
  subst ex
  obtain rfl : u = Value.ref a := rx
  refine getmeth_ok I1 ea cl hm l ?_
  refine PySem.W.callWith_KW (first := [.ref a]) (h₀ := X.base) I.ok.mod.kin hm.kp h1 (thn (ha.run pos pins s1 σ H1 _ I1 q) ?_) h5 h4
  rintro us s2 ⟨vs, H2, I2, r, q2⟩
  refine thn (hkw.run pos pins s2 σ H2 _ I2 q2) ?_
  rintro ws s3 ⟨zs, H3, I3, rz, l1, l2, q3⟩
  refine ⟨I3.kIn, ?_⟩
  rw [h2]
  exact run_gn (us := .ref a :: us) (vs := .ref a :: vs) F (hr.mono hk) hg kb hx I3 (.cons rfl r) rz (congrArg Nat.succ l1) l2 q3
theorem pe_me0 {pl : Sem Bool} (c : MethOk X.prog X.w X.K X.mg X.base CX k C m n ks sp gV) (hr : Room k' X.A) (hk : k ≤ k') (hg : X.A.guards = some []) (hx : Passes CX X E) (ho : PE X o to) (hkw : PK X kws tk)
    (h1 : (backToKw pos (keywordEach kws X.env)).all (·.1.isSome) = true := by rfl) (h2 : (backToKw pos (keywordEach kws X.env)).filterMap (·.1) = ks := by rfl)
    (h5 : ((backTo pos (starEach [] X.env)).any (·.1) || (backToKw pos (keywordEach kws X.env)).any (·.1.isNone)) = false := by rfl)
    (ht : eval (.Call (.Attribute o m apos) [] kws pos) X.env = (do
      let ov ← eval o X.env
      standAt apos.atName
      let (f, first) ← holding [ov] (getMethod ov m pl)
      callWith pos f first (backTo pos (starEach [] X.env)) (backToKw pos (keywordEach kws X.env))) := by rfl) :
    PE X (.Call (.Attribute o m apos) [] kws pos) (tMe C m n ks.length sp gV E to tNil tk) := by
  obtain ⟨⟨f, fd, ps, g, hm, F, kb⟩, cl⟩ := c
  refine ⟨fun pins s σ H Q I h => ?_⟩
  refine PySem.W.methodCall_KW (pl := pl) (thn (ho.run pins s σ H _ I h) fun u s1 ⟨x, H1, I1, rx, a, dx, fs, ex, ea, l, q⟩ => ?_) ht
  subst ex
  obtain rfl : u = Value.ref a := rx
  refine getmeth_ok I1 ea cl hm l ?_
  refine PySem.W.callWith_KW0 (first := [.ref a]) (h₀ := X.base) I.ok.mod.kin hm.kp h1 (thn (hkw.run pos pins s1 σ H1 _ I1 q) ?_) h5
  rintro ws s3 ⟨zs, H3, I3, rz, l1, l2, q3⟩
  refine ⟨I3.kIn, ?_⟩
  rw [h2]
  exact run_gn (us := .ref a :: []) (vs := .ref a :: []) F (hr.mono hk) hg kb hx I3 (.cons rfl .nil) rz (congrArg Nat.succ l1) l2 q3
/-- a make runs __init__ -/
theorem run_mk {f : Addr} {fd : FuncData} {ps : List Str} {g : List Value → List Value → List Value} {pins : List (Addr × Obj)} {σ : L2.St} {H : Hp} {s : Shared} {Q : VK} {us ws : List Value} {vs zs : List V}
    (M : Mk X.K C f) (F : FnG X.prog X.w X.K X.mg X.base CX k f fd ps sp) (hr : Room (k + 1) X.A) (hg : X.A.guards = some []) (hb : KBn X.K fd ps (n + 1) ks g gV)
    (hx : Passes CX X E) (I : Inv X pins σ H s) (r : Vals vs us) (rz : Vals zs ws) (l1 : vs.length = n) (l2 : zs.length = ks.length)
    (h : ∀ x dx, H x = none → H dx = none → dx ≠ x → sp (gV (.ref x :: vs) zs) (upd (upd H dx (.own x)) x (.ins C dx [])) (fun v H2 => v = .non ∧ Q (.ref x) H2) E) :
    wpAny (model X.prog X.w) X.A (call (.ref C) us (ks.zip ws)) (EP X pins σ Q) X.xe s := by
  have hq := h (s.heap.objs.size + 1) s.heap.objs.size (I.hok.fresh (Nat.le_succ _)) (I.hok.fresh (Nat.le_refl _)) (Nat.ne_of_lt (Nat.lt_succ_self _))
  have I2 := Inv.made (C := C) I
  have r1 : Vals (V.ref (s.heap.objs.size + 1) :: vs) (Value.ref (s.heap.objs.size + 1) :: us) := .cons rfl r
  refine wpAny_call (make_map (f := f) I.kIn M.makes M.init (beq_iff_eq.mp M.fn) (codeAny_mono (F.go _ X.stack _ _ ⟨Value.ref (s.heap.objs.size + 1) :: us, ks.zip ws⟩ (g (Value.ref (s.heap.objs.size + 1) :: us) ws) _ _ E (hr.make C us (ks.zip ws)) (guards_make hg)
    (I2.env0.make C us (ks.zip ws)) (hb.to _ (Value.ref (s.heap.objs.size + 1) :: us) ws I2.kIn (r1.length.symm.trans (congrArg Nat.succ l1)) (rz.length.symm.trans l2)) (hb.rel r1 rz) hq) ?_))
  rintro (e | fl) s' z
  · exact hx pins σ _ _ e s' I2 z
  · cases fl with
    | ret u =>
      obtain ⟨v, H', I3, rv, ev, q3⟩ := I2.after z
      subst ev
      exact ⟨rv, ⟨V.ref (s.heap.objs.size + 1), H', I3, rfl, q3⟩⟩
    | _ => exact False.elim z
theorem pe_mk (c : MakeOk X.prog X.w X.K X.mg X.base CX k x n ks sp gV) (hr : Room k' X.A) (hk : k + 1 ≤ k') (hg : X.A.guards = some []) (gl : Gl X x) (hx : Passes CX X E) (ha : PA X (e :: es) t) (hkw : PK X kws tk)
    (h1 : (backToKw pos (keywordEach kws X.env)).all (·.1.isSome) = true := by rfl) (h2 : (backToKw pos (keywordEach kws X.env)).filterMap (·.1) = ks := by rfl)
    (h3 : (x == ("__debug__" : Str)) = false := by decide) (h4 : starEach (e :: es) X.env = (false, eval e X.env) :: starEach es X.env := by rfl)
    (h5 : ((backTo pos (starEach (e :: es) X.env)).any (·.1) || (backToKw pos (keywordEach kws X.env)).any (·.1.isNone)) = false := by rfl) :
    PE X (.Call (.Name x p) (e :: es) kws pos) (tMk (He.ga X.K x) n ks.length sp gV E t tk) := by
  obtain ⟨⟨f, fd, ps, g, M, F, kb⟩, hm⟩ := c
  refine ⟨fun pins s σ H Q I h => ?_⟩
  refine wpAny_Call_Name_kw (ld_glob I gl hm ?_ h3)
  refine PySem.W.callWith_KW (h₀ := X.base) I.ok.mod.kin M.kp h1 (thn (ha.run pos pins s σ H _ I h) ?_) h5 h4
  rintro us s1 ⟨vs, H1, I1, r, q⟩
  refine thn (hkw.run pos pins s1 σ H1 _ I1 q) ?_
  rintro ws s2 ⟨zs, H2, I2, rz, l1, l2, q2⟩
  refine ⟨I2.kIn, ?_⟩
  rw [h2]
  exact run_mk M F (hr.mono hk) hg kb hx I2 r rz l1 l2 q2
theorem pe_mk0 (c : MakeOk X.prog X.w X.K X.mg X.base CX k x n ks sp gV) (hr : Room k' X.A) (hk : k + 1 ≤ k') (hg : X.A.guards = some []) (gl : Gl X x) (hx : Passes CX X E) (hkw : PK X kws tk)
    (h1 : (backToKw pos (keywordEach kws X.env)).all (·.1.isSome) = true := by rfl) (h2 : (backToKw pos (keywordEach kws X.env)).filterMap (·.1) = ks := by rfl)
    (h3 : (x == ("__debug__" : Str)) = false := by decide)
    (h5 : ((backTo pos (starEach [] X.env)).any (·.1) || (backToKw pos (keywordEach kws X.env)).any (·.1.isNone)) = false := by rfl) :
    PE X (.Call (.Name x p) [] kws pos) (tMk (He.ga X.K x) n ks.length sp gV E tNil tk) := by
  obtain ⟨⟨f, fd, ps, g, M, F, kb⟩, hm⟩ := c
  refine ⟨fun pins s σ H Q I h => ?_⟩
  refine wpAny_Call_Name_kw (ld_glob I gl hm ?_ h3)
  refine PySem.W.callWith_KW0 (h₀ := X.base) I.ok.mod.kin M.kp h1 (thn (hkw.run pos pins s σ H _ I h) ?_) h5
  rintro ws s2 ⟨zs, H2, I2, rz, l1, l2, q2⟩
  refine ⟨I2.kIn, ?_⟩
  rw [h2]
  exact run_mk (us := []) (vs := []) M F (hr.mono hk) hg kb hx I2 .nil rz l1 l2 q2
end
/-! ### readings of these -/
section
variable {B : Hp} {M M' L L' : List (Addr × HO)} {σ : St} {H : Hp} {Q : VK} {K : PySem.W.Frag} {to te tv : TE} {tl tk : TA} {C a dx : Addr} {fs fs' : List (Str × V)} {m f : Str} {v y : V}
variable {nx bk ct : St → Hp → Prop} {rt : VK}
/-- fields -/
inductive FGet : List (Str × V) → Str → V → Prop
  | here {f : Str} {v : V} {l : List (Str × V)} : FGet ((f, v) :: l) f v
  | there {f g : Str} {v u : V} {l : List (Str × V)} : (f == g) = false → FGet l f v → FGet ((g, u) :: l) f v
inductive NoF (f : Str) : List (Str × V) → Prop
  | nil : NoF f []
  | cons {g : Str} {u : V} {l : List (Str × V)} : (f == g) = false → NoF f l → NoF f ((g, u) :: l)
theorem FGet.eq (h : FGet fs f v) : fs.lookup f = some v := by
  induction h with
  | here => simp [List.lookup]
  | there hne _ ih =>
    rw [List.lookup_cons, hne]
    exact ih
theorem NoF.eq (h : NoF f fs) : fs.lookup f = none := by
  induction h with
  | nil => rfl
  | cons hne _ ih =>
    rw [List.lookup_cons, hne]
    exact ih
def aMe (C : Addr) (m : Str) (x : V) (H : Hp) (A : Prop) : Prop := ∃ a dx fs, x = .ref a ∧ H a = some (.ins C dx fs) ∧ fs.lookup m = none ∧ A
theorem g_me {n j : Nat} {sp : Sp} {gV : List V → List V → List V} {E : XK} (h : to σ H fun x H1 => aMe C m x H1 (tl σ H1 fun vs H2 => tk σ H2 fun zs H3 => aCl n j sp (fun vs zs => gV (x :: vs) zs) E vs zs H3 Q)) : tMe C m n j sp gV E to tl tk σ H Q := by
  exact h
theorem g_aMe {A : Prop} (h : H a = some (.ins C dx fs)) (n : NoF m fs) (q : A) : aMe C m (.ref a) H A := ⟨a, dx, fs, rfl, h, n.eq, q⟩
def aMk (C : Addr) (n j : Nat) (sp : Sp) (gV : List V → List V → List V) (E : XK) (vs zs : List V) (H2 : Hp) (Q : VK) : Prop := vs.length = n ∧ zs.length = j ∧
  ∀ x dx, H2 x = none → H2 dx = none → dx ≠ x → sp (gV (.ref x :: vs) zs) (upd (upd H2 dx (.own x)) x (.ins C dx [])) (fun v H3 => v = .non ∧ Q (.ref x) H3) E
theorem g_mk {n j : Nat} {sp : Sp} {gV : List V → List V → List V} {E : XK} (h : tl σ H fun vs H1 => tk σ H1 fun zs H2 => aMk C n j sp gV E vs zs H2 Q) : tMk C n j sp gV E tl tk σ H Q := h
theorem g_aMk {n j : Nat} {sp : Sp} {gV : List V → List V → List V} {E : XK} {vs zs : List V} (I : Is B M L H) (h1 : vs.length = n) (h2 : zs.length = j)
    (q : ∀ x dx H', Is B M ((x, .ins C dx []) :: (dx, .own x) :: L) H' → sp (gV (.ref x :: vs) zs) H' (fun v H3 => v = .non ∧ Q (.ref x) H3) E) : aMk C n j sp gV E vs zs H Q :=
  ⟨h1, h2, fun x dx hx hd hne => q x dx _ ((I.new hd).new (by rw [upd_ne (Ne.symm hne)]; exact hx))⟩
/-- o.f -/
def aFld (K : PySem.W.Frag) (f : Str) (x : V) (H1 : Hp) (Q : VK) : Prop := ∃ a C dx fs v, x = .ref a ∧ H1 a = some (.ins C dx fs) ∧ Cls K C ∧ NoAttr K C f ∧ fs.lookup f = some v ∧ Q v H1
theorem g_fld (h : to σ H fun x H1 => aFld K f x H1 Q) : tFld K to f σ H Q := h
theorem g_aFld (h : H a = some (.ins C dx fs)) (c : Cls K C) (n : NoAttr K C f) (g : FGet fs f v) (q : Q v H) : aFld K f (.ref a) H Q := ⟨a, C, dx, fs, v, rfl, h, c, n, g.eq, q⟩
/-- o.f = v -/
def aSetF (K : PySem.W.Frag) (f : Str) (y x : V) (H2 : Hp) (QH : Hp → Prop) : Prop := ∃ a C dx fs, x = .ref a ∧ H2 a = some (.ins C dx fs) ∧ Cls K C ∧ NoAttr K C f ∧ fs.length < 1000 ∧ QH (upd H2 a (.ins C dx (putF f y fs)))
theorem g_setF (h : tv σ H fun y H1 => to σ H1 fun x H2 => aSetF K f y x H2 fun H3 => nx σ H3) : sFld K to tv f ⟨nx, rt, bk, ct⟩ σ H := h
/-- a field is put -/
inductive FPut (f : Str) (v : V) : List (Str × V) → List (Str × V) → Prop
  | nil : FPut f v [] [(f, v)]
  | here {u : V} {l : List (Str × V)} : FPut f v ((f, u) :: l) ((f, v) :: l)
  | there {g : Str} {u : V} {l l' : List (Str × V)} : ¬ g = f → FPut f v l l' → FPut f v ((g, u) :: l) ((g, u) :: l')
theorem FPut.eq (h : FPut f v fs fs') : putF f v fs = fs' := by
  induction h with
  | nil => rfl
  | here => exact if_pos rfl
  | there hne _ ih =>
    show (if _ = _ then _ else _) = _
    rw [if_neg hne, ih]
theorem g_aSetF {QH : Hp → Prop} (I : Is B M L H) (h : H a = some (.ins C dx fs)) (c : Cls K C) (n : NoAttr K C f) (hz : fs.length < 100) (fp : FPut f y fs fs') (u : Put a (.ins C dx fs') L L') (q : ∀ H', Is B M L' H' → QH H') : aSetF K f y (.ref a) H QH :=
  ⟨a, C, dx, fs, rfl, h, c, n, by omega, q _ (by rw [fp.eq]; exact I.put u)⟩
theorem g_par3 {i j l : Nat} (h : tl σ H fun vs H1 => ∃ u v w, vs = [u, v, w] ∧ nx (((σ.set i (some u)).set j (some v)).set l (some w)) H1) : tPar3 i j l tl ⟨nx, rt, bk, ct⟩ σ H := h
theorem g_par3b {i j l : Nat} {σ1 σ2 σ3 : St} {u v w : V} (s1 : SetAt σ i (some u) σ1) (s2 : SetAt σ1 j (some v) σ2) (s3 : SetAt σ2 l (some w) σ3) (q : nx σ3 H) :
    ∃ u' v' w', [u, v, w] = [u', v', w'] ∧ nx (((σ.set i (some u')).set j (some v')).set l (some w')) H := by
  refine ⟨u, v, w, rfl, ?_⟩
  rw [s1.eq, s2.eq, s3.eq]
  exact q
/-- a power of written numbers -/
theorem g_pow {a b c : Int} (h : CPow a b) (e : a ^ b.toNat = c) (q : Q (.int c) H) : rI CPow (fun i j => .int (i ^ j.toNat)) (.int a) (.int b) H Q := ⟨a, b, rfl, rfl, h, by subst e; exact q⟩
/-- x op= e -/
theorem g_aug {i : Nat} {ti : TIp} {x : V} (h : At σ i x) (q : te σ H fun y H1 => ti x y H1 fun z H2 => nx (σ.set i (some z)) H2) : tAug i te ti ⟨nx, rt, bk, ct⟩ σ H := ⟨x, h.eq, q⟩
theorem g_set {σ' : St} {i : Nat} (s : SetAt σ i (some v) σ') (q : nx σ' H) : nx (σ.set i (some v)) H := by
  rw [s.eq]
  exact q
end
end Bz
namespace Bz
open PySem PySem.Spec PyProof.Rows L2
open AutoSeq1 (wpAny_loadPart')
/-! ### enumerate of a tuple -/
theorem enum_newT (l : Addr) (items : Array Value) (n : Nat) (dct : Option Addr) (sl : Array (Option Value)) :
    Meets (Builtin.«enumerate.__new__» ⟨[.type "enumerate", .ref l], []⟩) (fun _ R s => s.heap.get? l = some { cls := .type "tuple", dict := dct, data := .seq items n, slots := sl } ∧
      R (.ok (.ret (.ref (s.heap.push { cls := .type "tuple_iterator", data := .fields #[.ref l, .int 0 0] }).objs.size)))
        { s with heap := (s.heap.push { cls := .type "tuple_iterator", data := .fields #[.ref l, .int 0 0] }).push { cls := .type "enumerate", data := .fields #[.none, .bool false, .ref s.heap.objs.size, rawInt 0, .none, .none] } }) :=
  .of_wp fun prog w A R s h => by
    obtain ⟨hp, g, d, tk, os⟩ := s
    obtain ⟨hl, h⟩ := h
    have hsub := sub_enumerate
    have hT : Heap.IsTuple (Shared.heap ⟨hp, g, d, tk, os⟩) l items := ⟨_, hl, rfl, n, rfl⟩
    wp_walk using wpAny_loadPart' hl
    refine wpAny_stack_any fun st => wpAny_pure ?_
    split
    · rename_i c _ _ _ _ _
      cases (c == Value.type "enumerate")
      · wp_walk using wpAny_loadPart' hl, wpAny_pyIter_tuple hT
        exact ⟨_, rfl, h⟩
      · wp_walk using wpAny_loadPart' hl, wpAny_pyIter_tuple hT
        exact ⟨_, rfl, h⟩
    · wp_walk using wpAny_loadPart' hl, wpAny_pyIter_tuple hT
      exact ⟨_, rfl, h⟩
theorem call_enumT {prog : Program} {w : World} {A : Around} {E : Value → Shared → Prop} {s : Shared} {l : Addr} {items : Array Value} {Q : Value → Shared → Prop} (hL : s.heap.IsTuple l items)
    (h : ∀ h', IsEnum h' (s.heap.objs.size + 1) s.heap.objs.size 0 .none → h'.IsTupleIter s.heap.objs.size l 0 → h'.objs.size = s.heap.objs.size + 2 →
      (∀ b o, s.heap.get? b = some o → h'.get? b = some o) → Q (.ref (s.heap.objs.size + 1)) { s with heap := h' }) :
    wpAny (model prog w) A (call (.type "enumerate") [.ref l]) Q E s := by
  obtain ⟨⟨c, dct, dt, sl⟩, hl, hc, n, hd⟩ := hL
  replace hc : c = .type "tuple" := hc
  replace hd : dt = .seq items n := hd
  subst hc hd
  refine callType_new F.called_enumerate (by decide) (F.typeCall_enumerate_1 _) (F.newCall_enumerate_1 _) (fun obj => F.args_object_init_2 obj _) F.entry_enumerate_new
    (enum_newT l items n dct sl) ⟨hl, ?_⟩
  have hz : (s.heap.push { cls := .type "tuple_iterator", data := .fields #[.ref l, .int 0 0] }).objs.size = s.heap.objs.size + 1 := Heap.size_push ..
  show _ ∧ _
  rw [hz]
  have he : IsEnum ((s.heap.push { cls := .type "tuple_iterator", data := .fields #[.ref l, .int 0 0] }).push
      { cls := .type "enumerate", data := .fields #[.none, .bool false, .ref s.heap.objs.size, rawInt 0, .none, .none] }) (s.heap.objs.size + 1) s.heap.objs.size 0 .none := by
    have z := Heap.get?_push_size (s.heap.push { cls := .type "tuple_iterator", data := .fields #[.ref l, .int 0 0] })
      (o := { cls := .type "enumerate", data := .fields #[.none, .bool false, .ref s.heap.objs.size, rawInt 0, .none, .none] }) rfl
    rw [hz] at z
    exact z
  exact ⟨⟨_, he, rfl⟩, h _ he ⟨_, Heap.get?_push_of_some _ (Heap.get?_push_size _ rfl), rfl, rfl⟩ (by rw [Heap.size_push, hz]) fun b o x => Heap.get?_push_of_some _ (Heap.get?_push_of_some _ x)⟩
/-- the tuple at a, each item in a new pair -/
def IteT (K : PySem.W.Frag) (a : Addr) : It :=
  ⟨fun i H => ∃ (xs : List V) (x : V), SqT K H a xs ∧ xs[i]? = some x, fun i H v H' => ∃ T x, v = .ref T ∧ H T = none ∧ H' = upd H T (.tup [.int (i : Nat), x]) ∧ ∀ xs, SqT K H a xs → xs[i]? = some x, fun i H => ∃ xs : List V, SqT K H a xs ∧ xs.length ≤ i⟩
theorem turn_enumT {P : Program} {w : World} {K : PySem.W.Frag} {elts : List Expr} {kk : Nat} {tpos : Pos} (a e it : Addr) :
    Turn P w K (.Tuple elts kk tpos) (IteT K a) [e, it] e (fun i h => (∃ old, IsEnum h e it ((i : Nat) : Int) old) ∧ h.IsTupleIter it a i ∧ e ≠ it ∧ a ≠ it ∧ e ≠ a) where
  mem := by simp
  obj := fun i h st b hb => by
    obtain ⟨⟨old, he⟩, ⟨o, ho, hc, hd⟩, _⟩ := st
    have e' : b = e ∨ b = it := by simpa using hb
    rcases e' with z | z
    · rw [z]
      exact ⟨_, he, fun v q => nomatch q⟩
    · rw [z]
      exact ⟨o, ho, fun v q => by rw [hd] at q; cases q⟩
  keep := fun i h h' st k => let ⟨⟨old, he⟩, hi, hne⟩ := st; ⟨⟨old, k e (by simp) _ he⟩, hi.at fun o q => k it (by simp) o q, hne⟩
  item := by
    intro X hP hw hK hc i pins s σ H E I hf st hg
    subst hP hw hK
    obtain ⟨⟨old, he⟩, hit, hne, hai, hea⟩ := st
    obtain ⟨xs, x, hq, hx⟩ := hg
    obtain ⟨its, rv, p, hz⟩ := I.tuple hq
    obtain ⟨u, hu, ru⟩ := rv.get hx
    have hel : e < s.heap.objs.size := Heap.lt_size he
    have hil : it < s.heap.objs.size := by obtain ⟨_, q, _⟩ := hit; exact Heap.lt_size q
    have hu2 : its.toArray[i]? = some u := by simpa using hu
    have hlt : i < its.toArray.size := by
      rcases Nat.lt_or_ge i its.toArray.size with z | z
      · exact z
      · rw [Array.getElem?_eq_none z] at hu2
        cases hu2
    refine wpAny_pyNext_enum_itemD (Draws.tuple (show X.A.in1.handled = none from I.ok.hd hc) it a hai its.toArray) he ⟨hit, p⟩ hlt hne (by simpa using ⟨hne, hea⟩) fun y h' tk' hy ho hst hT hsz hk => ?_
    have hyu : y = u := by
      have := hy.symm.trans hu2
      exact Option.some.inj this
    subst hyu
    refine ⟨_, rfl, wpAny_letOwnedTupleGo_enum (s := { s with heap := h', toks := tk' + 1 }) ho fun h'' he' sb => ?_⟩
    have hT2 : h''.get? s.heap.objs.size = some { cls := .type "tuple", data := .seq #[.int i tk', y] } := (sb.2 _ (Nat.ne_of_gt hel)).trans hT
    have new : ObjOk X.prog X.w (upd H s.heap.objs.size (.tup [.int (i : Nat), x])) h'' s.heap.objs.size (.tup [.int (i : Nat), x]) :=
      ⟨by show 2 ≤ sizeLine; decide, [.int i tk', y], .cons ⟨_, rfl⟩ (.cons ru .nil), ⟨_, hT2, rfl, _, rfl⟩⟩
    have I1 : Inv X pins σ (upd H s.heap.objs.size (.tup [.int (i : Nat), x])) { s with heap := h'', toks := tk' + 1 } :=
      I.turnedNew (ch := [e, it]) (fun b ob hb q => (sb.2 b (fun z => hb (by simp [z]))).trans (hk b ob (fun z => hb (by simp [z])) (fun z => hb (by simp [z])) q)) hf (Nat.le_refl _) new
    refine ⟨.ref s.heap.objs.size, _, I1, rfl, ⟨_, x, rfl, I.hok.fresh (Nat.le_refl _), rfl, fun ys hy => by rw [I.tuple_inj hy hq]; exact hx⟩, ⟨⟨y, ?_⟩, hst.1.at fun o q => (sb.2 it (Ne.symm hne)).trans q, hne, hai, hea⟩, fun b hb => ?_⟩
    · have e1 : ((i + 1 : Nat) : Int) = (i : Int) + 1 := by omega
      rw [e1]
      exact he'
    · have hb' : b < s.heap.objs.size := by
        have e' : b = e ∨ b = it := by simpa using hb
        rcases e' with z | z
        · rw [z]
          exact hel
        · rw [z]
          exact hil
      rw [upd_ne (Nat.ne_of_lt hb')]
      exact (hf b hb).1
  done := by
    intro X hP hw hK hc i pins s σ H E I hf st hg
    subst hP hw hK
    obtain ⟨⟨old, he⟩, hit, hne, hai, hea⟩ := st
    obtain ⟨xs, hq, hx⟩ := hg
    obtain ⟨its, rv, p, hz⟩ := I.tuple hq
    obtain ⟨f0, f1, f2, f3, f4, f5⟩ := hf it (by simp)
    have hl := rv.length
    have hd : X.A.in1.handled = none := I.ok.hd hc
    unfold pyNext
    have hTy : s.TypeIs (.ref e) "enumerate" := ⟨_, he, rfl⟩
    refine wpAny_bind (wpAny_attempt (wpAny_callSpecial?_slot (name := Str.ofString "__next__") hTy F.slot_enumerate_next
      (wpAny_call_entry F.slot_enumerate_next hTy F.entry_enumerate_next ?_ (F.args_enumerate_next_1 _))))
    show wpAny _ _ (field (.ref e) 2 >>= _) _ _ _
    refine wpAny_bind (wpAny_field he rfl (x := .ref it) rfl ?_)
    refine wpAny_bind (wpAny_nextOf_tuple_end hd hit p (by simp; omega) fun h' x eb hx' => ?_)
    obtain ⟨o, ho, hc2⟩ := hx'
    refine wpAny_bind (wpAny_isInstance (T := "StopIteration") (b := true) ⟨o, ho, hc2⟩ isSubtype_stop ?_)
    exact wpAny_pure ⟨rfl, I.turned (t' := s.toks) (fun b o hb q => eb b o hb q) f0 f1 f3 f4 f5⟩
  self := fun A i s Q E st h => let ⟨⟨_, he⟩, _⟩ := st; wpAny_pyIter_enum he h
/-- enumerate of a list or of a tuple -/
def iEnumA (K : PySem.W.Frag) (ta : TA) : TI := fun σ H R => ta σ H fun vs H1 => ∃ a xs, vs = [.ref a] ∧ ((SqL K H1 a xs ∧ R (Ite K a) H1) ∨ (SqT K H1 a xs ∧ R (IteT K a) H1))
theorem pi_enumA {X : Cx} {e : Expr} {ta : TA} {p pos tpos : Pos} {elts : List Expr} {kk : Nat} (hg : Gl X "enumerate") (hm : X.mg "enumerate" = none) (ha : PA X [e] ta) (hs : starEach [e] X.env = [(false, eval e X.env)] := by rfl) :
    PI X (.Tuple elts kk tpos) (.Call (.Name "enumerate" p) [e] [] pos) (iEnumA X.K ta) := by
  refine ⟨fun pins s σ H R I h => ?_⟩
  refine Call_ (ld_blt I hg hm boot_enumerate (PyProof.Rows.callWith_type1 (thn (ha.run pos pins s σ H _ I h) fun us s1 ⟨vs, H1, I1, r1, q1⟩ => ?_) hs rfl))
  obtain ⟨a, xs, ex, q⟩ := q1
  subst ex
  cases r1 with
  | cons r rr =>
    cases rr
    cases r
    have hb : ∀ {b : Addr}, b = s1.heap.objs.size + 1 ∨ b = s1.heap.objs.size → s1.heap.objs.size ≤ b := fun {b} e' => by
      rcases e' with z | z
      · rw [z]
        exact Nat.le_add_right _ _
      · rw [z]
        exact Nat.le_refl _
    rcases q with ⟨hq, q⟩ | ⟨hq, q⟩
    · obtain ⟨its, rv, p', hz⟩ := I1.list hq
      refine call_enumerate_list p'.isList fun h' he hit hsz hk => wpAny_pyIter_enum he ?_
      have I2 : Inv X pins σ H1 { s1 with heap := h' } := I1.kept (t' := s1.toks) hk
      refine ⟨s1.heap.objs.size + 1, [s1.heap.objs.size + 1, s1.heap.objs.size], _, _, H1, rfl, I2, turn_enum a (s1.heap.objs.size + 1) s1.heap.objs.size, ⟨⟨.none, he⟩, hit, Nat.succ_ne_self _⟩, fun b hbm => ?_, q⟩
      have hle := hb (by simpa using hbm)
      exact I1.fpOk hle (I1.hok.fresh hle)
    · obtain ⟨its, rv, p', hz⟩ := I1.tuple hq
      have hal : a < s1.heap.objs.size := by
        obtain ⟨o, ho, _⟩ := p'
        exact Heap.lt_size ho
      refine call_enumT p' fun h' he hit hsz hk => wpAny_pyIter_enum he ?_
      have I2 : Inv X pins σ H1 { s1 with heap := h' } := I1.kept (t' := s1.toks) hk
      refine ⟨s1.heap.objs.size + 1, [s1.heap.objs.size + 1, s1.heap.objs.size], _, _, H1, rfl, I2, turn_enumT a (s1.heap.objs.size + 1) s1.heap.objs.size, ⟨⟨.none, he⟩, hit, Nat.succ_ne_self _, Nat.ne_of_lt hal, fun z => absurd hal (by rw [← z]; exact Nat.not_lt_of_le (Nat.le_add_right _ _))⟩, fun b hbm => ?_, q⟩
      have hle := hb (by simpa using hbm)
      exact I1.fpOk hle (I1.hok.fresh hle)
theorem walk_enumT {K : PySem.W.Frag} {a : Addr} {xs : List V} : Walk (IteT K a) xs.length (fun H => SqT K H a xs) (YPair (fun i => some (.int (i : Nat))) (fun i => xs[i]?)) := by
  refine ⟨fun i _ hi q => ?_, fun _ q => ⟨xs, q, Nat.le_refl _⟩, fun i H v H' hi q y => ?_⟩
  · exact ⟨xs, xs[i], q, by simp [hi]⟩
  · obtain ⟨T, x, h1, h2, h3, h4⟩ := y
    exact ⟨T, _, x, h1, h2, h3, rfl, h4 xs q⟩
end Bz
namespace Bz
open PySem PySem.Spec PyProof.Rows L2
def rMax2 : List V → Hp → VK → Prop := fun xs H Q => ∃ i j, xs = [.int i, .int j] ∧ Q (.int (if j > i then j else i)) H
def rMin2 : List V → Hp → VK → Prop := fun xs H Q => ∃ i j, xs = [.int i, .int j] ∧ Q (.int (if j < i then j else i)) H
def rDivmod : List V → Hp → VK → Prop := fun xs H Q => ∃ i j, xs = [.int i, .int j] ∧ CDiv i j ∧ ∀ p, H p = none → Q (.ref p) (upd H p (.tup [.int (i / j), .int (i % j)]))
def rTupOf (K : PySem.W.Frag) : List V → Hp → VK → Prop := fun xs H Q => ∃ p ys, xs = [.ref p] ∧ ((SqL K H p ys ∧ ∀ l, H l = none → Q (.ref l) (upd H l (.tup ys))) ∨ (SqT K H p ys ∧ Q (.ref p) H))
section
variable {X : Cx}
theorem cl_max2 (hc : X.calm = true) : CallR X (.builtin "max") rMax2 := call_max2 hc
theorem cl_min2 (hc : X.calm = true) : CallR X (.builtin "min") rMin2 := call_min2 hc
theorem cl_divmod : CallR X (.builtin "divmod") rDivmod := call_divmod
theorem cl_tupOf : CallR X (.type "tuple") (rTupOf X.K) := call_tuple_of
end
section
variable {B : Hp} {M M' L L' : List (Addr × HO)} {σ : St} {H : Hp} {Q : VK} {K : PySem.W.Frag} {tl : TA} {R : It → Hp → Prop} {a b p : Addr} {xs ys : List V} {i j : Int}
theorem imax (i j : Int) : (if j > i then j else i) = max i j := by
  by_cases h : j > i
  · rw [if_pos h]
    omega
  · rw [if_neg h]
    omega
theorem imin (i j : Int) : (if j < i then j else i) = min i j := by
  by_cases h : j < i
  · rw [if_pos h]
    omega
  · rw [if_neg h]
    omega
theorem g_max2 (q : Q (.int (max i j)) H) : rMax2 [.int i, .int j] H Q := ⟨i, j, rfl, by rw [imax]; exact q⟩
theorem g_min2 (q : Q (.int (min i j)) H) : rMin2 [.int i, .int j] H Q := ⟨i, j, rfl, by rw [imin]; exact q⟩
theorem g_divmod (I : Is B M L H) (h : CDiv i j) (q : ∀ p H', Is B M ((p, .tup [.int (i / j), .int (i % j)]) :: L) H' → Q (.ref p) H') : rDivmod [.int i, .int j] H Q := ⟨i, j, rfl, h, fun p hp => q p _ (I.new hp)⟩
theorem g_tupOf (I : Is B M L H) (h : SqL K H a xs) (q : ∀ p H', Is B M ((p, .tup xs) :: L) H' → Q (.ref p) H') : rTupOf K [.ref a] H Q := ⟨a, xs, rfl, .inl ⟨h, fun p hp => q p _ (I.new hp)⟩⟩
theorem g_listOfL (I : Is B M L H) (h : SqL K H a xs) (q : ∀ p H', Is B M ((p, .lst xs) :: L) H' → Q (.ref p) H') : rListOf K [.ref a] H Q := ⟨a, xs, rfl, .inl h, fun p hp => q p _ (I.new hp)⟩
theorem g_listOfT (I : Is B M L H) (h : SqT K H a xs) (q : ∀ p H', Is B M ((p, .lst xs) :: L) H' → Q (.ref p) H') : rListOf K [.ref a] H Q := ⟨a, xs, rfl, .inr h, fun p hp => q p _ (I.new hp)⟩
theorem g_sum {ns : List Int} (h : SqL K H a (ns.map V.int)) (q : Q (.int ns.sum) H) : rSum K [.ref a] H Q := ⟨a, ns, rfl, h, q⟩
theorem g_sortedI {ns : List Int} (I : Is B M L H) (h : SqL K H a (ns.map V.int)) (q : ∀ (ns' : List Int) p H', ns'.Perm ns → ns'.Pairwise (· ≤ ·) → Is B M ((p, .lst (ns'.map V.int)) :: L) H' → Q (.ref p) H') : rSortedI K [.ref a] H Q :=
  ⟨a, ns, rfl, h, fun ns' p h1 h2 hp => q ns' p _ h1 h2 (I.new hp)⟩
def aEnumA (K : PySem.W.Frag) (vs : List V) (H : Hp) (R : It → Hp → Prop) : Prop := ∃ a xs, vs = [.ref a] ∧ ((SqL K H a xs ∧ R (Ite K a) H) ∨ (SqT K H a xs ∧ R (IteT K a) H))
theorem g_enumA (h : tl σ H fun vs H1 => aEnumA K vs H1 R) : iEnumA K tl σ H R := h
theorem g_aEnumL (h : SqL K H a xs) (q : R (Ite K a) H) : aEnumA K [.ref a] H R := ⟨a, xs, rfl, .inl ⟨h, q⟩⟩
theorem g_aEnumT (h : SqT K H a xs) (q : R (IteT K a) H) : aEnumA K [.ref a] H R := ⟨a, xs, rfl, .inr ⟨h, q⟩⟩
def aZipA (K : PySem.W.Frag) (vs : List V) (H : Hp) (R : It → Hp → Prop) : Prop := ∃ a b xs ys, vs = [.ref a, .ref b] ∧ ((SqL K H a xs ∧ SqL K H b ys ∧ R (Itz K a b) H) ∨ (SqT K H a xs ∧ SqT K H b ys ∧ R (RZ.ItzT K a b) H))
theorem g_zipA (h : tl σ H fun vs H1 => aZipA K vs H1 R) : RZ.iZipA K tl σ H R := h
theorem g_aZipL (h : SqL K H a xs) (h2 : SqL K H b ys) (q : R (Itz K a b) H) : aZipA K [.ref a, .ref b] H R := ⟨a, b, xs, ys, rfl, .inl ⟨h, h2, q⟩⟩
theorem g_aZipT (h : SqT K H a xs) (h2 : SqT K H b ys) (q : R (RZ.ItzT K a b) H) : aZipA K [.ref a, .ref b] H R := ⟨a, b, xs, ys, rfl, .inr ⟨h, h2, q⟩⟩
theorem walk_zipTT {n : Nat} (hn : n = min xs.length ys.length) : Walk (RZ.ItzT K a b) n (fun H => SqT K H a xs ∧ SqT K H b ys) (YPair (fun i => xs[i]?) (fun i => ys[i]?)) := by
  subst hn
  refine ⟨fun i _ hi q => ?_, fun _ q => ⟨xs, ys, q.1, q.2, by omega⟩, fun i H v H' _ q y => ?_⟩
  · have h1 : i < xs.length := by omega
    have h2 : i < ys.length := by omega
    exact ⟨xs, ys, xs[i], ys[i], q.1, q.2, by simp [h1], by simp [h2]⟩
  · obtain ⟨T, x, z, h1, h2, h3, h4, h5⟩ := y
    exact ⟨T, x, z, h1, h2, h3, h4 xs q.1, h5 ys q.2⟩
theorem g_ipI {f : Int → Int → Int} (q : Q (.int (f i j)) H) : ipI f (.int i) (.int j) H Q := ⟨i, j, rfl, rfl, q⟩
end
end Bz
namespace Bz
open PySem PySem.Spec PyProof.Rows L2
section
variable {B : Hp} {M L : List (Addr × HO)} {σ σ0 : St} {H : Hp} {Q : VK} {te : TE} {g : TG} {J : It} {vs : List Nat} {xs : List V}
theorem take_snocI {α : Type} {l : List α} {i : Nat} {a : α} (h : l[i]? = some a) : l.take (i + 1) = l.take i ++ [a] := by
  rw [List.take_add_one, h]
  rfl
/-- a comprehension without a test whose items ys are known one by one -/
theorem g_lcI {G : Hp → Prop} {n : Nat} (ys : List V) (hn : ys.length = n) {Y : Nat → Hp → V → Hp → Prop} (w : Walk J n G Y) (I : Is B M L H) (hw : Wiped σ vs σ0) (hz : n ≤ 900000)
    (hG : ∀ D acc H', Is B M ((D, .lst acc) :: L) H' → G H')
    (hs : ∀ (i : Nat) (x y : V) (D : Addr) (acc : List V) (H' H'' : Hp), i < n → Y i H' x H'' → ys[i]? = some y → Is B M ((D, .lst acc) :: L) H' → ∀ (PY : V → Hp → Prop), (∀ H4, Is B M ((D, .lst acc) :: L) H4 → PY y H4) →
      g x σ0 H'' fun σ2 H2 => wipe σ2 vs = σ0 ∧ te σ2 H2 fun z H4 => PY z H4)
    (hd : ∀ D H', Is B M ((D, .lst ys) :: L) H' → Q (.ref D) H') : aLc J g tYes te vs σ H Q := by
  refine g_aLc w I hw hz (fun i acc B' M' => B = B' ∧ M = M' ∧ acc = ys.take i) ⟨rfl, rfl, rfl⟩ ?_ ?_ ?_
  · rintro i acc B' M' D H' _ s I' ⟨rfl, rfl, rfl⟩
    exact hG D _ H' I'
  · rintro i x acc B' M' D H' H'' hi s I' ⟨rfl, rfl, e⟩ y hl
    obtain ⟨z, hz⟩ : ∃ z, ys[i]? = some z := ⟨_, List.getElem?_eq_getElem (by omega)⟩
    have := hs i x z D acc H' H'' hi y hz I' (LcY (fun i acc B' M' => B = B' ∧ M = M' ∧ acc = ys.take i) B L D i) fun H4 I4 => lcY s I4 hl ⟨rfl, rfl, by rw [take_snocI hz, e]⟩
    exact this
  · rintro acc B' M' D H' s I' ⟨rfl, rfl, rfl⟩ _
    rw [List.take_of_length_le (by omega)] at I'
    exact hd D H' I'
/-- the same, over a list or a tuple -/
theorem g_lcX {G : Hp → Prop} (ys : List V) (hn : ys.length = xs.length) (w : Walk J xs.length G (YAt xs)) (I : Is B M L H) (hw : Wiped σ vs σ0) (hz : xs.length ≤ 900000)
    (hG : ∀ D acc H', Is B M ((D, .lst acc) :: L) H' → G H')
    (hs : ∀ (i : Nat) (x y : V) (D : Addr) (acc : List V) (H' : Hp), xs[i]? = some x → ys[i]? = some y → Is B M ((D, .lst acc) :: L) H' → ∀ (PY : V → Hp → Prop), (∀ H4, Is B M ((D, .lst acc) :: L) H4 → PY y H4) →
      g x σ0 H' fun σ2 H2 => wipe σ2 vs = σ0 ∧ te σ2 H2 fun z H4 => PY z H4)
    (hd : ∀ D H', Is B M ((D, .lst ys) :: L) H' → Q (.ref D) H') : aLc J g tYes te vs σ H Q := by
  refine g_lcI ys hn w I hw hz hG ?_ hd
  rintro i x y D acc H' H'' hi ⟨rfl, hx⟩ hy I' PY q
  exact hs i x y D acc _ hx hy I' PY q
end
/-! two lists side by side -/
inductive All2 {α β : Type} (F : α → β → Prop) : List α → List β → Prop
  | nil : All2 F [] []
  | cons {a : α} {b : β} {l : List α} {m : List β} : F a b → All2 F l m → All2 F (a :: l) (b :: m)
section
variable {α β : Type} {F G : α → β → Prop}
theorem All2.mono (h : ∀ a b, F a b → G a b) : ∀ {l : List α} {m : List β}, All2 F l m → All2 G l m
  | _, _, .nil => .nil
  | _, _, .cons h1 t => .cons (h _ _ h1) (t.mono h)
theorem All2.len : ∀ {l : List α} {m : List β}, All2 F l m → l.length = m.length
  | _, _, .nil => rfl
  | _, _, .cons _ t => by rw [List.length_cons, List.length_cons, t.len]
theorem All2.get : ∀ {l : List α} {m : List β} {i : Nat} {x : α}, All2 F l m → l[i]? = some x → ∃ y, m[i]? = some y ∧ F x y
  | _, _, 0, _, .cons h _, e => by
    cases e
    exact ⟨_, rfl, h⟩
  | _, _, i + 1, _, .cons _ t, e => t.get (i := i) e
theorem All2.get' : ∀ {l : List α} {m : List β} {i : Nat} {y : β}, All2 F l m → m[i]? = some y → ∃ x, l[i]? = some x ∧ F x y
  | _, _, 0, _, .cons h _, e => by
    cases e
    exact ⟨_, rfl, h⟩
  | _, _, i + 1, _, .cons _ t, e => t.get' (i := i) e
theorem All2.mem {l : List α} {m : List β} {x : α} (h : All2 F l m) (hx : x ∈ l) : ∃ y ∈ m, F x y := by
  obtain ⟨i, e⟩ := List.getElem?_of_mem hx
  obtain ⟨y, e2, f⟩ := h.get e
  exact ⟨y, List.mem_of_getElem? e2, f⟩
theorem All2.app : ∀ {l l' : List α} {m m' : List β}, All2 F l m → All2 F l' m' → All2 F (l ++ l') (m ++ m')
  | _, _, _, _, .nil, h => h
  | _, _, _, _, .cons h t, h2 => .cons h (t.app h2)
theorem All2.snoc {l : List α} {m : List β} {x : α} {y : β} (h : All2 F l m) (h2 : F x y) : All2 F (l ++ [x]) (m ++ [y]) := h.app (.cons h2 .nil)
end
end Bz
namespace Bz
open PySem PySem.Spec PyProof.Rows L2
/-- a op1 b op2 c op3 d -/
def tChain3 (r r' r3 : R2) (ta tb tc td : TE) : TE := fun σ H Q => ta σ H fun x H1 => tb σ H1 fun y H2 => r x y H2 fun z H3 => aIfV z H3
  (fun H3 => tc σ H3 fun w H4 => r' y w H4 fun z2 H5 => aIfV z2 H5 (fun H5 => td σ H5 fun v H6 => r3 w v H6 Q) fun H5 => Q (.bl false) H5) fun H3 => Q (.bl false) H3
theorem pe_chain3 {X : Cx} {a b c d : Expr} {ta tb tc td : TE} {pos : Pos} {op op' op3 : CmpOp} {r r' r3 : R2} (ho : OpR X (compareOp op) r) (ho' : OpR X (compareOp op') r') (ho3 : OpR X (compareOp op3) r3) (ha : PE X a ta) (hb : PE X b tb) (hc : PE X c tc) (hd : PE X d td)
    (hm : lastMarks [op, op', op3] [b, c, d] = false := by with_unfolding_all rfl) : PE X (.Compare a [op, op', op3] [b, c, d] pos) (tChain3 r r' r3 ta tb tc td) := by
  refine ⟨fun pins s σ H Q I h => ?_⟩
  refine Compare_chain (thn (ha.run pins s σ H _ I h) fun v s1 ⟨x, H1, I1, r1, q1⟩ => chain_link (thn (hb.run pins s1 σ H1 _ I1 q1) fun u s2 ⟨y, H2, I2, r2, q2⟩ =>
    thn (ho pins s2 σ H2 x y v u _ I2 r1 r2 q2) fun e s3 ⟨z, H3, I3, rz, k, ek, q3⟩ => ?_)) hm
  subst ek
  cases rz
  refine wpAny_truthy_bool ?_
  cases k with
  | false => exact ite_ff ⟨.bl false, H3, I3, rfl, q3⟩
  | true =>
    refine ite_tt (chain_link (thn (hc.run pins s3 σ H3 _ I3 q3) fun w' s4 ⟨z', H4, I4, r4, q4⟩ => thn (ho' pins s4 σ H4 y z' u w' _ I4 r2 r4 q4) fun e2 s5 ⟨z2, H5, I5, rz2, k2, ek2, q5⟩ => ?_))
    subst ek2
    cases rz2
    refine wpAny_truthy_bool ?_
    cases k2 with
    | false => exact ite_ff ⟨.bl false, H5, I5, rfl, q5⟩
    | true => exact ite_tt (chain_last (thn (hd.run pins s5 σ H5 _ I5 q5) fun w2 s6 ⟨z3, H6, I6, r6, q6⟩ => ho3 pins s6 σ H6 z' z3 w' w2 Q I6 r4 r6 q6))
theorem g_chain3 {σ : St} {H : Hp} {Q : VK} {ta tb tc td : TE} {r r' r3 : R2} (h : ta σ H fun x H1 => tb σ H1 fun y H2 => r x y H2 fun z H3 => aIfV z H3
  (fun H3 => tc σ H3 fun w H4 => r' y w H4 fun z2 H5 => aIfV z2 H5 (fun H5 => td σ H5 fun v H6 => r3 w v H6 Q) fun H5 => Q (.bl false) H5) fun H3 => Q (.bl false) H3) : tChain3 r r' r3 ta tb tc td σ H Q := h
end Bz
namespace Bz
open PySem PySem.Spec PyProof.Rows L2
theorem lt1 {h : Heap} {l : Addr} {xs : Array Value} (e : h.IsList l xs) : l < h.objs.size := by obtain ⟨_, e, _⟩ := e; exact Heap.lt_size e
theorem z3_type (a b c : Value) : checkTypeCall "zip" ⟨[a, b, c], []⟩ = pure () := by kernel_rfl
theorem z3_new (a b c : Value) : checkBuiltinCall "zip.__new__" ⟨[.type "zip", a, b, c], []⟩ = pure () := by kernel_rfl
theorem z3_init (a b c d : Value) : argsOk "object.__init__" ⟨[a, b, c, d], []⟩ := by
  unfold argsOk; rw [signature?_of (id := "object.__init__") (n := ['_', '_', 't', 'i', 'n', 'i', '_', '_']) (o := ['t', 'c', 'e', 'j', 'b', 'o']) (by kernel_rfl) F.owner_object]; kernel_rfl
abbrev IsTri (h : Heap) (T : Addr) (a b c : Value) : Prop := h.get? T = some { cls := .type "tuple", data := .seq #[a, b, c] }
section
variable {prog : Program} {w : World} {A : Around} {E : Value → Shared → Prop} {s : Shared} {n l1 l2 l3 : Nat}
theorem upd_tri {T : Addr} {a b c x : Value} {k : Nat} {Q : Unit → Shared → Prop} (hT : IsTri s.heap T a b c)
    (h : ∀ h', h'.get? T = some { cls := .type "tuple", data := .seq ((#[a, b, c] : Array Value).setIfInBounds k x) } → Heap.SameBut T s.heap h' → Q () { s with heap := h' }) :
    wpAny (model prog w) A (updateSeq T (·.setIfInBounds k x)) Q E s := by
  refine wpAny_updateSeq hT rfl (h _ ?_ (Heap.SameBut.update ..))
  rw [Heap.get?_update_self _ hT rfl]
  simp [Obj.mapSeq]
/-- a zip of three lists that has given k threes: its parts lie one behind the other from n on -/
structure Z3 (h : Heap) (n l1 l2 l3 k : Nat) : Prop where
  z : IsZip h (n + 5) (n + 3) (n + 4) .none
  ti : IsTri h (n + 3) (.ref n) (.ref (n + 1)) (.ref (n + 2))
  to : ∃ a b c, IsTri h (n + 4) a b c
  i1 : h.IsListIter n l1 k
  i2 : h.IsListIter (n + 1) l2 k
  i3 : h.IsListIter (n + 2) l3 k
  h1 : l1 < n
  h2 : l2 < n
  h3 : l3 < n
theorem z3_item {k : Nat} {xs ys zs : Array Value} {x y z : Value} {Q : Value → Shared → Prop} (D : Z3 s.heap n l1 l2 l3 k)
    (hl1 : s.heap.IsList l1 xs) (hl2 : s.heap.IsList l2 ys) (hl3 : s.heap.IsList l3 zs) (hx : xs[k]? = some x) (hy : ys[k]? = some y) (hz' : zs[k]? = some z)
    (hQ : ∀ h', IsZip h' (n + 5) (n + 3) (n + 4) (rawInt s.heap.objs.size) → IsTri h' (n + 4) x y z → h'.IsListIter n l1 (k + 1) → h'.IsListIter (n + 1) l2 (k + 1) → h'.IsListIter (n + 2) l3 (k + 1) →
      IsTri h' s.heap.objs.size x y z → h'.objs.size = s.heap.objs.size + 1 →
      (∀ c o, c ≠ n + 5 → c ≠ n + 4 → c ≠ n → c ≠ n + 1 → c ≠ n + 2 → s.heap.get? c = some o → h'.get? c = some o) → Q (.ref s.heap.objs.size) { s with heap := h' }) :
    wpAny (model prog w) A (Builtin.«zip.__next__» ⟨[.ref (n + 5 : Nat)], []⟩) (fun fin s' => ∃ v, fin = .done (.ret v) ∧ Q v s') E s := by
  obtain ⟨hz, hTI, ⟨a, b, c, hTO⟩, h1, h2, h3, q1, q2, q3⟩ := D
  show wpAny _ _ (field (.ref (n + 5 : Nat)) 2 >>= _) _ _ _
  refine wpAny_bind (wpAny_field hz rfl (x := .bool false) rfl ?_)
  show wpAny _ _ (field (.ref (n + 5 : Nat)) 3 >>= _) _ _ _
  refine wpAny_bind (wpAny_field hz rfl (x := .ref (n + 3 : Nat)) rfl ?_)
  refine wpAny_bind (wpAny_seqItems hTI rfl ?_)
  show wpAny _ _ (Builtin.SmallTypes.ownedTupleIsFree (.ref (n + 5 : Nat)) >>= _) _ _ _
  refine wpAny_bind ?_
  unfold Builtin.SmallTypes.ownedTupleIsFree
  refine wpAny_bind (wpAny_field hz rfl (x := .none) rfl (wpAny_pure ?_))
  simp only [if_true]
  refine wpAny_bind (wpAny_rule ?_)
  refine wpAny_bind (wpAny_field hz rfl (x := .ref (n + 4 : Nat)) rfl ?_)
  refine wpAny_bind (wpAny_setField_rec hz (by simp) fun h₁ hz₁ hs₁ => ?_)
  replace hz₁ : IsZip h₁ (n + 5) (n + 3) (n + 4) .ellipsis := hz₁
  refine wpAny_bind ?_
  simp only [List.zipIdx_cons, List.zipIdx_nil, List.forIn_cons, List.forIn_nil]
  have b1 : h₁.IsListIter n l1 k := h1.extBut hs₁.extBut (by show @Ne Nat _ _; omega)
  have b2 : h₁.IsListIter (n + 1) l2 k := h2.extBut hs₁.extBut (by show @Ne Nat _ _; omega)
  have b3 : h₁.IsListIter (n + 2) l3 k := h3.extBut hs₁.extBut (by show @Ne Nat _ _; omega)
  have c1 : h₁.IsList l1 xs := hl1.extBut hs₁.extBut (by show @Ne Nat _ _; omega)
  have c2 : h₁.IsList l2 ys := hl2.extBut hs₁.extBut (by show @Ne Nat _ _; omega)
  have c3 : h₁.IsList l3 zs := hl3.extBut hs₁.extBut (by show @Ne Nat _ _; omega)
  have hTO₁ : IsTri h₁ (n + 4) a b c := hs₁.extBut _ _ (by show @Ne Nat _ _; omega) hTO
  refine wpAny_bind (wpAny_bind (wpAny_onRaise ?_))
  show wpAny _ _ (Builtin.SmallTypes.nextOf (.ref n) >>= _) _ _ _
  refine wpAny_bind (wpAny_nextOf_list_item b1 c1 hx fun h₂ b1₂ hs₂ => wpAny_pure ?_)
  have hTO₂ : IsTri h₂ (n + 4) a b c := hs₂.extBut _ _ (by show @Ne Nat _ _; omega) hTO₁
  refine wpAny_bind (wpAny_seqItems hTO₂ rfl ?_)
  refine wpAny_bind (upd_tri hTO₂ fun h₃ hTO₃ hs₃ => ?_)
  replace hTO₃ : IsTri h₃ (n + 4) x b c := hTO₃
  refine wpAny_bind (wpAny_letGo (wpAny_pure ?_))
  refine wpAny_bind (wpAny_bind (wpAny_onRaise ?_))
  show wpAny _ _ (Builtin.SmallTypes.nextOf (.ref (n + 1 : Nat)) >>= _) _ _ _
  refine wpAny_bind (wpAny_nextOf_list_item ((b2.extBut hs₂.extBut (by show @Ne Nat _ _; omega)).extBut hs₃.extBut (by show @Ne Nat _ _; omega))
    ((c2.extBut hs₂.extBut (by show @Ne Nat _ _; omega)).extBut hs₃.extBut (by show @Ne Nat _ _; omega)) hy fun h₄ b2₄ hs₄ => wpAny_pure ?_)
  have hTO₄ : IsTri h₄ (n + 4) x b c := hs₄.extBut _ _ (by show @Ne Nat _ _; omega) hTO₃
  refine wpAny_bind (wpAny_seqItems hTO₄ rfl ?_)
  refine wpAny_bind (upd_tri hTO₄ fun h₅ hTO₅ hs₅ => ?_)
  replace hTO₅ : IsTri h₅ (n + 4) x y c := hTO₅
  refine wpAny_bind (wpAny_letGo (wpAny_pure ?_))
  refine wpAny_bind (wpAny_bind (wpAny_onRaise ?_))
  show wpAny _ _ (Builtin.SmallTypes.nextOf (.ref (n + 2 : Nat)) >>= _) _ _ _
  refine wpAny_bind (wpAny_nextOf_list_item ((((b3.extBut hs₂.extBut (by show @Ne Nat _ _; omega)).extBut hs₃.extBut (by show @Ne Nat _ _; omega)).extBut hs₄.extBut (by show @Ne Nat _ _; omega)).extBut hs₅.extBut (by show @Ne Nat _ _; omega))
    ((((c3.extBut hs₂.extBut (by show @Ne Nat _ _; omega)).extBut hs₃.extBut (by show @Ne Nat _ _; omega)).extBut hs₄.extBut (by show @Ne Nat _ _; omega)).extBut hs₅.extBut (by show @Ne Nat _ _; omega)) hz' fun h₆ b3₆ hs₆ => wpAny_pure ?_)
  have hTO₆ : IsTri h₆ (n + 4) x y c := hs₆.extBut _ _ (by show @Ne Nat _ _; omega) hTO₅
  refine wpAny_bind (wpAny_seqItems hTO₆ rfl ?_)
  refine wpAny_bind (upd_tri hTO₆ fun h₇ hTO₇ hs₇ => ?_)
  replace hTO₇ : IsTri h₇ (n + 4) x y z := hTO₇
  refine wpAny_bind (wpAny_letGo (wpAny_pure (wpAny_pure ?_)))
  refine wpAny_bind (wpAny_seqItems hTO₇ rfl ?_)
  refine wpAny_bind (wpAny_newTuple ?_)
  have hsz : h₇.objs.size = s.heap.objs.size := by rw [hs₇.1, hs₆.1, hs₅.1, hs₄.1, hs₃.1, hs₂.1, hs₁.1]
  have hz₇ : IsZip h₇ (n + 5) (n + 3) (n + 4) .ellipsis := hs₇.extBut _ _ (by show @Ne Nat _ _; omega) (hs₆.extBut _ _ (by show @Ne Nat _ _; omega) (hs₅.extBut _ _ (by show @Ne Nat _ _; omega) (hs₄.extBut _ _ (by show @Ne Nat _ _; omega) (hs₃.extBut _ _ (by show @Ne Nat _ _; omega) (hs₂.extBut _ _ (by show @Ne Nat _ _; omega) hz₁)))))
  have hk₇ : ∀ c o, c ≠ n + 5 → c ≠ n + 4 → c ≠ n → c ≠ n + 1 → c ≠ n + 2 → s.heap.get? c = some o → h₇.get? c = some o := fun c o e1 e2 e3 e4 e5 e =>
    hs₇.extBut _ _ e2 (hs₆.extBut _ _ e5 (hs₅.extBut _ _ e2 (hs₄.extBut _ _ e4 (hs₃.extBut _ _ e2 (hs₂.extBut _ _ e3 (hs₁.extBut _ _ e1 e))))))
  have b1₇ : h₇.IsListIter n l1 (k + 1) := ((((b1₂.extBut hs₃.extBut (by show @Ne Nat _ _; omega)).extBut hs₄.extBut (by show @Ne Nat _ _; omega)).extBut hs₅.extBut (by show @Ne Nat _ _; omega)).extBut hs₆.extBut (by show @Ne Nat _ _; omega)).extBut hs₇.extBut (by show @Ne Nat _ _; omega)
  have b2₇ : h₇.IsListIter (n + 1) l2 (k + 1) := ((b2₄.extBut hs₅.extBut (by show @Ne Nat _ _; omega)).extBut hs₆.extBut (by show @Ne Nat _ _; omega)).extBut hs₇.extBut (by show @Ne Nat _ _; omega)
  have b3₇ : h₇.IsListIter (n + 2) l3 (k + 1) := b3₆.extBut hs₇.extBut (by show @Ne Nat _ _; omega)
  have hzlt : n + 5 < h₇.objs.size := Heap.lt_size hz₇
  show wpAny _ _ (Builtin.SmallTypes.ownedTupleHandOut (.ref (n + 5 : Nat)) (.ref h₇.objs.size) >>= _) _ _ _
  refine wpAny_bind ?_
  unfold Builtin.SmallTypes.ownedTupleHandOut
  have hz₈ : IsZip (h₇.push { cls := .type "tuple", data := .seq #[x, y, z] }) (n + 5) (n + 3) (n + 4) .ellipsis := Heap.get?_push_of_some _ hz₇
  refine wpAny_bind (wpAny_setField_rec hz₈ (by simp) fun h₉ hz₉ hs₉ => ?_)
  replace hz₉ : IsZip h₉ (n + 5) (n + 3) (n + 4) (rawInt h₇.objs.size) := hz₉
  refine wpAny_setField_rec hz₉ (by simp) fun hA hzA hsA => ?_
  replace hzA : IsZip hA (n + 5) (n + 3) (n + 4) (rawInt h₇.objs.size) := hzA
  have up : ∀ c o, c ≠ n + 5 → h₇.get? c = some o → hA.get? c = some o := fun c o c1 e => hsA.extBut _ _ c1 (hs₉.extBut _ _ c1 (Heap.get?_push_of_some _ e))
  have hTA : IsTri hA h₇.objs.size x y z := hsA.extBut _ _ (Nat.ne_of_gt hzlt) (hs₉.extBut _ _ (Nat.ne_of_gt hzlt) (Heap.get?_push_size _ rfl))
  have hsA' : hA.objs.size = h₇.objs.size + 1 := by rw [hsA.1, hs₉.1, Heap.size_push]
  rw [hsz] at hzA hTA hsA'
  refine wpAny_pure ⟨_, rfl, ?_⟩
  show Q (.ref h₇.objs.size) _
  rw [hsz]
  exact hQ hA hzA (up _ _ (by show @Ne Nat _ _; omega) hTO₇) (b1₇.at fun o e => up _ o (by show @Ne Nat _ _; omega) e) (b2₇.at fun o e => up _ o (by show @Ne Nat _ _; omega) e) (b3₇.at fun o e => up _ o (by show @Ne Nat _ _; omega) e) hTA hsA' fun c o c1 c2 c3 c4 c5 e => up c o c1 (hk₇ c o c1 c2 c3 c4 c5 e)
/-- all three at their ends -/
theorem z3_end {k : Nat} {xs ys zs : Array Value} {Q : Fin → Shared → Prop} (hh : A.handled = none) (D : Z3 s.heap n l1 l2 l3 k) (hl1 : s.heap.IsList l1 xs) (hx : xs[k]? = none)
    (hE : ∀ h' e, (∀ c o, c ≠ n + 5 → c ≠ n + 4 → c ≠ n → c ≠ n + 1 → c ≠ n + 2 → s.heap.get? c = some o → h'.get? c = some o) → (∃ o, h'.get? e = some o ∧ o.cls = .type "StopIteration") → E (.ref e) { s with heap := h' }) :
    wpAny (model prog w) A (Builtin.«zip.__next__» ⟨[.ref (n + 5 : Nat)], []⟩) Q E s := by
  obtain ⟨hz, hTI, ⟨a, b, c, hTO⟩, h1, h2, h3, q1, q2, q3⟩ := D
  show wpAny _ _ (field (.ref (n + 5 : Nat)) 2 >>= _) _ _ _
  refine wpAny_bind (wpAny_field hz rfl (x := .bool false) rfl ?_)
  show wpAny _ _ (field (.ref (n + 5 : Nat)) 3 >>= _) _ _ _
  refine wpAny_bind (wpAny_field hz rfl (x := .ref (n + 3 : Nat)) rfl ?_)
  refine wpAny_bind (wpAny_seqItems hTI rfl ?_)
  show wpAny _ _ (Builtin.SmallTypes.ownedTupleIsFree (.ref (n + 5 : Nat)) >>= _) _ _ _
  refine wpAny_bind ?_
  unfold Builtin.SmallTypes.ownedTupleIsFree
  refine wpAny_bind (wpAny_field hz rfl (x := .none) rfl (wpAny_pure ?_))
  simp only [if_true]
  refine wpAny_bind (wpAny_rule ?_)
  refine wpAny_bind (wpAny_field hz rfl (x := .ref (n + 4 : Nat)) rfl ?_)
  refine wpAny_bind (wpAny_setField_rec hz (by simp) fun h₁ hz₁ hs₁ => ?_)
  replace hz₁ : IsZip h₁ (n + 5) (n + 3) (n + 4) .ellipsis := hz₁
  refine wpAny_bind ?_
  simp only [List.zipIdx_cons, List.zipIdx_nil, List.forIn_cons, List.forIn_nil]
  have b1 : h₁.IsListIter n l1 k := h1.extBut hs₁.extBut (by show @Ne Nat _ _; omega)
  have c1 : h₁.IsList l1 xs := hl1.extBut hs₁.extBut (by show @Ne Nat _ _; omega)
  refine wpAny_bind (wpAny_bind (wpAny_onRaise ?_))
  show wpAny _ _ (Builtin.SmallTypes.nextOf (.ref n) >>= _) _ _ _
  refine wpAny_bind (wpAny_nextOf_list_end hh b1 c1 hx fun h₂ e hs₂ he => ?_)
  obtain ⟨oe, hoe, hce⟩ := he
  have hz₂ : IsZip h₂ (n + 5) (n + 3) (n + 4) .ellipsis := hs₂ _ _ (by show @Ne Nat _ _; omega) hz₁
  have hez : e ≠ n + 5 := fun x => by subst x; rw [hz₂] at hoe; cases hoe; simp at hce
  exact wpAny_setField_rec hz₂ (by simp) fun h₃ _ hs₃ => hE h₃ e (fun c o c1 _ c3 _ _ x => hs₃.extBut _ _ c1 (hs₂ _ _ c3 (hs₁.extBut _ _ c1 x))) ⟨oe, hs₃.extBut _ _ hez hoe, hce⟩
theorem z3_next {k : Nat} {xs ys zs : Array Value} {x y z : Value} {Q : Option Value → Shared → Prop} (D : Z3 s.heap n l1 l2 l3 k)
    (hl1 : s.heap.IsList l1 xs) (hl2 : s.heap.IsList l2 ys) (hl3 : s.heap.IsList l3 zs) (hx : xs[k]? = some x) (hy : ys[k]? = some y) (hz' : zs[k]? = some z)
    (hQ : ∀ h', IsZip h' (n + 5) (n + 3) (n + 4) (rawInt s.heap.objs.size) → IsTri h' (n + 4) x y z → h'.IsListIter n l1 (k + 1) → h'.IsListIter (n + 1) l2 (k + 1) → h'.IsListIter (n + 2) l3 (k + 1) →
      IsTri h' s.heap.objs.size x y z → h'.objs.size = s.heap.objs.size + 1 →
      (∀ c o, c ≠ n + 5 → c ≠ n + 4 → c ≠ n → c ≠ n + 1 → c ≠ n + 2 → s.heap.get? c = some o → h'.get? c = some o) → Q (some (.ref s.heap.objs.size)) { s with heap := h' }) :
    wpAny (model prog w) A (pyNext (.ref (n + 5 : Nat))) Q E s := by
  have hT : s.TypeIs (.ref (n + 5 : Nat)) "zip" := ⟨_, D.z, rfl⟩
  unfold pyNext
  exact wpAny_bind (wpAny_attempt (wpAny_callSpecial?_slot (name := Str.ofString "__next__") hT F.slot_zip_next
    (wpAny_call_entry F.slot_zip_next hT F.entry_zip_next
      (z3_item D hl1 hl2 hl3 hx hy hz' fun h' a1 a2 a3 a4 a5 a6 a7 a8 => wpAny_pure (hQ h' a1 a2 a3 a4 a5 a6 a7 a8)) (F.args_zip_next_1 _))))
theorem z3_nextEnd {k : Nat} {xs : Array Value} {Q : Option Value → Shared → Prop} (hh : A.handled = none) (D : Z3 s.heap n l1 l2 l3 k) (hl1 : s.heap.IsList l1 xs) (hx : xs[k]? = none)
    (hQ : ∀ h', (∀ c o, c ≠ n + 5 → c ≠ n + 4 → c ≠ n → c ≠ n + 1 → c ≠ n + 2 → s.heap.get? c = some o → h'.get? c = some o) → Q none { s with heap := h' }) : wpAny (model prog w) A (pyNext (.ref (n + 5 : Nat))) Q E s := by
  have hT : s.TypeIs (.ref (n + 5 : Nat)) "zip" := ⟨_, D.z, rfl⟩
  unfold pyNext
  refine wpAny_bind (wpAny_attempt (wpAny_callSpecial?_slot (name := Str.ofString "__next__") hT F.slot_zip_next
    (wpAny_call_entry F.slot_zip_next hT F.entry_zip_next (z3_end (ys := #[]) (zs := #[]) hh D hl1 hx fun h' e hk he => ?_) (F.args_zip_next_1 _))))
  obtain ⟨o, ho, hc⟩ := he
  refine wpAny_bind (wpAny_isInstance (T := "StopIteration") (b := true) ⟨o, ho, hc⟩ isSubtype_stop ?_)
  exact wpAny_pure (hQ _ hk)
end
abbrev z3H1 (h : Heap) (l1 : Addr) : Heap := h.push { cls := .type "list_iterator", data := .fields #[.ref l1, .int 0 0] }
abbrev z3H2 (h : Heap) (l1 l2 : Addr) : Heap := (z3H1 h l1).push { cls := .type "list_iterator", data := .fields #[.ref l2, .int 0 0] }
abbrev z3H3 (h : Heap) (l1 l2 l3 : Addr) : Heap := (z3H2 h l1 l2).push { cls := .type "list_iterator", data := .fields #[.ref l3, .int 0 0] }
abbrev z3H4 (h : Heap) (l1 l2 l3 : Addr) : Heap := (z3H3 h l1 l2 l3).push { cls := .type "tuple", data := .seq #[.ref h.objs.size, .ref (z3H1 h l1).objs.size, .ref (z3H2 h l1 l2).objs.size] }
abbrev z3H5 (h : Heap) (l1 l2 l3 : Addr) : Heap := (z3H4 h l1 l2 l3).push { cls := .type "tuple", data := .seq #[.none, .none, .none] }
abbrev z3H6 (h : Heap) (l1 l2 l3 : Addr) : Heap := (z3H5 h l1 l2 l3).push { cls := .type "zip", data := .fields #[.none, .bool false, .bool false, .ref (z3H3 h l1 l2 l3).objs.size, .ref (z3H4 h l1 l2 l3).objs.size] }
theorem meets_z3 (l1 l2 l3 : Addr) (xs ys zs : Array Value) :
    Meets (Builtin.«zip.__new__» ⟨[.type "zip", .ref l1, .ref l2, .ref l3], []⟩) (fun _ R s => s.heap.IsList l1 xs ∧ s.heap.IsList l2 ys ∧ s.heap.IsList l3 zs ∧
      R (.ok (.ret (.ref (z3H5 s.heap l1 l2 l3).objs.size))) { s with heap := z3H6 s.heap l1 l2 l3 }) :=
  .of_wp fun prog w A R s h => by
    obtain ⟨hp, g, d, tk, os⟩ := s; obtain ⟨hl1, hl2, hl3, h⟩ := h
    have hsub := sub_zip
    have hL1 : Heap.IsList (Shared.heap ⟨hp, g, d, tk, os⟩) l1 xs := hl1
    have hL2 : Heap.IsList (Shared.heap ⟨hp.push { cls := .type "list_iterator", data := .fields #[.ref l1, .int 0 0] }, g, d, tk, os⟩) l2 ys := Heap.IsList.push hl2 _
    have hL3 : Heap.IsList (Shared.heap ⟨(hp.push { cls := .type "list_iterator", data := .fields #[.ref l1, .int 0 0] }).push { cls := .type "list_iterator", data := .fields #[.ref l2, .int 0 0] }, g, d, tk, os⟩) l3 zs := Heap.IsList.push (Heap.IsList.push hl3 _) _
    wp_walk using wpAny_pyIter_list hL1, wpAny_pyIter_list hL2, wpAny_pyIter_list hL3
    exact ⟨_, rfl, h⟩
section
variable {prog : Program} {w : World} {A : Around} {E : Value → Shared → Prop} {s : Shared}
theorem call_z3 {l1 l2 l3 : Nat} {xs ys zs : Array Value} {Q : Value → Shared → Prop} (hl1 : s.heap.IsList l1 xs) (hl2 : s.heap.IsList l2 ys) (hl3 : s.heap.IsList l3 zs)
    (h : ∀ h', Z3 h' s.heap.objs.size l1 l2 l3 0 → (∀ c o, s.heap.get? c = some o → h'.get? c = some o) → Q (.ref (s.heap.objs.size + 5)) { s with heap := h' }) :
    wpAny (model prog w) A (call (.type "zip") [.ref l1, .ref l2, .ref l3]) Q E s := by
  refine callType_new F.called_zip (by decide) (z3_type _ _ _) (z3_new _ _ _) (fun obj => z3_init obj _ _ _) F.entry_zip_new
    (meets_z3 l1 l2 l3 xs ys zs) ⟨hl1, hl2, hl3, ?_⟩
  have z1 : (z3H1 s.heap l1).objs.size = s.heap.objs.size + 1 := Heap.size_push ..
  have z2 : (z3H2 s.heap l1 l2).objs.size = s.heap.objs.size + 2 := by rw [Heap.size_push, z1]
  have z3 : (z3H3 s.heap l1 l2 l3).objs.size = s.heap.objs.size + 3 := by rw [Heap.size_push, z2]
  have z4 : (z3H4 s.heap l1 l2 l3).objs.size = s.heap.objs.size + 4 := by rw [Heap.size_push, z3]
  have z5 : (z3H5 s.heap l1 l2 l3).objs.size = s.heap.objs.size + 5 := by rw [Heap.size_push, z4]
  have g6 : (z3H6 s.heap l1 l2 l3).get? (z3H5 s.heap l1 l2 l3).objs.size = some _ := Heap.get?_push_size _ rfl
  have g5 : (z3H6 s.heap l1 l2 l3).get? (z3H4 s.heap l1 l2 l3).objs.size = some _ := Heap.get?_push_of_some _ (Heap.get?_push_size _ rfl)
  have g4 : (z3H6 s.heap l1 l2 l3).get? (z3H3 s.heap l1 l2 l3).objs.size = some _ := Heap.get?_push_of_some _ (Heap.get?_push_of_some _ (Heap.get?_push_size _ rfl))
  have g3 : (z3H6 s.heap l1 l2 l3).get? (z3H2 s.heap l1 l2).objs.size = some _ := Heap.get?_push_of_some _ (Heap.get?_push_of_some _ (Heap.get?_push_of_some _ (Heap.get?_push_size _ rfl)))
  have g2 : (z3H6 s.heap l1 l2 l3).get? (z3H1 s.heap l1).objs.size = some _ := Heap.get?_push_of_some _ (Heap.get?_push_of_some _ (Heap.get?_push_of_some _ (Heap.get?_push_of_some _ (Heap.get?_push_size _ rfl))))
  have g1 : (z3H6 s.heap l1 l2 l3).get? s.heap.objs.size = some _ := Heap.get?_push_of_some _ (Heap.get?_push_of_some _ (Heap.get?_push_of_some _ (Heap.get?_push_of_some _ (Heap.get?_push_of_some _ (Heap.get?_push_size _ rfl)))))
  show _ ∧ _
  rw [z3, z4, z5] at g6
  rw [z1, z2, z3] at g4
  rw [z4] at g5
  rw [z2] at g3
  rw [z1] at g2
  rw [z5]
  exact ⟨⟨_, g6, rfl⟩, h _ ⟨g6, g4, ⟨_, _, _, g5⟩, ⟨_, g1, rfl, rfl⟩, ⟨_, g2, rfl, rfl⟩, ⟨_, g3, rfl, rfl⟩, lt1 hl1, lt1 hl2, lt1 hl3⟩ fun c o x =>
    Heap.get?_push_of_some _ (Heap.get?_push_of_some _ (Heap.get?_push_of_some _ (Heap.get?_push_of_some _ (Heap.get?_push_of_some _ (Heap.get?_push_of_some _ x)))))⟩
end
/-- the lists at a, b, c as they stand at each turn, the items in new tuples of three -/
def Itz3 (K : PySem.W.Frag) (a b c : Addr) : It :=
  ⟨fun i H => ∃ (xs ys zs : List V) (x y z : V), SqL K H a xs ∧ SqL K H b ys ∧ SqL K H c zs ∧ xs[i]? = some x ∧ ys[i]? = some y ∧ zs[i]? = some z,
    fun i H v H' => ∃ T x y z, v = .ref T ∧ H T = none ∧ H' = upd H T (.tup [x, y, z]) ∧ (∀ xs, SqL K H a xs → xs[i]? = some x) ∧ (∀ ys, SqL K H b ys → ys[i]? = some y) ∧ ∀ zs, SqL K H c zs → zs[i]? = some z,
    fun i H => ∃ xs : List V, SqL K H a xs ∧ xs.length ≤ i⟩
theorem turn_zip3 {P : Program} {w : World} {K : PySem.W.Frag} {elts : List Expr} {kk : Nat} {tpos : Pos} {n a b c : Nat} :
    Turn P w K (.Tuple elts kk tpos) (Itz3 K a b c) [(n + 5 : Nat), (n + 4 : Nat), (n + 3 : Nat), n, (n + 1 : Nat), (n + 2 : Nat)] (n + 5 : Nat) (fun i h => Z3 h n a b c i) where
  mem := by simp
  obj := fun i h st d hd => by
    obtain ⟨hz, hTI, ⟨x, y, z, hTO⟩, ⟨o1, e1, _, d1⟩, ⟨o2, e2, _, d2⟩, ⟨o3, e3, _, d3⟩, _, _, _⟩ := st
    have e' : d = n + 5 ∨ d = n + 4 ∨ d = n + 3 ∨ d = n ∨ d = n + 1 ∨ d = n + 2 := by simpa using hd
    rcases e' with q | q | q | q | q | q
    · rw [q]; exact ⟨_, hz, fun v q => nomatch q⟩
    · rw [q]; exact ⟨_, hTO, fun v q => nomatch q⟩
    · rw [q]; exact ⟨_, hTI, fun v q => nomatch q⟩
    · rw [q]; exact ⟨o1, e1, fun v q => by rw [d1] at q; cases q⟩
    · rw [q]; exact ⟨o2, e2, fun v q => by rw [d2] at q; cases q⟩
    · rw [q]; exact ⟨o3, e3, fun v q => by rw [d3] at q; cases q⟩
  keep := fun i h h' st k => by
    obtain ⟨hz, hTI, ⟨x, y, z, hTO⟩, h1, h2, h3, q1, q2, q3⟩ := st
    exact ⟨k (n + 5) (by simp) _ hz, k (n + 3) (by simp) _ hTI, ⟨x, y, z, k (n + 4) (by simp) _ hTO⟩, h1.at fun o q => k n (by simp) o q, h2.at fun o q => k (n + 1) (by simp) o q, h3.at fun o q => k (n + 2) (by simp) o q, q1, q2, q3⟩
  item := by
    intro X hP hw hK hc i pins s σ H E I hf st hg
    subst hP hw hK
    obtain ⟨xs, ys, zs, x, y, z, hqx, hqy, hqz, hx, hy, hz'⟩ := hg
    obtain ⟨its, rv, p, _⟩ := I.list hqx
    obtain ⟨its2, rv2, p2, _⟩ := I.list hqy
    obtain ⟨its3, rv3, p3, _⟩ := I.list hqz
    obtain ⟨u, hu, ru⟩ := rv.get hx
    obtain ⟨u2, hu2, ru2⟩ := rv2.get hy
    obtain ⟨u3, hu3, ru3⟩ := rv3.get hz'
    have hzl : n + 5 < s.heap.objs.size := Heap.lt_size st.z
    refine z3_next st p.isList p2.isList p3.isList (x := u) (y := u2) (z := u3) (by simpa using hu) (by simpa using hu2) (by simpa using hu3) fun h' z' TO' h1' h2' h3' hT hsz hk => ?_
    refine ⟨_, rfl, wpAny_letOwnedTupleGo_zip (s := { s with heap := h' }) z' fun h'' z'' sb => ?_⟩
    have hT2 : h''.get? s.heap.objs.size = some { cls := .type "tuple", data := .seq #[u, u2, u3] } := (sb.2 _ (Nat.ne_of_gt hzl)).trans hT
    have new : ObjOk X.prog X.w (upd H s.heap.objs.size (.tup [x, y, z])) h'' s.heap.objs.size (.tup [x, y, z]) :=
      ⟨by show 3 ≤ sizeLine; decide, [u, u2, u3], .cons ru (.cons ru2 (.cons ru3 .nil)), ⟨_, hT2, rfl, _, rfl⟩⟩
    have hTI' : IsTri h'' (n + 3) (.ref n) (.ref (n + 1)) (.ref (n + 2)) := (sb.2 _ (by show @Ne Nat _ _; omega)).trans (hk _ _ (by show @Ne Nat _ _; omega) (by show @Ne Nat _ _; omega) (by show @Ne Nat _ _; omega) (by show @Ne Nat _ _; omega) (by show @Ne Nat _ _; omega) st.ti)
    have I1 : Inv X pins σ (upd H s.heap.objs.size (.tup [x, y, z])) { s with heap := h'' } :=
      I.turnedNew (t' := s.toks) (ch := [(n + 5 : Nat), (n + 4 : Nat), (n + 3 : Nat), n, (n + 1 : Nat), (n + 2 : Nat)]) (fun c o hb q => (sb.2 c (fun q' => hb (by simp [q']))).trans (hk c o (fun q' => hb (by simp [q'])) (fun q' => hb (by simp [q'])) (fun q' => hb (by simp [q'])) (fun q' => hb (by simp [q'])) (fun q' => hb (by simp [q'])) q)) hf (Nat.le_refl _) new
    refine ⟨.ref s.heap.objs.size, _, I1, rfl, ⟨_, x, y, z, rfl, I.hok.fresh (Nat.le_refl _), rfl, fun l hl => by rw [I.list_inj hl hqx]; exact hx, fun l hl => by rw [I.list_inj hl hqy]; exact hy, fun l hl => by rw [I.list_inj hl hqz]; exact hz'⟩,
      ⟨z'', hTI', ⟨u, u2, u3, ?_⟩, ?_, ?_, ?_, st.h1, st.h2, st.h3⟩, fun c hcm => ?_⟩
    · exact (sb.2 _ (by show @Ne Nat _ _; omega)).trans TO'
    · exact h1'.at fun o q => (sb.2 _ (by show @Ne Nat _ _; omega)).trans q
    · exact h2'.at fun o q => (sb.2 _ (by show @Ne Nat _ _; omega)).trans q
    · exact h3'.at fun o q => (sb.2 _ (by show @Ne Nat _ _; omega)).trans q
    · have hlt : c < s.heap.objs.size := by
        have e' : c = n + 5 ∨ c = n + 4 ∨ c = n + 3 ∨ c = n ∨ c = n + 1 ∨ c = n + 2 := by simpa using hcm
        have e2 : n + 5 < s.heap.objs.size := hzl
        show @LT.lt Nat _ _ _
        rcases e' with q | q | q | q | q | q <;> (rw [q]; omega)
      rw [upd_ne (Nat.ne_of_lt hlt)]
      exact (hf c hcm).1
  done := by
    intro X hP hw hK hc i pins s σ H E I hf st hg
    subst hP hw hK
    obtain ⟨xs, hqx, hend⟩ := hg
    obtain ⟨its, rv, p, _⟩ := I.list hqx
    have l1 := rv.length
    have he : its.toArray[i]? = none := by simp; omega
    exact z3_nextEnd (I.ok.hd hc) st p.isList he fun h' hk => ⟨rfl, I.turnedL (t' := s.toks) (ch := [(n + 5 : Nat), (n + 4 : Nat), (n + 3 : Nat), n, (n + 1 : Nat), (n + 2 : Nat)]) (fun c o hb q =>
      hk c o (fun q' => hb (by simp [q'])) (fun q' => hb (by simp [q'])) (fun q' => hb (by simp [q'])) (fun q' => hb (by simp [q'])) (fun q' => hb (by simp [q'])) q) hf⟩
  self := fun A i s Q E st h => wpAny_pyIter_zip st.z h
def aZip3 (K : PySem.W.Frag) (vs : List V) (H : Hp) (R : It → Hp → Prop) : Prop := ∃ a b c xs ys zs, vs = [.ref a, .ref b, .ref c] ∧ SqL K H a xs ∧ SqL K H b ys ∧ SqL K H c zs ∧ R (Itz3 K a b c) H
def iZip3 (K : PySem.W.Frag) (ta : TA) : TI := fun σ H R => ta σ H fun vs H1 => aZip3 K vs H1 R
theorem pi_zip3 {X : Cx} {e e2 e3 : Expr} {ta : TA} {p pos tpos : Pos} {elts : List Expr} {kk : Nat} (hg : Gl X "zip") (hm : X.mg "zip" = none) (ha : PA X [e, e2, e3] ta)
    (hs : starEach [e, e2, e3] X.env = (false, eval e X.env) :: starEach [e2, e3] X.env := by rfl) (hpl : (backTo pos (starEach [e2, e3] X.env)).any (·.1) = false := by rfl) :
    PI X (.Tuple elts kk tpos) (.Call (.Name "zip" p) [e, e2, e3] [] pos) (iZip3 X.K ta) := by
  refine ⟨fun pins s σ H R I h => ?_⟩
  refine Call_ (ld_blt I hg hm PyProof.Rows.boot_zip (PyProof.Rows.callWith_type1 (thn (ha.run pos pins s σ H _ I h) fun us s1 ⟨vs, H1, I1, r1, q1⟩ => ?_) hs hpl))
  obtain ⟨a, b, c, xs, ys, zs, ex, hqx, hqy, hqz, q⟩ := q1
  subst ex
  cases r1 with
  | cons r rr =>
    cases rr with
    | cons r' rr =>
      cases rr with
      | cons r'' rr =>
        cases rr
        cases r
        cases r'
        cases r''
        obtain ⟨its, rv, p1, _⟩ := I1.list hqx
        obtain ⟨its2, rv2, p2, _⟩ := I1.list hqy
        obtain ⟨its3, rv3, p3, _⟩ := I1.list hqz
        refine call_z3 p1.isList p2.isList p3.isList fun h' D hk => wpAny_pyIter_zip D.z ?_
        have I2 : Inv X pins σ H1 { s1 with heap := h' } := I1.kept (t' := s1.toks) hk
        refine ⟨(s1.heap.objs.size + 5 : Nat), _, _, _, H1, rfl, I2, turn_zip3 (n := s1.heap.objs.size) (a := a) (b := b) (c := c), D, fun d hd => ?_, q⟩
        have e' : d = s1.heap.objs.size + 5 ∨ d = s1.heap.objs.size + 4 ∨ d = s1.heap.objs.size + 3 ∨ d = s1.heap.objs.size ∨ d = s1.heap.objs.size + 1 ∨ d = s1.heap.objs.size + 2 := by simpa using hd
        have hle : s1.heap.objs.size ≤ d := by
          show @LE.le Nat _ _ _
          rcases e' with z | z | z | z | z | z <;> (rw [z]; omega)
        exact I1.fpOk hle (I1.hok.fresh hle)
/-- a new tuple of three -/
def YTri (xs ys zs : Nat → Option V) : Nat → Hp → V → Hp → Prop := fun i H v H' => ∃ T x y z, v = .ref T ∧ H T = none ∧ H' = upd H T (.tup [x, y, z]) ∧ xs i = some x ∧ ys i = some y ∧ zs i = some z
section
variable {K : PySem.W.Frag} {a b c : Addr} {xs ys zs : List V} {tl : TA} {σ : St} {H : Hp} {R : It → Hp → Prop}
theorem walk_zip3 {n : Nat} (h1 : n = xs.length) (h2 : n = ys.length) (h3 : n = zs.length) : Walk (Itz3 K a b c) n (fun H => SqL K H a xs ∧ SqL K H b ys ∧ SqL K H c zs) (YTri (fun i => xs[i]?) (fun i => ys[i]?) (fun i => zs[i]?)) := by
  refine ⟨fun i _ hi q => ?_, fun _ q => ⟨xs, q.1, by omega⟩, fun i H v H' _ q y => ?_⟩
  · have h1 : i < xs.length := by omega
    have h2 : i < ys.length := by omega
    have h3 : i < zs.length := by omega
    exact ⟨xs, ys, zs, xs[i], ys[i], zs[i], q.1, q.2.1, q.2.2, by simp [h1], by simp [h2], by simp [h3]⟩
  · obtain ⟨T, x, y, z, h1, h2, h3, h4, h5, h6⟩ := y
    exact ⟨T, x, y, z, h1, h2, h3, h4 xs q.1, h5 ys q.2.1, h6 zs q.2.2⟩
theorem g_zip3 (h : tl σ H fun vs H1 => aZip3 K vs H1 R) : iZip3 K tl σ H R := h
theorem g_aZip3 (h : SqL K H a xs) (h2 : SqL K H b ys) (h3 : SqL K H c zs) (q : R (Itz3 K a b c) H) : aZip3 K [.ref a, .ref b, .ref c] H R := ⟨a, b, c, xs, ys, zs, rfl, h, h2, h3, q⟩
end
end Bz
namespace Bz
open PySem PySem.Spec PyProof.Rows L2
/-! sum(xs, start=i) -/
theorem args_sumS (a v : Value) : argsOk "sum" ⟨[a], [(Str.ofString "start", v)]⟩ := by unfold argsOk; kernel_rfl
section
variable {prog : Program} {w : World} {A : Around} {E : Value → Shared → Prop} {s : Shared}
theorem walks_from {I : Addr} {fp wr : List Addr} {n : Nat} {P : Nat → Value → Prop} {St : Nat → Heap → Prop} (W : Walks prog w A I fp wr n P St) :
    Walks prog w A I fp wr (n + 1) (fun i v => ∃ j, i = j + 1 ∧ P j v) (fun i h => ∃ j, i = j + 1 ∧ St j h) where
  sub := W.sub
  frame := fun i h h' st k => by
    obtain ⟨j, rfl, st⟩ := st
    exact ⟨j, rfl, W.frame j h h' st k⟩
  item := fun i s Q E hi st hQ => by
    obtain ⟨j, rfl, st⟩ := st
    exact W.item j s Q E (by omega) st fun v h' tk p st' k => hQ v h' tk ⟨j, rfl, p⟩ ⟨j + 1, rfl, st'⟩ k
  done := fun s Q E st hQ => by
    obtain ⟨j, e, st⟩ := st
    have : j = n := by omega
    subst this
    exact W.done s Q E st hQ
  self := fun i s Q E st hQ => by
    obtain ⟨j, rfl, st⟩ := st
    exact W.self j s Q E st hQ
theorem preSum_from (a : Int) (val : Nat → Int) : ∀ n, preSum (fun i => if i = 0 then a else val (i - 1)) (n + 1) = a + preSum val n
  | 0 => by simp [preSum]
  | n + 1 => by
    have ih := preSum_from a val n
    show preSum _ (n + 1) + _ = a + (preSum val n + val n)
    rw [ih]
    simp
    omega
theorem call_treeK {id : String} {b : Builtin} {args : List Value} {kw : List (Str × Value)} {Q : Value → Shared → Prop} (hk : builtinKind id = none) (hp : plainId id = true)
    (hb : entryFor table id = some b) (ha : argsOk id ⟨args, kw⟩)
    (hc : wpAny (model prog w) A.in1 (b ⟨args, kw⟩) (fun fin s' => match fin with
      | .done f => (match (Except.ok f : Result) with | .ok (.ret v) => Q v s' | .ok _ => False | .error e => E e s')
      | .again c' => c'.quiet = true ∧ codeAny (model prog w) A c' (fun r s' => match r with | .ok (.ret v) => Q v s' | .ok _ => False | .error e => E e s') s') E s) :
    wpAny (model prog w) A (call (.builtin id) args kw) Q E s := by
  refine wpAny_call (codeAny_call_builtin hp hb ?_)
  simp only [checkBuiltinCall, hk]
  cases hsig : Manifest.signature? id with
  | none => exact wpAny_pure hc
  | some sig =>
    have h2 : Bind.checkArgs id sig ⟨args, kw⟩ = pure () := by simpa only [argsOk, hsig] using ha
    show wpAny _ A.in1 (Bind.checkArgs id sig ⟨args, kw⟩) _ _ s
    rw [h2]
    exact wpAny_pure hc
theorem call_sumS {l : Addr} {xs : Array (Int × Tok)} {a : Int} {t : Tok} {Q : Value → Shared → Prop} (hh : A.handled = none) (hl : s.heap.IsList l (intItems xs))
    (h : ∀ h' tk t', (∀ b o, s.heap.get? b = some o → h'.get? b = some o) → Q (.int (a + preSum (numAt xs) xs.size) t') { s with heap := h', toks := tk }) :
    wpAny (model prog w) A (call (.builtin "sum") [.ref l] [(Str.ofString "start", .int a t)]) Q E s := by
  refine call_treeK F.kind_sum F.plain_sum F.entry_sum (args_sumS _ _) ?_
  unfold Builtin.«sum»
  simp only [List.length_cons, List.length_nil]
  rw [if_neg (by decide)]
  refine wpAny_bind (wpAny_of_eq (show Builtin.Builtins.bindParams "sum" ["start"] 0 ⟨[], [(Str.ofString "start", .int a t)]⟩ = pure [some (.int a t)] from by kernel_rfl) ?_)
  refine wpAny_bind (iter_intList hl fun s₂ e st hfp hlI => ?_)
  subst e
  have W := walks_from (Walks.list (prog := prog) (w := w) (A := A.in1) hh s.heap.objs.size l hlI (intItems xs))
  have hsz : (intItems xs).size = xs.size := by simp [intItems]
  have key : ∀ (t0 : Tok) (stage : Int) (tk : Nat), (stage = 0 ∨ stage = 2) → ∀ h1 : Heap, h1 = (s.heap.push { cls := .type "list_iterator", data := .fields #[.ref l, .int 0 0] }).push { cls := .type "list", data := .seq #[Value.int a t0] } →
      codeAny (model prog w) A (.builtin "sum.loop" ⟨[.ref s.heap.objs.size, .ref (s.heap.objs.size + 1 : Nat), rawInt stage, rawInt 0], []⟩) (fun r s' => match r with | .ok (.ret v) => Q v s' | .ok _ => False | .error e => E e s') { s with heap := h1, toks := tk } := by
    intro t0 stage tk hst h1 eh
    subst eh
    have hS : Heap.get? ((s.heap.push { cls := .type "list_iterator", data := .fields #[.ref l, .int 0 0] }).push { cls := .type "list", data := .seq #[Value.int a t0] }) (s.heap.objs.size + 1 : Nat) = some { cls := .type "list", data := .seq #[Value.int a t0] } := by
      have := Heap.get?_push_size (s.heap.push { cls := .type "list_iterator", data := .fields #[.ref l, .int 0 0] }) (o := { cls := .type "list", data := .seq #[Value.int a t0] }) rfl
      rw [Heap.size_push] at this
      exact this
    refine codeAny_sum_loopG W (fun i => if i = 0 then a else numAt xs (i - 1)) ?_ (s.heap.objs.size + 1 : Nat) ?_ ((intItems xs).size + 1 - 1) 1 _ t0 stage hst rfl (by omega) ⟨0, rfl, ?_⟩ (c := 0) ?_ ?_
    · rintro i v ⟨j, rfl, hj⟩
      exact intItems_at hj
    · intro hm
      have := hfp _ hm
      rw [Heap.size_push] at this
      exact Nat.lt_irrefl _ this
    · exact ⟨st.1.at fun o e => Heap.get?_push_of_some _ e, st.2.at fun o e => Heap.get?_push_of_some _ e⟩
    · have e1 : preSum (fun i => if i = 0 then a else numAt xs (i - 1)) 1 = a := by simp [preSum]
      rw [e1]
      exact hS
    · intro h' tk' t' hk
      rw [preSum_from, hsz]
      exact h h' tk' t' fun b o e => hk b o (fun hm => by
        rw [List.mem_singleton] at hm
        subst hm
        exact Nat.lt_irrefl _ (Heap.lt_size e)) (fun hm => by
        subst hm
        have := Heap.lt_size e
        exact Nat.lt_irrefl _ (Nat.lt_trans (Nat.lt_succ_self _) this)) (Heap.get?_push_of_some _ (Heap.get?_push_of_some _ e))
  show wpAny _ _ (if _ then _ else _) _ _ _
  split
  · refine wpAny_bind (wpAny_rule ?_)
    refine wpAny_bind (wpAny_mkInt ?_)
    refine wpAny_bind (wpAny_pure ?_)
    simp only [List.forIn_cons, List.forIn_nil]
    refine wpAny_bind (wpAny_bind (wpAny_bind (wpAny_isInstance (T := "int") (b := false) (typeIs_int _ _ _) PySem.sub_int_str ?_)))
    simp only [Bool.false_eq_true, if_false]
    refine wpAny_pure (wpAny_bind (wpAny_bind (wpAny_isInstance (T := "int") (b := false) (typeIs_int _ _ _) PySem.sub_int_bytes ?_)))
    simp only [Bool.false_eq_true, if_false]
    refine wpAny_pure (wpAny_bind (wpAny_bind (wpAny_isInstance (T := "int") (b := false) (typeIs_int _ _ _) PySem.sub_int_bytearray ?_)))
    simp only [Bool.false_eq_true, if_false]
    refine wpAny_pure (wpAny_pure ?_)
    refine wpAny_bind (wpAny_newObj_type ?_)
    refine wpAny_pure ⟨plainId_quiet F.plain_sum_loop _, ?_⟩
    rw [Heap.size_push]
    exact key _ _ _ (by first | exact Or.inl rfl | exact Or.inr rfl) _ rfl
  · refine wpAny_bind (wpAny_pure ?_)
    simp only [List.forIn_cons, List.forIn_nil]
    refine wpAny_bind (wpAny_bind (wpAny_bind (wpAny_isInstance (T := "int") (b := false) (typeIs_int _ _ _) PySem.sub_int_str ?_)))
    simp only [Bool.false_eq_true, if_false]
    refine wpAny_pure (wpAny_bind (wpAny_bind (wpAny_isInstance (T := "int") (b := false) (typeIs_int _ _ _) PySem.sub_int_bytes ?_)))
    simp only [Bool.false_eq_true, if_false]
    refine wpAny_pure (wpAny_bind (wpAny_bind (wpAny_isInstance (T := "int") (b := false) (typeIs_int _ _ _) PySem.sub_int_bytearray ?_)))
    simp only [Bool.false_eq_true, if_false]
    refine wpAny_pure (wpAny_pure ?_)
    refine wpAny_bind (wpAny_newObj_type ?_)
    refine wpAny_pure ⟨plainId_quiet F.plain_sum_loop _, ?_⟩
    rw [Heap.size_push]
    exact key _ _ _ (by first | exact Or.inl rfl | exact Or.inr rfl) _ rfl
theorem sum_rawS {l : Addr} {its : List Value} {ns : List Int} {a : Int} {t : Tok} {Q : Value → Shared → Prop} (hh : A.handled = none) (hl : s.heap.IsList l its.toArray) (hi : IntsAre its ns)
    (h : ∀ h' tk t', (∀ b o, s.heap.get? b = some o → h'.get? b = some o) → Q (.int (a + ns.sum) t') { s with heap := h', toks := tk }) : wpAny (model prog w) A (call (.builtin "sum") [.ref l] [(Str.ofString "start", .int a t)]) Q E s := by
  obtain ⟨xs, e⟩ := hi.allInts.items
  have hn : numsOf (intItems xs).toList = ns := by rw [← e]; exact hi.numsOf
  rw [nums_intItems] at hn
  rw [e] at hl
  refine call_sumS hh hl fun h' tk t' hk => ?_
  have := h h' tk t' hk
  rw [preSum_eq, List.take_of_length_le (by simp), hn]
  exact this
end
/-- sum(xs, start=i) of a list of ints -/
def rSumS (K : PySem.W.Frag) : List V → List V → Hp → VK → Prop := fun vs zs H Q => ∃ (a : Addr) (ns : List Int) (i : Int), vs = [V.ref a] ∧ zs = [V.int i] ∧ SqL K H a (ns.map V.int) ∧ Q (.int (i + ns.sum)) H
theorem ck_sum {X : Cx} (hc : X.calm = true) : CallRK X (.builtin "sum") [Str.ofString "start"] (rSumS X.K) := by
  intro pins s σ H vs zs us ws Q I r rz h
  obtain ⟨a, ns, i, rfl, rfl, hs, q⟩ := h
  obtain ⟨its, rv, hl, _⟩ := I.list hs
  rw [Vals.ref1 r]
  obtain ⟨u, rfl, ru⟩ := vals1 rz
  obtain ⟨t, rfl⟩ := ru
  exact sum_rawS (I.ok.hd hc) hl.isList rv.ints fun h' tk t' hk => ⟨.int _, H, I.kept hk, ⟨_, rfl⟩, q⟩
section
variable {K : PySem.W.Frag} {H : Hp} {Q : VK} {a : Addr} {ns : List Int} {i : Int} {σ : St} {r : List V → List V → Hp → VK → Prop} {t tk : TA}
theorem g_ckw (h : t σ H fun vs H1 => tk σ H1 fun zs H2 => r vs zs H2 Q) : tCKw r t tk σ H Q := h
theorem g_sumS (h : SqL K H a (ns.map V.int)) (q : Q (.int (i + ns.sum)) H) : rSumS K [.ref a] [.int i] H Q := ⟨a, ns, i, rfl, rfl, h, q⟩
end
end Bz
namespace Bz
open PySem PySem.Spec PyProof.Rows L2
section
variable {B : Hp} {M L : List (Addr × HO)} {σ σ0 : St} {H : Hp} {Q : VK} {te : TE} {g : TG} {J : It} {vs : List Nat} {xs : List V}
/-- a comprehension that neither draws nor changes, told by rows l that stand beside: (l.filter p).map f -/
theorem g_lcF {α : Type} (l : List α) (hl : l.length = xs.length) {G : Hp → Prop} {tt : TT} (w : Walk J xs.length G (YAt xs)) (I : Is B M L H) (hw : Wiped σ vs σ0) (hz : xs.length ≤ 900000) (p : α → Bool) (f : α → V)
    (hG : ∀ D acc H', Is B M ((D, .lst acc) :: L) H' → G H')
    (hs : ∀ (i : Nat) (x : V) (r : α) (D : Addr) (acc : List V) (H' : Hp), xs[i]? = some x → l[i]? = some r → Is B M ((D, .lst acc) :: L) H' → ∀ (PY : V → Hp → Prop) (PN : Hp → Prop), (∀ H4, p r = true → Is B M ((D, .lst acc) :: L) H4 → PY (f r) H4) → (∀ H3, p r = false → Is B M ((D, .lst acc) :: L) H3 → PN H3) →
      g x σ0 H' fun σ2 H2 => wipe σ2 vs = σ0 ∧ tt σ2 H2 fun b H3 => if b = true then te σ2 H3 fun y H4 => PY y H4 else PN H3)
    (hd : ∀ D H', Is B M ((D, .lst ((l.filter p).map f)) :: L) H' → Q (.ref D) H') : aLc J g tt te vs σ H Q := by
  refine g_aLc w I hw hz (fun i acc B' M' => B' = B ∧ M' = M ∧ acc = ((l.take i).filter p).map f) ⟨rfl, rfl, rfl⟩ ?_ ?_ ?_
  · rintro i acc B' M' D H' _ s I' ⟨rfl, rfl, rfl⟩
    exact hG D _ H' I'
  · rintro i x acc B' M' D H' H'' hi s I' ⟨rfl, rfl, e⟩ ⟨rfl, hx⟩ hle
    obtain ⟨r, hr⟩ : ∃ r, l[i]? = some r := ⟨_, List.getElem?_eq_getElem (by omega)⟩
    refine hs i x r D acc H'' hx hr I' _ _ (fun H4 hp I4 => lcY s I4 hle ⟨rfl, rfl, ?_⟩) fun H3 hp I3 => lcN s I3 hle ⟨rfl, rfl, ?_⟩
    · rw [take_snocI hr, List.filter_append, List.map_append, e, List.filter_cons, if_pos hp]
      rfl
    · rw [take_snocI hr, List.filter_append, List.map_append, e, List.filter_cons, if_neg (by rw [hp]; exact Bool.false_ne_true)]
      simp
  · rintro acc B' M' D H' s I' ⟨rfl, rfl, rfl⟩ _
    rw [← hl, List.take_length] at I'
    exact hd D H' I'
end
theorem filt_sum {α : Type} (p : α → Bool) (f : α → Int) : ∀ l : List α, ((l.filter p).map f).sum = (l.map fun x => if p x then f x else 0).sum
  | [] => rfl
  | x :: l => by
    have ih := filt_sum p f l
    by_cases h : p x = true
    · rw [List.filter_cons, if_pos h, List.map_cons, List.sum_cons, ih, List.map_cons, List.sum_cons, if_pos h]
    · rw [List.filter_cons, if_neg h, ih, List.map_cons, List.sum_cons, if_neg h, Int.zero_add]
theorem filt_len {α : Type} (p : α → Bool) : ∀ l : List α, ((l.filter p).length : Int) = (l.map fun x => if p x then 1 else 0).sum
  | [] => rfl
  | x :: l => by
    have ih := filt_len p l
    by_cases h : p x = true
    · rw [List.filter_cons, if_pos h, List.map_cons, List.sum_cons, if_pos h, List.length_cons, ← ih]
      omega
    · rw [List.filter_cons, if_neg h, ih, List.map_cons, List.sum_cons, if_neg h, Int.zero_add]
end Bz
namespace Bz
open PySem PySem.Spec PyProof.Rows L2
/-! own special methods: ==, != of an instance with an own __eq__; len -/
theorem guards_in1 (A : Around) : A.in1.guards = A.guards := rfl
section
variable {X : Cx} {CX : CXT} {pins : List (Addr × Obj)} {σ : L2.St} {H : Hp} {s : Shared} {a C dx f : Addr} {fs : List (Str × V)} {k : Nat} {sp : Sp} {E : XK} {fd : FuncData} {ps : List Str} {gV : List V → List V → List V} {g : List Value → List Value → List Value} {ks : List Str}
/-- the callee runs below the running body -/
theorem run_gA {A : Around} {Q : VK} {us : List Value} {vs : List V} {n : Nat} (F : FnG X.prog X.w X.K X.mg X.base CX k f fd ps sp) (hr : Room k A) (hg : A.guards = some []) (e0 : Env0 X.prog X.w X.K X.mg X.base A X.stack s H) (hb : KBn X.K fd ps n [] g gV) (hx : Passes CX X E)
    (I : Inv X pins σ H s) (r : Vals vs us) (l1 : vs.length = n) (h : sp (gV vs []) H Q E) : wpAny (model X.prog X.w) A (call (.ref f) us) (EP X pins σ Q) X.xe s := by
  refine wpAny_call (codeAny_mono (F.go A X.stack s H ⟨us, []⟩ (g us []) (gV vs []) Q E hr hg e0 (hb.to s us [] I.kIn (r.length.symm.trans l1) rfl) (hb.rel r .nil) h) ?_)
  intro r s' z
  cases r with
  | error e => exact hx pins σ H s e s' I z
  | ok fl =>
    cases fl with
    | ret u => exact I.after z
    | next => exact False.elim z
    | brk => exact False.elim z
    | cont => exact False.elim z
theorem looks_ty {x : V} {u t : Value} (I : Inv X pins σ H s) (rx : RelV x u) (ty : TyOf X.K H x t) {M : Model} : PySem.W.Looks M s.heap (typeOf u) t := by
  cases ty with
  | non => cases (show u = Value.none from rx); exact PySem.W.kitx_none.ty _ _ I.kIn True.intro
  | bl y => cases (show u = Value.bool y from rx); exact PySem.W.kitx_bool.ty _ _ I.kIn True.intro
  | int i => obtain ⟨t, q⟩ := (show ∃ t, u = Value.int i t from rx); cases q; exact PySem.W.kitx_int.ty _ _ I.kIn True.intro
  | str y => obtain ⟨t, q⟩ := (show ∃ t, u = Value.str y t from rx); cases q; exact PySem.W.kitx_str.ty _ _ I.kIn True.intro
  | flt y => obtain ⟨t, q⟩ := (show ∃ t, u = Value.float y t from rx); cases q; exact PySem.W.kitx_float.ty _ _ I.kIn True.intro
  | @lst a xs ea =>
    cases (show u = Value.ref a from rx)
    obtain ⟨_, _, n, _, h1⟩ := (show ObjOk X.prog X.w H s.heap a (.lst xs) from I.hok a _ ea)
    exact PySem.W.kitx_list.ty _ _ I.kIn ⟨_, h1, rfl⟩
  | @frz a ob xs ea =>
    cases (show u = Value.ref a from rx)
    obtain ⟨_, _, _, n, _, h1⟩ := (show ObjOk X.prog X.w H s.heap a (.frz ob (.lst xs)) from I.hok a _ ea)
    exact PySem.W.kitx_list.ty _ _ I.kIn ⟨_, h1, rfl⟩
  | @tup a xs ea =>
    cases (show u = Value.ref a from rx)
    obtain ⟨_, _, _, p⟩ := (show ObjOk X.prog X.w H s.heap a (.tup xs) from I.hok a _ ea)
    obtain ⟨o, h1, h2, _⟩ := p
    exact PySem.W.kitx_tuple.ty _ _ I.kIn ⟨o, h1, h2⟩
  | @dK a kvs ea =>
    cases (show u = Value.ref a from rx)
    obtain ⟨_, _, vs, _, p⟩ := (show ObjOk X.prog X.w H s.heap a (.dK kvs) from I.hok a _ ea)
    obtain ⟨o, es, ep, h1, h2, _⟩ := p
    exact PySem.W.kitx_dict.ty _ _ I.kIn ⟨o, h1, h2.1⟩
  | @dT a kvs ea =>
    cases (show u = Value.ref a from rx)
    obtain ⟨_, _, xs, _, o, es, ep, h1, h2, _⟩ := (show ObjOk X.prog X.w H s.heap a (.dT kvs) from I.hok a _ ea)
    exact PySem.W.kitx_dict.ty _ _ I.kIn ⟨o, h1, h2.1⟩
  | @ins a C dx fs ea cl ha hn htk hm =>
    cases (show u = Value.ref a from rx)
    obtain ⟨mA, O, _⟩ := ins_get I.hok ea
    obtain ⟨od, J, _⟩ := O.look
    exact (PySem.W.kitx_own (cl.get _) cl.hd ha hn htk hm).ty _ _ I.kIn J
/-- what == of the class's instances asks: one of them at x, y of the type t that is not looked at first -/
def rOwnEq (K : PySem.W.Frag) (C : Addr) (sp : Sp) (gV : List V → List V → List V) (E : XK) : R2 := fun x y H Q => ∃ a dx fs t, x = .ref a ∧ H a = some (.ins C dx fs) ∧ TyOf K H y t ∧ PySem.W.notFirst K C t = true ∧ sp (gV [x, y] []) H Q E
theorem op_ownEq (c : MethOk X.prog X.w X.K X.mg X.base CX k C "__eq__" 1 [] sp gV) {k' : Nat} (hr : Room k' X.A) (hk : k ≤ k') (hg : X.A.guards = some []) (hx : Passes CX X E) : OpR X (compareOp .Eq) (rOwnEq X.K C sp gV E) := by
  obtain ⟨⟨f, fd, ps, g, hm, F, kb⟩, cl⟩ := c
  intro pins s σ H x y v u Q I rx ry h
  obtain ⟨a, dx, fs, t, rfl, ha, ty, hn, q⟩ := h
  cases (show v = Value.ref a from rx)
  obtain ⟨mA, O, _⟩ := ins_get I.hok ha
  obtain ⟨od, J, _⟩ := O.look
  obtain ⟨m, hF⟩ := I.fr
  show wpAny _ _ (richCompare .Eq (.ref a) u) _ _ _
  refine PySem.W.cmp_K (op := .Eq) (tb := t) hr.units0 hF I.ok.mod.kin J (looks_ty I ry ty) hn hm.at_ hm.fn ?_
  refine wpAny_mono (run_gA (us := [.ref a, u]) (vs := [.ref a, y]) F (hr.mono hk) hg I.env0 kb hx I (.cons rfl (.cons ry .nil)) rfl q) (fun w s' z => ?_) fun _ _ x => x
  obtain ⟨z', H', I', rz, qz⟩ := z
  exact SlX.cmpback rz ⟨z', H', I', rz, qz⟩
theorem ifBound_B {M : Model} {A : Around} {E : Value → Shared → Prop} {x : Addr} {ox : Obj} {od : Option Obj} {name : Str} {id B : String} {args : List Value} {Q : Option Value → Shared → Prop} {K : PySem.W.Frag} (XK : K.In s.heap) (I : PySem.W.InstAt s.heap x ox C od)
    (hs : PySem.W.findIn K (.ref C) name = some (some (.builtin id))) (S : Slot B name id) (h : wpAny M A (call (.builtin id) (.ref x :: args)) (fun v => Q (some v)) E s) : wpAny M A (callSpecialIfBound? (.ref x) name args) Q E s := by
  simp only [callSpecialIfBound?, bindSpecialIfBound?]
  refine wpAny_holding (wpAny_bind (wpAny_bind (wpAny_bind (I.type.here ((PySem.W.looks_findIn XK hs).here ?_)))))
  simp only [S.bind]
  refine wpAny_bind (wpAny_askSetting (wpAny_ite ?_))
  have fin : wpAny M A (call (.builtin id) ([.ref x] ++ args) >>= fun v => pure (some v)) Q E s := wpAny_bind (wpAny_mono h (fun v s' h' => wpAny_pure h') fun _ _ h' => h')
  split
  · exact wpAny_bind (wpAny_pure (wpAny_pure fin))
  · exact wpAny_tryCatch (wpAny_bind (wpAny_pure (wpAny_pure fin)))
/-- what != asks of the class: object's -/
structure OwnC (K : PySem.W.Frag) (C : Addr) : Prop where
  ne : PySem.W.findIn K (.ref C) "__ne__" = some (some (.builtin "object.__ne__"))
  ob : PySem.W.subIn K (.ref C) (.type "object") = some true
def rOwnNe (K : PySem.W.Frag) (C : Addr) (sp : Sp) (gV : List V → List V → List V) (E : XK) : R2 := fun x y H Q => ∃ a dx fs t, x = .ref a ∧ H a = some (.ins C dx fs) ∧ TyOf K H y t ∧ PySem.W.notFirst K C t = true ∧ sp (gV [x, y] []) H (fun v H' => ∃ b, v = .bl b ∧ Q (.bl (!b)) H') E
theorem op_ownNe (c : MethOk X.prog X.w X.K X.mg X.base CX k C "__eq__" 1 [] sp gV) (oc : OwnC X.K C) {k' : Nat} (hr : Room (k' + 1) X.A) (hk : k ≤ k') (hg : X.A.guards = some []) (hx : Passes CX X E) : OpR X (compareOp .NotEq) (rOwnNe X.K C sp gV E) := by
  obtain ⟨⟨f, fd, ps, g, hm, G, kb⟩, cl⟩ := c
  intro pins s σ H x y v u Q I rx ry h
  obtain ⟨a, dx, fs, t, rfl, ha, ty, hn, q⟩ := h
  cases (show v = Value.ref a from rx)
  obtain ⟨mA, O, _⟩ := ins_get I.hok ha
  obtain ⟨od, J, _⟩ := O.look
  have KX := I.kIn
  -- the call of object.__ne__
  have one : wpAny (model X.prog X.w) X.A (tryCompare (.ref a) "__ne__" u) (fun r s' => ∃ b H', r = some (Value.bool b) ∧ Inv X pins σ H' s' ∧ Q (.bl b) H') X.xe s := by
    unfold tryCompare
    refine wpAny_bind (ifBound_B KX J oc.ne F.cmp_object.ne (wpAny_call (codeAny_call_builtin F.cmp_object.ne.plain F.cmpEntry_ne ?_)))
    refine PySem.W.check_slot F.cmpKind_ne F.cmpSplit_ne (J.type.andThen (PySem.W.looks_subIn KX oc.ob)) (F.cmpArgs_ne _ _) ?_
    unfold Builtin.«object.__ne__»
    refine wpAny_bind (wpAny_of_eq (a := ((Value.ref a : Value), [u])) (by first | rfl | (simp only [slotArgs]; rfl)) ?_)
    refine wpAny_bind (wpAny_cRoomFor (Room.in1 hr).units0 ?_)
    refine wpAny_bind (PySem.W.ifBound_K KX J hm.at_ hm.fn (wpAny_mono (run_gA (A := X.A.in1) (us := [.ref a, u]) (vs := [.ref a, y]) G ((Room.in1 hr).mono hk) hg I.env0.in1 kb hx I (.cons rfl (.cons ry .nil)) rfl q) (fun w s' z => ?_) fun e s' z => z))
    obtain ⟨z', H', I', rz, b, eb, qz⟩ := z
    subst eb
    cases (show w = Value.bool b from rz)
    refine wpAny_bind (wpAny_truthy_bool ?_)
    exact wpAny_pure (wpAny_pure ⟨!b, H', rfl, I', qz⟩)
  show wpAny _ _ (richCompare .NotEq (.ref a) u) _ _ _
  unfold richCompare
  simp only [oneThing_ref]
  refine wpAny_holding (wpAny_bind (wpAny_cRoomFor hr.units0 ?_))
  refine wpAny_bind (J.type.here (wpAny_bind ((looks_ty I ry ty).here ?_)))
  split
  · rename_i q
    have e : PySem.W.subIn X.K t (.ref C) = some false := by
      rcases Bool.or_eq_true_iff.mp hn with e | e
      · rw [beq_iff_eq.mp e] at q; simp at q
      · exact beq_iff_eq.mp e
    refine wpAny_bind ((PySem.W.looks_subIn KX e).here ?_)
    simp only [Bool.false_eq_true, if_false]
    refine wpAny_bind (wpAny_mono one (fun r s' z => ?_) fun _ _ e => e)
    obtain ⟨b, H', rfl, I', qz⟩ := z
    exact wpAny_pure ⟨.bl b, H', I', rfl, qz⟩
  · refine wpAny_bind (wpAny_pure ?_)
    simp only [Bool.false_eq_true, if_false]
    refine wpAny_bind (wpAny_mono one (fun r s' z => ?_) fun _ _ e => e)
    obtain ⟨b, H', rfl, I', qz⟩ := z
    exact wpAny_pure ⟨.bl b, H', I', rfl, qz⟩
/-- len(x) of an instance with an own __len__ -/
def rLenOwn (C : Addr) (sp : Sp) (gV : List V → List V → List V) (E : XK) : List V → Hp → VK → Prop := fun xs H Q => ∃ a dx fs, xs = [.ref a] ∧ H a = some (.ins C dx fs) ∧ sp (gV [.ref a] []) H (fun v H' => ∃ n : Int, v = .int n ∧ 0 ≤ n ∧ n < 2 ^ 62 ∧ Q (.int n) H') E
theorem cl_lenOwn (c : MethOk X.prog X.w X.K X.mg X.base CX k C "__len__" 0 [] sp gV) {k' : Nat} (hr : Room (k' + 1) X.A) (hk : k ≤ k') (hg : X.A.guards = some []) (hx : Passes CX X E) : CallR X (.builtin "len") (rLenOwn C sp gV E) := by
  obtain ⟨⟨f, fd, ps, g, hm, G, kb⟩, cl⟩ := c
  intro pins s σ H xs us Q I r h
  obtain ⟨a, dx, fs, rfl, ha, q⟩ := h
  rw [Vals.ref1 r]
  obtain ⟨mA, O, _⟩ := ins_get I.hok ha
  obtain ⟨od, J, _⟩ := O.look
  obtain ⟨m, hF⟩ := I.fr
  refine PySem.W.len_K hF I.ok.mod.kin J hm.at_ hm.fn (wpAny_mono (run_gA (A := X.A.in1) (us := [.ref a]) (vs := [.ref a]) G ((Room.in1 hr).mono hk) hg I.env0.in1 kb hx I (.cons rfl .nil) rfl q) (fun w s' z => ?_) fun e s' z => z)
  obtain ⟨z', H', I', rz, n, en, h0, h1, qz⟩ := z
  subst en
  obtain ⟨t, e⟩ := (show ∃ t, w = Value.int n t from rz)
  subst e
  exact ⟨⟨h0, by omega⟩, .int n, H', I'.tok _, ⟨_, rfl⟩, qz⟩
/-- str(x) of an instance with an own __str__ -/
def rStrOwn (C : Addr) (sp : Sp) (gV : List V → List V → List V) (E : XK) : List V → Hp → VK → Prop := fun xs H Q => ∃ a dx fs, xs = [.ref a] ∧ H a = some (.ins C dx fs) ∧ sp (gV [.ref a] []) H (fun v H' => ∃ z : Str, v = .str z ∧ Q (.str z) H') E
theorem strOf_own {prog : Program} {w : World} {A : Around} {E : Value → Shared → Prop} {x : Addr} {ox : Obj} {od : Option Obj} {K : PySem.W.Frag} {Q : Value → Shared → Prop} (hu : A.units < cLine) (XK : K.In s.heap) (I : PySem.W.InstAt s.heap x ox C od)
    (hs : PySem.W.findIn K (.ref C) "__str__" = some (some (.ref f))) (hf : PySem.W.isFn K (.ref f) = true) (h : wpAny (model prog w) A (call (.ref f) [.ref x]) (fun r s₁ => ∃ z t, r = Value.str z t ∧ Q r s₁) E s) : wpAny (model prog w) A (Builtin.Str.strOf (.ref x)) Q E s := by
  unfold Builtin.Str.strOf
  rw [if_neg (show ¬ Builtin.Str.isExactStr (.ref x) = true from Bool.false_ne_true)]
  refine wpAny_bind (wpAny_cRoomFor hu ?_)
  refine wpAny_bind (m := callSpecial? (.ref x) (Str.ofString "__str__")) (PySem.W.special_fn XK I hs (beq_iff_eq.mp hf) (wpAny_mono h (fun r s' hr => ?_) fun _ _ y => y))
  obtain ⟨z, t, rfl, hq⟩ := hr
  refine wpAny_bind (wpAny_pure ?_)
  exact wpAny_pure hq
theorem cl_strOwn (c : MethOk X.prog X.w X.K X.mg X.base CX k C "__str__" 0 [] sp gV) {k' : Nat} (hr : Room (k' + 2) X.A) (hk : k ≤ k') (hg : X.A.guards = some []) (hx : Passes CX X E) : CallR X (.type "str") (rStrOwn C sp gV E) := by
  obtain ⟨⟨f, fd, ps, g, hm, G, kb⟩, cl⟩ := c
  intro pins s σ H xs us Q I r h
  obtain ⟨a, dx, fs, rfl, ha, q⟩ := h
  rw [Vals.ref1 r]
  obtain ⟨mA, O, _⟩ := ins_get I.hok ha
  obtain ⟨od, J, _⟩ := O.look
  have hr1 : Room (k' + 1) X.A.in1 := Room.in1 hr
  have hr2 : Room k' X.A.in1.in1 := Room.in1 hr1
  refine callType_newIn F.called_str (by decide) (F.typeCall_str_1 _) (F.newCall_str_1 _) (fun obj => F.args_object_init_2 obj _) F.entry_str_new
    (S := fun A' R s' => A'.in1.units < cLine ∧ X.K.In s'.heap ∧ PySem.W.InstAt s'.heap a (PySem.W.instObj C dx) C (some od) ∧ wpAny (model X.prog X.w) A'.in1 (call (.ref f) [.ref a]) (fun r s₁ => ∃ z t, r = Value.str z t ∧ R (.ok (.ret r)) s₁) (fun e s₁ => R (.error e) s₁) s') ?_ ?_
  · refine MeetsIn.of_wp fun A' R s' h => ?_
    obtain ⟨hu, hK, hJ, h⟩ := h
    rw [str_new_tree]
    refine wpAny_bind (wpAny_pure ?_)
    refine wpAny_bind (wpAny_of_eq isSubtype_str_str ?_)
    exact wpAny_bind (wpAny_mono (strOf_own (A := A'.in1) (Q := fun r s₁ => R (.ok (.ret r)) s₁) hu hK hJ hm.at_ hm.fn h) (fun r s' h' => wpAny_pure ⟨_, rfl, h'⟩) fun _ _ e => e)
  · refine ⟨hr2.units0, I.kIn, J, wpAny_mono (run_gA (A := X.A.in1.in1) (us := [.ref a]) (vs := [.ref a]) G (hr2.mono hk) hg I.env0.in1.in1 kb hx I (.cons rfl .nil) rfl q) (fun w s' z => ?_) fun e s' z => z⟩
    obtain ⟨z', H', I', rz, zs, ez, qz⟩ := z
    subst ez
    obtain ⟨t, e⟩ := (show ∃ t, w = Value.str zs t from rz)
    subst e
    exact ⟨zs, t, rfl, typeIs_str _ _ _, .str zs, H', I', ⟨_, rfl⟩, qz⟩
theorem truthy_own {prog : Program} {w : World} {A : Around} {E : Value → Shared → Prop} {x : Addr} {ox : Obj} {od : Option Obj} {K : PySem.W.Frag} {Q : Bool → Shared → Prop} (XK : K.In s.heap) (I : PySem.W.InstAt s.heap x ox C od) (hb : PySem.W.findIn K (.ref C) "__bool__" = some none)
    (hs : PySem.W.findIn K (.ref C) "__len__" = some (some (.ref f))) (hf : PySem.W.isFn K (.ref f) = true) (h : wpAny (model prog w) A.in1 (call (.ref f) [.ref x]) (fun r s₁ => ∃ n t, r = Value.int n t ∧ 0 ≤ n ∧ n < 2 ^ 62 ∧ ∀ tk, Q (n != 0) { s₁ with toks := tk }) E s) : wpAny (model prog w) A (truthy (.ref x)) Q E s := by
  have key : wpAny (model prog w) A (runValue (.builtin "len" ⟨[.ref x], []⟩)) (fun r s' => ∃ n t, r = .int n t ∧ Q (n != 0) s') E s := by
    refine wpAny_runValue (codeAny_builtin entry_len ?_)
    rw [Around.under_plainId plain_len _]
    unfold Builtin.«len»
    refine wpAny_bind (m := oneArg "len" _) (wpAny_pure ?_)
    refine wpAny_bind (m := callSpecial? (.ref x) (Str.ofString "__len__")) (PySem.W.special_fn XK I hs (beq_iff_eq.mp hf) (wpAny_mono h (fun r s' hr => ?_) fun _ _ y => y))
    obtain ⟨n, t, rfl, h0, h1, hq⟩ := hr
    refine wpAny_bind (wpAny_holding (wpAny_pure ?_))
    refine wpAny_bind (wpAny_letGo ?_)
    show wpAny _ _ (if n < 0 then _ else _) _ _ _
    rw [if_neg (by omega)]
    show wpAny _ _ (if n ≥ 2 ^ 63 then _ else _) _ _ _
    rw [if_neg (by omega)]
    exact wpAny_bind (wpAny_mkInt (wpAny_pure ⟨n, _, rfl, hq _⟩))
  unfold truthy
  refine wpAny_bind (m := callSpecial? (.ref x) (Str.ofString "__bool__")) (wpAny_bind (wpAny_bind (I.type.here ((PySem.W.looks_findIn XK hb).here (wpAny_pure ?_)))))
  refine wpAny_bind (wpAny_bind (I.type.here ((PySem.W.looks_findIn XK hs).here ?_)))
  refine wpAny_bind (wpAny_mono key (fun r s' hr => ?_) fun _ _ y => y)
  obtain ⟨n, t, rfl, hq⟩ := hr
  exact wpAny_pure hq
/-- bool(x) of an instance with an own __len__, without __bool__ -/
def rBoolOwn (C : Addr) (sp : Sp) (gV : List V → List V → List V) (E : XK) : List V → Hp → VK → Prop := fun xs H Q => ∃ a dx fs, xs = [.ref a] ∧ H a = some (.ins C dx fs) ∧ sp (gV [.ref a] []) H (fun v H' => ∃ n : Int, v = .int n ∧ 0 ≤ n ∧ n < 2 ^ 62 ∧ Q (.bl (n != 0)) H') E
theorem cl_boolOwn (c : MethOk X.prog X.w X.K X.mg X.base CX k C "__len__" 0 [] sp gV) (hb : PySem.W.findIn X.K (.ref C) "__bool__" = some none) {k' : Nat} (hr : Room (k' + 3) X.A) (hk : k ≤ k') (hg : X.A.guards = some []) (hx : Passes CX X E) : CallR X (.type "bool") (rBoolOwn C sp gV E) := by
  obtain ⟨⟨f, fd, ps, g, hm, G, kb⟩, cl⟩ := c
  intro pins s σ H xs us Q I r h
  obtain ⟨a, dx, fs, rfl, ha, q⟩ := h
  rw [Vals.ref1 r]
  obtain ⟨mA, O, _⟩ := ins_get I.hok ha
  obtain ⟨od, J, _⟩ := O.look
  have hr1 : Room (k' + 2) X.A.in1 := Room.in1 hr
  have hr2 : Room (k' + 1) X.A.in1.in1 := Room.in1 hr1
  have hr3 : Room k' X.A.in1.in1.in1 := Room.in1 hr2
  refine callType_newIn F.called_bool F.newNe_bool (F.typeCall_bool_1 _) (F.newCall_bool_1 _) (fun obj => F.args_object_init_2 obj _) F.entry_bool_new
    (S := fun A' R s' => X.K.In s'.heap ∧ PySem.W.InstAt s'.heap a (PySem.W.instObj C dx) C (some od) ∧ wpAny (model X.prog X.w) A'.in1.in1 (call (.ref f) [.ref a]) (fun r s₁ => ∃ n t, r = Value.int n t ∧ 0 ≤ n ∧ n < 2 ^ 62 ∧ ∀ tk, R (.ok (.ret (.bool (n != 0)))) { s₁ with toks := tk }) (fun e s₁ => R (.error e) s₁) s') ?_ ?_
  · refine MeetsIn.of_wp fun A' R s' h => ?_
    obtain ⟨hK, hJ, h⟩ := h
    have ht : wpAny (model X.prog X.w) A'.in1 (truthy (.ref a)) (fun b s₁ => R (.ok (.ret (.bool b))) s₁) (fun e s₁ => R (.error e) s₁) s' := truthy_own hK hJ hb hm.at_ hm.fn h
    unfold Builtin.«bool.__new__»
    refine wpAny_bind (wpAny_pure ?_)
    refine wpAny_bind (wpAny_of_eq F.conv_sub_bool ?_)
    refine wpAny_bind (wpAny_pure ?_)
    exact wpAny_bind (wpAny_mono ht (fun b s₁ z => wpAny_pure ⟨_, rfl, z⟩) fun _ _ z => z)
  · refine ⟨I.kIn, J, wpAny_mono (run_gA (A := X.A.in1.in1.in1) (us := [.ref a]) (vs := [.ref a]) G (hr3.mono hk) hg I.env0.in1.in1.in1 kb hx I (.cons rfl .nil) rfl q) (fun w s' z => ?_) fun e s' z => z⟩
    obtain ⟨z', H', I', rz, n, en, h0, h1, qz⟩ := z
    subst en
    obtain ⟨t, e⟩ := (show ∃ t, w = Value.int n t from rz)
    subst e
    exact ⟨n, t, rfl, h0, h1, fun tk => ⟨PySem.typeIs_bool _ _, .bl (n != 0), H', I'.tok _, rfl, qz⟩⟩
end
end Bz
namespace Bz
open PySem PySem.Spec PyProof.Rows L2
/-! odd == x, x an instance with an own __eq__, odd none -/
section
variable {prog : Program} {w : World} {A : Around} {E : Value → Shared → Prop} {s : Shared} {K : PySem.W.Frag} {a C : Addr} {ox : Obj} {od : Option Obj} {Q : Value → Shared → Prop}
theorem not_sub {T : String} (XK : K.In s.heap) (J : PySem.W.InstAt s.heap a ox C od) (h : PySem.W.subIn K (.ref C) (.type T) = some false) {M : Model} : PySem.W.Looks M s.heap (isInstance (.ref a) (.type T)) false := J.type.andThen (PySem.W.looks_subIn XK h)
theorem dec_none (h : Q .notImplemented s) : wpAny (model prog w) A (call (.builtin "NoneType.__eq__") [.none, .ref a]) Q E s := by
  refine wpAny_call_entry (name := (cmpInfo .Eq).2.1) F.slot_NoneType_eq (typeIs_none s) F.entry_NoneType_eq ?_ (F.args_NoneType_eq_2 _ _)
  show wpAny _ _ (ret _) _ _ s
  exact wpAny_pure ⟨_, rfl, h⟩
theorem dec_list {l : Addr} (XK : K.In s.heap) (J : PySem.W.InstAt s.heap a ox C od) (hn : PySem.W.subIn K (.ref C) (.type "list") = some false) (hT : s.TypeIs (.ref l) "list") (h : Q .notImplemented s) : wpAny (model prog w) A (call (.builtin "list.__eq__") [.ref l, .ref a]) Q E s := by
  refine wpAny_call_entry (name := (cmpInfo .Eq).2.1) F.slot_list_eq hT F.entry_list_eq ?_ (F.args_list_eq_2 _ _)
  show wpAny _ _ (isInstance (.ref a) (.type "list") >>= _) _ _ s
  refine wpAny_bind ((not_sub XK J hn).here ?_)
  exact wpAny_pure ⟨_, rfl, h⟩
theorem dec_tuple {l : Addr} (XK : K.In s.heap) (J : PySem.W.InstAt s.heap a ox C od) (hn : PySem.W.subIn K (.ref C) (.type "tuple") = some false) (hT : s.TypeIs (.ref l) "tuple") (h : Q .notImplemented s) : wpAny (model prog w) A (call (.builtin "tuple.__eq__") [.ref l, .ref a]) Q E s := by
  refine wpAny_call_entry (name := (cmpInfo .Eq).2.1) F.slot_tuple_eq hT F.entry_tuple_eq ?_ (F.args_tuple_eq_2 _ _)
  show wpAny _ _ (isInstance (.ref a) (.type "tuple") >>= _) _ _ s
  refine wpAny_bind ((not_sub XK J hn).here ?_)
  exact wpAny_pure ⟨_, rfl, h⟩
theorem dec_dict {l : Addr} (XK : K.In s.heap) (J : PySem.W.InstAt s.heap a ox C od) (hn : PySem.W.subIn K (.ref C) (.type "dict") = some false) (hT : s.TypeIs (.ref l) "dict") (h : Q .notImplemented s) : wpAny (model prog w) A (call (.builtin "dict.__eq__") [.ref l, .ref a]) Q E s := by
  refine wpAny_call_entry (name := (cmpInfo .Eq).2.1) F.slot_dict_eq hT F.entry_dict_eq ?_ (F.args_dict_eq_2 _ _)
  show wpAny _ _ (Builtin.Dict.dictSlotArgs "__eq__" ⟨[.ref l, .ref a], []⟩ >>= _) _ _ s
  refine wpAny_bind (wpAny_of_eq (show Builtin.Dict.dictSlotArgs "__eq__" ⟨[.ref l, .ref a], []⟩ = pure (.ref l, .ref a) from by kernel_rfl) ?_)
  refine wpAny_bind ((not_sub XK J hn).here ?_)
  exact wpAny_bind (wpAny_rule (wpAny_pure ⟨_, rfl, h⟩))
theorem dec_int {i : Int} {t : Tok} {dx : Addr} (J : PySem.W.InstAt s.heap a (PySem.W.instObj C dx) C od) (h : Q .notImplemented s) : wpAny (model prog w) A (call (.builtin "int.__eq__") [.int i t, .ref a]) Q E s := by
  refine wpAny_call_entry (name := (cmpInfo .Eq).2.1) F.slot_int_eq (typeIs_int s i t) F.entry_int_eq ?_ (F.args_int_eq_2 _ _)
  show wpAny _ _ (asInt? (.ref a) >>= _) _ _ s
  refine wpAny_bind (wpAny_bind (wpAny_load J.at_ (wpAny_pure ?_)))
  exact wpAny_bind (wpAny_rule (wpAny_pure ⟨_, rfl, h⟩))
theorem dec_str {z : Str} {t : Tok} {dx : Addr} (J : PySem.W.InstAt s.heap a (PySem.W.instObj C dx) C od) (h : Q .notImplemented s) : wpAny (model prog w) A (call (.builtin "str.__eq__") [.str z t, .ref a]) Q E s := by
  refine wpAny_call_entry (name := (cmpInfo .Eq).2.1) F.slot_str_eq (typeIs_str s z t) F.entry_str_eq ?_ (F.args_str_eq_2 _ _)
  show wpAny _ _ (asStr? (.ref a) >>= _) _ _ s
  refine wpAny_bind (wpAny_bind (wpAny_load J.at_ (wpAny_pure ?_)))
  exact wpAny_bind (wpAny_rule (wpAny_pure ⟨_, rfl, h⟩))
end
section
variable {X : Cx} {CX : CXT} {pins : List (Addr × Obj)} {σ : L2.St} {H : Hp} {s : Shared} {a C dx f : Addr} {fs : List (Str × V)} {k : Nat} {sp : Sp} {E : XK} {gV : List V → List V → List V}
/-- what stands at the left: none, a number, a text, a list, a tuple, a dict -/
inductive Odd (K : PySem.W.Frag) (H : Hp) : V → String → Prop
  | non : Odd K H .non "NoneType"
  | int (i : Int) : Odd K H (.int i) "int"
  | str (z : Str) : Odd K H (.str z) "str"
  | lst {l : Addr} {xs : List V} (e : SqL K H l xs) : Odd K H (.ref l) "list"
  | tup {l : Addr} {xs : List V} (e : SqT K H l xs) : Odd K H (.ref l) "tuple"
  | dK {l : Addr} {kvs : List (Key × V)} (e : H l = some (.dK kvs)) : Odd K H (.ref l) "dict"
/-- the class is none of the built-in ones -/
structure NoB (K : PySem.W.Frag) (C : Addr) : Prop where
  no : PySem.W.subIn K (.ref C) (.type "NoneType") = some false
  i : PySem.W.subIn K (.ref C) (.type "int") = some false
  s : PySem.W.subIn K (.ref C) (.type "str") = some false
  l : PySem.W.subIn K (.ref C) (.type "list") = some false
  t : PySem.W.subIn K (.ref C) (.type "tuple") = some false
  d : PySem.W.subIn K (.ref C) (.type "dict") = some false
theorem richCompare_decl {T id : String} {u : Value} {Q : Value → Shared → Prop} {ox : Obj} {od : Option Obj} (hu : X.A.units < cLine) (XK : X.K.In s.heap) (J : PySem.W.InstAt s.heap a ox C od) (hT : s.TypeIs u T) (S : Slot T (cmpInfo .Eq).2.1 id) (hn : PySem.W.subIn X.K (.ref C) (.type T) = some false)
    (hs : PySem.W.findIn X.K (.ref C) "__eq__" = some (some (.ref f))) (hf : PySem.W.isFn X.K (.ref f) = true)
    (hd : ∀ Q' : Value → Shared → Prop, Q' .notImplemented s → wpAny (model X.prog X.w) X.A (call (.builtin id) [u, .ref a]) Q' X.xe s)
    (h : wpAny (model X.prog X.w) X.A (call (.ref f) [.ref a, u]) (PySem.W.CmpBack Q) X.xe s) : wpAny (model X.prog X.w) X.A (richCompare .Eq u (.ref a)) Q X.xe s := by
  have one : wpAny (model X.prog X.w) X.A (tryCompare (.ref a) "__eq__" u) (fun r s' => ∃ v, r = some v ∧ Q v s') X.xe s := by
    unfold tryCompare
    refine wpAny_bind (PySem.W.ifBound_K XK J hs hf (wpAny_mono h (fun v s' hv => ?_) fun _ _ e => e))
    cases v <;> first | exact hv.elim | exact wpAny_pure ⟨_, rfl, hv⟩
  unfold richCompare
  simp only [hT.oneThing_none]
  refine wpAny_holding (wpAny_bind (wpAny_cRoomFor hu ?_))
  refine wpAny_bind (wpAny_typeOf hT (wpAny_bind (J.type.here ?_)))
  rw [if_pos (show (Value.type T != Value.ref C) = true from rfl)]
  refine wpAny_bind ((PySem.W.looks_subIn XK hn).here ?_)
  simp only [Bool.false_eq_true, if_false]
  refine wpAny_bind (m := tryCompare u _ (.ref a)) (wpAny_tryCompare_declines hT S (hd _ ⟨rfl, ?_⟩))
  simp only [Bool.not_false, if_true]
  refine wpAny_bind (wpAny_mono one (fun r s' z => ?_) fun _ _ e => e)
  obtain ⟨v, rfl, hq⟩ := z
  exact wpAny_pure hq
def rOddEq (K : PySem.W.Frag) (C : Addr) (sp : Sp) (gV : List V → List V → List V) (E : XK) : R2 := fun x y H Q => ∃ a dx fs T, y = .ref a ∧ H a = some (.ins C dx fs) ∧ Odd K H x T ∧ sp (gV [y, x] []) H Q E
theorem op_oddEq (c : MethOk X.prog X.w X.K X.mg X.base CX k C "__eq__" 1 [] sp gV) (nb : NoB X.K C) {k' : Nat} (hr : Room k' X.A) (hk : k ≤ k') (hg : X.A.guards = some []) (hx : Passes CX X E) : OpR X (compareOp .Eq) (rOddEq X.K C sp gV E) := by
  obtain ⟨⟨f, fd, ps, g, hm, G, kb⟩, cl⟩ := c
  intro pins s σ H x y v u Q I rx ry h
  obtain ⟨a, dx, fs, T, rfl, ha, odd, q⟩ := h
  cases (show u = Value.ref a from ry)
  obtain ⟨mA, O, _⟩ := ins_get I.hok ha
  obtain ⟨od, J, _⟩ := O.look
  have fin : wpAny (model X.prog X.w) X.A (call (.ref f) [.ref a, v]) (PySem.W.CmpBack (EP X pins σ Q)) X.xe s := by
    refine wpAny_mono (run_gA (us := [.ref a, v]) (vs := [.ref a, x]) G (hr.mono hk) hg I.env0 kb hx I (.cons rfl (.cons rx .nil)) rfl q) (fun w s' z => ?_) fun _ _ x => x
    obtain ⟨z', H', I', rz, qz⟩ := z
    exact SlX.cmpback rz ⟨z', H', I', rz, qz⟩
  show wpAny _ _ (richCompare .Eq v (.ref a)) _ _ _
  cases odd with
  | non =>
    cases (show v = Value.none from rx)
    exact richCompare_decl hr.units0 I.kIn J (typeIs_none s) F.slot_NoneType_eq nb.no hm.at_ hm.fn (fun Q' z => dec_none z) fin
  | int i =>
    obtain ⟨t, e⟩ := (show ∃ t, v = Value.int i t from rx)
    subst e
    exact richCompare_decl hr.units0 I.kIn J (typeIs_int s i t) F.slot_int_eq nb.i hm.at_ hm.fn (fun Q' z => dec_int J z) fin
  | str zz =>
    obtain ⟨t, e⟩ := (show ∃ t, v = Value.str zz t from rx)
    subst e
    exact richCompare_decl hr.units0 I.kIn J (typeIs_str s zz t) F.slot_str_eq nb.s hm.at_ hm.fn (fun Q' z => dec_str J z) fin
  | @lst l xs e =>
    cases (show v = Value.ref l from rx)
    obtain ⟨its, rv, p, _⟩ := I.list e
    have hT := p.isList.typeIs
    exact richCompare_decl hr.units0 I.kIn J hT F.slot_list_eq nb.l hm.at_ hm.fn (fun Q' z => dec_list I.kIn J nb.l hT z) fin
  | @tup l xs e =>
    cases (show v = Value.ref l from rx)
    obtain ⟨its, rv, p, _⟩ := I.tuple e
    have hT : s.TypeIs (.ref l) "tuple" := by obtain ⟨o, h1, h2, _⟩ := p; exact ⟨o, h1, h2⟩
    exact richCompare_decl hr.units0 I.kIn J hT F.slot_tuple_eq nb.t hm.at_ hm.fn (fun Q' z => dec_tuple I.kIn J nb.t hT z) fin
  | @dK l kvs e =>
    cases (show v = Value.ref l from rx)
    obtain ⟨_, _, vs, _, p⟩ := (show ObjOk X.prog X.w H s.heap l (.dK kvs) from I.hok l _ e)
    obtain ⟨o, es, ep, h1, h2, _⟩ := p
    have hT : s.TypeIs (.ref l) "dict" := ⟨o, h1, h2.1⟩
    exact richCompare_decl hr.units0 I.kIn J hT F.slot_dict_eq nb.d hm.at_ hm.fn (fun Q' z => dec_dict I.kIn J nb.d hT z) fin
end
end Bz
namespace Bz
open PySem PySem.Spec PyProof.Rows L2
/-! x in [y], y an instance with an own __eq__ -/
section
variable {prog : Program} {w : World} {A : Around} {E : Value → Shared → Prop} {s : Shared}
theorem in_meetsIn {T id : String} {B : Builtin} {c x : Value} {S : PySem.Spec} {Q : Value → Shared → Prop} (hT : s.TypeIs c T) (slot : Slot T "__contains__" id)
    (entry : entryFor table id = some B) (args : argsOk id ⟨[c, x], []⟩) (g : MeetsIn prog w (B ⟨[c, x], []⟩) S)
    (h : S A (wants (fun v s' => ∃ b, v = .bool b ∧ Q (.bool b) s') E) s) : wpAny (model prog w) A (compareOp .In x c) Q E s := by
  show wpAny _ A (do return .bool (← contains c x)) Q E s
  refine wpAny_bind (wpAny_contains_slot hT slot (wpAny_mono (call_meetsIn slot hT entry args g h) (fun v s' hv => ?_) fun _ _ e => e))
  obtain ⟨b, rfl, hq⟩ := hv
  exact wpAny_truthy_bool (wpAny_pure hq)
def OneL (l : Addr) (y : Value) (h : Heap) : Prop := ∃ n, h.get? l = some { cls := .type "list", dict := none, data := .seq #[y] n, slots := #[] }
theorem items_one {M : Model} {l : Addr} {y : Value} (hl : OneL l y s.heap) : wpAny M A (Builtin.List.listItems (.ref l)) (fun r s' => r = #[y] ∧ s' = s) E s := by
  obtain ⟨n, hl⟩ := hl
  obtain ⟨hp, g, d, tk, os⟩ := s
  wp_walk using AutoSeq1.wpAny_loadPart' hl
  exact ⟨rfl, rfl⟩
theorem contains_one (l : Addr) (x y : Value) : MeetsIn prog w (Builtin.«list.__contains__» ⟨[.ref l, x], []⟩) (fun A R s => OneL l y s.heap ∧
    wpAny (model prog w) A.in1 (eqBool y x) (fun b s₁ => (b = true → R (.ok (.ret (.bool true))) s₁) ∧ (b = false → OneL l y s₁.heap ∧ R (.ok (.ret (.bool false))) s₁)) (fun e s₁ => R (.error e) s₁) s) := by
  intro A R s h
  obtain ⟨hl, h⟩ := h
  show wpAny _ _ (again _) _ _ s
  refine wpAny_pure ⟨plainId_quiet MeetsSeq.plain_contains_loop _, codeAny_builtin MeetsSeq.entry_contains_loop ?_⟩
  rw [Around.under_plainId MeetsSeq.plain_contains_loop _]
  show wpAny _ _ (Builtin.List.listItems (.ref l) >>= _) _ _ s
  refine wpAny_bind (wpAny_mono (items_one hl) (fun r s' hr => ?_) fun _ _ e => e)
  obtain ⟨rfl, rfl⟩ := hr
  show wpAny _ _ (eqBool y x >>= _) _ _ _
  refine wpAny_bind (wpAny_mono h (fun b s₁ hb => ?_) fun _ _ e => e)
  cases b with
  | true =>
    rw [if_pos rfl]
    exact wpAny_pure (hb.1 rfl)
  | false =>
    rw [if_neg Bool.false_ne_true]
    obtain ⟨hl', hr⟩ := hb.2 rfl
    show wpAny _ _ (again _) _ _ _
    refine wpAny_pure ⟨plainId_quiet MeetsSeq.plain_contains_loop _, codeAny_builtin MeetsSeq.entry_contains_loop ?_⟩
    rw [Around.under_plainId MeetsSeq.plain_contains_loop _]
    show wpAny _ _ (Builtin.List.listItems (.ref l) >>= _) _ _ _
    refine wpAny_bind (wpAny_mono (items_one hl') (fun r s' hr' => ?_) fun _ _ e => e)
    obtain ⟨rfl, rfl⟩ := hr'
    exact wpAny_pure hr
end
section
variable {X : Cx} {CX : CXT} {pins : List (Addr × Obj)} {σ : L2.St} {H : Hp} {s : Shared} {k : Nat} {sp : Sp} {E : XK} {C : Addr} {gV : List V → List V → List V}
theorem oneL_of {l b : Addr} (I : Inv X pins σ H s) (e : H l = some (.lst [.ref b])) : OneL l (.ref b) s.heap := by
  obtain ⟨_, its, n, rv, h1⟩ := (show ObjOk X.prog X.w H s.heap l (.lst [.ref b]) from I.hok l _ e)
  cases rv with
  | cons r t =>
    cases t
    cases r
    exact ⟨n, h1⟩
/-- x in [y] -/
def rInOwn (K : PySem.W.Frag) (C : Addr) (sp : Sp) (gV : List V → List V → List V) (E : XK) : R2 := fun x y H Q => ∃ l b, y = .ref l ∧ H l = some (.lst [.ref b]) ∧
  ((x = .ref b ∧ Q (.bl true) H) ∨ ∃ a dx fs, x = .ref a ∧ a ≠ b ∧ H b = some (.ins C dx fs) ∧ (∃ dy gs, H a = some (.ins C dy gs)) ∧ sp (gV [.ref b, .ref a] []) H (fun v H' => ∃ r, v = .bl r ∧ H' l = some (.lst [.ref b]) ∧ Q (.bl r) H') E)
theorem op_inOwn (c : MethOk X.prog X.w X.K X.mg X.base CX k C "__eq__" 1 [] sp gV) {k' : Nat} (hr : Room (k' + 2) X.A) (hk : k ≤ k') (hg : X.A.guards = some []) (hx : Passes CX X E) : OpR X (compareOp .In) (rInOwn X.K C sp gV E) := by
  obtain ⟨⟨f, fd, ps, g, hm, G, kb⟩, cl⟩ := c
  intro pins s σ H x y v u Q I rx ry h
  obtain ⟨l, b, rfl, hl, h⟩ := h
  cases (show u = Value.ref l from ry)
  have h1 := oneL_of I hl
  have hT : s.TypeIs (.ref l) "list" := by obtain ⟨n, e⟩ := h1; exact ⟨_, e, rfl⟩
  have hr1 : Room (k' + 1) X.A.in1 := Room.in1 hr
  refine in_meetsIn hT F.slot_list_contains F.entry_list_contains (F.args_list_contains_2 _ _) (contains_one l v (.ref b)) ⟨h1, ?_⟩
  rcases h with ⟨rfl, q⟩ | ⟨a, dx, fs, rfl, hne, hb, ⟨dy, gs, ha⟩, q⟩
  · cases (show v = Value.ref b from rx)
    unfold eqBool
    refine wpAny_holding ?_
    rw [if_pos (show (Value.ref b == Value.ref b) = true from beq_self_eq_true _)]
    refine wpAny_bind (wpAny_rule (wpAny_pure ⟨fun _ => ?_, fun z => by cases z⟩))
    exact ⟨true, rfl, .bl true, H, I, rfl, q⟩
  · cases (show v = Value.ref a from rx)
    obtain ⟨mB, OB, _⟩ := ins_get I.hok hb
    obtain ⟨odB, JB, _⟩ := OB.look
    obtain ⟨mA, OA, _⟩ := ins_get I.hok ha
    obtain ⟨odA, JA, _⟩ := OA.look
    obtain ⟨m, hF⟩ := I.fr
    refine GQ.eqBool_refG (fun z => hne z.symm) ?_
    refine PySem.W.cmp_K (op := .Eq) (tb := .ref C) hr1.units0 hF I.ok.mod.kin JB JA.type (by simp [PySem.W.notFirst]) hm.at_ hm.fn ?_
    refine wpAny_mono (run_gA (A := X.A.in1) (us := [.ref b, .ref a]) (vs := [.ref b, .ref a]) G (hr1.mono (by omega)) hg I.env0.in1 kb hx I (.cons rfl (.cons rfl .nil)) rfl q) (fun w s' z => ?_) fun _ _ x => x
    obtain ⟨z', H', I', rz, r, er, hl', qz⟩ := z
    subst er
    cases (show w = Value.bool r from rz)
    refine ⟨r, rfl, fun e => ?_, fun e => ⟨oneL_of I' hl', ?_⟩⟩
    · subst e
      exact ⟨true, rfl, .bl true, H', I', rfl, qz⟩
    · subst e
      exact ⟨false, rfl, .bl false, H', I', rfl, qz⟩
end
end Bz
namespace Bz
open PySem PySem.Spec PyProof.Rows L2
/-! f-strings; what an own class is asked for ==, !=, in, len, str, bool, isinstance -/
def tFS (ts : List TE) : TE := fun σ H Q => tJs ts Str.empty σ H fun out H1 => Q (.str out) H1
section
variable {B : Hp} {M L L' : List (Addr × HO)} {σ : St} {H : Hp} {Q : VK} {te : TE} {QS : Str → Hp → Prop} {acc y : Str} {ts : List TE}
theorem g_fs (h : tJs ts Str.empty σ H fun out H1 => Q (.str out) H1) : tFS ts σ H Q := h
def aJs (ts : List TE) (acc : Str) (σ : St) (x : V) (H1 : Hp) (Q : Str → Hp → Prop) : Prop := ∃ y : Str, x = .str y ∧ (acc ++ y).length ≤ sizeLine ∧ tJs ts (acc ++ y) σ H1 Q
theorem g_jsC (h : te σ H fun x H1 => aJs ts acc σ x H1 QS) : tJs (te :: ts) acc σ H QS := h
theorem g_jsN (h : QS acc H) : tJs [] acc σ H QS := h
theorem g_aJs {n m : Nat} (h1 : Sh n acc) (h2 : Sh m y) (hn : n + m ≤ 100000) (h : Sh (n + m) (acc ++ y) → tJs ts (acc ++ y) σ H QS) : aJs ts acc σ (.str y) H QS :=
  ⟨y, rfl, Nat.le_trans (h1.add h2).1 (Nat.le_trans hn (by decide)), h (h1.add h2)⟩
def aFmt (x : V) (H1 : Hp) (Q : VK) : Prop := (∃ y : Str, x = .str y ∧ y.length ≤ sizeLine ∧ Q (.str y) H1) ∨ ∃ i : Int, x = .int i ∧ i.natAbs.log2 < 1920 ∧ Q (.str (toString i)) H1
theorem g_fmt (h : te σ H fun x H1 => aFmt x H1 Q) : tFmt te σ H Q := h
theorem g_aFmtS {n : Nat} (h : Sh n y) (hn : n ≤ 100000) (q : Q (.str y) H) : aFmt (.str y) H Q := .inl ⟨y, rfl, Nat.le_trans h.1 (Nat.le_trans hn (by decide)), q⟩
theorem g_aFmtI {i : Int} {k : Nat} (h0 : 0 ≤ i) (hk : 0 < k ∧ k ≤ 250) (h : i < (10 ^ k : Nat)) (q : Sh k (Str.ofString (toString i)) → Q (.str (Str.ofString (toString i))) H) : aFmt (.int i) H Q := by
  obtain ⟨j, e, l, q'⟩ := g_strI (H := H) (Q := Q) h0 hk h q
  cases e
  exact .inr ⟨i, rfl, l, q'⟩
theorem sh_empty : Sh 0 Str.empty := ⟨Nat.le_refl _, fun c hc => by cases hc⟩
theorem g_clear {l : Addr} {xs : List V} (I : Is B M L H) (hl : H l = some (.lst xs)) (u : Put l (.lst []) L L') (q : ∀ H', Is B M L' H' → Q .non H') : rClear (.ref l) [] H Q :=
  ⟨l, xs, rfl, rfl, hl, q _ (I.put u)⟩
end
def OTY : List String := ["NoneType", "int", "str", "list", "tuple", "dict"]
/-- all that is asked of an own class here -/
structure OwnD (K : PySem.W.Frag) (C : Addr) : Prop where
  own : OwnC K C
  nb : NoB K C
  nob : PySem.W.findIn K (.ref C) "__bool__" = some none
  c1 : PySem.W.findIn K (.ref C) "__class__" = some (some (.builtin "object.__class__"))
  c2 : PySem.W.specialIn K (.builtin "object.__class__") "__get__" = some (some (.builtin "getset_descriptor.__get__"))
  c3 : PySem.W.takesIn K (.builtin "object.__class__") = some true
  c4 : PySem.W.mroIn K C (.type "object") = some true
  k0 : PySem.W.kitOne K (.ref C) (.ref C) = some true
  k1 : ∀ T ∈ OTY, PySem.W.kitOne K (.type T) (.ref C) = some false
  n1 : ∀ T ∈ OTY, PySem.W.notFirst K C (.type T) = true
  k2 : ∀ T ∈ (["int", "bool", "str", "list", "tuple"] : List String), PySem.W.kitOne K (.ref C) (.type T) = some false
def ownB (K : PySem.W.Frag) (C : Addr) : Bool :=
  He.eqO (PySem.W.findIn K (.ref C) "__ne__") (some (some (.builtin "object.__ne__"))) && (decide (PySem.W.subIn K (.ref C) (.type "object") = some true) &&
  ((OTY.all fun T => decide (PySem.W.subIn K (.ref C) (.type T) = some false)) &&
  (He.eqO (PySem.W.findIn K (.ref C) "__bool__") (some none) &&
  (He.eqO (PySem.W.findIn K (.ref C) "__class__") (some (some (.builtin "object.__class__"))) &&
  (decide (PySem.W.specialIn K (.builtin "object.__class__") "__get__" = some (some (.builtin "getset_descriptor.__get__"))) &&
  (decide (PySem.W.takesIn K (.builtin "object.__class__") = some true) && (decide (PySem.W.mroIn K C (.type "object") = some true) &&
  (decide (PySem.W.kitOne K (.ref C) (.ref C) = some true) && ((OTY.all fun T => decide (PySem.W.kitOne K (.type T) (.ref C) = some false)) && ((OTY.all fun T => PySem.W.notFirst K C (.type T)) && (["int", "bool", "str", "list", "tuple"] : List String).all fun T => decide (PySem.W.kitOne K (.ref C) (.type T) = some false)))))))))))
theorem ownB_ok {K : PySem.W.Frag} {C : Addr} (h : ownB K C = true) : OwnD K C := by
  unfold ownB at h
  simp only [Bool.and_eq_true] at h
  obtain ⟨a1, a2, a3, a4, a5, a6, a7, a8, a9, a10, a11, a12⟩ := h
  have s := fun T hT => of_decide_eq_true (List.all_eq_true.mp a3 T hT)
  exact ⟨⟨He.eqO_ok a1, of_decide_eq_true a2⟩, ⟨s "NoneType" (by decide), s "int" (by decide), s "str" (by decide), s "list" (by decide), s "tuple" (by decide), s "dict" (by decide)⟩, He.eqO_ok a4, He.eqO_ok a5, of_decide_eq_true a6, of_decide_eq_true a7, of_decide_eq_true a8, of_decide_eq_true a9,
    fun T hT => of_decide_eq_true (List.all_eq_true.mp a10 T hT), fun T hT => List.all_eq_true.mp a11 T hT, fun T hT => of_decide_eq_true (List.all_eq_true.mp a12 T hT)⟩
/-- a thing of a built-in kind -/
inductive Oth (K : PySem.W.Frag) (H : Hp) : V → String → Prop
  | non : Oth K H .non "NoneType"
  | int (i : Int) : Oth K H (.int i) "int"
  | str (z : Str) : Oth K H (.str z) "str"
  | lst {l : Addr} {xs : List V} (e : H l = some (.lst xs)) : Oth K H (.ref l) "list"
  | tup {l : Addr} {xs : List V} (e : H l = some (.tup xs)) : Oth K H (.ref l) "tuple"
  | dK {l : Addr} {kvs : List (Key × V)} (e : H l = some (.dK kvs)) : Oth K H (.ref l) "dict"
section
variable {K : PySem.W.Frag} {H H' : Hp} {x y : V} {T : String} {C a b dx dy : Addr} {fs gs : List (Str × V)} {Q : VK} {sp : Sp} {gV : List V → List V → List V} {E : XK}
theorem Oth.same (s : Same H H') (o : Oth K H x T) : Oth K H' x T := by
  cases o with
  | non => exact .non
  | int i => exact .int i
  | str z => exact .str z
  | lst e => exact .lst (s _ _ e)
  | tup e => exact .tup (s _ _ e)
  | dK e => exact .dK (s _ _ e)
theorem Oth.mem (o : Oth K H x T) : T ∈ OTY := by cases o <;> decide
theorem Oth.ty (o : Oth K H x T) : TyOf K H x (.type T) := by
  cases o with
  | non => exact .non
  | int i => exact .int i
  | str z => exact .str z
  | lst e => exact .lst e
  | tup e => exact .tup e
  | dK e => exact .dK e
theorem Oth.odd (o : Oth K H x T) : Odd K H x T := by
  cases o with
  | non => exact .non
  | int i => exact .int i
  | str z => exact .str z
  | lst e => exact .lst (SqL.of e)
  | tup e => exact .tup (SqT.of e)
  | dK e => exact .dK e
theorem OwnD.ty (D : OwnD K C) (c : Cls K C) (h : H a = some (.ins C dx fs)) : TyOf K H (.ref a) (.ref C) := .ins h c D.c1 D.c2 D.c3 D.c4
theorem g_isiO (D : OwnD K C) (c : Cls K C) (h : H a = some (.ins C dx fs)) (q : Q (.bl true) H) : rIsi K [.ref a, .ref C] H Q := ⟨_, _, _, _, true, rfl, .own C, .base (D.ty c h), D.k0, q⟩
theorem g_isiN (D : OwnD K C) (o : Oth K H x T) (q : Q (.bl false) H) : rIsi K [x, .ref C] H Q := ⟨_, _, _, _, false, rfl, .own C, .base o.ty, D.k1 T o.mem, q⟩
theorem self_first : PySem.W.notFirst K C (.ref C) = true := by simp [PySem.W.notFirst]
theorem g_ownEqI (D : OwnD K C) (c : Cls K C) (h : H a = some (.ins C dx fs)) (h2 : H b = some (.ins C dy gs)) (q : sp (gV [.ref a, .ref b] []) H Q E) : rOwnEq K C sp gV E (.ref a) (.ref b) H Q := ⟨a, dx, fs, _, rfl, h, D.ty c h2, self_first, q⟩
theorem g_ownEqO (D : OwnD K C) (h : H a = some (.ins C dx fs)) (o : Oth K H y T) (q : sp (gV [.ref a, y] []) H Q E) : rOwnEq K C sp gV E (.ref a) y H Q := ⟨a, dx, fs, _, rfl, h, o.ty, D.n1 T o.mem, q⟩
def aNeg (v : V) (H : Hp) (Q : VK) : Prop := ∃ b, v = .bl b ∧ Q (.bl (!b)) H
theorem g_aNeg {b : Bool} (q : Q (.bl (!b)) H) : aNeg (.bl b) H Q := ⟨b, rfl, q⟩
theorem g_ownNeI (D : OwnD K C) (c : Cls K C) (h : H a = some (.ins C dx fs)) (h2 : H b = some (.ins C dy gs)) (q : sp (gV [.ref a, .ref b] []) H (fun v H' => aNeg v H' Q) E) : rOwnNe K C sp gV E (.ref a) (.ref b) H Q := ⟨a, dx, fs, _, rfl, h, D.ty c h2, self_first, q⟩
theorem g_ownNeO (D : OwnD K C) (h : H a = some (.ins C dx fs)) (o : Oth K H y T) (q : sp (gV [.ref a, y] []) H (fun v H' => aNeg v H' Q) E) : rOwnNe K C sp gV E (.ref a) y H Q := ⟨a, dx, fs, _, rfl, h, o.ty, D.n1 T o.mem, q⟩
theorem g_oddEq (h : H a = some (.ins C dx fs)) (o : Oth K H x T) (q : sp (gV [.ref a, x] []) H Q E) : rOddEq K C sp gV E x (.ref a) H Q := ⟨a, dx, fs, T, rfl, h, o.odd, q⟩
theorem g_inSame {l : Addr} (h : H l = some (.lst [.ref b])) (q : Q (.bl true) H) : rInOwn K C sp gV E (.ref b) (.ref l) H Q := ⟨l, b, rfl, h, .inl ⟨rfl, q⟩⟩
def aInV (l b : Addr) (v : V) (H : Hp) (Q : VK) : Prop := ∃ r, v = .bl r ∧ H l = some (.lst [.ref b]) ∧ Q (.bl r) H
theorem g_aInV {l : Addr} {r : Bool} (h : H l = some (.lst [.ref b])) (q : Q (.bl r) H) : aInV l b (.bl r) H Q := ⟨r, rfl, h, q⟩
theorem g_inOther {l : Addr} (h : H l = some (.lst [.ref b])) (hne : a ≠ b) (hb : H b = some (.ins C dx fs)) (ha : H a = some (.ins C dy gs)) (q : sp (gV [.ref b, .ref a] []) H (fun v H' => aInV l b v H' Q) E) : rInOwn K C sp gV E (.ref a) (.ref l) H Q :=
  ⟨l, b, rfl, h, .inr ⟨a, dx, fs, rfl, hne, hb, ⟨dy, gs, ha⟩, q⟩⟩
def aLenV (v : V) (H : Hp) (Q : VK) : Prop := ∃ n : Int, v = .int n ∧ 0 ≤ n ∧ n < 2 ^ 62 ∧ Q (.int n) H
theorem g_aLenV {n : Int} (h0 : 0 ≤ n) (h1 : n < 2 ^ 62) (q : Q (.int n) H) : aLenV (.int n) H Q := ⟨n, rfl, h0, h1, q⟩
theorem g_lenOwn (h : H a = some (.ins C dx fs)) (q : sp (gV [.ref a] []) H (fun v H' => aLenV v H' Q) E) : rLenOwn C sp gV E [.ref a] H Q := ⟨a, dx, fs, rfl, h, q⟩
def aBoolV (v : V) (H : Hp) (Q : VK) : Prop := ∃ n : Int, v = .int n ∧ 0 ≤ n ∧ n < 2 ^ 62 ∧ Q (.bl (n != 0)) H
theorem g_aBoolV {n : Int} (h0 : 0 ≤ n) (h1 : n < 2 ^ 62) (q : Q (.bl (n != 0)) H) : aBoolV (.int n) H Q := ⟨n, rfl, h0, h1, q⟩
theorem g_boolOwn (h : H a = some (.ins C dx fs)) (q : sp (gV [.ref a] []) H (fun v H' => aBoolV v H' Q) E) : rBoolOwn C sp gV E [.ref a] H Q := ⟨a, dx, fs, rfl, h, q⟩
def aStrV (v : V) (H : Hp) (Q : VK) : Prop := ∃ z : Str, v = .str z ∧ Q (.str z) H
theorem g_aStrV {z : Str} (q : Q (.str z) H) : aStrV (.str z) H Q := ⟨z, rfl, q⟩
theorem g_strOwn (h : H a = some (.ins C dx fs)) (q : sp (gV [.ref a] []) H (fun v H' => aStrV v H' Q) E) : rStrOwn C sp gV E [.ref a] H Q := ⟨a, dx, fs, rfl, h, q⟩
end
end Bz
namespace Bz
open PySem PySem.Spec PyProof.Rows L2
/-! while; int(a truth) -/
def rIntB : List V → Hp → VK → Prop := fun xs H Q => ∃ k, xs = [.bl k] ∧ Q (.int (if k then 1 else 0)) H
theorem cl_intB {X : Cx} : CallR X (.type "int") rIntB := fun pins s σ H xs us Q I r h => call_int1 pins s σ H xs us Q I r (.inr h)
section
variable {σ : St} {H : Hp} {Q : VK} {nx bk ct : St → Hp → Prop} {rt : VK}
theorem g_intB {k : Bool} (q : Q (.int (if k then 1 else 0)) H) : rIntB [.bl k] H Q := ⟨k, rfl, q⟩
/-- a loop with an invariant that has a measure -/
def aWh (W : Nat → St → Hp → Prop) (m : Nat) (tb : TS) (nx : St → Hp → Prop) (rt : VK) (σ : St) (H1 : Hp) : Prop := ∃ N : St → Hp → Prop, (∀ σ' H', N σ' H' → ∃ m', m' < m ∧ W m' σ' H') ∧ tb ⟨N, rt, nx, N⟩ σ H1
theorem g_while {tc : TT} {tb : TS} (W : Nat → St → Hp → Prop) (m0 : Nat) (h0 : W m0 σ H)
    (hs : ∀ m σ H, W m σ H → tc σ H fun b H1 => if b = true then aWh W m tb nx rt σ H1 else nx σ H1) : tWhile tc tb ⟨nx, rt, bk, ct⟩ σ H := ⟨W, ⟨m0, h0⟩, hs⟩
theorem g_whB {tb : TS} {W : Nat → St → Hp → Prop} {m : Nat} (h : tb ⟨fun σ2 H2 => ∃ m', m' < m ∧ W m' σ2 H2, rt, nx, fun σ2 H2 => ∃ m', m' < m ∧ W m' σ2 H2⟩ σ H) : aWh W m tb nx rt σ H :=
  ⟨_, fun _ _ h => h, h⟩
end
end Bz
namespace Bz
open PySem PySem.Spec PyProof.Rows L2
/-! a, b, .. = a list -/
theorem g_gLst {K : PySem.W.Frag} {σ : St} {H : Hp} {QS : St → Hp → Prop} {a : Addr} {xs : List V} {n : Nat} {ts : TGs} (h : SqL K H a xs) (hl : xs.length = n) (q : ts xs σ H QS) : gLst K n ts (.ref a) σ H QS := ⟨a, xs, rfl, h, hl, q⟩
end Bz
namespace Bz
open PySem PySem.Spec PyProof.Rows L2
/-! a dict of the top, texts by texts: d.get(text) -/
structure KTab (K : PySem.W.Frag) (w : World) (d : Addr) (kvs : List (Str × Str)) : Prop where
  ex : ∃ es n, KDict K w d es n ∧ (∀ q ∈ kvs, ∃ u, PySem.W.nsIn K d q.1 = some (some u) ∧ RelV (.str q.2) u) ∧ ∀ z, (∀ q ∈ kvs, q.1 ≠ z) → PySem.W.nsIn K d z = some none
theorem nsIn_no {K : PySem.W.Frag} {P : Params} {d : Addr} {es : Array DictEntry} {n : Nat} {keys : List Str} {z : Str} (h : K.lookup d = some ⟨.type "dict", none, .dict es n, #[]⟩) (hk : es.toList.map He.keyOf = He.keysIn P keys) (hz : ∀ k ∈ keys, k ≠ z) : PySem.W.nsIn K d z = some none := by
  have key : ∀ e ∈ es.toList, ∃ k t, e.key = .str k t ∧ k ∈ keys := fun e he => by
    have h1 : He.keyOf e ∈ es.toList.map He.keyOf := List.mem_map.mpr ⟨e, he, rfl⟩
    rw [hk] at h1
    obtain ⟨k, hk1, hk2⟩ := List.mem_map.mp h1
    unfold He.keyOf at hk2
    split at hk2
    · rename_i x t q
      have h2 := Option.some.inj hk2
      have h3 := (Prod.mk.inj h2).1
      exact ⟨x, t, q, by rw [← h3]; exact hk1⟩
    · cases hk2
  have f1 : es.toList.find? (·.key.isStr z) = none := List.find?_eq_none.mpr fun e he hc => by
    obtain ⟨k, t, h1, h2⟩ := key e he
    rw [h1] at hc
    exact hz k h2 (eq_of_beq hc)
  have f2 : es.toList.any (·.refKey) = false := List.any_eq_false.mpr fun e he hc => by
    obtain ⟨k, t, h1, h2⟩ := key e he
    unfold DictEntry.refKey at hc
    rw [h1] at hc
    cases hc
  unfold PySem.W.nsIn
  rw [h]
  show (match es.toList.find? (·.key.isStr z) with
    | some e => some (some e.val)
    | none => if es.toList.any (·.refKey) then none else some none) = some none
  rw [f1]
  show (if es.toList.any (·.refKey) = true then none else some none) = some none
  rw [f2]
  rfl
theorem ktab_of {fa : List He.Fa} {fn : List He.DefD} {ts : List He.Tab} {w : World} {K : PySem.W.Frag} {kvs : List (Str × Str)} {dk : PySem.W.Frag → Addr} (c : He.SaysT fa fn ts w K) (i : Nat) (h : ts[i]? = some (dk, kvs.map (·.1))) (hv : He.valsB K (dk K) (kvs.map fun q => (q.1, He.Dv.str q.2)) = true) : KTab K w (dk K) kvs := by
  have e : ts.map (fun t => He.dicW K (t.1 K)) = ts.map fun t => some (He.keysIn w.params t.2) := congrArg (fun z : He.AlT => z.2) c
  have e2 : (ts.map fun t => He.dicW K (t.1 K))[i]? = (ts.map fun t => some (He.keysIn w.params t.2))[i]? := by rw [e]
  rw [List.getElem?_map, List.getElem?_map, h] at e2
  have e3 : He.dicW K (dk K) = some (He.keysIn w.params (kvs.map (·.1))) := Option.some.inj e2
  obtain ⟨es, n, D⟩ := He.dicW_ok e3
  refine ⟨es, n, D, fun q hq => He.valsB_ok hv (q := (q.1, He.Dv.str q.2)) (List.mem_map_of_mem (f := fun q : Str × Str => (q.1, He.Dv.str q.2)) hq), fun z hz => ?_⟩
  have e4 : es.toList.map He.keyOf = He.keysIn w.params (kvs.map (·.1)) := by
    unfold He.dicW at e3
    rw [D.at_] at e3
    have e5 : (match decide (("dict" : String) = "dict") && ((#[] : Array (Option Value)).isEmpty && !(dk K == sysModules)) with
      | true => some (es.toList.map He.keyOf)
      | false => none) = some (He.keysIn w.params (kvs.map (·.1))) := e3
    rw [D.low] at e5
    exact Option.some.inj e5
  exact nsIn_no D.at_ e4 fun k hk => by
    obtain ⟨q, hq, rfl⟩ := List.mem_map.mp hk
    exact hz q hq
def tKGet (d : Addr) (kvs : List (Str × Str)) (te : TE) : TE := fun σ H Q => te σ H fun y H1 => ∃ z, y = .str z ∧ ((∃ v, (z, v) ∈ kvs ∧ Q (.str v) H1) ∨ ((∀ q ∈ kvs, q.1 ≠ z) ∧ Q .non H1))
section
variable {X : Cx} {o e : Expr} {apos cpos : Pos} {ty : TE} {d : Addr} {kvs : List (Str × Str)}
theorem pe_kget (D : KTab X.K X.w d kvs) (ho : PE X o (tC (.ref d))) (he : PE X e ty) (m : M1 X o "get" apos e cpos) : PE X (.Call (.Attribute o "get" apos) [e] [] cpos) (tKGet d kvs ty) := by
  obtain ⟨es, n, D, hv, hno⟩ := D.ex
  refine ⟨fun pins s σ H Q I h => ?_⟩
  refine wpAny_Call_method m.base m.few m.line PySem.F.plainAttrs_dict PySem.F.slot_dict_get PySem.F.type_dict_get (thn (ho.run pins s σ H (fun x H1 => x = .ref d ∧ tKGet d kvs ty σ H1 Q) I ⟨rfl, h⟩) fun u s1 ⟨x, H1, I1, rx, ex, q1⟩ => ?_)
  subst ex
  obtain rfl : u = Value.ref d := rx
  refine ⟨kd_type D I1, fun b q => ?_, ?_⟩
  · cases q
    exact ⟨_, I1.kIn _ _ D.at_, rfl⟩
  · rw [m.trees]
    refine Calls.callWith_builtin rfl (Calls.evalArgs_plain (Calls.spliced_cons (thn (he.run pins s1 σ H1 _ I1 q1) fun iv s2 ⟨y, H2, I2, ry, z, ey, hz⟩ => Calls.spliced_nil ?_)))
    subst ey
    obtain ⟨t, rfl⟩ := ry
    rcases hz with ⟨v, hz, q2⟩ | ⟨hz, q2⟩
    · obtain ⟨u, hu, ru⟩ := hv _ hz
      refine call_meetsIn PySem.F.slot_dict_get (kd_type D I2) PySem.F.entry_dict_get (PySem.F.args_dict_get_2 _ _) (meets_dict_get (PySem.strKind X.prog X.w) d (PySem.strKind_is X.prog X.w z t) D.low) ⟨_, PySem.W.mapOf_K (prog := X.prog) I2.kIn D.at_ D.lit, ?_⟩
      refine ⟨.str v, H2, I2.tok _, ?_, q2⟩
      rw [PySem.W.find_K D.at_ hu]
      exact ru
    · refine call_meetsIn PySem.F.slot_dict_get (kd_type D I2) PySem.F.entry_dict_get (PySem.F.args_dict_get_2 _ _) (meets_dict_get (PySem.strKind X.prog X.w) d (PySem.strKind_is X.prog X.w z t) D.low) ⟨_, PySem.W.mapOf_K (prog := X.prog) I2.kIn D.at_ D.lit, ?_⟩
      refine ⟨.non, H2, I2.tok _, ?_, q2⟩
      rw [PySem.W.find_K D.at_ (hno z hz)]
      rfl
end
theorem g_kget {d : Addr} {kvs : List (Str × Str)} {te : TE} {σ : St} {H : Hp} {Q : VK} (h : te σ H fun y H1 => ∃ z, y = .str z ∧ ((∃ v, (z, v) ∈ kvs ∧ Q (.str v) H1) ∨ ((∀ q ∈ kvs, q.1 ≠ z) ∧ Q .non H1))) : tKGet d kvs te σ H Q := h
theorem g_kgot {kvs : List (Str × Str)} {H : Hp} {Q : VK} {z v : Str} (h : (z, v) ∈ kvs) (q : Q (.str v) H) : ∃ z', V.str z = .str z' ∧ ((∃ v', (z', v') ∈ kvs ∧ Q (.str v') H) ∨ ((∀ q ∈ kvs, q.1 ≠ z') ∧ Q .non H)) := ⟨z, rfl, .inl ⟨v, h, q⟩⟩
theorem g_kno {kvs : List (Str × Str)} {H : Hp} {Q : VK} {z : Str} (h : ∀ q ∈ kvs, q.1 ≠ z) (q : Q .non H) : ∃ z', V.str z = .str z' ∧ ((∃ v', (z', v') ∈ kvs ∧ Q (.str v') H) ∨ ((∀ q ∈ kvs, q.1 ≠ z') ∧ Q .non H)) := ⟨z, rfl, .inr ⟨h, q⟩⟩
/-! xs.pop(0) -/
theorem g_pop0 {B H : Hp} {M L L' : List (Addr × HO)} {Q : VK} {l : Addr} {x : V} {xs : List V} (I : Is B M L H) (hl : H l = some (.lst (x :: xs))) (u : Put l (.lst xs) L L') (q : ∀ H', Is B M L' H' → Q x H') : rPopAt (.ref l) [.int 0] H Q :=
  ⟨l, x :: xs, 0, 0, x, rfl, rfl, hl, by decide, by decide, by simp [seqIndex?], rfl, q _ (I.put u)⟩
/-! o.f += a number -/
def aFAdd (K : PySem.W.Frag) (x : V) (k : Int) (f : Str) (nx : Hp → Prop) (H1 : Hp) : Prop := ∃ a C dx fs i, x = .ref a ∧ H1 a = some (.ins C dx fs) ∧ Cls K C ∧ NoAttr K C f ∧ fs.lookup f = some (.int i) ∧ fs.length < 1000 ∧ nx (upd H1 a (.ins C dx (putF f (.int (i + k)) fs)))
theorem g_fldAdd {K : PySem.W.Frag} {ta : TE} {k : Int} {f : Str} {nx bk ct : St → Hp → Prop} {rt : VK} {σ : St} {H : Hp} (mono : ∀ Q Q', (∀ v H1, Q v H1 → Q' v H1) → ta σ H Q → ta σ H Q') (h : ta σ H fun x H1 => aFAdd K x k f (fun H2 => nx σ H2) H1) : sFldAug K ta (tC (.int k)) rAdd f ⟨nx, rt, bk, ct⟩ σ H :=
  mono _ _ (fun x H1 ⟨a, C, dx, fs, i, e, hh, c, n, l, z, q⟩ => ⟨a, C, dx, fs, .int i, e, hh, c, n, l, i, k, rfl, rfl, dx, fs, hh, z, q⟩) h
theorem var_mono {i : Nat} {σ : St} {H : Hp} (Q Q' : VK) (h : ∀ v H1, Q v H1 → Q' v H1) (q : tVar i σ H Q) : tVar i σ H Q' := by
  obtain ⟨v, e, q⟩ := q
  exact ⟨v, e, h _ _ q⟩
theorem g_aFAdd {K : PySem.W.Frag} {B H : Hp} {M L L' : List (Addr × HO)} {a C dx : Addr} {fs fs' : List (Str × V)} {i k : Int} {f : Str} {nx : Hp → Prop} (I : Is B M L H) (h : H a = some (.ins C dx fs)) (c : Cls K C) (n : NoAttr K C f) (g : FGet fs f (.int i)) (hz : fs.length < 100) (fp : FPut f (.int (i + k)) fs fs') (u : Put a (.ins C dx fs') L L')
    (q : ∀ H', Is B M L' H' → nx H') : aFAdd K (.ref a) k f nx H :=
  ⟨a, C, dx, fs, i, rfl, h, c, n, g.eq, by omega, q _ (by rw [fp.eq]; exact I.put u)⟩
end Bz
namespace Bz
open PySem PySem.Spec PyProof.Rows L2
/-! ### try: .. except (A, B, C) as e: .. , the error kept behind it -/
/-- at a: an error of the class cls, its dict d -/
def exv (a : Addr) (cls : Value) (d : Option Addr) : HO := .ext fun h => ∃ (oe : Obj) (vs : Array Value), h.get? a = some oe ∧ oe.cls = cls ∧ oe.dict = d ∧ oe.data = .fields vs
theorem exv_ok {P : Program} {w : World} {H : Hp} {h : Heap} {a : Addr} {cls : Value} {d : Option Addr} {oe : Obj} {vs : Array Value} (he : h.get? a = some oe) (hz : Zc cls d oe) (hd : oe.data = .fields vs) : ObjOk P w H h a (exv a cls d) :=
  ⟨⟨oe, vs, he, hz.1, hz.2, hd⟩, ⟨_, he⟩, fun h1 h2 ⟨o, v, q, q2⟩ k => ⟨o, v, k _ q, q2⟩⟩
theorem fly_push {B h : Heap} {l : List Env} {a : Addr} {Z : Obj → Prop} {o : Obj} (x : HandSPX.FlyingZ B l a Z h) : HandSPX.FlyingZ B l a Z (h.push o) := by
  obtain ⟨k1, k2, k3, oe, vs, T, oT, ts, he, hz, hd, h1, hnT, hTe, hT, hdT, h3⟩ := x
  exact ⟨fun b o e => Heap.get?_push_of_some _ (k1 b o e), k2, k3.of_keeps fun b o hb _ => ⟨o, Heap.get?_push_of_some _ hb, rfl⟩, oe, vs, T, oT, ts, Heap.get?_push_of_some _ he, hz, hd, h1, hnT, hTe, Heap.get?_push_of_some _ hT, hdT, h3⟩
section
variable {X : Cx} {pins : List (Addr × Obj)} {σ : L2.St} {H : Hp} {s : Shared}
theorem tell_exc {a : Addr} {oe : Obj} {vs : Array Value} {cls : Value} {d : Option Addr} (I : Inv (X.suite a ((a, oe) :: (X.pn ++ pins))) [] σ H s) (ok : X.Ok) (hz : Zc cls d oe) (hd : oe.data = .fields vs) (h0 : X.s_0.heap.get? a = none) (np : ∀ p ∈ X.pn ++ pins, p.1 ≠ a) :
    Inv X pins σ (upd H a (exv a cls d)) s := by
  obtain ⟨ha, na, nL, nF, nC⟩ := I.pin (a, oe) (List.mem_append_left _ List.mem_cons_self)
  have ha : s.heap.get? a = some oe := ha
  have na : H a = none := na
  have nL : a ≠ X.env.locals := nL
  have sm : ∀ {b u}, H b = some u → upd H a (exv a cls d) b = some u := fun {b u} e => by
    rw [upd_ne (ne_of_none e na)]
    exact e
  refine ⟨ok, I.os, I.bare, ⟨I.base.keep, I.base.slot, fun b o e n hx => ?_, I.base.there, fun b xs e => sm (I.base.tups b xs e), fun b o u e => sm (I.base.frzs b o u e), fun b ps e => ?_⟩, I.loc, I.cell, ?_, fun x c e => ?_, fun p hp => ?_, fun b u e => ?_, I.len⟩
  · have hb : b ≠ a := fun z => by
      rw [z] at e
      have e' : X.s_0.heap.get? a = some o := e
      rw [h0] at e'
      cases e'
    rw [upd_ne hb]
    exact I.base.free b o e n hx
  · obtain ⟨more, q⟩ := I.base.tbls b ps e
    exact ⟨more, sm q⟩
  · rw [upd_ne (Ne.symm nL)]
    exact I.free
  · have hc : c ≠ a := fun z => by
      obtain ⟨v, o, ho, hv⟩ := I.cell x c e
      rw [z] at ho
      have ho' : s.heap.get? a = some o := ho
      rw [ha] at ho'
      cases ho'
      exact nC v hv
    rw [upd_ne hc]
    exact I.freeC x c e
  · obtain ⟨q1, q2, q3⟩ := I.pin p (List.mem_append_left _ (List.mem_cons_of_mem _ hp))
    refine ⟨q1, ?_, q3⟩
    rw [upd_ne (np p hp)]
    exact q2
  · by_cases hb : b = a
    · subst hb
      rw [upd_same] at e
      cases e
      exact exv_ok ha hz hd
    · rw [upd_ne hb] at e
      exact (I.hok b u e).stay (fun c v hc z => z) (fun c hc => sm hc) fun c xs hc => sm hc
end
/-- what the clause wishes of an error of the body: it is of one of the three -/
def wAs3 (K : PySem.W.Frag) (c1 c2 c3 : Value) (i : Nat) (ts : Addr → Value → Option Addr → TS) (D : Ends) : WX := fun cls d σ H =>
  PySem.W.exmAny K cls [c1, c2, c3] = some true ∧ ∀ a, H a = none → ts a cls d { nx := fun σ' H' => D.nx (σ'.set i none) (upd H' a (exv a cls d)), rt := fun _ _ => False, bk := fun _ _ => False, ct := fun _ _ => False } (σ.set i (some (.ref a))) H
section
variable {X : Cx} {x1 x2 x3 n : Str} {c1 c2 c3 : Value} {i : Nat} {body suite : List Stmt} {b₀ : Stmt} {p1 p2 p3 pos tp pos' : Pos} {st : Nat} {tb : WX → TS} {ts : Addr → Value → Option Addr → TS}
theorem ps_try_as3 (hs : X.stack = X.env :: X.outer) (hf : X.env.frame = some X.env.locals) (hex : X.ex = []) (hN : X.N.Nodup) (hi : X.N[i]? = some n) (hln : X.env.kindOf n = some .local) (h1 : Names X x1 c1) (h2 : Names X x2 c2) (h3 : Names X x3 c3)
    (hb : ∀ (W : WX) (pn : List (Addr × Obj)) (xe : Value → Shared → Prop), Takes (X.tr pn xe) W → PassesOwn (model X.prog X.w) X.A X.env xe → PSs (X.tr pn xe) body (tb W))
    (hsu : ∀ (a : Addr) (oe : Obj) (cls : Value) (d : Option Addr) (pn : List (Addr × Obj)), Zc cls d oe → (∃ vs, oe.data = .fields vs) → PSs (X.suite a ((a, oe) :: pn)) (b₀ :: suite) (ts a cls d)) :
    PS X (.Try body [.ExceptHandler (some (.Tuple [.Name x1 p1, .Name x2 p2, .Name x3 p3] st tp)) (some n) (b₀ :: suite) pos'] [] [] pos) (fun D σ H => tb (wAs3 X.K c1 c2 c3 i ts D) D σ H) := by
  refine ⟨fun pins s σ H D I h => ?_⟩
  have ok := I.ok
  have hfr : X.A.frames = some (X.env :: X.outer) := by rw [ok.frames, hs]
  refine wpAny_Try_except ?_
  refine wpAny_mono ((hb (wAs3 X.K c1 c2 c3 i ts D) (X.pn ++ pins) (fun e s₁ => wpAny (model X.prog X.w) X.A (noteFrame e X.env) (fun _ s₂ => wpAny (model X.prog X.w) X.A (setFlight e none) (fun _ s₃ =>
    wpAny (model X.prog X.w) X.A (handleBy e X.env [.ExceptHandler (some (.Tuple [.Name x1 p1, .Name x2 p2, .Name x3 p3] st tp)) (some n) (b₀ :: suite) pos']) (SP X pins D) X.xe s₃) X.xe s₂) X.xe s₁) ?_ PassesOwn.looking).run [] s σ H D (I.toTry _) h) ?_ (fun e s1 he => he)
  · intro u s' xx
    obtain ⟨a, B, sI, pins', σ', H', cls, d, rfl, J', nb, up, sky, na, os, ag, hx, hyes⟩ := xx
    have J : Inv X pins σ' H' sI := J'.ofTry ok
    have sky' : Sky B (X.env :: X.outer) a (Zc cls d) X.env.locals s'.heap := by rw [← hs]; exact sky
    show wpAny (model X.prog X.w) X.A (noteFrame (.ref a) X.env) _ _ _
    refine Sky.land Zc.steady hfr hf sky' fun h3' fl3 up3 => ?_
    have J3 : Inv X pins σ' H' { s' with heap := h3' } := J.landed nb fl3.1 (up.trans up3) os ag
    obtain ⟨oe3, vs3, he3, hz3, hd3⟩ := fl3.there
    have nfr : a ∉ frs (X.env :: X.outer) := fun hm => by
      obtain ⟨_, o', e', hnf⟩ := fl3.2.2.1.mem hm
      rw [he3] at e'; cases e'
      exact hnf _ hd3
    have nL : a ≠ X.env.locals := fun z => nfr (List.mem_filterMap.mpr ⟨X.env, List.mem_cons_self, by rw [hf, z]⟩)
    have nF : a ∉ X.fs := fun hm => by
      obtain ⟨e, he, q⟩ := List.mem_filterMap.mp hm
      exact nfr (List.mem_filterMap.mpr ⟨e, List.mem_cons_of_mem _ he, q⟩)
    have nfr' : a ∉ frs X.stack := by rw [hs]; exact nfr
    have hB : B.get? a = none := fl3.2.1
    have h0 : X.s_0.heap.get? a = none := by
      cases e : X.s_0.heap.get? a with
      | none => rfl
      | some o =>
        obtain ⟨o', e'⟩ := J.base.there a o e (by rw [hex]; simp)
        rw [nb a o' e' nfr'] at hB
        cases hB
    have np : ∀ p ∈ X.pn ++ pins, p.1 ≠ a := fun p hp z => by
      obtain ⟨e, n', ne, nf, _⟩ := J.pin p hp
      rw [z] at e
      rw [nb a _ e nfr'] at hB
      cases hB
    have S3 := J3.suite he3 hd3 na nL nF
    refine wpAny_handleBy_cons (codeAny_handlers_test ?_) (by intro q; cases q)
    have named : ∀ {x : Str} {c : Value} {np : Pos}, Names X x c → ∀ {Q : Value → Shared → Prop} {E : Value → Shared → Prop}, Q c { s' with heap := h3' } → wpAny (model X.prog X.w) (X.A.mark (some (.ref a))) (eval (.Name x np) X.env) Q E { s' with heap := h3' } := fun {x c np} hc {Q E} q => by
      obtain ⟨hg, hdbg, hm | ⟨hm, hv, hnn⟩⟩ := hc
      · exact ld_glob (X := X.suite a ((a, oe3) :: (X.pn ++ pins))) S3 hg hm q hdbg
      · exact ld_blt (X := X.suite a ((a, oe3) :: (X.pn ++ pins))) S3 hg hm hv q hnn hdbg
    refine wpAny_Tuple_spliced (Calls.spliced_cons (named h1 (Calls.spliced_cons (named h2 (Calls.spliced_cons (named h3 (Calls.spliced_nil ?_)))))))
    refine ⟨by rw [sizeLine_eq]; simp, ?_⟩
    obtain ⟨tp', htp⟩ : ∃ t, t = h3'.objs.size := ⟨_, rfl⟩
    have hp : (h3'.push { cls := .type "tuple", data := .seq ([c1, c2, c3] : List Value).toArray }).get? h3'.objs.size = some { cls := .type "tuple", data := .seq ([c1, c2, c3] : List Value).toArray } := Heap.get?_push_size _ rfl
    have fl4 := fly_push (o := { cls := .type "tuple", data := .seq ([c1, c2, c3] : List Value).toArray }) fl3
    have up4 : h3'.UpToSlots (h3'.push { cls := .type "tuple", data := .seq ([c1, c2, c3] : List Value).toArray }) := fun b o hb _ => ⟨o.slots, Heap.get?_push_of_some _ hb⟩
    have J4 : Inv X pins σ' H' { s' with heap := h3'.push { cls := .type "tuple", data := .seq ([c1, c2, c3] : List Value).toArray } } := J3.kept fun b o e => Heap.get?_push_of_some _ e
    generalize h3'.push { cls := .type "tuple", data := .seq ([c1, c2, c3] : List Value).toArray } = h4 at *
    obtain ⟨oe4, vs4, he4, hz4, hd4⟩ := fl4.there
    have LT : PySem.W.Looks (model X.prog X.w) h4 (typeOf (.ref a)) cls := fun A Q E s k q => wpAny_typeOf_ref (k _ _ he4) (by rw [hz4.1]; exact q)
    have LM := PySem.W.exm_tup3 (M := model X.prog X.w) (J4.kIn) LT hp hx
    refine LM.here ?_
    refine codeAny_handlers_suite_as ?_
    refine HandSPX.lands_againZ fl4 fun h5 fl5 up5 => ?_
    have J5 : Inv X pins σ' H' { s' with heap := h5 } := J.landed nb fl5.1 (((up.trans up3).trans up4).trans up5) os ag
    obtain ⟨oe5, vs5, he5, hz5, hd5⟩ := fl5.there
    have S5 := J5.suite he5 hd5 na nL nF
    refine store_ok (X := X.suite a ((a, oe5) :: (X.pn ++ pins))) (v := .ref a) S5 hN hi (.inl hln) rfl (fun s6 S6 => ?_) (.inr hln)
    refine wpAny_mono ((hsu a oe5 cls d (X.pn ++ pins) hz5 ⟨_, hd5⟩).run [] s6 _ H' _ S6 (hyes a na)) (fun f s7 hsp => ?_) (fun _ _ z => False.elim z)
    cases f with
    | next =>
      obtain ⟨σ6, H6, S7, q6⟩ := hsp
      exact gone_ok (X := X.suite a ((a, oe5) :: (X.pn ++ pins))) S7 hN hi hln fun s8 S8 => ⟨_, _, tell_exc S8 ok hz5 hd5 h0 np, q6⟩
    | brk =>
      obtain ⟨_, _, _, q6⟩ := hsp
      exact False.elim q6
    | cont =>
      obtain ⟨_, _, _, q6⟩ := hsp
      exact False.elim q6
    | ret u =>
      obtain ⟨_, _, _, _, _, q6⟩ := hsp
      exact False.elim q6
  · intro f s1 hsp
    cases f with
    | next =>
      obtain ⟨σ', H', J', q⟩ := hsp
      exact wpAny_execs_nil ⟨σ', H', J'.ofTry ok, q⟩
    | brk =>
      obtain ⟨σ', H', J', q⟩ := hsp
      exact ⟨σ', H', J'.ofTry ok, q⟩
    | cont =>
      obtain ⟨σ', H', J', q⟩ := hsp
      exact ⟨σ', H', J'.ofTry ok, q⟩
    | ret u =>
      obtain ⟨v, σ', H', J', r, q⟩ := hsp
      exact ⟨v, σ', H', J'.ofTry ok, r, q⟩
end
end Bz
namespace Bz
open PySem PySem.Spec PyProof.Rows L2
/-! ### an error as a value: isinstance, its fields -/
/-- what an error's class is asked -/
def excB (K : PySem.W.Frag) (D : Addr) : Bool :=
  decide (PySem.W.findIn K (.ref D) "__getattribute__" = some (some (.builtin "BaseException.__getattribute__"))) && (decide (PySem.W.findIn K (.ref D) "__getattr__" = some none) && (decide (PySem.W.subIn K (.ref D) (.type "BaseException") = some true) && (PySem.W.hasDictIn K D &&
  (decide (PySem.W.findIn K (.ref D) "__class__" = some (some (.builtin "object.__class__"))) && (decide (PySem.W.specialIn K (.builtin "object.__class__") "__get__" = some (some (.builtin "getset_descriptor.__get__"))) && (decide (PySem.W.takesIn K (.builtin "object.__class__") = some true) && decide (PySem.W.mroIn K D (.type "object") = some true)))))))
theorem excB_ok {K : PySem.W.Frag} {D : Addr} (h : excB K D = true) : ExcC K D := by
  unfold excB at h
  simp only [Bool.and_eq_true] at h
  obtain ⟨a1, a2, a3, a4, a5, a6, a7, a8⟩ := h
  exact ⟨of_decide_eq_true a1, of_decide_eq_true a2, of_decide_eq_true a3, a4, of_decide_eq_true a5, of_decide_eq_true a6, of_decide_eq_true a7, of_decide_eq_true a8⟩
theorem exv_at {P : Program} {w : World} {H : Hp} {h : Heap} {a : Addr} {cls : Value} {d : Option Addr} (hok : HOk P w H h) (e : H a = some (exv a cls d)) : ∃ (oe : Obj) (vs : Array Value), h.get? a = some oe ∧ oe.cls = cls ∧ oe.dict = d ∧ oe.data = .fields vs := by
  have x : ObjOk P w H h a (.ext fun h => ∃ (oe : Obj) (vs : Array Value), h.get? a = some oe ∧ oe.cls = cls ∧ oe.dict = d ∧ oe.data = .fields vs) := hok a _ e
  exact x.1
/-- isinstance(e, c), e an error kept as a value -/
def rIsE (K : PySem.W.Frag) : List V → Hp → VK → Prop := fun xs H Q => ∃ (a D dd : Addr) (fs : List (Str × V)) (c : V) (u : Value) (b : Bool), xs = [.ref a, c] ∧ H a = some (exv a (.ref D) (some dd)) ∧ H dd = some (.xd fs) ∧ ExcC K D ∧ ClsV c u ∧ PySem.W.kitOne K (.ref D) u = some b ∧ Q (.bl b) H
section
variable {X : Cx} {pins : List (Addr × Obj)} {σ : L2.St} {H : Hp} {s : Shared}
theorem exv_inst {a D dd : Addr} {fs : List (Str × V)} (I : Inv X pins σ H s) (ha : H a = some (exv a (.ref D) (some dd))) (hd : H dd = some (.xd fs)) :
    ∃ oe od mA, PySem.W.InstAt s.heap a oe D (some od) ∧ s.heap.Ns1 dd mA ∧ (∀ f, RelO (fs.lookup f) (mA f)) ∧ s.heap.get? dd = some od := by
  obtain ⟨oe, vs, h1, h2, h3, h4⟩ := exv_at I.hok ha
  have hx : ObjOk X.prog X.w H s.heap dd (.xd fs) := I.hok dd _ hd
  obtain ⟨mA, hns, hr⟩ := hx
  obtain ⟨od, ho, hl⟩ := lookIn_ns hns
  exact ⟨oe, od, mA, ⟨h1, h2, by unfold PySem.W.notCls; rw [h4] <;> rfl, by rw [h3]; exact ho⟩, hns, hr, ho⟩
theorem call_isE2 : CallR X (.builtin "isinstance") (rIsE X.K) := by
  intro pins s σ H xs us Q I r h
  obtain ⟨a, D, dd, fs, c, u, b, rfl, ha, hd, C, k, e, q⟩ := h
  obtain ⟨u1, u2, rfl, r1, r2⟩ := vals2 r
  have e2 := k.eq r2
  subst e2
  obtain rfl : u1 = Value.ref a := r1
  obtain ⟨oe, od, mA, J, _⟩ := exv_inst I ha hd
  obtain ⟨cd, hc, _⟩ := PySem.W.any_some C.hd
  exact PySem.W.kia_one (PySem.W.kitx_exc (od := some od) (by rw [hc]; rfl) C.hg C.hk C.hs C.ha C.hn C.ht C.hm) I.kIn J e (fun z => nomatch z) fun tk => ⟨.bl b, H, I.tok tk, rfl, q⟩
/-- isinstance of a thing of any kind, or of an error -/
def rIsX (K : PySem.W.Frag) : List V → Hp → VK → Prop := fun xs H Q => rIsi K xs H Q ∨ rIsE K xs H Q
theorem call_isX : CallR X (.builtin "isinstance") (rIsX X.K) := by
  intro pins s σ H xs us Q I r h
  rcases h with h | h
  · exact call_isi pins s σ H xs us Q I r h
  · exact call_isE2 pins s σ H xs us Q I r h
/-- e.f, e an error kept as a value -/
def tXv (K : PySem.W.Frag) (f : Str) (te : TE) : TE := fun σ H Q => te σ H fun x H1 => ∃ (a D dd : Addr) (fs : List (Str × V)) (v : V), x = .ref a ∧ H1 a = some (exv a (.ref D) (some dd)) ∧ H1 dd = some (.xd fs) ∧ ExcC K D ∧ PySem.W.findIn K (.ref D) f = some none ∧ fs.lookup f = some v ∧ Q v H1
theorem pe_xv {e : Expr} {te : TE} {pos : Pos} {n : Str} (he : PE X e te) (hb : attributeBase e n X.env (eval e X.env) = eval e X.env := by rfl) : PE X (.Attribute e n pos) (tXv X.K n te) := by
  refine ⟨fun pins s σ H Q I h => ?_⟩
  refine attr_of hb (thn (he.run pins s σ H _ I h) fun u s1 hh => ?_)
  obtain ⟨x, H1, I1, rx, a, D, dd, fs, v, ex, ha, hd, C, hno, l, q⟩ := hh
  subst ex
  obtain rfl : u = Value.ref a := rx
  obtain ⟨oe, od, mA, J, hns, hr, ho⟩ := exv_inst I1 ha hd
  obtain ⟨od', ho', hl⟩ := lookIn_ns hns
  rw [ho] at ho'
  cases ho'
  obtain ⟨u, hu, ru⟩ := RelO.some_of (v := v) (o := mA n) (by rw [← l]; exact hr n)
  exact HandSPX.exc_get I1.kIn J C.hg C.hk C.hs (PySem.W.findObj_own C.hd hno rfl (by rw [hl, hu])) (handed_of ru) ⟨v, H1, I1.tok _, ru, q⟩
end
section
variable {K : PySem.W.Frag} {H : Hp} {Q : VK} {a D dd : Addr} {fs : List (Str × V)}
theorem g_isX {xs : List V} (h : rIsi K xs H Q) : rIsX K xs H Q := .inl h
theorem g_isE {c : V} {u : Value} {b : Bool} (ha : H a = some (exv a (.ref D) (some dd))) (hd : H dd = some (.xd fs)) (C : ExcC K D) (k : ClsV c u) (e : PySem.W.kitOne K (.ref D) u = some b) (q : Q (.bl b) H) : rIsX K [.ref a, c] H Q :=
  .inr ⟨a, D, dd, fs, c, u, b, rfl, ha, hd, C, k, e, q⟩
def aXv (K : PySem.W.Frag) (f : Str) (x : V) (H1 : Hp) (Q : VK) : Prop := ∃ (a D dd : Addr) (fs : List (Str × V)) (v : V), x = .ref a ∧ H1 a = some (exv a (.ref D) (some dd)) ∧ H1 dd = some (.xd fs) ∧ ExcC K D ∧ PySem.W.findIn K (.ref D) f = some none ∧ fs.lookup f = some v ∧ Q v H1
theorem g_xv {te : TE} {σ : St} {f : Str} (h : te σ H fun x H1 => aXv K f x H1 Q) : tXv K f te σ H Q := h
theorem g_aXv {f : Str} {v : V} (ha : H a = some (exv a (.ref D) (some dd))) (hd : H dd = some (.xd fs)) (C : ExcC K D) (hn : PySem.W.findIn K (.ref D) f = some none) (g : FGet fs f v) (q : Q v H) : aXv K f (.ref a) H Q :=
  ⟨a, D, dd, fs, v, rfl, ha, hd, C, hn, g.eq, q⟩
end
/-! ### raise C(x), C's __init__ keeps x as its field f -/
def sp_xone (C : Addr) (f : Str) : Sp := fun vs H Q _ => vs.length = 2 ∧ ∃ (a : Addr) (x : V), vs = [.ref a, x] ∧ H a = some (exo a C none) ∧ ∀ dx, H dx = none → dx ≠ a → Q .non (upd (upd H dx (exd dx [(f, x)])) a (exo a C (some dx)))
def aRz (C : Addr) (f : Str) (x : V) (H1 : Hp) (Q : XK) : Prop := ([x] : List V).length ≤ 1000 ∧ ∀ a, H1 a = none → sp_xone C f (.ref a :: ([x] ++ [])) (upd H1 a (exo a C none))
  (fun v H2 => v = .non ∧ ∃ (d : Addr) (fs : List (Str × V)), H2 a = some (exo a C (some d)) ∧ H2 d = some (exd d fs) ∧ H1 d = none ∧ Q (.ref C) (some d) (upd (del H2 a) d (.xd fs))) (fun _ _ _ => False)
def tRz (C : Addr) (f : Str) (te : TE) : St → Hp → XK → Prop := fun σ H Q => te σ H fun x H1 => aRz C f x H1 Q
theorem g_aRz {C : Addr} {f : Str} {x : V} {H1 : Hp} {Q : XK} (q : ∀ d, H1 d = none → Q (.ref C) (some d) (upd H1 d (.xd [(f, x)]))) : aRz C f x H1 Q := by
  refine ⟨by simp, fun a na => ⟨rfl, a, x, rfl, upd_same, fun dx hd hne => ⟨rfl, dx, [(f, x)], upd_same, ?_, ?_, ?_⟩⟩⟩
  · rw [upd_ne hne, upd_same]
  · rw [upd_ne hne] at hd
    exact hd
  · have hd' : H1 dx = none := by rw [upd_ne hne] at hd; exact hd
    have e : upd (del (upd (upd (upd H1 a (exo a C none)) dx (exd dx [(f, x)])) a (exo a C (some dx))) a) dx (.xd [(f, x)]) = upd H1 dx (.xd [(f, x)]) := by
      funext b
      by_cases h1 : b = dx
      · rw [h1, upd_same, upd_same]
      · rw [upd_ne h1, upd_ne h1]
        by_cases h2 : b = a
        · rw [h2, del_same, na]
        · rw [del_ne h2, upd_ne h2, upd_ne h1, upd_ne h2]
    rw [e]
    exact q dx hd'
section
variable {X : Cx} {CX : CXT} {k : Nat}
/-- the class C of the name x, its __init__ fI -/
structure XOneOk (P : Program) (w : World) (K : PySem.W.Frag) (mg : Str → Option Value) (base : Heap) (CX : CXT) (k : Nat) (x f : Str) : Prop where
  T : OexC K (He.ga K x)
  ok : ∃ (fI : Addr) (fd : FuncData) (ps : List Str), PySem.W.findIn K (.ref (He.ga K x)) "__init__" = some (some (.ref fI)) ∧ PySem.W.typeIn K (.ref fI) = some (.type "function") ∧ FnOk P w K mg base CX k fI fd ps (sp_xone (He.ga K x) f) ∧ Binds K fd ps []
  at_ : mg x = some (.ref (He.ga K x))
theorem pmk_xone {x f : Str} {e : Expr} {te : TE} {p pos : Pos} {k' : Nat} (c : XOneOk X.prog X.w X.K X.mg X.base CX k x f) (hr : Room k' X.A) (hk : k + 1 ≤ k') (hx : Passes CX X (fun _ _ _ => False)) (hg : Gl X x) (ha : PA X [e] (tCons te tNil))
    (hdb : (x == ("__debug__" : Str)) = false := by decide) (hs : starEach [e] X.env = (false, eval e X.env) :: starEach [] X.env := by rfl) : PMk X (.Call (.Name x p) [e] [] pos) (tRz (He.ga X.K x) f te) := by
  obtain ⟨T, ⟨fI, fd, ps, iC, tI, F1, hb⟩, hm⟩ := c
  exact pmk_oex (X := X) (e := e) (es := []) (p := p) (pos := pos) (ds := []) (dvs := []) T iC tI F1 (hr.mono hk) hb .nil hx hg hm ha hdb hs (by rfl)
/-- the __init__ of such a class -/
theorem rd_xone {K : PySem.W.Frag} {C : Addr} {f : Str} {N : List Str} (T : OexC K C) (hn : PySem.W.findIn K (.ref C) f = some none) (vs : List V) (H : Hp) (Q : VK) (E : XK) (h : sp_xone C f vs H Q E) (h2 : 2 ≤ N.length) : tOst K f (tVar 0) (tVar 1) { nx := fun _ H' => Q .non H', rt := Q } (L2.start N vs) H := by
  obtain ⟨_, a, x, rfl, ha, q⟩ := h
  match N, h2 with
  | _ :: _ :: _, _ => exact ⟨x, rfl, .ref a, rfl, a, C, rfl, T, hn, .inl ⟨ha, q⟩⟩
theorem passN {X : Cx} : Passes (L2.CX X.prog X.w) X E0 := fun _ _ _ _ _ _ _ ⟨_, _, _, _, _, _, _, _, _, _, _, _, z⟩ => z.elim
/-- raise C(x) -/
def tRaise (W : WX) (t : St → Hp → XK → Prop) : TS := fun _ σ H => t σ H fun cls d H' => W cls d σ H'
end
section
variable {B : Hp} {M L : List (Addr × HO)} {H : Hp}
theorem g_raise {W : WX} {t : St → Hp → XK → Prop} {D : Ends} {σ : St} (h : t σ H fun cls d H' => W cls d σ H') : tRaise W t D σ H := h
theorem g_rz {C : Addr} {f : Str} {te : TE} {σ : St} {Q : XK} (h : te σ H fun x H1 => aRz C f x H1 Q) : tRz C f te σ H Q := h
theorem g_aRzI {C : Addr} {f : Str} {x : V} {Q : XK} (I : Is B M L H) (q : ∀ d H', Is B M ((d, .xd [(f, x)]) :: L) H' → Q (.ref C) (some d) H') : aRz C f x H Q := g_aRz fun d hd => q d _ (I.new hd)
end
end Bz
namespace Bz
open PySem PySem.Spec PyProof.Rows L2
/-! ### a lambda without parameters, handed to a def that calls it within a try -/
abbrev tabSt (H : Hp) (P c : Addr) (q : Str) (ps more : Array Value) : Hp := upd (upd H P (.tbl (ps ++ more))) c (LamX.CodeO c q)
section
variable {X : Cx} {pins : List (Addr × Obj)} {σ : L2.St} {H : Hp} {s : Shared}
/-- the lambda is made: by a code object of the table, or by a new one -/
theorem lam_makeG {c P : Addr} {ps : Array Value} {params : Arguments} {body : Expr} {scope : Scope} {pos : Pos} {E : Value → Shared → Prop} {Q : Value → Shared → Prop} (I : Inv X pins σ H s) (TB : LamX.TabB X.base X.mg c P) (hcode : X.env.code = .ref c)
    (hP : H P = some (.tbl ps)) (ht : TriplesOk ps.toList) (ha : ∀ (pos : Pos) (cv : Value), codeAmong pos ps.toList = some cv → ∃ c, cv = .ref c ∧ H c = some (LamX.CodeO c (X.env.qual ++ "<lambda>")))
    (hdef : defaultsOf params X.env = ([], [])) (hfree : ∀ y ∈ scope.names, y.2 = .free → ∃ c, X.env.cells.lookup y.1 = some c)
    (h : ∀ (f c' : Addr) (pm ctv : Value) (H1 : Hp) (s' : Shared), Inv X pins σ H1 s' → (H1 = H ∨ ∃ more, H c' = none ∧ H1 = tabSt H P c' (X.env.qual ++ "<lambda>") ps more ∧ TriplesOk (ps ++ more).toList ∧ ∀ (pos : Pos) (cv : Value), codeAmong pos (ps ++ more).toList = some cv → codeAmong pos ps.toList = some cv ∨ cv = .ref c') →
      s'.heap.get? f = some (PySem.W.kla_obj "<lambda>" (X.env.qual ++ "<lambda>") params body scope (cloFrom X.env.cells scope.names []) pm c' ctv) → H1 f = none → f ∉ frs X.stack → H1 c' = some (LamX.CodeO c' (X.env.qual ++ "<lambda>")) → Q (.ref f) s') :
    wpAny (model X.prog X.w) X.A (eval (.Lambda params body scope pos) X.env) Q E s := by
  refine PySem.W.kla_eval hdef ?_
  have bP : s.heap.BuiltinsAt X.mg P := TB.bm.keeps I.bk
  have hP' : s.heap.get? P = some { cls := .none, data := .fields ps } := I.hok P _ hP
  have nofr : ∀ f, s.heap.objs.size ≤ f → f ∉ frs X.stack := fun f hf z => by
    rcases List.mem_cons.mp (I.stkSub _ z) with e | e
    · have h1 := I.lt
      rw [← e] at h1
      exact Nat.lt_irrefl _ (Nat.lt_of_lt_of_le h1 hf)
    · exact I.nofs hf e
  cases hc : codeAmong pos ps.toList with
  | none =>
    refine PySem.W.kla_makeFunction (mg := X.mg) (c := c) (P := P) (ps := ps) (closure_ok hfree) I.ok.glob (I.mod.glob.keeps I.bk) hcode (TB.code.keeps I.bk) hP' ht hc TB.gP bP fun c' ctv h' tk hx hge hlt hrec htb => ?_
    obtain ⟨c2, oc, vs, t, e2, hoc, hd, hv⟩ := hrec
    cases e2
    have hsz : s.heap.objs.size ≤ h'.objs.size := Nat.le_trans hge (Nat.le_of_lt hlt)
    have nC : H c' = none := I.hok.fresh hge
    have I1 := LamX.inv_table (t' := tk) (more := #[rawInt pos.line, rawInt pos.col, .ref c']) (h' := h'.push (PySem.W.kla_obj "<lambda>" (X.env.qual ++ "<lambda>") params body scope (cloFrom X.env.cells scope.names []) ((X.mg "__name__").getD .none) c' ctv)) I hP
      (fun b o hb e => Heap.get?_push_of_some _ (hx b o hb e)) (Heap.get?_push_of_some _ htb) hge ⟨oc, vs, t, Heap.get?_push_of_some _ hoc, hd, hv⟩
    have eL : (ps ++ #[rawInt pos.line, rawInt pos.col, .ref c']).toList = ps.toList ++ [rawInt pos.line, rawInt pos.col, .ref c'] := by simp
    refine h h'.objs.size c' ((X.mg "__name__").getD .none) ctv _ _ I1 (.inr ⟨#[rawInt pos.line, rawInt pos.col, .ref c'], nC, rfl, by rw [eL]; exact PySem.TriplesOk_snoc _ _ _ _ ht, fun p' cv hcv => ?_⟩) (Heap.get?_push_size _ rfl) ?_ (nofr _ hsz) upd_same
    · rw [eL] at hcv
      exact LamX.among_app _ ht hcv
    · have n1 : h'.objs.size ≠ c' := Nat.ne_of_gt hlt
      have n2 : h'.objs.size ≠ P := Nat.ne_of_gt (Nat.lt_of_lt_of_le (Heap.lt_size hP') hsz)
      rw [upd_ne n1, upd_ne n2]
      exact I.hok.fresh hsz
  | some cv =>
    obtain ⟨c', e, hco⟩ := ha pos cv hc
    subst e
    refine PySem.W.kla_makeFunctionHit (mg := X.mg) (c := c) (P := P) (ps := ps) (closure_ok hfree) I.ok.glob (I.mod.glob.keeps I.bk) hcode (TB.code.keeps I.bk) hP' ht hc bP fun ctv h' tk hx hsz => ?_
    have I1 : Inv X pins σ H { s with heap := h'.push (PySem.W.kla_obj "<lambda>" (X.env.qual ++ "<lambda>") params body scope (cloFrom X.env.cells scope.names []) ((X.mg "__name__").getD .none) c' ctv), toks := tk } := I.kept fun b o e => Heap.get?_push_of_some _ (hx b o e)
    exact h h'.objs.size c' ((X.mg "__name__").getD .none) ctv H _ I1 (.inl rfl) (Heap.get?_push_size _ rfl) (I.hok.fresh hsz) (nofr _ hsz) hco
/-- x(), x the lambda; what it raises is wished for at the caller's slots -/
theorem pe_actG {CXg : CXT} {Eg : XK} {Ng : List Str} {qg : Str} {sg : Scope} {g f c' : Addr} {cdg pm ctv : Value} {params : Arguments} {body : Expr} {scope : Scope} {k i : Nat} {a : Str} {pn : List (Addr × Obj)} {xe : Value → Shared → Prop} {W : WX} {tb : XK → TE} {p1 p2 : Pos}
    (I : Inv X pins σ H s) (L : LamX.LamS X.env.scope scope) (hf : s.heap.get? f = some (PySem.W.kla_obj "<lambda>" (X.env.qual ++ "<lambda>") params body scope (cloFrom X.env.cells scope.names []) pm c' ctv)) (hfn : H f = none) (hfr : f ∉ frs X.stack)
    (hbind : bindArgs (PySem.W.kla_fn "<lambda>" (X.env.qual ++ "<lambda>") params body scope (cloFrom X.env.cells scope.names []) pm (.ref c') ctv) ⟨[], []⟩ = pure [])
    (tk : Takes ((cxOf CXg X.prog X.w X.K X.mg X.base Ng qg sg g cdg X.A X.stack s H Eg).tr pn xe) W) (hr : Room (k + 1) (X.A.deeper (envOfC qg sg s.heap.objs.size g cdg))) (hgu : X.A.guards = some [])
    (hbody : ∀ (A : Around) (outer : List Env) (s : Shared) (H : Hp) (E : XK), Room k (A.deeper (LamX.lamEnv X scope s.heap.objs.size f c')) → A.guards = some [] → PE (LamX.lamCx X A outer s H E scope f c') body (tb E))
    (hN : Ng[i]? = some a) (hv : Vis sg a) (hd : (a == ("__debug__" : Str)) = false) (hcd : (a == ("__classdict__" : Str)) = false) :
    PE ((cxOf CXg X.prog X.w X.K X.mg X.base Ng qg sg g cdg X.A X.stack s H Eg).tr pn xe) (.Call (.Name a p1) [] [] p2)
      (fun σZ HZ Q => σZ[i]? = some (some (.ref f)) ∧ HZ c' = some (LamX.CodeO c' (X.env.qual ++ "<lambda>")) ∧ ∃ E : XK, (∀ cls d H', E cls d H' → W cls d σZ H') ∧ tb E σ HZ Q) := by
  refine ⟨fun pinsZ sZ σZ HZ Q IZ h => ?_⟩
  obtain ⟨hs, hc, E, hE, ht⟩ := h
  refine wpAny_Call_Name_kw (thn ((pe_var (pos := p1) (i := i) hN hv hd hcd).run pinsZ sZ σZ HZ (fun v H1 => v = .ref f ∧ H1 = HZ) IZ ⟨.ref f, hs, rfl, rfl⟩) fun u s1 ⟨v, H1, I1, r1, q1⟩ => ?_)
  obtain ⟨ev, eH⟩ := q1
  subst ev
  rw [eH] at I1
  obtain rfl : u = Value.ref f := r1
  have of1 : s1.heap.get? f = some (PySem.W.kla_obj "<lambda>" (X.env.qual ++ "<lambda>") params body scope (cloFrom X.env.cells scope.names []) pm c' ctv) := I1.base.keep f _ hf hfn hfr (fun z => nomatch (show f ∈ ([] : List Addr) from z))
  refine PySem.W.callWith_F0 ⟨_, _, _, _, of1⟩ ?_
  have un : Un (frs X.stack) [] H HZ s.heap s1.heap := I1.base
  obtain ⟨⟨oc, vs, t, hoc, hdc, hvc⟩, _, _⟩ := I1.hok c' _ hc
  have rc : codeAny (model X.prog X.w) (X.A.deeper (envOfC qg sg s.heap.objs.size g cdg)) (.call (.ref f) ⟨[], []⟩) (CR (L2.CX X.prog X.w) (envOfC qg sg s.heap.objs.size g cdg :: X.stack) X.prog X.w HZ s1 Q E) s1 := by
    refine PySem.W.kla_callFunE hr.depth of1 rfl L.co L.gen rfl ⟨c', oc, vs, t, rfl, hoc, hdc, hvc⟩ ?_
    rw [hbind]
    refine wpAny_pure (wpAny_newFunctionEnv (fun y hy => (L.own y hy).2) (fun y hy => absurd hy (by simp)) (fun h₁ hns hsb => ⟨I1.nolimit.fresh _ hsb, ?_⟩) L.kind)
    show codeAny _ _ (.expr body (LamX.lamEnv X scope s1.heap.objs.size f c')) _ _
    have kp : ∀ b o, s1.heap.get? b = some o → h₁.get? b = some o := fun b o e => hsb.extBut b o (Nat.ne_of_lt (Heap.lt_size e)) (Heap.get?_push_of_some _ e)
    have J : Inv (LamX.lamCx X (X.A.deeper (envOfC qg sg s.heap.objs.size g cdg)) (envOfC qg sg s.heap.objs.size g cdg :: X.stack) s1 HZ E scope f c') [] σ HZ { s1 with heap := h₁, toks := s1.toks + ([] : List (Str × Value)).length } :=
      LamX.lam_start2 I L I1.env0 hr.hd un hns kp
    refine PySem.W.kla_codeExpr (wpAny_mono ((hbody _ _ s1 HZ E (hr.deeper _) (guards_deeper hgu)).run [] _ _ HZ Q J ht) (fun v s' hq => ?_) fun e s' hq => hq)
    obtain ⟨w', H', J', rv, q⟩ := hq
    exact ⟨w', H', J'.os, J'.bare, J'.base, J'.hok, rv, q⟩
  refine wpAny_call (codeAny_mono rc fun r s' hq => ?_)
  cases r with
  | error e => exact tk _ _ (XE.of_call I1 hE hq)
  | ok fl =>
    cases fl with
    | ret u => exact I1.after hq
    | next => exact False.elim hq
    | brk => exact False.elim hq
    | cont => exact False.elim hq
end
/-- the def that calls what it got: TT what it makes of the lambda's reading -/
def GivesG (X : Cx) (k : Nat) (Ng : List Str) (x : Str) (sg : Scope) (g : Addr) (cdg : Value) (bg : List Stmt) (a : Str) (q : Str) (TT : (XK → Hp → VK → Prop) → Hp → VK → Prop) : Prop :=
  ∀ (f c' : Addr) (s : Shared) (H : Hp) (Q : VK) (tl : XK → Hp → VK → Prop), Room k (X.A.deeper (envOfC x sg s.heap.objs.size g cdg)) →
    (∀ (W : WX) (pn : List (Addr × Obj)) (xe : Value → Shared → Prop) (p1 p2 : Pos), Takes ((cxOf CX0 X.prog X.w X.K X.mg X.base Ng x sg g cdg X.A X.stack s H E0).tr pn xe) W →
      PE ((cxOf CX0 X.prog X.w X.K X.mg X.base Ng x sg g cdg X.A X.stack s H E0).tr pn xe) (.Call (.Name a p1) [] [] p2) (fun σZ HZ Q => σZ[0]? = some (some (.ref f)) ∧ HZ c' = some (LamX.CodeO c' q) ∧ ∃ E : XK, (∀ cls d H', E cls d H' → W cls d σZ H') ∧ tl E HZ Q)) →
    H c' = some (LamX.CodeO c' q) → TT tl H Q →
    ∃ t, PSs (cxOf CX0 X.prog X.w X.K X.mg X.base Ng x sg g cdg X.A X.stack s H E0) bg t ∧ t { nx := fun _ H' => Q .non H', rt := Q } (L2.start Ng [.ref f]) H
/-- the table at P tells code objects of the name q alone -/
def TabI (B : Hp) (q : Str) (ps : Array Value) : Prop := TriplesOk ps.toList ∧ ∀ (pos : Pos) (cv : Value), codeAmong pos ps.toList = some cv → ∃ c, cv = .ref c ∧ B c = some (LamX.CodeO c q)
def tLamG (P : Addr) (q : Str) (TT : (XK → Hp → VK → Prop) → Hp → VK → Prop) (t : XK → TE) : TE := fun σ H Q => ∃ ps, H P = some (.tbl ps) ∧ TabI H q ps ∧ TT (fun E H' Q' => t E σ H' Q') H Q ∧
  ∀ c' more, H c' = none → TriplesOk (ps ++ more).toList → (∀ (pos : Pos) (cv : Value), codeAmong pos (ps ++ more).toList = some cv → codeAmong pos ps.toList = some cv ∨ cv = .ref c') → TT (fun E H' Q' => t E σ H' Q') (tabSt H P c' q ps more) Q
section
variable {X : Cx}
theorem pe_lamG {TT : (XK → Hp → VK → Prop) → Hp → VK → Prop} {x a : Str} {g c P : Addr} {k : Nat} {fd : FuncData} {pg : Arguments} {bg : List Stmt} {sg : Scope} {Ng : List Str} {params : Arguments} {body : Expr} {scope : Scope} {t : XK → TE} {p lpos pos : Pos}
    (hg : Gl X x) (hm : X.mg x = some (.ref g)) (F : FunD X.K x x pg bg sg [] [] g fd) (hbd : L2.Binds X.K fd [a] []) (Sg : FnScope Ng [a] sg) (hNg : Ng[0]? = some a) (hva : Vis sg a) (hgu : X.A.guards = some [])
    (hG : ∀ cdg, GivesG X k Ng x sg g cdg bg a (X.env.qual ++ "<lambda>") TT) (TB : LamX.TabB X.base X.mg c P) (hcode : X.env.code = .ref c) (hr : Room (k + 2) X.A) (L : LamX.LamS X.env.scope scope) (hdef : defaultsOf params X.env = ([], []))
    (hbind : ∀ (q : Str) (cl : List (Str × Addr)) (pm cv ctv : Value), bindArgs (PySem.W.kla_fn "<lambda>" q params body scope cl pm cv ctv) ⟨[], []⟩ = pure [])
    (hbody : ∀ (A : Around) (outer : List Env) (s : Shared) (H : Hp) (E : XK) (f c' : Addr), Room k (A.deeper (LamX.lamEnv X scope s.heap.objs.size f c')) → A.guards = some [] → PE (LamX.lamCx X A outer s H E scope f c') body (t E))
    (hdb : (x == ("__debug__" : Str)) = false := by decide) (hd : (a == ("__debug__" : Str)) = false := by decide) (hcd : (a == ("__classdict__" : Str)) = false := by decide) :
    PE X (.Call (.Name x p) [.Lambda params body scope lpos] [] pos) (tLamG P (X.env.qual ++ "<lambda>") TT t) := by
  refine ⟨fun pins s σ H Q I h => ?_⟩
  obtain ⟨ps, hP, hT, h1, h2⟩ := h
  obtain ⟨oc, od, dV, kV, doc, pm, an, cdv, ct, osl, rfl, lk, hcg, _, _⟩ := F.ex
  refine wpAny_Call_Name_kw (ld_glob I hg hm ?_ hdb)
  refine PySem.W.callWith_K (h₀ := X.base) I.ok.mod.kin F.kp ?_ (by rfl) (by rfl)
  show wpAny _ _ (spliced ((false, eval (.Lambda params body scope lpos) X.env) :: backTo pos (starEach [] X.env))) _ _ s
  refine Calls.spliced_cons (lam_makeG I TB hcode hP hT.1 hT.2 hdef (L.has I.ok) fun f c' pm' ctv H1 s' I1 eH hf hfn hfr hco => ?_)
  refine Calls.spliced_nil ⟨I1.kIn, ?_⟩
  have hTT : TT (fun E H' Q' => t E σ H' Q') H1 Q := by
    rcases eH with rfl | ⟨more, n, rfl, e1, e2⟩
    · exact h1
    · exact h2 c' more n e1 e2
  have rc : codeAny (model X.prog X.w) X.A (.call (.ref g) ⟨[.ref f], []⟩) (CR CX0 X.stack X.prog X.w H1 s' Q E0) s' := by
    refine LamX.run_ofS (N := Ng) (ps := [a]) (us := [.ref f]) (vs := [.ref f]) lk hcg Sg hr I1.env0 (hbd s' [.ref f] I1.kIn rfl) (.cons rfl .nil) rfl fun hr' => ?_
    exact hG cdv f c' s' H1 Q (fun E H' Q' => t E σ H' Q') (hr'.mono (Nat.le_succ _)) (fun W pn xe p1 p2 tk => pe_actG (i := 0) I1 L hf hfn hfr (hbind _ _ _ _ _) tk hr' hgu (fun A outer s H E hr2 hg2 => hbody A outer s H E f c' hr2 hg2) hNg hva hd hcd) hco hTT
  refine wpAny_call (codeAny_mono rc fun r s2 hq => ?_)
  cases r with
  | error e => exact (show False from hq).elim
  | ok fl =>
    cases fl with
    | ret u => exact I1.after hq
    | next => exact False.elim hq
    | brk => exact False.elim hq
    | cont => exact False.elim hq
end
/-! in what is known of the heap -/
section
variable {B H : Hp} {M L : List (Addr × HO)} {Q : VK} {P : Addr} {q : Str} {ps : Array Value} {TT : (XK → Hp → VK → Prop) → Hp → VK → Prop} {t : XK → TE} {σ : L2.St}
theorem TabI.same {B' : Hp} (h : TabI B q ps) (s : Same B B') : TabI B' q ps := ⟨h.1, fun pos cv e => by
  obtain ⟨c, e1, e2⟩ := h.2 pos cv e
  exact ⟨c, e1, s _ _ e2⟩⟩
theorem TabI.nil : TabI B q #[] := ⟨True.intro, fun pos cv hc => by
  have z : codeAmong pos [] = some cv := hc
  simp [codeAmong] at z⟩
theorem g_lamG (I : Is B M ((P, .tbl ps) :: L) H) (hT : TabI B q ps)
    (k : ∀ B' ps' H', Same B B' → Is B' M ((P, .tbl ps') :: L) H' → TabI B' q ps' → TT (fun E H' Q' => t E σ H' Q') H' Q) : tLamG P q TT t σ H Q := by
  have hP := I.get (List.Mem.head _)
  refine ⟨ps, hP, hT.same I.ex, k B ps H (fun _ _ e => e) I hT, fun c' more n e1 e2 => ?_⟩
  have I2 := I.put (Put.here (o := .tbl (ps ++ more)))
  have nP : c' ≠ P := fun z => by
    rw [z, hP] at n
    cases n
  have I3 := I2.new (p := c') (o := LamX.CodeO c' q) (by rw [upd_ne nP]; exact n)
  refine I3.give .here fun B' s b I4 => ?_
  refine k B' (ps ++ more) _ s I4 ⟨e1, fun pos cv hcv => ?_⟩
  rcases e2 pos cv hcv with h | h
  · obtain ⟨c, h1, h2⟩ := hT.2 pos cv h
    exact ⟨c, h1, s _ _ h2⟩
  · exact ⟨c', h, b⟩
end
end Bz
namespace Bz
open PySem PySem.Spec PyProof.Rows L2
/-- the script as the law sees it: told by itself, unless it is one of the module's own objects -/
def scr (K : PySem.W.Frag) (a : Addr) (o : Obj) (xs : List V) : Hp := fun b => if b = a ∧ K.lookup a = none then some (.frz o (.lst xs)) else none
section
variable {K : PySem.W.Frag} {a b : Addr} {o : Obj} {xs : List V} {u : HO}
theorem scr_at (h : scr K a o xs b = some u) : b = a ∧ K.lookup a = none ∧ u = .frz o (.lst xs) := by
  unfold scr at h
  split at h
  · rename_i c
    exact ⟨c.1, c.2, (Option.some.inj h).symm⟩
  · cases h
theorem scr_else (h : ∀ u, ¬ scr K a o xs b = some u) : scr K a o xs b = none := by
  cases e : scr K a o xs b with
  | none => rfl
  | some u => exact absurd e (h u)
end
/-- a law's promise, kept where no repr is under way, is kept at the head -/
theorem walk_ofG {l : PySem.W.OpenLaw} {n k : Nat} {q : Program} {loose : List Str} {XP : (Str → Option Value) → Heap → Prop} {YP : World → Heap → Prop} {d : DefRec} {CX : CXT} {x : Str}
    (hn : l.most = some n) (hn2 : n ≤ sizeLine) (hdf : d.params.defaults = []) (hr : Room k callerA)
    (F : ∀ (w : World) (mg : Str → Option Value) (fa : Addr) (h : Heap), YP w h → h.Ns mainGlobals mg → mg d.name = some (.ref fa) →
      ∃ (K : PySem.W.Frag) (fd : FuncData) (sp : Sp), K.In h ∧ (∀ (s : Shared) (u : Value), BindsTo s fd ⟨[u], []⟩ [(x, u)]) ∧
        (∀ (H : Hp) (a : Addr) (ns : List Int), ns.length ≤ n → SqL K H a (ns.map V.int) → sp [.ref a] H (fun v _ => v = .bl true) fun _ _ _ => False) ∧
        ∀ base : Heap, K.In base → base.Ns mainGlobals mg → FnG l.prog w K mg base CX k fa fd [x] sp)
    (hCX : ∀ (H : Hp) (s : Shared) (e : Value) (s' : Shared), CX [] H s (fun _ _ _ => False) e s' → False) :
    PySem.W.WalkO q loose XP YP l.row.toRowW d [] (fun f vs => PySem.call f vs) := by
  refine Att.attach_call hn hdf fun w s₀ s₁ mg mb fa o pm cd doc a vs ns G Y ho hd hcd hmg hobj hints hlen hg => ?_
  obtain ⟨K, fd, sp, KX, hb, hsp, hF⟩ := F w mg fa _ Y G.T.g hmg
  have hv := vals_ints hints
  have hlv := hints.length
  have hsz : ns.length ≤ sizeLine := Nat.le_trans hlen hn2
  generalize hH : scr K a { cls := .type "list", data := .seq vs.toArray } (ns.map V.int) = H
  have told : ∀ {b : Addr} {u : HO}, H b = some u → b = a ∧ K.lookup a = none ∧ u = .frz { cls := .type "list", data := .seq vs.toArray } (.lst (ns.map V.int)) := fun {b u} e => by
    rw [← hH] at e
    exact scr_at e
  have free : ∀ {b : Addr}, (∀ u, ¬ H b = some u) → H b = none := fun {b} e => by
    rw [← hH] at e ⊢
    exact scr_else e
  have seen : ∀ {b : Addr} {ob : Obj}, s₁.heap.get? b = some ob → (∀ u, ¬ H b = some u) → (hidT s₁.heap H).get? b = some ob := fun e z => hidT_get e (free z)
  have names : ∀ {b : Addr} {m : Str → Option Value}, s₁.heap.Ns b m → (hidT s₁.heap H).Ns b m := by
    rintro b m ⟨ob, es, ep, e, hdd, r⟩
    refine ⟨ob, es, ep, seen e fun u z => ?_, hdd, r⟩
    rw [(told z).1, hobj] at e
    cases e
    cases hdd
  have own : K.In (hidT s₁.heap H) := fun b ob e => seen (KX b ob e) fun u z => by
    obtain ⟨h1, h2, _⟩ := told z
    rw [h1, h2] at e
    cases e
  have seq : SqL K H a (ns.map V.int) := by
    cases hk : K.lookup a with
    | none => exact .inl (.inr ⟨{ cls := .type "list", data := .seq vs.toArray }, by rw [← hH]; exact if_pos ⟨rfl, hk⟩⟩)
    | some ob =>
      have e := KX a ob hk
      rw [hobj] at e
      cases e
      exact .inr ⟨_, vs.toArray, _, hk, rfl, rfl, rfl, by rw [List.size_toArray, hlv]; exact hsz, by simpa using hv⟩
  have good : HOk l.prog w H s₁.heap := fun b u e => by
    obtain ⟨h1, _, h3⟩ := told e
    subst h1 h3
    exact ⟨hobj, by rw [List.length_map]; exact hsz, vs, _, hv, hobj⟩
  obtain ⟨mc, l1, l2⟩ := G.T.nolimit
  have env : Env0 l.prog w K mg (hidT s₁.heap H) callerA [] s₁ H :=
    ⟨rfl, ⟨own, names G.T.g, ⟨mb, names G.T.b, G.T.builtins⟩, ⟨mc, names l1, l2⟩⟩, fun b ob e => of_hidT e, Nat.le_of_eq (hidT_size _ _), trivial, fun b z => List.not_mem_nil (show b ∈ ([] : List Addr) from z) |>.elim, good, .of_eq hg⟩
  refine codeAny_mono ((hF _ own (names G.T.g)).go callerA [] s₁ H ⟨[.ref a], []⟩ [.ref a] [.ref a] _ _ hr rfl env (hb s₁ (.ref a)) (.cons rfl .nil) (hsp H a ns hlen seq)) ?_
  rintro (e | fl) s' z
  · exact (hCX H s₁ e s' z).elim
  · cases fl with
    | ret v =>
      obtain ⟨y, H', hos, hbare, keep, ok', rv, hy⟩ := z
      have hy : y = .bl true := hy
      rw [hy] at rv
      have ev : v = Value.bool true := rv
      rw [ev]
      refine ⟨rfl, OldK.of_keep fun b ob e => ?_, hos, hbare⟩
      cases hq : H b with
      | none => exact keep.keep b ob e hq (fun z => (List.not_mem_nil (show b ∈ ([] : List Addr) from z)).elim) (by simp)
      | some u =>
        obtain ⟨_, _, h3⟩ := told hq
        rw [h3] at hq
        have e1 := (good b _ hq).1
        rw [e1] at e
        cases e
        exact (ok' b _ (keep.frzs b _ _ hq)).1
    | _ => exact False.elim z
end Bz
namespace Bz
open PySem PySem.Spec PyProof.Rows L2
/-! ### the head: names, defs, tables, and what else may be asked of the top's objects -/
/-- the addresses that hang on the top's names, by levels; those seen are kept as a number's bits -/
def forceN {α : Type} (n : Nat) (k : Nat → α) : α := match n with
  | 0 => k 0
  | m + 1 => k (m + 1)
def addE {α : Type} : List Addr → Nat → List Addr → (Nat → List Addr → α) → α
  | [], seen, new, k => k seen new
  | a :: r, seen, new, k => forceN a fun a => match Nat.beq (Nat.land (Nat.shiftRight seen a) 1) 1 with
    | true => addE r seen new k
    | false => forceN (Nat.lor seen (Nat.shiftLeft 1 a)) fun seen => addE r seen (a :: new) k
def levE {α : Type} (g : Addr → Option Obj) : List Addr → Nat → List Addr → (Nat → List Addr → α) → α
  | [], seen, new, k => k seen new
  | a :: r, seen, new, k => match g a with
    | some o => addE (He.refsD o) seen new fun seen new => levE g r seen new k
    | none => levE g r seen new k
def growE (g : Addr → Option Obj) : Nat → List Addr → Nat → List Addr → List Addr
  | 0, _, _, all => all
  | n + 1, front, seen, all => levE g front seen [] fun seen new => growE g n new seen (all ++ new)
def asE (g : Addr → Option Obj) (n : Nat) : List Addr := growE g n [mainGlobals] (Nat.shiftLeft 1 mainGlobals) [mainGlobals]
abbrev Ask : Type := PySem.W.Frag → Bool
abbrev AlB : Type := Bool × He.AlT
def obsB (fa : List He.Fa) (fn : List He.DefD) (ts : List He.Tab) (bs : List Ask) (K : PySem.W.Frag) : AlB := (bs.all fun b => b K, He.obsT fa fn ts K)
def valB (fn : List He.DefD) (ts : List He.Tab) (w : World) : AlB := (true, He.valT fn ts w)
def obsBG (n : Nat) (fa : List He.Fa) (fn : List He.DefD) (ts : List He.Tab) (bs : List Ask) (g : Addr → Option Obj) : AlB := obsB fa fn ts bs (He.frG g (asE g n))
def SaysB (fa : List He.Fa) (fn : List He.DefD) (ts : List He.Tab) (bs : List Ask) (w : World) (K : PySem.W.Frag) : Prop := obsB fa fn ts bs K = valB fn ts w
def hookB (n : Nat) (fa : List He.Fa) (fn : List He.DefD) (ts : List He.Tab) (bs : List Ask) : PySem.W.Hook where
  α := AlB
  obs := fun s => obsBG n fa fn ts bs s.heap.get?
  val := fun w => valB fn ts w
  says := fun w h => ∃ K : PySem.W.Frag, K.In h ∧ SaysB fa fn ts bs w K
  of := fun _ _ e => ⟨_, He.frG_in, e⟩
  keeps := fun _ _ _ ⟨K, hK, c⟩ k => ⟨K, PySem.W.Frag.In.keeps hK k, c⟩
theorem obsBG_eq {n : Nat} {fa : List He.Fa} {fn : List He.DefD} {ts : List He.Tab} {bs : List Ask} {g : Addr → Option Obj} {s : Shared} (h : ∀ a, g a = s.heap.get? a) : obsBG n fa fn ts bs g = (hookB n fa fn ts bs).obs s := by
  have e : g = s.heap.get? := funext h
  rw [e] <;> rfl
section
variable {fa : List He.Fa} {fn : List He.DefD} {ts : List He.Tab} {bs : List Ask} {w : World} {K : PySem.W.Frag}
theorem SaysB.t (c : SaysB fa fn ts bs w K) : He.SaysT fa fn ts w K := congrArg (fun z : AlB => z.2) c
theorem SaysB.d (c : SaysB fa fn ts bs w K) : He.SaysD fa fn K := c.t.d
theorem SaysB.ask (c : SaysB fa fn ts bs w K) (i : Nat) {b : Ask} (h : bs[i]? = some b := by rfl) : b K = true := by
  have c1 : (bs.all fun b => b K) = true := congrArg (fun z : AlB => z.1) c
  exact List.all_eq_true.mp c1 b (List.mem_of_getElem? h)
end
end Bz
namespace Bz
open PySem PySem.Spec PyProof.Rows L2
/-! ### what the head tells of an own error class over ValueError, with its own __init__ of one field -/
def oexB (K : PySem.W.Frag) (C : Addr) : Bool := match K.lookup C with
  | some ⟨.type c, _, .cls cd, sl⟩ => decide (c = "type") && (match cd.mro, sl.toList with
    | .ref C' :: bm, [_, _, _, _, some (.builtin n), _] => decide (C' = C) && (decide (n = "ValueError.__new__") && (cd.hasDict && (!cd.hasDel && HandSPX.refsVE bm)))
    | _, _ => false)
  | _ => false
theorem oexB_ok {K : PySem.W.Frag} {C : Addr} (h : oexB K C = true) : ∃ nm q N bs bm sn sub ab col dd k0 k1 k2 k3 k5, K.lookup C = some (excClassObj nm q C N bs bm true sn sub ab col dd k0 k1 k2 k3 k5 "ValueError.__new__") ∧ HandSPX.refsVE bm = true := by
  unfold oexB at h
  split at h
  · rename_i c dd cd sl ho
    simp only [Bool.and_eq_true] at h
    obtain ⟨hc, h⟩ := h
    have hc := of_decide_eq_true hc
    split at h
    · rename_i C' bm k0 k1 k2 k3 n k5 hm hs
      simp only [Bool.and_eq_true, Bool.not_eq_true'] at h
      obtain ⟨e1, e2, e3, e4, e5⟩ := h
      have e1 := of_decide_eq_true e1
      have e2 := of_decide_eq_true e2
      obtain ⟨nm, bs, mro, ns, qn, hd, sn, sb, ab, col, dl⟩ := cd
      dsimp only at hm e3 e4
      subst hm e3 e4 e1 e2 hc
      have es : sl = #[k0, k1, k2, k3, some (.builtin "ValueError.__new__"), k5] := by
        apply Array.toList_inj.mp
        rw [hs]
      subst es
      exact ⟨_, _, _, _, _, _, _, _, _, _, _, _, _, _, _, ho, e5⟩
    · cases h
  · cases h
def xoneB (K : PySem.W.Frag) (C : Addr) (f : Str) : Bool :=
  oexB K C && (He.eqO (PySem.W.findIn K (.ref C) "__setattr__") (some (some (.builtin "object.__setattr__"))) && (decide (PySem.W.subIn K (.ref C) (.type "BaseException") = some true) && (decide (PySem.W.typeIn K (.ref C) = some (.type "type")) && (PySem.W.keepIn K (.ref C) &&
  (He.eqO (PySem.W.findIn K (.ref C) "__init__") (some (some (.ref (He.ma K C "__init__")))) && (decide (PySem.W.typeIn K (.ref (He.ma K C "__init__")) = some (.type "function")) && He.eqO (PySem.W.findIn K (.ref C) f) (some none)))))))
structure XoneF (K : PySem.W.Frag) (C : Addr) (f : Str) : Prop where
  T : OexC K C
  i : PySem.W.findIn K (.ref C) "__init__" = some (some (.ref (He.ma K C "__init__")))
  t : PySem.W.typeIn K (.ref (He.ma K C "__init__")) = some (.type "function")
  n : PySem.W.findIn K (.ref C) f = some none
theorem xoneB_ok {K : PySem.W.Frag} {C : Addr} {f : Str} (h : xoneB K C f = true) : XoneF K C f := by
  unfold xoneB at h
  simp only [Bool.and_eq_true] at h
  obtain ⟨a1, a2, a3, a4, a5, a6, a7, a8⟩ := h
  exact ⟨⟨oexB_ok a1, He.eqO_ok a2, of_decide_eq_true a3, of_decide_eq_true a4, a5⟩, He.eqO_ok a6, of_decide_eq_true a7, He.eqO_ok a8⟩
/-! ### the code objects' tables at the head -/
def hidB (g : Addr → Option Obj) (as : List Addr) : PySem.W.Frag := He.frT g as
def obsBT (fa : List He.Fa) (fn : List He.DefD) (ts : List He.Tab) (bs : List Ask) (tf : List He.Defn) (g : Addr → Option Obj) (K : PySem.W.Frag) : AlB × Bool := (obsB fa fn ts bs K, He.tabsB g tf K)
def hookBT (n : Nat) (fa : List He.Fa) (fn : List He.DefD) (ts : List He.Tab) (bs : List Ask) (tf : List He.Defn) : PySem.W.Hook where
  α := AlB × Bool
  obs := fun s => obsBT fa fn ts bs tf s.heap.get? (He.frT s.heap.get? (asE s.heap.get? n))
  val := fun w => (valB fn ts w, true)
  says := fun w h => ∃ K : PySem.W.Frag, K.In h ∧ SaysB fa fn ts bs w K ∧ (∀ p ∈ tf, PySem.W.codeHdIn K (He.cT K p).1 (He.cT K p).2 = true) ∧ (∀ p ∈ tf, K.lookup (He.cT K p).2 = none) ∧ ∀ p ∈ tf, h.get? (He.cT K p).2 = some { cls := .none, data := .fields #[] }
  of := fun w s e => by
    have e1 : obsB fa fn ts bs (He.frT s.heap.get? (asE s.heap.get? n)) = valB fn ts w := congrArg (fun z : AlB × Bool => z.1) e
    have e2 : He.tabsB s.heap.get? tf (He.frT s.heap.get? (asE s.heap.get? n)) = true := congrArg (fun z : AlB × Bool => z.2) e
    have key : ∀ p ∈ tf, PySem.W.codeHdIn (He.frT s.heap.get? (asE s.heap.get? n)) (He.cT (He.frT s.heap.get? (asE s.heap.get? n)) p).1 (He.cT (He.frT s.heap.get? (asE s.heap.get? n)) p).2 = true ∧ ∃ o, s.heap.get? (He.cT (He.frT s.heap.get? (asE s.heap.get? n)) p).2 = some o ∧ He.emptyTab o = true := fun p hp => by
      have h := List.all_eq_true.mp e2 p hp
      simp only [Bool.and_eq_true] at h
      obtain ⟨h3, h4⟩ := h
      refine ⟨h3, ?_⟩
      cases q : s.heap.get? (He.cT (He.frT s.heap.get? (asE s.heap.get? n)) p).2 with
      | none =>
        rw [q] at h4
        cases h4
      | some o =>
        rw [q] at h4
        exact ⟨o, rfl, h4⟩
    exact ⟨_, He.frT_in, e1, fun p hp => (key p hp).1, fun p hp => by
      obtain ⟨_, o, q, z⟩ := key p hp
      exact He.frT_none q z, fun p hp => by
      obtain ⟨_, o, q, z⟩ := key p hp
      rw [q, He.emptyTab_eq z]⟩
  keeps := fun _ _ _ ⟨K, hK, c, h1, h2, h3⟩ k => ⟨K, PySem.W.Frag.In.keeps hK k, c, h1, h2, fun p hp => k _ _ (h3 p hp)⟩
theorem obsBT_eq {n : Nat} {fa : List He.Fa} {fn : List He.DefD} {ts : List He.Tab} {bs : List Ask} {tf : List He.Defn} {g : Addr → Option Obj} {s : Shared} (h : ∀ a, g a = s.heap.get? a) : obsBT fa fn ts bs tf g (He.frT g (asE g n)) = (hookBT n fa fn ts bs tf).obs s := by
  have e : g = s.heap.get? := funext h
  rw [e] <;> rfl
end Bz
namespace Bz
open PySem PySem.Spec PyProof.Rows L2
/-! ### a law's end where lambdas are made: the script, and the tables of code objects -/
def scrT (K : PySem.W.Frag) (a : Addr) (o : Obj) (xs : List V) (Ts : List Addr) : Hp := fun b => if b = a ∧ K.lookup a = none then some (.frz o (.lst xs)) else if b ∈ Ts then some (.tbl #[]) else none
section
variable {K : PySem.W.Frag} {a b : Addr} {o : Obj} {xs : List V} {u : HO} {Ts : List Addr}
theorem scrT_at (h : scrT K a o xs Ts b = some u) : (b = a ∧ K.lookup a = none ∧ u = .frz o (.lst xs)) ∨ (b ∈ Ts ∧ u = .tbl #[]) := by
  unfold scrT at h
  split at h
  · rename_i c
    exact .inl ⟨c.1, c.2, (Option.some.inj h).symm⟩
  · split at h
    · rename_i c
      exact .inr ⟨c, (Option.some.inj h).symm⟩
    · cases h
theorem scrT_else (h : ∀ u, ¬ scrT K a o xs Ts b = some u) : scrT K a o xs Ts b = none := by
  cases e : scrT K a o xs Ts b with
  | none => rfl
  | some u => exact absurd e (h u)
theorem scrT_tab (h : b ∈ Ts) (n : a ∉ Ts) : scrT K a o xs Ts b = some (.tbl #[]) := by
  unfold scrT
  rw [if_neg (fun z => n (by rw [← z.1]; exact h)), if_pos h]
end
theorem walk_ofGT {l : PySem.W.OpenLaw} {n k : Nat} {q : Program} {loose : List Str} {XP : (Str → Option Value) → Heap → Prop} {YP : World → Heap → Prop} {d : DefRec} {CX : CXT} {x : Str}
    (hn : l.most = some n) (hn2 : n ≤ sizeLine) (hdf : d.params.defaults = []) (hr : Room k callerA)
    (F : ∀ (w : World) (mg : Str → Option Value) (fa : Addr) (h : Heap), YP w h → h.Ns mainGlobals mg → mg d.name = some (.ref fa) →
      ∃ (K : PySem.W.Frag) (fd : FuncData) (sp : Sp) (cs : List (Addr × Addr)), K.In h ∧ (∀ p ∈ cs, h.get? p.2 = some { cls := .none, data := .fields #[] }) ∧ (∀ p ∈ cs, K.lookup p.2 = none) ∧ (∀ p ∈ cs, PySem.W.CodeHd h p.1 p.2) ∧ (∀ (s : Shared) (u : Value), BindsTo s fd ⟨[u], []⟩ [(x, u)]) ∧
        (∀ (H : Hp) (a : Addr) (ns : List Int), ns.length ≤ n → (∀ p ∈ cs, H p.2 = some (.tbl #[])) → a ∉ cs.map (·.2) → SqL K H a (ns.map V.int) → sp [.ref a] H (fun v _ => v = .bl true) fun _ _ _ => False) ∧
        ∀ base : Heap, K.In base → base.Ns mainGlobals mg → (∀ p ∈ cs, LamX.TabB base mg p.1 p.2) → FnG l.prog w K mg base CX k fa fd [x] sp)
    (hCX : ∀ (H : Hp) (s : Shared) (e : Value) (s' : Shared), CX [] H s (fun _ _ _ => False) e s' → False) :
    PySem.W.WalkO q loose XP YP l.row.toRowW d [] (fun f vs => PySem.call f vs) := by
  refine Att.attach_call hn hdf fun w s₀ s₁ mg mb fa o pm cd doc a vs ns G Y ho hd hcd hmg hobj hints hlen hg => ?_
  obtain ⟨K, fd, sp, cs, KX, hT, nT, C, hb, hsp, hF⟩ := F w mg fa _ Y G.T.g hmg
  have hv := vals_ints hints
  have hlv := hints.length
  have hsz : ns.length ≤ sizeLine := Nat.le_trans hlen hn2
  have isT : ∀ b : Addr, b ∈ cs.map (·.2) → s₁.heap.get? b = some { cls := .none, data := .fields #[] } := fun b hb => by
    obtain ⟨p, hp, e⟩ := List.mem_map.mp hb
    rw [← e]
    exact hT p hp
  have aT : a ∉ cs.map (·.2) := fun z => by
    have q := isT a z
    rw [hobj] at q
    have z' : Data.seq vs.toArray _ = Data.fields #[] := congrArg Obj.data (Option.some.inj q)
    cases z'
  generalize hH : scrT K a { cls := .type "list", data := .seq vs.toArray } (ns.map V.int) (cs.map (·.2)) = H
  have told : ∀ {b : Addr} {u : HO}, H b = some u → (b = a ∧ K.lookup a = none ∧ u = .frz { cls := .type "list", data := .seq vs.toArray } (.lst (ns.map V.int))) ∨ (b ∈ cs.map (·.2) ∧ u = .tbl #[]) := fun {b u} e => by
    rw [← hH] at e
    exact scrT_at e
  have free : ∀ {b : Addr}, (∀ u, ¬ H b = some u) → H b = none := fun {b} e => by
    rw [← hH] at e ⊢
    exact scrT_else e
  have tabs : ∀ p ∈ cs, H p.2 = some (.tbl #[]) := fun p hp => by
    rw [← hH]
    exact scrT_tab (List.mem_map.mpr ⟨p, hp, rfl⟩) aT
  have seen : ∀ {b : Addr} {ob : Obj}, s₁.heap.get? b = some ob → (∀ u, ¬ H b = some u) → (hidT s₁.heap H).get? b = some ob := fun e z => hidT_get e (free z)
  have noD : ∀ {b : Addr} {ob : Obj}, s₁.heap.get? b = some ob → (∀ vs n, ob.data ≠ .seq vs n) → ob.data ≠ .fields #[] → ∀ u, ¬ H b = some u := fun {b ob} e h1 h2 u z => by
    rcases told z with ⟨e1, _, _⟩ | ⟨e1, _⟩
    · rw [e1, hobj] at e
      cases e
      exact h1 _ _ rfl
    · rw [isT b e1] at e
      cases e
      exact h2 rfl
  have names : ∀ {b : Addr} {m : Str → Option Value}, s₁.heap.Ns b m → (hidT s₁.heap H).Ns b m := by
    rintro b m ⟨ob, es, ep, e, hdd, r⟩
    refine ⟨ob, es, ep, seen e (noD e (fun vs n z => ?_) fun z => ?_), hdd, r⟩ <;> rw [hdd] at z <;> cases z
  have own : K.In (hidT s₁.heap H) := fun b ob e => seen (KX b ob e) fun u z => by
    rcases told z with ⟨h1, h2, _⟩ | ⟨h1, _⟩
    · rw [h1, h2] at e
      cases e
    · obtain ⟨p, hp, ep⟩ := List.mem_map.mp h1
      rw [← ep, nT p hp] at e
      cases e
  have seq : SqL K H a (ns.map V.int) := by
    cases hk : K.lookup a with
    | none => exact .inl (.inr ⟨{ cls := .type "list", data := .seq vs.toArray }, by rw [← hH]; exact if_pos ⟨rfl, hk⟩⟩)
    | some ob =>
      have e := KX a ob hk
      rw [hobj] at e
      cases e
      exact .inr ⟨_, vs.toArray, _, hk, rfl, rfl, rfl, by rw [List.size_toArray, hlv]; exact hsz, by simpa using hv⟩
  have good : HOk l.prog w H s₁.heap := fun b u e => by
    rcases told e with ⟨h1, _, h3⟩ | ⟨h1, h3⟩
    · subst h1 h3
      exact ⟨hobj, by rw [List.length_map]; exact hsz, vs, _, hv, hobj⟩
    · subst h3
      exact isT b h1
  have TB : ∀ p ∈ cs, LamX.TabB (hidT s₁.heap H) mg p.1 p.2 := fun p hp => by
    have hTp := hT p hp
    refine ⟨?_, ?_, fun z => ?_⟩
    · obtain ⟨o, us, file, tf, flags, tg, inF, text, tt, e1, r1, r2, r3, r4, r5, r6, r7, r8, hne⟩ := C p hp
      refine ⟨o, us, file, tf, flags, tg, inF, text, tt, seen e1 (noD e1 (fun vs n z => ?_) fun z => ?_), r1, r2, r3, r4, r5, r6, r7, r8, hne⟩
      · rw [r2] at z
        cases z
      · rw [r2] at z
        cases z
        simp at r3
    · obtain ⟨bm, ob, b1, b2, b3, b4, b5, b6⟩ := G.T.bmain
      have nG : bm ≠ mainGlobals := fun q => by
        obtain ⟨o, es, ep, e, hd, _⟩ := G.T.g
        rw [q, e] at b3
        cases b3
        rw [hd] at b6
        cases b6
      have nP : bm ≠ p.2 := fun q => by
        rw [q, hTp] at b3
        cases b3
        cases b6
      refine ⟨bm, ob, b1, b2, nG, nP, seen b3 (noD b3 (fun vs n z => ?_) fun z => ?_), b4, b5, b6⟩
      · rw [b6] at z
        cases z
      · rw [b6] at z
        cases z
    · obtain ⟨o, es, ep, e, hd, _⟩ := G.T.g
      rw [z, hTp] at e
      cases e
      cases hd
  obtain ⟨mc, l1, l2⟩ := G.T.nolimit
  have env : Env0 l.prog w K mg (hidT s₁.heap H) callerA [] s₁ H :=
    ⟨rfl, ⟨own, names G.T.g, ⟨mb, names G.T.b, G.T.builtins⟩, ⟨mc, names l1, l2⟩⟩, fun b ob e => of_hidT e, Nat.le_of_eq (hidT_size _ _), trivial, fun b z => List.not_mem_nil (show b ∈ ([] : List Addr) from z) |>.elim, good, .of_eq hg⟩
  refine codeAny_mono ((hF _ own (names G.T.g) TB).go callerA [] s₁ H ⟨[.ref a], []⟩ [.ref a] [.ref a] _ _ hr rfl env (hb s₁ (.ref a)) (.cons rfl .nil) (hsp H a ns hlen tabs aT seq)) ?_
  rintro (e | fl) s' z
  · exact (hCX H s₁ e s' z).elim
  · cases fl with
    | ret v =>
      obtain ⟨y, H', hos, hbare, keep, ok', rv, hy⟩ := z
      have hy : y = .bl true := hy
      rw [hy] at rv
      have ev : v = Value.bool true := rv
      rw [ev]
      have key : ∀ b o, b ∉ cs.map (·.2) → s₁.heap.get? b = some o → s'.heap.get? b = some o := fun b ob nb e => by
        cases hq : H b with
        | none => exact keep.keep b ob e hq (fun z => (List.not_mem_nil (show b ∈ ([] : List Addr) from z)).elim) (by simp)
        | some u =>
          rcases told hq with ⟨_, _, h3⟩ | ⟨h1, _⟩
          · rw [h3] at hq
            have e1 := (good b _ hq).1
            rw [e1] at e
            cases e
            exact (ok' b _ (keep.frzs b _ _ hq)).1
          · exact absurd h1 nb
      have grown : ∀ p ∈ cs, ∃ more : Array Value, s'.heap.get? p.2 = some { cls := .none, data := .fields more } := fun p hp => by
        obtain ⟨more, z⟩ := keep.tbls p.2 #[] (tabs p hp)
        exact ⟨_, ok' p.2 _ z⟩
      refine ⟨rfl, ⟨fun b o e => ?_, fun b o e => ?_⟩, hos, hbare⟩
      · by_cases hb : b ∈ cs.map (·.2)
        · obtain ⟨p, hp, ep⟩ := List.mem_map.mp hb
          obtain ⟨more, hm⟩ := grown p hp
          rw [← ep] at e ⊢
          rw [hT p hp] at e
          cases e
          exact .inr (.inl ⟨((C p hp).tab (hT p hp)).isCodeTable, rfl, #[], more, rfl, by rw [Array.empty_append]; exact hm⟩)
        · exact .inl (key b o hb e)
      · by_cases hb : b ∈ cs.map (·.2)
        · obtain ⟨p, hp, ep⟩ := List.mem_map.mp hb
          obtain ⟨more, hm⟩ := grown p hp
          rw [← ep]
          exact ⟨_, hm⟩
        · exact ⟨o, key b o hb e⟩
    | _ => exact False.elim z
/-- a def by its body, its code object known -/
theorem fnG_ofC {P : Program} {w : World} {K : PySem.W.Frag} {mg : Str → Option Value} {base : Heap} {CX : CXT} {k : Nat} {p : He.Defn} {fd : FuncData} {N ps : List Str} {sp : Sp} {x qual : Str} {params : Arguments} {body : List Stmt} {scope : Scope} {dvs : List V} {kws : List (Str × V)}
    (F : FunD K x qual params body scope dvs kws (He.fAd K p) fd) (S : FnScope N ps scope) (len : ∀ vs H Q E, sp vs H Q E → vs.length = ps.length)
    (hb : ∀ (A : Around) (outer : List Env) (s : Shared) (H : Hp) (vs : List V) (Q : VK) (E : XK),
      Room k (A.deeper (envOfC qual scope s.heap.objs.size (He.fAd K p) (.ref (He.cT K p).1))) → (A.deeper (envOfC qual scope s.heap.objs.size (He.fAd K p) (.ref (He.cT K p).1))).guards = some [] → sp vs H Q E →
      ∃ t, PSs (cxOf CX P w K mg base N qual scope (He.fAd K p) (.ref (He.cT K p).1) A outer s H E) body t ∧ t { nx := fun _ H' => Q .non H', rt := Q } (start N vs) H) :
    FnG P w K mg base CX (k + 1) (He.fAd K p) fd ps sp := by
  obtain ⟨oc, od, dV, kV, doc, pm, an, cdv, ct, osl, rfl, lk, hcd, _, _⟩ := F.ex
  obtain ⟨c, rfl⟩ := He.codeIn_ref hcd
  have ec : (He.cT K p).1 = c := He.codeOf_eq lk rfl
  subst ec
  refine ⟨len, fun A outer s H args us vs Q E hr hg e0 bnd rv hq => ?_⟩
  have KX : K.In s.heap := e0.mod.kin.keeps fun b o e => (e0.bs b o e).1
  refine codeAny_call_function hr.depth (KX _ _ lk) rfl S.co S.gen rfl (PySem.W.codeRec_of KX hcd) (bnd _ _ _ _ ?_)
  refine wpAny_newFunctionEnv_cells S.kind ?_ ?_
  · rintro ⟨n, v⟩ hy
    rcases S.par n (List.of_mem_zip hy).1 with q | q
    · exact Or.inl q
    · exact Or.inr ⟨q, PySem.W.cellsFrom_some _ _ _ (Or.inl q)⟩
  · intro env he s1 x
    subst he
    have lim : s.heap.NoLimit := e0.mod.nolimit.keeps fun b o e => (e0.bs b o e).1
    refine ⟨lim.keeps x.toInCall.keep, codeAny_func ?_⟩
    obtain ⟨t, ht, q⟩ := hb A outer s H vs Q E (hr.deeper _) (guards_deeper hg) hq
    have I := inv_start (CX := CX) (E := E) S hr.hd e0 (len _ _ _ _ hq) rv x
    refine wpAny_mono (ht.run [] s1 (start N vs) H _ I q) ?_ (fun _ _ z => z)
    intro fl s' z
    cases fl with
    | ret u =>
      obtain ⟨v, σ', H', J, r, q'⟩ := z
      exact ⟨v, H', J.os, J.bare, J.base, J.hok, r, q'⟩
    | next =>
      obtain ⟨σ', H', J, q'⟩ := z
      exact ⟨V.non, H', J.os, J.bare, J.base, J.hok, rfl, q'⟩
    | brk => exact z.elim fun _ z => z.elim fun _ z => z.2.elim
    | cont => exact z.elim fun _ z => z.elim fun _ z => z.2.elim
end Bz
namespace Bz
open PySem PySem.Spec PyProof.Rows L2
/-! ### own error classes over any built-in one -/
def dropRefs : List Value → List Value
  | .ref _ :: r => dropRefs r
  | l => l
theorem drop_contains (Y : String) : ∀ l : List Value, l.contains (Value.type Y) = (dropRefs l).contains (Value.type Y)
  | [] => rfl
  | a :: r => by
    cases a with
    | ref c =>
      rw [List.contains_cons, drop_contains Y r]
      rfl
    | _ => rfl
theorem drop_refuse (v : Value) : ∀ l : List Value, refuseLoop v "__setattr__" l = refuseLoop v "__setattr__" (dropRefs l)
  | [] => rfl
  | a :: r => by
    cases a with
    | ref c =>
      rw [refuseLoop_ref, drop_refuse v r]
      rfl
    | _ => rfl
/-- what is asked of the built-in class at the end: newId makes its instances, tl are its classes -/
structure XBase (newId : String) (tl : List Value) : Prop where
  F : ∃ (B initId : String) (bmB : List Value), ExcBaseFacts B newId initId bmB ∧ tl.contains (.type B) = true
  nA : tl.contains (.type "AttributeError") = false
  nN : tl.contains (.type "NameError") = false
  ob : tl.contains (.type "object") = true
  ps : ∀ v : Value, refuseLoop v "__setattr__" tl = pure ()
def tlVal : List Value := [.type "ValueError", .type "Exception", .type "BaseException", .type "object"]
def tlKey : List Value := [.type "KeyError", .type "LookupError", .type "Exception", .type "BaseException", .type "object"]
def tlLook : List Value := [.type "LookupError", .type "Exception", .type "BaseException", .type "object"]
def tlOver : List Value := [.type "OverflowError", .type "ArithmeticError", .type "Exception", .type "BaseException", .type "object"]
def tlRun : List Value := [.type "RuntimeError", .type "Exception", .type "BaseException", .type "object"]
def tlExc : List Value := [.type "Exception", .type "BaseException", .type "object"]
theorem xb_val : XBase "ValueError.__new__" tlVal := ⟨⟨_, _, _, F.excBase_ValueError, by decide +kernel⟩, by decide +kernel, by decide +kernel, by decide +kernel, fun v => by kernel_rfl⟩
theorem xb_key : XBase "LookupError.__new__" tlKey := ⟨⟨_, _, _, F.excBase_LookupError, by decide +kernel⟩, by decide +kernel, by decide +kernel, by decide +kernel, fun v => by kernel_rfl⟩
theorem xb_look : XBase "LookupError.__new__" tlLook := ⟨⟨_, _, _, F.excBase_LookupError, by decide +kernel⟩, by decide +kernel, by decide +kernel, by decide +kernel, fun v => by kernel_rfl⟩
theorem xb_over : XBase "OverflowError.__new__" tlOver := ⟨⟨_, _, _, F.excBase_OverflowError, by decide +kernel⟩, by decide +kernel, by decide +kernel, by decide +kernel, fun v => by kernel_rfl⟩
theorem xb_run : XBase "RuntimeError.__new__" tlRun := ⟨⟨_, _, _, F.excBase_RuntimeError, by decide +kernel⟩, by decide +kernel, by decide +kernel, by decide +kernel, fun v => by kernel_rfl⟩
theorem xb_exc : XBase "Exception.__new__" tlExc := ⟨⟨_, _, _, F.excBase_Exception, by decide +kernel⟩, by decide +kernel, by decide +kernel, by decide +kernel, fun v => by kernel_rfl⟩
def xbL : List (String × List Value) := [("ValueError.__new__", tlVal), ("LookupError.__new__", tlKey), ("LookupError.__new__", tlLook), ("OverflowError.__new__", tlOver), ("RuntimeError.__new__", tlRun), ("Exception.__new__", tlExc)]
theorem xb_of {n : String} {tl : List Value} (h : (n, tl) ∈ xbL) : XBase n tl := by
  simp only [xbL, List.mem_cons, List.not_mem_nil, or_false, Prod.mk.injEq] at h
  rcases h with ⟨rfl, rfl⟩ | ⟨rfl, rfl⟩ | ⟨rfl, rfl⟩ | ⟨rfl, rfl⟩ | ⟨rfl, rfl⟩ | ⟨rfl, rfl⟩
  · exact xb_val
  · exact xb_key
  · exact xb_look
  · exact xb_over
  · exact xb_run
  · exact xb_exc
/-! ### such a class called: the object is made, then the own __init__ -/
section
variable {M : Model} {prog : Program} {w : World} {A : Around} {E : Value → Shared → Prop} {R : Result → Shared → Prop} {hp : Heap} {g : Array GenState} {d : Drawn} {t : Nat} {os : OsState}
variable {nm q : Str} {C N : Addr} {bs bm bmB : List Value} {sn : List Str} {sub : List Value} {ab : Bool} {col : Option Bool} {dd : Option Addr} {k0 k1 k2 k3 k5 : Option Value} {B newId initId : String}
theorem xnew_chk (G : ExcBaseFacts B newId initId bmB) (c1 : bm.contains (.type B) = true) {us : List Value} {Q : Unit → Shared → Prop}
    (kC : hp.get? C = some (excClassObj nm q C N bs bm true sn sub ab col dd k0 k1 k2 k3 k5 newId)) (z : Q () ⟨hp, g, d, t, os⟩) : wpAny M A (checkBuiltinCall newId ⟨.ref C :: us, []⟩) Q E ⟨hp, g, d, t, os⟩ := by
  have m1 : (Value.ref C :: bm).contains (.type B) = true := by
    rw [List.contains_cons, c1, Bool.or_true]
  have st := G.noStar
  simp only [checkBuiltinCall, G.newKind, G.newSplit, G.newRow]
  repeat (first
    | refine wpAny_loadPart_at kC ?_
    | (refine wpAny_isSubtype_exc kC ?_; rw [m1])
    | refine wpAny_staticBase_exc kC ?_
    | refine wpAny_madeBy_exc kC ?_
    | simp only [bne_self_eq_false, Bool.false_eq_true, if_false]
    | wp_step)
  exact z
theorem xnew_run (G : ExcBaseFacts B newId initId bmB) (c1 : bm.contains (.type B) = true) (c2 : bm.contains (.type "AttributeError") = false) (c3 : bm.contains (.type "NameError") = false) {us : List Value}
    (kC : hp.get? C = some (excClassObj nm q C N bs bm true sn sub ab col dd k0 k1 k2 k3 k5 newId)) (hz : us.length ≤ sizeLine)
    (z : R (.ok (.ret (.ref (hp.objs.size + 1)))) ⟨(hp.push (PySem.W.kdv_tup us)).push (HandSPX.excO C hp.objs.size), g, d, t, os⟩) :
    codeAny (model prog w) A (.builtin newId ⟨.ref C :: us, []⟩) R ⟨hp, g, d, t, os⟩ := by
  have he := G.ends
  have m1 : (Value.ref C :: bm).contains (.type B) = true := by
    rw [List.contains_cons, c1, Bool.or_true]
  have m2 : (Value.ref C :: bm).contains (.type "AttributeError") = false := by
    rw [List.contains_cons, c2]
    rfl
  have m3 : (Value.ref C :: bm).contains (.type "NameError") = false := by
    rw [List.contains_cons, c3]
    rfl
  apply codeAny_builtinAt G.entry
  unfold Builtin.«BaseException.__new__»
  apply PySem.wpAt_bind
  show PySem.wpAt _ _ _ (stack >>= _) _ _ _
  apply PySem.wpAt_bind
  apply PySem.wpAt_stack
  intro p below
  apply PySem.wpAt_of_wpAny
  wp_walk
  apply PySem.wpAt_of_wpAny
  rw [G.owner]
  repeat (first
    | with_reducible refine wpAny_madeHere_exc G.canon kC ?_
    | with_reducible refine wpAny_loadPart_at kC ?_
    | (with_reducible refine wpAny_isSubtype_exc kC ?_; first | rw [m1] | rw [m2] | rw [m3])
    | wp_step)
  show R _ _
  rw [Heap.size_push]
  exact z
theorem xcls_type (G : ExcBaseFacts B newId initId bmB) (c1 : bm.contains (.type B) = true) (c2 : bm.contains (.type "AttributeError") = false) (c3 : bm.contains (.type "NameError") = false) {us : List Value} {fI : Addr} {Q : Fin → Shared → Prop}
    (kC : hp.get? C = some (excClassObj nm q C N bs bm true sn sub ab col dd k0 k1 k2 k3 k5 newId))
    (hi : PySem.W.Looks (model prog w) hp (typeLookup (.ref C) "__init__") (some (.ref fI))) (hb : ∀ v, PySem.W.Looks (model prog w) hp (bindSpecial (.ref fI) v) (.ref fI, [v])) (hz : us.length ≤ sizeLine)
    (z : codeAny (model prog w) A (.call (.ref fI) ⟨.ref (hp.objs.size + 1) :: us, []⟩)
      (fun r s' => match r with
        | .ok (.ret v) => v = .none ∧ Q (.done (.ret (.ref (hp.objs.size + 1)))) s'
        | .ok _ => False
        | .error e => E e s') ⟨(hp.push (PySem.W.kdv_tup us)).push (HandSPX.excO C hp.objs.size), g, d, t, os⟩) :
    wpAny (model prog w) A (Builtin.«type.__call__» ⟨.ref C :: us, []⟩) Q E ⟨hp, g, d, t, os⟩ := by
  repeat (first
    | with_reducible refine wpAny_loadPart_at kC ?_
    | with_reducible refine wpAny_madeBy_exc kC ?_
    | wp_step)
  apply codeAny_call_builtin_code (Code.quiet_builtin _ G.quiet)
  apply xnew_chk G c1 kC
  apply xnew_run G c1 c2 c3 kC hz
  show wpAny _ _ _ _ _ _
  have k : ∀ b o, hp.get? b = some o → ((hp.push (PySem.W.kdv_tup us)).push (HandSPX.excO C hp.objs.size)).get? b = some o := fun b o e => by
    apply Heap.get?_push_of_some
    apply Heap.get?_push_of_some
    exact e
  have kC' := k _ _ kC
  have ke : ((hp.push (PySem.W.kdv_tup us)).push (HandSPX.excO C hp.objs.size)).get? (hp.objs.size + 1) = some (HandSPX.excO C hp.objs.size) := by
    heap_get
  have mC : (Value.ref C :: bm).contains (.ref C) = true := by
    simp
  have hi' := hi.keeps k
  have hb' := (hb (.ref (hp.objs.size + 1))).keeps k
  unfold isInstance
  repeat (first
    | with_reducible refine wpAny_loadPart_at ke ?_
    | (with_reducible refine wpAny_isSubtype_exc kC' ?_; rw [mC])
    | wp_step)
  show wpAny _ _ (typeLookup (.ref C) _) _ _ _
  apply hi'.at
  refine wpAny_holding ?_
  refine wpAny_bind ?_
  apply hb'.at
  refine wpAny_bind ?_
  refine wpAny_call ?_
  refine codeAny_mono z fun r s' y => ?_
  cases r with
  | error e => exact y
  | ok fl =>
    cases fl with
    | ret v =>
      obtain ⟨rfl, y⟩ := y
      first
        | exact wpAny_pure (wpAny_pure y)
        | (wp_walk; exact y)
    | next => exact False.elim y
    | brk => exact False.elim y
    | cont => exact False.elim y
theorem xcls_call (G : ExcBaseFacts B newId initId bmB) (c1 : bm.contains (.type B) = true) (c2 : bm.contains (.type "AttributeError") = false) (c3 : bm.contains (.type "NameError") = false) {us : List Value} {fI : Addr}
    (kC : hp.get? C = some (excClassObj nm q C N bs bm true sn sub ab col dd k0 k1 k2 k3 k5 newId))
    (hi : PySem.W.Looks (model prog w) hp (typeLookup (.ref C) "__init__") (some (.ref fI))) (hb : ∀ v, PySem.W.Looks (model prog w) hp (bindSpecial (.ref fI) v) (.ref fI, [v])) (hz : us.length ≤ sizeLine)
    (z : codeAny (model prog w) (A.under (.builtin "type.__call__" ⟨.ref C :: us, []⟩)) (.call (.ref fI) ⟨.ref (hp.objs.size + 1) :: us, []⟩) (PySem.W.InitBack (hp.objs.size + 1) R)
      ⟨(hp.push (PySem.W.kdv_tup us)).push (HandSPX.excO C hp.objs.size), g, d, t, os⟩) :
    codeAny (model prog w) A (.call (.ref C) ⟨us, []⟩) R ⟨hp, g, d, t, os⟩ := by
  have a1 := tc_lookup
  have a2 := tc_bind (.ref C)
  have ty : (⟨hp, g, d, t, os⟩ : Shared).TypeIs (.ref C) "type" := ⟨_, kC, rfl⟩
  apply codeAny_of_tree
  show wpAny _ _ (callAny (.ref C) _) _ _ _
  repeat (any_goals (first
    | assumption
    | with_reducible refine wpAny_loadPart_at kC ?_
    | wp_step))
  refine ⟨rfl, ?_⟩
  apply codeAny_call_builtin_at (Code.quiet_builtin _ (by decide +kernel)) entry_typeCall
  apply wpAny_check_type_call_sub kC
  apply xcls_type G c1 c2 c3 kC hi hb hz
  refine codeAny_mono z fun r s' y => ?_
  cases r with
  | error e => exact y
  | ok fl =>
    cases fl with
    | _ => exact y
end
end Bz
namespace Bz
open PySem PySem.Spec PyProof.Rows L2
/-! ### fields of such an error, being made -/
section
open Builtin Builtin.ObjectAttr
variable {prog : Program} {w : World} {R : Result → Shared → Prop} {A : Around} {hp : Heap} {g : Array GenState} {d : Drawn} {t : Nat} {os : OsState}
variable {K : PySem.W.Frag} {name : Str} {tk : Tok} {v : Value} {x C : Addr} {fv : Array Value} {cd : ClassData}
theorem xmro_obj {bm tl : List Value} (hd : dropRefs bm = tl) (ho : tl.contains (.type "object") = true) : (Value.ref C :: bm).contains (.type "object") = true := by
  rw [drop_contains]
  show (dropRefs bm).contains _ = true
  rw [hd]
  exact ho
theorem xmro_ps {bm tl : List Value} (hd : dropRefs bm = tl) (hp : ∀ v : Value, refuseLoop v "__setattr__" tl = pure ()) (v : Value) : refuseLoop v "__setattr__" (Value.ref C :: bm) = pure () := by
  rw [drop_refuse]
  show refuseLoop v "__setattr__" (dropRefs bm) = pure ()
  rw [hd]
  exact hp v
theorem xosa_new (X : K.In hp) (hx : hp.get? x = some { cls := .ref C, data := .fields fv }) (hcd : PySem.W.clsIn K C = some cd) (hm : cd.mro.contains (.type "object") = true) (hps : ∀ v : Value, refuseLoop v "__setattr__" cd.mro = pure ()) (hh : cd.hasDict = true) (ha : PySem.W.findIn K (.ref C) name = some none)
    (z : ∀ h' tk' dx, (∀ b o, b ≠ x → hp.get? b = some o → h'.get? b = some o) → hp.objs.size ≤ dx → dx ≠ x → h'.get? x = some { cls := .ref C, dict := some dx, data := .fields fv } →
      h'.Ns1 dx (fun y => if y = name then some v else none) → R (.ok (.ret .none)) ⟨h', g, d, tk', os⟩) :
    codeAny (model prog w) A (.call (.builtin "object.__setattr__") ⟨[.ref x, .str name tk, v], []⟩) R ⟨hp, g, d, t, os⟩ := by
  have J : PySem.W.InstAt hp x { cls := .ref C, data := .fields fv } C none := ⟨hx, rfl, rfl, trivial⟩
  have S := F.store_object
  have ne : cd.mro.isEmpty = false := by
    cases e : cd.mro with
    | nil =>
      rw [e] at hm
      cases hm
    | cons _ _ => rfl
  have nx : x ≠ hp.objs.size := Nat.ne_of_lt (Heap.lt_size hx)
  have sub : PySem.W.Looks (model prog w) hp (isInstance (.ref x) (.type "object")) true := J.type.andThen (PySem.W.looks_mroIn X (by
    unfold PySem.W.mroIn
    rw [hcd, Option.bind_some, if_neg (by rw [ne]; decide), hm]))
  refine codeAny_call_builtin S.slot.plain S.entry (@PySem.W.check_slot (model prog w) _ _ ⟨hp, g, d, t, os⟩ "object.__setattr__" "object" "__setattr__" (.ref x) [.str name tk, v] [] _ S.kind S.split sub (S.args (.ref x) (.str name tk) v) ?_)
  have l1 : PySem.W.Looks (model prog w) hp (mroOf (.ref C)) cd.mro := (PySem.W.looks_clsIn X hcd).andThen .now
  have l2 : PySem.W.Looks (model prog w) hp (storeTaker? none) none := .now
  have l3 : PySem.W.Looks (model prog w) hp (classData C) cd := PySem.W.looks_clsIn X hcd
  rw [PySem.W.osa_eq, refuse_eq]
  apply wpAny_bind
  apply wpAny_bind
  apply J.type.at
  apply wpAny_bind
  apply l1.at
  rw [hps]
  apply wpAny_pure
  apply wpAny_bind
  apply J.type.at
  apply wpAny_bind
  apply (PySem.W.looks_findIn X ha).at
  apply wpAny_bind
  apply l2.at
  show wpAny _ _ (storeInOwnDict (.ref x) (.ref C) (.str name tk) name v false) _ _ _
  obtain ⟨nm, bs, mro, ns, qn, hd, sn, sb, ab, col, del⟩ := cd
  dsimp only at hh
  subst hh
  unfold storeInOwnDict ownDictForStores
  repeat (first
    | with_reducible refine HandSPX.store_in_new ?_ ?_
    | with_reducible refine wpAny_loadPart_at hx ?_
    | with_reducible refine l3.at ?_
    | wp_step)
  · exact ⟨_, #[], _, (Heap.get?_update_ne _ _ _ _ nx.symm).trans (Heap.get?_push_at rfl rfl), rfl, fun e he => absurd he (by simp), fun _ => rfl⟩
  · intro h' tk' hn hs
    have hx2 : (hp.push { cls := .type "dict", data := .dict #[] }).get? x = some { cls := .ref C, data := .fields fv } := Heap.get?_push_of_some _ hx
    refine z h' tk' hp.objs.size (fun b o hb ho => ?_) (Nat.le_refl _) nx.symm ?_ hn
    · rw [hs.2 b (Nat.ne_of_lt (Heap.lt_size ho)), Heap.get?_update_ne _ _ _ _ hb]
      exact Heap.get?_push_of_some _ ho
    · rw [hs.2 x nx]
      exact Heap.get?_update_self _ hx2 rfl
theorem xosa_old {dx : Addr} {m0 : Str → Option Value} {nl : List Str} (X : K.In hp) (hx : hp.get? x = some { cls := .ref C, dict := some dx, data := .fields fv }) (hns : hp.Ns1 dx m0) (hw : Within m0 nl) (hz : nl.length ≤ 1000)
    (hcd : PySem.W.clsIn K C = some cd) (hm : cd.mro.contains (.type "object") = true) (hps : ∀ v : Value, refuseLoop v "__setattr__" cd.mro = pure ()) (hh : cd.hasDict = true) (ha : PySem.W.findIn K (.ref C) name = some none)
    (z : ∀ h' tk', (∀ b o, b ≠ dx → hp.get? b = some o → h'.get? b = some o) → h'.Ns1 dx (fun y => if y = name then some v else m0 y) → R (.ok (.ret .none)) ⟨h', g, d, tk', os⟩) :
    codeAny (model prog w) A (.call (.builtin "object.__setattr__") ⟨[.ref x, .str name tk, v], []⟩) R ⟨hp, g, d, t, os⟩ := by
  obtain ⟨oD, esD, epD, hoD, hdD, _⟩ := hns.count hw
  have J : PySem.W.InstAt hp x { cls := .ref C, dict := some dx, data := .fields fv } C (some oD) := ⟨hx, rfl, rfl, hoD⟩
  have S := F.store_object
  have ne : cd.mro.isEmpty = false := by
    cases e : cd.mro with
    | nil =>
      rw [e] at hm
      cases hm
    | cons _ _ => rfl
  have sub : PySem.W.Looks (model prog w) hp (isInstance (.ref x) (.type "object")) true := J.type.andThen (PySem.W.looks_mroIn X (by
    unfold PySem.W.mroIn
    rw [hcd, Option.bind_some, if_neg (by rw [ne]; decide), hm]))
  refine codeAny_call_builtin S.slot.plain S.entry (@PySem.W.check_slot (model prog w) _ _ ⟨hp, g, d, t, os⟩ "object.__setattr__" "object" "__setattr__" (.ref x) [.str name tk, v] [] _ S.kind S.split sub (S.args (.ref x) (.str name tk) v) ?_)
  have l1 : PySem.W.Looks (model prog w) hp (mroOf (.ref C)) cd.mro := (PySem.W.looks_clsIn X hcd).andThen .now
  have l2 : PySem.W.Looks (model prog w) hp (storeTaker? none) none := .now
  have l3 : PySem.W.Looks (model prog w) hp (classData C) cd := PySem.W.looks_clsIn X hcd
  rw [PySem.W.osa_eq, refuse_eq]
  apply wpAny_bind
  apply wpAny_bind
  apply J.type.at
  apply wpAny_bind
  apply l1.at
  rw [hps]
  apply wpAny_pure
  apply wpAny_bind
  apply J.type.at
  apply wpAny_bind
  apply (PySem.W.looks_findIn X ha).at
  apply wpAny_bind
  apply l2.at
  show wpAny _ _ (storeInOwnDict (.ref x) (.ref C) (.str name tk) name v false) _ _ _
  obtain ⟨nm, bs, mro, ns, qn, hd, sn, sb, ab, col, del⟩ := cd
  dsimp only at hh
  subst hh
  unfold storeInOwnDict ownDictForStores
  repeat (first
    | with_reducible refine PySem.OEX.store_in_old hns hw hz ?_
    | with_reducible refine wpAny_loadPart_at hx ?_
    | with_reducible refine l3.at ?_
    | wp_step)
  intro h' tk' hn hs
  exact z h' tk' (fun b o hb ho => (hs.2 b hb).trans ho) hn
end
/-- what the head tells of such a class -/
structure OexG (K : PySem.W.Frag) (C : Addr) : Prop where
  cls : ∃ newId tl nm q N bs bm sn sub ab col dd k0 k1 k2 k3 k5, XBase newId tl ∧ K.lookup C = some (excClassObj nm q C N bs bm true sn sub ab col dd k0 k1 k2 k3 k5 newId) ∧ dropRefs bm = tl
  sa : PySem.W.findIn K (.ref C) "__setattr__" = some (some (.builtin "object.__setattr__"))
  exC : PySem.W.subIn K (.ref C) (.type "BaseException") = some true
  tyC : PySem.W.typeIn K (.ref C) = some (.type "type")
  kC : PySem.W.keepIn K (.ref C) = true
section
variable {X : Cx} {pins : List (Addr × Obj)} {σ : L2.St} {H : Hp} {s : Shared} {a C dx : Addr} {f : Str} {y : V} {u : Value} {fs : List (Str × V)} {Q : Unit → Shared → Prop} {E : Value → Shared → Prop} {A : Around}
theorem xst_new (T : OexG X.K C) (I : Inv X pins σ H s) (e : H a = some (exo a C none)) (hno : PySem.W.findIn X.K (.ref C) f = some none) (ry : RelV y u)
    (h : ∀ dx s', H dx = none → dx ≠ a → Inv X pins σ (upd (upd H dx (exd dx [(f, y)])) a (exo a C (some dx))) s' → Q () s') : wpAny (model X.prog X.w) A (setAttr (.ref a) f u) Q E s := by
  obtain ⟨newId, tl, nm, q, N, bs, bm, sn, sub, ab, col, dd, k0, k1, k2, k3, k5, xb, hC, hbm⟩ := T.cls
  have hcl : PySem.W.clsIn X.K C = some { name := nm, bases := bs, mro := .ref C :: bm, ns := N, qualname := q, hasDict := true, slotNames := sn, subclasses := sub, abstract := ab, collection := col, hasDel := false } := by
    unfold PySem.W.clsIn
    rw [hC] <;> rfl
  obtain ⟨t1, ho⟩ := exo_at I.hok e
  obtain ⟨hp, g, d, t, os⟩ := s
  refine PySem.W.set_plain I.kIn (ox := { cls := .ref C, dict := none, data := .fields #[.ref t1, .none, .none, .none, .bool false, .none] }) (od := none) ⟨ho, rfl, rfl, trivial⟩ T.sa ?_
  refine xosa_new I.kIn ho hcl (xmro_obj hbm xb.ob) (xmro_ps hbm xb.ps) rfl hno ?_
  intro h' tk' dx k dn dne hx hn
  have hnd : H dx = none := I.hok.fresh dn
  have nd : ∀ {b : Addr} {o : Obj}, hp.get? b = some o → b ≠ dx := fun {b o} q => Nat.ne_of_lt (Nat.lt_of_lt_of_le (Heap.lt_size q) dn)
  have na : ∀ {b : Addr}, H b = none → b ≠ a := fun {b} n z => by
    rw [z, e] at n
    cases n
  have U : Un X.fs [] H (upd (upd H dx (exd dx [(f, y)])) a (exo a C (some dx))) hp h' := by
    constructor
    · intro b o q n _ _
      exact k b o (na n) q
    · intro b o q n _ _
      exact ⟨o.slots, k b o (na n) q⟩
    · intro b o q n _
      rw [upd_ne (na n), upd_ne (nd q)]
      exact n
    · intro b o q _
      by_cases hb : b = a
      · exact ⟨_, by rw [hb]; exact hx⟩
      · exact ⟨o, k b o hb q⟩
    · intro b xs q
      rw [upd_ne (at_ne e q exo_tup), upd_ne (ne_of_none q hnd)]
      exact q
    · intro b o v q
      rw [upd_ne (at_ne e q exo_frz), upd_ne (ne_of_none q hnd)]
      exact q
    · intro b ps q
      refine ⟨#[], ?_⟩
      rw [upd_ne (at_ne e q exo_tbl), upd_ne (ne_of_none q hnd), q]
      simp
  refine h dx _ hnd dne (I.un (t' := tk') U ?_)
  intro b o q
  by_cases hb : b = a
  · subst hb
    rw [upd_same] at q
    cases q
    exact exo_ok hx
  rw [upd_ne hb] at q
  by_cases hd : b = dx
  · subst hd
    rw [upd_same] at q
    cases q
    exact exd_ok hn (relO_put (fs := []) ry fun g => True.intro)
  rw [upd_ne hd] at q
  refine (I.hok b o q).stay ?_ ?_ ?_
  · intro c v hc z
    refine k c v ?_ z
    rcases hc with hc | hc
    · rw [hc]
      exact hb
    · exact at_ne e hc exo_own
  · intro c hc
    rw [upd_ne (at_ne e hc exo_own), upd_ne (ne_of_none hc hnd)]
    exact hc
  · intro c xs hc
    rw [upd_ne (at_ne e hc exo_tup), upd_ne (ne_of_none hc hnd)]
    exact hc
theorem xst_old (T : OexG X.K C) (I : Inv X pins σ H s) (e : H a = some (exo a C (some dx))) (ed : H dx = some (exd dx fs)) (hl : fs.length ≤ 900) (hno : PySem.W.findIn X.K (.ref C) f = some none) (ry : RelV y u)
    (h : ∀ s', Inv X pins σ (upd H dx (exd dx ((f, y) :: fs))) s' → Q () s') : wpAny (model X.prog X.w) A (setAttr (.ref a) f u) Q E s := by
  obtain ⟨newId, tl, nm, q, N, bs, bm, sn, sub, ab, col, dd, k0, k1, k2, k3, k5, xb, hC, hbm⟩ := T.cls
  have hcl : PySem.W.clsIn X.K C = some { name := nm, bases := bs, mro := .ref C :: bm, ns := N, qualname := q, hasDict := true, slotNames := sn, subclasses := sub, abstract := ab, collection := col, hasDel := false } := by
    unfold PySem.W.clsIn
    rw [hC] <;> rfl
  obtain ⟨t1, ho⟩ := exo_at I.hok e
  obtain ⟨mA, hns, rel⟩ := exd_at I.hok ed
  have hw := within_of rel
  obtain ⟨hp, g, d, t, os⟩ := s
  obtain ⟨oD, _, _, hoD, _, _⟩ := hns.count hw
  refine PySem.W.set_plain I.kIn (ox := { cls := .ref C, dict := some dx, data := .fields #[.ref t1, .none, .none, .none, .bool false, .none] }) (od := some oD) ⟨ho, rfl, rfl, hoD⟩ T.sa ?_
  refine xosa_old I.kIn ho hns hw ?_ hcl (xmro_obj hbm xb.ob) (xmro_ps hbm xb.ps) rfl hno ?_
  · rw [List.length_map]
    omega
  intro h' tk' k hn
  have hd : ∃ o, h'.get? dx = some o := by
    obtain ⟨o, _, _, e', _⟩ := hn
    exact ⟨o, e'⟩
  refine h _ (I.write (t' := tk') (x := dx) (e := dx) (o := exd dx ((f, y) :: fs)) ?_ (.inl rfl) k hd (exd_ok hn (relO_put ry rel)))
  rw [ed]
  exact True.intro
end
/-- self.f = e -/
def tOsg (K : PySem.W.Frag) (f : Str) (to te : TE) : TS := fun D σ H => te σ H fun y H1 => to σ H1 fun x H2 => ∃ a C : Addr, x = .ref a ∧ OexG K C ∧ PySem.W.findIn K (.ref C) f = some none ∧
  ((H2 a = some (exo a C none) ∧ ∀ dx, H2 dx = none → dx ≠ a → D.nx σ (upd (upd H2 dx (exd dx [(f, y)])) a (exo a C (some dx)))) ∨
    ∃ (dx : Addr) (fs : List (Str × V)), H2 a = some (exo a C (some dx)) ∧ H2 dx = some (exd dx fs) ∧ fs.length ≤ 900 ∧ D.nx σ (upd H2 dx (exd dx ((f, y) :: fs))))
theorem ps_osg {X : Cx} {o e : Expr} {to te : TE} {f : Str} {p' pos : Pos} (ho : PE X o to) (he : PE X e te) (hs : swapsWith e (some (.Attribute o f p')) pos.line X.env = pure false := by rfl) : PS X (.Assign [.Attribute o f p'] e pos) (tOsg X.K f to te) := by
  refine ⟨fun pins s σ H D I h => ?_⟩
  refine plainObj_wpAny_Assign_Attribute ?_ hs
  refine thn (he.run pins s σ H _ I h) ?_
  rintro v s1 ⟨y, H1, I1, r1, q1⟩
  refine thn (ho.run pins s1 σ H1 _ I1 q1) ?_
  rintro u s2 ⟨x, H2, I2, r2, a, C, ex, T, hno, q⟩
  subst ex
  obtain rfl : u = Value.ref a := r2
  rcases q with ⟨ea, q⟩ | ⟨dx, fs, ea, ed, hl, q⟩
  · exact xst_new T I2 ea hno r1 fun dx s' n ne J => ⟨σ, _, J, q dx n ne⟩
  · exact xst_old T I2 ea ed hl hno r1 fun s' J => ⟨σ, _, J, q⟩
end Bz
namespace Bz
open PySem PySem.Spec PyProof.Rows L2
/-! ### C(e, ..): an error is made -/
structure XMakeOk (P : Program) (w : World) (K : PySem.W.Frag) (mg : Str → Option Value) (base : Heap) (CX : CXT) (k : Nat) (x : Str) (n : Nat) (sp : Sp) (gV : List V → List V → List V) : Prop where
  T : OexG K (He.ga K x)
  ok : ∃ (fI : Addr) (fd : FuncData) (ps : List Str) (g : List Value → List Value → List Value), PySem.W.findIn K (.ref (He.ga K x)) "__init__" = some (some (.ref fI)) ∧ PySem.W.typeIn K (.ref fI) = some (.type "function") ∧ FnG P w K mg base CX k fI fd ps sp ∧ KBn K fd ps (n + 1) [] g gV
  at_ : mg x = some (.ref (He.ga K x))
def aXmk (C : Addr) (n : Nat) (sp : Sp) (gV : List V → List V → List V) (vs : List V) (H1 : Hp) (Q : XK) : Prop := vs.length = n ∧ vs.length ≤ 1000 ∧ ∀ a, H1 a = none → sp (gV (.ref a :: vs) []) (upd H1 a (exo a C none))
  (fun v H2 => v = .non ∧ ∃ (d : Addr) (fs : List (Str × V)), H2 a = some (exo a C (some d)) ∧ H2 d = some (exd d fs) ∧ H1 d = none ∧ Q (.ref C) (some d) (upd (del H2 a) d (.xd fs))) E0
def tXMk (C : Addr) (n : Nat) (sp : Sp) (gV : List V → List V → List V) (ta : TA) : St → Hp → XK → Prop := fun σ H Q => ta σ H fun vs H1 => aXmk C n sp gV vs H1 Q
section
variable {X : Cx} {CX : CXT} {k k' n : Nat} {sp : Sp} {gV : List V → List V → List V} {x : Str} {e : Expr} {es : List Expr} {ta : TA} {p pos : Pos}
theorem pmk_xg (c : XMakeOk X.prog X.w X.K X.mg X.base CX k x n sp gV) (hr : Room k' X.A) (hk : k + 1 ≤ k') (hgu : X.A.guards = some []) (hx : Passes CX X E0) (hg : Gl X x) (ha : PA X (e :: es) ta)
    (hdb : (x == ("__debug__" : Str)) = false := by decide) (he : starEach (e :: es) X.env = (false, eval e X.env) :: starEach es X.env := by rfl) (hpl : (backTo pos (starEach es X.env)).any (·.1) = false := by rfl) :
    PMk X (.Call (.Name x p) (e :: es) [] pos) (tXMk (He.ga X.K x) n sp gV ta) := by
  intro pins s σ H Q I h
  obtain ⟨T, ⟨fI, fd, ps, gg, iC, tI, F1, kb⟩, hm⟩ := c
  generalize hCe : He.ga X.K x = C at *
  obtain ⟨newId, tl, nm, q, N, bs, bm, sn, sub, ab, col, dd, k0, k1, k2, k3, k5, xb, hC, hbm⟩ := T.cls
  obtain ⟨B, initId, bmB, G, cB⟩ := xb.F
  have c1 : bm.contains (.type B) = true := by
    rw [drop_contains, hbm]
    exact cB
  have c2 : bm.contains (.type "AttributeError") = false := by
    rw [drop_contains, hbm]
    exact xb.nA
  have c3 : bm.contains (.type "NameError") = false := by
    rw [drop_contains, hbm]
    exact xb.nN
  refine wpAny_Call_Name_kw (ld_glob I hg hm ?_ hdb)
  refine PySem.W.callWith_K (h₀ := X.base) I.ok.mod.kin T.kC (thn (ha.run pos pins s σ H _ I h) ?_) he hpl
  rintro us s1 ⟨vs, H1, I1, r1, ln, hz, q1⟩
  refine ⟨I1.kIn, ?_⟩
  show wpAny _ _ (call (.ref C) us) _ _ _
  obtain ⟨hp, g, dr, tk, os⟩ := s1
  have hsz : hp.objs.size ≤ hp.objs.size + 1 := Nat.le_succ _
  have hn : H1 (hp.objs.size + 1) = none := I1.hok.fresh hsz
  have hq := q1 (hp.objs.size + 1) hn
  have kk : ∀ b o, hp.get? b = some o → ((hp.push (PySem.W.kdv_tup us)).push (HandSPX.excO C hp.objs.size)).get? b = some o := fun b o e => by
    apply Heap.get?_push_of_some
    apply Heap.get?_push_of_some
    exact e
  have hget : ((hp.push (PySem.W.kdv_tup us)).push (HandSPX.excO C hp.objs.size)).get? (hp.objs.size + 1) = some (HandSPX.excO C hp.objs.size) := by
    heap_get
  have I2 : Inv X pins σ (upd H1 (hp.objs.size + 1) (exo (hp.objs.size + 1) C none)) ⟨(hp.push (PySem.W.kdv_tup us)).push (HandSPX.excO C hp.objs.size), g, dr, tk, os⟩ :=
    I1.laid (t' := tk) (a := hp.objs.size + 1) (o := exo (hp.objs.size + 1) C none) (h' := (hp.push (PySem.W.kdv_tup us)).push (HandSPX.excO C hp.objs.size)) kk hsz (exo_ok hget)
  have r2 : Vals (V.ref (hp.objs.size + 1) :: vs) (Value.ref (hp.objs.size + 1) :: us) := .cons rfl r1
  have hl1 : (Value.ref (hp.objs.size + 1) :: us).length = n + 1 := by
    rw [← r2.length, List.length_cons, ln]
  have hus : us.length ≤ sizeLine := by
    rw [← Paired.length r1, sizeLine_eq]
    omega
  refine wpAny_call (xcls_call G c1 c2 c3 (I1.kIn _ _ hC) (PySem.W.looks_findIn I1.kIn iC) (fun v => PySem.W.bind_fn I1.kIn v tI) hus (codeAny_mono (F1.go _ X.stack _ _ ⟨Value.ref (hp.objs.size + 1) :: us, []⟩ (gg (Value.ref (hp.objs.size + 1) :: us) []) _ _ E0
    ((hr.mono hk).make C us []) (guards_make hgu) (I2.env0.make C us []) (kb.to _ (Value.ref (hp.objs.size + 1) :: us) [] I2.kIn hl1 rfl) (kb.rel r2 .nil) hq) ?_))
  intro r s' hq'
  cases r with
  | error er => exact hx pins σ _ _ er s' I2 hq'
  | ok fl =>
    cases fl with
    | ret u =>
      obtain ⟨v, H2, os2, bare2, un2, hok2, rv, ev, d, fs, ea, ed, hd1, q2⟩ := hq'
      subst ev
      obtain ⟨h2, g2, d2, t2, os'⟩ := s'
      exact ⟨rv, mk_end (raises_own T.exC T.tyC) I1 hsz kk un2 hok2 os2 bare2 ea ed hd1 q2⟩
    | next => exact False.elim hq'
    | brk => exact False.elim hq'
    | cont => exact False.elim hq'
end
/-- an __init__ that keeps fields fl, all in all F -/
def sp_xinit (K : PySem.W.Frag) (n : Nat) (fl : List Str) (F : List V → List (Str × V)) : Sp := fun vs H Q _ => vs.length = n + 1 ∧ ∃ (a C : Addr) (ws : List V), vs = .ref a :: ws ∧ OexG K C ∧ (∀ f ∈ fl, PySem.W.findIn K (.ref C) f = some none) ∧ H a = some (exo a C none) ∧
  ∀ dx, H dx = none → dx ≠ a → Q .non (upd (upd H dx (exd dx (F ws))) a (exo a C (some dx)))
theorem xput {H : Hp} {a dx C : Addr} {u v : HO} {w : HO} (h : dx ≠ a) : upd (upd (upd H dx u) a w) dx v = upd (upd H dx v) a w := by
  funext b
  by_cases h1 : b = dx
  · rw [h1, upd_same, upd_ne h, upd_same]
  · rw [upd_ne h1]
    by_cases h2 : b = a
    · rw [h2, upd_same, upd_same]
    · rw [upd_ne h2, upd_ne h2, upd_ne h1, upd_ne h1]
section
variable {K : PySem.W.Frag} {B H : Hp} {M L : List (Addr × HO)} {C : Addr} {n : Nat} {fl : List Str} {F : List V → List (Str × V)} {gV : List V → List V → List V} {vs : List V} {Q : XK}
theorem g_xmk {sp : Sp} {ta : TA} {σ : St} (h : ta σ H fun vs H1 => aXmk C n sp gV vs H1 Q) : tXMk C n sp gV ta σ H Q := h
theorem g_aXmk (I : Is B M L H) (T : OexG K C) (hf : ∀ f ∈ fl, PySem.W.findIn K (.ref C) f = some none) (hn : vs.length = n) (hz : n ≤ 1000) (hg : ∀ a, gV (.ref a :: vs) [] = .ref a :: vs)
    (q : ∀ d H', Is B M ((d, .xd (F vs)) :: L) H' → Q (.ref C) (some d) H') : aXmk C n (sp_xinit K n fl F) gV vs H Q := by
  refine ⟨hn, by omega, fun a na => ?_⟩
  rw [hg]
  refine ⟨by rw [List.length_cons, hn], a, C, vs, rfl, T, hf, upd_same, fun dx hd hne => ⟨rfl, dx, F vs, upd_same, ?_, ?_, ?_⟩⟩
  · rw [upd_ne hne, upd_same]
  · rw [upd_ne hne] at hd
    exact hd
  · have hd' : H dx = none := by
      rw [upd_ne hne] at hd
      exact hd
    have e : upd (del (upd (upd (upd H a (exo a C none)) dx (exd dx (F vs))) a (exo a C (some dx))) a) dx (.xd (F vs)) = upd H dx (.xd (F vs)) := by
      funext b
      by_cases h1 : b = dx
      · rw [h1, upd_same, upd_same]
      · rw [upd_ne h1, upd_ne h1]
        by_cases h2 : b = a
        · rw [h2, del_same, na]
        · rw [del_ne h2, upd_ne h2, upd_ne h1, upd_ne h2]
    rw [e]
    exact q dx _ (I.new hd')
/-- the first field, a further one -/
theorem g_osg1 {nx bk ct : St → Hp → Prop} {rt : VK} {σ : St} {i j : Nat} {f : Str} {a : Addr} {y : V} (h1 : σ[j]? = some (some y)) (h2 : σ[i]? = some (some (.ref a))) (T : OexG K C) (hn : PySem.W.findIn K (.ref C) f = some none) (ha : H a = some (exo a C none))
    (q : ∀ dx, H dx = none → dx ≠ a → nx σ (upd (upd H dx (exd dx [(f, y)])) a (exo a C (some dx)))) : tOsg K f (tVar i) (tVar j) ⟨nx, rt, bk, ct⟩ σ H := ⟨y, h1, .ref a, h2, a, C, rfl, T, hn, .inl ⟨ha, q⟩⟩
theorem g_osg2 {nx bk ct : St → Hp → Prop} {rt : VK} {σ : St} {i j : Nat} {f : Str} {a dx : Addr} {y : V} {fs : List (Str × V)} (h1 : σ[j]? = some (some y)) (h2 : σ[i]? = some (some (.ref a))) (T : OexG K C) (hn : PySem.W.findIn K (.ref C) f = some none) (hne : dx ≠ a) (hz : fs.length ≤ 900)
    (q : nx σ (upd (upd H dx (exd dx ((f, y) :: fs))) a (exo a C (some dx)))) : tOsg K f (tVar i) (tVar j) ⟨nx, rt, bk, ct⟩ σ (upd (upd H dx (exd dx fs)) a (exo a C (some dx))) :=
  ⟨y, h1, .ref a, h2, a, C, rfl, T, hn, .inr ⟨dx, fs, upd_same, by rw [upd_ne hne, upd_same], hz, by rw [xput (C := C) hne]; exact q⟩⟩
end
/-! ### C.m(e, ..), C an own class: its plain def -/
structure ClsFnOk (P : Program) (w : World) (K : PySem.W.Frag) (mg : Str → Option Value) (base : Heap) (CX : CXT) (k : Nat) (x m : Str) (n : Nat) (sp : Sp) (gV : List V → List V → List V) : Prop where
  ok : ∃ (f : Addr) (fd : FuncData) (ps : List Str) (g : List Value → List Value → List Value), PySem.W.findCls K (.ref (He.ga K x)) (.type "type") m = some (.val (.ref f)) ∧ PySem.W.handedIn (.ref f) = true ∧ PySem.W.keepIn K (.ref f) = true ∧ FnG P w K mg base CX k f fd ps sp ∧ KBn K fd ps n [] g gV
  rd : PySem.W.readsIn K (He.ga K x) (.type "type") = true
  sp_ : PySem.W.specialIn K (.ref (He.ga K x)) "__getattribute__" = some (some (.builtin "type.__getattribute__"))
  at_ : mg x = some (.ref (He.ga K x))
theorem pe_clsfn {X : Cx} {CX : CXT} {k k' n : Nat} {sp : Sp} {gV : List V → List V → List V} {E : XK} {x m : Str} {e : Expr} {es : List Expr} {ta : TA} {p1 p2 pos : Pos} {pl : Sem Bool} (c : ClsFnOk X.prog X.w X.K X.mg X.base CX k x m n sp gV) (hr : Room k' X.A) (hk : k ≤ k') (hgu : X.A.guards = some []) (hx : Passes CX X E) (hg : Gl X x) (ha : PA X (e :: es) ta)
    (hc : eval (.Call (.Attribute (.Name x p1) m p2) (e :: es) [] pos) X.env = (do
      let ov ← eval (.Name x p1) X.env
      standAt p2.atName
      let (f, first) ← holding [ov] (getMethod ov m pl)
      callWith pos f first (backTo pos (starEach (e :: es) X.env)) (backToKw pos (keywordEach [] X.env))) := by rfl)
    (hdb : (x == ("__debug__" : Str)) = false := by decide) (he : starEach (e :: es) X.env = (false, eval e X.env) :: starEach es X.env := by rfl) (hpl : ((backTo pos (starEach (e :: es) X.env)).any (·.1) || (backToKw pos (keywordEach [] X.env)).any (·.1.isNone)) = false := by rfl) :
    PE X (.Call (.Attribute (.Name x p1) m p2) (e :: es) [] pos) (tCl n 0 sp gV E ta tNil) := by
  obtain ⟨⟨f, fd, ps, g, fc, hh, kf, F, kb⟩, rd, sg, hm⟩ := c
  refine ⟨fun pins s σ H Q I h => ?_⟩
  refine PySem.W.methodCall_KW (ld_glob I hg hm ?_ hdb) hc
  refine PySem.W.method_cls I.kIn sg ?_
  refine PySem.W.cls_value I.kIn rd fc hh ?_
  refine PySem.W.callWith_KW (h₀ := X.base) I.ok.mod.kin kf (by rfl) (thn (ha.run pos pins _ σ H _ (I.tok _) h) ?_) hpl he
  rintro us s1 ⟨vs, H1, I1, r, q⟩
  refine thn (pk_nil.run pos pins s1 σ H1 _ I1 q) ?_
  rintro ws s2 ⟨zs, H2, I2, rz, l1, l2, q2⟩
  refine ⟨I2.kIn, ?_⟩
  exact run_gn (ks := []) F (hr.mono hk) hgu kb hx I2 r rz l1 l2 q2
end Bz
namespace Bz
open PySem PySem.Spec PyProof.Rows L2
/-! ### what the head tells of own error classes -/
def oexGB (K : PySem.W.Frag) (C : Addr) : Bool := match K.lookup C with
  | some ⟨.type c, _, .cls cd, sl⟩ => decide (c = "type") && (match cd.mro, sl.toList with
    | .ref C' :: bm, [_, _, _, _, some (.builtin n), _] => decide (C' = C) && (cd.hasDict && (!cd.hasDel && xbL.any fun p => decide (p.1 = n) && (dropRefs bm == p.2)))
    | _, _ => false)
  | _ => false
theorem oexGB_ok {K : PySem.W.Frag} {C : Addr} (h : oexGB K C = true) : ∃ newId tl nm q N bs bm sn sub ab col dd k0 k1 k2 k3 k5, XBase newId tl ∧ K.lookup C = some (excClassObj nm q C N bs bm true sn sub ab col dd k0 k1 k2 k3 k5 newId) ∧ dropRefs bm = tl := by
  unfold oexGB at h
  split at h
  · rename_i c dd cd sl ho
    rw [Bool.and_eq_true] at h
    obtain ⟨hc, h⟩ := h
    have hc := of_decide_eq_true hc
    split at h
    · rename_i C' bm k0 k1 k2 k3 n k5 hm hs
      simp only [Bool.and_eq_true, Bool.not_eq_true'] at h
      obtain ⟨e1, e3, e4, e5⟩ := h
      have e1 := of_decide_eq_true e1
      obtain ⟨p, hp, e6⟩ := List.any_eq_true.mp e5
      rw [Bool.and_eq_true] at e6
      have e7 := of_decide_eq_true e6.1
      have e8 := beq_iff_eq.mp e6.2
      obtain ⟨nm, bs, mro, ns, qn, hd, sn, sb, ab, col, dl⟩ := cd
      dsimp only at hm e3 e4
      subst hm e3 e4 e1 hc
      have es : sl = #[k0, k1, k2, k3, some (.builtin n), k5] := by
        apply Array.toList_inj.mp
        rw [hs]
      subst es
      have hx : XBase n (dropRefs bm) := by
        rw [e8, ← e7]
        exact xb_of hp
      exact ⟨_, _, _, _, _, _, _, _, _, _, _, _, _, _, _, _, _, hx, ho, rfl⟩
    · cases h
  · cases h
structure ErrOk (K : PySem.W.Frag) (C : Str) (fl : List Str) : Prop where
  ox : OexG K (He.ga K C)
  ex : ExcC K (He.ga K C)
  nf : ∀ f ∈ fl, PySem.W.findIn K (.ref (He.ga K C)) f = some none
  ini : PySem.W.findIn K (.ref (He.ga K C)) "__init__" = some (some (.ref (He.ma K (He.ga K C) "__init__")))
  ty : PySem.W.typeIn K (.ref (He.ma K (He.ga K C) "__init__")) = some (.type "function")
def errOkB (K : PySem.W.Frag) (C : Str) (fl : List Str) : Bool :=
  oexGB K (He.ga K C) && (He.eqO (PySem.W.findIn K (.ref (He.ga K C)) "__setattr__") (some (some (.builtin "object.__setattr__"))) && (decide (PySem.W.subIn K (.ref (He.ga K C)) (.type "BaseException") = some true) && (decide (PySem.W.typeIn K (.ref (He.ga K C)) = some (.type "type")) && (PySem.W.keepIn K (.ref (He.ga K C)) &&
  (excB K (He.ga K C) && (fl.all (fun f => He.eqO (PySem.W.findIn K (.ref (He.ga K C)) f) (some none)) && (He.eqO (PySem.W.findIn K (.ref (He.ga K C)) "__init__") (some (some (.ref (He.ma K (He.ga K C) "__init__")))) && decide (PySem.W.typeIn K (.ref (He.ma K (He.ga K C) "__init__")) = some (.type "function")))))))))
theorem errOkB_ok {K : PySem.W.Frag} {C : Str} {fl : List Str} (h : errOkB K C fl = true) : ErrOk K C fl := by
  unfold errOkB at h
  simp only [Bool.and_eq_true] at h
  obtain ⟨a1, a2, a3, a4, a5, a6, a7, a8, a9⟩ := h
  exact ⟨⟨oexGB_ok a1, He.eqO_ok a2, of_decide_eq_true a3, of_decide_eq_true a4, a5⟩, excB_ok a6, fun f hf => He.eqO_ok (List.all_eq_true.mp a7 f hf), He.eqO_ok a8, of_decide_eq_true a9⟩
/-- an own class's plain def, told by the class -/
structure ClsFnF (K : PySem.W.Frag) (x m : Str) : Prop where
  f : PySem.W.findCls K (.ref (He.ga K x)) (.type "type") m = some (.val (.ref (He.ma K (He.ga K x) m)))
  h : PySem.W.handedIn (.ref (He.ma K (He.ga K x) m)) = true
  k : PySem.W.keepIn K (.ref (He.ma K (He.ga K x) m)) = true
  rd : PySem.W.readsIn K (He.ga K x) (.type "type") = true
  sp_ : PySem.W.specialIn K (.ref (He.ga K x)) "__getattribute__" = some (some (.builtin "type.__getattribute__"))
def clsFnB (K : PySem.W.Frag) (x m : Str) : Bool := (match PySem.W.findCls K (.ref (He.ga K x)) (.type "type") m with
  | some (.val (.ref f)) => decide (f = He.ma K (He.ga K x) m)
  | _ => false) && (PySem.W.handedIn (.ref (He.ma K (He.ga K x) m)) && (PySem.W.keepIn K (.ref (He.ma K (He.ga K x) m)) && (PySem.W.readsIn K (He.ga K x) (.type "type") && He.eqO (PySem.W.specialIn K (.ref (He.ga K x)) "__getattribute__") (some (some (.builtin "type.__getattribute__"))))))
theorem clsFnB_ok {K : PySem.W.Frag} {x m : Str} (h : clsFnB K x m = true) : ClsFnF K x m := by
  unfold clsFnB at h
  simp only [Bool.and_eq_true] at h
  obtain ⟨a1, a2, a3, a4, a5⟩ := h
  refine ⟨?_, a2, a3, a4, He.eqO_ok a5⟩
  split at a1
  · rename_i f e
    rw [e, of_decide_eq_true a1]
  · cases a1
/-- of which classes an error is -/
structure KitOk (K : PySem.W.Frag) (C : Str) (own : List (Str × Bool)) (tys : List (String × Bool)) : Prop where
  o : ∀ p ∈ own, PySem.W.kitOne K (.ref (He.ga K C)) (.ref (He.ga K p.1)) = some p.2
  t : ∀ p ∈ tys, PySem.W.kitOne K (.ref (He.ga K C)) (.type p.1) = some p.2
def kitB (K : PySem.W.Frag) (C : Str) (own : List (Str × Bool)) (tys : List (String × Bool)) : Bool :=
  own.all (fun p => decide (PySem.W.kitOne K (.ref (He.ga K C)) (.ref (He.ga K p.1)) = some p.2)) && tys.all (fun p => decide (PySem.W.kitOne K (.ref (He.ga K C)) (.type p.1) = some p.2))
theorem kitB_ok {K : PySem.W.Frag} {C : Str} {own : List (Str × Bool)} {tys : List (String × Bool)} (h : kitB K C own tys = true) : KitOk K C own tys := by
  unfold kitB at h
  rw [Bool.and_eq_true] at h
  exact ⟨fun p hp => of_decide_eq_true (List.all_eq_true.mp h.1 p hp), fun p hp => of_decide_eq_true (List.all_eq_true.mp h.2 p hp)⟩
end Bz
namespace Bz
open PySem PySem.Spec PyProof.Rows L2
/-! ### the law's heap: the script, and empty tables that are owned -/
theorem is_tables {K : PySem.W.Frag} {H : Hp} {a : Addr} {xs : List V} (Ts : List Addr) (hN : Ts.Nodup) (ht : ∀ p ∈ Ts, H p = some (.tbl #[])) (na : a ∉ Ts) (h : SqL K H a xs) :
    ∃ B : Hp, Is B [] (Ts.map fun p => (p, HO.tbl #[])) H ∧ SqL K B a xs := by
  refine ⟨fun b => if b ∈ Ts then none else H b, ⟨fun b o e => ?_, fun p hp => ?_, ?_⟩, ?_⟩
  · have e : (if b ∈ Ts then none else H b) = some o := e
    split at e
    · cases e
    · exact e
  · rw [List.append_nil] at hp
    obtain ⟨q, hq, rfl⟩ := List.mem_map.mp hp
    exact ⟨ht q hq, if_pos hq⟩
  · rw [List.append_nil, List.map_map]
    have : (Ts.map ((fun p : Addr × HO => p.1) ∘ fun p => (p, HO.tbl #[]))) = Ts := by
      induction Ts with
      | nil => rfl
      | cons x r ih =>
        rw [List.map_cons, ih (List.nodup_cons.mp hN).2 (fun p hp => ht p (List.mem_cons_of_mem _ hp)) (fun z => na (List.mem_cons_of_mem _ z))]
        rfl
    rw [this]
    exact hN
  · rcases h with (h | ⟨o, h⟩) | h
    · refine .inl (.inl ?_)
      show (if a ∈ Ts then none else H a) = _
      rw [if_neg na]
      exact h
    · refine .inl (.inr ⟨o, ?_⟩)
      show (if a ∈ Ts then none else H a) = _
      rw [if_neg na]
      exact h
    · exact .inr h
end Bz
namespace Bz
open PySem PySem.Spec PyProof.Rows L2
/-! ### BadValue, BadText, NoSuch, TooMany -/
structure ErrKit (K : PySem.W.Frag) : Prop where
  kv : KitOk K "BadValue" [("BadText", false), ("BadValue", true), ("NoSuch", false), ("TooMany", false)] [("ValueError", true), ("KeyError", false), ("OverflowError", false)]
  kt : KitOk K "BadText" [("BadText", true), ("BadValue", true), ("NoSuch", false), ("TooMany", false)] [("ValueError", true), ("KeyError", false), ("OverflowError", false)]
  kn : KitOk K "NoSuch" [("BadText", false), ("BadValue", false), ("NoSuch", true), ("TooMany", false)] [("ValueError", false), ("KeyError", true), ("OverflowError", false)]
  km : KitOk K "TooMany" [("BadText", false), ("BadValue", false), ("NoSuch", false), ("TooMany", true)] [("ValueError", false), ("KeyError", false), ("OverflowError", true)]
  mm : ∀ c ∈ ([("BadValue" : Str), "BadText", "NoSuch", "TooMany"] : List Str), PySem.W.exmAny K (.ref (He.ga K c)) [.ref (He.ga K "BadValue"), .ref (He.ga K "NoSuch"), .ref (He.ga K "TooMany")] = some true
def errKitB (K : PySem.W.Frag) : Bool :=
  kitB K "BadValue" [("BadText", false), ("BadValue", true), ("NoSuch", false), ("TooMany", false)] [("ValueError", true), ("KeyError", false), ("OverflowError", false)] &&
  (kitB K "BadText" [("BadText", true), ("BadValue", true), ("NoSuch", false), ("TooMany", false)] [("ValueError", true), ("KeyError", false), ("OverflowError", false)] &&
  (kitB K "NoSuch" [("BadText", false), ("BadValue", false), ("NoSuch", true), ("TooMany", false)] [("ValueError", false), ("KeyError", true), ("OverflowError", false)] &&
  (kitB K "TooMany" [("BadText", false), ("BadValue", false), ("NoSuch", false), ("TooMany", true)] [("ValueError", false), ("KeyError", false), ("OverflowError", true)] &&
  ([("BadValue" : Str), "BadText", "NoSuch", "TooMany"] : List Str).all fun c => decide (PySem.W.exmAny K (.ref (He.ga K c)) [.ref (He.ga K "BadValue"), .ref (He.ga K "NoSuch"), .ref (He.ga K "TooMany")] = some true))))
theorem errKitB_ok {K : PySem.W.Frag} (h : errKitB K = true) : ErrKit K := by
  unfold errKitB at h
  simp only [Bool.and_eq_true] at h
  obtain ⟨a1, a2, a3, a4, a5⟩ := h
  exact ⟨kitB_ok a1, kitB_ok a2, kitB_ok a3, kitB_ok a4, fun c hc => of_decide_eq_true (List.all_eq_true.mp a5 c hc)⟩
structure ErrC (K : PySem.W.Frag) : Prop where
  bv : ErrOk K "BadValue" ["what"]
  bt : ErrOk K "BadText" ["what", "row", "word"]
  ns : ErrOk K "NoSuch" ["what", "name"]
  tm : ErrOk K "TooMany" ["most"]
  kit : ErrKit K
/-- an error's class, its fields, what is told of it -/
inductive ErrT : Str → List (Str × V) → List V → Prop
  | val (x : V) : ErrT "BadValue" [("what", x)] [.str "value", x]
  | text (r w : V) : ErrT "BadText" [("word", w), ("row", r), ("what", .str "text")] [.str "text", r, w]
  | no (x y : V) : ErrT "NoSuch" [("name", y), ("what", x)] [.str "no", x, y]
  | many (x : V) : ErrT "TooMany" [("most", x)] [.str "many", x]
theorem ErrT.len {X : Str} {fs : List (Str × V)} {ws : List V} (h : ErrT X fs ws) : ws.length ≤ 3 := by
  cases h <;> simp
theorem ErrT.ex {K : PySem.W.Frag} (C : ErrC K) {X : Str} {fs : List (Str × V)} {ws : List V} (h : ErrT X fs ws) : ExcC K (He.ga K X) := by
  cases h
  · exact C.bv.ex
  · exact C.bt.ex
  · exact C.ns.ex
  · exact C.tm.ex
theorem ErrT.mm {K : PySem.W.Frag} (C : ErrC K) {X : Str} {fs : List (Str × V)} {ws : List V} (h : ErrT X fs ws) : PySem.W.exmAny K (.ref (He.ga K X)) [.ref (He.ga K "BadValue"), .ref (He.ga K "NoSuch"), .ref (He.ga K "TooMany")] = some true := by
  refine C.kit.mm X ?_
  simp only [List.mem_cons]
  cases h <;> simp
end Bz
namespace Bz
open PySem PySem.Spec PyProof.Rows L2
/-! ### repr(x) of an instance with an own __repr__ -/
section
variable {X : Cx} {CX : CXT} {C : Addr} {k : Nat} {sp : Sp} {E : XK} {gV : List V → List V → List V}
def rReprOwn (C : Addr) (sp : Sp) (gV : List V → List V → List V) (E : XK) : List V → Hp → VK → Prop := fun xs H Q => ∃ a dx fs, xs = [.ref a] ∧ H a = some (.ins C dx fs) ∧ sp (gV [.ref a] []) H (fun v H' => ∃ z : Str, v = .str z ∧ Q (.str z) H') E
theorem cl_reprOwn (c : MethOk X.prog X.w X.K X.mg X.base CX k C "__repr__" 0 [] sp gV) {k' : Nat} (hr : Room (k' + 1) X.A) (hk : k ≤ k') (hg : X.A.guards = some []) (hx : Passes CX X E) : CallR X (.builtin "repr") (rReprOwn C sp gV E) := by
  obtain ⟨⟨f, fd, ps, g, hm, G, kb⟩, cl⟩ := c
  intro pins s σ H xs us Q I r h
  obtain ⟨a, dx, fs, rfl, ha, q⟩ := h
  rw [Vals.ref1 r]
  obtain ⟨mA, O, _⟩ := ins_get I.hok ha
  obtain ⟨od, J, _⟩ := O.look
  obtain ⟨m, hF⟩ := I.fr
  refine PySem.W.repr_K (Room.in1 hr).units0 hF I.ok.mod.kin J hm.at_ hm.fn (wpAny_mono (run_gA (A := X.A.in1) (us := [.ref a]) (vs := [.ref a]) G ((Room.in1 hr).mono hk) hg I.env0.in1 kb hx I (.cons rfl .nil) rfl q) (fun w s' z => ?_) fun e s' z => z)
  obtain ⟨z', H', I', rz, zs, ez, qz⟩ := z
  subst ez
  obtain ⟨t, e⟩ := (show ∃ t, w = Value.str zs t from rz)
  subst e
  exact ⟨.str zs, H', I', ⟨_, rfl⟩, qz⟩
theorem g_reprOwn {sp : Sp} {gV : List V → List V → List V} {C a dx : Addr} {fs : List (Str × V)} {H : Hp} {Q : VK} (h : H a = some (.ins C dx fs)) (q : sp (gV [.ref a] []) H (fun v H' => ∃ z : Str, v = .str z ∧ Q (.str z) H') E0) : rReprOwn C sp gV E0 [.ref a] H Q := ⟨a, dx, fs, rfl, h, q⟩
end
/-! ### xs.reverse() -/
theorem g_rev {B H : Hp} {M L L' : List (Addr × HO)} {Q : VK} {l : Addr} {xs : List V} (I : Is B M L H) (hl : H l = some (.lst xs)) (u : Put l (.lst xs.reverse) L L') (q : ∀ H', Is B M L' H' → Q .non H') : rReverse (.ref l) [] H Q :=
  ⟨l, xs, rfl, rfl, hl, q _ (I.put u)⟩
end Bz
namespace Bz
open PySem PySem.Spec PyProof.Rows L2
/-! ### powers of large numbers -/
def CPowW (i j : Int) : Prop := 0 ≤ j ∧ (Builtin.Int.intBits i : Int) * j ≤ 2 ^ 27
theorem op_powW {X : Cx} : OpR X (binaryOp .Pow) (rI CPowW fun i j => .int (i ^ j.toNat)) := opI fun _ _ _ _ _ _ _ hc q => pow_int hc.1 hc.2 q
def farN : Int := 10 ^ 2000
theorem g_powFar {H : Hp} {Q : VK} (q : Q (.int farN) H) : rI CPowW (fun i j => .int (i ^ j.toNat)) (.int 100000000000000000000000000000000000000000000000000) (.int 40) H Q := by
  refine ⟨_, _, rfl, rfl, ⟨by decide, by decide +kernel⟩, ?_⟩
  show Q (.int ((100000000000000000000000000000000000000000000000000 : Int) ^ (40 : Int).toNat)) H
  rw [show (100000000000000000000000000000000000000000000000000 : Int) ^ (40 : Int).toNat = farN from by decide +kernel]
  exact q
theorem farN_big : 10 ^ 30 < farN := by decide +kernel
end Bz
namespace Bz
open PySem PySem.Spec PyProof.Rows L2
/-! ### what is no instance of an own class -/
def BTY : List String := ["NoneType", "int", "str", "list", "tuple", "dict", "bool"]
structure NotK (K : PySem.W.Frag) (C D : Str) : Prop where
  b : ∀ T ∈ BTY, PySem.W.kitOne K (.type T) (.ref (He.ga K C)) = some false
  o : PySem.W.kitOne K (.ref (He.ga K D)) (.ref (He.ga K C)) = some false
def notKB (K : PySem.W.Frag) (C D : Str) : Bool := (BTY.all fun T => decide (PySem.W.kitOne K (.type T) (.ref (He.ga K C)) = some false)) && decide (PySem.W.kitOne K (.ref (He.ga K D)) (.ref (He.ga K C)) = some false)
theorem notKB_ok {K : PySem.W.Frag} {C D : Str} (h : notKB K C D = true) : NotK K C D := by
  unfold notKB at h
  obtain ⟨a1, a2⟩ := (Bool.and_eq_true _ _).mp h
  exact ⟨fun T hT => of_decide_eq_true (List.all_eq_true.mp a1 T hT), of_decide_eq_true a2⟩
def NotI (K : PySem.W.Frag) (H : Hp) (x : V) (C : Addr) : Prop := ∃ t, TyX K H x t ∧ PySem.W.kitOne K t (.ref C) = some false
section
variable {K : PySem.W.Frag} {H : Hp} {x : V} {C D : Str} {Q : VK} {a : Addr} {xs : List V}
theorem g_isiNI {C : Addr} (h : NotI K H x C) (q : Q (.bl false) H) : rIsi K [x, .ref C] H Q := by
  obtain ⟨t, h1, h2⟩ := h
  exact ⟨_, _, _, _, false, rfl, .own C, h1, h2, q⟩
theorem not_non (N : NotK K C D) : NotI K H .non (He.ga K C) := ⟨_, .base .non, N.b _ (by decide)⟩
theorem not_bl (N : NotK K C D) (b : Bool) : NotI K H (.bl b) (He.ga K C) := ⟨_, .base (.bl b), N.b _ (by decide)⟩
theorem not_int (N : NotK K C D) (i : Int) : NotI K H (.int i) (He.ga K C) := ⟨_, .base (.int i), N.b _ (by decide)⟩
theorem not_str (N : NotK K C D) (z : Str) : NotI K H (.str z) (He.ga K C) := ⟨_, .base (.str z), N.b _ (by decide)⟩
theorem not_lst (N : NotK K C D) (h : H a = some (.lst xs)) : NotI K H (.ref a) (He.ga K C) := ⟨_, .base (.lst h), N.b _ (by decide)⟩
theorem not_tup (N : NotK K C D) (h : H a = some (.tup xs)) : NotI K H (.ref a) (He.ga K C) := ⟨_, .base (.tup h), N.b _ (by decide)⟩
theorem not_dct (N : NotK K C D) {kvs : List (Key × V)} (h : H a = some (.dK kvs)) : NotI K H (.ref a) (He.ga K C) := ⟨_, .base (.dK h), N.b _ (by decide)⟩
theorem not_sqT (N : NotK K C D) (h : SqT K H a xs) : NotI K H (.ref a) (He.ga K C) := by
  rcases h with (h | ⟨o, h⟩) | h
  · exact not_tup N h
  · exact ⟨_, .fTuple h, N.b _ (by decide)⟩
  · obtain ⟨o, its, n, e, c, _⟩ := h
    exact ⟨_, .kTuple e c, N.b _ (by decide)⟩
theorem not_ins (N : NotK K C D) (D' : OwnD K (He.ga K D)) (cl : Cls K (He.ga K D)) {dx : Addr} {fs : List (Str × V)} (h : H a = some (.ins (He.ga K D) dx fs)) : NotI K H (.ref a) (He.ga K C) := ⟨_, .base (D'.ty cl h), N.o⟩
end
end Bz
namespace Bz
open PySem PySem.Spec PyProof.Rows L2
/-! ### {t: v}, t a tuple of texts and ints -/
def tDispT (tk tv : TE) : TE := fun σ H Q => ∀ p, H p = none → tPairs [(tk, tv)] σ (upd H p (.dT [])) fun ps H2 => ∃ (b : Addr) (k : List L2.Key) (y : V), ps = [(.ref b, y)] ∧ H2 p = some (.dT []) ∧ H2 b = some (.tup (k.map kV)) ∧ Q (.ref p) (upd H2 p (.dT (putK [] k y)))
theorem pe_dispT {X : Cx} {pos : Pos} {k v : Expr} {tk tv : TE} (hu : X.A.units + 1 < cLine) (hk : PE X k tk) (hv : PE X v tv) : PE X (.Dict [some k] [v] pos) (tDispT tk tv) := by
  refine ⟨fun pins s σ H Q I q => ?_⟩
  have hn := I.hok.fresh (Nat.le_refl s.heap.objs.size)
  have I1 := I.laid (a := s.heap.objs.size) (o := .dT []) (h' := s.heap.push { cls := .type "dict", data := .dict #[] }) (t' := s.toks) (fun _ _ q => Heap.get?_push_of_some _ q) (Nat.le_refl _) (dt_empty s.heap I.big)
  have hP : PPs X pos [some k] [v] [(tk, tv)] := pps_cons hk hv pps_nil
  rw [arm_eval_Dict, zip_pairTrees [some k] [v] X.env pos rfl rfl, dictDisplay_pairs (pairTrees [some k] [v] X.env pos) (fun z => by cases z) (by show 1 < 17; decide)]
  refine wpAny_bind (wpAny_standAt (wpAny_bind (wpAny_subDictH (knd := tupleKind (mixKind X.prog X.w)) (Q := fun d s' => wpAny (model X.prog X.w) X.A (pure (Value.ref d)) _ X.xe s') ?_ (by show 1 ≤ 15; decide)
    (wpAny_mono (hP.run pins _ σ _ _ I1 (q _ hn)) (fun vs s2 h => ?_) fun _ _ e => e))))
  · exact (show X.A.units < cLine from by omega)
  obtain ⟨ps, H2, I2, rel, b, kk, y, rfl, e, eb, q2⟩ := h
  cases rel with
  | @cons p0 q0 ps0 qs0 h0 t0 =>
    cases t0
    obtain ⟨u, w⟩ := q0
    obtain ⟨r1, r2⟩ := h0
    cases (show u = Value.ref b from r1)
    obtain ⟨z, hd, xs, rk, dd⟩ := dt_of I2.hok e
    cases rk
    refine ⟨[(kk, b, w)], ⟨rfl, rfl, key_of I2.hok eb, trivial⟩, dd, fun h' tk dd' hs => wpAny_pure ⟨.ref s.heap.objs.size, _, ?_, rfl, q2⟩⟩
    have hl : (putK ([] : List (List L2.Key × V)) kk y).length ≤ sizeLine := by
      have := length_putK ([] : List (List L2.Key × V)) kk y
      rw [List.length_nil] at this
      rw [sizeLine_eq]
      omega
    obtain ⟨o, es, ep, hq, h2, h3, h4, _, h5⟩ := dd'
    refine d_write I2 (by rw [e]; exact True.intro) hs ⟨o, hq⟩ ⟨hl, hd, _, (KT.put (Paired.nil : KT H2 [] []) kk eb r2).keeps fun c ys ec => ?_, o, es, ep, hq, h2, h3, h4, h5⟩
    rw [upd_ne (ne_of ec e (fun z => nomatch z))]
    exact ec
section
variable {B H : Hp} {M L : List (Addr × HO)} {σ : St} {Q : VK} {tk tv : TE}
/-- what stands behind the key and the value -/
def aDispT (p : Addr) (ps : List (V × V)) (H2 : Hp) (Q : VK) : Prop := ∃ (b : Addr) (k : List L2.Key) (y : V), ps = [(.ref b, y)] ∧ H2 p = some (.dT []) ∧ H2 b = some (.tup (k.map kV)) ∧ Q (.ref p) (upd H2 p (.dT (putK [] k y)))
theorem g_dispT (I : Is B M L H) (q : ∀ p H', Is B M ((p, .dT []) :: L) H' → tPairs [(tk, tv)] σ H' fun ps H2 => aDispT p ps H2 Q) : tDispT tk tv σ H Q := fun p hp => q p _ (I.new hp)
theorem g_aDispT {p b : Addr} {k : List L2.Key} {y : V} {L' : List (Addr × HO)} (I : Is B M L H) (h1 : H p = some (.dT [])) (hb : H b = some (.tup (k.map kV))) (u : Put p (.dT (putK [] k y)) L L') (q : ∀ H', Is B M L' H' → Q (.ref p) H') : aDispT p [(.ref b, y)] H Q :=
  ⟨b, k, y, rfl, h1, hb, q _ (I.put u)⟩
end
end Bz
namespace Bz
open PySem PySem.Spec PyProof.Rows L2
/-! ### list(range(n)) -/
section
variable {B H : Hp} {M L : List (Addr × HO)} {σ : St} {Q : VK} {te : TE}
def aLstRg (x : V) (H1 : Hp) (Q : VK) : Prop := ∃ n, x = .int n ∧ RgOk 0 n ∧ ∀ q, H1 q = none → Q (.ref q) (upd H1 q (.lst (rgV 0 n)))
theorem g_lstRg (h : te σ H fun x H1 => aLstRg x H1 Q) : tLstRg (tRg1 te) σ H Q := h
theorem rg_nat (n : Nat) : rgV 0 (n : Int) = (List.range n).map fun (i : Nat) => V.int (i : Int) := by
  unfold rgV
  rw [show ((n : Int) - 0).toNat = n by omega]
  exact List.map_congr_left fun i _ => by rw [Int.zero_add]
end
end Bz
namespace Bz
open PySem PySem.Spec PyProof.Rows L2
/-! ### sorted(xs, key=f), f an own def; sorted of a tuple -/
/-- what a value is, told as data: whole numbers, texts, truths -/
inductive KeyS : V → PyData → Prop
  | int (i : Int) : KeyS (.int i) (.int i)
  | str (z : Str) : KeyS (.str z) (.str z)
  | bl (b : Bool) : KeyS (.bl b) (.bool b)
/-- .. and tuples of these -/
inductive KeyV (H : Hp) : V → PyData → Prop
  | one {y : V} {k : PyData} : KeyS y k → KeyV H y k
  | tup {p : Addr} {xs : List V} {ks : List PyData} : H p = some (.tup xs) → All2 KeyS xs ks → KeyV H (.ref p) (.tuple ks)
theorem KeyV.mono {H H' : Hp} {y : V} {k : PyData} (h : ∀ b xs, H b = some (.tup xs) → H' b = some (.tup xs)) : KeyV H y k → KeyV H' y k
  | .one e => .one e
  | .tup e a => .tup (h _ _ e) a
theorem KeyS.reads {h : Heap} {y : V} {k : PyData} {u : Value} (e : KeyS y k) (r : RelV y u) : Reads h u k [] := by
  cases e with
  | int i =>
    obtain ⟨t, rfl⟩ := r
    exact .int i t
  | str z =>
    obtain ⟨t, rfl⟩ := r
    exact .str z t
  | bl b =>
    cases (show u = .bool b from r)
    exact .bool b
theorem KeyS.readsAll {h : Heap} : ∀ {ys : List V} {ks : List PyData} {us : List Value}, All2 KeyS ys ks → Vals ys us → ReadsAll h us ks []
  | _, _, _, .nil, .nil => .nil
  | _, _, _, .cons a t, .cons r q => .cons (as := []) (bs := []) (a.reads r) (KeyS.readsAll t q)
theorem KeyV.reads {P : Program} {w : World} {H : Hp} {h : Heap} {y : V} {k : PyData} {u : Value} (ok : HOk P w H h) (e : KeyV H y k) (r : RelV y u) : Reads h u k [] := by
  cases e with
  | one e => exact e.reads r
  | @tup p xs ks e a =>
    cases (show u = Value.ref p from r)
    obtain ⟨hz, its, rv, ⟨⟨cls, dd, data, sl⟩, ho, hc, n, hd⟩⟩ := ok p _ e
    exact .tuple ho hc hd (KeyS.readsAll a (by simpa using rv))
/-- a heap without the object at a -/
def without (h : Heap) (a : Addr) : Heap := { h with objs := h.objs.setIfInBounds a { cls := .none, data := .freed } }
theorem without_same {h : Heap} {a : Addr} : (without h a).get? a = none := by
  unfold without Heap.get?
  by_cases q : a < h.objs.size
  · simp [Array.getElem?_setIfInBounds_self_of_lt q]
  · have e : (h.objs.setIfInBounds a { cls := .none, data := .freed })[a]? = none := Array.getElem?_eq_none (by rw [Array.size_setIfInBounds]; exact Nat.le_of_not_lt q)
    show (match (h.objs.setIfInBounds a { cls := .none, data := .freed })[a]? with | some ⟨_, _, .freed, _⟩ => none | o => o) = none
    rw [e]
theorem without_ne {h : Heap} {a b : Addr} (n : b ≠ a) : (without h a).get? b = h.get? b := by
  unfold without Heap.get?
  simp only [Array.getElem?_setIfInBounds_ne (Ne.symm n)]
/-- the items sorted by their keys -/
def keySort (xs : List V) (kz : List PyData) : List V := ((xs.zip kz).mergeSort (PySem.W.dataLe false Prod.snd)).map Prod.fst
theorem keySort_len (xs : List V) (kz : List PyData) (h : kz.length = xs.length) : (keySort xs kz).length = xs.length := by
  unfold keySort
  rw [List.length_map, List.length_mergeSort, List.length_zip, h, Nat.min_self]
theorem each_zip : ∀ {xs : List V} {us : List Value} {kz : List PyData}, Vals xs us → kz.length = xs.length → PySem.W.EachIs (fun (v : Value) (p : V × PyData) => RelV p.1 v) us (xs.zip kz)
  | _, _, [], .nil, _ => .nil
  | _, _, k :: kz, .cons r t, h => .cons r (each_zip t (by simpa using h))
theorem vals_each : ∀ {us : List Value} {ps : List (V × PyData)}, PySem.W.EachIs (fun (v : Value) (p : V × PyData) => RelV p.1 v) us ps → Vals (ps.map Prod.fst) us
  | _, _, .nil => .nil
  | _, _, .cons r t => .cons r (vals_each t)
theorem keyed_vals {xs : List V} {us out : List Value} {kz : List PyData} (rv : Vals xs us) (hl : kz.length = xs.length) (h : PySem.W.KeyedOut false kz us out) : Vals (keySort xs kz) out := by
  have e : (xs.zip kz).map Prod.snd = kz := List.map_snd_zip (by omega)
  refine vals_each (PySem.W.keyedOut_each (rev := false) (bs := xs.zip kz) Prod.snd ?_ (each_zip rv hl))
  rw [e]
  exact h
theorem vals_at : ∀ {xs : List V} {us : List Value} {i : Nat} {u : Value}, Vals xs us → us[i]? = some u → ∃ x, xs[i]? = some x ∧ RelV x u
  | _, _, _, _, .nil, h => by cases h
  | _, _, 0, _, .cons r _, h => by
    cases h
    exact ⟨_, rfl, r⟩
  | _, _, i + 1, _, .cons _ t, h => vals_at (i := i) t h
theorem each_keys2 {P : Program} {w : World} {H : Hp} {h : Heap} (ok : HOk P w H h) : ∀ {ys : List V} {us : List Value} {kz : List PyData}, Vals ys us → All2 (KeyV H) ys kz → PySem.W.EachIs (fun v k => ∃ as, Reads h v k as) us kz
  | _, _, _, .nil, .nil => .nil
  | _, _, _, .cons r t, .cons a b => .cons ⟨[], a.reads ok r⟩ (each_keys2 ok t b)
section
variable {X : Cx} {pins : List (Addr × Obj)} {σ : L2.St} {H : Hp} {s : Shared} {a kS : Addr} {f : Value} {xs : List V} {vs : List Value} {kz : List PyData} {e1 : Nat} {J : Nat → Hp → Prop} {P : PySem.Fin → Shared → Prop} {E : Value → Shared → Prop} {A : Around}
theorem FpOk.other {H' : Hp} {b : Addr} (h : FpOk X pins H b) (n : H' b = none) : FpOk X pins H' b := ⟨n, h.2⟩
theorem key_rest (I : Inv X pins σ H s) (fa : FpOk X pins H a) (fk : FpOk X pins H kS) (nk : s.heap.get? kS = some (seqObj "list" #[] 0)) (na : s.heap.get? a = some (seqObj "list" #[] e1)) (hka : kS ≠ a)
    (rv : Vals xs vs) (hlen : kz.length = vs.length) (hZ : vs.length ≤ sizeLine) (hal : PySem.W.AllAlike kz) (hsk : PySem.W.Sortable kz) (hu : ∀ d, d ∈ kz → A.units + d.depth < cLine) (j0 : J 0 H)
    (turn : ∀ (i : Nat) (x : V) (u : Value) (k : PyData), xs[i]? = some x → RelV x u → kz[i]? = some k → ∀ (pins' : List (Addr × Obj)) (H' : Hp) (s' : Shared), Inv X pins' σ H' s' → J i H' →
      wpAny (model X.prog X.w) A (call f [u]) (fun y s'' => CE X.stack X.prog X.w H' s' (fun y H'' => KeyV H'' y k ∧ J (i + 1) H'') y s'') (fun _ _ => False) s')
    (h : ∀ (H' : Hp) (s' : Shared) (out : List Value) (c : Nat), Inv X pins σ H' s' → FpOk X pins H' a → s'.heap.get? a = some (seqObj "list" (List.toArray out) c) → PySem.W.KeyedOut false kz vs out → J vs.length H' → P (.done (.ret .none)) s') :
    wpAny (model X.prog X.w) A (ksk_rest a f false vs.toArray e1 (.ref kS)) P E s := by
  unfold ksk_rest
  refine wpAny_bind (wpAny_rule ?_)
  first
    | rw [List.forIn_toArray]
    | (rw [← Array.forIn_toList]; simp only [List.toList_toArray])
    | rw [← Array.forIn_toList]
  refine wpAny_bind (ksk_fold (fun i s' => ∃ (H' : Hp) (kA : Array Value) (e : Nat) (ys : List V), Inv X pins σ H' s' ∧ FpOk X pins H' a ∧ FpOk X pins H' kS ∧ s'.heap.get? kS = some (seqObj "list" kA e) ∧ s'.heap.get? a = some (seqObj "list" #[] e1) ∧ Vals ys kA.toList ∧ All2 (KeyV H') ys (kz.take i) ∧ J i H') vs 0 s
    ⟨H, #[], 0, [], I, fa, fk, nk, na, .nil, by rw [List.take_zero]; exact .nil, j0⟩ ?step ?done)
  case step =>
    rintro j u s' hx ⟨H', kA, e, ys, I', fa', fk', nk', na', rk, hk, hj⟩
    simp only [Nat.zero_add] at hk hj ⊢
    have hjl : j < vs.length := (List.getElem?_eq_some_iff.mp hx).1
    obtain ⟨k, hkj⟩ : ∃ k, kz[j]? = some k := ⟨_, List.getElem?_eq_getElem (by omega)⟩
    obtain ⟨x, hxx, rx⟩ := vals_at rv hx
    have hz : kA.size ≤ vs.length := by
      have h1 := hk.len
      have h2 : ys.length = kA.size := by simpa using rk.length
      rw [List.length_take] at h1
      omega
    have I2 := I'.pinned (fp := [kS, a]) (fun b hb => by
      rcases List.mem_cons.mp hb with rfl | hb
      · exact fk'
      · rw [List.mem_singleton.mp hb]
        exact fa') (fun b hb => by
      rcases List.mem_cons.mp hb with rfl | hb
      · exact ⟨_, nk', fun v q => by cases q⟩
      · rw [List.mem_singleton.mp hb]
        exact ⟨_, na', fun v q => by cases q⟩)
    have mk : (kS, seqObj "list" kA e) ∈ pinsAt [kS, a] s'.heap := List.mem_filterMap.mpr ⟨kS, List.mem_cons_self, by rw [nk']; rfl⟩
    have ma : (a, seqObj "list" #[] e1) ∈ pinsAt [kS, a] s'.heap := List.mem_filterMap.mpr ⟨a, List.mem_cons_of_mem _ List.mem_cons_self, by rw [na']; rfl⟩
    refine wpAny_bind (wpAny_attempt (wpAny_mono (turn j x u k hxx rx hkj _ H' s' I2 hj) (fun v s'' he => ?_) fun _ _ hF => hF.elim))
    obtain ⟨yv, H'', os, bare, un, hok, ry, hkey, hj'⟩ := he
    have I3 := I2.call' (ch := []) os un hok bare (fun b z => absurd z (by simp))
    have pk := I3.pin _ (List.mem_append_right _ (List.mem_append_right _ mk))
    have pa := I3.pin _ (List.mem_append_right _ (List.mem_append_right _ ma))
    have nk2 : s''.heap.get? kS = some (seqObj "list" kA e) := pk.1
    have na2 : s''.heap.get? a = some (seqObj "list" #[] e1) := pa.1
    have fk2 : FpOk X pins H'' kS := FpOk.other fk' pk.2.1
    have fa2 : FpOk X pins H'' a := FpOk.other fa' pa.2.1
    have I4 := I3.unpinned
    try dsimp only
    have s1 := Heap.SameBut.update s''.heap kS (Obj.mapSeq (·.push v))
    obtain ⟨c2, hc2⟩ : ∃ c2, (s''.heap.update kS (Obj.mapSeq (·.push v))).get? kS = some (seqObj "list" (kA.push v) c2) := ⟨_, get?_update_seq nk2 (·.push v)⟩
    have ek : kz.take (j + 1) = kz.take j ++ [k] := by rw [List.take_add_one, hkj]; simp
    have ea : (kA.push v).toList = kA.toList ++ [v] := by simp
    refine wpAny_bind (listUpdate_at nk2 rfl ?_ (Nat.le_trans hz hZ) (Nat.le_trans (Nat.le_of_eq (Array.size_push ..)) (Nat.succ_le_succ (Nat.le_trans hz hZ))))
    obtain ⟨f0, f1, f2, f3, f4, f5⟩ := fk2
    have I5 := I4.turned (t' := s''.toks) (it := kS) (h' := s''.heap.update kS (Obj.mapSeq (·.push v))) (fun b o hb e => (s1.2 b hb).trans e) f0 f1 f3 f4 f5
    refine wpAny_pure ⟨rfl, H'', kA.push v, c2, ys ++ [yv], I5, fa2, ⟨f0, f1, f2, f3, f4, f5⟩, hc2, (s1.2 a hka.symm).trans na2, ?_, ?_, hj'⟩
    · rw [ea]
      exact rk.append (.cons ry .nil)
    · rw [ek]
      exact (All2.mono (fun _ _ q => KeyV.mono un.tups q) hk).snoc hkey
  case done =>
    rintro s' ⟨H', kA, e, ys, I', fa', fk', nk', na', rk, hk, hj⟩
    have e3 : kz.take (0 + vs.length) = kz := List.take_of_length_le (by omega)
    rw [e3] at hk
    rw [Nat.zero_add] at hj
    have hk' := each_keys2 I'.hok rk hk
    have hsz : kA.size = vs.length := by
      have h1 := hk.len
      have h2 : ys.length = kA.size := by simpa using rk.length
      omega
    try dsimp only
    refine wpAny_bind (listItems_at nk' rfl ?_)
    refine PySem.W.keyH_end (κ := PySem.W.dataKind s'.heap kz) (h₁ := without s'.heap kS) (fun b o _ q => ?_) without_same nk' na' hka (PySem.W.SortsAt.data (s := s') hk' hal hsk hu) hsz hZ fun h3 tk3 c k3 n3 => ?_
    · by_cases hb : b = kS
      · rw [hb, without_same] at q
        cases q
      · rwa [without_ne hb] at q
    · have I6 : Inv X pins σ H' { s' with heap := h3, toks := tk3 } := I'.turnedL (ch := [kS, a]) (fun b o hb q => by
        have h1 : b ≠ kS := fun z => hb (by rw [z]; exact List.mem_cons_self)
        have h2 : b ≠ a := fun z => hb (by rw [z]; exact List.mem_cons_of_mem _ List.mem_cons_self)
        exact k3 b o h2 (by rw [without_ne h1]; exact q)) (fun b hb => by
        rcases List.mem_cons.mp hb with rfl | hb
        · exact fk'
        · rw [List.mem_singleton.mp hb]
          exact fa')
      exact h H' _ _ c I6 fa' n3 ⟨s'.heap, kA.toList, hal, rfl, hk'⟩ hj
end
section
variable {prog : Program} {w : World} {A : Around} {E : Value → Shared → Prop} {s : Shared}
theorem collect_tup {l : Addr} {vs : List Value} {Q : List Value → Shared → Prop} (hl : IsTup s.heap l vs.toArray)
    (h : Q vs { s with heap := (s.heap.push (seqObj "list" #[] 0)).update s.heap.objs.size (Obj.mapSeq (· ++ vs.toArray)) }) (hsz : vs.length ≤ sizeLine) :
    wpAny (model prog w) A (collect (.ref l)) Q E s := by
  obtain ⟨o, ho, hc, n, hd⟩ := id hl
  unfold collect
  refine wpAny_bind (wpAny_runValue (codeAny_builtin entry_proto_collect' ?_))
  show wpAny _ _ (do again (.builtin "list.__iadd__" ⟨[← newList [], .ref l], []⟩)) _ _ s
  refine wpAny_bind (wpAny_newList (wpAny_pure ⟨Code.quiet_builtin _ (by decide +kernel), codeAny_builtin entry_list_iadd' ?_⟩))
  show wpAny _ _ (Builtin.List.listExtendWith (.ref s.heap.objs.size) (.ref l) (.ref s.heap.objs.size)) _ _ { s with heap := s.heap.push (seqObj "list" #[] 0) }
  unfold Builtin.List.listExtendWith
  have ho' : (s.heap.push (seqObj "list" #[] 0)).get? l = some o := Heap.get?_push_of_some _ ho
  refine wpAny_bind (wpAny_typeOf (T := "tuple") ⟨o, ho', hc⟩ ?_)
  have ht : (Value.type "tuple" == Value.type "tuple") = true := by rfl
  rw [if_pos (by rw [ht]; simp)]
  refine wpAny_bind (listItems_at ho' hd ?_)
  refine wpAny_bind (listItems_at (xs := #[]) (n := 0) (Heap.get?_push_size _ rfl) rfl ?_)
  rw [if_neg (by simp)]
  refine wpAny_bind (listUpdate_at (xs := #[]) (n := 0) (Heap.get?_push_size _ rfl) rfl ?_ (Nat.zero_le _) (by show (#[] ++ vs.toArray).size ≤ sizeLine + 1; simp only [Array.size_append, List.size_toArray, List.length_nil]; omega))
  refine wpAny_pure ?_
  show wpAny (model prog w) A (do
      let o ← load s.heap.objs.size
      match o.data with
      | .seq xs _ => pure xs.toList
      | _ => unsupported "internal:collect") Q E { s with heap := (s.heap.push (seqObj "list" #[] 0)).update s.heap.objs.size (Obj.mapSeq (· ++ vs.toArray)) }
  refine wpAny_bind (wpAny_load (get?_update_seq (Heap.get?_push_size _ rfl) _) ?_)
  show wpAny _ _ (pure ((#[] : Array Value) ++ vs.toArray).toList) Q E _
  rw [show ((#[] : Array Value) ++ vs.toArray).toList = vs by simp]
  exact wpAny_pure h
theorem sorted_of_sort2 {l : Addr} {vs : List Value} {kw : List (Str × Value)} {Q : Value → Shared → Prop} (hl : s.heap.IsList l vs.toArray ∨ IsTup s.heap l vs.toArray) (hL : vs.length ≤ sizeLine) (ha1 : argsOk "sorted" ⟨[.ref l], kw⟩) (ha2 : ∀ x, argsOk "list.sort" ⟨[.ref x], kw⟩)
    (body : ∀ E' : Value → Shared → Prop, wpAny (model prog w) A.in1.in1 (Builtin.«list.sort» ⟨[.ref (s.heap.objs.size + 1)], kw⟩) (fun f s' => f = .done (.ret .none) ∧ Q (.ref (s.heap.objs.size + 1)) s') E' { s with heap := PySem.W.copyHeap s.heap vs }) :
    wpAny (model prog w) A (call (.builtin "sorted") [.ref l] kw) Q E s := by
  rcases hl with hl | hl
  · exact PySem.W.sorted_of_sort hl hL ha1 ha2 body
  refine call_function_entry_kw kind_sorted plain_sorted entry_sorted ha1 ?_
  unfold Builtin.«sorted»
  refine wpAny_bind (m := checkCount "sorted" 1 1 _) (wpAny_pure ?_)
  refine wpAny_bind (collect_tup hl ?_ hL)
  refine wpAny_bind (wpAny_newList ?_ hL)
  have hsz : ((s.heap.push (seqObj "list" #[] 0)).update s.heap.objs.size (Obj.mapSeq (· ++ vs.toArray))).objs.size = s.heap.objs.size + 1 := by
    rw [Heap.size_update, size_push']
  show wpAny _ _ _ _ _ { s with heap := PySem.W.copyHeap s.heap vs }
  rw [hsz]
  refine wpAny_bind (wpAny_holding (wpAny_call_entry_kw slot_list_sort ⟨_, PySem.W.copyHeap_at s.heap vs, rfl⟩ entry_list_sort ?body (ha2 _)))
  case body =>
    show wpAny (model prog w) A.in1.in1 (Builtin.«list.sort» ⟨[.ref (s.heap.objs.size + 1)], kw⟩) _ _ _
    refine wpAny_mono (body _) (fun f s' hf => ?_) fun _ _ e => e
    obtain ⟨rfl, hq⟩ := hf
    exact ⟨_, rfl, wpAny_pure ⟨_, rfl, hq⟩⟩
end
def rSortKey (K : PySem.W.Frag) (f : Str) (sp : Sp) (gV : List V → List V → List V) : List V → List V → Hp → VK → Prop := fun vs zs H Q => ∃ (a : Addr) (xs : List V) (kz : List PyData) (J : Nat → Hp → Prop), vs = [.ref a] ∧ zs = [.ref (He.ga K f)] ∧ (SqL K H a xs ∨ SqT K H a xs) ∧ kz.length = xs.length ∧ PySem.W.AllAlike kz ∧ PySem.W.Sortable kz ∧ (∀ d ∈ kz, d.depth ≤ 5) ∧ J 0 H ∧
  (∀ (i : Nat) (x : V) (k : PyData) (H' : Hp), xs[i]? = some x → kz[i]? = some k → J i H' → sp (gV [x] []) H' (fun y H'' => KeyV H'' y k ∧ J (i + 1) H'') E0) ∧
  ∀ (H' : Hp) (p : Addr), J xs.length H' → H' p = none → Q (.ref p) (upd H' p (.lst (keySort xs kz)))
section
variable {X : Cx} {CX : CXT} {k k' : Nat} {sp : Sp} {f : Str} {gV : List V → List V → List V}
theorem ck_sortKey (c : CallOk X.prog X.w X.K X.mg X.base CX k f 1 [] sp gV) (hr : Room (k' + 2) X.A) (hk : k ≤ k') (hg : X.A.guards = some []) (hx : ∀ E', Passes CX (X.wish E') E0) : CallRK X (.builtin "sorted") [Str.ofString "key"] (rSortKey X.K f sp gV) := by
  intro pins s σ H vs zs us ws Q I r rz h
  obtain ⟨a, xs, kz, J, rfl, rfl, hs, hl, hal, hsk, hdp, j0, ht, q⟩ := h
  obtain rfl := Vals.ref1 r
  obtain rfl := Vals.ref1 rz
  obtain ⟨its, rv, hl2, hz⟩ : ∃ its : List Value, Vals xs its ∧ (s.heap.IsList a its.toArray ∨ IsTup s.heap a its.toArray) ∧ xs.length ≤ sizeLine := by
    rcases hs with hs | hs
    · obtain ⟨its, rv, hl, hz⟩ := I.list hs
      exact ⟨its, rv, .inl hl.isList, hz⟩
    · obtain ⟨its, rv, hl, hz⟩ := I.tuple hs
      exact ⟨its, rv, .inr hl, hz⟩
  have hlen := rv.length
  obtain ⟨⟨fd, ps, g, F, kb⟩, at_, kp⟩ := c
  have hr2 : Room k X.A.in1.in1 := (Room.in1 (Room.in1 hr)).mono hk
  refine sorted_of_sort2 hl2 (by rw [← hlen]; exact hz) (ksk_s1 _ _) (fun _ => ksk_l1 _ _) fun E' => ?_
  show wpAny _ _ (Builtin.«list.sort» ⟨[.ref (s.heap.objs.size + 1)], [(Str.ofString "key", .ref (He.ga X.K f))]⟩) _ _ _
  rw [ksk_t1]
  have hA : s.heap.objs.size ≤ s.heap.objs.size + 1 := Nat.le_succ _
  have ho := PySem.W.copyHeap_at s.heap its
  have ha : s.heap.objs.size + 1 < (PySem.W.copyHeap s.heap its).objs.size := Heap.lt_size ho
  obtain ⟨e1, ho1⟩ : ∃ e1, ((PySem.W.copyHeap s.heap its).update (s.heap.objs.size + 1) (Obj.mapSeq fun _ => (#[] : Array Value))).get? (s.heap.objs.size + 1) = some (seqObj "list" #[] e1) := ⟨_, get?_update_seq ho fun _ => #[]⟩
  have hkS : (((PySem.W.copyHeap s.heap its).update (s.heap.objs.size + 1) (Obj.mapSeq fun _ => (#[] : Array Value))).push (seqObj "tuple" its.toArray 0)).objs.size = (PySem.W.copyHeap s.heap its).objs.size + 1 := by rw [size_push', Heap.size_update]
  unfold ksk_tree
  refine wpAny_bind (listItems_at ho rfl ?_)
  refine wpAny_bind (listUpdate_at ho rfl ?_ (by rw [List.size_toArray, ← hlen]; exact hz) (Nat.zero_le _))
  refine wpAny_bind (seqEpoch_at ho1 rfl ?_)
  refine wpAny_bind (wpAny_newTuple ?_ (by show its.length ≤ _; rw [← hlen]; exact hz))
  refine wpAny_bind (wpAny_newList ?_ (Nat.zero_le _))
  refine wpAny_holding ?_
  have keep : ∀ b o, s.heap.get? b = some o → ((((PySem.W.copyHeap s.heap its).update (s.heap.objs.size + 1) (Obj.mapSeq fun _ => (#[] : Array Value))).push (seqObj "tuple" its.toArray 0)).push (seqObj "list" #[] 0)).get? b = some o := fun b o q =>
    Heap.get?_push_of_some _ (Heap.get?_push_of_some _ ((Heap.get?_update_ne _ _ _ _ (Nat.ne_of_lt (Nat.lt_succ_of_lt (Heap.lt_size q)))).trans (PySem.W.copyHeap_old q)))
  have I1 : Inv X pins σ H { s with heap := (((PySem.W.copyHeap s.heap its).update (s.heap.objs.size + 1) (Obj.mapSeq fun _ => (#[] : Array Value))).push (seqObj "tuple" its.toArray 0)).push (seqObj "list" #[] 0) } := I.kept (t' := s.toks) keep
  have f1 : FpOk X pins H (s.heap.objs.size + 1) := I.fpOk hA (I.hok.fresh hA)
  have hB : s.heap.objs.size ≤ (((PySem.W.copyHeap s.heap its).update (s.heap.objs.size + 1) (Obj.mapSeq fun _ => (#[] : Array Value))).push (seqObj "tuple" its.toArray 0)).objs.size := by
    rw [hkS]
    exact Nat.le_succ_of_le (Nat.le_of_lt (Nat.lt_of_succ_lt ha))
  refine key_rest (kz := kz) (J := J) (xs := xs) I1 f1 (I.fpOk hB (I.hok.fresh hB)) (Heap.get?_push_size _ rfl) (Heap.get?_push_of_some _ (Heap.get?_push_of_some _ ho1)) (by rw [hkS]; exact Nat.ne_of_gt (Nat.lt_succ_of_lt ha)) rv (by rw [hl, hlen]) (by rw [← hlen]; exact hz) hal hsk (fun d hd => ?_) j0 (fun i x u d hxx rx hkd pins' H' s' I' j => ?_) fun H' s' out c I' fa ho' hko j => ⟨rfl, ?_⟩
  · have h1 := hr2.un
    have h2 := hdp d hd
    omega
  · refine wpAny_call (codeAny_mono (F.go X.A.in1.in1 X.stack s' H' ⟨[u], []⟩ (g [u] []) (gV [x] []) _ E0 hr2 hg I'.env0.in1.in1 (kb.to s' [u] [] I'.kIn rfl rfl) (kb.rel (.cons rx .nil) .nil) (ht i x d H' hxx hkd j)) ?_)
    intro r s'' z
    cases r with
    | error e => exact hx (fun _ _ => False) pins' σ H' s' e s'' (I'.wish _) z
    | ok fl =>
      cases fl with
      | ret u => exact z
      | next => exact False.elim z
      | brk => exact False.elim z
      | cont => exact False.elim z
  · have ho2 := keyed_vals rv hl hko
    exact ⟨.ref (s.heap.objs.size + 1), upd H' (s.heap.objs.size + 1) (.lst (keySort xs kz)), I'.take (t' := s'.toks) (h' := s'.heap) (fun _ _ _ e => e) fa ⟨by rw [keySort_len _ _ hl]; exact hz, out, c, ho2, ho'⟩, rfl, q H' _ (by rw [hlen]; exact j) fa.1⟩
end
end Bz
namespace Bz
open PySem PySem.Spec PyProof.Rows L2
/-! ### the head, where a class is asked for a name of its own: what the interpreter keeps beside the program is looked at too -/
def asS (g : Addr → Option Obj) (n : Nat) : List Addr := asE g n ++ [cStatics]
def hookBS (n : Nat) (fa : List He.Fa) (fn : List He.DefD) (ts : List He.Tab) (bs : List Ask) (tf : List He.Defn) : PySem.W.Hook where
  α := AlB × Bool
  obs := fun s => obsBT fa fn ts bs tf s.heap.get? (He.frT s.heap.get? (asS s.heap.get? n))
  val := fun w => (valB fn ts w, true)
  says := fun w h => ∃ K : PySem.W.Frag, K.In h ∧ SaysB fa fn ts bs w K ∧ (∀ p ∈ tf, PySem.W.codeHdIn K (He.cT K p).1 (He.cT K p).2 = true) ∧ (∀ p ∈ tf, K.lookup (He.cT K p).2 = none) ∧ ∀ p ∈ tf, h.get? (He.cT K p).2 = some { cls := .none, data := .fields #[] }
  of := fun w s e => by
    have e1 : obsB fa fn ts bs (He.frT s.heap.get? (asS s.heap.get? n)) = valB fn ts w := congrArg (fun z : AlB × Bool => z.1) e
    have e2 : He.tabsB s.heap.get? tf (He.frT s.heap.get? (asS s.heap.get? n)) = true := congrArg (fun z : AlB × Bool => z.2) e
    have key : ∀ p ∈ tf, PySem.W.codeHdIn (He.frT s.heap.get? (asS s.heap.get? n)) (He.cT (He.frT s.heap.get? (asS s.heap.get? n)) p).1 (He.cT (He.frT s.heap.get? (asS s.heap.get? n)) p).2 = true ∧ ∃ o, s.heap.get? (He.cT (He.frT s.heap.get? (asS s.heap.get? n)) p).2 = some o ∧ He.emptyTab o = true := fun p hp => by
      have h := List.all_eq_true.mp e2 p hp
      simp only [Bool.and_eq_true] at h
      obtain ⟨h3, h4⟩ := h
      refine ⟨h3, ?_⟩
      cases q : s.heap.get? (He.cT (He.frT s.heap.get? (asS s.heap.get? n)) p).2 with
      | none =>
        rw [q] at h4
        cases h4
      | some o =>
        rw [q] at h4
        exact ⟨o, rfl, h4⟩
    exact ⟨_, He.frT_in, e1, fun p hp => (key p hp).1, fun p hp => by
      obtain ⟨_, o, q, z⟩ := key p hp
      exact He.frT_none q z, fun p hp => by
      obtain ⟨_, o, q, z⟩ := key p hp
      rw [q, He.emptyTab_eq z]⟩
  keeps := fun _ _ _ ⟨K, hK, c, h1, h2, h3⟩ k => ⟨K, PySem.W.Frag.In.keeps hK k, c, h1, h2, fun p hp => k _ _ (h3 p hp)⟩
theorem obsBS_eq {n : Nat} {fa : List He.Fa} {fn : List He.DefD} {ts : List He.Tab} {bs : List Ask} {tf : List He.Defn} {g : Addr → Option Obj} {s : Shared} (h : ∀ a, g a = s.heap.get? a) : obsBT fa fn ts bs tf g (He.frT g (asS g n)) = (hookBS n fa fn ts bs tf).obs s := by
  have e : g = s.heap.get? := funext h
  rw [e] <;> rfl
end Bz
namespace Bz
open PySem PySem.Spec PyProof.Rows L2
/-! ### an error made, as a value -/
def tXval (t : St → Hp → XK → Prop) : TE := fun σ H Q => t σ H fun cls d H' => ∀ a, H' a = none → Q (.ref a) (upd H' a (exv a cls d))
theorem pe_xval {X : Cx} {e : Expr} {t : St → Hp → XK → Prop} (he : PMk X e t) : PE X e (tXval t) := by
  refine ⟨fun pins s σ H Q I h => ?_⟩
  refine wpAny_mono (he pins s σ H _ I h) (fun u s' hu => ?_) fun _ _ x => x
  obtain ⟨a, oe, vs, sI, H', cls, d, rfl, J, k, hne, ha, hz, hd, h1, na, os, ag, r, q⟩ := hu
  have L : Inv X pins σ (upd H' a (exv a cls d)) { sI with heap := s'.heap, toks := s'.toks } := J.laidN k hne na (exv_ok ha hz hd)
  obtain ⟨h', g', d', t', o'⟩ := s'
  exact ⟨.ref a, upd H' a (exv a cls d), ⟨L.ok, os.trans L.os, ag, L.base, L.loc, L.cell, L.free, L.freeC, L.pin, L.hok, L.len⟩, rfl, q a na⟩
end Bz
namespace Bz
open PySem PySem.Spec PyProof.Rows L2
/-- of which further classes they are -/
structure ErrKit2 (K : PySem.W.Frag) : Prop where
  kv : KitOk K "BadValue" [] [("LookupError", false), ("IndexError", false), ("RuntimeError", false), ("ZeroDivisionError", false)]
  kt : KitOk K "BadText" [] [("LookupError", false), ("IndexError", false), ("RuntimeError", false), ("ZeroDivisionError", false)]
  kn : KitOk K "NoSuch" [] [("LookupError", true), ("IndexError", false), ("RuntimeError", false), ("ZeroDivisionError", false)]
  km : KitOk K "TooMany" [] [("LookupError", false), ("IndexError", false), ("RuntimeError", false), ("ZeroDivisionError", false)]
def errKit2B (K : PySem.W.Frag) : Bool :=
  kitB K "BadValue" [] [("LookupError", false), ("IndexError", false), ("RuntimeError", false), ("ZeroDivisionError", false)] && (kitB K "BadText" [] [("LookupError", false), ("IndexError", false), ("RuntimeError", false), ("ZeroDivisionError", false)] && (kitB K "NoSuch" [] [("LookupError", true), ("IndexError", false), ("RuntimeError", false), ("ZeroDivisionError", false)] && kitB K "TooMany" [] [("LookupError", false), ("IndexError", false), ("RuntimeError", false), ("ZeroDivisionError", false)]))
theorem errKit2B_ok {K : PySem.W.Frag} (h : errKit2B K = true) : ErrKit2 K := by
  unfold errKit2B at h
  simp only [Bool.and_eq_true] at h
  obtain ⟨a1, a2, a3, a4⟩ := h
  exact ⟨kitB_ok a1, kitB_ok a2, kitB_ok a3, kitB_ok a4⟩
end Bz
namespace Bz
open PySem PySem.Spec PyProof.Rows L2
/-! ### sorted by a key, dicts by tuples and ints, len(set(..)): steps -/
theorem all2_pairs {α β : Type} {R : α → β → Prop} : ∀ {l : List (α × β)}, (∀ p ∈ l, R p.1 p.2) → All2 R (l.map Prod.fst) (l.map Prod.snd)
  | [], _ => .nil
  | p :: l, h => .cons (h p List.mem_cons_self) (all2_pairs fun q hq => h q (List.mem_cons_of_mem _ hq))
theorem all2_zip {α β : Type} {R : α → β → Prop} : ∀ {xs : List α} {bs : List β}, All2 R xs bs → ∀ p ∈ xs.zip bs, R p.1 p.2
  | _, _, .nil, p, hp => by cases hp
  | _, _, .cons h t, p, hp => by
    rcases List.mem_cons.mp hp with rfl | hp
    · exact h
    · exact all2_zip t p hp
/-- the items that stand for bs, sorted: they stand for bs, sorted -/
theorem keySort_all2 {β : Type} {R : V → β → Prop} {xs : List V} {bs : List β} (h : All2 R xs bs) (key : β → PyData) : All2 R (keySort xs (bs.map key)) (bs.mergeSort (PySem.W.dataLe false key)) := by
  have hl := h.len
  have e1 : xs.zip (bs.map key) = (xs.zip bs).map (fun p => (p.1, key p.2)) := by
    rw [List.zip_map_right]
    rfl
  have e2 : ((xs.zip bs).mergeSort (fun p q => PySem.W.dataLe false key p.2 q.2)).map (fun p => (p.1, key p.2)) = ((xs.zip bs).map (fun p => (p.1, key p.2))).mergeSort (PySem.W.dataLe false Prod.snd) :=
    List.map_mergeSort fun _ _ _ _ => rfl
  have e3 : ((xs.zip bs).mergeSort (fun p q => PySem.W.dataLe false key p.2 q.2)).map Prod.snd = ((xs.zip bs).map Prod.snd).mergeSort (PySem.W.dataLe false key) :=
    List.map_mergeSort fun _ _ _ _ => rfl
  have e4 : (xs.zip bs).map Prod.snd = bs := List.map_snd_zip (by omega)
  unfold keySort
  rw [e1, ← e2, List.map_map]
  rw [e4] at e3
  rw [← e3]
  exact all2_pairs (l := (xs.zip bs).mergeSort (fun p q => PySem.W.dataLe false key p.2 q.2)) fun p hp => all2_zip h p ((List.mergeSort_perm _ _).mem_iff.mp hp)
theorem mergeSort_eq {β : Type} {le : β → β → Bool} {bs cs : List β} (tr : ∀ a b c, le a b = true → le b c = true → le a c = true) (to : ∀ a b, (le a b || le b a) = true) (anti : ∀ a b, a ∈ bs → b ∈ bs → le a b = true → le b a = true → a = b) (hp : cs.Perm bs) (hs : cs.Pairwise fun a b => le a b = true) : bs.mergeSort le = cs := by
  have h1 := List.pairwise_mergeSort tr to bs
  have h2 := List.mergeSort_perm bs le
  refine List.Perm.eq_of_pairwise (le := fun a b => le a b = true) (fun a b ha hb => anti a b (h2.mem_iff.mp ha) (hp.mem_iff.mp hb)) h1 hs (h2.trans hp.symm)
section
variable {K : PySem.W.Frag} {B H : Hp} {M L L' : List (Addr × HO)} {Q : VK} {v : V}
theorem g_sortKey {β : Type} {R : V → β → Prop} {f : Str} {sp : Sp} {gV : List V → List V → List V} {a : Addr} {xs : List V} {bs : List β} (key : β → PyData) (I : Is B M L H) (hs : SqL K H a xs ∨ SqT K H a xs) (h : All2 R xs bs) (hal : PySem.W.AllAlike (bs.map key)) (hsk : PySem.W.Sortable (bs.map key)) (hd : ∀ d ∈ bs.map key, d.depth ≤ 5)
    (ht : ∀ x b H', R x b → Is B M L H' → sp (gV [x] []) H' (fun y H'' => KeyV H'' y (key b) ∧ Is B M L H'') E0) (q : ∀ p ys H', All2 R ys (bs.mergeSort (PySem.W.dataLe false key)) → Is B M ((p, .lst ys) :: L) H' → Q (.ref p) H') : rSortKey K f sp gV [.ref a] [.ref (He.ga K f)] H Q := by
  have hl := h.len
  refine ⟨a, xs, bs.map key, fun _ H' => Is B M L H', rfl, rfl, hs, by rw [List.length_map, hl], hal, hsk, hd, I, fun i x k H' hx hk I' => ?_, fun H' p I' hp => q p _ _ (keySort_all2 h key) (I'.new hp)⟩
  obtain ⟨b, hb, hR⟩ := h.get hx
  rw [List.getElem?_map, hb] at hk
  cases hk
  exact ht x b H' hR I'
theorem g_newT {σ : St} (I : Is B M L H) (q : ∀ p H', Is B M ((p, .dT []) :: L) H' → Q (.ref p) H') : tDNewT σ H Q := fun p hp => q p _ (I.new hp)
theorem g_aDGetT {a b : Addr} {kvs : List (List Key × V)} {k : List Key} (h : H a = some (.dT kvs)) (hb : H b = some (.tup (k.map kV))) (e : valV kvs k = some v) (q : Q v H) : aDGet (.ref a) (.ref b) H Q := ⟨a, v, rfl, by rw [← e]; exact DGet.t h hb, q⟩
theorem g_aDGetI {a : Addr} {kvs : List (Key × V)} {n : Int} (h : H a = some (.dK kvs)) (e : valV kvs (Sum.inl n) = some v) (q : Q v H) : aDGet (.ref a) (.int n) H Q := ⟨a, v, rfl, .inl ⟨kvs, .inl n, .inl h, rfl, e.symm⟩, q⟩
theorem g_aDPutT {a b : Addr} {kvs : List (List Key × V)} {k : List Key} {QH : Hp → Prop} (I : Is B M L H) (h : H a = some (.dT kvs)) (hb : H b = some (.tup (k.map kV))) (hz : kvs.length < 100000) (u : Put a (.dT (putK kvs k v)) L L') (q : ∀ H', Is B M L' H' → QH H') : aDPut v (.ref a) (.ref b) H QH :=
  ⟨a, _, rfl, DPut.t h hb (sz6' (by omega)), q _ (I.put u)⟩
theorem g_aDPutI {a : Addr} {kvs : List (Key × V)} {n : Int} {QH : Hp → Prop} (I : Is B M L H) (h : H a = some (.dK kvs)) (hz : kvs.length < 100000) (u : Put a (.dK (putK kvs (Sum.inl n) v)) L L') (q : ∀ H', Is B M L' H' → QH H') : aDPut v (.ref a) (.int n) H QH :=
  ⟨a, _, rfl, .inl ⟨kvs, .inl n, h, rfl, sz6' (by omega), rfl⟩, q _ (I.put u)⟩
theorem g_lenSet {σ : St} {ta : TE} (h : ta σ H fun x H1 => ∃ (l : Addr) (ns : List Int), x = .ref l ∧ SqL K H1 l (ns.map V.int) ∧ ns.Nodup ∧ ns.length ≤ 4000 ∧ Q (.int (ns.length : Nat)) H1) : RZ.tLenSetI K ta σ H Q := h
theorem g_dNotInI {ty td : TE} {σ : St} (h : ty σ H fun y H1 => td σ H1 fun x H2 => ∃ a o, x = .ref a ∧ DGet H2 a y o ∧ Q (.bl (!o.isSome)) H2) : tDNotIn ty td σ H Q := h
theorem g_dInI {ty td : TE} {σ : St} (h : ty σ H fun y H1 => td σ H1 fun x H2 => ∃ a o, x = .ref a ∧ DGet H2 a y o ∧ Q (.bl o.isSome) H2) : tDIn ty td σ H Q := h
theorem valI_at {nv : List (Key × V)} : ∀ {i : Nat} {n : Int} {v : V}, (nv.map (·.1)).Nodup → nv[i]? = some (Sum.inl n, v) → valV nv (Sum.inl n) = some v := by
  induction nv with
  | nil => intro i n v _ h; cases h
  | cons p r ih =>
    intro i n v hn h
    cases i with
    | zero =>
      cases h
      exact valV_pos rfl
    | succ i =>
      rw [List.map_cons, List.nodup_cons] at hn
      have h : r[i]? = some (Sum.inl n, v) := h
      rw [valV_neg (fun e => hn.1 (by rw [e]; exact List.mem_map.mpr ⟨_, List.mem_of_getElem? h, rfl⟩))]
      exact ih hn.2 h
end
end Bz
namespace Bz
open PySem PySem.Spec PyProof.Rows L2
/-! ### x in l, of data of any depth -/
theorem hu65 {A : Around} {k : Nat} (h : Room k A) : A.units + 65 < cLine := by
  have := h.un
  omega
section
variable {K : PySem.W.Frag} {H : Hp} {Q : VK} {x y : V}
theorem g_inD {d : PyData} {ds : List PyData} (h1 : Dp K H x d) (h2 : Dp K H y (.list ds)) (s1 : SeqAt.shaped d = true) (s2 : SeqAt.shaped (.list ds) = true) (q : Q (.bl (ds.any fun z => PyData.eqv z d)) H) : rInD K x y H Q := ⟨d, ds, h1, h2, s1, s2, q⟩
theorem g_notInD {d : PyData} {ds : List PyData} (h1 : Dp K H x d) (h2 : Dp K H y (.list ds)) (s1 : SeqAt.shaped d = true) (s2 : SeqAt.shaped (.list ds) = true) (q : Q (.bl (!ds.any fun z => PyData.eqv z d)) H) : rNotInD K x y H Q := ⟨d, ds, h1, h2, s1, s2, q⟩
end
end Bz
namespace Bz
open PySem PySem.Spec PyProof.Rows L2
/-! ### min(xs, key=f), f an own def that tells whole numbers, xs a list of objects, not empty -/
section
variable {X : Cx} {pins : List (Addr × Obj)} {σ : L2.St} {A : Around} {J : Hp → Prop} {as : List Addr} {kf : Nat → Int} {l q : Addr} {R : Result → Shared → Prop}
theorem refs_vals : ∀ {as : List Addr} {us : List Value}, Vals (as.map V.ref) us → us = as.map Value.ref
  | [], _, .nil => rfl
  | a :: as, _, .cons r t => by
    cases (show _ = Value.ref a from r)
    rw [refs_vals t]
    rfl
theorem listRefs {H : Hp} {s : Shared} (I : Inv X pins σ H s) (h : SqL X.K H l (as.map V.ref)) : s.heap.IsList l (as.map Value.ref).toArray := by
  obtain ⟨its, rv, hl, _⟩ := I.list h
  rw [← refs_vals rv]
  exact hl.isList
theorem min_loopI {I S : Addr} (hh : A.handled = none) (hSI : S ≠ I) (hJ : ∀ H, J H → SqL X.K H l (as.map V.ref))
    (turn : ∀ (i : Nat) (a : Addr), as[i]? = some a → ∀ (pins' : List (Addr × Obj)) (H' : Hp) (s' : Shared), Inv X pins' σ H' s' → J H' →
      wpAny (model X.prog X.w) A.in1 (call (.ref q) [.ref a]) (fun y s'' => CE X.stack X.prog X.w H' s' (fun y H'' => y = .int (kf i) ∧ J H'') y s'') (fun _ _ => False) s')
    (hR : ∀ (i : Nat) (a : Addr) (H' : Hp) (s' : Shared), as[i]? = some a → (∀ j, j < as.length → kf i ≤ kf j ∧ (j < i → kf i < kf j)) → Inv X pins σ H' s' → J H' → R (.ok (.ret (.ref a))) s') :
    ∀ (r j i : Nat) (H : Hp) (s : Shared) (ab : Addr) (tb : Tok) (c : Nat), as.length - (j + 1) = r → j + 1 ≤ as.length → Inv X pins σ H s → J H → FpOk X pins H I → FpOk X pins H S →
      s.heap.get? S = some (seqObj "list" #[.ref ab, .int (kf i) tb] c) → s.heap.IsListIter I l (j + 1) → as[i]? = some ab → i ≤ j → (∀ j', j' ≤ j → kf i ≤ kf j' ∧ (j' < i → kf i < kf j')) →
      codeAny (model X.prog X.w) A (.builtin "min.loop" ⟨[.ref I, .ref q, .ref S], []⟩) R s := by
  have hname : (toString "min" ++ toString ".loop" : String) = "min.loop" := by decide
  intro r
  induction r with
  | zero =>
    intro j i H s ab tb c hr hj I0 j0 fI fS nS hit hvb hij hbest
    have hin : j + 1 = as.length := by omega
    have hls := listRefs I0 (hJ _ j0)
    refine codeAny_builtin PySem.F.entry_min_loop ?_
    rw [Around.under_plainId PySem.F.plain_min_loop _]
    show wpAny _ A.in1 (seqItems? (.ref S) >>= _) _ _ _
    refine wpAny_bind (wpAny_seqItems nS rfl ?_)
    show wpAny _ A.in1 (tryCatch (pyNext (.ref I)) _ >>= _) _ _ _
    refine wpAny_bind (wpAny_tryCatch (wpAny_pyNext_list_end (A := A.in1) hh hit hls (by simp [hin]) fun h' hk' => ?_))
    have I1 := I0.turned (t' := s.toks) (it := I) (h' := h') (fun b o hb e => hk' b o hb e) fI.1 fI.2.1 fI.2.2.2.1 fI.2.2.2.2.1 fI.2.2.2.2.2
    have nS' := hk' S _ hSI nS
    have s1 := Heap.SameBut.update h' S (Obj.mapSeq fun _ => (#[] : Array Value))
    have I2 := I1.turned (t' := s.toks) (it := S) (h' := h'.update S (Obj.mapSeq fun _ => (#[] : Array Value))) (fun b o hb e => (s1.2 b hb).trans e) fS.1 fS.2.1 fS.2.2.2.1 fS.2.2.2.2.1 fS.2.2.2.2.2
    show wpAny _ A.in1 (updateSeq S (fun _ => #[]) >>= _) _ _ _
    refine wpAny_bind ?_
    refine wpAny_updateSeq nS' rfl (wpAny_bind (wpAny_letGo (wpAny_pure ?_)))
    exact hR i ab H _ hvb (fun j' hj' => hbest j' (by omega)) I2 j0
  | succ r ih =>
    intro j i H s ab tb c hr hj I0 j0 fI fS nS hit hvb hij hbest
    have hlt : j + 1 < as.length := by omega
    have hls := listRefs I0 (hJ _ j0)
    obtain ⟨a2, ha2⟩ : ∃ a2, as[j + 1]? = some a2 := ⟨_, List.getElem?_eq_getElem hlt⟩
    refine codeAny_builtin PySem.F.entry_min_loop ?_
    rw [Around.under_plainId PySem.F.plain_min_loop _]
    show wpAny _ A.in1 (seqItems? (.ref S) >>= _) _ _ _
    refine wpAny_bind (wpAny_seqItems nS rfl ?_)
    show wpAny _ A.in1 (tryCatch (pyNext (.ref I)) _ >>= _) _ _ _
    refine wpAny_bind (wpAny_tryCatch (wpAny_pyNext_list_item (A := A.in1) (x := .ref a2) hit hls (by simp [ha2]) fun h' hit' hk' => ?_))
    have I1 := I0.turned (t' := s.toks) (it := I) (h' := h') (fun b o hb e => (hk'.2 b hb).trans e) fI.1 fI.2.1 fI.2.2.2.1 fI.2.2.2.2.1 fI.2.2.2.2.2
    have nS' : h'.get? S = some (seqObj "list" #[.ref ab, .int (kf i) tb] c) := (hk'.2 S hSI).trans nS
    obtain ⟨oI, hoI, hoc, hod⟩ := id hit'
    have I2 := I1.pinned (fp := [S, I]) (fun b hb => by
      rcases List.mem_cons.mp hb with rfl | hb
      · exact fS
      · rw [List.mem_singleton.mp hb]
        exact fI) (fun b hb => by
      rcases List.mem_cons.mp hb with rfl | hb
      · exact ⟨_, nS', fun v q => by cases q⟩
      · rw [List.mem_singleton.mp hb]
        exact ⟨_, hoI, fun v q => by rw [hod] at q; cases q⟩)
    have mS : (S, seqObj "list" #[.ref ab, .int (kf i) tb] c) ∈ pinsAt [S, I] h' := List.mem_filterMap.mpr ⟨S, List.mem_cons_self, by rw [nS']; rfl⟩
    have mI : (I, oI) ∈ pinsAt [S, I] h' := List.mem_filterMap.mpr ⟨I, List.mem_cons_of_mem _ List.mem_cons_self, by rw [hoI]; rfl⟩
    show wpAny _ A.in1 (tryCatch (holding [Value.ref a2] (call (.ref q) [.ref a2])) _ >>= _) _ _ _
    refine wpAny_bind (wpAny_tryCatch (wpAny_holding (wpAny_mono (turn (j + 1) a2 ha2 _ H _ I2 j0) (fun x s'' he => ?_) fun _ _ hF => hF.elim)))
    obtain ⟨yv, H'', os, bare, un, hok, ry, hkey, j2⟩ := he
    subst hkey
    obtain ⟨t2, rfl⟩ := ry
    have I3 := I2.call' (ch := []) os un hok bare (fun b z => absurd z (by simp))
    have pS := I3.pin _ (List.mem_append_right _ (List.mem_append_right _ mS))
    have pI := I3.pin _ (List.mem_append_right _ (List.mem_append_right _ mI))
    have nS2 : s''.heap.get? S = some (seqObj "list" #[.ref ab, .int (kf i) tb] c) := pS.1
    have nI2 : s''.heap.get? I = some oI := pI.1
    have fS2 : FpOk X pins H'' S := FpOk.other fS pS.2.1
    have fI2 : FpOk X pins H'' I := FpOk.other fI pI.2.1
    have I4 := I3.unpinned
    have hit2 : s''.heap.IsListIter I l (j + 1 + 1) := ⟨oI, nI2, hoc, hod⟩
    show wpAny _ A.in1 (tryCatch (holding [Value.ref a2, .int (kf (j + 1)) t2] (richCompare .Lt (.int (kf (j + 1)) t2) (.int (kf i) tb) >>= _)) _ >>= _) _ _ _
    refine wpAny_bind (wpAny_tryCatch (wpAny_holding (wpAny_bind (CmpOf.ints_lt (prog := X.prog) (w := X.w) (A := A.in1) (P := fun i v => ∃ t, v = .int (kf i) t) kf (fun i v h => h) (j + 1) i _ _ _ _ _ ⟨t2, rfl⟩ ⟨tb, rfl⟩ ?_))))
    refine wpAny_bind (wpAny_holding (wpAny_truthy_bool ?_))
    refine wpAny_bind (wpAny_letGo (wpAny_pure ?_))
    by_cases hb' : kf (j + 1) < kf i
    · have s1 := Heap.SameBut.update s''.heap S (Obj.mapSeq fun _ => #[.ref a2, .int (kf (j + 1)) t2])
      obtain ⟨c2, hc2⟩ : ∃ c2, (s''.heap.update S (Obj.mapSeq fun _ => #[.ref a2, .int (kf (j + 1)) t2])).get? S = some (seqObj "list" #[.ref a2, .int (kf (j + 1)) t2] c2) := ⟨_, get?_update_seq nS2 fun _ => #[.ref a2, .int (kf (j + 1)) t2]⟩
      have I5 := I4.turned (t' := s''.toks) (it := S) (h' := s''.heap.update S (Obj.mapSeq fun _ => #[.ref a2, .int (kf (j + 1)) t2])) (fun b o hb e => (s1.2 b hb).trans e) fS2.1 fS2.2.1 fS2.2.2.2.1 fS2.2.2.2.2.1 fS2.2.2.2.2.2
      simp only [hb', decide_true, if_true]
      refine wpAny_bind ?_
      refine wpAny_updateSeq nS2 rfl (wpAny_bind (wpAny_letGo ?_))
      rw [hname]
      refine wpAny_pure ⟨plainId_quiet PySem.F.plain_min_loop _, ih (j + 1) (j + 1) H'' _ a2 t2 c2 (by omega) hlt I5 j2 fI2 fS2 hc2 ⟨oI, (s1.2 I hSI.symm).trans nI2, hoc, hod⟩ ha2 (Nat.le_refl _) fun j' hj' => ?_⟩
      by_cases e : j' = j + 1
      · subst e
        exact ⟨by omega, fun _ => by omega⟩
      · have hb1 := hbest j' (by omega)
        have hb2 := hb1.1
        exact ⟨by omega, fun _ => by omega⟩
    · simp only [hb', decide_false, Bool.false_eq_true, if_false]
      refine wpAny_bind (wpAny_letGo ?_)
      rw [hname]
      refine wpAny_pure ⟨plainId_quiet PySem.F.plain_min_loop _, ih (j + 1) i H'' _ ab tb c (by omega) hlt I4 j2 fI2 fS2 nS2 hit2 hvb (by omega) fun j' hj' => ?_⟩
      by_cases e : j' = j + 1
      · subst e
        exact ⟨by omega, fun _ => by omega⟩
      · exact hbest j' (by omega)
end
def rMinKey (K : PySem.W.Frag) (f : Str) (sp : Sp) (gV : List V → List V → List V) : List V → List V → Hp → VK → Prop := fun vs zs H Q => ∃ (a : Addr) (as : List Addr) (kf : Nat → Int) (J : Hp → Prop), vs = [.ref a] ∧ zs = [.ref (He.ga K f)] ∧ 0 < as.length ∧ J H ∧ (∀ H, J H → SqL K H a (as.map V.ref)) ∧
  (∀ (i : Nat) (b : Addr) (H' : Hp), as[i]? = some b → J H' → sp (gV [.ref b] []) H' (fun y H'' => y = .int (kf i) ∧ J H'') E0) ∧
  ∀ (i : Nat) (b : Addr) (H' : Hp), as[i]? = some b → (∀ j, j < as.length → kf i ≤ kf j ∧ (j < i → kf i < kf j)) → J H' → Q (.ref b) H'
section
variable {X : Cx} {CX : CXT} {k k' : Nat} {sp : Sp} {f : Str} {gV : List V → List V → List V}
theorem ck_minKey (hc : X.calm = true) (c : CallOk X.prog X.w X.K X.mg X.base CX k f 1 [] sp gV) (hr : Room (k' + 2) X.A) (hk : k ≤ k') (hg : X.A.guards = some []) (hx : ∀ E', Passes CX (X.wish E') E0) : CallRK X (.builtin "min") [Str.ofString "key"] (rMinKey X.K f sp gV) := by
  intro pins s σ H vs zs us ws Q I0 r rz h
  obtain ⟨a, as, kf, J, rfl, rfl, hne, j0, hJ, ht, q⟩ := h
  obtain rfl := Vals.ref1 r
  obtain rfl := Vals.ref1 rz
  have hh : X.A.handled = none := I0.ok.hd hc
  have hls := listRefs I0 (hJ _ j0)
  obtain ⟨⟨fd, ps, g, F, kb⟩, at_, kp⟩ := c
  have hr2 : Room k X.A.in1 := (Room.in1 hr).mono (Nat.le_succ_of_le hk)
  have turn : ∀ (i : Nat) (b : Addr), as[i]? = some b → ∀ (pins' : List (Addr × Obj)) (H' : Hp) (s' : Shared), Inv X pins' σ H' s' → J H' →
      wpAny (model X.prog X.w) X.A.in1 (call (.ref (He.ga X.K f)) [.ref b]) (fun y s'' => CE X.stack X.prog X.w H' s' (fun y H'' => y = .int (kf i) ∧ J H'') y s'') (fun _ _ => False) s' := fun i b hb pins' H' s' I' j => by
    refine wpAny_call (codeAny_mono (F.go X.A.in1 X.stack s' H' ⟨[.ref b], []⟩ (g [.ref b] []) (gV [.ref b] []) _ E0 hr2 hg I'.env0.in1 (kb.to s' [.ref b] [] I'.kIn rfl rfl) (kb.rel (.cons rfl .nil) .nil) (ht i b H' hb j)) ?_)
    intro r s'' z
    cases r with
    | error e => exact hx (fun _ _ => False) pins' σ H' s' e s'' (I'.wish _) z
    | ok fl =>
      cases fl with
      | ret u => exact z
      | next => exact False.elim z
      | brk => exact False.elim z
      | cont => exact False.elim z
  have hname : (toString "min" ++ toString ".loop" : String) = "min.loop" := by decide
  refine kmk_tree PySem.F.kind_min PySem.F.plain_min PySem.F.entry_min (kmk_min_key _ _) ?_
  show wpAny _ X.A.in1 (Builtin.Builtins.bindParams "min" ["key", "default"] 0 ⟨[], [(Str.ofString "key", .ref (He.ga X.K f))]⟩ >>= _) _ _ s
  refine wpAny_bind (wpAny_of_eq (show Builtin.Builtins.bindParams "min" ["key", "default"] 0 ⟨[], [(Str.ofString "key", .ref (He.ga X.K f))]⟩ = pure [some (.ref (He.ga X.K f)), none] from rfl) ?_)
  refine wpAny_bind (wpAny_pure ?_)
  refine wpAny_bind (wpAny_pyIter_list hls ?_)
  refine wpAny_bind (wpAny_newList ?_ (Nat.zero_le _))
  rw [hname]
  have hS : (s.heap.push { cls := .type "list_iterator", data := .fields #[.ref a, .int 0 0] }).objs.size = s.heap.objs.size + 1 := size_push' ..
  have hSI : (s.heap.push { cls := .type "list_iterator", data := .fields #[.ref a, .int 0 0] }).objs.size ≠ s.heap.objs.size := by rw [hS]; exact Nat.ne_of_gt (Nat.lt_succ_self _)
  have keep : ∀ b o, s.heap.get? b = some o → ((s.heap.push { cls := .type "list_iterator", data := .fields #[.ref a, .int 0 0] }).push (seqObj "list" #[] 0)).get? b = some o := fun b o e => Heap.get?_push_of_some _ (Heap.get?_push_of_some _ e)
  have I1 : Inv X pins σ H { s with heap := (s.heap.push { cls := .type "list_iterator", data := .fields #[.ref a, .int 0 0] }).push (seqObj "list" #[] 0) } := I0.kept (t' := s.toks) keep
  have fI : FpOk X pins H s.heap.objs.size := I0.fpOk (Nat.le_refl _) (I0.hok.fresh (Nat.le_refl _))
  have hle : s.heap.objs.size ≤ (s.heap.push { cls := .type "list_iterator", data := .fields #[.ref a, .int 0 0] }).objs.size := by rw [hS]; exact Nat.le_succ _
  have fS : FpOk X pins H (s.heap.push { cls := .type "list_iterator", data := .fields #[.ref a, .int 0 0] }).objs.size := I0.fpOk hle (I0.hok.fresh hle)
  have gI : ((s.heap.push { cls := .type "list_iterator", data := .fields #[.ref a, .int 0 0] }).push (seqObj "list" #[] 0)).get? s.heap.objs.size = some { cls := .type "list_iterator", data := .fields #[.ref a, .int 0 0] } :=
    Heap.get?_push_of_some _ (Heap.get?_push_size _ rfl)
  have gS : ((s.heap.push { cls := .type "list_iterator", data := .fields #[.ref a, .int 0 0] }).push (seqObj "list" #[] 0)).get? (s.heap.push { cls := .type "list_iterator", data := .fields #[.ref a, .int 0 0] }).objs.size = some (seqObj "list" #[] 0) := Heap.get?_push_size _ rfl
  generalize (s.heap.push { cls := .type "list_iterator", data := .fields #[.ref a, .int 0 0] }).objs.size = S at *
  generalize s.heap.objs.size = I at *
  generalize (s.heap.push { cls := .type "list_iterator", data := .fields #[.ref a, .int 0 0] }).push (seqObj "list" #[] 0) = h1 at *
  obtain ⟨a2, ha2⟩ : ∃ a2, as[0]? = some a2 := ⟨_, List.getElem?_eq_getElem hne⟩
  have hls1 := listRefs I1 (hJ _ j0)
  refine wpAny_pure ⟨plainId_quiet PySem.F.plain_min_loop _, ?_⟩
  refine codeAny_builtin PySem.F.entry_min_loop ?_
  rw [Around.under_plainId PySem.F.plain_min_loop _]
  show wpAny _ X.A.in1 (seqItems? (.ref S) >>= _) _ _ _
  refine wpAny_bind (wpAny_seqItems gS rfl ?_)
  show wpAny _ X.A.in1 (tryCatch (pyNext (.ref I)) _ >>= _) _ _ _
  refine wpAny_bind (wpAny_tryCatch (wpAny_pyNext_list_item (A := X.A.in1) (x := .ref a2) (i := 0) ⟨_, gI, rfl, rfl⟩ hls1 (by simp [ha2]) fun h' hit' hk' => ?_))
  have I2 := I1.turned (t' := s.toks) (it := I) (h' := h') (fun b o hb e => (hk'.2 b hb).trans e) fI.1 fI.2.1 fI.2.2.2.1 fI.2.2.2.2.1 fI.2.2.2.2.2
  have nS' : h'.get? S = some (seqObj "list" #[] 0) := (hk'.2 S hSI).trans gS
  obtain ⟨oI, hoI, hoc, hod⟩ := id hit'
  have I3 := I2.pinned (fp := [S, I]) (fun b hb => by
    rcases List.mem_cons.mp hb with rfl | hb
    · exact fS
    · rw [List.mem_singleton.mp hb]
      exact fI) (fun b hb => by
    rcases List.mem_cons.mp hb with rfl | hb
    · exact ⟨_, nS', fun v q => by cases q⟩
    · rw [List.mem_singleton.mp hb]
      exact ⟨_, hoI, fun v q => by rw [hod] at q; cases q⟩)
  have mS : (S, seqObj "list" #[] 0) ∈ pinsAt [S, I] h' := List.mem_filterMap.mpr ⟨S, List.mem_cons_self, by rw [nS']; rfl⟩
  have mI : (I, oI) ∈ pinsAt [S, I] h' := List.mem_filterMap.mpr ⟨I, List.mem_cons_of_mem _ List.mem_cons_self, by rw [hoI]; rfl⟩
  show wpAny _ X.A.in1 (tryCatch (holding [Value.ref a2] (call (.ref (He.ga X.K f)) [.ref a2])) _ >>= _) _ _ _
  refine wpAny_bind (wpAny_tryCatch (wpAny_holding (wpAny_mono (turn 0 a2 ha2 _ H _ I3 j0) (fun x s'' he => ?_) fun _ _ hF => hF.elim)))
  obtain ⟨yv, H'', os, bare, un, hok, ry, hkey, j2⟩ := he
  subst hkey
  obtain ⟨t2, rfl⟩ := ry
  have I4 := I3.call' (ch := []) os un hok bare (fun b z => absurd z (by simp))
  have pS := I4.pin _ (List.mem_append_right _ (List.mem_append_right _ mS))
  have pI := I4.pin _ (List.mem_append_right _ (List.mem_append_right _ mI))
  have nS2 : s''.heap.get? S = some (seqObj "list" #[] 0) := pS.1
  have nI2 : s''.heap.get? I = some oI := pI.1
  have fS2 : FpOk X pins H'' S := FpOk.other fS pS.2.1
  have fI2 : FpOk X pins H'' I := FpOk.other fI pI.2.1
  have I5 := I4.unpinned
  have s1 := Heap.SameBut.update s''.heap S (Obj.mapSeq fun _ => #[.ref a2, .int (kf 0) t2])
  obtain ⟨c2, hc2⟩ : ∃ c2, (s''.heap.update S (Obj.mapSeq fun _ => #[.ref a2, .int (kf 0) t2])).get? S = some (seqObj "list" #[.ref a2, .int (kf 0) t2] c2) := ⟨_, get?_update_seq nS2 fun _ => #[.ref a2, .int (kf 0) t2]⟩
  have I6 := I5.turned (t' := s''.toks) (it := S) (h' := s''.heap.update S (Obj.mapSeq fun _ => #[.ref a2, .int (kf 0) t2])) (fun b o hb e => (s1.2 b hb).trans e) fS2.1 fS2.2.1 fS2.2.2.2.1 fS2.2.2.2.2.1 fS2.2.2.2.2.2
  show wpAny _ X.A.in1 (updateSeq S (fun _ => #[.ref a2, .int (kf 0) t2]) >>= _) _ _ _
  refine wpAny_bind ?_
  refine wpAny_updateSeq nS2 rfl ?_
  rw [hname]
  refine wpAny_pure ⟨plainId_quiet PySem.F.plain_min_loop _, min_loopI hh hSI hJ turn (fun i b H' s' hb hbest I' j => ?_) _ 0 0 H'' _ a2 t2 c2 rfl hne I6 j2 fI2 fS2 hc2 ⟨oI, (s1.2 I hSI.symm).trans nI2, hoc, hod⟩ ha2 (Nat.le_refl _) fun j' hj' => ?_⟩
  · exact ⟨.ref b, H', I', rfl, q i b H' hb hbest j⟩
  · have e : j' = 0 := by omega
    subst e
    exact ⟨by omega, fun z => absurd z (by omega)⟩
end
end Bz
namespace Bz
open PySem PySem.Spec PyProof.Rows L2
/-! ### xs[::-1], xs a list -/
def tRev (K : PySem.W.Frag) (te : TE) (tk : TO) : TE := fun σ H Q => te σ H fun x H1 => tk σ H1 fun k H2 => k = some (-1) ∧ ∃ a xs, x = .ref a ∧ SqL K H2 a xs ∧ ∀ p, H2 p = none → Q (.ref p) (upd H2 p (.lst xs.reverse))
section
variable {X : Cx} {e a1 : Expr} {te : TE} {tk : TO} {pos p2 p3 : Pos} {op : UnaryOp}
theorem Vals.rev : ∀ {xs : List V} {us : List Value}, Vals xs us → Vals xs.reverse us.reverse
  | _, _, .nil => .nil
  | _, _, .cons r t => by
    rw [List.reverse_cons, List.reverse_cons]
    exact (Vals.rev t).append (.cons r .nil)
theorem pe_rev (he : PE X e te) (hk : PO X (some (.UnaryOp op a1 p3)) tk) : PE X (.Subscript e (.Slice none none (some (.UnaryOp op a1 p3)) p2) pos) (tRev X.K te tk) := by
  refine ⟨fun pins s σ H Q I h => ?_⟩
  refine Subscript_ (thn (he.run pins s σ H _ I h) fun v s1 ⟨x, H1, I1, r1, q1⟩ => ?_)
  refine wpAny_Slice ?_
  rw [evalPart_none]
  refine wpAny_pure ?_
  refine wpAny_pure (thn (hk.run pins s1 σ H1 _ I1 q1) fun vk s3 ⟨k, H3, I3, pk, q3⟩ => ?_)
  obtain ⟨rfl, a, xs, rfl, hx, q⟩ := q3
  cases r1
  have I4 : Inv X pins σ H3 { s3 with heap := s3.heap.push { cls := .type "slice", data := .fields #[.none, .none, vk] } } := I3.kept (t' := s3.toks) fun b ob q => Heap.get?_push_of_some _ q
  obtain ⟨its, r, ht, hz⟩ := I4.list hx
  have hlen := r.length
  show wpAny (model X.prog X.w) X.A (subscriptTail e (.Slice none none (some (.UnaryOp op a1 p3)) p2) (.ref a) (.ref s3.heap.objs.size)) (EP X pins σ Q) X.xe { s3 with heap := s3.heap.push { cls := .type "slice", data := .fields #[.none, .none, vk] } }
  refine tail_any (T := "list") (ops := [.ref a, .ref s3.heap.objs.size]) ht.isList.typeIs slot_list_getitem.lookup ?_ (by with_unfolding_all rfl)
  refine wpAny_getItem_list_slice ht.isList (Heap.IsSliceOf.new ..) .none .none pk (by decide) ?_ (by rw [List.size_toArray] <;> omega)
  rw [PySem.W.krv_pick]
  refine ⟨.ref _, _, I4.laid (t' := s3.toks) (o := .lst xs.reverse) (fun b ob q => Heap.get?_push_of_some _ q) (Nat.le_refl _) ?_, rfl, q _ (I4.hok.fresh (Nat.le_refl _))⟩
  exact ⟨by rw [List.length_reverse]; exact hz, _, 0, Vals.rev r, Heap.get?_push_size _ rfl⟩
theorem g_rev1 {K : PySem.W.Frag} {σ : L2.St} {H : Hp} {Q : VK} (h : te σ H fun x H1 => tk σ H1 fun k H2 => k = some (-1) ∧ ∃ a xs, x = .ref a ∧ SqL K H2 a xs ∧ ∀ p, H2 p = none → Q (.ref p) (upd H2 p (.lst xs.reverse))) : tRev K te tk σ H Q := h
theorem g_rev2 {K : PySem.W.Frag} {B H : Hp} {M L : List (Addr × HO)} {Q : VK} {a : Addr} {xs : List V} (I : Is B M L H) (ha : SqL K H a xs) (q : ∀ p H', Is B M ((p, .lst xs.reverse) :: L) H' → Q (.ref p) H') :
    (some (-1 : Int) = some (-1)) ∧ ∃ b ys, V.ref a = .ref b ∧ SqL K H b ys ∧ ∀ p, H p = none → Q (.ref p) (upd H p (.lst ys.reverse)) := ⟨rfl, a, xs, rfl, ha, fun p hp => q p _ (I.new hp)⟩
end
end Bz
namespace Bz
open PySem PySem.Spec PyProof.Rows L2
/-! ### max(xs, default=d) of a list of whole numbers -/
theorem maxOf_le : ∀ (xs : List Int) (x : Int), PySem.W.maxOf x xs ∈ x :: xs ∧ ∀ y ∈ x :: xs, y ≤ PySem.W.maxOf x xs
  | [], x => ⟨List.mem_cons_self, fun y hy => by rw [List.mem_singleton.mp hy]; exact Int.le_refl _⟩
  | z :: xs, x => by
    have key : PySem.W.maxOf x (z :: xs) = PySem.W.maxOf (if x < z then z else x) xs := by
      show List.foldl _ (if PySem.W.DatumOrd.lt x z = true then z else x) xs = _
      have : (if PySem.W.DatumOrd.lt x z = true then z else x) = if x < z then z else x := by
        show (if decide (x < z) = true then z else x) = _
        simp
      rw [this]
      rfl
    obtain ⟨h1, h2⟩ := maxOf_le xs (if x < z then z else x)
    rw [key]
    have h3 := h2 _ List.mem_cons_self
    generalize PySem.W.maxOf (if x < z then z else x) xs = mm at *
    refine ⟨?_, fun y hy => ?_⟩
    · rcases List.mem_cons.mp h1 with h | h
      · rw [h]
        split
        · exact List.mem_cons_of_mem _ List.mem_cons_self
        · exact List.mem_cons_self
      · exact List.mem_cons_of_mem _ (List.mem_cons_of_mem _ h)
    · rcases List.mem_cons.mp hy with rfl | hy
      · split at h3 <;> omega
      · rcases List.mem_cons.mp hy with rfl | hy
        · split at h3 <;> omega
        · exact h2 y (List.mem_cons_of_mem _ hy)
def rMaxDf (K : PySem.W.Frag) : List V → List V → Hp → VK → Prop := fun vs zs H Q => ∃ (a : Addr) (ns : List Int) (d : V), vs = [.ref a] ∧ zs = [d] ∧ SqL K H a (ns.map V.int) ∧ (ns = [] → Q d H) ∧ ∀ m, m ∈ ns → (∀ y, y ∈ ns → y ≤ m) → Q (.int m) H
theorem ck_maxDf {X : Cx} {k : Nat} (hc : X.calm = true) (hr : Room k X.A) : CallRK X (.builtin "max") [Str.ofString "default"] (rMaxDf X.K) := by
  intro pins s σ H vs zs us ws Q I r rz h
  obtain ⟨a, ns, d, rfl, rfl, hs, h0, q⟩ := h
  obtain ⟨its, rv, hl, _⟩ := I.list hs
  rw [Vals.ref1 r]
  obtain ⟨u, rfl, ru⟩ := vals1 rz
  have hu := hu65 hr
  refine PySem.W.max_list_datum_default (α := Int) (I.ok.hd hc) hl.isList (PySem.W.HoldAll.of_ints rv.ints) (by
    have e : PySem.W.Datum.depth Int ≤ 60 := by decide
    omega) (fun e h' tk hk => ⟨d, H, I.kept hk, ru, h0 e⟩) fun y ys i v h' tk e hi hv hk => ?_
  obtain ⟨t, rfl⟩ := PySem.W.int_of_holds hv
  obtain ⟨h1, h2⟩ := maxOf_le ys y
  exact ⟨.int _, H, I.kept hk, ⟨_, rfl⟩, q _ (by rw [e]; exact h1) (by rw [e]; exact h2)⟩
section
variable {K : PySem.W.Frag} {H : Hp} {Q : VK} {a : Addr} {ns : List Int} {d : V}
theorem g_maxDf (h : SqL K H a (ns.map V.int)) (h0 : ns = [] → Q d H) (q : ∀ m, m ∈ ns → (∀ y, y ∈ ns → y ≤ m) → Q (.int m) H) : rMaxDf K [.ref a] [d] H Q := ⟨a, ns, d, rfl, rfl, h, h0, q⟩
theorem g_max (h : SqL K H a (ns.map V.int)) (h0 : 0 < ns.length) (q : ∀ m, m ∈ ns → (∀ y, y ∈ ns → y ≤ m) → Q (.int m) H) : rMax K [.ref a] H Q := ⟨a, ns, rfl, h, h0, q⟩
end
end Bz
namespace Bz
open PySem PySem.Spec PyProof.Rows L2
/-! ### a lambda with a parameter, no name of the maker's in it: as a value; sorted(xs, key=lambda a: ..) -/
/-- the function object at f is what a lambda made -/
def LamO (f : Addr) (q : Str) (params : Arguments) (body : Expr) (scope : Scope) (c' : Addr) : HO := .ext fun h => ∃ pm ctv, h.get? f = some (PySem.W.kla_obj "<lambda>" q params body scope [] pm c' ctv)
def tLamV (P : Addr) (q : Str) (params : Arguments) (body : Expr) (scope : Scope) : TE := fun _ H Q => ∃ ps, H P = some (.tbl ps) ∧ TabI H q ps ∧
  (∀ f c', H f = none → (∃ pos, codeAmong pos ps.toList = some (.ref c')) → Q (.ref f) (upd H f (LamO f q params body scope c'))) ∧
  ∀ f c' more, H c' = none → (tabSt H P c' q ps more) f = none → TriplesOk (ps ++ more).toList → (∀ (pos : Pos) (cv : Value), codeAmong pos (ps ++ more).toList = some cv → codeAmong pos ps.toList = some cv ∨ cv = .ref c') → Q (.ref f) (upd (tabSt H P c' q ps more) f (LamO f q params body scope c'))
section
variable {X : Cx} {pins : List (Addr × Obj)} {σ : L2.St} {H : Hp} {s : Shared}
theorem lam_makeS {c P : Addr} {ps : Array Value} {params : Arguments} {body : Expr} {scope : Scope} {pos : Pos} {E : Value → Shared → Prop} {Q : Value → Shared → Prop} (I : Inv X pins σ H s) (TB : LamX.TabB X.base X.mg c P) (hcode : X.env.code = .ref c)
    (hP : H P = some (.tbl ps)) (ht : TriplesOk ps.toList) (ha : ∀ (pos : Pos) (cv : Value), codeAmong pos ps.toList = some cv → ∃ c, cv = .ref c ∧ H c = some (LamX.CodeO c (X.env.qual ++ "<lambda>")))
    (hdef : defaultsOf params X.env = ([], [])) (hfree : ∀ y ∈ scope.names, y.2 ≠ .free)
    (h : ∀ (f c' : Addr) (pm ctv : Value) (H1 : Hp) (s' : Shared), Inv X pins σ H1 s' → ((H1 = H ∧ ∃ pos, codeAmong pos ps.toList = some (.ref c')) ∨ ∃ more, H c' = none ∧ H1 = tabSt H P c' (X.env.qual ++ "<lambda>") ps more ∧ TriplesOk (ps ++ more).toList ∧ ∀ (pos : Pos) (cv : Value), codeAmong pos (ps ++ more).toList = some cv → codeAmong pos ps.toList = some cv ∨ cv = .ref c') →
      s'.heap.get? f = some (PySem.W.kla_obj "<lambda>" (X.env.qual ++ "<lambda>") params body scope (cloFrom X.env.cells scope.names []) pm c' ctv) → H1 f = none → s.heap.objs.size ≤ f → H1 c' = some (LamX.CodeO c' (X.env.qual ++ "<lambda>")) → Q (.ref f) s') :
    wpAny (model X.prog X.w) X.A (eval (.Lambda params body scope pos) X.env) Q E s := by
  refine PySem.W.kla_eval hdef ?_
  have hfree' : ∀ y ∈ scope.names, y.2 = .free → ∃ c, X.env.cells.lookup y.1 = some c := fun y hy e => absurd e (hfree y hy)
  have bP : s.heap.BuiltinsAt X.mg P := TB.bm.keeps I.bk
  have hP' : s.heap.get? P = some { cls := .none, data := .fields ps } := I.hok P _ hP
  cases hc : codeAmong pos ps.toList with
  | none =>
    refine PySem.W.kla_makeFunction (mg := X.mg) (c := c) (P := P) (ps := ps) (closure_ok hfree') I.ok.glob (I.mod.glob.keeps I.bk) hcode (TB.code.keeps I.bk) hP' ht hc TB.gP bP fun c' ctv h' tk hx hge hlt hrec htb => ?_
    obtain ⟨c2, oc, vs, t, e2, hoc, hd, hv⟩ := hrec
    cases e2
    have hsz : s.heap.objs.size ≤ h'.objs.size := Nat.le_trans hge (Nat.le_of_lt hlt)
    have nC : H c' = none := I.hok.fresh hge
    have I1 := LamX.inv_table (t' := tk) (more := #[rawInt pos.line, rawInt pos.col, .ref c']) (h' := h'.push (PySem.W.kla_obj "<lambda>" (X.env.qual ++ "<lambda>") params body scope (cloFrom X.env.cells scope.names []) ((X.mg "__name__").getD .none) c' ctv)) I hP
      (fun b o hb e => Heap.get?_push_of_some _ (hx b o hb e)) (Heap.get?_push_of_some _ htb) hge ⟨oc, vs, t, Heap.get?_push_of_some _ hoc, hd, hv⟩
    have eL : (ps ++ #[rawInt pos.line, rawInt pos.col, .ref c']).toList = ps.toList ++ [rawInt pos.line, rawInt pos.col, .ref c'] := by simp
    refine h h'.objs.size c' ((X.mg "__name__").getD .none) ctv _ _ I1 (.inr ⟨#[rawInt pos.line, rawInt pos.col, .ref c'], nC, rfl, by rw [eL]; exact PySem.TriplesOk_snoc _ _ _ _ ht, fun p' cv hcv => ?_⟩) (Heap.get?_push_size _ rfl) ?_ hsz upd_same
    · rw [eL] at hcv
      exact LamX.among_app _ ht hcv
    · have n1 : h'.objs.size ≠ c' := Nat.ne_of_gt hlt
      have n2 : h'.objs.size ≠ P := Nat.ne_of_gt (Nat.lt_of_lt_of_le (Heap.lt_size hP') hsz)
      rw [upd_ne n1, upd_ne n2]
      exact I.hok.fresh hsz
  | some cv =>
    obtain ⟨c', e, hco⟩ := ha pos cv hc
    subst e
    refine PySem.W.kla_makeFunctionHit (mg := X.mg) (c := c) (P := P) (ps := ps) (closure_ok hfree') I.ok.glob (I.mod.glob.keeps I.bk) hcode (TB.code.keeps I.bk) hP' ht hc bP fun ctv h' tk hx hsz => ?_
    have I1 : Inv X pins σ H { s with heap := h'.push (PySem.W.kla_obj "<lambda>" (X.env.qual ++ "<lambda>") params body scope (cloFrom X.env.cells scope.names []) ((X.mg "__name__").getD .none) c' ctv), toks := tk } := I.kept fun b o e => Heap.get?_push_of_some _ (hx b o e)
    exact h h'.objs.size c' ((X.mg "__name__").getD .none) ctv H _ I1 (.inl ⟨rfl, pos, hc⟩) (Heap.get?_push_size _ rfl) (I.hok.fresh hsz) hsz hco
theorem pe_lamV {c P : Addr} {params : Arguments} {body : Expr} {scope : Scope} {pos : Pos} (TB : LamX.TabB X.base X.mg c P) (hcode : X.env.code = .ref c) (hdef : defaultsOf params X.env = ([], [])) (hfree : ∀ y ∈ scope.names, y.2 ≠ .free) (hclo : ∀ cells, cloFrom cells scope.names [] = []) :
    PE X (.Lambda params body scope pos) (tLamV P (X.env.qual ++ "<lambda>") params body scope) := by
  refine ⟨fun pins s σ H Q I h => ?_⟩
  obtain ⟨ps, hP, hT, h1, h2⟩ := h
  refine lam_makeS I TB hcode hP hT.1 hT.2 hdef hfree fun f c' pm ctv H1 s' I1 eH hf hfn hsz hco => ?_
  rw [hclo] at hf
  have fp : FpOk X pins H1 f := FpOk.other (I.fpOk hsz (I.hok.fresh hsz)) hfn
  have I2 : Inv X pins σ (upd H1 f (LamO f (X.env.qual ++ "<lambda>") params body scope c')) s' := I1.take (t' := s'.toks) (h' := s'.heap) (fun _ _ _ e => e) fp ⟨⟨pm, ctv, hf⟩, ⟨_, hf⟩, fun h1 h2 ⟨pm, ctv, e⟩ st => ⟨pm, ctv, st _ e⟩⟩
  rcases eH with ⟨e, hpos⟩ | ⟨more, nC, e, ht2, ha2⟩
  · subst e
    exact ⟨.ref f, _, I2, rfl, h1 f c' hfn hpos⟩
  · subst e
    exact ⟨.ref f, _, I2, rfl, h2 f c' more nC hfn ht2 ha2⟩
/-- the lambda called -/
theorem lam_go {A : Around} {f c' : Addr} {q : Str} {params : Arguments} {body : Expr} {scope : Scope} {N : List Str} {a : Str} {tb : TE} {k : Nat} {x : V} {u : Value} {Q : VK} (I : Inv X pins σ H s) (e0 : Env0 X.prog X.w X.K X.mg X.base A X.stack s H)
    (S : FnScope N [a] scope) (hr : Room (k + 1) A) (hgu : A.guards = some []) (hf : H f = some (LamO f q params body scope c')) (hc : H c' = some (LamX.CodeO c' q))
    (hbind : ∀ (pm cv ctv : Value) (u : Value), bindArgs (PySem.W.kla_fn "<lambda>" q params body scope [] pm cv ctv) ⟨[u], []⟩ = pure [(a, u)])
    (hbody : ∀ (A : Around) (outer : List Env) (s : Shared) (H : Hp) (f c' : Addr), Room k (A.deeper (envOfC q scope s.heap.objs.size f (.ref c'))) → A.guards = some [] → PE (cxOf CX0 X.prog X.w X.K X.mg X.base N q scope f (.ref c') A outer s H E0) body tb)
    (rx : RelV x u) (ht : tb (L2.start N [x]) H Q) : codeAny (model X.prog X.w) A (.call (.ref f) ⟨[u], []⟩) (CR CX0 X.stack X.prog X.w H s Q E0) s := by
  obtain ⟨⟨pm, ctv, ho⟩, _, _⟩ := I.hok f _ hf
  obtain ⟨⟨oc, vs, t, hoc, hdc, hvc⟩, _, _⟩ := I.hok c' _ hc
  have lim : s.heap.NoLimit := e0.mod.nolimit.keeps fun b o e => (e0.bs b o e).1
  refine PySem.W.kla_callFunE hr.depth ho rfl S.co S.gen rfl ⟨c', oc, vs, t, rfl, hoc, hdc, hvc⟩ ?_
  rw [hbind]
  have hkind : ∀ y ∈ [(a, u)], scope.names.lookup y.1 = some .local ∨ (scope.names.lookup y.1 = some .cell ∧ ((cellsFrom (s.heap.objs.size + 1) scope.names []).lookup y.1).isSome = true) := fun y hy => by
    rw [List.mem_singleton.mp hy]
    rcases S.par a List.mem_cons_self with q | q
    · exact .inl q
    · exact .inr ⟨q, PySem.W.cellsFrom_some _ _ _ (.inl q)⟩
  refine wpAny_pure (wpAny_newFunctionEnv_cells S.kind hkind fun env he s1 x1 => ?_)
  subst he
  refine ⟨lim.keeps x1.toInCall.keep, ?_⟩
  show codeAny _ _ (.expr body (envOfC q scope s.heap.objs.size f (.ref c'))) _ _
  have J : Inv (cxOf CX0 X.prog X.w X.K X.mg X.base N q scope f (.ref c') A X.stack s H E0) [] (L2.start N [x]) H s1 := inv_start S hr.hd e0 rfl (.cons rx .nil) x1
  refine PySem.W.kla_codeExpr (wpAny_mono ((hbody A X.stack s H f c' (hr.deeper _) hgu).run [] _ _ H Q J ht) (fun v s2 hq => ?_) fun e s2 hq => hq)
  obtain ⟨w', H2, J', rv, q⟩ := hq
  exact ⟨w', H2, J'.os, J'.bare, J'.base, J'.hok, rv, q⟩
end
def rSortLam (K : PySem.W.Frag) (q : Str) (params : Arguments) (body : Expr) (scope : Scope) (N : List Str) (tb : TE) : List V → List V → Hp → VK → Prop := fun vs zs H Q => ∃ (a f c' : Addr) (xs : List V) (kz : List PyData) (J : Nat → Hp → Prop), vs = [.ref a] ∧ zs = [.ref f] ∧ (SqL K H a xs ∨ SqT K H a xs) ∧ kz.length = xs.length ∧ PySem.W.AllAlike kz ∧ PySem.W.Sortable kz ∧ (∀ d ∈ kz, d.depth ≤ 5) ∧ J 0 H ∧
  (∀ (i : Nat) (H' : Hp), J i H' → H' f = some (LamO f q params body scope c') ∧ H' c' = some (LamX.CodeO c' q)) ∧
  (∀ (i : Nat) (x : V) (k : PyData) (H' : Hp), xs[i]? = some x → kz[i]? = some k → J i H' → tb (L2.start N [x]) H' (fun y H'' => KeyV H'' y k ∧ J (i + 1) H'')) ∧
  ∀ (H' : Hp) (p : Addr), J xs.length H' → H' p = none → Q (.ref p) (upd H' p (.lst (keySort xs kz)))
section
variable {X : Cx} {k k' : Nat} {q : Str} {params : Arguments} {body : Expr} {scope : Scope} {N : List Str} {tb : TE} {b : Str}
theorem ck_sortLam (S : FnScope N [b] scope) (hbind : ∀ (pm cv ctv : Value) (u : Value), bindArgs (PySem.W.kla_fn "<lambda>" q params body scope [] pm cv ctv) ⟨[u], []⟩ = pure [(b, u)])
    (hbody : ∀ (A : Around) (outer : List Env) (s : Shared) (H : Hp) (f c' : Addr), Room k (A.deeper (envOfC q scope s.heap.objs.size f (.ref c'))) → A.guards = some [] → PE (cxOf CX0 X.prog X.w X.K X.mg X.base N q scope f (.ref c') A outer s H E0) body tb)
    (hr : Room (k + 1 + 2) X.A) (hg : X.A.guards = some []) (hx : ∀ E', Passes CX0 (X.wish E') E0) : CallRK X (.builtin "sorted") [Str.ofString "key"] (rSortLam X.K q params body scope N tb) := by
  intro pins s σ H vs zs us ws Q I r rz h
  obtain ⟨a, f, c', xs, kz, J, rfl, rfl, hs, hl, hal, hsk, hdp, j0, hJ, ht, hq⟩ := h
  obtain rfl := Vals.ref1 r
  obtain rfl := Vals.ref1 rz
  obtain ⟨its, rv, hl2, hz⟩ : ∃ its : List Value, Vals xs its ∧ (s.heap.IsList a its.toArray ∨ IsTup s.heap a its.toArray) ∧ xs.length ≤ sizeLine := by
    rcases hs with hs | hs
    · obtain ⟨its, rv, hl, hz⟩ := I.list hs
      exact ⟨its, rv, .inl hl.isList, hz⟩
    · obtain ⟨its, rv, hl, hz⟩ := I.tuple hs
      exact ⟨its, rv, .inr hl, hz⟩
  have hlen := rv.length
  have hr2 : Room (k + 1) X.A.in1.in1 := Room.in1 (Room.in1 hr)
  refine sorted_of_sort2 hl2 (by rw [← hlen]; exact hz) (ksk_s1 _ _) (fun _ => ksk_l1 _ _) fun E' => ?_
  show wpAny _ _ (Builtin.«list.sort» ⟨[.ref (s.heap.objs.size + 1)], [(Str.ofString "key", .ref f)]⟩) _ _ _
  rw [ksk_t1]
  have hA : s.heap.objs.size ≤ s.heap.objs.size + 1 := Nat.le_succ _
  have ho := PySem.W.copyHeap_at s.heap its
  have ha : s.heap.objs.size + 1 < (PySem.W.copyHeap s.heap its).objs.size := Heap.lt_size ho
  obtain ⟨e1, ho1⟩ : ∃ e1, ((PySem.W.copyHeap s.heap its).update (s.heap.objs.size + 1) (Obj.mapSeq fun _ => (#[] : Array Value))).get? (s.heap.objs.size + 1) = some (seqObj "list" #[] e1) := ⟨_, get?_update_seq ho fun _ => #[]⟩
  have hkS : (((PySem.W.copyHeap s.heap its).update (s.heap.objs.size + 1) (Obj.mapSeq fun _ => (#[] : Array Value))).push (seqObj "tuple" its.toArray 0)).objs.size = (PySem.W.copyHeap s.heap its).objs.size + 1 := by rw [size_push', Heap.size_update]
  unfold ksk_tree
  refine wpAny_bind (listItems_at ho rfl ?_)
  refine wpAny_bind (listUpdate_at ho rfl ?_ (by rw [List.size_toArray, ← hlen]; exact hz) (Nat.zero_le _))
  refine wpAny_bind (seqEpoch_at ho1 rfl ?_)
  refine wpAny_bind (wpAny_newTuple ?_ (by show its.length ≤ _; rw [← hlen]; exact hz))
  refine wpAny_bind (wpAny_newList ?_ (Nat.zero_le _))
  refine wpAny_holding ?_
  have keep : ∀ b o, s.heap.get? b = some o → ((((PySem.W.copyHeap s.heap its).update (s.heap.objs.size + 1) (Obj.mapSeq fun _ => (#[] : Array Value))).push (seqObj "tuple" its.toArray 0)).push (seqObj "list" #[] 0)).get? b = some o := fun b o q =>
    Heap.get?_push_of_some _ (Heap.get?_push_of_some _ ((Heap.get?_update_ne _ _ _ _ (Nat.ne_of_lt (Nat.lt_succ_of_lt (Heap.lt_size q)))).trans (PySem.W.copyHeap_old q)))
  have I1 : Inv X pins σ H { s with heap := (((PySem.W.copyHeap s.heap its).update (s.heap.objs.size + 1) (Obj.mapSeq fun _ => (#[] : Array Value))).push (seqObj "tuple" its.toArray 0)).push (seqObj "list" #[] 0) } := I.kept (t' := s.toks) keep
  have f1 : FpOk X pins H (s.heap.objs.size + 1) := I.fpOk hA (I.hok.fresh hA)
  have hB : s.heap.objs.size ≤ (((PySem.W.copyHeap s.heap its).update (s.heap.objs.size + 1) (Obj.mapSeq fun _ => (#[] : Array Value))).push (seqObj "tuple" its.toArray 0)).objs.size := by
    rw [hkS]
    exact Nat.le_succ_of_le (Nat.le_of_lt (Nat.lt_of_succ_lt ha))
  refine key_rest (kz := kz) (J := J) (xs := xs) I1 f1 (I.fpOk hB (I.hok.fresh hB)) (Heap.get?_push_size _ rfl) (Heap.get?_push_of_some _ (Heap.get?_push_of_some _ ho1)) (by rw [hkS]; exact Nat.ne_of_gt (Nat.lt_succ_of_lt ha)) rv (by rw [hl, hlen]) (by rw [← hlen]; exact hz) hal hsk (fun d hd => ?_) j0 (fun i x u d hxx rx hkd pins' H' s' I' j => ?_) fun H' s' out c I' fa ho' hko j => ⟨rfl, ?_⟩
  · have h1 := hr2.un
    have h2 := hdp d hd
    omega
  · obtain ⟨q1, q2⟩ := hJ _ _ j
    refine wpAny_call (codeAny_mono (lam_go (A := X.A.in1.in1) I' I'.env0.in1.in1 S hr2 hg q1 q2 hbind hbody rx (ht i x d H' hxx hkd j)) ?_)
    intro r s'' z
    cases r with
    | error e => exact hx (fun _ _ => False) pins' σ H' s' e s'' (I'.wish _) z
    | ok fl =>
      cases fl with
      | ret u => exact z
      | next => exact False.elim z
      | brk => exact False.elim z
      | cont => exact False.elim z
  · have ho2 := keyed_vals rv hl hko
    exact ⟨.ref (s.heap.objs.size + 1), upd H' (s.heap.objs.size + 1) (.lst (keySort xs kz)), I'.take (t' := s'.toks) (h' := s'.heap) (fun _ _ _ e => e) fa ⟨by rw [keySort_len _ _ hl]; exact hz, out, c, ho2, ho'⟩, rfl, hq H' _ (by rw [hlen]; exact j) fa.1⟩
end
/-! the two in one -/
def sortL (K : PySem.W.Frag) (N : List Str) (f c' : Addr) (LO : HO) (q : Str) (tb : TE) (x : V) (H : Hp) (Q : VK) : Prop := ∃ (a : Addr) (xs : List V) (kz : List PyData) (J : Nat → Hp → Prop), x = .ref a ∧ (SqL K H a xs ∨ SqT K H a xs) ∧ kz.length = xs.length ∧ PySem.W.AllAlike kz ∧ PySem.W.Sortable kz ∧ (∀ d ∈ kz, d.depth ≤ 5) ∧ J 0 H ∧
  (∀ (i : Nat) (H' : Hp), J i H' → H' f = some LO ∧ H' c' = some (LamX.CodeO c' q)) ∧
  (∀ (i : Nat) (x : V) (k : PyData) (H' : Hp), xs[i]? = some x → kz[i]? = some k → J i H' → tb (L2.start N [x]) H' (fun y H'' => KeyV H'' y k ∧ J (i + 1) H'')) ∧
  ∀ (H' : Hp) (p : Addr), J xs.length H' → H' p = none → Q (.ref p) (upd H' p (.lst (keySort xs kz)))
def aSortLam (K : PySem.W.Frag) (P : Addr) (q : Str) (N : List Str) (tb : TE) (vs : List V) (H : Hp) (Q : VK) : Prop := ∃ (x : V) (ps : Array Value), vs = [x] ∧ H P = some (.tbl ps) ∧ TabI H q ps ∧
  (∀ f c' LO, H f = none → (∃ pos, codeAmong pos ps.toList = some (.ref c')) → sortL K N f c' LO q tb x (upd H f LO) Q) ∧
  ∀ f c' more LO, H c' = none → (tabSt H P c' q ps more) f = none → TriplesOk (ps ++ more).toList → (∀ (pos : Pos) (cv : Value), codeAmong pos (ps ++ more).toList = some cv → codeAmong pos ps.toList = some cv ∨ cv = .ref c') → sortL K N f c' LO q tb x (upd (tabSt H P c' q ps more) f LO) Q
def tSortLam (K : PySem.W.Frag) (P : Addr) (q : Str) (N : List Str) (te tb : TE) : TE := fun σ H Q => te σ H fun x H1 => aSortLam K P q N tb [x] H1 Q
section
variable {X : Cx} {k : Nat} {params : Arguments} {body : Expr} {scope : Scope} {N : List Str} {tb te : TE} {b : Str} {c P : Addr} {e : Expr} {pos p kp lpos : Pos}
theorem pe_sortLam (TB : LamX.TabB X.base X.mg c P) (hcode : X.env.code = .ref c) (hdef : defaultsOf params X.env = ([], [])) (hfree : ∀ y ∈ scope.names, y.2 ≠ .free) (hclo : ∀ cells, cloFrom cells scope.names [] = [])
    (S : FnScope N [b] scope) (hbind : ∀ (q : Str) (pm cv ctv : Value) (u : Value), bindArgs (PySem.W.kla_fn "<lambda>" q params body scope [] pm cv ctv) ⟨[u], []⟩ = pure [(b, u)])
    (hbody : ∀ (A : Around) (outer : List Env) (s : Shared) (H : Hp) (f c' : Addr), Room k (A.deeper (envOfC (X.env.qual ++ "<lambda>") scope s.heap.objs.size f (.ref c'))) → A.guards = some [] → PE (cxOf CX0 X.prog X.w X.K X.mg X.base N (X.env.qual ++ "<lambda>") scope f (.ref c') A outer s H E0) body tb)
    (hr : Room (k + 1 + 2) X.A) (hgu : X.A.guards = some []) (hx : ∀ E', Passes CX0 (X.wish E') E0) (hg : Gl X "sorted") (hm : X.mg "sorted" = none) (ha : PE X e te)
    (hs : starEach [e] X.env = (false, eval e X.env) :: starEach [] X.env := by rfl) (he : backTo pos (starEach [e] X.env) = (false, eval e X.env) :: backTo pos (starEach [] X.env) := by rfl) (hpl : (backTo pos (starEach [e] X.env)).any (·.1) = false := by rfl) :
    PE X (.Call (.Name "sorted" p) [e] [⟨some "key", .Lambda params body scope lpos, kp⟩] pos) (tSortLam X.K P (X.env.qual ++ "<lambda>") N te tb) := by
  refine ⟨fun pins s σ H Q I h => ?_⟩
  have hv : bootBuiltins ("sorted" : Str) = some (.builtin "sorted") := by decide +kernel
  refine wpAny_Call_Name_kw (ld_blt I hg hm hv ?_ (by decide) (by decide))
  refine PyProof.Rows.callWith_kw (thn ((pa_cons ha pa_nil (hs := hs)).run pos pins s σ H (fun vs H1 => aSortLam X.K P (X.env.qual ++ "<lambda>") N tb vs H1 Q) I h) fun us s1 ⟨vs, H1, I1, r1, q1⟩ => ?_) he hpl rfl rfl
  obtain ⟨x, ps, rfl, hP, hT, h1, h2⟩ := q1
  have sortK : ∀ (f c' : Addr) (H2 : Hp), (∀ LO, sortL X.K N f c' LO (X.env.qual ++ "<lambda>") tb x (upd H2 f LO) Q) → rSortLam X.K (X.env.qual ++ "<lambda>") params body scope N tb [x] [.ref f] (upd H2 f (LamO f (X.env.qual ++ "<lambda>") params body scope c')) Q := fun f c' H2 z => by
    obtain ⟨a, xs, kz, J, rfl, y1, y2, y3, y4, y5, y6, y7, y8, y9⟩ := z (LamO f (X.env.qual ++ "<lambda>") params body scope c')
    exact ⟨a, f, c', xs, kz, J, rfl, rfl, y1, y2, y3, y4, y5, y6, y7, y8, y9⟩
  refine thn ((pk_cons (pe_lamV TB hcode hdef hfree hclo) pk_nil).run pos pins s1 σ H1 (fun zs H2 => rSortLam X.K (X.env.qual ++ "<lambda>") params body scope N tb [x] zs H2 Q) I1 ⟨ps, hP, hT, fun f c' n hp => sortK f c' _ fun LO => h1 f c' LO n hp, fun f c' more n1 n2 t2 a2 => sortK f c' _ fun LO => h2 f c' more LO n1 n2 t2 a2⟩) fun ws s2 ⟨zs, H2, I2, r2, q2⟩ => ?_
  exact ck_sortLam S (hbind _) hbody hr hgu hx pins s2 σ H2 [x] zs us ws Q I2 r1 r2 q2
end
/-! in what is known of the heap -/
section
variable {K : PySem.W.Frag} {B H : Hp} {M L : List (Addr × HO)} {Q : VK} {P : Addr} {q : Str} {N : List Str} {ps : Array Value} {te tb : TE} {σ : L2.St} {x : V}
theorem g_sortLam (h : te σ H fun x H1 => aSortLam K P q N tb [x] H1 Q) : tSortLam K P q N te tb σ H Q := h
theorem g_aSortLam (I : Is B M ((P, .tbl ps) :: L) H) (hT : TabI B q ps)
    (k : ∀ B' ps' H', Same B B' → Is B' M ((P, .tbl ps') :: L) H' → TabI B' q ps' → ∃ (a : Addr) (xs : List V) (kz : List PyData), x = .ref a ∧ (SqL K H' a xs ∨ SqT K H' a xs) ∧ kz.length = xs.length ∧ PySem.W.AllAlike kz ∧ PySem.W.Sortable kz ∧ (∀ d ∈ kz, d.depth ≤ 5) ∧
      (∀ (i : Nat) (y : V) (d : PyData) (H'' : Hp), xs[i]? = some y → kz[i]? = some d → Is B' M ((P, .tbl ps') :: L) H'' → tb (L2.start N [y]) H'' (fun z H3 => KeyV H3 z d ∧ Is B' M ((P, .tbl ps') :: L) H3)) ∧
      ∀ p H3, Is B' M ((p, .lst (keySort xs kz)) :: (P, .tbl ps') :: L) H3 → Q (.ref p) H3) : aSortLam K P q N tb [x] H Q := by
  have go : ∀ (f c' : Addr) (LO : HO) (ps' : Array Value) (B1 H1 : Hp), Same B B1 → Is B1 M ((P, .tbl ps') :: L) H1 → TabI B1 q ps' → B1 c' = some (LamX.CodeO c' q) → H1 f = none → sortL K N f c' LO q tb x (upd H1 f LO) Q := fun f c' LO ps' B1 H1 s1 I1 T1 hc nf => by
    refine (I1.new (o := LO) nf).give .here fun B2 s2 hf I2 => ?_
    obtain ⟨a, xs, kz, rfl, y1, y2, y3, y4, y5, y6, y7⟩ := k B2 ps' _ (s1.trans s2) I2 (T1.same s2)
    exact ⟨a, xs, kz, fun _ H' => Is B2 M ((P, .tbl ps') :: L) H', rfl, y1, y2, y3, y4, y5, I2, fun i H' I' => ⟨I'.b hf, I'.b (s2 _ _ hc)⟩, fun i y d H' a1 a2 I' => y6 i y d H' a1 a2 I', fun H' p I' n => y7 p _ (I'.new n)⟩
  have hP := I.get (List.Mem.head _)
  refine ⟨x, ps, rfl, hP, hT.same I.ex, fun f c' LO n ⟨pos, hpos⟩ => ?_, fun f c' more LO n nf e1 e2 => ?_⟩
  · obtain ⟨c2, e, hc⟩ := hT.2 pos _ hpos
    cases e
    exact go f c' LO ps B H (fun _ _ e => e) I hT hc n
  · have I2 := I.put (Put.here (o := .tbl (ps ++ more)))
    have nP : c' ≠ P := fun z => by
      rw [z, hP] at n
      cases n
    have I3 := I2.new (p := c') (o := LamX.CodeO c' q) (by rw [upd_ne nP]; exact n)
    refine I3.give .here fun B' s b I4 => ?_
    refine go f c' LO (ps ++ more) B' _ s I4 ⟨e1, fun pos cv hcv => ?_⟩ b nf
    rcases e2 pos cv hcv with h | h
    · obtain ⟨c, h1, h2⟩ := hT.2 pos cv h
      exact ⟨c, h1, s _ _ h2⟩
    · exact ⟨c', h, b⟩
end
end Bz
namespace Bz
open PySem PySem.Spec PyProof.Rows L2
/-! ### len(range(i, j)) -/
def rRng2 : List V → Hp → VK → Prop := fun vs H Q => ∃ i j, vs = [V.int i, V.int j] ∧ ∀ p, H p = none → Q (.ref p) (upd H p (.rng i j))
theorem cl_rng2 {X : Cx} : CallR X (.type "range") rRng2 := cr_range2
def rLenRng : List V → Hp → VK → Prop := fun vs H Q => ∃ (a : Addr) (i j : Int), vs = [V.ref a] ∧ H a = some (.rng i j) ∧ i < j ∧ j - i < 2 ^ 60 ∧ Q (.int (j - i)) H
theorem cl_lenRng {X : Cx} : CallR X (.builtin "len") rLenRng := by
  intro pins s σ H vs us Q I r h
  obtain ⟨a, i, j, rfl, hH, hij, hb, q⟩ := h
  rw [Vals.ref1 r]
  obtain ⟨t, u, v, e⟩ := I.hok a _ hH
  have hs : Builtin.Range.rangeSize i j 1 = ((j - i).toNat : Int) := by
    unfold Builtin.Range.rangeSize
    rw [if_pos (by decide), if_pos hij, Int.ediv_one]
    omega
  refine call_len_range (n := (j - i).toNat) e hs (by omega) ?_
  exact ⟨.int (j - i), H, I.kept (t' := s.toks + 1 + 1) (fun _ _ e => e), ⟨_, by rw [Int.toNat_of_nonneg (by omega)]⟩, q⟩
section
variable {B H : Hp} {M L : List (Addr × HO)} {Q : VK} {i j : Int}
theorem g_lenRng {a : Addr} (h : H a = some (.rng i j)) (hij : i < j) (hb : j - i < 2 ^ 60) (q : Q (.int (j - i)) H) : rLenRng [.ref a] H Q := ⟨a, i, j, rfl, h, hij, hb, q⟩
theorem g_rngV2 (I : Is B M L H) (q : ∀ p H', Is B M ((p, .rng i j) :: L) H' → Q (.ref p) H') : rRng2 [.int i, .int j] H Q := ⟨i, j, rfl, fun p hp => q p _ (I.new hp)⟩
end
end Bz
namespace Bz
open PySem PySem.Spec PyProof.Rows L2
/-! ### sorted(set(xs)), xs a list of whole numbers or of texts -/
instance memK (k : Key) (ks : List Key) : Decidable (k ∈ ks) := @List.instDecidableMemOfLawfulBEq Key instBEqOfDecidableEq inferInstance k ks
def kOf (e : Int × Value) : Key := match e.2 with
  | .int k _ => .inl k
  | .str x _ => .inr x
  | _ => .inl 0
def GoodM (P : Program) (w : World) (e : Int × Value) : Prop := ∃ k, RelV (kV k) e.2 ∧ e.1 = (mixKind P w).hash k
def SetM (P : Program) (w : World) (h : Heap) (a : Addr) (S : Key → Bool) (n : Nat) : Prop :=
  ∃ o es ep t, h.get? a = some o ∧ o.ExactSet ∧ o.data = .set es ep t ∧ (∀ e ∈ es.toList, GoodM P w e) ∧ (es.toList.map kOf).Nodup ∧ (∀ k, S k = true ↔ k ∈ es.toList.map kOf) ∧
    es.size < scanBound ∧ t.fits es.size = true ∧ es.size = n ∧ Ris t.place.toList ∧ (w.params.followText "set-order" = true ∨ t.led = true)
section
variable {P : Program} {w : World} {h h' : Heap} {a : Addr} {S : Key → Bool} {n : Nat}
theorem SetM.at (R : SetM P w h a S n) (k : ∀ o, h.get? a = some o → h'.get? a = some o) : SetM P w h' a S n := by
  obtain ⟨o, es, ep, t, ho, r⟩ := R
  exact ⟨o, es, ep, t, k o ho, r⟩
theorem SetM.congr {S' : Key → Bool} (R : SetM P w h a S n) (e : ∀ k, S' k = S k) : SetM P w h a S' n := by
  have q : S' = S := funext e
  rw [q]
  exact R
theorem kOf_of {e : Int × Value} {k : Key} (r : RelV (kV k) e.2) : kOf e = k := by
  unfold kOf
  cases k with
  | inl i =>
    obtain ⟨t, q⟩ := (show ∃ t, e.2 = Value.int i t from r)
    rw [q]
  | inr x =>
    obtain ⟨t, q⟩ := (show ∃ t, e.2 = Value.str x t from r)
    rw [q]
theorem goodM_elems {l : List (Int × Value)} (g : ∀ e ∈ l, GoodM P w e) : ElemsOf (mixKind P w) l := fun e he => by
  obtain ⟨k, r, h2⟩ := g e he
  exact ⟨⟨k, kV_is r, h2⟩, key_scan r⟩
theorem goodM_is {e : Int × Value} (g : GoodM P w e) (k : Key) : (mixKind P w).is k e.2 = true ↔ kOf e = k := by
  obtain ⟨k0, r, _⟩ := g
  rw [kOf_of r]
  exact ⟨fun z => (mixKind P w).inj _ _ _ (kV_is r) z, fun z => z ▸ kV_is r⟩
theorem goodM_mem {l : List (Int × Value)} (g : ∀ e ∈ l, GoodM P w e) (k : Key) : k ∈ l.map kOf ↔ ∃ e ∈ l, (mixKind P w).is k e.2 = true := by
  rw [List.mem_map]
  constructor
  · rintro ⟨e, he, q⟩
    exact ⟨e, he, (goodM_is (g e he) k).2 q⟩
  · rintro ⟨e, he, q⟩
    exact ⟨e, he, (goodM_is (g e he) k).1 q⟩
end
section
variable {P : Program} {w : World} {A : Around} {E : Value → Shared → Prop} {s : Shared} {a : Addr} {S : Key → Bool} {n : Nat}
theorem setM_tail {g : Bool → Sem Unit} (hg : ∀ (b : Bool) (s₁ : Shared) (Q' : Unit → Shared → Prop), Q' () s₁ → wpAny (model P w) A (g b) Q' E s₁)
    {o : Obj} {es : Array (Int × Value)} {ep : Nat} {t : SetTable} (ho : s.heap.get? a = some o) (hex : o.ExactSet) (hd : o.data = .set es ep t)
    {es1 : Array (Int × Value)} {t2 : SetTable} {S' : Key → Bool} (g1 : ∀ e ∈ es1.toList, GoodM P w e) (nd1 : (es1.toList.map kOf).Nodup) (m1 : ∀ k, S' k = true ↔ k ∈ es1.toList.map kOf)
    (hb1 : es1.size < scanBound) (hf2 : t2.fits es1.size = true) (hr : Ris t2.place.toList) (hl : w.params.followText "set-order" = true ∨ t2.led = true) {wasDummy : Bool} {R : Option Bool → Shared → Prop}
    (hR : ∀ h', Heap.SameBut a s.heap h' → SetM P w h' a S' es1.size → R (some true) { s with heap := h' }) :
    wpAny (model P w) A (do
        storeSet a es1 t2
        if (!wasDummy && t2.tooFull) = true then do
            g (relayAll t2 es1 (SetTable.grown es1.size)).2.2
            storeSet a (relayAll t2 es1 (SetTable.grown es1.size)).1 (relayAll t2 es1 (SetTable.grown es1.size)).2.1
            pure (some true)
          else pure (some true)) R E s := by
  refine wpAny_bind (wpAny_storeSet_of ho hd ?_ (fits_of_scanBound hb1))
  have ho1 := store_at (es' := es1) (t' := t2) ho hd
  have sb1 := Heap.SameBut.update s.heap a (Obj.putSet es1 t2)
  split
  · have pm := relayAll_perm t2 es1 (SetTable.grown es1.size)
    have hf3 := relayAll_fits t2 es1 (SetTable.grown es1.size)
    have hr3 := relayAll_ris t2 es1 (SetTable.grown es1.size)
    have hl3 := relayAll_led t2 es1 (SetTable.grown es1.size)
    generalize relayAll t2 es1 (SetTable.grown es1.size) = Z at pm hf3 hr3 hl3 ⊢
    obtain ⟨es2, t3, gave⟩ := Z
    dsimp only at pm hf3 hr3 hl3 ⊢
    have hsz : es2.size = es1.size := by rw [← Array.length_toList, pm.length_eq, Array.length_toList]
    have hb2 : es2.size < scanBound := by rw [hsz]; exact hb1
    refine wpAny_bind (hg _ _ _ ?_)
    refine wpAny_bind (wpAny_storeSet_of ho1 rfl ?_ (fits_of_scanBound hb2))
    have ho2 := store_at (es' := es2) (t' := t3) ho1 rfl
    refine wpAny_pure (hR _ (sb1.trans (Heap.SameBut.update _ a _)) ?_)
    exact ⟨_, es2, _, t3, ho2, hex, rfl, fun e he => g1 e (pm.mem_iff.mp he), (pm.map kOf).nodup_iff.mpr nd1, fun k => (m1 k).trans (pm.map kOf).mem_iff.symm, hb2, hf3, hsz, hr3,
      hl.imp id fun z => by rw [hl3]; exact z⟩
  · exact wpAny_pure (hR _ sb1 ⟨_, es1, _, t2, ho1, hex, rfl, g1, nd1, m1, hb1, hf2, rfl, hr, hl⟩)
theorem setM_add {k : Key} {u : Value} {Q : Bool → Shared → Prop} (ru : RelV (kV k) u) (R : SetM P w s.heap a S n) (room : n + 1 < scanBound)
    (hQ : ∀ h', Heap.SameBut a s.heap h' → SetM P w h' a (fun j => S j || decide (j = k)) (if S k = true then n else n + 1) → Q (!S k) { s with heap := h' }) :
    wpAny (model P w) A (setAddHashed a u ((mixKind P w).hash k)) Q E s := by
  obtain ⟨o, es, ep, t, ho, hex, hd, g, nd, hm, hb, hf, hn, hr, hl⟩ := R
  have hkey : (mixKind P w).is k u = true := kV_is ru
  have hsc : u.scannable = true := key_scan ru
  have hel : ElemsOf (mixKind P w) es.toList := goodM_elems g
  unfold setAddHashed setAddHashedIn
  refine wpAny_holding (wpAny_bind (wpAny_setState_of ho hd hf ?_))
  dsimp only
  rw [byScan_of hsc hb hel]
  simp only [↓reduceIte]
  unfold setAddByScan
  refine wpAny_bind ?_
  refine wpAny_bind (wpAny_rule ?_)
  refine wpAny_bind (wpAny_setScan_of hkey ho hd hf hel ?_)
  cases hfi : List.findIdx? (fun e => (mixKind P w).is k e.2) es.toList with
  | some j =>
    dsimp only
    obtain ⟨hj, pj, _⟩ := List.findIdx?_eq_some_iff_getElem.mp hfi
    have hSk : S k = true := (hm k).2 ((goodM_mem (P := P) (w := w) g k).2 ⟨es.toList[j], List.getElem_mem hj, pj⟩)
    refine wpAny_pure (wpAny_pure ?_)
    have q := hQ s.heap (Heap.SameBut.refl a s.heap) ⟨o, es, ep, t, ho, hex, hd, g, nd, fun i => by
      rw [Bool.or_eq_true, decide_eq_true_eq, ← hm i]
      exact ⟨fun z => z.elim id (fun e => e ▸ hSk), .inl⟩, hb, hf, by rw [if_pos hSk]; exact hn, hr, hl⟩
    rw [hSk] at q
    exact q
  | none =>
    dsimp only
    have hnk : k ∉ es.toList.map kOf := fun z => by
      obtain ⟨e, he, q⟩ := (goodM_mem (P := P) (w := w) g k).1 z
      have c := List.findIdx?_eq_none_iff.mp hfi e he
      rw [q] at c
      cases c
    have hSk : S k = false := by
      cases q : S k with
      | false => rfl
      | true => exact absurd ((hm k).1 q) hnk
    have hgw : ∀ (b : Bool) {s₁ : Shared} {Q' : Unit → Shared → Prop}, Q' () s₁ → wpAny (model P w) A (match b with | true => rule "set.scan.the-table-gave-way" | false => pure ()) Q' E s₁ :=
      fun b s₁ Q' q => by cases b <;> first | exact wpAny_pure q | exact wpAny_rule q
    have pm := layNew_perm t es ((mixKind P w).hash k) u
    have hf1 := layNew_fits t es ((mixKind P w).hash k) u
    have hr1 := layNew_ris t es ((mixKind P w).hash k) u hr
    have hl1 := layNew_led t es ((mixKind P w).hash k) u
    generalize layNew t es ((mixKind P w).hash k) u = Z at pm hf1 hr1 hl1 ⊢
    obtain ⟨es1, t1, wasDummy, gave⟩ := Z
    dsimp only at pm hf1 hr1 hl1 ⊢
    rw [Array.toList_push] at pm
    have pc : es1.toList.Perm (((mixKind P w).hash k, u) :: es.toList) := pm.trans (List.perm_append_singleton _ _)
    have pk : (es1.toList.map kOf).Perm (k :: es.toList.map kOf) := by
      have := pc.map kOf
      rw [List.map_cons, kOf_of (e := ((mixKind P w).hash k, u)) ru] at this
      exact this
    have g1 : ∀ e ∈ es1.toList, GoodM P w e := fun e he => by
      rcases List.mem_cons.mp (pc.mem_iff.mp he) with z | z
      · rw [z]
        exact ⟨k, ru, rfl⟩
      · exact g e z
    have nd1 : (es1.toList.map kOf).Nodup := pk.nodup_iff.mpr (List.nodup_cons.mpr ⟨hnk, nd⟩)
    have m1 : ∀ i, (S i || decide (i = k)) = true ↔ i ∈ es1.toList.map kOf := fun i => by
      rw [Bool.or_eq_true, decide_eq_true_eq, hm i, pk.mem_iff, List.mem_cons]
      exact Or.comm
    have hsz : es1.size = n + 1 := by rw [← Array.length_toList, pc.length_eq, List.length_cons, Array.length_toList, hn]
    have hb1 : es1.size < scanBound := by rw [hsz]; exact room
    have hled : w.params.followText "set-order" = true ∨ t1.led = true := hl.imp id fun z => by rw [hl1]; exact z
    have fin : ∀ h', Heap.SameBut a s.heap h' → SetM P w h' a (fun j => S j || decide (j = k)) es1.size → Q true { s with heap := h' } := fun h' sb r => by
      have q := hQ h' sb
      rw [hSk] at q
      rw [hsz] at r
      exact q r
    refine wpAny_bind (hgw _ ?_)
    split
    · refine wpAny_bind ?_
      rw [hashByValue_scannable 8 hsc]
      refine wpAny_pure ?_
      refine setM_tail ?_ ho hex hd g1 nd1 m1 hb1 ?_ ?_ ?_ ?_
      · intro b s₁ Q' q; cases b <;> first | exact wpAny_pure q | exact wpAny_rule q
      · first | (split <;> first | exact hf1 | exact SetTable.fits_plain_off hf1) | exact hf1
      · first | (split <;> exact hr1) | exact hr1
      · first | (split <;> exact hled) | exact hled
      · intro h' sb r; dsimp only; exact wpAny_pure (fin h' sb r)
    · refine wpAny_bind (wpAny_pure ?_)
      simp only [↓reduceIte]
      refine setM_tail ?_ ho hex hd g1 nd1 m1 hb1 hf1 hr1 hled ?_
      · intro b s₁ Q' q; cases b <;> first | exact wpAny_pure q | exact wpAny_rule q
      · intro h' sb r; dsimp only; exact wpAny_pure (fin h' sb r)
theorem setM_fresh {h : Heap} {a : Addr} {ks : List Key} (ho : h.get? a = some { cls := .type "set", dict := none, data := .set #[] 0 (.fresh 0 0 (!w.params.followText "set-order")) }) : SetM P w h a (fun j => decide (j ∈ ks.take 0)) 0 :=
  ⟨_, #[], 0, _, ho, ⟨rfl, rfl, rfl⟩, rfl, (fun e he => by simp at he), (by simp), (fun k => by simp), (by decide), (by rfl), rfl, List.Pairwise.nil, by
    show _ ∨ (!w.params.followText "set-order") = true
    cases w.params.followText "set-order"
    · exact .inr rfl
    · exact .inl rfl⟩
theorem setM_update {I : Addr} {fp wr : List Addr} {G : Array GenState → Array GenState → Prop} {n : Nat} {Pv : Nat → Value → Prop} {St : Nat → Shared → Prop} {R : Result → Shared → Prop}
    (W : WalksS P w A.in1 I fp wr G n Pv St) (S : Addr) (hSf : S ∉ fp) (ks : List Key) (hn : n = ks.length) (hb : ks.length + 1 < scanBound) (hval : ∀ i v, Pv i v → ∃ k, ks[i]? = some k ∧ RelV (kV k) v) :
    ∀ (k i : Nat) (s : Shared), n - i = k → i ≤ n → St i s → (∃ c, c ≤ i ∧ SetM P w s.heap S (fun j => decide (j ∈ ks.take i)) c) →
      (∀ s' c, Moved (S :: wr) G s s' → c ≤ n → SetM P w s'.heap S (fun j => decide (j ∈ ks)) c → R (.ok (.ret .none)) s') →
      codeAny (model P w) A (.builtin "set.update.loop" ⟨[.ref S, .ref I], []⟩) R s := by
  have hSw : S ∉ wr := fun h => hSf (W.sub _ h)
  have hsub : ∀ b ∈ wr, b ∈ S :: wr := fun b hb => List.mem_cons_of_mem _ hb
  intro k
  induction k with
  | zero =>
    intro i s hk' hi hst ⟨c, hc, hS⟩ hR
    have hin : i = n := by omega
    subst hin
    refine codeAny_builtin F.entry_set_update_loop ?_
    rw [Around.under_plainId F.plain_set_update_loop _]
    show wpAny _ A.in1 (pyNext (.ref I) >>= _) _ _ s
    refine wpAny_bind (W.done s _ _ hst fun s' hm => ?_)
    show wpAny _ A.in1 (ret Value.none) _ _ s'
    have e : ks.take i = ks := List.take_of_length_le (by omega)
    rw [e] at hS
    exact wpAny_pure (hR s' c (hm.mono hsub) hc (hS.at fun o e => hm.heap S o hSw e))
  | succ k ih =>
    intro i s hk' hi hst ⟨c, hc, hS⟩ hR
    have hlt : i < n := by omega
    refine codeAny_builtin F.entry_set_update_loop ?_
    rw [Around.under_plainId F.plain_set_update_loop _]
    show wpAny _ A.in1 (pyNext (.ref I) >>= _) _ _ s
    refine wpAny_bind (W.item i s _ _ hlt hst fun v s' hP hst' hm => ?_)
    obtain ⟨z, hz, rz⟩ := hval i v hP
    have hS' : SetM P w s'.heap S (fun j => decide (j ∈ ks.take i)) c := hS.at fun o e => hm.heap S o hSw e
    show wpAny _ A.in1 (holding [v] (setAdd S v) >>= _) _ _ s'
    refine wpAny_bind (wpAny_holding ?_)
    unfold setAdd
    refine wpAny_holding ?_
    refine wpAny_bind ((mixKind P w).pyHash (k := z) (kV_is rz) ?_)
    refine setM_add (s := { s' with toks := s'.toks + 1 }) rz hS' (by omega) fun h' hsb hS2 => ?_
    have hS3 : SetM P w h' S (fun j => decide (j ∈ ks.take (i + 1))) (if decide (z ∈ ks.take i) = true then c else c + 1) := hS2.congr fun j => by
      rw [List.take_add_one, hz]
      simp [List.mem_append]
    have hc3 : (if decide (z ∈ ks.take i) = true then c else c + 1) ≤ i + 1 := by
      split <;> omega
    refine wpAny_pure ⟨plainId_quiet F.plain_set_update_loop _, ih (i + 1) _ (by omega) hlt (W.frame _ s' _ _ hst' (Nat.le_succ _) fun b hb o e => ?_) ⟨_, hc3, hS3⟩ fun s'' c2 hm'' hc'' hS'' => ?_⟩
    · rw [hsb.2 b (fun h : b = S => hSf (by rw [← h]; exact hb))]; exact e
    · refine hR s'' c2 (Moved.trans W.gtrans ((hm.mono hsub).then_heap (Nat.le_succ _) fun b o hb e => ?_) hm'') hc'' hS''
      rw [hsb.2 b (fun h : b = S => hb (by rw [h]; exact List.mem_cons_self))]; exact e
theorem call_setM {l : Addr} {items : Array Value} (ks : List Key) {Q : Value → Shared → Prop} (hh : A.handled = none) (hl : s.heap.IsList l items) (hit : Vals (ks.map kV) items.toList) (hb : ks.length + 1 < scanBound)
    (h : ∀ (h' : Heap) (tk c : Nat), SetM P w h' s.heap.objs.size (fun j => decide (j ∈ ks)) c → c ≤ ks.length → (∀ b o, s.heap.get? b = some o → h'.get? b = some o) → Q (.ref s.heap.objs.size) { s with heap := h', toks := tk }) :
    wpAny (model P w) A (call (.type "set") [.ref l]) Q E s := by
  have hisz : items.size = ks.length := by
    have q := hit.length
    rw [List.length_map, Array.length_toList] at q
    exact q.symm
  obtain ⟨c, tl, hmro⟩ := F.called_set.mro
  have hmade := F.called_set.made
  have hsub := F.called_set.sub
  refine wpAny_call (codeAny_of_tree ?_)
  show wpAny _ _ (callAny (.type "set") _) _ _ _
  refine wpAny_pure ⟨Code.quiet_builtin _ (by decide +kernel), codeAny_builtin F.entry_type_call ?_⟩
  rw [Around.under_plain (weight_type_call_type "set" [.ref l] []) rfl]
  have h1 := F.called_set.notType
  have h2 := F.called_set.canCreate
  have hct := F.typeCall_set_1 (.ref l)
  repeat (any_goals (first | assumption | wp_step))
  refine codeAny_mono (code_set_led1 (.ref l) (E := E) (Q₁ := fun obj s₁ => obj = .ref s.heap.objs.size ∧ s₁ = { s with heap := s.heap.push { cls := .type "set", dict := none, data := .set #[] 0 (.fresh 0 0 (!w.params.followText "set-order")) } }) ⟨rfl, rfl⟩) fun r s₁ hr => ?_
  cases r with
  | error e => exact hr
  | ok fl =>
    cases fl with
    | ret obj =>
      obtain ⟨rfl, rfl⟩ := hr
      have hS : (s.heap.push { cls := .type "set", dict := none, data := .set #[] 0 (.fresh 0 0 (!w.params.followText "set-order")) }).get? s.heap.objs.size = some { cls := .type "set", dict := none, data := .set #[] 0 (.fresh 0 0 (!w.params.followText "set-order")) } := Heap.get?_push_size _ rfl
      have hT : Shared.TypeIs { s with heap := s.heap.push { cls := .type "set", dict := none, data := .set #[] 0 (.fresh 0 0 (!w.params.followText "set-order")) } } (.ref s.heap.objs.size) "set" := ⟨_, hS, rfl⟩
      have hli := F.called_set.init.lookup
      have hbi := F.called_set.init.bind (.ref s.heap.objs.size)
      repeat (any_goals (first | assumption | wp_step))
      refine codeAny_mono (codeAny_call_builtin (R := wants (fun r s₂ => r = .none ∧ ∃ h' tk c, s₂ = { s with heap := h', toks := tk } ∧ SetM P w h' s.heap.objs.size (fun j => decide (j ∈ ks)) c ∧ c ≤ ks.length ∧
          (∀ b o, s.heap.get? b = some o → h'.get? b = some o)) E) F.called_set.init.plain F.entry_set_init (check_set_init_1 hT ?_)) fun r₂ s₂ hr₂ => ?_
      · obtain ⟨ol, hol, hcl, nl, hdl⟩ := hl
        obtain ⟨ocls, odict, odata, oslots⟩ := ol
        simp only at hcl hdl
        subst hcl
        subst hdl
        have hol' : (s.heap.push { cls := .type "set", dict := none, data := .set #[] 0 (.fresh 0 0 (!w.params.followText "set-order")) }).get? l = some { cls := .type "list", dict := odict, data := .seq items nl, slots := oslots } := Heap.get?_push_of_some _ hol
        have hsls := F.sub_list_set
        have hslf := F.sub_list_frozenset
        have hne : (Value.type "list" == Value.type "dict") = false := by decide
        have hl1 : (s.heap.push { cls := .type "set", dict := none, data := .set #[] 0 (.fresh 0 0 (!w.params.followText "set-order")) }).IsList l items := ⟨_, hol', rfl, nl, rfl⟩
        unfold Builtin.«set.__init__» noKeywords Builtin.Frozenset.updateFrom
        generalize hPI : pyIter = PI
        wp_walk
        subst hPI
        refine wpAny_pyIter_list hl1 ?_
        refine wpAny_bind (wpAny_runValue ?_)
        have hlS : l < s.heap.objs.size := Heap.lt_size hol
        have hh3 : A.in1.in1.in1.handled = none := by simp [hh]
        have hneI : l ≠ (s.heap.push { cls := .type "set", dict := none, data := .set #[] 0 (.fresh 0 0 (!w.params.followText "set-order")) }).objs.size := by
          rw [Heap.size_push]
          exact Nat.ne_of_lt (Nat.lt_succ_of_lt hlS)
        have hSf : s.heap.objs.size ∉ [(s.heap.push { cls := .type "set", dict := none, data := .set #[] 0 (.fresh 0 0 (!w.params.followText "set-order")) }).objs.size, l] := by
          rw [Heap.size_push]
          simp only [List.mem_cons, List.mem_singleton, List.not_mem_nil, or_false, not_or]
          exact ⟨Nat.ne_of_lt (Nat.lt_succ_self _), Nat.ne_of_gt hlS⟩
        have hval : ∀ (i : Nat) (v : Value), items[i]? = some v → ∃ k, ks[i]? = some k ∧ RelV (kV k) v := fun i v hv => by
          have q : items.toList[i]? = some v := by rw [Array.getElem?_toList]; exact hv
          obtain ⟨x, hx, rx⟩ := vals_at hit q
          rw [List.getElem?_map] at hx
          cases hq : ks[i]? with
          | none => rw [hq] at hx; cases hx
          | some k =>
            rw [hq] at hx
            cases hx
            exact ⟨k, rfl, rx⟩
        refine setM_update ((Walks.list hh3 _ l hneI items).toS) s.heap.objs.size
          hSf ks hisz hb hval (items.size - 0) 0 _ (by omega) (Nat.zero_le _)
          ⟨⟨_, Heap.get?_push_size _ rfl, rfl, rfl⟩, (hl1.push _)⟩ ?hS0 ?hR
        case hS0 =>
          have hget : ((s.heap.push { cls := .type "set", dict := none, data := .set #[] 0 (.fresh 0 0 (!w.params.followText "set-order")) }).push { cls := .type "list_iterator", data := .fields #[.ref l, .int 0 0] }).get? s.heap.objs.size
              = some { cls := .type "set", dict := none, data := .set #[] 0 (.fresh 0 0 (!w.params.followText "set-order")) } := Heap.get?_push_of_some _ hS
          exact ⟨0, Nat.le_refl _, setM_fresh hget⟩
        case hR =>
          intro s' c hm hc hS'
          have keep : ∀ b o, s.heap.get? b = some o → s'.heap.get? b = some o := fun b o e => hm.heap b o (fun z => by
            have hbl := Heap.lt_size e
            rcases List.mem_cons.mp z with z | z
            · rw [z] at hbl
              exact Nat.lt_irrefl _ hbl
            · rw [List.mem_singleton.mp z, Heap.size_push] at hbl
              exact absurd hbl (Nat.not_lt.mpr (Nat.le_succ _))) (Heap.get?_push_of_some _ (Heap.get?_push_of_some _ e))
          obtain ⟨h', g2, d', tk', os'⟩ := s'
          have eg : g2 = s.gens := hm.gens
          have ed : d' = s.drawn := hm.drawn
          have eo : os' = s.os := hm.os
          subst eg
          subst ed
          subst eo
          show wpAny _ _ _ _ _ _
          refine wpAny_pure ?_
          show wpAny _ _ (ret Value.none) _ _ _
          rw [hisz] at hc
          exact wpAny_pure ⟨rfl, h', tk', c, rfl, hS', hc, keep⟩
      · cases r₂ with
        | error e => exact hr₂
        | ok fl₂ =>
          cases fl₂ with
          | ret r =>
            obtain ⟨rfl, h', tk, c, rfl, hS', hc, hk'⟩ := hr₂
            repeat (any_goals (first | assumption | wp_step))
            exact h _ _ _ hS' hc hk'
          | _ => exact hr₂.elim
    | _ => exact hr.elim
end
end Bz
namespace Bz
open PySem PySem.Spec PyProof.Rows L2
def kOv (v : Value) : Key := match v with
  | .int k _ => .inl k
  | .str x _ => .inr x
  | _ => .inl 0
theorem kOv_of {v : Value} {k : Key} (r : RelV (kV k) v) : kOv v = k := kOf_of (e := (0, v)) r
section
variable {P : Program} {w : World} {A : Around} {E : Value → Shared → Prop} {s : Shared} {a : Addr} {β : Type}
theorem vals_of_each {kk : β → Key} : ∀ {vs : List Value}, (∀ v ∈ vs, ∃ b, RelV (kV (kk b)) v) → ∃ bs : List β, Vals (bs.map fun b => kV (kk b)) vs
  | [], _ => ⟨[], .nil⟩
  | v :: vs, h => by
    obtain ⟨b, r⟩ := h v List.mem_cons_self
    obtain ⟨bs, t⟩ := vals_of_each fun u hu => h u (List.mem_cons_of_mem _ hu)
    exact ⟨b :: bs, .cons r t⟩
theorem kOv_vals {kk : β → Key} : ∀ {bs : List β} {vs : List Value}, Vals (bs.map fun b => kV (kk b)) vs → vs.map kOv = bs.map kk
  | [], _, .nil => rfl
  | b :: bs, _, .cons r t => by
    rw [List.map_cons, List.map_cons, kOv_of r, kOv_vals t]
theorem reads_vals {kk : β → Key} {kd : β → PyData} (hkd : ∀ b, KeyS (kV (kk b)) (kd b)) {h : Heap} : ∀ {bs : List β} {vs : List Value}, Vals (bs.map fun b => kV (kk b)) vs → PySem.W.EachIs (fun v d => ∃ as, Reads h v d as) vs (bs.map kd)
  | [], _, .nil => .nil
  | b :: bs, _, .cons r t => .cons ⟨[], (hkd b).reads r⟩ (reads_vals hkd t)
theorem sorted_setM (kk : β → Key) (kd : β → PyData) (hinj : ∀ x y, kk x = kk y → x = y) (hkd : ∀ b, KeyS (kV (kk b)) (kd b)) (hal : ∀ x y, PySem.W.alike (kd x) (kd y) = true) (hso : ∀ b, kd b ≠ .none ∧ ∀ xs, kd b ≠ .tuple xs) (hdp : ∀ b, (kd b).depth ≤ 5)
    {S : Key → Bool} {n : Nat} {Q : Value → Shared → Prop} (R : SetM P w s.heap a S n) (hS : ∀ k, S k = true → ∃ b, k = kk b) (hh : A.handled = none) (hu : A.in1.in1.units + 65 < cLine)
    (hQ : ∀ s' p (out : List Value) (c : Nat) (bs : List β), (∀ b o, s.heap.get? b = some o → s'.heap.get? b = some o) → s'.gens = s.gens → s'.os = s.os → s.heap.objs.size ≤ p →
      s'.heap.get? p = some (seqObj "list" out.toArray c) → Vals (keySort (bs.map fun b => kV (kk b)) (bs.map kd)) out → bs.Nodup → (∀ b, b ∈ bs ↔ S (kk b) = true) → bs.length = n → Q (.ref p) s') :
    wpAny (model P w) A (call (.builtin "sorted") [.ref a]) Q E s := by
  obtain ⟨o, es, ep, t, ho, hex, hd, g, nd, hm, hb, hf, hn, hr, hl⟩ := R
  refine Calls.call_function_entry kind_sorted plain_sorted entry_sorted (args_sorted1 _) ?_
  unfold Builtin.«sorted»
  refine wpAny_bind (m := checkCount "sorted" 1 1 _) (wpAny_pure ?_)
  refine wpAny_bind (collect_set (A := A.in1) hh ⟨o, ho, hex.1, hd⟩ hf hb hr hl fun s1 vs k1 hz g1 o1 pm => ?_)
  have hvl : vs.length = n := by rw [pm.length_eq, List.length_map, Array.length_toList]; exact hn
  obtain ⟨bs, hbs⟩ := vals_of_each (kk := kk) (vs := vs) fun v hv => by
    obtain ⟨e, he, q⟩ := List.mem_map.mp (pm.mem_iff.mp hv)
    obtain ⟨k, r, _⟩ := g e he
    have hSk : S k = true := (hm k).2 (List.mem_map.mpr ⟨e, he, kOf_of r⟩)
    obtain ⟨b, rfl⟩ := hS k hSk
    exact ⟨b, by rw [← q]; exact r⟩
  have ek := kOv_vals hbs
  have pk : (bs.map kk).Perm (es.toList.map kOf) := by
    have q := pm.map kOv
    rw [List.map_map, ek] at q
    exact q
  have hbl : bs.length = n := by
    have := hbs.length
    rw [List.length_map] at this
    omega
  have hL : vs.length ≤ sizeLine := by rw [hvl, ← hn]; exact fits_of_scanBound hb
  refine wpAny_bind (wpAny_newList ?_ hL)
  have hoL : (s1.heap.push (seqObj "list" vs.toArray 0)).get? s1.heap.objs.size = some (seqObj "list" vs.toArray 0) := Heap.get?_push_size _ rfl
  have hall : PySem.W.AllAlike (bs.map kd) := PySem.W.AllAlike.of hal
  refine wpAny_bind (wpAny_holding (wpAny_call_entry slot_list_sort ⟨_, hoL, rfl⟩ entry_list_sort (PySem.W.list_sort_vals (s := { s1 with heap := s1.heap.push (seqObj "list" vs.toArray 0) }) hoL (PySem.W.SortsAt.data (reads_vals hkd hbs) hall (PySem.W.Sortable.others hso) (fun d hd => ?_)) hL ⟨_, rfl, ?_⟩) (args_list_sort _)))
  · obtain ⟨b, _, rfl⟩ := List.mem_map.mp hd
    have h1 := hdp b
    show A.in1.in1.units + (kd b).depth < cLine
    omega
  obtain ⟨c, hc⟩ := sortedHeap_at (vs := vs) (out := (PySem.W.sortVals (PySem.W.dataKind (PySem.W.sortingHeap (s1.heap.push (seqObj "list" vs.toArray 0)) s1.heap.objs.size vs) (bs.map kd)) false vs vs).toArray) hoL
  have ko : PySem.W.KeyedOut false (bs.map kd) vs (PySem.W.sortVals (PySem.W.dataKind (PySem.W.sortingHeap (s1.heap.push (seqObj "list" vs.toArray 0)) s1.heap.objs.size vs) (bs.map kd)) false vs vs) := ⟨_, vs, hall, rfl, reads_vals hkd hbs⟩
  refine wpAny_pure ⟨_, rfl, hQ _ s1.heap.objs.size _ c bs (fun b u e => ?_) g1 o1 hz hc (keyed_vals hbs (by rw [List.length_map, List.length_map]) ko) ?_ (fun b => ?_) hbl⟩
  · have q := k1 b u e
    have hlt := Heap.lt_size q
    rw [sortedHeap_old (Nat.ne_of_lt hlt) (by rw [size_push']; exact Nat.lt_succ_of_lt hlt)]
    exact Heap.get?_push_of_some _ q
  · exact List.Pairwise.of_map kk (fun a b hne e => hne (congrArg kk e)) (pk.nodup_iff.mpr nd)
  · rw [hm (kk b), ← pk.mem_iff]
    constructor
    · exact fun z => List.mem_map.mpr ⟨b, z, rfl⟩
    · intro z
      obtain ⟨b', z1, z2⟩ := List.mem_map.mp z
      exact hinj _ _ z2 ▸ z1
end
/-! ints and texts, sorted -/
theorem keySort_map {α : Type} (f : α → V) (g : α → PyData) (le : α → α → Bool) (hle : ∀ a b, PySem.W.dataLe false g a b = le a b) (bs : List α) : keySort (bs.map f) (bs.map g) = (bs.mergeSort le).map f := by
  unfold keySort
  have e : (bs.map f).zip (bs.map g) = bs.map fun b => (f b, g b) := by
    induction bs with
    | nil => rfl
    | cons b bs ih => rw [List.map_cons, List.map_cons, List.zip_cons_cons, ih, List.map_cons]
  rw [e, ← List.map_mergeSort (r := le) (fun a _ b _ => ?_), List.map_map]
  · rfl
  · rw [← hle]
    rfl
def ltS (a b : Str) : Prop := a.cps.toList < b.cps.toList
theorem ints_sorted (ns : List Int) (hn : ns.Nodup) : ∃ ms : List Int, keySort (ns.map V.int) (ns.map PyData.int) = ms.map V.int ∧ ms.Pairwise (· < ·) ∧ ∀ k, k ∈ ms ↔ k ∈ ns := by
  have tr : ∀ a b c : Int, decide (a ≤ b) = true → decide (b ≤ c) = true → decide (a ≤ c) = true := fun a b c h1 h2 => decide_eq_true (Int.le_trans (of_decide_eq_true h1) (of_decide_eq_true h2))
  have to : ∀ a b : Int, (decide (a ≤ b) || decide (b ≤ a)) = true := fun a b => by
    rcases Int.le_total a b with h | h
    · rw [decide_eq_true h]
      rfl
    · rw [decide_eq_true h, Bool.or_true]
  have hp := List.mergeSort_perm ns fun a b => decide (a ≤ b)
  have hs := List.pairwise_mergeSort tr to ns
  refine ⟨ns.mergeSort fun a b => decide (a ≤ b), keySort_map V.int PyData.int _ (fun a b => by rw [PySem.W.dataLe_int fun b => b]) ns, ?_, fun k => hp.mem_iff⟩
  have hnd : (ns.mergeSort fun a b => decide (a ≤ b)).Nodup := hp.nodup_iff.mpr hn
  exact (hs.and hnd).imp fun {a b} h => by
    have := of_decide_eq_true h.1
    have := h.2
    omega
theorem strs_sorted (ns : List Str) (hn : ns.Nodup) : ∃ ms : List Str, keySort (ns.map V.str) (ns.map PyData.str) = ms.map V.str ∧ ms.Pairwise ltS ∧ ∀ k, k ∈ ms ↔ k ∈ ns := by
  have tr : ∀ a b c : Str, decide (a.cps.toList ≤ b.cps.toList) = true → decide (b.cps.toList ≤ c.cps.toList) = true → decide (a.cps.toList ≤ c.cps.toList) = true := fun a b c h1 h2 => decide_eq_true (List.le_trans (of_decide_eq_true h1) (of_decide_eq_true h2))
  have to : ∀ a b : Str, (decide (a.cps.toList ≤ b.cps.toList) || decide (b.cps.toList ≤ a.cps.toList)) = true := fun a b => by
    rcases List.le_total a.cps.toList b.cps.toList with h | h
    · rw [decide_eq_true h]
      rfl
    · rw [decide_eq_true h, Bool.or_true]
  have hp := List.mergeSort_perm ns fun a b => decide (a.cps.toList ≤ b.cps.toList)
  have hs := List.pairwise_mergeSort tr to ns
  refine ⟨ns.mergeSort fun a b => decide (a.cps.toList ≤ b.cps.toList), keySort_map V.str PyData.str _ (fun a b => by rw [PySem.W.dataLe_str fun b => b]) ns, ?_, fun k => hp.mem_iff⟩
  have hnd : (ns.mergeSort fun a b => decide (a.cps.toList ≤ b.cps.toList)).Nodup := hp.nodup_iff.mpr hn
  exact (hs.and hnd).imp fun {a b} h => by
    have h1 := of_decide_eq_true h.1
    have h2 : a.cps.toList ≠ b.cps.toList := fun e => h.2 (PySem.W.str_of_cps e)
    rcases List.le_iff_lt_or_eq.mp h1 with h3 | h3
    · exact h3
    · exact absurd h3 h2
theorem ltS_asym {a b : Str} (h : ltS a b) (h' : ltS b a) : False := List.lt_irrefl _ (List.lt_trans h h')
theorem ltS_uniq : ∀ {xs ys : List Str}, xs.Pairwise ltS → ys.Pairwise ltS → (∀ z, z ∈ xs ↔ z ∈ ys) → xs = ys := fun {xs ys} h1 h2 h => by
  have n : ∀ {l : List Str}, l.Pairwise ltS → l.Nodup := fun h => h.imp fun {a b} h e => by
    subst e
    exact List.lt_irrefl _ h
  exact List.Perm.eq_of_pairwise (le := ltS) (fun a b _ _ x y => (ltS_asym x y).elim) h1 h2 ((List.perm_ext_iff_of_nodup (n h1) (n h2)).mpr h)
end Bz
namespace Bz
open PySem PySem.Spec PyProof.Rows L2
/-! ### sorted(set(xs)) as one expression -/
def aSS (K : PySem.W.Frag) (vs : List V) (H : Hp) (Q : VK) : Prop := ∃ a : Addr, vs = [V.ref a] ∧
  ((∃ ns : List Int, SqL K H a (ns.map V.int) ∧ ns.length ≤ 1000 ∧ ∀ (ms : List Int) (p : Addr), ms.Pairwise (· < ·) → (∀ k, k ∈ ms ↔ k ∈ ns) → H p = none → Q (.ref p) (upd H p (.lst (ms.map V.int)))) ∨
   (∃ zs : List Str, SqL K H a (zs.map V.str) ∧ zs.length ≤ 1000 ∧ ∀ (ms : List Str) (p : Addr), ms.Pairwise ltS → (∀ k, k ∈ ms ↔ k ∈ zs) → H p = none → Q (.ref p) (upd H p (.lst (ms.map V.str)))))
def tSortedSet (K : PySem.W.Frag) (te : TE) : TE := fun σ H Q => te σ H fun x H1 => aSS K [x] H1 Q
theorem vals_inl {ns : List Int} : (ns.map (Sum.inl : Int → Key)).map kV = ns.map V.int := by rw [List.map_map]; rfl
theorem vals_inr {zs : List Str} : (zs.map (Sum.inr : Str → Key)).map kV = zs.map V.str := by rw [List.map_map]; rfl
section
variable {X : Cx} {k : Nat} {e : Expr} {te : TE} {p p2 pos pos2 : Pos}
theorem SetM.lt {P : Program} {w : World} {h : Heap} {a : Addr} {S : Key → Bool} {n : Nat} (R : SetM P w h a S n) : a < h.objs.size := by
  obtain ⟨o, es, ep, t, ho, _⟩ := R
  exact Heap.lt_size ho
theorem fin_sorted {pins : List (Addr × Obj)} {σ : L2.St} {H : Hp} {s s' : Shared} {Q : VK} {p : Addr} {c : Nat} {ys : List V} {out : List Value} (I : Inv X pins σ H s) (k : ∀ b o, s.heap.get? b = some o → s'.heap.get? b = some o) (g : s'.gens = s.gens) (o : s'.os = s.os) (hp : s.heap.objs.size ≤ p)
    (hg : s'.heap.get? p = some (seqObj "list" out.toArray c)) (hv : Vals ys out) (hl : ys.length ≤ 1000) (q : H p = none → Q (.ref p) (upd H p (.lst ys))) : EP X pins σ Q (.ref p) s' := by
  have hn : H p = none := I.hok.fresh hp
  have hlen : ys.length ≤ sizeLine := by rw [sizeLine_eq]; omega
  have J : Inv X pins σ (upd H p (.lst ys)) { s with heap := s'.heap, gens := s'.gens, drawn := s'.drawn, toks := s'.toks } :=
    I.call (ch := []) (Un.laid k hp hn) (I.hok.laid k hp ⟨hlen, out, c, hv, hg⟩) (by rw [g]; exact I.bare) (fun _ z => nomatch z)
  have e : s' = { s with heap := s'.heap, gens := s'.gens, drawn := s'.drawn, toks := s'.toks } := by
    cases s'
    cases s
    cases o
    rfl
  rw [e]
  exact ⟨.ref p, _, J, rfl, q hn⟩
theorem pe_sortedSet (hc : X.calm = true) (hr : Room (k + 2) X.A) (hg1 : Gl X "sorted") (hm1 : X.mg "sorted" = none) (hg2 : Gl X "set") (hm2 : X.mg "set" = none) (ha : PE X e te)
    (hs : starEach [e] X.env = (false, eval e X.env) :: starEach [] X.env := by rfl) (hs2 : starEach [Expr.Call (.Name "set" p2) [e] [] pos2] X.env = (false, eval (.Call (.Name "set" p2) [e] [] pos2) X.env) :: starEach [] X.env := by rfl) :
    PE X (.Call (.Name "sorted" p) [.Call (.Name "set" p2) [e] [] pos2] [] pos) (tSortedSet X.K te) := by
  refine ⟨fun pins s σ H Q I h => ?_⟩
  have hv : bootBuiltins ("sorted" : Str) = some (.builtin "sorted") := by decide +kernel
  have hv2 : bootBuiltins ("set" : Str) = some (.type "set") := by decide +kernel
  have hu : X.A.in1.in1.units + 65 < cLine := hu65 (Room.in1 (Room.in1 hr))
  refine wpAny_Call_Name_kw (ld_blt I hg1 hm1 hv ?_ (by decide) (by decide))
  refine PyProof.Rows.callWith_builtin1 ?_ hs2 (by rfl)
  rw [hs2]
  show wpAny _ _ (spliced ((false, eval (.Call (.Name "set" p2) [e] [] pos2) X.env) :: backTo pos (starEach [] X.env))) _ _ s
  refine Calls.spliced_cons ?_
  refine wpAny_Call_Name_kw (ld_blt I hg2 hm2 hv2 ?_ (by decide) (by decide))
  refine PyProof.Rows.callWith_type1 (thn ((pa_cons ha pa_nil (hs := hs)).run pos2 pins s σ H (fun vs H1 => aSS X.K vs H1 Q) I h) fun us s1 ⟨vs, H1, I1, r1, q1⟩ => ?_) hs (by rfl)
  obtain ⟨a, rfl, hc2⟩ := q1
  rw [Vals.ref1 r1]
  have hh : X.A.handled = none := I1.ok.hd hc
  rcases hc2 with ⟨ns, hq, hl, q⟩ | ⟨zs, hq, hl, q⟩
  · obtain ⟨its, rv, hls, hz⟩ := I1.list hq
    refine call_setM (ns.map Sum.inl) hh hls.isList (by rw [vals_inl]; exact rv) (by rw [List.length_map]; show ns.length + 1 < 4096; omega) fun h' tk c hS hc' keep => ?_
    refine Calls.spliced_nil ?_
    have hlt := hS.lt
    refine sorted_setM (s := { s1 with heap := h', toks := tk }) (β := Int) Sum.inl PyData.int (fun x y e => Sum.inl.inj e) (fun b => .int b) (fun x y => by simp [PySem.W.alike]) (fun b => ⟨fun z => (by cases z), fun xs z => (by cases z)⟩) (fun b => Nat.zero_le _) hS (fun k hk => ?_) hh hu fun s' p out c bs keep2 g2 o2 hp he hv hn hm hbl => ?_
    · have := of_decide_eq_true hk
      obtain ⟨n, _, rfl⟩ := List.mem_map.mp this
      exact ⟨n, rfl⟩
    · obtain ⟨ms, e1, e2, e3⟩ := ints_sorted bs hn
      have e4 : ∀ k, k ∈ ms ↔ k ∈ ns := fun k => by
        rw [e3, hm, decide_eq_true_iff, List.mem_map]
        exact ⟨fun ⟨x, h1, h2⟩ => Sum.inl.inj h2 ▸ h1, fun h => ⟨k, h, rfl⟩⟩
      have hv' : Vals (ms.map V.int) out := by
        rw [← e1]
        exact hv
      have hol : (ms.map V.int).length ≤ 1000 := by
        rw [← e1, keySort_len _ _ (by rw [List.length_map, List.length_map]), List.length_map, hbl]
        rw [List.length_map] at hc'
        omega
      exact fin_sorted I1 (fun b o z => keep2 b o (keep b o z)) g2 o2 (Nat.le_trans (Nat.le_of_lt hlt) hp) he hv' hol (q ms p e2 e4)
  · obtain ⟨its, rv, hls, hz⟩ := I1.list hq
    refine call_setM (zs.map Sum.inr) hh hls.isList (by rw [vals_inr]; exact rv) (by rw [List.length_map]; show zs.length + 1 < 4096; omega) fun h' tk c hS hc' keep => ?_
    refine Calls.spliced_nil ?_
    have hlt := hS.lt
    refine sorted_setM (s := { s1 with heap := h', toks := tk }) (β := Str) Sum.inr PyData.str (fun x y e => Sum.inr.inj e) (fun b => .str b) (fun x y => by simp [PySem.W.alike]) (fun b => ⟨fun z => (by cases z), fun xs z => (by cases z)⟩) (fun b => Nat.zero_le _) hS (fun k hk => ?_) hh hu fun s' p out c bs keep2 g2 o2 hp he hv hn hm hbl => ?_
    · have := of_decide_eq_true hk
      obtain ⟨n, _, rfl⟩ := List.mem_map.mp this
      exact ⟨n, rfl⟩
    · obtain ⟨ms, e1, e2, e3⟩ := strs_sorted bs hn
      have e4 : ∀ k, k ∈ ms ↔ k ∈ zs := fun k => by
        rw [e3, hm, decide_eq_true_iff, List.mem_map]
        exact ⟨fun ⟨x, h1, h2⟩ => Sum.inr.inj h2 ▸ h1, fun h => ⟨k, h, rfl⟩⟩
      have hv' : Vals (ms.map V.str) out := by
        rw [← e1]
        exact hv
      have hol : (ms.map V.str).length ≤ 1000 := by
        rw [← e1, keySort_len _ _ (by rw [List.length_map, List.length_map]), List.length_map, hbl]
        rw [List.length_map] at hc'
        omega
      exact fin_sorted I1 (fun b o z => keep2 b o (keep b o z)) g2 o2 (Nat.le_trans (Nat.le_of_lt hlt) hp) he hv' hol (q ms p e2 e4)
end
/-! in what is known of the heap -/
section
variable {K : PySem.W.Frag} {B H : Hp} {M L : List (Addr × HO)} {Q : VK} {te : TE} {σ : L2.St} {a : Addr}
theorem g_sortedSet (h : te σ H fun x H1 => aSS K [x] H1 Q) : tSortedSet K te σ H Q := h
theorem g_aSSi {ns : List Int} (I : Is B M L H) (hs : SqL K H a (ns.map V.int)) (hl : ns.length ≤ 1000) (q : ∀ (ms : List Int) p H', ms.Pairwise (· < ·) → (∀ k, k ∈ ms ↔ k ∈ ns) → Is B M ((p, .lst (ms.map V.int)) :: L) H' → Q (.ref p) H') : aSS K [.ref a] H Q :=
  ⟨a, rfl, .inl ⟨ns, hs, hl, fun ms p h1 h2 hp => q ms p _ h1 h2 (I.new hp)⟩⟩
theorem g_aSSs {zs : List Str} (I : Is B M L H) (hs : SqL K H a (zs.map V.str)) (hl : zs.length ≤ 1000) (q : ∀ (ms : List Str) p H', ms.Pairwise ltS → (∀ k, k ∈ ms ↔ k ∈ zs) → Is B M ((p, .lst (ms.map V.str)) :: L) H' → Q (.ref p) H') : aSS K [.ref a] H Q :=
  ⟨a, rfl, .inr ⟨zs, hs, hl, fun ms p h1 h2 hp => q ms p _ h1 h2 (I.new hp)⟩⟩
end
end Bz
namespace Bz
open PySem PySem.Spec PyProof.Rows L2
/-! ### min(xs, key=f, default=d): xs a list or a tuple, the keys alike data -/
/-- what is walked: the iterator at I stands at i -/
structure NextS (X : Cx) (xs : List V) (Sq : Hp → Prop) (I : Addr) (It : Heap → Nat → Prop) : Prop where
  item : ∀ {A : Around} {E : Value → Shared → Prop} {Q : Option Value → Shared → Prop} {pins : List (Addr × Obj)} {σ : L2.St} {H : Hp} {s : Shared} {i : Nat} {x : V}, Inv X pins σ H s → Sq H → It s.heap i → xs[i]? = some x →
    (∀ v h', RelV x v → It h' (i + 1) → Heap.SameBut I s.heap h' → Q (some v) { s with heap := h' }) → wpAny (model X.prog X.w) A (pyNext (.ref I)) Q E s
  done : ∀ {A : Around} {E : Value → Shared → Prop} {Q : Option Value → Shared → Prop} {pins : List (Addr × Obj)} {σ : L2.St} {H : Hp} {s : Shared}, A.handled = none → Inv X pins σ H s → Sq H → It s.heap xs.length →
    (∀ h', Heap.ExtBut I s.heap h' → Q none { s with heap := h' }) → wpAny (model X.prog X.w) A (pyNext (.ref I)) Q E s
  keep : ∀ {h h' : Heap} {i : Nat}, It h i → (∀ o, h.get? I = some o → h'.get? I = some o) → It h' i
  obj : ∀ {h : Heap} {i : Nat}, It h i → ∃ o, h.get? I = some o ∧ ∀ v, o.data ≠ .cell v
theorem next_list {X : Cx} {xs : List V} {l I : Addr} (hne : True) : NextS X xs (fun H => SqL X.K H l xs) I (fun h i => h.IsListIter I l i) where
  item := fun {A E Q pins σ H s i x} I0 hs hit hx k => by
    obtain ⟨its, rv, hl, _⟩ := I0.list hs
    have hil : i < its.length := by
      have := (List.getElem?_eq_some_iff.mp hx).1
      rw [← rv.length]
      exact this
    obtain ⟨x', hx', rx⟩ := vals_at rv (List.getElem?_eq_getElem hil)
    rw [hx] at hx'
    cases hx'
    exact wpAny_pyNext_list_item hit hl.isList (by rw [List.getElem?_toArray, List.getElem?_eq_getElem hil]) fun h' a b => k _ h' rx a b
  done := fun {A E Q pins σ H s} hh I0 hs hit k => by
    obtain ⟨its, rv, hl, _⟩ := I0.list hs
    exact wpAny_pyNext_list_end hh hit hl.isList (by rw [List.getElem?_toArray, List.getElem?_eq_none (by rw [← rv.length]; exact Nat.le_refl _)]) fun h' a => k h' a
  keep := fun ⟨o, e, c, d⟩ k => ⟨o, k o e, c, d⟩
  obj := fun ⟨o, e, c, d⟩ => ⟨o, e, fun v q => by rw [d] at q; cases q⟩
theorem next_tup {X : Cx} {xs : List V} {l I : Addr} (hne : True) : NextS X xs (fun H => SqT X.K H l xs) I (fun h i => h.IsTupleIter I l i) where
  item := fun {A E Q pins σ H s i x} I0 hs hit hx k => by
    obtain ⟨its, rv, hl, _⟩ := I0.tuple hs
    have hil : i < its.length := by
      have := (List.getElem?_eq_some_iff.mp hx).1
      rw [← rv.length]
      exact this
    obtain ⟨x', hx', rx⟩ := vals_at rv (List.getElem?_eq_getElem hil)
    rw [hx] at hx'
    cases hx'
    exact wpAny_pyNext_tuple_item hit hl (by rw [List.getElem?_toArray, List.getElem?_eq_getElem hil]) fun h' a b => k _ h' rx a b
  done := fun {A E Q pins σ H s} hh I0 hs hit k => by
    obtain ⟨its, rv, hl, _⟩ := I0.tuple hs
    exact wpAny_pyNext_tuple_end hh hit hl (by rw [List.getElem?_toArray, List.getElem?_eq_none (by rw [← rv.length]; exact Nat.le_refl _)]) fun h' a => k h' a
  keep := fun ⟨o, e, c, d⟩ k => ⟨o, k o e, c, d⟩
  obj := fun ⟨o, e, c, d⟩ => ⟨o, e, fun v q => by rw [d] at q; cases q⟩
abbrev btK (kz : List PyData) (i j : Nat) : Bool := PySem.W.dataLt (kz.getD i .none) (kz.getD j .none)
section
variable {X : Cx} {pins : List (Addr × Obj)} {σ : L2.St} {A : Around} {J : Nat → Hp → Prop} {xs : List V} {kz : List PyData} {Sq : Hp → Prop} {I S f : Addr} {It : Heap → Nat → Prop} {R : Result → Shared → Prop}
theorem argBest_le (bt : Nat → Nat → Bool) : ∀ j, argBest bt j ≤ j
  | 0 => Nat.le_refl _
  | j + 1 => by
    unfold argBest
    split
    · exact Nat.le_refl _
    · exact Nat.le_succ_of_le (argBest_le bt j)
theorem min_loopD (kw : List (Str × Value)) (hh : A.handled = none) (Nx : NextS X xs Sq I It) (hSI : S ≠ I) (hl : kz.length = xs.length) (hal : PySem.W.AllAlike kz) (hnn : ∀ d ∈ kz, d ≠ .none) (hu : ∀ d ∈ kz, A.in1.units + d.depth < cLine) (hJ : ∀ i H, J i H → Sq H)
    (turn : ∀ (i : Nat) (x : V) (k : PyData), xs[i]? = some x → kz[i]? = some k → ∀ (pins' : List (Addr × Obj)) (H' : Hp) (s' : Shared) (u : Value), RelV x u → Inv X pins' σ H' s' → J i H' →
      wpAny (model X.prog X.w) A.in1 (call (.ref f) [u]) (fun y s'' => CE X.stack X.prog X.w H' s' (fun y H'' => KeyV H'' y k ∧ J (i + 1) H'') y s'') (fun _ _ => False) s')
    (hR : ∀ (x : V) (v : Value) (H' : Hp) (s' : Shared), xs[argBest (btK kz) (xs.length - 1)]? = some x → RelV x v → Inv X pins σ H' s' → J xs.length H' → R (.ok (.ret v)) s') :
    ∀ (r j : Nat) (H : Hp) (s : Shared) (xb yb : V) (vb kb : Value) (db : PyData) (c : Nat), xs.length - (j + 1) = r → j + 1 ≤ xs.length → Inv X pins σ H s → J (j + 1) H → FpOk X pins H I → FpOk X pins H S →
      s.heap.get? S = some (seqObj "list" #[vb, kb] c) → It s.heap (j + 1) → xs[argBest (btK kz) j]? = some xb → RelV xb vb → kz[argBest (btK kz) j]? = some db → KeyV H yb db → RelV yb kb →
      codeAny (model X.prog X.w) A (.builtin "min.loop" ⟨[.ref I, .ref f, .ref S], kw⟩) R s := by
  have hname : (toString "min" ++ toString ".loop" : String) = "min.loop" := by decide
  intro r
  induction r with
  | zero =>
    intro j H s xb yb vb kb db c hr hj I0 j0 fI fS nS hit hxb rxb hdb hkb rkb
    have hin : j + 1 = xs.length := by omega
    refine codeAny_builtin PySem.F.entry_min_loop ?_
    rw [Around.under_plainId PySem.F.plain_min_loop _]
    show wpAny _ A.in1 (seqItems? (.ref S) >>= _) _ _ _
    refine wpAny_bind (wpAny_seqItems nS rfl ?_)
    show wpAny _ A.in1 (tryCatch (pyNext (.ref I)) _ >>= _) _ _ _
    refine wpAny_bind (wpAny_tryCatch (Nx.done (A := A.in1) hh I0 (hJ _ _ j0) (by rw [← hin]; exact hit) fun h' hk' => ?_))
    have I1 := I0.turned (t' := s.toks) (it := I) (h' := h') (fun b o hb e => hk' b o hb e) fI.1 fI.2.1 fI.2.2.2.1 fI.2.2.2.2.1 fI.2.2.2.2.2
    have nS' := hk' S _ hSI nS
    have s1 := Heap.SameBut.update h' S (Obj.mapSeq fun _ => (#[] : Array Value))
    have I2 := I1.turned (t' := s.toks) (it := S) (h' := h'.update S (Obj.mapSeq fun _ => (#[] : Array Value))) (fun b o hb e => (s1.2 b hb).trans e) fS.1 fS.2.1 fS.2.2.2.1 fS.2.2.2.2.1 fS.2.2.2.2.2
    show wpAny _ A.in1 (updateSeq S (fun _ => #[]) >>= _) _ _ _
    refine wpAny_bind ?_
    refine wpAny_updateSeq nS' rfl (wpAny_bind (wpAny_letGo (wpAny_pure ?_)))
    exact hR xb vb H _ (by rw [show xs.length - 1 = j from by omega]; exact hxb) rxb I2 (by rw [← hin]; exact j0)
  | succ r ih =>
    intro j H s xb yb vb kb db c hr hj I0 j0 fI fS nS hit hxb rxb hdb hkb rkb
    have hlt : j + 1 < xs.length := by omega
    obtain ⟨x2, hx2⟩ : ∃ x2, xs[j + 1]? = some x2 := ⟨_, List.getElem?_eq_getElem hlt⟩
    obtain ⟨d2, hd2⟩ : ∃ d2, kz[j + 1]? = some d2 := ⟨_, List.getElem?_eq_getElem (by omega)⟩
    refine codeAny_builtin PySem.F.entry_min_loop ?_
    rw [Around.under_plainId PySem.F.plain_min_loop _]
    show wpAny _ A.in1 (seqItems? (.ref S) >>= _) _ _ _
    refine wpAny_bind (wpAny_seqItems nS rfl ?_)
    show wpAny _ A.in1 (tryCatch (pyNext (.ref I)) _ >>= _) _ _ _
    refine wpAny_bind (wpAny_tryCatch (Nx.item (A := A.in1) I0 (hJ _ _ j0) hit hx2 fun v2 h' rv2 hit' hk' => ?_))
    have I1 := I0.turned (t' := s.toks) (it := I) (h' := h') (fun b o hb e => (hk'.2 b hb).trans e) fI.1 fI.2.1 fI.2.2.2.1 fI.2.2.2.2.1 fI.2.2.2.2.2
    have nS' : h'.get? S = some (seqObj "list" #[vb, kb] c) := (hk'.2 S hSI).trans nS
    obtain ⟨oI, hoI, hoc⟩ := Nx.obj hit'
    have I2 := I1.pinned (fp := [S, I]) (fun b hb => by
      rcases List.mem_cons.mp hb with rfl | hb
      · exact fS
      · rw [List.mem_singleton.mp hb]
        exact fI) (fun b hb => by
      rcases List.mem_cons.mp hb with rfl | hb
      · exact ⟨_, nS', fun v q => by cases q⟩
      · rw [List.mem_singleton.mp hb]
        exact ⟨_, hoI, hoc⟩)
    have mS : (S, seqObj "list" #[vb, kb] c) ∈ pinsAt [S, I] h' := List.mem_filterMap.mpr ⟨S, List.mem_cons_self, by rw [nS']; rfl⟩
    have mI : (I, oI) ∈ pinsAt [S, I] h' := List.mem_filterMap.mpr ⟨I, List.mem_cons_of_mem _ List.mem_cons_self, by rw [hoI]; rfl⟩
    show wpAny _ A.in1 (tryCatch (holding [v2] (call (.ref f) [v2])) _ >>= _) _ _ _
    refine wpAny_bind (wpAny_tryCatch (wpAny_holding (wpAny_mono (turn (j + 1) x2 d2 hx2 hd2 _ H _ v2 rv2 I2 j0) (fun ky s'' he => ?_) fun _ _ hF => hF.elim)))
    obtain ⟨yv, H'', os, bare, un, hok, ry, hkey, j2⟩ := he
    have I3 := I2.call' (ch := []) os un hok bare (fun b z => absurd z (by simp))
    have pS := I3.pin _ (List.mem_append_right _ (List.mem_append_right _ mS))
    have pI := I3.pin _ (List.mem_append_right _ (List.mem_append_right _ mI))
    have nS2 : s''.heap.get? S = some (seqObj "list" #[vb, kb] c) := pS.1
    have nI2 : s''.heap.get? I = some oI := pI.1
    have fS2 : FpOk X pins H'' S := FpOk.other fS pS.2.1
    have fI2 : FpOk X pins H'' I := FpOk.other fI pI.2.1
    have I4 := I3.unpinned
    have hit2 : It s''.heap (j + 1 + 1) := Nx.keep hit' fun o e => by
      rw [hoI] at e
      cases e
      exact nI2
    have hkb2 : KeyV H'' yb db := KeyV.mono un.tups hkb
    have hmd : d2 ∈ kz := List.mem_of_getElem? hd2
    have hmb : db ∈ kz := List.mem_of_getElem? hdb
    show wpAny _ A.in1 (tryCatch (holding [v2, ky] (richCompare .Lt ky kb >>= _)) _ >>= _) _ _ _
    refine wpAny_bind (wpAny_tryCatch (wpAny_holding (wpAny_bind ?_)))
    refine PySem.W.lt_data (hkey.reads I4.hok ry) (hkb2.reads I4.hok rkb) (hal _ hmd _ hmb) (hnn _ hmd) (Nat.lt_of_le_of_lt (Nat.add_le_add_left (Nat.min_le_left _ _) _) (hu _ hmd)) ?_
    refine wpAny_bind (wpAny_holding (wpAny_truthy_bool ?_))
    refine wpAny_bind (wpAny_letGo (wpAny_pure ?_))
    have ebt : btK kz (j + 1) (argBest (btK kz) j) = PySem.W.dataLt d2 db := by
      unfold btK
      rw [List.getD_eq_getElem?_getD, List.getD_eq_getElem?_getD, hd2, hdb]
      rfl
    have hle := argBest_le (btK kz) j
    by_cases hb' : PySem.W.dataLt d2 db = true
    · have s1 := Heap.SameBut.update s''.heap S (Obj.mapSeq fun _ => #[v2, ky])
      obtain ⟨c2, hc2⟩ : ∃ c2, (s''.heap.update S (Obj.mapSeq fun _ => #[v2, ky])).get? S = some (seqObj "list" #[v2, ky] c2) := ⟨_, get?_update_seq nS2 fun _ => #[v2, ky]⟩
      have I5 := I4.turned (t' := s''.toks) (it := S) (h' := s''.heap.update S (Obj.mapSeq fun _ => #[v2, ky])) (fun b o hb e => (s1.2 b hb).trans e) fS2.1 fS2.2.1 fS2.2.2.2.1 fS2.2.2.2.2.1 fS2.2.2.2.2.2
      have ea : argBest (btK kz) (j + 1) = j + 1 := by
        show (if btK kz (j + 1) (argBest (btK kz) j) = true then j + 1 else argBest (btK kz) j) = _
        rw [if_pos (by rw [ebt]; exact hb')]
      rw [hb']
      simp only [if_true]
      refine wpAny_bind ?_
      refine wpAny_updateSeq nS2 rfl (wpAny_bind (wpAny_letGo ?_))
      rw [hname]
      refine wpAny_pure ⟨plainId_quiet PySem.F.plain_min_loop _, ih (j + 1) H'' _ x2 yv v2 ky d2 c2 (by omega) hlt I5 j2 fI2 fS2 hc2 (Nx.keep hit2 fun o e => (s1.2 I hSI.symm).trans e) (by rw [ea]; exact hx2) rv2 (by rw [ea]; exact hd2) hkey ry⟩
    · have ea : argBest (btK kz) (j + 1) = argBest (btK kz) j := by
        show (if btK kz (j + 1) (argBest (btK kz) j) = true then j + 1 else argBest (btK kz) j) = _
        rw [if_neg (by rw [ebt]; exact hb')]
      simp only [hb', Bool.false_eq_true, if_false]
      refine wpAny_bind (wpAny_letGo ?_)
      rw [hname]
      refine wpAny_pure ⟨plainId_quiet PySem.F.plain_min_loop _, ih (j + 1) H'' _ xb yb vb kb db c (by omega) hlt I4 j2 fI2 fS2 nS2 hit2 (by rw [ea]; exact hxb) rxb (by rw [ea]; exact hdb) hkb2 rkb⟩
end
end Bz
namespace Bz
open PySem PySem.Spec PyProof.Rows L2
/-! ### min(xs, key=f, default=d) -/
section
variable {X : Cx} {pins : List (Addr × Obj)} {σ : L2.St} {J : Nat → Hp → Prop} {xs : List V} {kz : List PyData} {Sq : Hp → Prop} {f a : Addr} {It : Heap → Nat → Prop}
theorem min_from {s : Shared} {H : Hp} {io : Obj} {d : V} {ud : Value} {Q : VK} {I S : Addr} (hh : X.A.handled = none) (I0 : Inv X pins σ H s) (hI : s.heap.objs.size = I) (hS : (s.heap.push io).objs.size = S) (hit : It (s.heap.push io) 0)
    (Nx : NextS X xs Sq I It) (hl : kz.length = xs.length) (hal : PySem.W.AllAlike kz) (hnn : ∀ d ∈ kz, d ≠ .none) (hu : ∀ d ∈ kz, X.A.in1.units + d.depth < cLine) (hJ : ∀ i H, J i H → Sq H) (j0 : J 0 H) (rd : RelV d ud)
    (turn : ∀ (i : Nat) (x : V) (k : PyData), xs[i]? = some x → kz[i]? = some k → ∀ (pins' : List (Addr × Obj)) (H' : Hp) (s' : Shared) (u : Value), RelV x u → Inv X pins' σ H' s' → J i H' →
      wpAny (model X.prog X.w) X.A.in1 (call (.ref f) [u]) (fun y s'' => CE X.stack X.prog X.w H' s' (fun y H'' => KeyV H'' y k ∧ J (i + 1) H'') y s'') (fun _ _ => False) s')
    (q0 : xs = [] → ∀ H', J 0 H' → Q d H') (q : ∀ x H', xs[argBest (btK kz) (xs.length - 1)]? = some x → J xs.length H' → Q x H') :
    codeAny (model X.prog X.w) X.A (.builtin "min.loop" ⟨[.ref I, .ref f, .ref S], [(Str.ofString "default", ud)]⟩) (fun r s' => match r with | .ok (.ret v) => EP X pins σ Q v s' | _ => False) { s with heap := (s.heap.push io).push (seqObj "list" #[] 0) } := by
  have hname : (toString "min" ++ toString ".loop" : String) = "min.loop" := by decide
  have hSz : S = I + 1 := by rw [← hS, ← hI]; exact size_push' ..
  have hSI : S ≠ I := by rw [hSz]; exact Nat.ne_of_gt (Nat.lt_succ_self _)
  have keep : ∀ b o, s.heap.get? b = some o → ((s.heap.push io).push (seqObj "list" #[] 0)).get? b = some o := fun b o e => Heap.get?_push_of_some _ (Heap.get?_push_of_some _ e)
  have I1 : Inv X pins σ H { s with heap := (s.heap.push io).push (seqObj "list" #[] 0) } := I0.kept (t' := s.toks) keep
  have fI : FpOk X pins H I := I0.fpOk (Nat.le_of_eq hI) (I0.hok.fresh (Nat.le_of_eq hI))
  have hle : s.heap.objs.size ≤ S := by rw [hSz, ← hI]; exact Nat.le_succ _
  have fS : FpOk X pins H S := I0.fpOk hle (I0.hok.fresh hle)
  have hit1 : It ((s.heap.push io).push (seqObj "list" #[] 0)) 0 := Nx.keep hit fun o e => Heap.get?_push_of_some _ e
  have gS : ((s.heap.push io).push (seqObj "list" #[] 0)).get? S = some (seqObj "list" #[] 0) := by
    rw [← hS]
    exact Heap.get?_push_size _ rfl
  generalize (s.heap.push io).push (seqObj "list" #[] 0) = h1 at *
  refine codeAny_builtin PySem.F.entry_min_loop ?_
  rw [Around.under_plainId PySem.F.plain_min_loop _]
  show wpAny _ X.A.in1 (seqItems? (.ref S) >>= _) _ _ _
  refine wpAny_bind (wpAny_seqItems gS rfl ?_)
  show wpAny _ X.A.in1 (tryCatch (pyNext (.ref I)) _ >>= _) _ _ _
  by_cases h0 : xs = []
  · refine wpAny_bind (wpAny_tryCatch (Nx.done (A := X.A.in1) hh I1 (hJ _ _ j0) (by rw [h0]; exact hit1) fun h' hk' => ?_))
    have I2 := I1.turned (t' := s.toks) (it := I) (h' := h') (fun b o hb e => hk' b o hb e) fI.1 fI.2.1 fI.2.2.2.1 fI.2.2.2.2.1 fI.2.2.2.2.2
    show wpAny _ X.A.in1 (rule _ >>= _) _ _ _
    exact wpAny_bind (wpAny_rule (wpAny_pure ⟨d, H, I2, rd, q0 h0 H j0⟩))
  · have hne : 0 < xs.length := Nat.pos_of_ne_zero fun z => h0 (List.length_eq_zero_iff.mp z)
    obtain ⟨x2, hx2⟩ : ∃ x2, xs[0]? = some x2 := ⟨_, List.getElem?_eq_getElem hne⟩
    obtain ⟨d2, hd2⟩ : ∃ d2, kz[0]? = some d2 := ⟨_, List.getElem?_eq_getElem (by omega)⟩
    refine wpAny_bind (wpAny_tryCatch (Nx.item (A := X.A.in1) I1 (hJ _ _ j0) hit1 hx2 fun v2 h' rv2 hit' hk' => ?_))
    have I2 := I1.turned (t' := s.toks) (it := I) (h' := h') (fun b o hb e => (hk'.2 b hb).trans e) fI.1 fI.2.1 fI.2.2.2.1 fI.2.2.2.2.1 fI.2.2.2.2.2
    have nS' : h'.get? S = some (seqObj "list" #[] 0) := (hk'.2 S hSI).trans gS
    obtain ⟨oI, hoI, hoc⟩ := Nx.obj hit'
    have I3 := I2.pinned (fp := [S, I]) (fun b hb => by
      rcases List.mem_cons.mp hb with rfl | hb
      · exact fS
      · rw [List.mem_singleton.mp hb]
        exact fI) (fun b hb => by
      rcases List.mem_cons.mp hb with rfl | hb
      · exact ⟨_, nS', fun v q => by cases q⟩
      · rw [List.mem_singleton.mp hb]
        exact ⟨_, hoI, hoc⟩)
    have mS : (S, seqObj "list" #[] 0) ∈ pinsAt [S, I] h' := List.mem_filterMap.mpr ⟨S, List.mem_cons_self, by rw [nS']; rfl⟩
    have mI : (I, oI) ∈ pinsAt [S, I] h' := List.mem_filterMap.mpr ⟨I, List.mem_cons_of_mem _ List.mem_cons_self, by rw [hoI]; rfl⟩
    show wpAny _ X.A.in1 (tryCatch (holding [v2] (call (.ref f) [v2])) _ >>= _) _ _ _
    refine wpAny_bind (wpAny_tryCatch (wpAny_holding (wpAny_mono (turn 0 x2 d2 hx2 hd2 _ H _ v2 rv2 I3 j0) (fun ky s'' he => ?_) fun _ _ hF => hF.elim)))
    obtain ⟨yv, H'', os, bare, un, hok, ry, hkey, j2⟩ := he
    have I4 := I3.call' (ch := []) os un hok bare (fun b z => absurd z (by simp))
    have pS := I4.pin _ (List.mem_append_right _ (List.mem_append_right _ mS))
    have pI := I4.pin _ (List.mem_append_right _ (List.mem_append_right _ mI))
    have nS2 : s''.heap.get? S = some (seqObj "list" #[] 0) := pS.1
    have nI2 : s''.heap.get? I = some oI := pI.1
    have fS2 : FpOk X pins H'' S := FpOk.other fS pS.2.1
    have fI2 : FpOk X pins H'' I := FpOk.other fI pI.2.1
    have I5 := I4.unpinned
    have s1 := Heap.SameBut.update s''.heap S (Obj.mapSeq fun _ => #[v2, ky])
    obtain ⟨c2, hc2⟩ : ∃ c2, (s''.heap.update S (Obj.mapSeq fun _ => #[v2, ky])).get? S = some (seqObj "list" #[v2, ky] c2) := ⟨_, get?_update_seq nS2 fun _ => #[v2, ky]⟩
    have I6 := I5.turned (t' := s''.toks) (it := S) (h' := s''.heap.update S (Obj.mapSeq fun _ => #[v2, ky])) (fun b o hb e => (s1.2 b hb).trans e) fS2.1 fS2.2.1 fS2.2.2.2.1 fS2.2.2.2.2.1 fS2.2.2.2.2.2
    have hit2 : It (s''.heap.update S (Obj.mapSeq fun _ => #[v2, ky])) (0 + 1) := Nx.keep hit' fun o e => by
      rw [hoI] at e
      cases e
      exact (s1.2 I hSI.symm).trans nI2
    show wpAny _ X.A.in1 (updateSeq S (fun _ => #[v2, ky]) >>= _) _ _ _
    refine wpAny_bind ?_
    refine wpAny_updateSeq nS2 rfl ?_
    rw [hname]
    refine wpAny_pure ⟨plainId_quiet PySem.F.plain_min_loop _, min_loopD [(Str.ofString "default", ud)] (A := X.A) hh Nx hSI hl hal hnn hu hJ turn (fun x v H' s' hx rx I' j => ?_) _ 0 H'' _ x2 yv v2 ky d2 c2 rfl hne I6 j2 fI2 fS2 hc2 hit2 hx2 rv2 hd2 hkey ry⟩
    exact ⟨x, H', I', rx, q x H' hx j⟩
end
def rMinKeyD (K : PySem.W.Frag) (f : Str) (sp : Sp) (gV : List V → List V → List V) : List V → List V → Hp → VK → Prop := fun vs zs H Q => ∃ (a : Addr) (xs : List V) (kz : List PyData) (J : Nat → Hp → Prop) (d : V), vs = [.ref a] ∧ zs = [.ref (He.ga K f), d] ∧ ((∀ i H, J i H → SqL K H a xs) ∨ (∀ i H, J i H → SqT K H a xs)) ∧ kz.length = xs.length ∧ PySem.W.AllAlike kz ∧ (∀ d ∈ kz, d ≠ .none ∧ d.depth ≤ 5) ∧ J 0 H ∧
  (∀ (i : Nat) (x : V) (k : PyData) (H' : Hp), xs[i]? = some x → kz[i]? = some k → J i H' → sp (gV [x] []) H' (fun y H'' => KeyV H'' y k ∧ J (i + 1) H'') E0) ∧
  (xs = [] → ∀ H', J 0 H' → Q d H') ∧ ∀ x H', xs[argBest (btK kz) (xs.length - 1)]? = some x → J xs.length H' → Q x H'
section
variable {X : Cx} {CX : CXT} {k k' : Nat} {sp : Sp} {f : Str} {gV : List V → List V → List V}
theorem ck_minKeyD (hc : X.calm = true) (c : CallOk X.prog X.w X.K X.mg X.base CX k f 1 [] sp gV) (hr : Room (k' + 2) X.A) (hk : k ≤ k') (hg : X.A.guards = some []) (hx : ∀ E', Passes CX (X.wish E') E0) : CallRK X (.builtin "min") [Str.ofString "key", Str.ofString "default"] (rMinKeyD X.K f sp gV) := by
  intro pins s σ H vs zs us ws Q I0 r rz h
  obtain ⟨a, xs, kz, J, d, rfl, rfl, hseq, hl, hal, hnd, j0, ht, q0, q⟩ := h
  obtain rfl := Vals.ref1 r
  obtain ⟨u1, ud, rfl, r1, rd⟩ := vals2 rz
  obtain rfl : u1 = .ref (He.ga X.K f) := r1
  have hh : X.A.handled = none := I0.ok.hd hc
  obtain ⟨⟨fd, ps, g, F, kb⟩, at_, kp⟩ := c
  have hr2 : Room k X.A.in1 := (Room.in1 hr).mono (Nat.le_succ_of_le hk)
  have turn : ∀ (i : Nat) (x : V) (k : PyData), xs[i]? = some x → kz[i]? = some k → ∀ (pins' : List (Addr × Obj)) (H' : Hp) (s' : Shared) (u : Value), RelV x u → Inv X pins' σ H' s' → J i H' →
      wpAny (model X.prog X.w) X.A.in1 (call (.ref (He.ga X.K f)) [u]) (fun y s'' => CE X.stack X.prog X.w H' s' (fun y H'' => KeyV H'' y k ∧ J (i + 1) H'') y s'') (fun _ _ => False) s' := fun i x k hx1 hk1 pins' H' s' u rx I' j => by
    refine wpAny_call (codeAny_mono (F.go X.A.in1 X.stack s' H' ⟨[u], []⟩ (g [u] []) (gV [x] []) _ E0 hr2 hg I'.env0.in1 (kb.to s' [u] [] I'.kIn rfl rfl) (kb.rel (.cons rx .nil) .nil) (ht i x k H' hx1 hk1 j)) ?_)
    intro r s'' z
    cases r with
    | error e => exact hx (fun _ _ => False) pins' σ H' s' e s'' (I'.wish _) z
    | ok fl =>
      cases fl with
      | ret u => exact z
      | next => exact False.elim z
      | brk => exact False.elim z
      | cont => exact False.elim z
  have hu : ∀ d ∈ kz, X.A.in1.units + d.depth < cLine := fun d hd => by
    have h1 := hr2.un
    have h2 := (hnd d hd).2
    omega
  have hname : (toString "min" ++ toString ".loop" : String) = "min.loop" := by decide
  refine kmk_tree PySem.F.kind_min PySem.F.plain_min PySem.F.entry_min (args_min_key_default _ _ _) ?_
  show wpAny _ X.A.in1 (Builtin.Builtins.bindParams "min" ["key", "default"] 0 ⟨[], [(Str.ofString "key", .ref (He.ga X.K f)), (Str.ofString "default", ud)]⟩ >>= _) _ _ s
  refine wpAny_bind (wpAny_of_eq (show Builtin.Builtins.bindParams "min" ["key", "default"] 0 ⟨[], [(Str.ofString "key", .ref (He.ga X.K f)), (Str.ofString "default", ud)]⟩ = pure [some (.ref (He.ga X.K f)), some ud] from rfl) ?_)
  refine wpAny_bind (wpAny_pure ?_)
  rcases hseq with hs | hs
  · obtain ⟨its, rv, hls, hz⟩ := I0.list (hs 0 H j0)
    refine wpAny_bind (wpAny_pyIter_list hls.isList ?_)
    refine wpAny_bind (wpAny_newList ?_ (Nat.zero_le _))
    rw [hname]
    refine wpAny_pure ⟨plainId_quiet PySem.F.plain_min_loop _, codeAny_mono (min_from (io := { cls := .type "list_iterator", data := .fields #[.ref a, .int 0 0] }) (It := fun h i => h.IsListIter s.heap.objs.size a i) hh I0 rfl rfl ⟨_, Heap.get?_push_size _ rfl, rfl, rfl⟩ (next_list True.intro) hl hal (fun d hd => (hnd d hd).1) hu hs j0 rd turn q0 q) fun r s' hq => ?_⟩
    cases r with
    | error e => exact False.elim hq
    | ok fl =>
      cases fl with
      | ret v => exact hq
      | next => exact False.elim hq
      | brk => exact False.elim hq
      | cont => exact False.elim hq
  · obtain ⟨its, rv, hls, hz⟩ := I0.tuple (hs 0 H j0)
    refine wpAny_bind (wpAny_pyIter_tuple hls ?_)
    refine wpAny_bind (wpAny_newList ?_ (Nat.zero_le _))
    rw [hname]
    refine wpAny_pure ⟨plainId_quiet PySem.F.plain_min_loop _, codeAny_mono (min_from (io := { cls := .type "tuple_iterator", data := .fields #[.ref a, .int 0 0] }) (It := fun h i => h.IsTupleIter s.heap.objs.size a i) hh I0 rfl rfl ⟨_, Heap.get?_push_size _ rfl, rfl, rfl⟩ (next_tup True.intro) hl hal (fun d hd => (hnd d hd).1) hu hs j0 rd turn q0 q) fun r s' hq => ?_⟩
    cases r with
    | error e => exact False.elim hq
    | ok fl =>
      cases fl with
      | ret v => exact hq
      | next => exact False.elim hq
      | brk => exact False.elim hq
      | cont => exact False.elim hq
end
end Bz
namespace Bz
open PySem PySem.Spec PyProof.Rows L2
/-! ### sorted(d) of a dict by texts; d.setdefault(k, x); min by own keys -/
theorem sortedS_pair : ∀ {l : List Str}, sortedS l = true → l.Pairwise (fun a b => ¬ b.cps.toList < a.cps.toList)
  | [], _ => .nil
  | x :: r, h => by
    have key : ∀ (p : Str) (l : List Str), risingS p l = true → (p :: l).Pairwise (fun a b => ¬ b.cps.toList < a.cps.toList) := by
      intro p l
      induction l generalizing p with
      | nil => exact fun _ => List.pairwise_singleton _ _
      | cons x r ih =>
        intro h
        have h : (!ltCps x.cps.toList p.cps.toList && risingS x r) = true := h
        rw [Bool.and_eq_true, Bool.not_eq_true', ltCps_eq, decide_eq_false_iff_not] at h
        have h2 := ih x h.2
        refine List.pairwise_cons.mpr ⟨fun y hy => ?_, h2⟩
        rcases List.mem_cons.mp hy with rfl | hy
        · exact h.1
        · have h3 := (List.pairwise_cons.mp h2).1 y hy
          exact List.not_lt.mpr (List.le_trans (List.not_lt.mp h.1) (List.not_lt.mp h3))
    exact key x r h
theorem sortedS_ltS {l : List Str} (h : sortedS l = true) (nd : l.Nodup) : l.Pairwise ltS :=
  ((sortedS_pair h).and nd).imp fun {a b} h => by
    rcases List.le_iff_lt_or_eq.mp (List.not_lt.mp h.1) with h3 | h3
    · exact h3
    · exact absurd (PySem.W.str_of_cps h3) h.2
def rSortedD (K : PySem.W.Frag) : List V → Hp → VK → Prop := fun xs H Q => ∃ (a : Addr) (kvs : List (Key × V)) (ks : List Str), xs = [.ref a] ∧ Rd H a (.dK kvs) ∧ kvs.map (·.1) = ks.map Sum.inr ∧ ks.length < 64 ∧
    ∀ ys p, ys.Perm ks → sortedS ys = true → H p = none → Q (.ref p) (upd H p (.lst (ys.map V.str)))
section
variable {K : PySem.W.Frag} {B H : Hp} {M L L' : List (Addr × HO)} {Q : VK} {a : Addr} {σ : L2.St}
theorem g_sortedD {kvs : List (Key × V)} {ks : List Str} (I : Is B M L H) (h : H a = some (.dK kvs)) (hk : kvs.map (·.1) = ks.map Sum.inr) (hl : ks.length < 64) (nd : ks.Nodup) (q : ∀ (ys : List Str) p H', ys.Pairwise ltS → (∀ z, z ∈ ys ↔ z ∈ ks) → Is B M ((p, .lst (ys.map V.str)) :: L) H' → Q (.ref p) H') : rSortedD K [.ref a] H Q :=
  ⟨a, kvs, ks, rfl, .inl h, hk, hl, fun ys p hp hs hn => q ys p _ (sortedS_ltS hs (hp.nodup_iff.mpr nd)) (fun z => hp.mem_iff) (I.new hn)⟩
theorem cl_sortedD {X : Cx} (hc : X.calm = true) : CallR X (.builtin "sorted") (rSortedD X.K) := call_sortedD hc
theorem g_dsetd {td ty tx : TE} (h : td σ H fun x H1 => ∃ a, x = .ref a ∧ IsD H1 a ∧ ty σ H1 fun y H2 => tx σ H2 fun z H3 => ∃ (kvs : List (Key × V)) (k : Key), H3 a = some (.dK kvs) ∧ y = kV k ∧ kvs.length < sizeLine ∧
  (∀ v, valV kvs k = some v → Q v H3) ∧ (valV kvs k = none → Q z (upd H3 a (.dK (putK kvs k z))))) : tDSetd td ty tx σ H Q := h
end
section
variable {K : PySem.W.Frag} {B H : Hp} {M L : List (Addr × HO)} {Q : VK}
theorem g_minKeyD {β : Type} {R : V → β → Prop} {f : Str} {sp : Sp} {gV : List V → List V → List V} {a : Addr} {xs : List V} {bs : List β} {d : V} (key : β → PyData) (I : Is B M L H) (hs : SqL K B a xs ∨ SqT K B a xs) (h : All2 R xs bs) (hal : PySem.W.AllAlike (bs.map key)) (hd : ∀ d ∈ bs.map key, d ≠ .none ∧ d.depth ≤ 5)
    (ht : ∀ x b H', R x b → Is B M L H' → sp (gV [x] []) H' (fun y H'' => KeyV H'' y (key b) ∧ Is B M L H'') E0) (q0 : bs = [] → ∀ H', Is B M L H' → Q d H')
    (q : ∀ x b H', R x b → bs[argBest (btK (bs.map key)) (bs.length - 1)]? = some b → Is B M L H' → Q x H') : rMinKeyD K f sp gV [.ref a] [.ref (He.ga K f), d] H Q := by
  have hl := h.len
  refine ⟨a, xs, bs.map key, fun _ H' => Is B M L H', d, rfl, rfl, ?_, by rw [List.length_map, hl], hal, hd, I, fun i x k H' hx hk I' => ?_, fun e H' I' => q0 (by cases h with | nil => rfl | cons _ _ => cases e) H' I', fun x H' hx I' => ?_⟩
  · rcases hs with hs | hs
    · exact .inl fun _ H' I' => I'.sq hs
    · exact .inr fun _ H' I' => I'.st hs
  · obtain ⟨b, hb, hR⟩ := h.get hx
    rw [List.getElem?_map, hb] at hk
    cases hk
    exact ht x b H' hR I'
  · rw [hl] at hx
    obtain ⟨b, hb, hR⟩ := h.get hx
    exact q x b H' hR hb I'
end
end Bz
namespace Bz
open PySem PySem.Spec PyProof.Rows L2
/-! ### the stable order: by putting in -/
section
variable {β : Type} (le : β → β → Bool)
def insF (a : β) : List β → List β
  | [] => [a]
  | b :: s => if le a b = true then a :: b :: s else b :: insF a s
def insS (j : β) : List β → List β
  | [] => [j]
  | b :: s => if le b j = true then b :: insS j s else j :: b :: s
variable {le}
theorem insF_app {a : β} : ∀ {l1 l2 : List β}, (∀ b ∈ l1, (!le a b) = true) → (∀ b ∈ l2.head?, le a b = true) → insF le a (l1 ++ l2) = l1 ++ a :: l2
  | [], [], _, _ => rfl
  | [], b :: s, _, h => by
    show (if le a b = true then a :: b :: s else b :: insF le a s) = _
    rw [if_pos (h b rfl)]
    rfl
  | b :: l1, l2, h1, h2 => by
    have e := h1 b List.mem_cons_self
    show (if le a b = true then a :: b :: (l1 ++ l2) else b :: insF le a (l1 ++ l2)) = _
    rw [if_neg (by simpa using e), insF_app (fun x hx => h1 x (List.mem_cons_of_mem _ hx)) h2]
    rfl
theorem ins_comm (tr : ∀ a b c, le a b = true → le b c = true → le a c = true) (to : ∀ a b, (le a b || le b a) = true) (a j : β) : ∀ s, insF le a (insS le j s) = insS le j (insF le a s)
  | [] => by
    show (if le a j = true then [a, j] else [j, a]) = (if le a j = true then [a, j] else [j, a])
    rfl
  | b :: s => by
    have ih := ins_comm tr to a j s
    by_cases h1 : le b j = true <;> by_cases h2 : le a b = true
    · have h3 := tr a b j h2 h1
      simp [insF, insS, h1, h2, h3]
    · simp [insF, insS, h1, h2, ih]
    · by_cases h3 : le a j = true <;> simp [insF, insS, h1, h2, h3]
    · have h4 : le b a = true := by
        have := to a b
        rw [Bool.or_eq_true] at this
        exact this.resolve_left h2
      have h3 : ¬ le a j = true := fun z => h1 (tr b a j h4 z)
      simp [insF, insS, h1, h2, h3]
theorem ms_cons (tr : ∀ a b c, le a b = true → le b c = true → le a c = true) (to : ∀ a b, (le a b || le b a) = true) (a : β) (l : List β) : (a :: l).mergeSort le = insF le a (l.mergeSort le) := by
  obtain ⟨l1, l2, e1, e2, h⟩ := List.mergeSort_cons tr to a l
  have hs := List.pairwise_mergeSort tr to (a :: l)
  rw [e1] at hs ⊢
  rw [e2, insF_app h fun b hb => ?_]
  cases l2 with
  | nil => cases hb
  | cons c r =>
    cases hb
    exact (List.pairwise_cons.mp (List.pairwise_append.mp hs).2.1).1 _ List.mem_cons_self
theorem ms_snoc (tr : ∀ a b c, le a b = true → le b c = true → le a c = true) (to : ∀ a b, (le a b || le b a) = true) (j : β) : ∀ l : List β, (l ++ [j]).mergeSort le = insS le j (l.mergeSort le)
  | [] => by
    show ([j] : List β).mergeSort le = insS le j (([] : List β).mergeSort le)
    rw [List.mergeSort_nil, List.mergeSort_singleton]
    rfl
  | a :: l => by
    rw [List.cons_append, ms_cons tr to, ms_snoc tr to j l, ms_cons tr to, ins_comm tr to]
theorem insS_at {j : β} : ∀ {s : List β} {k : Nat}, k ≤ s.length → (∀ (i : Nat) x, i < k → s[i]? = some x → le x j = true) → (∀ x, s[k]? = some x → le x j = false) → insS le j s = s.take k ++ [j] ++ s.drop k
  | [], 0, _, _, _ => rfl
  | [], k + 1, h, _, _ => by cases h
  | b :: s, 0, _, _, h => by
    show (if le b j = true then b :: insS le j s else j :: b :: s) = _
    rw [if_neg (by rw [h b rfl]; decide)]
    rfl
  | b :: s, k + 1, h0, h1, h2 => by
    show (if le b j = true then b :: insS le j s else j :: b :: s) = _
    rw [if_pos (h1 0 b (Nat.succ_pos _) rfl), insS_at (s := s) (k := k) (by simpa using h0) (fun i x hi hx => h1 (i + 1) x (Nat.succ_lt_succ hi) hx) (fun x hx => h2 x hx)]
    rfl
theorem insS_head {j : β} (s : List β) : (insS le j s).head? = some (match s with | [] => j | b :: _ => if le b j = true then b else j) := by
  cases s with
  | nil => rfl
  | cons b s =>
    by_cases h : le b j = true <;> simp [insS, h]
end
/-! by data keys -/
section
variable {β : Type} {key : β → PyData}
theorem dle_tr (a b c : β) : PySem.W.dataLe false key a b = true → PySem.W.dataLe false key b c = true → PySem.W.dataLe false key a c = true := fun h1 h2 => (PySem.W.sortLe_total _ _ _).trans _ _ _ h1 h2
theorem dle_to (a b : β) : (PySem.W.dataLe false key a b || PySem.W.dataLe false key b a) = true := by
  have t : PySem.W.TotalLe (PySem.W.dataLe false key) := PySem.W.sortLe_total _ _ _
  rcases t.total a b with h | h
  · rw [show PySem.W.dataLe false key a b = true from h, Bool.true_or]
  · rw [show PySem.W.dataLe false key b a = true from h, Bool.or_true]
theorem dle_lt (a b : β) : PySem.W.dataLe false key a b = !PySem.W.dataLt (key b) (key a) := rfl
theorem ms_head (l : List β) : ∀ n, n < l.length → ∃ b, l[argBest (btK (l.map key)) n]? = some b ∧ ((l.take (n + 1)).mergeSort (PySem.W.dataLe false key)).head? = some b
  | 0, h => by
    cases l with
    | nil => cases h
    | cons x r => exact ⟨x, rfl, by rw [List.take_succ_cons, List.take_zero, List.mergeSort_singleton]; rfl⟩
  | n + 1, h => by
    obtain ⟨b, hb, hs⟩ := ms_head l n (Nat.lt_of_succ_lt h)
    obtain ⟨y, hy⟩ : ∃ y, l[n + 1]? = some y := ⟨_, List.getElem?_eq_getElem h⟩
    have gd : ∀ (i : Nat) (z : β), l[i]? = some z → (l.map key).getD i .none = key z := fun i z e => by
      rw [List.getD_eq_getElem?_getD, List.getElem?_map, e]
      rfl
    have ebt : btK (l.map key) (n + 1) (argBest (btK (l.map key)) n) = PySem.W.dataLt (key y) (key b) := by
      show PySem.W.dataLt _ _ = _
      rw [gd _ _ hy, gd _ _ hb]
    rw [List.take_add_one, hy, Option.toList_some, ms_snoc dle_tr dle_to, insS_head]
    obtain ⟨s, es⟩ : ∃ s, (l.take (n + 1)).mergeSort (PySem.W.dataLe false key) = b :: s := by
      cases e : (l.take (n + 1)).mergeSort (PySem.W.dataLe false key) with
      | nil => rw [e] at hs; cases hs
      | cons c s =>
        rw [e] at hs
        cases hs
        exact ⟨s, rfl⟩
    rw [es]
    show ∃ c, l[if btK (l.map key) (n + 1) (argBest (btK (l.map key)) n) = true then n + 1 else argBest (btK (l.map key)) n]? = some c ∧ some (if PySem.W.dataLe false key b y = true then b else y) = some c
    rw [ebt, dle_lt]
    cases PySem.W.dataLt (key y) (key b) with
    | true => exact ⟨y, hy, rfl⟩
    | false => exact ⟨b, hb, rfl⟩
end
end Bz
namespace Bz
open PySem PySem.Spec PyProof.Rows L2
/-! ### x > y of data -/
def rGtD (K : PySem.W.Frag) : V → V → Hp → VK → Prop := fun x y H Q => ∃ da db, KeyV H x da ∧ KeyV H y db ∧ PySem.W.alike da db = true ∧ da ≠ .none ∧ da.depth ≤ 5 ∧ Q (.bl (PySem.W.dataLt db da)) H
section
variable {X : Cx} {k : Nat}
theorem op_gtD (hr : Room k X.A) : OpR X (compareOp .Gt) (rGtD X.K) := by
  intro pins s σ H x y v u Q I rx ry h
  obtain ⟨da, db, ka, kb, al, hn, hd, q⟩ := h
  have hu := hu65 hr
  refine PySem.W.gt_data (ka.reads I.hok rx) (kb.reads I.hok ry) al hn ?_ ⟨.bl _, H, I, rfl, q⟩
  have := Nat.min_le_left da.depth db.depth
  omega
end
section
variable {K : PySem.W.Frag} {H : Hp} {Q : VK}
theorem g_gt_ints {a b : Addr} {ns ms : List Int} (h1 : KeyV H (.ref a) (.tuple (ns.map .int))) (h2 : KeyV H (.ref b) (.tuple (ms.map .int))) (q : Q (.bl (decide (ms < ns))) H) : rGtD K (.ref a) (.ref b) H Q := by
  refine ⟨_, _, h1, h2, PySem.W.alike_ints _ _, fun z => (by cases z), ?_, ?_⟩
  · show PyData.depthAll (ns.map .int) + 1 ≤ 5
    rw [PySem.W.depth_ints]
    decide
  · rw [show PySem.W.dataLt (.tuple (ms.map .int)) (.tuple (ns.map .int)) = PySem.W.rowLt (ms.map .int) (ns.map .int) from rfl, PySem.W.dataLt_ints]
    exact q
end
end Bz
namespace Bz
open PySem PySem.Spec PyProof.Rows L2
/-! ### a list against the empty one, whatever stands in it -/
def rEqNil (K : PySem.W.Frag) : R2 := fun x y H Q => ∃ (a b : Addr) (xs : List V), x = .ref a ∧ y = .ref b ∧ SqL K H a xs ∧ SqL K H b [] ∧ Q (.bl xs.isEmpty) H
def rNeNil (K : PySem.W.Frag) : R2 := fun x y H Q => ∃ (a b : Addr) (xs : List V), x = .ref a ∧ y = .ref b ∧ SqL K H a xs ∧ SqL K H b [] ∧ Q (.bl (!xs.isEmpty)) H
theorem op_eqNil {X : Cx} {k : Nat} (hr : Room k X.A) : OpR X (compareOp .Eq) (rEqNil X.K) := by
  intro pins s σ H x y v u Q I rx ry h
  obtain ⟨a, b, xs, rfl, rfl, ha, hb, q⟩ := h
  cases rx
  cases ry
  obtain ⟨ia, ra, ta, _⟩ := I.list ha
  obtain ⟨ib, rb, tb, _⟩ := I.list hb
  have hu := hr.units
  have lb : ib.length = 0 := rb.length.symm
  have la : ia.length = xs.length := ra.length.symm
  cases xs with
  | nil =>
    refine SeqAt.eq_listAt (e := fun _ => true) ta.isList tb.isList (by simp only [List.size_toArray]; rw [la, lb]; rfl) (by omega) (fun j h1 h2 => absurd h2 (by simp only [List.size_toArray]; omega)) ?_
    refine ⟨.bl true, H, I, ?_, q⟩
    rw [show (List.range ia.toArray.size).all (fun _ => true) = true from List.all_eq_true.mpr fun _ _ => rfl]
    rfl
  | cons x xs =>
    refine SeqAt.eq_list_lengthsAt ta.isList tb.isList (by simp only [List.size_toArray]; rw [la, lb]; rfl) (by omega) ?_
    exact ⟨.bl false, H, I, rfl, q⟩
theorem op_neNil {X : Cx} {k : Nat} (hr : Room k X.A) : OpR X (compareOp .NotEq) (rNeNil X.K) := by
  intro pins s σ H x y v u Q I rx ry h
  obtain ⟨a, b, xs, rfl, rfl, ha, hb, q⟩ := h
  cases rx
  cases ry
  obtain ⟨ia, ra, ta, _⟩ := I.list ha
  obtain ⟨ib, rb, tb, _⟩ := I.list hb
  have hu := hr.units
  have lb : ib.length = 0 := rb.length.symm
  have la : ia.length = xs.length := ra.length.symm
  cases xs with
  | nil =>
    refine SeqAt.RcNeAt.lists (e := fun _ => true) ta.isList tb.isList (by simp only [List.size_toArray]; rw [la, lb]; rfl) (by omega) (fun j h1 h2 => absurd h2 (by simp only [List.size_toArray]; omega)) X.prog X.w _ _ ?_
    refine ⟨.bl false, H, I, ?_, q⟩
    rw [show (List.range ia.toArray.size).all (fun _ => true) = true from List.all_eq_true.mpr fun _ _ => rfl]
    rfl
  | cons x xs =>
    refine SeqAt.RcNeAt.lists_lengths ta.isList tb.isList (by simp only [List.size_toArray]; rw [la, lb]; rfl) (by omega) X.prog X.w _ _ ?_
    exact ⟨.bl true, H, I, rfl, q⟩
section
variable {K : PySem.W.Frag} {H : Hp} {Q : VK} {a b : Addr} {xs : List V}
theorem g_eqNil (h1 : SqL K H a xs) (h2 : SqL K H b []) (q : Q (.bl xs.isEmpty) H) : rEqNil K (.ref a) (.ref b) H Q := ⟨a, b, xs, rfl, rfl, h1, h2, q⟩
theorem g_neNil (h1 : SqL K H a xs) (h2 : SqL K H b []) (q : Q (.bl (!xs.isEmpty)) H) : rNeNil K (.ref a) (.ref b) H Q := ⟨a, b, xs, rfl, rfl, h1, h2, q⟩
end
end Bz
namespace Bz
open PySem PySem.Spec PyProof.Rows L2
def topS (i : Nat) : Stmt := PySem.Challenge.pw_bindbench_k15_jobs_in_order.main.body.getD i (.Pass ⟨0, 0, 0, 0⟩)
def dd_is_whole : He.DefD := ⟨("is_whole", none), "is_whole", "is_whole", defArgs (topS 12), defBody (topS 12), defScope (topS 12), [.int 1000000], []⟩
def dd_is_name : He.DefD := ⟨("is_name", none), "is_name", "is_name", defArgs (topS 13), defBody (topS 13), defScope (topS 13), [], []⟩
def dd_kind_of : He.DefD := ⟨("kind_of", none), "kind_of", "kind_of", defArgs (topS 14), defBody (topS 14), defScope (topS 14), [], []⟩
def dd_is_step : He.DefD := ⟨("is_step", none), "is_step", "is_step", defArgs (topS 15), defBody (topS 15), defScope (topS 15), [], []⟩
def dd_are_steps : He.DefD := ⟨("are_steps", none), "are_steps", "are_steps", defArgs (topS 18), defBody (topS 18), defScope (topS 18), [], []⟩
def dd_Style_init : He.DefD := ⟨("Style", some "__init__"), "__init__", "Style.__init__", defArgs (inClass (topS 19) 0), defBody (inClass (topS 19) 0), defScope (inClass (topS 19) 0), [], []⟩
def dd_Style_named : He.DefD := ⟨("Style", some "named"), "named", "Style.named", defArgs (inClass (topS 19) 1), defBody (inClass (topS 19) 1), defScope (inClass (topS 19) 1), [], []⟩
def dd_Style_steps : He.DefD := ⟨("Style", some "steps"), "steps", "Style.steps", defArgs (inClass (topS 19) 2), defBody (inClass (topS 19) 2), defScope (inClass (topS 19) 2), [], []⟩
def dd_Style_span : He.DefD := ⟨("Style", some "span"), "span", "Style.span", defArgs (inClass (topS 19) 4), defBody (inClass (topS 19) 4), defScope (inClass (topS 19) 4), [], []⟩
def dd_Style_eq : He.DefD := ⟨("Style", some "__eq__"), "__eq__", "Style.__eq__", defArgs (inClass (topS 19) 8), defBody (inClass (topS 19) 8), defScope (inClass (topS 19) 8), [], []⟩
def dd_Job_init : He.DefD := ⟨("Job", some "__init__"), "__init__", "Job.__init__", defArgs (inClass (topS 20) 0), defBody (inClass (topS 20) 0), defScope (inClass (topS 20) 0), [.int 0, .non, .bl false], []⟩
def dd_Job_numbered : He.DefD := ⟨("Job", some "numbered"), "numbered", "Job.numbered", defArgs (inClass (topS 20) 1), defBody (inClass (topS 20) 1), defScope (inClass (topS 20) 1), [], []⟩
def dd_Job_of_style : He.DefD := ⟨("Job", some "of_style"), "of_style", "Job.of_style", defArgs (inClass (topS 20) 2), defBody (inClass (topS 20) 2), defScope (inClass (topS 20) 2), [], []⟩
def dd_Job_brought_at : He.DefD := ⟨("Job", some "brought_at"), "brought_at", "Job.brought_at", defArgs (inClass (topS 20) 3), defBody (inClass (topS 20) 3), defScope (inClass (topS 20) 3), [], []⟩
def dd_Job_due_at : He.DefD := ⟨("Job", some "due_at"), "due_at", "Job.due_at", defArgs (inClass (topS 20) 4), defBody (inClass (topS 20) 4), defScope (inClass (topS 20) 4), [], []⟩
def dd_Job_in_haste : He.DefD := ⟨("Job", some "in_haste"), "in_haste", "Job.in_haste", defArgs (inClass (topS 20) 5), defBody (inClass (topS 20) 5), defScope (inClass (topS 20) 5), [], []⟩
def dd_Job_rank : He.DefD := ⟨("Job", some "rank"), "rank", "Job.rank", defArgs (inClass (topS 20) 6), defBody (inClass (topS 20) 6), defScope (inClass (topS 20) 6), [], []⟩
def dd_Job_eq : He.DefD := ⟨("Job", some "__eq__"), "__eq__", "Job.__eq__", defArgs (inClass (topS 20) 9), defBody (inClass (topS 20) 9), defScope (inClass (topS 20) 9), [], []⟩
def dd_rank_of : He.DefD := ⟨("rank_of", none), "rank_of", "rank_of", defArgs (topS 21), defBody (topS 21), defScope (topS 21), [], []⟩
def dd_by_rank : He.DefD := ⟨("by_rank", none), "by_rank", "by_rank", defArgs (topS 22), defBody (topS 22), defScope (topS 22), [], []⟩
def dd_first_of : He.DefD := ⟨("first_of", none), "first_of", "first_of", defArgs (topS 23), defBody (topS 23), defScope (topS 23), [], []⟩
def dd_by_style : He.DefD := ⟨("by_style", none), "by_style", "by_style", defArgs (topS 24), defBody (topS 24), defScope (topS 24), [], []⟩
def dd_law_mixed : He.DefD := ⟨("_law_mixed", none), "_law_mixed", "_law_mixed", defArgs (topS 26), defBody (topS 26), defScope (topS 26), [], []⟩
def dd_law_folded : He.DefD := ⟨("_law_folded", none), "_law_folded", "_law_folded", defArgs (topS 27), defBody (topS 27), defScope (topS 27), [], []⟩
def dd_law_draw : He.DefD := ⟨("_law_draw", none), "_law_draw", "_law_draw", defArgs (topS 28), defBody (topS 28), defScope (topS 28), [], []⟩
def dd_law_begun : He.DefD := ⟨("_law_begun", none), "_law_begun", "_law_begun", defArgs (topS 29), defBody (topS 29), defScope (topS 29), [], []⟩
def dd_law_title : He.DefD := ⟨("_law_title", none), "_law_title", "_law_title", defArgs (topS 30), defBody (topS 30), defScope (topS 30), [], []⟩
def dd_law_drawn_step : He.DefD := ⟨("_law_drawn_step", none), "_law_drawn_step", "_law_drawn_step", defArgs (topS 31), defBody (topS 31), defScope (topS 31), [], []⟩
def dd_law_drawn_steps : He.DefD := ⟨("_law_drawn_steps", none), "_law_drawn_steps", "_law_drawn_steps", defArgs (topS 32), defBody (topS 32), defScope (topS 32), [], []⟩
def dd_law_kinds : He.DefD := ⟨("_law_kinds", none), "_law_kinds", "_law_kinds", defArgs (topS 33), defBody (topS 33), defScope (topS 33), [], []⟩
def dd_law_plain_job : He.DefD := ⟨("_law_plain_job", none), "_law_plain_job", "_law_plain_job", defArgs (topS 34), defBody (topS 34), defScope (topS 34), [], []⟩
def dd_law_plain_jobs : He.DefD := ⟨("_law_plain_jobs", none), "_law_plain_jobs", "_law_plain_jobs", defArgs (topS 35), defBody (topS 35), defScope (topS 35), [], []⟩
def dd_law_job : He.DefD := ⟨("_law_job", none), "_law_job", "_law_job", defArgs (topS 36), defBody (topS 36), defScope (topS 36), [], []⟩
def dd_law_plain : He.DefD := ⟨("_law_plain", none), "_law_plain", "_law_plain", defArgs (topS 37), defBody (topS 37), defScope (topS 37), [], []⟩
def dd_law_rank : He.DefD := ⟨("_law_rank", none), "_law_rank", "_law_rank", defArgs (topS 38), defBody (topS 38), defScope (topS 38), [], []⟩
def dd_law_ordered : He.DefD := ⟨("_law_ordered", none), "_law_ordered", "_law_ordered", defArgs (topS 39), defBody (topS 39), defScope (topS 39), [], []⟩
def dd_law_named : He.DefD := ⟨("_law_named", none), "_law_named", "_law_named", defArgs (topS 40), defBody (topS 40), defScope (topS 40), [], []⟩
def dd_law_asked : He.DefD := ⟨("_law_asked", none), "_law_asked", "_law_asked", defArgs (topS 41), defBody (topS 41), defScope (topS 41), [], []⟩
def dd_law_answers_right : He.DefD := ⟨("_law_answers_right", none), "_law_answers_right", "_law_answers_right", defArgs (topS 42), defBody (topS 42), defScope (topS 42), [], []⟩
def dd_law_right : He.DefD := ⟨("_law_right", none), "_law_right", "_law_right", defArgs (topS 43), defBody (topS 43), defScope (topS 43), [], []⟩
def dd_law_by_hand_right : He.DefD := ⟨("_law_by_hand_right", none), "_law_by_hand_right", "_law_by_hand_right", defArgs (topS 44), defBody (topS 44), defScope (topS 44), [], []⟩
def dd_law : He.DefD := ⟨("law", none), "law", "law", defArgs (topS 45), defBody (topS 45), defScope (topS 45), [], []⟩
def fnL : List He.DefD := [dd_is_whole, dd_is_name, dd_kind_of, dd_is_step, dd_are_steps, dd_Style_init, dd_Style_named, dd_Style_steps, dd_Style_span, dd_Style_eq, dd_Job_init, dd_Job_numbered, dd_Job_of_style, dd_Job_brought_at, dd_Job_due_at, dd_Job_in_haste, dd_Job_rank, dd_Job_eq, dd_rank_of, dd_by_rank, dd_first_of, dd_by_style, dd_law_mixed, dd_law_folded, dd_law_draw, dd_law_begun, dd_law_title, dd_law_drawn_step, dd_law_drawn_steps, dd_law_kinds, dd_law_plain_job, dd_law_plain_jobs, dd_law_job, dd_law_plain, dd_law_rank, dd_law_ordered, dd_law_named, dd_law_asked, dd_law_answers_right, dd_law_right, dd_law_by_hand_right, dd_law]
def faL : List He.Fa := [.int "MOST_LETTERS" 8, .int "MOST_NUMBER" 99999, .int "MOST_HOUR" 1000000, .int "MOST_HOURS" 240, .int "MOST_STEPS" 12, .str "LETTERS" "abcdefghijklmnopqrstuvwxyz", .glo "BARRED_WORDS", .glo "KINDS", .free "all", .free "bool", .free "enumerate", .free "int", .free "isinstance", .free "len", .free "list", .free "min", .free "range", .free "repr", .free "set", .free "sorted", .free "str", .free "sum", .free "tuple", .glo "Style", .cls "Style", .mkr "Style", .noat "Style" "called", .noat "Style" "step_rows", .glo "Job", .cls "Job", .mkr "Job", .noat "Job" "came", .noat "Job" "has_number", .noat "Job" "has_style", .noat "Job" "hasty", .noat "Job" "wanted", .glo "is_whole", .glo "is_name", .glo "kind_of", .glo "is_step", .glo "are_steps", .meth "Style" "named", .meth "Style" "steps", .meth "Style" "span", .meth "Style" "__eq__", .meth "Job" "numbered", .meth "Job" "of_style", .meth "Job" "brought_at", .meth "Job" "due_at", .meth "Job" "in_haste", .meth "Job" "rank", .meth "Job" "__eq__", .glo "rank_of", .glo "by_rank", .glo "first_of", .glo "by_style", .glo "_law_mixed", .glo "_law_folded", .glo "_law_draw", .glo "_law_begun", .glo "_law_title", .glo "_law_drawn_step", .glo "_law_drawn_steps", .glo "_law_kinds", .glo "_law_plain_job", .glo "_law_plain_jobs", .glo "_law_job", .glo "_law_plain", .glo "_law_rank", .glo "_law_ordered", .glo "_law_named", .glo "_law_asked", .glo "_law_answers_right", .glo "_law_right", .glo "_law_by_hand_right", .glo "law"]
def tsL : List He.Tab := [(fun K => He.ga K "KINDS", ["sew", "glue", "cover", "letter", "press"])]
def bsL : List Ask := [fun K => He.tupB K "BARRED_WORDS" [.str "style", .str "job", .str "round", .str "sew", .str "glue", .str "cover", .str "letter", .str "press", .str "hand", .str "haste"], fun K => He.valsB K (He.ga K "KINDS") (([("sew", "hand"), ("glue", "hand"), ("cover", "hand"), ("letter", "hand"), ("press", "press")] : List (Str × Str)).map fun q => (q.1, He.Dv.str q.2)), fun K => ownB K (He.ga K "Style"), fun K => ownB K (He.ga K "Job")]
abbrev RR : PySem.W.OpenRow := PySem.W.OpenLaw.row PySem.Challenge.rw_bindbench_k15_jobs_in_order
abbrev hkL : PySem.W.Hook := hookB 5 faL fnL tsL bsL
def obL (s : PySem.W.SharedT) : AlB := obsBG 5 faL fnL tsL bsL (HandSHeadRun.getT s)
theorem obL_eq (s : PySem.W.SharedT) : obL s = hkL.obs s.abs := obsBG_eq (HandSHeadRun.getT_eq s)
def looseL : List Str := (["_wall", "BadValue", "NoSuch", "LETTERS", "MOST_LETTERS", "MOST_NUMBER", "MOST_HOUR", "MOST_HOURS", "KINDS", "BARRED_WORDS", "is_whole", "is_name", "kind_of", "is_step", "MOST_STEPS", "are_steps", "Style", "Job", "rank_of", "by_rank", "first_of", "by_style", "_law_mixed", "_law_folded", "_law_draw", "_law_begun", "_law_title", "_law_drawn_step", "_law_drawn_steps", "_law_kinds"] : List Str) ++ (["_law_plain_job", "_law_plain_jobs", "_law_job", "_law_plain", "_law_rank", "_law_ordered", "_law_named", "_law_asked", "_law_answers_right", "_law_right", "_law_by_hand_right"] : List Str)
theorem runL_false (w : World) : HandSHeadRun.RunEq RR (PySem.W.view RR.prog [45]) hkL obL 8000 looseL (w.withFollow "special-get-raises" false) := by
  intro os
  kernel_rfl
theorem runL_true (w : World) : HandSHeadRun.RunEq RR (PySem.W.view RR.prog [45]) hkL obL 8000 looseL (w.withFollow "special-get-raises" true) := by
  intro os
  kernel_rfl
theorem runL (w : World) : HandSHeadRun.RunEq RR (PySem.W.view RR.prog [45]) hkL obL 8000 looseL w :=
  PySem.W.byRow2 "special-get-raises" (P := fun w => HandSHeadRun.RunEq RR (PySem.W.view RR.prog [45]) hkL obL 8000 looseL w) runL_false runL_true w
end Bz
namespace Bz
open PySem PySem.Spec PyProof.Rows L2
set_option maxRecDepth 1500
set_option hygiene false
local macro_rules | `(tactic| tm_at "at") => `(tactic| (first | exact At.z | (apply At.s; tm_at "at")))
local macro_rules | `(tactic| tm_at "set") => `(tactic| (first | exact SetAt.z | (apply SetAt.s; tm_at "set")))
local macro_rules | `(tactic| tm_at "wiped") => `(tactic| (first | exact Wiped.nil | (apply Wiped.cons; tm_at "wiped"; tm_at "set")))
local macro_rules | `(tactic| tm_at "mem") => `(tactic| (first | exact List.Mem.head _ | (apply List.Mem.tail; tm_at "mem")))
local macro_rules | `(tactic| tm_at "put") => `(tactic| (first | exact Put.here | (apply Put.there; tm_at "put")))
local macro_rules | `(tactic| tm_at "hp") => `(tactic| (first | assumption | (refine' Is.get ?i1 ?i2; (case i1 => assumption); (case i2 => tm_at "mem")) | (refine' Is.getM ?i1 ?i2; (case i1 => assumption); (case i2 => tm_at "mem")) | (refine' Is.b ?i1 ?i2; (case i1 => assumption); (case i2 => assumption))))
local macro_rules | `(tactic| tm_at "sq") => `(tactic| (first | assumption | (refine' SqL.of ?i1; (case i1 => tm_at "hp")) | (refine' Is.sq ?i1 ?i2; (case i1 => assumption); (case i2 => assumption))))
local macro_rules | `(tactic| tm_at "st") => `(tactic| (first | assumption | (refine' SqT.of ?i1; (case i1 => tm_at "hp")) | (refine' Is.st ?i1 ?i2; (case i1 => assumption); (case i2 => assumption))))
local macro_rules | `(tactic| tm_at "arith") => `(tactic| (first | omega | decide | (simp only [List.length_map]; omega) | (simp only [List.length_cons, List.length_nil, List.length_append, List.length_map, List.length_replicate, List.length_set] <;> omega) | (simp only [List.length_cons, List.length_nil, List.length_append, List.length_map, List.length_replicate, List.length_set] at * <;> omega)))
local macro_rules | `(tactic| tm_at "kne") => `(tactic| (first | assumption | decide +kernel))
local macro_rules | `(tactic| tm_at "kget") => `(tactic| (first | exact KGet.here | (apply KGet.there; tm_at "kne"; tm_at "kget")))
local macro_rules | `(tactic| tm_at "nokey") => `(tactic| (first | exact NoKey.nil | (apply NoKey.cons; tm_at "kne"; tm_at "nokey")))
local macro_rules | `(tactic| tm_at "kput") => `(tactic| (first | (apply KPut.here; tm_at "nokey"; done) | (apply KPut.there; tm_at "kne"; tm_at "kput")))
local macro_rules | `(tactic| tm_at "snoc") => `(tactic| (first | exact Snoc.nil | (apply Snoc.cons; tm_at "snoc")))
local macro_rules | `(tactic| tm_at "mrg") => `(tactic| (first | exact Mrg.nil | (apply Mrg.str; tm_at "nokey"; tm_at "snoc"; tm_at "mrg") | (apply Mrg.int; tm_at "nokey"; tm_at "snoc"; tm_at "mrg")))
local macro_rules | `(tactic| tm_at "del") => `(tactic| (first | exact Del.here | (apply Del.there; tm_at "del")))
local macro_rules | `(tactic| tm_at "slen") => `(tactic| (first | assumption | omega | (apply plainS.len; assumption) | decide +kernel))
local macro_rules | `(tactic| tm_at "fget") => `(tactic| (first | exact FGet.here | (apply FGet.there; (case _ => decide +kernel); tm_at "fget")))
local macro_rules | `(tactic| tm_at "nof") => `(tactic| (first | exact NoF.nil | (apply NoF.cons; (case _ => decide +kernel); tm_at "nof")))
local macro_rules | `(tactic| tm_at "fput") => `(tactic| (first | exact FPut.nil | exact FPut.here | (apply FPut.there; (case _ => decide +kernel); tm_at "fput")))
local macro_rules | `(tactic| tm_at "thing") => `(tactic| first | assumption | exact Thing.same (Is.ex (by assumption)) (by assumption))
local macro_rules | `(tactic| tm_at "go1") => `(tactic| first
  | with_reducible refine' g_seq ?_
  | with_reducible refine' g_op ?_
  | ((with_reducible refine' g_var ?h1 ?_); (case h1 => tm_at "at"))
  | with_reducible refine' g_c ?_
  | with_reducible refine' g_asg ?_
  | ((with_reducible refine' g_name ?h1 ?_); (case h1 => tm_at "set"))
  | with_reducible refine' g_cons ?_
  | with_reducible refine' g_nil ?_
  | with_reducible refine' g_cl ?_
  | with_reducible refine' g_cb ?_
  | with_reducible refine' g_add_i ?_
  | with_reducible refine' g_rI0 ?_
  | with_reducible refine' g_rU ?_
  | ((with_reducible refine' g_mul_i ?h1 ?_); (case h1 => (unfold CMul; omega)))
  | ((with_reducible refine' g_pow ?h1 ?h2 ?_); (case h1 => first | decide | (unfold CPow; omega)); (case h2 => (simp only [Int.reduceToNat, Int.reducePow]; exact rfl)))
  | ((with_reducible refine' g_rI ?h1 ?_); (case h1 => first | omega | (unfold CDiv; omega) | (unfold CPow; omega) | decide | (simp only [List.length_map, List.length_cons, List.length_append]; omega)))
  | with_reducible refine' g_ifS ?_
  | with_reducible refine' g_test ?_
  | with_reducible refine' g_bl ?_
  | with_reducible refine' g_tr ?_
  | with_reducible refine' g_tru_bl ?_
  | with_reducible refine' g_tru_non ?_
  | with_reducible refine' g_true ?_
  | with_reducible refine' g_false ?_
  | with_reducible refine' g_ntrue ?_
  | with_reducible refine' g_nfalse ?_
  | with_reducible refine' g_and ?_
  | with_reducible refine' g_or ?_
  | with_reducible refine' g_not ?_
  | with_reducible refine' g_andV ?_
  | with_reducible refine' g_orV ?_
  | with_reducible refine' g_ifV ?_
  | with_reducible refine' g_notV ?_
  | with_reducible refine' g_aNot ?_
  | with_reducible refine' g_ifE ?_
  | with_reducible refine' g_chain ?_
  | with_reducible refine' g_chain3 ?_
  | with_reducible refine' g_un ?_
  | with_reducible refine' g_ret ?_
  | with_reducible refine' g_retN ?_
  | with_reducible refine' g_drop ?_
  | with_reducible refine' g_next ?_
  | with_reducible refine' g_par ?_
  | ((with_reducible refine' g_par2 ?h1 ?h2 ?_); (case h1 => tm_at "set"); (case h2 => tm_at "set"))
  | with_reducible refine' g_lst ?_
  | with_reducible refine' g_tup ?_
  | with_reducible refine' g_isNo ?_
  | ((with_reducible refine' g_isiT ?h1 ?h2 ?h3 ?_); (case h1 => tm_at "thing"); (case h2 => decide); (case h3 => decide))
  | ((with_reducible refine' g_isiF ?h1 ?h2 ?h3 ?_); (case h1 => tm_at "thing"); (case h2 => decide); (case h3 => decide))
  | ((with_reducible refine' g_isi2T ?h0 ?h1 ?h2 ?h3 ?h4 ?_); (case h0 => tm_at "hp"); (case h1 => tm_at "thing"); (case h2 => decide); (case h3 => decide); (case h4 => decide))
  | ((with_reducible refine' g_isi2F ?h0 ?h1 ?h2 ?h3 ?h4 ?_); (case h0 => tm_at "hp"); (case h1 => tm_at "thing"); (case h2 => decide); (case h3 => decide); (case h4 => decide))
  | with_reducible refine' g_noNo ?_
  | ((with_reducible refine' g_eq_s ?h1 ?_); (case h1 => rfl))
  | ((with_reducible refine' g_ne_s ?h1 ?_); (case h1 => rfl))
  | with_reducible refine' g_in_c ?_
  | with_reducible refine' g_nin_c ?_
  | with_reducible refine' g_dget ?_
  | with_reducible refine' g_dput ?_
  | with_reducible refine' g_pnil ?_
  | with_reducible refine' g_pcons ?_
  | ((with_reducible refine' g_disp ?h1 ?_); (case h1 => assumption); clear hI; intro p H hI)
  | ((with_reducible refine' g_newK ?h1 ?_); (case h1 => assumption); clear hI; intro p H hI)
  | ((with_reducible refine' g_aDisp ?h0 ?h1 ?h2 ?h3 ?h4 ?_); (case h0 => assumption); (case h1 => tm_at "hp"); (case h2 => tm_at "mrg"); (case h3 => tm_at "arith"); (case h4 => tm_at "put"); clear hI; intro H hI)
  | ((with_reducible refine' g_aDGet ?h1 ?h2 ?_); (case h1 => tm_at "hp"); (case h2 => tm_at "kget"))
  | ((with_reducible refine' g_aDPut ?h0 ?h1 ?h2 ?h3 ?h4 ?_); (case h0 => assumption); (case h1 => tm_at "hp"); (case h2 => tm_at "arith"); (case h3 => tm_at "kput"); (case h4 => tm_at "put"); clear hI; intro H hI)
  | ((with_reducible refine' g_aDPutM ?h0 ?h1 ?h2 ?h3 ?h4 ?_); (case h0 => assumption); (case h1 => tm_at "hp"); (case h2 => tm_at "arith"); (case h3 => tm_at "kput"); (case h4 => tm_at "put"); clear hI; intro H hI)
  | ((with_reducible refine' g_setL ?h0 ?h1 ?h2 ?h3 ?h4 ?_); (case h0 => assumption); (case h1 => tm_at "hp"); (case h2 => tm_at "arith"); (case h3 => tm_at "arith"); (case h4 => tm_at "put"); clear hI; intro H hI)
  | ((with_reducible refine' g_setLM ?h0 ?h1 ?h2 ?h3 ?h4 ?_); (case h0 => assumption); (case h1 => tm_at "hp"); (case h2 => tm_at "arith"); (case h3 => tm_at "arith"); (case h4 => tm_at "put"); clear hI; intro H hI)
  | ((with_reducible refine' g_len_s ?h1 ?_); (case h1 => tm_at "slen"))
  | ((with_reducible refine' g_len_l ?h1 ?_); (case h1 => tm_at "sq"))
  | ((with_reducible refine' g_len_t ?h1 ?_); (case h1 => tm_at "st"))
  | ((with_reducible refine' g_app ?h0 ?h1 ?h2 ?h3 ?_); (case h0 => assumption); (case h1 => tm_at "hp"); (case h2 => tm_at "arith"); (case h3 => tm_at "put"); clear hI; intro H hI)
  | with_reducible refine' g_sub ?_
  | with_reducible refine' g_sl ?_
  | with_reducible refine' g_noPart ?_
  | with_reducible refine' g_part ?_
  | with_reducible refine' g_aPart ?_
  | with_reducible refine' g_bm ?_
  | with_reducible refine' g_bm0 ?_
  | with_reducible refine' g_m1 ?_
  | with_reducible refine' g_isStr ?_
  | with_reducible refine' mt_tyS ?_
  | ((with_reducible refine' g_tyL ?h1 ?_); (case h1 => tm_at "hp"))
  | with_reducible refine' g_lc ?_
  | with_reducible refine' g_for ?_
  | with_reducible refine' g_iAny ?_
  | with_reducible refine' g_rng1 ?_
  | with_reducible refine' g_rng2 ?_
  | with_reducible refine' g_enumA ?_
  | ((with_reducible refine' g_aEnumL ?h1 ?_); (case h1 => tm_at "sq"))
  | ((with_reducible refine' g_aEnumT ?h1 ?_); (case h1 => tm_at "st"))
  | with_reducible refine' g_zipA ?_
  | with_reducible refine' g_zip3 ?_
  | ((with_reducible refine' g_aZip3 ?h1 ?h2 ?h3 ?_); (case h1 => tm_at "sq"); (case h2 => tm_at "sq"); (case h3 => tm_at "sq"))
  | ((with_reducible refine' g_aZipL ?h1 ?h2 ?_); (case h1 => tm_at "sq"); (case h2 => tm_at "sq"))
  | ((with_reducible refine' g_aZipT ?h1 ?h2 ?_); (case h1 => tm_at "st"); (case h2 => tm_at "st"))
  | with_reducible refine' g_par3 ?_
  | ((with_reducible refine' g_par3b ?h1 ?h2 ?h3 ?_); (case h1 => tm_at "set"); (case h2 => tm_at "set"); (case h3 => tm_at "set"))
  | with_reducible refine' g_me ?_
  | ((with_reducible refine' g_aMe ?h1 ?h2 ?_); (case h1 => tm_at "hp"); (case h2 => tm_at "nof"))
  | with_reducible refine' g_mk ?_
  | ((with_reducible refine' g_aMk ?h0 ?h1 ?h2 ?_); (case h0 => assumption); (case h1 => exact rfl); (case h2 => exact rfl); clear hI; intro x dx H hI; (dsimp only [pick, nth, List.cons_append, List.nil_append]))
  | with_reducible refine' g_fld ?_
  | ((with_reducible refine' g_aFld ?h1 ?h2 ?h3 ?h4 ?_); (case h1 => tm_at "hp"); (case h2 => assumption); (case h3 => assumption); (case h4 => tm_at "fget"))
  | with_reducible refine' g_setF ?_
  | ((with_reducible refine' g_aSetF ?h0 ?h1 ?h2 ?h3 ?h4 ?h5 ?h6 ?_); (case h0 => assumption); (case h1 => tm_at "hp"); (case h2 => assumption); (case h3 => assumption); (case h4 => tm_at "arith"); (case h5 => tm_at "fput"); (case h6 => tm_at "put"); clear hI; intro H hI)
  | ((with_reducible refine' g_aug ?h1 ?_); (case h1 => tm_at "at"))
  | ((with_reducible refine' g_set ?h1 ?_); (case h1 => tm_at "set"))
  | with_reducible refine' g_ipI ?_
  | with_reducible refine' g_max2 ?_
  | with_reducible refine' g_min2 ?_
  | ((with_reducible refine' g_tupOf ?h1 ?h2 ?_); (case h1 => assumption); (case h2 => tm_at "sq"); clear hI; intro p H hI)
  | ((with_reducible refine' g_listOfL ?h1 ?h2 ?_); (case h1 => assumption); (case h2 => tm_at "sq"); clear hI; intro p H hI)
  | ((with_reducible refine' g_listOfT ?h1 ?h2 ?_); (case h1 => assumption); (case h2 => tm_at "st"); clear hI; intro p H hI)
  | ((with_reducible refine' g_aRng1 ?h1 ?_); (case h1 => tm_at "arith"))
  | ((with_reducible refine' g_aRng2 ?h1 ?_); (case h1 => tm_at "arith"))
  | with_reducible refine' g_it_s ?_
  | ((with_reducible refine' g_it_l ?h1 ?_); (case h1 => tm_at "sq"))
  | ((with_reducible refine' g_it_t ?h1 ?_); (case h1 => tm_at "st"))
  | with_reducible refine' g_yes ?_
  | with_reducible refine' g_gCons ?_
  | ((with_reducible refine' g_gTup ?h1 ?h2 ?_); (case h1 => tm_at "st"); (case h2 => exact rfl))
  | with_reducible refine' g_gNil ?_
  | ((with_reducible refine' g_aLst ?h1 ?h2 ?_); (case h1 => assumption); (case h2 => tm_at "arith"); clear hI; intro p H hI)
  | ((with_reducible refine' g_aTup ?h1 ?h2 ?_); (case h1 => assumption); (case h2 => tm_at "arith"); clear hI; intro p H hI)
  | ((with_reducible refine' g_aCl ?h1 ?h2 ?_); (case h1 => exact rfl); (case h2 => exact rfl); (dsimp only [pick, nth, List.cons_append, List.nil_append]))
)
local macro_rules | `(tactic| tm_at "go") => `(tactic| repeat (tm_at "go1"))
local macro_rules | `(tactic| tm_at "sub") => `(tactic| (first | exact List.Sublist.refl _ | exact List.nil_sublist _ | (apply List.Sublist.cons₂; tm_at "sub") | (apply List.Sublist.cons; tm_at "sub")))
local macro_rules | `(tactic| tm_at "is") => `(tactic| (first | assumption | (refine' Is.forget ?s1 ?s2; (case s1 => assumption); (case s2 => tm_at "sub"))))
local macro_rules | `(tactic| tm_at "next") => `(tactic| (repeat (first | with_reducible refine' g_next ?_ | with_reducible refine' g_bl ?_ | with_reducible refine' g_true ?_ | with_reducible refine' g_false ?_)))
local macro_rules | `(tactic| tm_at "draw") => `(tactic| ((refine' ap_law_draw (K := K) hI hd (by omega) (by tm_at "arith") (by tm_at "arith") ?_); clear hI hd; intro r H M hr0 hr1 hI hd))
local macro_rules | `(tactic| tm_at "stop") => `(tactic| (repeat (first | with_reducible refine' g_asg ?_ | with_reducible refine' g_c ?_ | ((with_reducible refine' g_var ?h1 ?_); (case h1 => tm_at "at")) | ((with_reducible refine' g_name ?h1 ?_); (case h1 => tm_at "set")) | with_reducible refine' g_next ?_)))
local macro_rules | `(tactic| tm_at "prm") => `(tactic| (first | exact List.Perm.refl _ | (apply List.Perm.cons; tm_at "prm") | exact List.Perm.swap _ _ _ | (refine' List.Perm.trans ?p1 (List.Perm.swap _ _ _); (case p1 => apply List.Perm.cons; tm_at "prm"))))
def sp_law_mixed (K : PySem.W.Frag) : Sp := fun vs H Q _ => vs.length = 2 ∧ ∃ c k : Int, vs = [.int c, .int k] ∧ 0 ≤ k ∧ k < 2 ^ 60 ∧ ∀ r : Int, 0 ≤ r → r < 400000000 → Q (.int r) H
theorem ap_law_mixed {K : PySem.W.Frag} {H : Hp} {Q : VK} {E : XK} {c k : Int} (h0 : 0 ≤ k) (h1 : k < 2 ^ 60) (q : ∀ r : Int, 0 ≤ r → r < 400000000 → Q (.int r) H) : sp_law_mixed K [.int c, .int k] H Q E :=
  ⟨rfl, c, k, rfl, h0, h1, q⟩
/-- the state of the draws at m: at most n draws so far -/
def Dr (m : Addr) (n : Int) (B : Hp) (M : List (Addr × HO)) : Prop := ∃ (c l : Addr) (cs ls : List Int) (k : Int),
  M = [(m, .dK [(Sum.inr "cells", .ref c), (Sum.inr "left", .ref l), (Sum.inr "spot", .int k)]), (l, .lst (ls.map V.int))] ∧
  B c = some (.lst (cs.map V.int)) ∧ cs.length = 64 ∧ (∀ x ∈ cs, 0 ≤ x ∧ x < 2147483647) ∧ 0 ≤ k ∧ k ≤ n
theorem Dr.same {m : Addr} {n : Int} {B B' : Hp} {M : List (Addr × HO)} (s : Same B B') (d : Dr m n B M) : Dr m n B' M := by
  obtain ⟨c, l, cs, ls, k, h1, h2, h3⟩ := d
  exact ⟨c, l, cs, ls, k, h1, s _ _ h2, h3⟩
theorem Dr.mono {m : Addr} {n n' : Int} {B : Hp} {M : List (Addr × HO)} (h : n ≤ n') (d : Dr m n B M) : Dr m n' B M := by
  obtain ⟨c, l, cs, ls, k, h1, h2, h3, h4, h5, h6⟩ := d
  exact ⟨c, l, cs, ls, k, h1, h2, h3, h4, h5, by omega⟩
def sp_law_draw (K : PySem.W.Frag) : Sp := fun vs H Q _ => vs.length = 2 ∧ ∃ (m : Addr) (many n : Int) (B : Hp) (M L : List (Addr × HO)), vs = [.ref m, .int many] ∧ Is B M L H ∧ Dr m n B M ∧ n < 2 ^ 40 ∧ 0 < many ∧ many < 1073741824 ∧
  ∀ (r : Int) (H' : Hp) (M' : List (Addr × HO)), 0 ≤ r → r < many → Is B M' L H' → Dr m (n + 1) B M' → Q (.int r) H'
theorem ap_law_draw {K : PySem.W.Frag} {H : Hp} {Q : VK} {E : XK} {m : Addr} {many n : Int} {B : Hp} {M L : List (Addr × HO)} (I : Is B M L H) (d : Dr m n B M) (h1 : n < 2 ^ 40) (h2 : 0 < many) (h3 : many < 1073741824)
    (q : ∀ (r : Int) (H' : Hp) (M' : List (Addr × HO)), 0 ≤ r → r < many → Is B M' L H' → Dr m (n + 1) B M' → Q (.int r) H') : sp_law_draw K [.ref m, .int many] H Q E :=
  ⟨rfl, m, many, n, B, M, L, rfl, I, d, h1, h2, h3, q⟩
abbrev t_law_mixed_0 (K : PySem.W.Frag) : TS := (tRet (tOp (rI CDiv fun i j => .int (i / j)) (tOp (rI (fun _ j => 0 < j) fun i j => .int (i % j)) (tOp rMulA (tVar 2) (tC (.int 69621))) (tC (.int 2147483629))) (tC (.int 7))))
def t_law_mixed (K : PySem.W.Frag) : TS := (tSeq (tAsg (tOp (rAddA K) (tOp (rAddA K) (tOp (rI (fun _ j => 0 < j) fun i j => .int (i % j)) (tOp rMulA (tOp rMulA (tVar 0) (tOp (rAddA K) (tC (.int 1)) (tOp rMulA (tC (.int 2)) (tVar 1)))) (tC (.int 48271))) (tC (.int 2147483647))) (tOp rMulA (tOp rMulA (tC (.int 7919)) (tVar 1)) (tVar 1))) (tOp rMulA (tC (.int 104729)) (tVar 1))) (gName 2)) (t_law_mixed_0 K))
theorem rd_law_mixed {K : PySem.W.Frag} (vs : List V) (H : Hp) (Q : VK) (E : XK) (h : sp_law_mixed K vs H Q E) : t_law_mixed K { nx := fun _ H' => Q .non H', rt := Q } (start ["cell", "k", "turned"] vs) H := by
  obtain ⟨_, c, k, rfl, h0, h1, q⟩ := h
  show t_law_mixed K ⟨_, _, _, _⟩ [some (.int c), some (.int k), none] H
  unfold t_law_mixed
  tm_at "go"
  exact q _ (by omega) (by omega)
theorem ints_get {ns : List Int} {i : Nat} (h : i < ns.length) : (ns.map V.int)[i]? = some (.int (ns[i])) := by simp [h]
theorem dp_ints {K : PySem.W.Frag} {H : Hp} : ∀ ns : List Int, DpAll K H (ns.map V.int) (ns.map PyData.int)
  | [] => .nil
  | n :: ns => .cons (.int n) (dp_ints ns)
abbrev t_law_draw_0 (K : PySem.W.Frag) : TS := (tRet (tOp (rI (fun _ j => 0 < j) fun i j => .int (i % j)) (tVar 4) (tVar 1)))
abbrev t_law_draw_1 (K : PySem.W.Frag) : TS := (tIfS (tTest (tOp (rI0 fun i j => .bl (decide (j < i))) (tVar 4) (tC (.int 0)))) (tSeq (tAsg (tOp (rI CDiv fun i j => .int (i / j)) (tVar 4) (tVar 1)) (gSub (tDGet (tVar 0) (tC (.str "left"))) (tVar 3) rSetL)) (t_law_draw_0 K)) tNext)
abbrev t_law_draw_2 (K : PySem.W.Frag) : TS := (tSeq (tAsg (tOp (rIx K) (tDGet (tVar 0) (tC (.str "left"))) (tVar 3)) (gName 4)) (t_law_draw_1 K))
abbrev t_law_draw_3 (K : PySem.W.Frag) : TS := (tRet (tOp (rI (fun _ j => 0 < j) fun i j => .int (i % j)) (tCl 2 0 (sp_law_mixed K) (fun vs zs => pick .non [0, 1] (vs ++ zs)) E0 (tCons (tCl 2 0 (sp_law_mixed K) (fun vs zs => pick .non [0, 1] (vs ++ zs)) E0 (tCons (tOp (rAddA K) (tOp (rIx K) (tDGet (tVar 0) (tC (.str "cells"))) (tOp (rI (fun _ j => 0 < j) fun i j => .int (i % j)) (tVar 2) (tC (.int 64)))) (tOp rMulA (tC (.int 31)) (tOp (rI CDiv fun i j => .int (i / j)) (tVar 2) (tC (.int 64))))) (tCons (tVar 2) tNil)) tNil) (tCons (tOp (rAddA K) (tVar 2) (tC (.int 7))) tNil)) tNil) (tVar 1)))
abbrev t_law_draw_4 (K : PySem.W.Frag) : TS := (tSeq (tIfS (tTest (tOp (rNeA K) (tDGet (tVar 0) (tC (.str "left"))) (tLst tNil))) (tSeq (tAsg (tOp (rI (fun _ j => 0 < j) fun i j => .int (i % j)) (tVar 2) (tCB (rLen K) (tCons (tDGet (tVar 0) (tC (.str "left"))) tNil))) (gName 3)) (t_law_draw_2 K)) tNext) (t_law_draw_3 K))
abbrev t_law_draw_5 (K : PySem.W.Frag) : TS := (tSeq (sDPut (tVar 0) (tC (.str "spot")) (tOp (rAddA K) (tVar 2) (tC (.int 1)))) (t_law_draw_4 K))
def t_law_draw (K : PySem.W.Frag) : TS := (tSeq (tAsg (tDGet (tVar 0) (tC (.str "spot"))) (gName 2)) (t_law_draw_5 K))
theorem rd_law_draw {K : PySem.W.Frag} (vs : List V) (H : Hp) (Q : VK) (E : XK) (h : sp_law_draw K vs H Q E) : t_law_draw K { nx := fun _ H' => Q .non H', rt := Q } (start ["m", "many", "k", "spot", "cell"] vs) H := by
  obtain ⟨_, m, many, n, B, M, L, rfl, hI, ⟨c, l, cs, ls, k, rfl, hc, hcs, hb, hk0, hkn⟩, h1, h2, h3, q⟩ := h
  show t_law_draw K ⟨_, _, _, _⟩ [some (.ref m), some (.int many), none, none, none] H
  unfold t_law_draw
  tm_at "go"
  refine g_ne_d (.lst (by tm_at "sq") (dp_ints ls)) (.lst (xs := []) (by tm_at "sq") .nil) (PySem.W.ke_shaped_ints ls) rfl ?_
  tm_at "go"
  -- the last row: by the cells
  have last : ∀ (H : Hp) (x y : Option V), Is B [(m, HO.dK [(Sum.inr "cells", V.ref c), (Sum.inr "left", V.ref l), (Sum.inr "spot", V.int (k + 1))]), (l, HO.lst (List.map V.int ls))] ((p, HO.lst []) :: L) H →
      t_law_draw_3 K ⟨fun _ H' => Q .non H', Q, fun _ _ => False, fun _ _ => False⟩ [some (V.ref m), some (V.int many), some (V.int k), x, y] H := by
    intro H x y hI
    tm_at "go"
    have hk : (k % 64).toNat < cs.length := by omega
    refine g_ix_l (by tm_at "sq") (atI_of (by omega) (ints_get hk)) ?_
    tm_at "go"
    refine' ap_law_mixed (K := K) (by omega) (by omega) ?_
    intro r hr0 hr1
    tm_at "go"
    refine' ap_law_mixed (K := K) (by omega) (by omega) ?_
    intro r2 hr2 hr3
    tm_at "go"
    exact q _ _ _ (Int.emod_nonneg _ (by omega)) (Int.emod_lt_of_pos _ h2) (by tm_at "is") ⟨c, l, cs, ls, k + 1, rfl, hc, hcs, hb, by omega, by omega⟩
  cases ls with
  | nil =>
    refine g_nb (fun e => ?_) (fun e => ?_)
    · simp [PyData.eqv, PyData.eqvAll] at e
    · exact g_next (last _ _ _ hI)
  | cons z zs =>
    refine g_nb (fun e => ?_) (fun e => ?_)
    · tm_at "go"
      have hp : 0 < ((z :: zs).length : Int) := by simp only [List.length_cons]; omega
      have hlt := Int.emod_lt_of_pos k hp
      have hge := Int.emod_nonneg k (by omega : ((z :: zs).length : Int) ≠ 0)
      rw [List.length_map]
      generalize hi : k % ((z :: zs).length : Int) = i at *
      have hk : i.toNat < (z :: zs).length := by omega
      refine g_ix_l (by tm_at "sq") (atI_of hge (ints_get hk)) ?_
      tm_at "go"
      refine g_dec (fun h => ?_) (fun h => ?_)
      · tm_at "go"
        refine q _ _ _ (Int.emod_nonneg _ (by omega)) (Int.emod_lt_of_pos _ h2) (by tm_at "is") ⟨c, l, cs, (z :: zs).set i.toNat ((z :: zs)[i.toNat] / many), k + 1, ?_, hc, hcs, hb, by omega, by omega⟩
        rw [List.map_set]
      · tm_at "next"
        exact last _ _ _ hI
    · simp [PyData.eqv, PyData.eqvAll] at e
/-! the cells that all is drawn by -/
def sp_law_folded (K : PySem.W.Frag) : Sp := fun vs H Q _ => vs.length = 1 ∧ ∃ (a : Addr) (ns : List Int) (B : Hp) (M L : List (Addr × HO)), vs = [.ref a] ∧ Is B M L H ∧ SqL K B a (ns.map V.int) ∧ ns.length ≤ 63 ∧
  ∀ (p : Addr) (cs : List Int) (H' : Hp), cs.length = 64 → (∀ x ∈ cs, 0 ≤ x ∧ x < 2147483647) → Is B M ((p, .lst (cs.map V.int)) :: L) H' → Q (.ref p) H'
abbrev t_law_folded_0 (K : PySem.W.Frag) : TS := (tAsg (tOp (rI (fun _ j => 0 < j) fun i j => .int (i % j)) (tOp (rAddA K) (tOp rMulA (tOp (rIx K) (tVar 1) (tOp (rI (fun _ j => 0 < j) fun i j => .int (i % j)) (tVar 2) (tC (.int 64)))) (tC (.int 48271))) (tVar 3)) (tC (.int 2147483647))) (gSub (tVar 1) (tOp (rI (fun _ j => 0 < j) fun i j => .int (i % j)) (tVar 2) (tC (.int 64))) rSetL))
abbrev t_law_folded_1 (K : PySem.W.Frag) : TS := (tAsg (tOp (rI (fun _ j => 0 < j) fun i j => .int (i % j)) (tOp (rAddA K) (tOp (rIx K) (tVar 1) (tVar 2)) (tOp rMulA (tOp (rIx K) (tVar 1) (tOp (rI0 fun i j => .int (i - j)) (tVar 2) (tC (.int 1)))) (tC (.int 16807)))) (tC (.int 2147483647))) (gSub (tVar 1) (tVar 2) rSetL))
abbrev t_law_folded_2 (K : PySem.W.Frag) : TS := (tRet (tVar 1))
abbrev t_law_folded_3 (K : PySem.W.Frag) : TS := (tSeq (tFor (iRng2 (tCons (tC (.int 1)) (tCons (tC (.int 64)) tNil))) (gName 2) (t_law_folded_1 K)) (t_law_folded_2 K))
abbrev t_law_folded_4 (K : PySem.W.Frag) : TS := (tSeq (tFor (iEnumA K (tCons (tVar 0) tNil)) (gTup K 2 (gCons (gName 2) (gCons (gName 3) gNil))) (t_law_folded_0 K)) (t_law_folded_3 K))
def t_law_folded (K : PySem.W.Frag) : TS := (tSeq (tAsg (tLc (iRng1 (tCons (tC (.int 64)) tNil)) (gName 2) tYes (tOp (rAddA K) (tC (.int 17)) (tVar 2)) [2]) (gName 1)) (t_law_folded_4 K))
theorem rd_law_folded {K : PySem.W.Frag} (vs : List V) (H : Hp) (Q : VK) (E : XK) (h : sp_law_folded K vs H Q E) : t_law_folded K { nx := fun _ H' => Q .non H', rt := Q } (start ["script", "found", "k", "cell"] vs) H := by
  obtain ⟨_, a, ns, B, M, L, rfl, hI, ha, hl, q⟩ := h
  show t_law_folded K ⟨_, _, _, _⟩ [some (.ref a), none, none, none] H
  unfold t_law_folded
  tm_at "go"
  refine' g_aLc walk_range hI (by tm_at "wiped") (by decide) (fun i acc B' M' => B' = B ∧ M' = M ∧ ∃ cs : List Int, acc = cs.map V.int ∧ cs.length = i ∧ ∀ x ∈ cs, 0 ≤ x ∧ x < 2147483647) ⟨rfl, rfl, [], rfl, rfl, fun x hx => by cases hx⟩ (fun _ _ _ _ _ _ _ _ _ _ => trivial) ?_ ?_
  · rintro i x acc B' M' D H' H'' hi s hI' ⟨rfl, rfl, cs, rfl, hl, hb⟩ ⟨rfl, rfl⟩ hz
    tm_at "go"
    refine' g_wiped (by tm_at "wiped") ?_
    tm_at "go"
    refine' lcY s hI' hz ⟨rfl, rfl, cs ++ [17 + (0 + (i : Int))], by simp, by simp [hl], ?_⟩
    intro y hy
    rcases List.mem_append.mp hy with e | e
    · exact hb y e
    · rw [List.mem_singleton.mp e]
      have : i < 64 := hi
      omega
  rintro acc B' M' p H' s hI ⟨rfl, rfl, cs, rfl, hcl, hcb⟩ _
  have hcl : cs.length = 64 := hcl
  tm_at "go"
  -- for k, cell in enumerate(script)
  refine' g_aFor walk_enum (fun i σ H => ∃ (x y : Option V) (cs : List Int), σ = [some (.ref a), some (.ref p), x, y] ∧ Is B' M' ((p, .lst (cs.map V.int)) :: L) H ∧ cs.length = 64 ∧ ∀ x ∈ cs, 0 ≤ x ∧ x < 2147483647)
    ⟨_, _, cs, rfl, hI, hcl, hcb⟩ (fun i σ H _ ⟨_, _, cs, _, hI, _⟩ => Is.sq hI ha) ?_ ?_
  · rintro i x σ H H' hi ⟨x0, y0, cs, rfl, hI, hcl, hcb⟩ ⟨T, y, z, rfl, hT, rfl, e1, e2⟩
    cases e1
    have hin : i < ns.length := by rwa [List.length_map] at hi
    have e2 : (ns.map V.int)[i]? = some z := e2
    rw [ints_get hin] at e2
    cases e2
    have hI := hI.new (o := .tup [V.int (i : Int), V.int ns[i]]) hT
    tm_at "go"
    have hk : ((i : Int) % 64).toNat < cs.length := by omega
    refine g_ix_l (by tm_at "sq") (atI_of (by omega) (ints_get hk)) ?_
    have hv := hcb _ (List.getElem_mem hk)
    tm_at "go"
    refine' ⟨_, _, cs.set ((i : Int) % 64).toNat ((cs[((i : Int) % 64).toNat] * 48271 + ns[i]) % 2147483647), rfl, ?_, by simpa using hcl, ?_⟩
    · rw [List.map_set]
      exact hI.forget (by tm_at "sub")
    · intro x hx
      rcases List.mem_or_eq_of_mem_set hx with e | e
      · exact hcb x e
      · rw [e]
        omega
  rintro σ H ⟨x0, y0, cs, rfl, hI, hcl, hcb⟩
  tm_at "go"
  -- for k in range(1, 64)
  refine' g_aFor walk_range (fun i σ H => ∃ (x y : Option V) (cs : List Int), σ = [some (.ref a), some (.ref p), x, y] ∧ Is B' M' ((p, .lst (cs.map V.int)) :: L) H ∧ cs.length = 64 ∧ ∀ x ∈ cs, 0 ≤ x ∧ x < 2147483647)
    ⟨_, _, cs, rfl, hI, hcl, hcb⟩ (fun _ _ _ _ _ => trivial) ?_ ?_
  · rintro i x σ H H' hi ⟨x0, y0, cs, rfl, hI, hcl, hcb⟩ ⟨rfl, rfl⟩
    have hi : i < 63 := hi
    tm_at "go"
    have hk : (1 + (i : Int)).toNat < cs.length := by omega
    have hk1 : (1 + (i : Int) - 1).toNat < cs.length := by omega
    refine g_ix_l (by tm_at "sq") (atI_of (by omega) (ints_get hk)) ?_
    have hv := hcb _ (List.getElem_mem hk)
    tm_at "go"
    refine g_ix_l (by tm_at "sq") (atI_of (by omega) (ints_get hk1)) ?_
    have hv1 := hcb _ (List.getElem_mem hk1)
    tm_at "go"
    refine' ⟨_, _, cs.set (1 + (i : Int)).toNat ((cs[(1 + (i : Int)).toNat] + cs[(1 + (i : Int) - 1).toNat] * 16807) % 2147483647), rfl, ?_, by simpa using hcl, ?_⟩
    · rw [List.map_set]
      exact hI.forget (by tm_at "sub")
    · intro x hx
      rcases List.mem_or_eq_of_mem_set hx with e | e
      · exact hcb x e
      · rw [e]
        omega
  rintro σ H ⟨x0, y0, cs, rfl, hI, hcl, hcb⟩
  tm_at "go"
  exact q p cs H hcl hcb hI
def sp_law_begun (K : PySem.W.Frag) : Sp := fun vs H Q _ => vs.length = 1 ∧ ∃ (a : Addr) (ns : List Int) (B : Hp) (L : List (Addr × HO)), vs = [.ref a] ∧ Is B [] L H ∧ SqL K B a (ns.map V.int) ∧ ns.length ≤ 63 ∧
  ∀ (m : Addr) (B' : Hp) (M' : List (Addr × HO)) (H' : Hp), Same B B' → Is B' M' L H' → Dr m 0 B' M' → Q (.ref m) H'
abbrev t_law_begun_0 (K : PySem.W.Frag) : TS := (tRet (tVar 1))
abbrev t_law_begun_1 (K : PySem.W.Frag) : TS := (tSeq (sDPut (tVar 1) (tC (.str "left")) (tLc (iAny K (tVar 0)) (gName 2) tYes (tIf (tTest (tOp (rI0 fun i j => .bl (decide (j ≤ i))) (tVar 2) (tOp (rI CPow fun i j => .int (i ^ j.toNat)) (tC (.int 10)) (tC (.int 18))))) (tVar 2) (tC (.int 0))) [2])) (t_law_begun_0 K))
def t_law_begun (K : PySem.W.Frag) : TS := (tSeq (tAsg (tDisp [((tC (.str "cells")), (tCl 1 0 (sp_law_folded K) (fun vs zs => pick .non [0] (vs ++ zs)) E0 (tCons (tVar 0) tNil) tNil)), ((tC (.str "left")), (tLst tNil)), ((tC (.str "spot")), (tC (.int 0)))]) (gName 1)) (t_law_begun_1 K))
theorem rd_law_begun {K : PySem.W.Frag} (vs : List V) (H : Hp) (Q : VK) (E : XK) (h : sp_law_begun K vs H Q E) : t_law_begun K { nx := fun _ H' => Q .non H', rt := Q } (start ["script", "m", "cell"] vs) H := by
  obtain ⟨_, a, ns, B, L, rfl, hI, ha, hl, q⟩ := h
  show t_law_begun K ⟨_, _, _, _⟩ [some (.ref a), none, none] H
  unfold t_law_begun
  tm_at "go"
  revert p
  intro m hI
  refine' ⟨rfl, a, ns, B, [], _, rfl, hI, ha, hl, ?_⟩
  clear hI
  intro c cs H hcs hcb hI
  tm_at "go"
  refine' g_aLc walk_list hI (by tm_at "wiped") (by rw [List.length_map]; omega) (fun i acc B' M' => B' = B ∧ M' = [] ∧ ∃ ls : List Int, acc = ls.map V.int) ⟨rfl, rfl, [], rfl⟩ (fun _ _ _ _ _ _ _ s hI' _ => Is.sq hI' (Same.seq s ha)) ?_ ?_
  · rintro i x acc B' M' D H' H'' hi s hI' ⟨rfl, rfl, ls, rfl⟩ ⟨rfl, hx⟩ hz
    have hin : i < ns.length := by rwa [List.length_map] at hi
    rw [ints_get hin] at hx
    cases hx
    tm_at "go"
    refine' g_wiped (by tm_at "wiped") ?_
    tm_at "go"
    refine g_dec (fun h => ?_) (fun h => ?_)
    · tm_at "go"
      exact lcY s hI' hz ⟨rfl, rfl, ls ++ [ns[i]], by simp⟩
    · tm_at "go"
      exact lcY s hI' hz ⟨rfl, rfl, ls ++ [0], by simp⟩
  rintro acc B' M' l H' s hI ⟨rfl, rfl, ls, rfl⟩ _
  tm_at "go"
  have hI := hI.pull (a := l) (by tm_at "del")
  have hI := hI.pull (a := m) (by tm_at "del")
  refine' hI.give (a := c) (by tm_at "del") ?_
  clear hI
  intro B2 s2 hc hI
  exact q m B2 _ _ s2 (by tm_at "is") ⟨c, l, cs, ls, 0, rfl, hc, hcs, hcb, by omega, by omega⟩
def Ints (lo hi : Int) (xs : List V) : Prop := ∀ x ∈ xs, ∃ w, x = .int w ∧ lo ≤ w ∧ w ≤ hi
theorem Ints.nil {lo hi : Int} : Ints lo hi [] := fun _ h => by cases h
theorem Ints.cons {lo hi w : Int} {xs : List V} (h : lo ≤ w ∧ w ≤ hi) (t : Ints lo hi xs) : Ints lo hi (.int w :: xs) := fun x hx => by
  rcases List.mem_cons.mp hx with e | e
  · exact ⟨w, e, h⟩
  · exact t x e
theorem g_ix_ints {K : PySem.W.Frag} {H : Hp} {Q : VK} {a : Addr} {xs : List V} {i lo hi : Int} (hs : SqL K H a xs) (h : Ints lo hi xs) (h0 : 0 ≤ i) (h1 : i < (xs.length : Int)) (q : ∀ w, lo ≤ w → w ≤ hi → Q (.int w) H) : rIx K (.ref a) (.int i) H Q := by
  have hl : i.toNat < xs.length := by omega
  obtain ⟨w, e, s1, s2⟩ := h _ (List.getElem_mem hl)
  exact g_ix_l hs (atI_of h0 (by rw [List.getElem?_eq_getElem hl, e])) (q w s1 s2)
/-! ### things of any kind, as isinstance sees them -/
inductive Kn where
  | non | bl | int | str | lst | tup | dct | obj
  deriving DecidableEq
def Kn.is : Kn → String → Bool
  | .bl, T => T == "bool" || T == "int"
  | .int, T => T == "int"
  | .str, T => T == "str"
  | .lst, T => T == "list"
  | .tup, T => T == "tuple"
  | _, _ => false
abbrev TYS : List String := ["int", "bool", "str", "list", "tuple"]
def Kn.fits (k : Kn) : V → Prop
  | .non => k = .non
  | .bl _ => k = .bl
  | .int _ => k = .int
  | .str z => k = .str ∧ plainS z
  | .ref _ => k = .lst ∨ k = .tup ∨ k = .dct ∨ k = .obj
  | _ => False
structure Thing (K : PySem.W.Frag) (H : Hp) (x : V) (k : Kn) : Prop where
  ty : ∃ t, TyX K H x t ∧ ∀ T ∈ TYS, PySem.W.kitOne K t (.type T) = some (k.is T)
  fit : k.fits x
theorem TyX.same {K : PySem.W.Frag} {H H' : Hp} {x : V} {t : Value} (s : Same H H') (h : TyX K H x t) : TyX K H' x t := by
  cases h with
  | base b =>
    refine .base ?_
    cases b with
    | non => exact .non
    | bl y => exact .bl y
    | int i => exact .int i
    | str y => exact .str y
    | flt y => exact .flt y
    | lst e => exact .lst (s _ _ e)
    | frz e => exact .frz (s _ _ e)
    | tup e => exact .tup (s _ _ e)
    | dK e => exact .dK (s _ _ e)
    | dT e => exact .dT (s _ _ e)
    | ins e a b c d f => exact .ins (s _ _ e) a b c d f
  | byt b => exact .byt b
  | set e => exact .set (s _ _ e)
  | kList e c => exact .kList e c
  | kTuple e c => exact .kTuple e c
  | kDict e c => exact .kDict e c
  | fTuple e => exact .fTuple (s _ _ e)
  | fDict e => exact .fDict (s _ _ e)
theorem Thing.same {K : PySem.W.Frag} {H H' : Hp} {x : V} {k : Kn} (s : Same H H') (h : Thing K H x k) : Thing K H' x k := by
  obtain ⟨⟨t, h1, h2⟩, f⟩ := h
  exact ⟨⟨t, TyX.same s h1, h2⟩, f⟩
theorem tys_mem {p : String → Prop} (h : p "int" ∧ p "bool" ∧ p "str" ∧ p "list" ∧ p "tuple") : ∀ T ∈ TYS, p T := by
  intro T hT
  obtain ⟨h1, h2, h3, h4, h5⟩ := h
  rcases List.mem_cons.mp hT with rfl | hT
  · exact h1
  rcases List.mem_cons.mp hT with rfl | hT
  · exact h2
  rcases List.mem_cons.mp hT with rfl | hT
  · exact h3
  rcases List.mem_cons.mp hT with rfl | hT
  · exact h4
  rcases List.mem_cons.mp hT with rfl | hT
  · exact h5
  cases hT
section
variable {K : PySem.W.Frag} {H : Hp} {a : Addr} {xs : List V}
theorem thing_non : Thing K H .non .non := ⟨⟨_, .base .non, tys_mem ⟨kit_ty (by decide +kernel), kit_ty (by decide +kernel), kit_ty (by decide +kernel), kit_ty (by decide +kernel), kit_ty (by decide +kernel)⟩⟩, rfl⟩
theorem thing_bl (b : Bool) : Thing K H (.bl b) .bl := ⟨⟨_, .base (.bl b), tys_mem ⟨kit_ty (by decide +kernel), kit_ty (by decide +kernel), kit_ty (by decide +kernel), kit_ty (by decide +kernel), kit_ty (by decide +kernel)⟩⟩, rfl⟩
theorem thing_int (i : Int) : Thing K H (.int i) .int := ⟨⟨_, .base (.int i), tys_mem ⟨kit_ty (by decide +kernel), kit_ty (by decide +kernel), kit_ty (by decide +kernel), kit_ty (by decide +kernel), kit_ty (by decide +kernel)⟩⟩, rfl⟩
theorem thing_str {z : Str} (h : plainS z) : Thing K H (.str z) .str := ⟨⟨_, .base (.str z), tys_mem ⟨kit_ty (by decide +kernel), kit_ty (by decide +kernel), kit_ty (by decide +kernel), kit_ty (by decide +kernel), kit_ty (by decide +kernel)⟩⟩, rfl, h⟩
theorem kit_list : ∀ T ∈ TYS, PySem.W.kitOne K (.type "list") (.type T) = some (Kn.lst.is T) := tys_mem ⟨kit_ty (by decide +kernel), kit_ty (by decide +kernel), kit_ty (by decide +kernel), kit_ty (by decide +kernel), kit_ty (by decide +kernel)⟩
theorem kit_tuple : ∀ T ∈ TYS, PySem.W.kitOne K (.type "tuple") (.type T) = some (Kn.tup.is T) := tys_mem ⟨kit_ty (by decide +kernel), kit_ty (by decide +kernel), kit_ty (by decide +kernel), kit_ty (by decide +kernel), kit_ty (by decide +kernel)⟩
theorem kit_dict : ∀ T ∈ TYS, PySem.W.kitOne K (.type "dict") (.type T) = some (Kn.dct.is T) := tys_mem ⟨kit_ty (by decide +kernel), kit_ty (by decide +kernel), kit_ty (by decide +kernel), kit_ty (by decide +kernel), kit_ty (by decide +kernel)⟩
theorem thing_lst (h : H a = some (.lst xs)) : Thing K H (.ref a) .lst := ⟨⟨_, .base (.lst h), kit_list⟩, .inl rfl⟩
theorem thing_tup (h : H a = some (.tup xs)) : Thing K H (.ref a) .tup := ⟨⟨_, .base (.tup h), kit_tuple⟩, .inr (.inl rfl)⟩
theorem thing_dct {kvs : List (Key × V)} (h : H a = some (.dK kvs)) : Thing K H (.ref a) .dct := ⟨⟨_, .base (.dK h), kit_dict⟩, .inr (.inr (.inl rfl))⟩
theorem g_isi {x : V} {k : Kn} {T : String} {Q : VK} (h : Thing K H x k) (hT : T ∈ TYS) (q : Q (.bl (k.is T)) H) : rIsi K [x, .ty T] H Q := by
  obtain ⟨⟨t, h1, h2⟩, _⟩ := h
  exact ⟨x, .ty T, t, _, _, rfl, .ty T, h1, h2 T hT, q⟩
theorem g_isiT {x : V} {k : Kn} {T : String} {Q : VK} (h : Thing K H x k) (hT : T ∈ TYS) (e : k.is T = true) (q : Q (.bl true) H) : rIsi K [x, .ty T] H Q := g_isi h hT (by rw [e]; exact q)
theorem g_isiF {x : V} {k : Kn} {T : String} {Q : VK} (h : Thing K H x k) (hT : T ∈ TYS) (e : k.is T = false) (q : Q (.bl false) H) : rIsi K [x, .ty T] H Q := g_isi h hT (by rw [e]; exact q)
theorem kit_of {t : Value} {k : Kn} {T : String} (h : ∀ T ∈ TYS, PySem.W.kitOne K t (.type T) = some (k.is T)) (hT : T ∈ TYS) : PySem.W.kitOne K t (.type T) = some (k.is T) := h T hT
/-- isinstance of one of two -/
theorem g_isi2 {x : V} {k : Kn} {T1 T2 : String} {tp : Addr} {Q : VK} (ht : H tp = some (.tup [.ty T1, .ty T2])) (h : Thing K H x k) (m1 : T1 ∈ TYS) (m2 : T2 ∈ TYS) (q : Q (.bl (k.is T1 || k.is T2)) H) : rIsiT K [x, .ref tp] H Q := by
  obtain ⟨⟨t, h1, h2⟩, _⟩ := h
  refine ⟨x, tp, _, t, _, k.is T1 || k.is T2, rfl, ht, .cons (.ty T1) (.cons (.ty T2) .nil), h1, ?_, q⟩
  refine kitAny_cons (kit_of h2 m1) (fun e => ?_) (fun e => by rw [e]; rfl)
  rw [e, Bool.false_or]
  exact kitAny_cons (kit_of h2 m2) (fun e => by rw [e]; rfl) (fun e => e)
theorem g_isi2T {x : V} {k : Kn} {T1 T2 : String} {tp : Addr} {Q : VK} (ht : H tp = some (.tup [.ty T1, .ty T2])) (h : Thing K H x k) (m1 : T1 ∈ TYS) (m2 : T2 ∈ TYS) (e : (k.is T1 || k.is T2) = true) (q : Q (.bl true) H) : rIsiT K [x, .ref tp] H Q := g_isi2 ht h m1 m2 (by rw [e]; exact q)
theorem g_isi2F {x : V} {k : Kn} {T1 T2 : String} {tp : Addr} {Q : VK} (ht : H tp = some (.tup [.ty T1, .ty T2])) (h : Thing K H x k) (m1 : T1 ∈ TYS) (m2 : T2 ∈ TYS) (e : (k.is T1 || k.is T2) = false) (q : Q (.bl false) H) : rIsiT K [x, .ref tp] H Q := g_isi2 ht h m1 m2 (by rw [e]; exact q)
theorem Thing.cases {x : V} {k : Kn} (h : Thing K H x k) {G : Prop} (h1 : x = .non → k = .non → G) (h2 : ∀ b, x = .bl b → k = .bl → G) (h3 : ∀ i, x = .int i → k = .int → G) (h4 : ∀ z, x = .str z → k = .str → plainS z → G)
    (h5 : ∀ a, x = .ref a → (k = .lst ∨ k = .tup ∨ k = .dct ∨ k = .obj) → G) : G := by
  have f := h.fit
  cases x with
  | non => exact h1 rfl f
  | bl b => exact h2 b rfl f
  | int i => exact h3 i rfl f
  | str z => exact h4 z rfl f.1 f.2
  | ref a => exact h5 a rfl f
  | _ => exact f.elim
theorem Kn.noInt {k : Kn} (h : k = .lst ∨ k = .tup ∨ k = .dct ∨ k = .obj) : k.is "int" = false ∧ k.is "bool" = false ∧ k.is "str" = false := by
  rcases h with rfl | rfl | rfl | rfl <;> decide
end
/-! ### whole numbers -/
def isWhole (x : V) (lo hi : Int) : Bool := match x with
  | .int n => decide (lo ≤ n) && decide (n ≤ hi)
  | _ => false
def sp_is_whole (K : PySem.W.Frag) : Sp := fun vs H Q _ => vs.length = 3 ∧ ∃ (x : V) (k : Kn) (lo hi : Int), vs = [x, .int lo, .int hi] ∧ Thing K H x k ∧ Q (.bl (isWhole x lo hi)) H
def t_is_whole (K : PySem.W.Frag) : TS := (tRet (tAndV (tCB (rIsi K) (tCons (tVar 0) (tCons (tC (.ty "int")) tNil))) (tAndV (tNotV (tCB (rIsi K) (tCons (tVar 0) (tCons (tC (.ty "bool")) tNil)))) (tChain (rI0 fun i j => .bl (decide (i ≤ j))) (rI0 fun i j => .bl (decide (i ≤ j))) (tVar 1) (tVar 0) (tVar 2)))))
theorem rd_is_whole {K : PySem.W.Frag} (vs : List V) (H : Hp) (Q : VK) (E : XK) (h : sp_is_whole K vs H Q E) : t_is_whole K { nx := fun _ H' => Q .non H', rt := Q } (start ["thing", "least", "most"] vs) H := by
  obtain ⟨_, x, k, lo, hi, rfl, hx, q⟩ := h
  show t_is_whole K ⟨_, _, _, _⟩ [some x, some (.int lo), some (.int hi)] H
  unfold t_is_whole
  tm_at "go"
  refine hx.cases ?_ ?_ ?_ ?_ ?_
  · rintro rfl rfl
    tm_at "go"
    exact q
  · rintro b rfl rfl
    tm_at "go"
    exact q
  · rintro n rfl rfl
    tm_at "go"
    refine g_dec (fun h => ?_) (fun h => ?_)
    · tm_at "go"
      have e : isWhole (.int n) lo hi = decide (n ≤ hi) := by
        show (decide (lo ≤ n) && decide (n ≤ hi)) = _
        rw [decide_eq_true h, Bool.true_and]
      rw [e] at q
      exact q
    · tm_at "go"
      have e : isWhole (.int n) lo hi = false := by
        show (decide (lo ≤ n) && decide (n ≤ hi)) = _
        rw [decide_eq_false h, Bool.false_and]
      rw [e] at q
      exact q
  · rintro z rfl rfl hp
    tm_at "go"
    exact q
  · rintro a rfl hk
    refine g_isiF hx (by decide) (Kn.noInt hk).1 ?_
    tm_at "go"
    exact q
/-! ### names -/
def letS : Str := "abcdefghijklmnopqrstuvwxyz"
def barVs : List V := [.str "style", .str "job", .str "round", .str "sew", .str "glue", .str "cover", .str "letter", .str "press", .str "hand", .str "haste"]
def isName (x : V) : Bool := match x with
  | .str z => decide (1 ≤ (z.length : Int)) && (decide ((z.length : Int) ≤ 8) && (!inV (.str z) barVs && z.cps.toList.all fun c => decide (c ∈ letS.cps.toList)))
  | _ => false
def sp_is_name (K : PySem.W.Frag) : Sp := fun vs H Q _ => vs.length = 1 ∧ ∃ (x : V) (k : Kn) (B : Hp) (M L : List (Addr × HO)), vs = [x] ∧ Is B M L H ∧ Thing K H x k ∧ ∀ H', Is B M L H' → Q (.bl (isName x)) H'
abbrev t_is_name_0 (K : PySem.W.Frag) : TS := (tRet (tCB (rAll K) (tCons (tLc (iAny K (tVar 0)) (gName 1) tYes (tOp (rInA K) (tVar 1) (tC (.str "abcdefghijklmnopqrstuvwxyz"))) [1]) tNil)))
def t_is_name (K : PySem.W.Frag) : TS := (tSeq (tIfS (tOr (tNot (tTr K (tCB (rIsi K) (tCons (tVar 0) (tCons (tC (.ty "str")) tNil))))) (tOr (tNot (tTest (tChain (rI0 fun i j => .bl (decide (i ≤ j))) (rI0 fun i j => .bl (decide (i ≤ j))) (tC (.int 1)) (tCB (rLen K) (tCons (tVar 0) tNil)) (tC (.int 8))))) (tTest (tOp (rInA K) (tVar 0) (tC (.ref (He.ga K "BARRED_WORDS"))))))) (tRet (tC (.bl false))) tNext) (t_is_name_0 K))
theorem rd_is_name {K : PySem.W.Frag} (hbar : ∀ H, SqT K H (He.ga K "BARRED_WORDS") barVs) (vs : List V) (H : Hp) (Q : VK) (E : XK) (h : sp_is_name K vs H Q E) : t_is_name K { nx := fun _ H' => Q .non H', rt := Q } (start ["thing", "sign"] vs) H := by
  obtain ⟨_, x, k, B, M, L, rfl, hI, hx, q⟩ := h
  show t_is_name K ⟨_, _, _, _⟩ [some x, none] H
  unfold t_is_name
  tm_at "go"
  refine hx.cases ?_ ?_ ?_ ?_ ?_
  · rintro rfl rfl
    tm_at "go"
    exact q _ hI
  · rintro b rfl rfl
    tm_at "go"
    exact q _ hI
  · rintro n rfl rfl
    tm_at "go"
    exact q _ hI
  · rintro z rfl rfl hp
    tm_at "go"
    have qq : Q (.bl (decide (1 ≤ (z.length : Int)) && (decide ((z.length : Int) ≤ 8) && (!inV (.str z) barVs && z.cps.toList.all fun c => decide (c ∈ letS.cps.toList))))) = Q (.bl (isName (.str z))) := rfl
    refine g_dec (fun h1 => ?_) (fun h1 => ?_)
    · tm_at "go"
      refine g_ndec (fun h2 => ?_) (fun h2 => ?_)
      · tm_at "go"
        have := q _ hI
        rw [← qq, decide_eq_true h1, decide_eq_false h2] at this
        exact this
      · tm_at "go"
        refine g_in_t (hbar H) rfl (by decide +kernel) ?_
        tm_at "go"
        refine g_b (fun h3 => ?_) (fun h3 => ?_)
        · tm_at "go"
          have := q _ hI
          rw [← qq, decide_eq_true h1, decide_eq_true h2, h3] at this
          exact this
        · tm_at "go"
          refine' g_lcS1 hI (by tm_at "wiped") (Nat.le_trans hp.1 (by decide)) (fun c => .bl (decide (c ∈ letS.cps.toList))) ?_ ?_
          · intro c D acc H' hc hI' PY hY
            tm_at "go"
            refine' g_wiped (by tm_at "wiped") ?_
            tm_at "go"
            exact hY _ hI'
          · intro D H' hI'
            tm_at "go"
            refine g_all (by tm_at "sq") ?_
            have := q _ (hI'.forget (by tm_at "sub"))
            rw [← qq, decide_eq_true h1, decide_eq_true h2, h3] at this
            exact this
    · tm_at "go"
      have := q _ hI
      rw [← qq, decide_eq_false h1] at this
      exact this
  · rintro a rfl hk
    refine g_isiF hx (by decide) (Kn.noInt hk).2.2 ?_
    tm_at "go"
    exact q _ hI
theorem all_true {α : Type} {l : List α} : l.all (fun _ => true) = true := List.all_eq_true.mpr fun _ _ => rfl
theorem Is.thaw {B H : Hp} {M L : List (Addr × HO)} {a : Addr} {o : HO} (I : Is (upd B a o) M L H) (h : B a = none) : Is B M ((a, o) :: L) H := by
  have hne : ∀ q ∈ L ++ M, q.1 ≠ a := fun q hq z => by
    have := (I.own q hq).2
    rw [z, upd_same] at this
    cases this
  refine ⟨fun b x e => I.ex b x (by rw [upd_ne (fun z => by rw [z, h] at e; cases e)]; exact e), fun q hq => ?_, ?_⟩
  · rcases List.mem_cons.mp (show q ∈ (a, o) :: (L ++ M) from hq) with rfl | hq
    · exact ⟨I.ex _ _ upd_same, h⟩
    · have h2 := I.own q hq
      refine ⟨h2.1, ?_⟩
      have := h2.2
      rw [upd_ne (hne q hq)] at this
      exact this
  · show ((((a, o) :: (L ++ M)).map (·.1))).Nodup
    refine List.nodup_cons.mpr ⟨fun z => ?_, I.nd⟩
    obtain ⟨q, hq, e⟩ := List.mem_map.mp z
    exact hne q hq e
theorem isWhole_t {n lo hi : Int} (h1 : lo ≤ n) (h2 : n ≤ hi) : isWhole (.int n) lo hi = true := by
  show (decide (lo ≤ n) && decide (n ≤ hi)) = true
  rw [decide_eq_true h1, decide_eq_true h2]
  rfl
theorem ap_is_whole_t {K : PySem.W.Frag} {H : Hp} {Q : VK} {E : XK} {n lo hi : Int} (h1 : lo ≤ n) (h2 : n ≤ hi) (q : Q (.bl true) H) : sp_is_whole K [.int n, .int lo, .int hi] H Q E := ⟨rfl, .int n, .int, lo, hi, rfl, thing_int n, by rw [isWhole_t h1 h2]; exact q⟩
theorem ap_is_name {K : PySem.W.Frag} {H : Hp} {Q : VK} {E : XK} {x : V} {k : Kn} {B : Hp} {M L : List (Addr × HO)} (I : Is B M L H) (hx : Thing K B x k) (q : ∀ H', Is B M L H' → Q (.bl (isName x)) H') : sp_is_name K [x] H Q E := ⟨rfl, x, k, B, M, L, rfl, I, hx.same I.ex, q⟩
/-! ### steps and styles -/
abbrev StepT : Type := Str × Int × Int
def kndL : List (Str × Str) := [("sew", "hand"), ("glue", "hand"), ("cover", "hand"), ("letter", "hand"), ("press", "press")]
def StepR (B : Hp) (x : V) (r : StepT) : Prop := ∃ a, x = .ref a ∧ B a = some (.tup [.str r.1, .int r.2.1, .int r.2.2])
abbrev StepsB (B : Hp) (xs : List V) (rs : List StepT) : Prop := All2 (StepR B) xs rs
theorem StepsB.same {B B' : Hp} {xs : List V} {rs : List StepT} (h : StepsB B xs rs) (s : Same B B') : StepsB B' xs rs := All2.mono (fun _ _ ⟨a, e, h⟩ => ⟨a, e, s _ _ h⟩) h
def WorkOk (z : Str) : Prop := ∃ k, (z, k) ∈ kndL
theorem work_sh {z : Str} (h : WorkOk z) : Sh 6 z := by
  obtain ⟨k, h⟩ := h
  simp only [kndL, List.mem_cons, Prod.mk.injEq, List.not_mem_nil, or_false] at h
  rcases h with ⟨rfl, _⟩ | ⟨rfl, _⟩ | ⟨rfl, _⟩ | ⟨rfl, _⟩ | ⟨rfl, _⟩ <;> exact Sh.lit (by decide +kernel)
def StepG (r : StepT) : Prop := WorkOk r.1 ∧ 1 ≤ r.2.1 ∧ r.2.1 ≤ 240 ∧ 0 ≤ r.2.2 ∧ r.2.2 ≤ 240
structure GoodT (nm : Str) (rs : List StepT) : Prop where
  nm : isName (.str nm) = true ∧ plainS nm
  l0 : 1 ≤ rs.length
  l1 : rs.length ≤ 12
  row : ∀ r ∈ rs, StepG r
def sp_kind_of (K : PySem.W.Frag) : Sp := fun vs H Q _ => vs.length = 1 ∧ ∃ z k, vs = [.str z] ∧ (z, k) ∈ kndL ∧ Q (.str k) H
theorem ap_kind_of {K : PySem.W.Frag} {H : Hp} {Q : VK} {E : XK} {z k : Str} (h : (z, k) ∈ kndL) (q : Q (.str k) H) : sp_kind_of K [.str z] H Q E := ⟨rfl, z, k, rfl, h, q⟩
def t_kind_of (K : PySem.W.Frag) : TS := (tRet (tIf (tTr K (tCB (rIsi K) (tCons (tVar 0) (tCons (tC (.ty "str")) tNil)))) (tKGet (He.ga K "KINDS") [("sew", "hand"), ("glue", "hand"), ("cover", "hand"), ("letter", "hand"), ("press", "press")] (tVar 0)) (tC .non)))
theorem rd_kind_of {K : PySem.W.Frag} (vs : List V) (H : Hp) (Q : VK) (E : XK) (h : sp_kind_of K vs H Q E) : t_kind_of K { nx := fun _ H' => Q .non H', rt := Q } (start ["work"] vs) H := by
  obtain ⟨_, z, k, rfl, h, q⟩ := h
  show t_kind_of K ⟨_, _, _, _⟩ [some (.str z)] H
  have hx : Thing K H (.str z) .str := thing_str ((work_sh ⟨k, h⟩).plain (by decide))
  unfold t_kind_of
  tm_at "go"
  refine' g_kget ?_
  tm_at "go"
  exact g_kgot h q
def sp_is_step (K : PySem.W.Frag) : Sp := fun vs H Q _ => vs.length = 1 ∧ ∃ (a : Addr) (r : StepT) (B : Hp) (M L : List (Addr × HO)), vs = [.ref a] ∧ Is B M L H ∧ B a = some (.tup [.str r.1, .int r.2.1, .int r.2.2]) ∧ StepG r ∧ ∀ H', Is B M L H' → Q (.bl true) H'
theorem ap_is_step {K : PySem.W.Frag} {H : Hp} {Q : VK} {E : XK} {a : Addr} {r : StepT} {B : Hp} {M L : List (Addr × HO)} (I : Is B M L H) (ha : B a = some (.tup [.str r.1, .int r.2.1, .int r.2.2])) (h : StepG r) (q : ∀ H', Is B M L H' → Q (.bl true) H') : sp_is_step K [.ref a] H Q E := ⟨rfl, a, r, B, M, L, rfl, I, ha, h, q⟩
abbrev t_is_step_0 (K : PySem.W.Frag) : TS := (tRet (tAndV (tCl 2 1 (sp_is_whole K) (fun vs zs => pick .non [0, 1, 2] (vs ++ (zs ++ [.int 1000000]))) E0 (tCons (tOp (rIx K) (tVar 0) (tC (.int 1))) (tCons (tC (.int 1)) tNil)) (tCons (tC (.int 240)) tNil)) (tCl 2 1 (sp_is_whole K) (fun vs zs => pick .non [0, 1, 2] (vs ++ (zs ++ [.int 1000000]))) E0 (tCons (tOp (rIx K) (tVar 0) (tC (.int 2))) (tCons (tC (.int 0)) tNil)) (tCons (tC (.int 240)) tNil))))
def t_is_step (K : PySem.W.Frag) : TS := (tSeq (tIfS (tOr (tNot (tTr K (tCB (rIsi K) (tCons (tVar 0) (tCons (tC (.ty "tuple")) tNil))))) (tOr (tTest (tOp (rNeA K) (tCB (rLen K) (tCons (tVar 0) tNil)) (tC (.int 3)))) (tTest (tOp rIsNo (tCl 1 0 (sp_kind_of K) (fun vs zs => pick .non [0] (vs ++ zs)) E0 (tCons (tOp (rIx K) (tVar 0) (tC (.int 0))) tNil) tNil) (tC .non))))) (tRet (tC (.bl false))) tNext) (t_is_step_0 K))
theorem rd_is_step {K : PySem.W.Frag} (vs : List V) (H : Hp) (Q : VK) (E : XK) (h : sp_is_step K vs H Q E) : t_is_step K { nx := fun _ H' => Q .non H', rt := Q } (start ["thing"] vs) H := by
  obtain ⟨_, a, ⟨z, n, t⟩, B, M, L, rfl, hI, ha, ⟨⟨k, hk⟩, h1, h2, h3, h4⟩, q⟩ := h
  show t_is_step K ⟨_, _, _, _⟩ [some (.ref a)] H
  have hT : Thing K B (.ref a) .tup := thing_tup ha
  unfold t_is_step
  tm_at "go"
  refine g_ndec (fun h => absurd rfl h) (fun _ => ?_)
  tm_at "go"
  refine g_ix_t (by tm_at "st") (atI_of (by decide) rfl) ?_
  tm_at "go"
  refine' ap_kind_of (K := K) hk ?_
  tm_at "go"
  refine g_dec (fun h => by cases h) (fun _ => ?_)
  tm_at "go"
  refine g_ix_t (by tm_at "st") (atI_of (by decide) rfl) ?_
  tm_at "go"
  refine' ap_is_whole_t (K := K) h1 h2 ?_
  tm_at "go"
  refine g_ix_t (by tm_at "st") (atI_of (by decide) rfl) ?_
  tm_at "go"
  refine' ap_is_whole_t (K := K) h3 h4 ?_
  exact q _ hI
def sp_are_steps (K : PySem.W.Frag) : Sp := fun vs H Q _ => vs.length = 1 ∧ ∃ (a : Addr) (xs : List V) (rs : List StepT) (B : Hp) (M L : List (Addr × HO)), vs = [.ref a] ∧ Is B M L H ∧ B a = some (.lst xs) ∧ StepsB B xs rs ∧ 1 ≤ rs.length ∧ rs.length ≤ 12 ∧ (∀ r ∈ rs, StepG r) ∧ ∀ H', Is B M L H' → Q (.bl true) H'
theorem ap_are_stepsL {K : PySem.W.Frag} {H : Hp} {Q : VK} {E : XK} {a : Addr} {xs : List V} {rs : List StepT} {B : Hp} {M L : List (Addr × HO)} (I : Is B M ((a, .lst xs) :: L) H) (hr : StepsB B xs rs) (h0 : 1 ≤ rs.length) (h1 : rs.length ≤ 12) (hg : ∀ r ∈ rs, StepG r) (q : ∀ H', Is B M ((a, .lst xs) :: L) H' → Q (.bl true) H') : sp_are_steps K [.ref a] H Q E := by
  have hb : B a = none := (I.own (a, .lst xs) (List.mem_append_left _ List.mem_cons_self)).2
  obtain ⟨I1, s⟩ := I.frz .here
  exact ⟨rfl, a, xs, rs, _, M, L, rfl, I1, upd_same, hr.same s, h0, h1, hg, fun H' I2 => q H' (I2.thaw hb)⟩
abbrev t_are_steps_0 (K : PySem.W.Frag) : TS := (tRet (tCB (rAll K) (tCons (tLc (iAny K (tVar 0)) (gName 1) tYes (tCl 1 0 (sp_is_step K) (fun vs zs => pick .non [0] (vs ++ zs)) E0 (tCons (tVar 1) tNil) tNil) [1]) tNil)))
def t_are_steps (K : PySem.W.Frag) : TS := (tSeq (tIfS (tOr (tNot (tTr K (tCB (rIsiT K) (tCons (tVar 0) (tCons (tTup (tCons (tC (.ty "list")) (tCons (tC (.ty "tuple")) tNil))) tNil))))) (tNot (tTest (tChain (rI0 fun i j => .bl (decide (i ≤ j))) (rI0 fun i j => .bl (decide (i ≤ j))) (tC (.int 1)) (tCB (rLen K) (tCons (tVar 0) tNil)) (tC (.int 12)))))) (tRet (tC (.bl false))) tNext) (t_are_steps_0 K))
theorem rd_are_steps {K : PySem.W.Frag} (vs : List V) (H : Hp) (Q : VK) (E : XK) (h : sp_are_steps K vs H Q E) : t_are_steps K { nx := fun _ H' => Q .non H', rt := Q } (start ["thing", "step"] vs) H := by
  obtain ⟨_, a, xs, rs, B, M, L, rfl, hI, ha, hr, h0, h1, hg, q⟩ := h
  show t_are_steps K ⟨_, _, _, _⟩ [some (.ref a), none] H
  have hl := hr.len
  have hT : Thing K B (.ref a) .lst := thing_lst ha
  unfold t_are_steps
  tm_at "go"
  refine g_dec (fun _ => ?_) (fun h => absurd (by omega) h)
  tm_at "go"
  refine g_ndec (fun h => absurd (by omega) h) (fun _ => ?_)
  tm_at "go"
  refine' g_lcX (xs := xs) (rs.map fun _ => V.bl true) (by rw [List.length_map, hl]) walk_list hI (by tm_at "wiped") (by omega) (fun D acc H' I => Is.sq I (SqL.of ha)) ?_ ?_
  · intro i x y D acc H' hx hy hI PY q
    obtain ⟨r, e, b, rfl, hb⟩ := hr.get hx
    have hy : y = .bl true := by
      rw [List.getElem?_map, e] at hy
      exact (Option.some.inj hy).symm
    tm_at "go"
    refine' g_wiped (by tm_at "wiped") ?_
    tm_at "go"
    refine' ap_is_step (K := K) hI hb (hg _ (List.mem_of_getElem? e)) ?_
    intro H4 hI
    rw [← hy]
    exact q _ hI
  · intro D H' hI
    tm_at "go"
    refine g_all (l := rs) (P := fun _ => true) (by tm_at "sq") ?_
    rw [all_true]
    exact q _ (hI.forget (by tm_at "sub"))
/-! the class -/
structure StyleC (K : PySem.W.Frag) : Prop where
  cl : Cls K (He.ga K "Style")
  n1 : NoAttr K (He.ga K "Style") "called"
  n2 : NoAttr K (He.ga K "Style") "step_rows"
structure StyleAt (K : PySem.W.Frag) (B : Hp) (x : Addr) (nm : Str) (rs : List StepT) : Prop where
  ex : ∃ (dx cr : Addr) (xs : List V), B x = some (.ins (He.ga K "Style") dx [("called", .str nm), ("step_rows", .ref cr)]) ∧ B cr = some (.lst xs) ∧ StepsB B xs rs
  good : GoodT nm rs
theorem StyleAt.same {K : PySem.W.Frag} {B B' : Hp} {x : Addr} {nm : Str} {rs : List StepT} (h : StyleAt K B x nm rs) (e : Same B B') : StyleAt K B' x nm rs := by
  obtain ⟨⟨dx, cr, xs, h1, h2, h3⟩, g⟩ := h
  exact ⟨⟨dx, cr, xs, e _ _ h1, e _ _ h2, h3.same e⟩, g⟩
def sp_Style_init (K : PySem.W.Frag) : Sp := fun vs H Q _ => vs.length = 3 ∧ ∃ (x dx a : Addr) (nm : Str) (xs : List V) (rs : List StepT) (B : Hp) (M L : List (Addr × HO)), vs = [.ref x, .str nm, .ref a] ∧ Is B M ((x, .ins (He.ga K "Style") dx []) :: (dx, .own x) :: L) H ∧ B a = some (.lst xs) ∧ StepsB B xs rs ∧ GoodT nm rs ∧
  ∀ (B' H' : Hp), Same B B' → Is B' M L H' → StyleAt K B' x nm rs → Q .non H'
theorem ap_Style_init {K : PySem.W.Frag} {H : Hp} {Q : VK} {E : XK} {x dx a : Addr} {nm : Str} {xs : List V} {rs : List StepT} {B : Hp} {M L : List (Addr × HO)} (I : Is B M ((x, .ins (He.ga K "Style") dx []) :: (dx, .own x) :: L) H) (ha : B a = some (.lst xs)) (hr : StepsB B xs rs) (hg : GoodT nm rs)
    (q : ∀ (B' H' : Hp), Same B B' → Is B' M L H' → StyleAt K B' x nm rs → Q .non H') : sp_Style_init K [.ref x, .str nm, .ref a] H Q E := ⟨rfl, x, dx, a, nm, xs, rs, B, M, L, rfl, I, ha, hr, hg, q⟩
abbrev t_Style_init_0 (K : PySem.W.Frag) : TS := (sFld K (tVar 0) (tCB (rListOf K) (tCons (tVar 2) tNil)) "step_rows")
abbrev t_Style_init_1 (K : PySem.W.Frag) : TS := (tSeq (sFld K (tVar 0) (tVar 1) "called") (t_Style_init_0 K))
abbrev t_Style_init_2 (K : PySem.W.Frag) : TS := (tSeq (tIfS (tNot (tTr K (tCl 1 0 (sp_are_steps K) (fun vs zs => pick .non [0] (vs ++ zs)) E0 (tCons (tVar 2) tNil) tNil))) tNoS tNext) (t_Style_init_1 K))
def t_Style_init (K : PySem.W.Frag) : TS := (tSeq (tIfS (tNot (tTr K (tCl 1 0 (sp_is_name K) (fun vs zs => pick .non [0] (vs ++ zs)) E0 (tCons (tVar 1) tNil) tNil))) tNoS tNext) (t_Style_init_2 K))
theorem rd_Style_init {K : PySem.W.Frag} (C : StyleC K) (vs : List V) (H : Hp) (Q : VK) (E : XK) (h : sp_Style_init K vs H Q E) : t_Style_init K { nx := fun _ H' => Q .non H', rt := Q } (start ["self", "name", "steps"] vs) H := by
  obtain ⟨_, x, dx, a, nm, xs, rs, B, M, L, rfl, hI, ha, hr, hg, q⟩ := h
  show t_Style_init K ⟨_, _, _, _⟩ [some (.ref x), some (.str nm), some (.ref a)] H
  obtain ⟨cl, n1, n2⟩ := C
  have hl := hr.len
  have hl1 := hg.l1
  unfold t_Style_init
  tm_at "go"
  refine' ap_is_name (K := K) hI (thing_str hg.nm.2) ?_
  clear hI
  intro H hI
  rw [hg.nm.1]
  tm_at "go"
  refine' (show sp_are_steps K [.ref a] _ _ _ from ⟨rfl, a, xs, rs, B, M, _, rfl, hI, ha, hr, hg.l0, hg.l1, hg.row, ?_⟩)
  clear hI
  intro H hI
  tm_at "go"
  obtain ⟨cr, rfl⟩ : ∃ q, q = p := ⟨_, rfl⟩
  refine' hI.give (a := x) (by tm_at "del") ?_
  clear hI
  intro B1 s1 h1 hI
  refine' hI.give (a := cr) (by tm_at "del") ?_
  clear hI
  intro B2 s2 h2 hI
  exact q B2 _ (s1.trans s2) (hI.forget (by tm_at "sub")) ⟨⟨dx, cr, xs, s2 _ _ h1, h2, hr.same (s1.trans s2)⟩, hg⟩
def sp_Style_named (K : PySem.W.Frag) : Sp := fun vs H Q _ => vs.length = 1 ∧ ∃ (x : Addr) (nm : Str) (rs : List StepT) (B : Hp) (M L : List (Addr × HO)), vs = [.ref x] ∧ Is B M L H ∧ StyleAt K B x nm rs ∧ Q (.str nm) H
theorem ap_Style_named {K : PySem.W.Frag} {H : Hp} {Q : VK} {E : XK} {x : Addr} {nm : Str} {rs : List StepT} {B : Hp} {M L : List (Addr × HO)} (I : Is B M L H) (h : StyleAt K B x nm rs) (q : Q (.str nm) H) : sp_Style_named K [.ref x] H Q E := ⟨rfl, x, nm, rs, B, M, L, rfl, I, h, q⟩
def t_Style_named (K : PySem.W.Frag) : TS := (tRet (tFld K (tVar 0) "called"))
theorem rd_Style_named {K : PySem.W.Frag} (C : StyleC K) (vs : List V) (H : Hp) (Q : VK) (E : XK) (h : sp_Style_named K vs H Q E) : t_Style_named K { nx := fun _ H' => Q .non H', rt := Q } (start ["self"] vs) H := by
  obtain ⟨_, x, nm, rs, B, M, L, rfl, hI, hS, q⟩ := h
  show t_Style_named K ⟨_, _, _, _⟩ [some (.ref x)] H
  obtain ⟨cl, n1, n2⟩ := C
  obtain ⟨⟨dx, cr, xs, h1, h2, h3⟩, hg⟩ := id hS
  unfold t_Style_named
  tm_at "go"
  exact q
def sp_Style_steps (K : PySem.W.Frag) : Sp := fun vs H Q _ => vs.length = 1 ∧ ∃ (x : Addr) (nm : Str) (rs : List StepT) (B : Hp) (M L : List (Addr × HO)), vs = [.ref x] ∧ Is B M L H ∧ StyleAt K B x nm rs ∧ ∀ p xs H', StepsB B xs rs → Is B M ((p, .lst xs) :: L) H' → Q (.ref p) H'
theorem ap_Style_steps {K : PySem.W.Frag} {H : Hp} {Q : VK} {E : XK} {x : Addr} {nm : Str} {rs : List StepT} {B : Hp} {M L : List (Addr × HO)} (I : Is B M L H) (h : StyleAt K B x nm rs) (q : ∀ p xs H', StepsB B xs rs → Is B M ((p, .lst xs) :: L) H' → Q (.ref p) H') : sp_Style_steps K [.ref x] H Q E := ⟨rfl, x, nm, rs, B, M, L, rfl, I, h, q⟩
def t_Style_steps (K : PySem.W.Frag) : TS := (tRet (tCB (rListOf K) (tCons (tFld K (tVar 0) "step_rows") tNil)))
theorem rd_Style_steps {K : PySem.W.Frag} (C : StyleC K) (vs : List V) (H : Hp) (Q : VK) (E : XK) (h : sp_Style_steps K vs H Q E) : t_Style_steps K { nx := fun _ H' => Q .non H', rt := Q } (start ["self"] vs) H := by
  obtain ⟨_, x, nm, rs, B, M, L, rfl, hI, hS, q⟩ := h
  show t_Style_steps K ⟨_, _, _, _⟩ [some (.ref x)] H
  obtain ⟨cl, n1, n2⟩ := C
  obtain ⟨⟨dx, cr, xs, h1, h2, h3⟩, hg⟩ := id hS
  unfold t_Style_steps
  tm_at "go"
  exact q _ _ _ h3 hI
/-- all hours and rests -/
def spanT (rs : List StepT) : Int := (rs.map fun r => r.2.1 + r.2.2).sum
def sp_Style_span (K : PySem.W.Frag) : Sp := fun vs H Q _ => vs.length = 1 ∧ ∃ (x : Addr) (nm : Str) (rs : List StepT) (B : Hp) (M L : List (Addr × HO)), vs = [.ref x] ∧ Is B M L H ∧ StyleAt K B x nm rs ∧ ∀ H', Is B M L H' → Q (.int (spanT rs)) H'
theorem ap_Style_span {K : PySem.W.Frag} {H : Hp} {Q : VK} {E : XK} {x : Addr} {nm : Str} {rs : List StepT} {B : Hp} {M L : List (Addr × HO)} (I : Is B M L H) (h : StyleAt K B x nm rs) (q : ∀ H', Is B M L H' → Q (.int (spanT rs)) H') : sp_Style_span K [.ref x] H Q E := ⟨rfl, x, nm, rs, B, M, L, rfl, I, h, q⟩
def t_Style_span (K : PySem.W.Frag) : TS := (tRet (tCB (rSum K) (tCons (tLc (iAny K (tFld K (tVar 0) "step_rows")) (gName 1) tYes (tOp (rAddA K) (tOp (rIx K) (tVar 1) (tC (.int 1))) (tOp (rIx K) (tVar 1) (tC (.int 2)))) [1]) tNil)))
theorem rd_Style_span {K : PySem.W.Frag} (C : StyleC K) (vs : List V) (H : Hp) (Q : VK) (E : XK) (h : sp_Style_span K vs H Q E) : t_Style_span K { nx := fun _ H' => Q .non H', rt := Q } (start ["self", "row"] vs) H := by
  obtain ⟨_, x, nm, rs, B, M, L, rfl, hI, hS, q⟩ := h
  show t_Style_span K ⟨_, _, _, _⟩ [some (.ref x), none] H
  obtain ⟨cl, n1, n2⟩ := C
  obtain ⟨⟨dx, cr, xs, h1, h2, h3⟩, hg⟩ := id hS
  have hl := h3.len
  have hl1 := hg.l1
  unfold t_Style_span
  tm_at "go"
  refine' g_lcX ((rs.map fun r => r.2.1 + r.2.2).map V.int) (by simp [hl]) walk_list hI (by tm_at "wiped") (by omega) (fun D acc H' I => SqL.of (I.b h2)) ?_ ?_
  · intro i x y D acc H' hx hy hI PY q
    obtain ⟨r, e, a, rfl, ha⟩ := h3.get hx
    tm_at "go"
    refine' g_wiped (by tm_at "wiped") ?_
    tm_at "go"
    refine g_ix_t (by tm_at "st") (atI_of (by decide) rfl) ?_
    tm_at "go"
    refine g_ix_t (by tm_at "st") (atI_of (by decide) rfl) ?_
    tm_at "go"
    have ey : y = .int (r.2.1 + r.2.2) := by
      rw [List.getElem?_map, List.getElem?_map, e] at hy
      exact (Option.some.inj hy).symm
    rw [ey] at q
    exact q _ hI
  · intro D H' hI
    tm_at "go"
    refine g_sum (by tm_at "sq") ?_
    exact q _ (hI.forget (by tm_at "sub"))
structure JobC (K : PySem.W.Frag) : Prop where
  cl : Cls K (He.ga K "Job")
  n1 : NoAttr K (He.ga K "Job") "has_number"
  n2 : NoAttr K (He.ga K "Job") "has_style"
  n3 : NoAttr K (He.ga K "Job") "came"
  n4 : NoAttr K (He.ga K "Job") "wanted"
  n5 : NoAttr K (He.ga K "Job") "hasty"
/-- a job, plain: number, style, brought, due, haste -/
structure JobT where
  n : Int
  nm : Str
  rs : List StepT
  c : Int
  w : Int
  q : Bool
structure GoodJ (j : JobT) : Prop where
  t : GoodT j.nm j.rs
  n0 : 1 ≤ j.n
  n1 : j.n ≤ 99999
  c0 : 0 ≤ j.c
  c1 : j.c ≤ 1000000
  w0 : j.c ≤ j.w
  w1 : j.w ≤ 1000000
structure JobAt (K : PySem.W.Frag) (B : Hp) (x : Addr) (j : JobT) : Prop where
  ex : ∃ (dx st : Addr), B x = some (.ins (He.ga K "Job") dx [("has_number", .int j.n), ("has_style", .ref st), ("came", .int j.c), ("wanted", .int j.w), ("hasty", .bl j.q)]) ∧ StyleAt K B st j.nm j.rs
  good : GoodJ j
theorem JobAt.same {K : PySem.W.Frag} {B B' : Hp} {x : Addr} {j : JobT} (h : JobAt K B x j) (e : Same B B') : JobAt K B' x j := by
  obtain ⟨⟨dx, st, h1, h2⟩, g⟩ := h
  exact ⟨⟨dx, st, e _ _ h1, h2.same e⟩, g⟩
def sp_Job_init (K : PySem.W.Frag) : Sp := fun vs H Q _ => vs.length = 6 ∧ ∃ (x dx st : Addr) (j : JobT) (B : Hp) (M L : List (Addr × HO)), vs = [.ref x, .int j.n, .ref st, .int j.c, .int j.w, .bl j.q] ∧ Is B M ((x, .ins (He.ga K "Job") dx []) :: (dx, .own x) :: L) H ∧ StyleAt K B st j.nm j.rs ∧ GoodJ j ∧
  ∀ (B' H' : Hp), Same B B' → Is B' M L H' → JobAt K B' x j → Q .non H'
theorem ap_Job_init {K : PySem.W.Frag} {H : Hp} {Q : VK} {E : XK} {x dx st : Addr} (j : JobT) {B : Hp} {M L : List (Addr × HO)} (I : Is B M ((x, .ins (He.ga K "Job") dx []) :: (dx, .own x) :: L) H) (h : StyleAt K B st j.nm j.rs) (hg : GoodJ j)
    (q : ∀ (B' H' : Hp), Same B B' → Is B' M L H' → JobAt K B' x j → Q .non H') : sp_Job_init K [.ref x, .int j.n, .ref st, .int j.c, .int j.w, .bl j.q] H Q E := ⟨rfl, x, dx, st, j, B, M, L, rfl, I, h, hg, q⟩
abbrev t_Job_init_0 (K : PySem.W.Frag) : TS := (sFld K (tVar 0) (tVar 5) "hasty")
abbrev t_Job_init_1 (K : PySem.W.Frag) : TS := (tSeq (sFld K (tVar 0) (tVar 6) "wanted") (t_Job_init_0 K))
abbrev t_Job_init_2 (K : PySem.W.Frag) : TS := (tSeq (sFld K (tVar 0) (tVar 3) "came") (t_Job_init_1 K))
abbrev t_Job_init_3 (K : PySem.W.Frag) : TS := (tSeq (sFld K (tVar 0) (tVar 2) "has_style") (t_Job_init_2 K))
abbrev t_Job_init_4 (K : PySem.W.Frag) : TS := (tSeq (sFld K (tVar 0) (tVar 1) "has_number") (t_Job_init_3 K))
abbrev t_Job_init_5 (K : PySem.W.Frag) : TS := (tSeq (tIfS (tNot (tTr K (tCB (rIsi K) (tCons (tVar 5) (tCons (tC (.ty "bool")) tNil))))) tNoS tNext) (t_Job_init_4 K))
abbrev t_Job_init_6 (K : PySem.W.Frag) : TS := (tSeq (tIfS (tNot (tTr K (tCl 2 1 (sp_is_whole K) (fun vs zs => pick .non [0, 1, 2] (vs ++ (zs ++ [.int 1000000]))) E0 (tCons (tVar 6) (tCons (tVar 3) tNil)) (tCons (tC (.int 1000000)) tNil)))) tNoS tNext) (t_Job_init_5 K))
abbrev t_Job_init_7 (K : PySem.W.Frag) : TS := (tSeq (tAsg (tIf (tTest (tOp rIsNo (tVar 4) (tC .non))) (tOp (rAddA K) (tVar 3) (tMe (He.ga K "Style") "span" 0 0 (sp_Style_span K) (fun vs zs => pick .non [0] (vs ++ zs)) E0 (tVar 2) tNil tNil)) (tVar 4)) (gName 6)) (t_Job_init_6 K))
abbrev t_Job_init_8 (K : PySem.W.Frag) : TS := (tSeq (tIfS (tNot (tTr K (tCl 2 1 (sp_is_whole K) (fun vs zs => pick .non [0, 1, 2] (vs ++ (zs ++ [.int 1000000]))) E0 (tCons (tVar 3) (tCons (tC (.int 0)) tNil)) (tCons (tC (.int 1000000)) tNil)))) tNoS tNext) (t_Job_init_7 K))
abbrev t_Job_init_9 (K : PySem.W.Frag) : TS := (tSeq (tIfS (tNot (tTr K (tCB (rIsi K) (tCons (tVar 2) (tCons (tC (.ref (He.ga K "Style"))) tNil))))) tNoS tNext) (t_Job_init_8 K))
def t_Job_init (K : PySem.W.Frag) : TS := (tSeq (tIfS (tNot (tTr K (tCl 2 1 (sp_is_whole K) (fun vs zs => pick .non [0, 1, 2] (vs ++ (zs ++ [.int 1000000]))) E0 (tCons (tVar 1) (tCons (tC (.int 1)) tNil)) (tCons (tC (.int 99999)) tNil)))) tNoS tNext) (t_Job_init_9 K))
theorem rd_Job_init {K : PySem.W.Frag} (C : JobC K) (C2 : StyleC K) (D : OwnD K (He.ga K "Style")) (vs : List V) (H : Hp) (Q : VK) (E : XK) (h : sp_Job_init K vs H Q E) : t_Job_init K { nx := fun _ H' => Q .non H', rt := Q } (start ["self", "number", "style", "brought", "due", "haste", "wanted"] vs) H := by
  obtain ⟨_, x, dx, st, ⟨n, nm, rs, c, w, qk⟩, B, M, L, rfl, hI, hS, hg, q⟩ := h
  show t_Job_init K ⟨_, _, _, _⟩ [some (.ref x), some (.int n), some (.ref st), some (.int c), some (.int w), some (.bl qk), none] H
  obtain ⟨cl, n1, n2, n3, n4, n5⟩ := C
  obtain ⟨⟨ds, cr, xs, h1, h2, h3⟩, _⟩ := id hS
  obtain ⟨_, g1, g2, g3, g4, g5, g6⟩ := id hg
  unfold t_Job_init
  tm_at "go"
  refine' ap_is_whole_t (K := K) g1 g2 ?_
  tm_at "go"
  refine' g_isiO D C2.cl (hI.b h1) ?_
  tm_at "go"
  refine' ap_is_whole_t (K := K) g3 g4 ?_
  tm_at "go"
  refine g_dec (fun h => by cases h) (fun _ => ?_)
  tm_at "go"
  refine' ap_is_whole_t (K := K) g5 g6 ?_
  have hb : Thing K H (.bl qk) .bl := thing_bl qk
  tm_at "go"
  refine' hI.give (a := x) (by tm_at "del") ?_
  clear hI
  intro B1 s1 k1 hI
  exact q B1 _ s1 (hI.forget (by tm_at "sub")) ⟨⟨dx, st, k1, hS.same s1⟩, hg⟩
def sp_Job_rank (K : PySem.W.Frag) : Sp := fun vs H Q _ => vs.length = 1 ∧ ∃ (x : Addr) (j : JobT) (B : Hp) (M L : List (Addr × HO)), vs = [.ref x] ∧ Is B M L H ∧ JobAt K B x j ∧ ∀ p H', Is B M ((p, .tup [.int (if j.q = true then 0 else 1), .int j.w, .int j.c, .int j.n]) :: L) H' → Q (.ref p) H'
theorem ap_Job_rank {K : PySem.W.Frag} {H : Hp} {Q : VK} {E : XK} {x : Addr} {j : JobT} {B : Hp} {M L : List (Addr × HO)} (I : Is B M L H) (h : JobAt K B x j) (q : ∀ p H', Is B M ((p, .tup [.int (if j.q = true then 0 else 1), .int j.w, .int j.c, .int j.n]) :: L) H' → Q (.ref p) H') : sp_Job_rank K [.ref x] H Q E := ⟨rfl, x, j, B, M, L, rfl, I, h, q⟩
def t_Job_rank (K : PySem.W.Frag) : TS := (tRet (tTup (tCons (tIf (tTr K (tFld K (tVar 0) "hasty")) (tC (.int 0)) (tC (.int 1))) (tCons (tFld K (tVar 0) "wanted") (tCons (tFld K (tVar 0) "came") (tCons (tFld K (tVar 0) "has_number") tNil))))))
theorem rd_Job_rank {K : PySem.W.Frag} (C : JobC K) (vs : List V) (H : Hp) (Q : VK) (E : XK) (h : sp_Job_rank K vs H Q E) : t_Job_rank K { nx := fun _ H' => Q .non H', rt := Q } (start ["self"] vs) H := by
  obtain ⟨_, x, ⟨n, nm, rs, c, w, qk⟩, B, M, L, rfl, hI, hJ, q⟩ := h
  show t_Job_rank K ⟨_, _, _, _⟩ [some (.ref x)] H
  obtain ⟨cl, n1, n2, n3, n4, n5⟩ := C
  obtain ⟨⟨dx, st, h1, h2⟩, hg⟩ := id hJ
  unfold t_Job_rank
  tm_at "go"
  refine g_b (fun hq => ?_) (fun hq => ?_)
  · subst hq
    tm_at "go"
    exact q _ _ hI
  · subst hq
    tm_at "go"
    exact q _ _ hI
def sp_Job_in_haste (K : PySem.W.Frag) : Sp := fun vs H Q _ => vs.length = 1 ∧ ∃ (x : Addr) (j : JobT) (B : Hp) (M L : List (Addr × HO)), vs = [.ref x] ∧ Is B M L H ∧ JobAt K B x j ∧ Q (.bl j.q) H
theorem ap_Job_in_haste {K : PySem.W.Frag} {H : Hp} {Q : VK} {E : XK} {x : Addr} {j : JobT} {B : Hp} {M L : List (Addr × HO)} (I : Is B M L H) (h : JobAt K B x j) (q : Q (.bl j.q) H) : sp_Job_in_haste K [.ref x] H Q E := ⟨rfl, x, j, B, M, L, rfl, I, h, q⟩
def t_Job_in_haste (K : PySem.W.Frag) : TS := (tRet (tFld K (tVar 0) "hasty"))
theorem rd_Job_in_haste {K : PySem.W.Frag} (C : JobC K) (vs : List V) (H : Hp) (Q : VK) (E : XK) (h : sp_Job_in_haste K vs H Q E) : t_Job_in_haste K { nx := fun _ H' => Q .non H', rt := Q } (start ["self"] vs) H := by
  obtain ⟨_, x, j, B, M, L, rfl, hI, hX, q⟩ := h
  show t_Job_in_haste K ⟨_, _, _, _⟩ [some (.ref x)] H
  obtain ⟨cl, n1, n2, n3, n4, n5⟩ := C
  obtain ⟨⟨dx, st, h1, h2⟩, hg⟩ := id hX
  unfold t_Job_in_haste
  tm_at "go"
  exact q
theorem log2_smallI {n : Int} (h0 : -(2 ^ 200) < n) (h : n < 2 ^ 200) : n.natAbs.log2 < 1920 := by
  rcases Nat.eq_zero_or_pos n.natAbs with e | e
  · rw [e]
    decide
  · have : n.natAbs < 2 ^ 200 := by omega
    have := (Nat.log2_lt (by omega)).mpr this
    omega
theorem shn_int {n : Int} {k : Nat} (h0 : -(2 ^ 200) < n) (h : n < 2 ^ 200) : Shn (.int n) 2000 k := .int (log2_smallI h0 h)
/-! data of steps -/
def stepD (r : StepT) : PyData := .tuple [.str r.1, .int r.2.1, .int r.2.2]
theorem dp_steps {K : PySem.W.Frag} {B H : Hp} (e : Same B H) : ∀ {xs : List V} {rs : List StepT}, StepsB B xs rs → DpAll K H xs (rs.map stepD)
  | _, _, .nil => .nil
  | _, _, .cons ⟨a, rfl, h⟩ t => .cons (.tup (SqT.of (e _ _ h)) (.cons (.str _) (.cons (.int _) (.cons (.int _) .nil)))) (dp_steps e t)
theorem shn_steps : ∀ (rs : List StepT), (∀ r ∈ rs, StepG r) → ∃ n, n ≤ 5000 * rs.length ∧ ShnAll (rs.map stepD) n 2
  | [], _ => ⟨0, by simp, .nil⟩
  | r :: rs, h => by
    obtain ⟨n, hn1, hn⟩ := shn_steps rs fun x hx => h x (List.mem_cons_of_mem _ hx)
    obtain ⟨h0, h1, h2, h3, h4⟩ := h r List.mem_cons_self
    have hs := work_sh h0
    refine ⟨_, ?_, .cons (.tup (.cons (.str hs.2) (.cons (shn_int (by omega) (by omega)) (.cons (shn_int (by omega) (by omega)) .nil)))) hn⟩
    have := hs.1
    rw [List.length_cons]
    omega
theorem eqv_step (r s : StepT) : PyData.eqv (stepD r) (stepD s) = decide (r = s) := by
  obtain ⟨a, b, c⟩ := r
  obtain ⟨a', b', c'⟩ := s
  by_cases h1 : a = a' <;> by_cases h2 : b = b' <;> by_cases h3 : c = c' <;> simp [stepD, PyData.eqv, PyData.eqvAll, h1, h2, h3]
theorem eqv_rowsA : ∀ rs ss : List StepT, PyData.eqvAll (rs.map stepD) (ss.map stepD) = decide (rs = ss)
  | [], [] => by simp [PyData.eqvAll]
  | [], s :: ss => by simp [PyData.eqvAll]
  | r :: rs, [] => by simp [PyData.eqvAll]
  | r :: rs, s :: ss => by
    have ih := eqv_rowsA rs ss
    have h := eqv_step r s
    rw [List.map_cons, List.map_cons]
    have e : PyData.eqvAll (stepD r :: rs.map stepD) (stepD s :: ss.map stepD) = (PyData.eqv (stepD r) (stepD s) && PyData.eqvAll (rs.map stepD) (ss.map stepD)) := by simp only [PyData.eqvAll]
    rw [e, h, ih]
    by_cases h1 : r = s <;> by_cases h2 : rs = ss <;> simp [h1, h2]
theorem eqv_rows (rs ss : List StepT) : PyData.eqv (.list (rs.map stepD)) (.list (ss.map stepD)) = decide (rs = ss) := by
  have := eqv_rowsA rs ss
  simp [PyData.eqv, this]
theorem shaped_rows {rs : List StepT} (g : ∀ r ∈ rs, StepG r) : SeqAt.shaped (.list (rs.map stepD)) = true := by
  obtain ⟨nn, hnn, hsh⟩ := shn_steps rs g
  exact Shn.shaped (.lst hsh) (by decide)
theorem g_eq_rows {K : PySem.W.Frag} {B H : Hp} {Q : VK} {a b : Addr} {xs ys : List V} {rs ss : List StepT} (e : Same B H) (h1 : SqL K H a xs) (h2 : SqL K H b ys) (r1 : StepsB B xs rs) (r2 : StepsB B ys ss) (g1 : ∀ r ∈ rs, StepG r) (g2 : ∀ r ∈ ss, StepG r) (q : Q (.bl (decide (rs = ss))) H) : rEqA K (.ref a) (.ref b) H Q := by
  refine g_eq_d (.lst h1 (dp_steps e r1)) (.lst h2 (dp_steps e r2)) (shaped_rows g1) (shaped_rows g2) ?_
  rw [eqv_rows]
  exact q
theorem g_ne_rows {K : PySem.W.Frag} {B H : Hp} {Q : VK} {a b : Addr} {xs ys : List V} {rs ss : List StepT} (e : Same B H) (h1 : SqL K H a xs) (h2 : SqL K H b ys) (r1 : StepsB B xs rs) (r2 : StepsB B ys ss) (g1 : ∀ r ∈ rs, StepG r) (g2 : ∀ r ∈ ss, StepG r) (q : Q (.bl (!decide (rs = ss))) H) : rNeA K (.ref a) (.ref b) H Q := by
  refine g_ne_d (.lst h1 (dp_steps e r1)) (.lst h2 (dp_steps e r2)) (shaped_rows g1) (shaped_rows g2) ?_
  rw [eqv_rows]
  exact q
def sp_Style_eq (K : PySem.W.Frag) : Sp := fun vs H Q _ => vs.length = 2 ∧ ∃ (x z : Addr) (nm nm2 : Str) (rs rs2 : List StepT) (B : Hp) (M L : List (Addr × HO)), vs = [.ref x, .ref z] ∧ Is B M L H ∧ StyleAt K B x nm rs ∧ StyleAt K B z nm2 rs2 ∧ ∀ H', Is B M L H' → Q (.bl (decide (nm = nm2 ∧ rs = rs2))) H'
theorem ap_Style_eq {K : PySem.W.Frag} {H : Hp} {Q : VK} {E : XK} {x z : Addr} {nm nm2 : Str} {rs rs2 : List StepT} {B : Hp} {M L : List (Addr × HO)} (I : Is B M L H) (h : StyleAt K B x nm rs) (h' : StyleAt K B z nm2 rs2) (q : ∀ H', Is B M L H' → Q (.bl (decide (nm = nm2 ∧ rs = rs2))) H') : sp_Style_eq K [.ref x, .ref z] H Q E := ⟨rfl, x, z, nm, nm2, rs, rs2, B, M, L, rfl, I, h, h', q⟩
def t_Style_eq (K : PySem.W.Frag) : TS := (tRet (tAndV (tCB (rIsi K) (tCons (tVar 1) (tCons (tC (.ref (He.ga K "Style"))) tNil))) (tAndV (tOp (rEqA K) (tFld K (tVar 0) "called") (tFld K (tVar 1) "called")) (tOp (rEqA K) (tFld K (tVar 0) "step_rows") (tFld K (tVar 1) "step_rows")))))
theorem rd_Style_eq {K : PySem.W.Frag} (C : StyleC K) (D : OwnD K (He.ga K "Style")) (vs : List V) (H : Hp) (Q : VK) (E : XK) (h : sp_Style_eq K vs H Q E) : t_Style_eq K { nx := fun _ H' => Q .non H', rt := Q } (start ["self", "other"] vs) H := by
  obtain ⟨_, x, z, nm, nm2, rs, rs2, B, M, L, rfl, hI, hS, hZ, q⟩ := h
  show t_Style_eq K ⟨_, _, _, _⟩ [some (.ref x), some (.ref z)] H
  obtain ⟨cl, n1, n2⟩ := C
  obtain ⟨⟨dx, cr, xs, h1, h2, h3⟩, hg⟩ := id hS
  obtain ⟨⟨dz, cz, zs, k1, k2, k3⟩, kg⟩ := id hZ
  unfold t_Style_eq
  tm_at "go"
  refine' g_isiO D cl (hI.b k1) ?_
  tm_at "go"
  refine g_dec (fun hn => ?_) (fun hn => ?_)
  · tm_at "go"
    refine g_eq_rows hI.ex (SqL.of (hI.b h2)) (SqL.of (hI.b k2)) h3 k3 hg.row kg.row ?_
    have := q _ hI
    rw [show decide (nm = nm2 ∧ rs = rs2) = decide (rs = rs2) from by rw [V.str.inj hn]; simp] at this
    exact this
  · have := q _ hI
    rw [show decide (nm = nm2 ∧ rs = rs2) = false from decide_eq_false fun h => hn (by rw [h.1])] at this
    tm_at "go"
    exact this
section
variable {K : PySem.W.Frag} {H : Hp} {Q : VK} {E : XK} {x z : Addr} {nm nm2 : Str} {rs rs2 : List StepT} {B : Hp} {M L : List (Addr × HO)}
theorem g_styleEq (D : OwnD K (He.ga K "Style")) (C : StyleC K) (I : Is B M L H) (h : StyleAt K B x nm rs) (h' : StyleAt K B z nm2 rs2) (q : ∀ H', Is B M L H' → Q (.bl (decide (nm = nm2 ∧ rs = rs2))) H') : rOwnEq K (He.ga K "Style") (sp_Style_eq K) (fun vs zs => pick .non [0, 1] (vs ++ zs)) E (.ref x) (.ref z) H Q := by
  obtain ⟨⟨dx, cr, xs, h1, _, _⟩, _⟩ := id h
  obtain ⟨⟨dz, cz, zs, k1, _, _⟩, _⟩ := id h'
  exact g_ownEqI D C.cl (I.b h1) (I.b k1) (ap_Style_eq I h h' q)
theorem g_styleNe (D : OwnD K (He.ga K "Style")) (C : StyleC K) (I : Is B M L H) (h : StyleAt K B x nm rs) (h' : StyleAt K B z nm2 rs2) (q : ∀ H', Is B M L H' → Q (.bl (!decide (nm = nm2 ∧ rs = rs2))) H') : rOwnNe K (He.ga K "Style") (sp_Style_eq K) (fun vs zs => pick .non [0, 1] (vs ++ zs)) E (.ref x) (.ref z) H Q := by
  obtain ⟨⟨dx, cr, xs, h1, _, _⟩, _⟩ := id h
  obtain ⟨⟨dz, cz, zs, k1, _, _⟩, _⟩ := id h'
  exact g_ownNeI D C.cl (I.b h1) (I.b k1) (ap_Style_eq I h h' fun H' I' => g_aNeg (q _ I'))
end
def rkJ (j : JobT) : List Int := [if j.q = true then 0 else 1, j.w, j.c, j.n]
abbrev rankD (j : JobT) : PyData := .tuple ((rkJ j).map .int)
theorem jobs_alike (bs : List JobT) : PySem.W.AllAlike (bs.map rankD) := PySem.W.AllAlike.of fun a b => by
  show PySem.W.alikeAll ((rkJ a).map .int) ((rkJ b).map .int) = true
  exact PySem.W.alike_ints _ _
theorem jobs_sortable (bs : List JobT) : PySem.W.Sortable (bs.map rankD) := PySem.W.Sortable.tuples fun b => ⟨_, _, rfl⟩
theorem jobs_depth (bs : List JobT) : ∀ d ∈ bs.map rankD, d.depth ≤ 5 := fun d hd => by
  obtain ⟨b, _, rfl⟩ := List.mem_map.mp hd
  show PyData.depthAll ((rkJ b).map .int) + 1 ≤ 5
  rw [PySem.W.depth_ints]
  decide
theorem rank_key {H : Hp} {p : Addr} {j : JobT} (h : H p = some (.tup [.int (if j.q = true then 0 else 1), .int j.w, .int j.c, .int j.n])) : KeyV H (.ref p) (rankD j) :=
  .tup h (.cons (.int _) (.cons (.int _) (.cons (.int _) (.cons (.int _) .nil))))
def sp_Job_numbered (K : PySem.W.Frag) : Sp := fun vs H Q _ => vs.length = 1 ∧ ∃ (x : Addr) (j : JobT) (B : Hp) (M L : List (Addr × HO)), vs = [.ref x] ∧ Is B M L H ∧ JobAt K B x j ∧ Q (.int j.n) H
theorem ap_Job_numbered {K : PySem.W.Frag} {H : Hp} {Q : VK} {E : XK} {x : Addr} {j : JobT} {B : Hp} {M L : List (Addr × HO)} (I : Is B M L H) (h : JobAt K B x j) (q : Q (.int j.n) H) : sp_Job_numbered K [.ref x] H Q E := ⟨rfl, x, j, B, M, L, rfl, I, h, q⟩
def t_Job_numbered (K : PySem.W.Frag) : TS := (tRet (tFld K (tVar 0) "has_number"))
theorem rd_Job_numbered {K : PySem.W.Frag} (C : JobC K) (vs : List V) (H : Hp) (Q : VK) (E : XK) (h : sp_Job_numbered K vs H Q E) : t_Job_numbered K { nx := fun _ H' => Q .non H', rt := Q } (start ["self"] vs) H := by
  obtain ⟨_, x, j, B, M, L, rfl, hI, hX, q⟩ := h
  show t_Job_numbered K ⟨_, _, _, _⟩ [some (.ref x)] H
  obtain ⟨cl, n1, n2, n3, n4, n5⟩ := C
  obtain ⟨⟨dx, st, h1, h2⟩, hg⟩ := id hX
  unfold t_Job_numbered
  tm_at "go"
  exact q
/-! a job hastened, == of jobs -/
instance : DecidableEq JobT := fun a b => decidable_of_iff (a.n = b.n ∧ a.nm = b.nm ∧ a.rs = b.rs ∧ a.c = b.c ∧ a.w = b.w ∧ a.q = b.q) (by
  cases a
  cases b
  simp)
def sp_Job_eq (K : PySem.W.Frag) : Sp := fun vs H Q _ => vs.length = 2 ∧ ∃ (x z : Addr) (j j2 : JobT) (B : Hp) (M L : List (Addr × HO)), vs = [.ref x, .ref z] ∧ Is B M L H ∧ JobAt K B x j ∧ JobAt K B z j2 ∧ ∀ H', Is B M L H' → Q (.bl (decide (j = j2))) H'
theorem ap_Job_eq {K : PySem.W.Frag} {H : Hp} {Q : VK} {E : XK} {x z : Addr} {j j2 : JobT} {B : Hp} {M L : List (Addr × HO)} (I : Is B M L H) (h : JobAt K B x j) (h' : JobAt K B z j2) (q : ∀ H', Is B M L H' → Q (.bl (decide (j = j2))) H') : sp_Job_eq K [.ref x, .ref z] H Q E := ⟨rfl, x, z, j, j2, B, M, L, rfl, I, h, h', q⟩
theorem eqv_int4 (a b c d a' b' c' d' : Int) : PyData.eqv (.tuple [.int a, .int b, .int c, .int d]) (.tuple [.int a', .int b', .int c', .int d']) = decide (a = a' ∧ b = b' ∧ c = c' ∧ d = d') := by
  simp only [PyData.eqv, PyData.eqvAll, Bool.and_true, Bool.decide_and]
  rfl
theorem rank_eq {q q' : Bool} : ((if q = true then (0 : Int) else 1) = if q' = true then 0 else 1) ↔ q = q' := by
  cases q <;> cases q' <;> simp
def t_Job_eq (K : PySem.W.Frag) : TS := (tRet (tAndV (tCB (rIsi K) (tCons (tVar 1) (tCons (tC (.ref (He.ga K "Job"))) tNil))) (tAndV (tOp (rEqA K) (tMe (He.ga K "Job") "rank" 0 0 (sp_Job_rank K) (fun vs zs => pick .non [0] (vs ++ zs)) E0 (tVar 0) tNil tNil) (tMe (He.ga K "Job") "rank" 0 0 (sp_Job_rank K) (fun vs zs => pick .non [0] (vs ++ zs)) E0 (tVar 1) tNil tNil)) (tOp (rOwnEq K (He.ga K "Style") (sp_Style_eq K) (fun vs zs => pick .non [0, 1] (vs ++ zs)) E0) (tFld K (tVar 0) "has_style") (tFld K (tVar 1) "has_style")))))
theorem rd_Job_eq {K : PySem.W.Frag} (C : JobC K) (C2 : StyleC K) (D : OwnD K (He.ga K "Job")) (D2 : OwnD K (He.ga K "Style")) (vs : List V) (H : Hp) (Q : VK) (E : XK) (h : sp_Job_eq K vs H Q E) : t_Job_eq K { nx := fun _ H' => Q .non H', rt := Q } (start ["self", "other"] vs) H := by
  obtain ⟨_, x, z, j, j2, B, M, L, rfl, hI, hX, hZ, q⟩ := h
  show t_Job_eq K ⟨_, _, _, _⟩ [some (.ref x), some (.ref z)] H
  obtain ⟨cl, n1, n2, n3, n4, n5⟩ := C
  obtain ⟨⟨dx, st, h1, h2⟩, hg⟩ := id hX
  obtain ⟨⟨dz, sz, k1, k2⟩, kg⟩ := id hZ
  obtain ⟨_, g1, g2, g3, g4, g5, g6⟩ := id hg
  obtain ⟨_, l1, l2, l3, l4, l5, l6⟩ := id kg
  have hsh : Shn (.tuple [.int (if j.q = true then 0 else 1), .int j.w, .int j.c, .int j.n]) _ 1 := .tup (.cons (shn_int (by split <;> omega) (by split <;> omega)) (.cons (shn_int (by omega) (by omega)) (.cons (shn_int (by omega) (by omega)) (.cons (shn_int (by omega) (by omega)) .nil))))
  have hsh2 : Shn (.tuple [.int (if j2.q = true then 0 else 1), .int j2.w, .int j2.c, .int j2.n]) _ 1 := .tup (.cons (shn_int (by split <;> omega) (by split <;> omega)) (.cons (shn_int (by omega) (by omega)) (.cons (shn_int (by omega) (by omega)) (.cons (shn_int (by omega) (by omega)) .nil))))
  unfold t_Job_eq
  tm_at "go"
  refine' g_isiO D cl (hI.b k1) ?_
  tm_at "go"
  refine' ap_Job_rank (K := K) hI hX ?_
  clear hI
  intro p1 H hI
  tm_at "go"
  refine' ap_Job_rank (K := K) hI hZ ?_
  clear hI
  intro p2 H hI
  refine g_eq_d (.tup (by tm_at "st") (.cons (.int _) (.cons (.int _) (.cons (.int _) (.cons (.int _) .nil))))) (.tup (by tm_at "st") (.cons (.int _) (.cons (.int _) (.cons (.int _) (.cons (.int _) .nil))))) (Shn.shaped hsh (by decide)) (Shn.shaped hsh2 (by decide)) ?_
  rw [eqv_int4]
  by_cases hr : (if j.q = true then (0 : Int) else 1) = (if j2.q = true then 0 else 1) ∧ j.w = j2.w ∧ j.c = j2.c ∧ j.n = j2.n
  · rw [decide_eq_true hr]
    tm_at "go"
    refine' g_styleEq D2 C2 hI h2 k2 ?_
    clear hI
    intro H hI
    have := q _ (hI.forget (by tm_at "sub"))
    obtain ⟨r1, r2, r3, r4⟩ := hr
    rw [show decide (j = j2) = decide (j.nm = j2.nm ∧ j.rs = j2.rs) from by
      apply decide_eq_decide.mpr
      refine ⟨fun e => by subst e; exact ⟨rfl, rfl⟩, fun ⟨e1, e2⟩ => ?_⟩
      cases j
      cases j2
      cases e1
      cases e2
      cases r2
      cases r3
      cases r4
      cases rank_eq.mp r1
      rfl] at this
    exact this
  · rw [decide_eq_false hr]
    tm_at "go"
    have := q _ (hI.forget (by tm_at "sub"))
    rw [decide_eq_false fun e => hr (by subst e; exact ⟨rfl, rfl, rfl, rfl⟩)] at this
    exact this
theorem g_jobEq {K : PySem.W.Frag} {H : Hp} {Q : VK} {E : XK} {x z : Addr} {j j2 : JobT} {B : Hp} {M L : List (Addr × HO)} (D : OwnD K (He.ga K "Job")) (C : JobC K) (I : Is B M L H) (h : JobAt K B x j) (h' : JobAt K B z j2) (q : ∀ H', Is B M L H' → Q (.bl (decide (j = j2))) H') : rOwnEq K (He.ga K "Job") (sp_Job_eq K) (fun vs zs => pick .non [0, 1] (vs ++ zs)) E (.ref x) (.ref z) H Q := by
  obtain ⟨⟨dx, st, h1, _⟩, _⟩ := id h
  obtain ⟨⟨dz, sz, k1, _⟩, _⟩ := id h'
  exact g_ownEqI D C.cl (I.b h1) (I.b k1) (ap_Job_eq I h h' q)
theorem g_jobNe {K : PySem.W.Frag} {H : Hp} {Q : VK} {E : XK} {x z : Addr} {j j2 : JobT} {B : Hp} {M L : List (Addr × HO)} (D : OwnD K (He.ga K "Job")) (C : JobC K) (I : Is B M L H) (h : JobAt K B x j) (h' : JobAt K B z j2) (q : ∀ H', Is B M L H' → Q (.bl (!decide (j = j2))) H') : rOwnNe K (He.ga K "Job") (sp_Job_eq K) (fun vs zs => pick .non [0, 1] (vs ++ zs)) E (.ref x) (.ref z) H Q := by
  obtain ⟨⟨dx, st, h1, _⟩, _⟩ := id h
  obtain ⟨⟨dz, sz, k1, _⟩, _⟩ := id h'
  exact g_ownNeI D C.cl (I.b h1) (I.b k1) (ap_Job_eq I h h' fun H' I' => g_aNeg (q _ I'))
/-! ### jobs by their rank -/
theorem rank_le : PySem.W.dataLe false rankD = fun p q => decide (rkJ p ≤ rkJ q) := by
  funext p q
  show (!PySem.W.rowLt ((rkJ q).map .int) ((rkJ p).map .int)) = _
  rw [PySem.W.dataLt_ints]
  by_cases h : rkJ q < rkJ p
  · rw [decide_eq_true h, decide_eq_false (fun z => List.not_le.mpr h z)]
    rfl
  · rw [decide_eq_false h, decide_eq_true (List.not_lt.mp h)]
    rfl
def ordJ (js : List JobT) : List JobT := js.mergeSort (PySem.W.dataLe false rankD)
theorem ordJ_perm (js : List JobT) : (ordJ js).Perm js := List.mergeSort_perm _ _
def sp_Job_brought_at (K : PySem.W.Frag) : Sp := fun vs H Q _ => vs.length = 1 ∧ ∃ (x : Addr) (j : JobT) (B : Hp) (M L : List (Addr × HO)), vs = [.ref x] ∧ Is B M L H ∧ JobAt K B x j ∧ Q (.int j.c) H
theorem ap_Job_brought_at {K : PySem.W.Frag} {H : Hp} {Q : VK} {E : XK} {x : Addr} {j : JobT} {B : Hp} {M L : List (Addr × HO)} (I : Is B M L H) (h : JobAt K B x j) (q : Q (.int j.c) H) : sp_Job_brought_at K [.ref x] H Q E := ⟨rfl, x, j, B, M, L, rfl, I, h, q⟩
def t_Job_brought_at (K : PySem.W.Frag) : TS := (tRet (tFld K (tVar 0) "came"))
theorem rd_Job_brought_at {K : PySem.W.Frag} (C : JobC K) (vs : List V) (H : Hp) (Q : VK) (E : XK) (h : sp_Job_brought_at K vs H Q E) : t_Job_brought_at K { nx := fun _ H' => Q .non H', rt := Q } (start ["self"] vs) H := by
  obtain ⟨_, x, j, B, M, L, rfl, hI, hX, q⟩ := h
  show t_Job_brought_at K ⟨_, _, _, _⟩ [some (.ref x)] H
  obtain ⟨cl, n1, n2, n3, n4, n5⟩ := C
  obtain ⟨⟨dx, st, h1, h2⟩, hg⟩ := id hX
  unfold t_Job_brought_at
  tm_at "go"
  exact q
def sp_Job_due_at (K : PySem.W.Frag) : Sp := fun vs H Q _ => vs.length = 1 ∧ ∃ (x : Addr) (j : JobT) (B : Hp) (M L : List (Addr × HO)), vs = [.ref x] ∧ Is B M L H ∧ JobAt K B x j ∧ Q (.int j.w) H
theorem ap_Job_due_at {K : PySem.W.Frag} {H : Hp} {Q : VK} {E : XK} {x : Addr} {j : JobT} {B : Hp} {M L : List (Addr × HO)} (I : Is B M L H) (h : JobAt K B x j) (q : Q (.int j.w) H) : sp_Job_due_at K [.ref x] H Q E := ⟨rfl, x, j, B, M, L, rfl, I, h, q⟩
def t_Job_due_at (K : PySem.W.Frag) : TS := (tRet (tFld K (tVar 0) "wanted"))
theorem rd_Job_due_at {K : PySem.W.Frag} (C : JobC K) (vs : List V) (H : Hp) (Q : VK) (E : XK) (h : sp_Job_due_at K vs H Q E) : t_Job_due_at K { nx := fun _ H' => Q .non H', rt := Q } (start ["self"] vs) H := by
  obtain ⟨_, x, j, B, M, L, rfl, hI, hX, q⟩ := h
  show t_Job_due_at K ⟨_, _, _, _⟩ [some (.ref x)] H
  obtain ⟨cl, n1, n2, n3, n4, n5⟩ := C
  obtain ⟨⟨dx, st, h1, h2⟩, hg⟩ := id hX
  unfold t_Job_due_at
  tm_at "go"
  exact q
def sp_Job_of_style (K : PySem.W.Frag) : Sp := fun vs H Q _ => vs.length = 1 ∧ ∃ (x : Addr) (j : JobT) (B : Hp) (M L : List (Addr × HO)), vs = [.ref x] ∧ Is B M L H ∧ JobAt K B x j ∧ ∀ st, StyleAt K B st j.nm j.rs → Q (.ref st) H
theorem ap_Job_of_style {K : PySem.W.Frag} {H : Hp} {Q : VK} {E : XK} {x : Addr} {j : JobT} {B : Hp} {M L : List (Addr × HO)} (I : Is B M L H) (h : JobAt K B x j) (q : ∀ st, StyleAt K B st j.nm j.rs → Q (.ref st) H) : sp_Job_of_style K [.ref x] H Q E := ⟨rfl, x, j, B, M, L, rfl, I, h, q⟩
def t_Job_of_style (K : PySem.W.Frag) : TS := (tRet (tFld K (tVar 0) "has_style"))
theorem rd_Job_of_style {K : PySem.W.Frag} (C : JobC K) (vs : List V) (H : Hp) (Q : VK) (E : XK) (h : sp_Job_of_style K vs H Q E) : t_Job_of_style K { nx := fun _ H' => Q .non H', rt := Q } (start ["self"] vs) H := by
  obtain ⟨_, x, j, B, M, L, rfl, hI, hX, q⟩ := h
  show t_Job_of_style K ⟨_, _, _, _⟩ [some (.ref x)] H
  obtain ⟨cl, n1, n2, n3, n4, n5⟩ := C
  obtain ⟨⟨dx, st, h1, h2⟩, hg⟩ := id hX
  unfold t_Job_of_style
  tm_at "go"
  exact q _ h2
def sp_rank_of (K : PySem.W.Frag) : Sp := fun vs H Q _ => vs.length = 1 ∧ ∃ (x : Addr) (j : JobT) (B : Hp) (M L : List (Addr × HO)), vs = [.ref x] ∧ Is B M L H ∧ JobAt K B x j ∧ ∀ p H', Is B M ((p, .tup [.int (if j.q = true then 0 else 1), .int j.w, .int j.c, .int j.n]) :: L) H' → Q (.ref p) H'
def t_rank_of (K : PySem.W.Frag) : TS := (tRet (tMe (He.ga K "Job") "rank" 0 0 (sp_Job_rank K) (fun vs zs => pick .non [0] (vs ++ zs)) E0 (tVar 0) tNil tNil))
theorem rd_rank_of {K : PySem.W.Frag} (vs : List V) (H : Hp) (Q : VK) (E : XK) (h : sp_rank_of K vs H Q E) : t_rank_of K { nx := fun _ H' => Q .non H', rt := Q } (start ["job"] vs) H := by
  obtain ⟨_, x, j, B, M, L, rfl, hI, hX, q⟩ := h
  show t_rank_of K ⟨_, _, _, _⟩ [some (.ref x)] H
  obtain ⟨⟨dx, st, h1, h2⟩, hg⟩ := id hX
  unfold t_rank_of
  tm_at "go"
  exact ap_Job_rank (K := K) hI hX q
abbrev JobsA (K : PySem.W.Frag) (B : Hp) (xs : List V) (js : List JobT) : Prop := All2 (fun v j => ∃ a, v = .ref a ∧ JobAt K B a j) xs js
theorem JobsA.same {K : PySem.W.Frag} {B B' : Hp} {xs : List V} {js : List JobT} (h : JobsA K B xs js) (e : Same B B') : JobsA K B' xs js := All2.mono (fun _ _ ⟨a, e1, h1⟩ => ⟨a, e1, h1.same e⟩) h
def sp_by_rank (K : PySem.W.Frag) : Sp := fun vs H Q _ => vs.length = 1 ∧ ∃ (a : Addr) (xs : List V) (js : List JobT) (B : Hp) (M L : List (Addr × HO)), vs = [.ref a] ∧ Is B M L H ∧ (SqL K B a xs ∨ SqT K B a xs) ∧ JobsA K B xs js ∧ ∀ p ys H', JobsA K B ys (ordJ js) → Is B M ((p, .lst ys) :: L) H' → Q (.ref p) H'
theorem ap_by_rank {K : PySem.W.Frag} {H : Hp} {Q : VK} {E : XK} {a : Addr} {xs : List V} {js : List JobT} {B : Hp} {M L : List (Addr × HO)} (I : Is B M L H) (hs : SqL K B a xs ∨ SqT K B a xs) (h : JobsA K B xs js) (q : ∀ p ys H', JobsA K B ys (ordJ js) → Is B M ((p, .lst ys) :: L) H' → Q (.ref p) H') : sp_by_rank K [.ref a] H Q E := ⟨rfl, a, xs, js, B, M, L, rfl, I, hs, h, q⟩
def t_by_rank (K : PySem.W.Frag) : TS := (tRet (tCKw (rSortKey K "rank_of" (sp_rank_of K) (fun vs zs => pick .non [0] (vs ++ zs))) (tCons (tVar 0) tNil) (tCons (tC (.ref (He.ga K "rank_of"))) tNil)))
theorem rd_by_rank {K : PySem.W.Frag} (vs : List V) (H : Hp) (Q : VK) (E : XK) (h : sp_by_rank K vs H Q E) : t_by_rank K { nx := fun _ H' => Q .non H', rt := Q } (start ["jobs"] vs) H := by
  obtain ⟨_, a, xs, js, B, M, L, rfl, hI, hs, hX, q⟩ := h
  show t_by_rank K ⟨_, _, _, _⟩ [some (.ref a)] H
  unfold t_by_rank
  tm_at "go"
  refine g_ckw ?_
  tm_at "go"
  refine g_sortKey rankD hI (hs.imp (Is.sq hI) (Is.st hI)) hX (jobs_alike _) (jobs_sortable _) (jobs_depth _) (fun x j H' ⟨y, e, hJ⟩ I' => ?_) fun p ys H' hy I' => q p ys H' hy I'
  subst e
  exact ⟨rfl, y, j, B, M, L, rfl, I', hJ, fun p H' I2 => ⟨rank_key (I2.get (.head _)), I2.forget (by tm_at "sub")⟩⟩
/-! the first one -/
theorem jobs_depthN (bs : List JobT) : ∀ d ∈ bs.map rankD, d ≠ .none ∧ d.depth ≤ 5 := fun d hd => ⟨(by
  obtain ⟨b, _, rfl⟩ := List.mem_map.mp hd
  exact (fun z => (by cases z))), jobs_depth bs d hd⟩
theorem All2.withMem {α β : Type} {F : α → β → Prop} : ∀ {l : List α} {m : List β}, All2 F l m → All2 (fun x y => x ∈ l ∧ F x y) l m
  | _, _, .nil => .nil
  | _, _, .cons h t => .cons ⟨List.mem_cons_self, h⟩ (t.withMem.mono fun _ _ ⟨a, b⟩ => ⟨List.mem_cons_of_mem _ a, b⟩)
theorem ordJ_nil : ordJ [] = [] := by
  unfold ordJ
  rw [List.mergeSort_nil]
theorem ordJ_len (js : List JobT) : (ordJ js).length = js.length := (ordJ_perm js).length_eq
theorem ordJ_best {js : List JobT} {j : JobT} (h : js[argBest (btK (js.map rankD)) (js.length - 1)]? = some j) : (ordJ js).head? = some j := by
  have hl : 0 < js.length := by
    have := (List.getElem?_eq_some_iff.mp h).1
    omega
  obtain ⟨b, hb, hs⟩ := ms_head (key := rankD) js (js.length - 1) (by omega)
  rw [hb] at h
  cases h
  rw [show js.length - 1 + 1 = js.length by omega, List.take_length] at hs
  exact hs
def sp_first_of (K : PySem.W.Frag) : Sp := fun vs H Q _ => vs.length = 1 ∧ ∃ (a : Addr) (xs : List V) (js : List JobT) (B : Hp) (M L : List (Addr × HO)), vs = [.ref a] ∧ Is B M L H ∧ (SqL K B a xs ∨ SqT K B a xs) ∧ JobsA K B xs js ∧ (js = [] → ∀ H', Is B M L H' → Q .non H') ∧ (∀ x j H', JobAt K B x j → V.ref x ∈ xs → (ordJ js).head? = some j → Is B M L H' → Q (.ref x) H')
theorem ap_first_of {K : PySem.W.Frag} {H : Hp} {Q : VK} {E : XK} {a : Addr} {xs : List V} {js : List JobT} {B : Hp} {M L : List (Addr × HO)} (I : Is B M L H) (hs : SqL K B a xs ∨ SqT K B a xs) (h : JobsA K B xs js) (q0 : js = [] → ∀ H', Is B M L H' → Q .non H') (q : ∀ x j H', JobAt K B x j → V.ref x ∈ xs → (ordJ js).head? = some j → Is B M L H' → Q (.ref x) H') : sp_first_of K [.ref a] H Q E := ⟨rfl, a, xs, js, B, M, L, rfl, I, hs, h, q0, q⟩
def t_first_of (K : PySem.W.Frag) : TS := (tRet (tCKw (rMinKeyD K "rank_of" (sp_rank_of K) (fun vs zs => pick .non [0] (vs ++ zs))) (tCons (tVar 0) tNil) (tCons (tC (.ref (He.ga K "rank_of"))) (tCons (tC .non) tNil))))
theorem rd_first_of {K : PySem.W.Frag} (vs : List V) (H : Hp) (Q : VK) (E : XK) (h : sp_first_of K vs H Q E) : t_first_of K { nx := fun _ H' => Q .non H', rt := Q } (start ["jobs"] vs) H := by
  obtain ⟨_, a, xs, js, B, M, L, rfl, hI, hs, hX, q0, q⟩ := h
  show t_first_of K ⟨_, _, _, _⟩ [some (.ref a)] H
  have hX2 : All2 (fun v j => v ∈ xs ∧ ∃ a, v = .ref a ∧ JobAt K B a j) xs js := hX.withMem
  unfold t_first_of
  tm_at "go"
  refine g_ckw ?_
  tm_at "go"
  refine g_minKeyD rankD hI hs hX2 (jobs_alike _) (jobs_depthN _) (fun x j H' ⟨hm, y, e, hJ⟩ I' => ?_) (fun e H' I' => q0 e H' I') fun x j H' ⟨hm, y, e, hJ⟩ hb I' => ?_
  · subst e
    exact ⟨rfl, y, j, B, M, L, rfl, I', hJ, fun p H' I2 => ⟨rank_key (I2.get (.head _)), I2.forget (by tm_at "sub")⟩⟩
  · subst e
    exact q y j H' hJ hm (ordJ_best hb) I'
/-! ### numbers by names -/
structure Named (js : List JobT) (ws : List (Str × List Int)) : Prop where
  up : (ws.map (·.1)).Pairwise ltS
  mem : ∀ z, z ∈ ws.map (·.1) ↔ ∃ j ∈ js, j.nm = z
  ns : ∀ w ∈ ws, w.2.Pairwise (· < ·) ∧ ∀ k, k ∈ w.2 ↔ ∃ j ∈ js, j.nm = w.1 ∧ j.n = k
theorem ltI_uniq {xs ys : List Int} (h1 : xs.Pairwise (· < ·)) (h2 : ys.Pairwise (· < ·)) (h : ∀ z, z ∈ xs ↔ z ∈ ys) : xs = ys := by
  have n : ∀ {l : List Int}, l.Pairwise (· < ·) → l.Nodup := fun h => h.imp fun {a b} h e => by omega
  exact List.Perm.eq_of_pairwise (le := (· < ·)) (fun a b _ _ x y => by omega) h1 h2 ((List.perm_ext_iff_of_nodup (n h1) (n h2)).mpr h)
theorem Named.uniq {js : List JobT} {ws ws' : List (Str × List Int)} (h : Named js ws) (h' : Named js ws') : ws = ws' := by
  have e : ws.map (·.1) = ws'.map (·.1) := ltS_uniq h.up h'.up fun z => by rw [h.mem, h'.mem]
  have hl : ws.length = ws'.length := by
    have := congrArg List.length e
    rwa [List.length_map, List.length_map] at this
  refine List.ext_getElem hl fun i h1 h2 => ?_
  have e1 : ws[i].1 = ws'[i].1 := by
    have := congrArg (fun l => l[i]?) e
    simpa [List.getElem?_map, List.getElem?_eq_getElem, h1, h2] using this
  obtain ⟨a1, a2⟩ := h.ns ws[i] (List.getElem_mem h1)
  obtain ⟨b1, b2⟩ := h'.ns ws'[i] (List.getElem_mem h2)
  exact Prod.ext e1 (ltI_uniq a1 b1 fun k => by rw [a2, b2, e1])
theorem Named.of_mem {js js' : List JobT} {ws : List (Str × List Int)} (h : Named js ws) (e : ∀ j, j ∈ js ↔ j ∈ js') : Named js' ws :=
  ⟨h.up, fun z => by rw [h.mem]; exact ⟨fun ⟨j, a, b⟩ => ⟨j, (e j).1 a, b⟩, fun ⟨j, a, b⟩ => ⟨j, (e j).2 a, b⟩⟩,
    fun w hw => ⟨(h.ns w hw).1, fun k => by rw [(h.ns w hw).2]; exact ⟨fun ⟨j, a, b⟩ => ⟨j, (e j).1 a, b⟩, fun ⟨j, a, b⟩ => ⟨j, (e j).2 a, b⟩⟩⟩⟩
/-- one name's row, as it is told: the pair at t, its numbers' list at l -/
structure NmR where
  t : Addr
  l : Addr
  nm : Str
  ns : List Int
abbrev NmR.own (r : NmR) : Addr × HO := (r.l, .lst (r.ns.map V.int))
abbrev NmR.pr (r : NmR) : Str × List Int := (r.nm, r.ns)
def NmAt (B : Hp) (r : NmR) : Prop := B r.t = some (.tup [.str r.nm, .ref r.l])
theorem Is.lToM {B H : Hp} {N M L : List (Addr × HO)} {p : Addr} {o : HO} (I : Is B (N ++ M) ((p, o) :: L) H) : Is B ((N ++ [(p, o)]) ++ M) L H := by
  have h := I.ofM
  refine (h.perm (L' := L ++ ((N ++ [(p, o)]) ++ M)) ?_).toM
  show (L ++ ((N ++ [(p, o)]) ++ M)).Perm ((p, o) :: (L ++ (N ++ M)))
  rw [List.append_assoc, ← List.append_assoc L N]
  exact (List.perm_middle (l₁ := L ++ N)).trans (by rw [List.append_assoc]; exact List.Perm.refl _)
theorem g_aDGetS {H : Hp} {Q : VK} {a : Addr} {kvs : List (Key × V)} {z : Str} {v : V} (h : H a = some (.dK kvs)) (e : valV kvs (Sum.inr z) = some v) (q : Q v H) : aDGet (.ref a) (.str z) H Q := ⟨a, v, rfl, .inl ⟨kvs, .inr z, .inl h, rfl, e.symm⟩, q⟩
theorem Is.mToL {B H : Hp} {N M L : List (Addr × HO)} (I : Is B (N ++ M) L H) : Is B M (N ++ L) H := by
  have h := I.ofM
  refine (h.perm (L' := (N ++ L) ++ M) ?_).toM
  rw [← List.append_assoc]
  exact List.Perm.append_right M List.perm_append_comm
/-- found so far -/
structure FndR where
  nm : Str
  l : Addr
  ns : List Int
abbrev FndR.kv (r : FndR) : Key × V := (Sum.inr r.nm, .ref r.l)
abbrev FndR.own (r : FndR) : Addr × HO := (r.l, .lst (r.ns.map V.int))
structure Fnd (js : List JobT) (rs : List FndR) : Prop where
  nd : (rs.map (·.nm)).Nodup
  mem : ∀ z, z ∈ rs.map (·.nm) ↔ ∃ j ∈ js, j.nm = z
  ns : ∀ r ∈ rs, ∀ k, k ∈ r.ns ↔ ∃ j ∈ js, j.nm = r.nm ∧ j.n = k
  l1 : rs.length ≤ js.length
  l2 : ∀ r ∈ rs, r.ns.length ≤ js.length
theorem fnd_val {rs : List FndR} {r : FndR} (nd : (rs.map (·.nm)).Nodup) (h : r ∈ rs) : valV (rs.map FndR.kv) (Sum.inr r.nm) = some (.ref r.l) := by
  induction rs with
  | nil => cases h
  | cons x rs ih =>
    rw [List.map_cons] at nd
    obtain ⟨h1, h2⟩ := List.nodup_cons.mp nd
    unfold valV
    rw [List.map_cons, List.find?_cons]
    rcases List.mem_cons.mp h with rfl | h
    · have e : decide ((FndR.kv r).1 = Sum.inr r.nm) = true := decide_eq_true rfl
      rw [e]
      rfl
    · have e : decide ((FndR.kv x).1 = Sum.inr r.nm) = false := decide_eq_false fun z => h1 (List.mem_map.mpr ⟨r, h, (Sum.inr.inj z).symm⟩)
      rw [e]
      exact ih h2 h
theorem fnd_no {rs : List FndR} {z : Str} (h : z ∉ rs.map (·.nm)) : valV (rs.map FndR.kv) (Sum.inr z) = none := by
  induction rs with
  | nil => rfl
  | cons x rs ih =>
    rw [List.map_cons] at h
    unfold valV
    rw [List.map_cons, List.find?_cons]
    have e : decide ((FndR.kv x).1 = Sum.inr z) = false := decide_eq_false fun w => h (by rw [← Sum.inr.inj w]; exact List.mem_cons_self)
    rw [e]
    exact ih fun w => h (List.mem_cons_of_mem _ w)
theorem Fnd.add {js : List JobT} {r1 r2 : List FndR} {r : FndR} {j : JobT} (h : Fnd js (r1 ++ r :: r2)) (e : r.nm = j.nm) : Fnd (js ++ [j]) (r1 ++ { r with ns := r.ns ++ [j.n] } :: r2) := by
  have en : (r1 ++ { r with ns := r.ns ++ [j.n] } :: r2).map (·.nm) = (r1 ++ r :: r2).map (·.nm) := by simp
  have hu : ∀ x ∈ r1 ++ r2, x.nm ≠ r.nm := by
    have := h.nd
    rw [List.map_append, List.map_cons, List.nodup_append] at this
    obtain ⟨n1, n2, n3⟩ := this
    intro x hx z
    rcases List.mem_append.mp hx with hx | hx
    · exact n3 _ (List.mem_map.mpr ⟨x, hx, rfl⟩) _ List.mem_cons_self z
    · exact (List.nodup_cons.mp n2).1 (List.mem_map.mpr ⟨x, hx, z⟩)
  refine ⟨by rw [en]; exact h.nd, fun z => ?_, fun x hx k => ?_, ?_, fun x hx => ?_⟩
  · rw [en, h.mem]
    refine ⟨fun ⟨y, a, b⟩ => ⟨y, List.mem_append_left _ a, b⟩, fun ⟨y, a, b⟩ => ?_⟩
    rcases List.mem_append.mp a with a | a
    · exact ⟨y, a, b⟩
    · rw [List.mem_singleton.mp a] at b
      have := (h.mem r.nm).1 (List.mem_map.mpr ⟨r, List.mem_append_right _ List.mem_cons_self, rfl⟩)
      rwa [e, b] at this
  · have cs : x ∈ r1 ++ r2 ∨ x = { r with ns := r.ns ++ [j.n] } := by
      rcases List.mem_append.mp hx with hx | hx
      · exact .inl (List.mem_append_left _ hx)
      · rcases List.mem_cons.mp hx with hx | hx
        · exact .inr hx
        · exact .inl (List.mem_append_right _ hx)
    rcases cs with hx | rfl
    · have hm : x ∈ r1 ++ r :: r2 := by
        rcases List.mem_append.mp hx with hx | hx
        · exact List.mem_append_left _ hx
        · exact List.mem_append_right _ (List.mem_cons_of_mem _ hx)
      rw [h.ns x hm]
      refine ⟨fun ⟨y, a, b⟩ => ⟨y, List.mem_append_left _ a, b⟩, fun ⟨y, a, b⟩ => ?_⟩
      rcases List.mem_append.mp a with a | a
      · exact ⟨y, a, b⟩
      · rw [List.mem_singleton.mp a] at b
        exact absurd (b.1.symm.trans e.symm) (hu x hx)
    · have hr := h.ns r (List.mem_append_right _ List.mem_cons_self) k
      show k ∈ r.ns ++ [j.n] ↔ _
      rw [List.mem_append, hr, List.mem_singleton]
      constructor
      · rintro (⟨y, a, b⟩ | rfl)
        · exact ⟨y, List.mem_append_left _ a, b⟩
        · exact ⟨j, List.mem_append_right _ List.mem_cons_self, e.symm, rfl⟩
      · rintro ⟨y, a, b⟩
        rcases List.mem_append.mp a with a | a
        · exact .inl ⟨y, a, b⟩
        · rw [List.mem_singleton.mp a] at b
          exact .inr b.2.symm
  · have := h.l1
    simp only [List.length_append, List.length_cons, List.length_nil] at *
    omega
  · have hl := h.l2
    rw [List.length_append, List.length_singleton]
    rcases List.mem_append.mp hx with hx | hx
    · have := hl x (List.mem_append_left _ hx)
      omega
    · rcases List.mem_cons.mp hx with rfl | hx
      · have := hl r (List.mem_append_right _ List.mem_cons_self)
        show (r.ns ++ [j.n]).length ≤ _
        rw [List.length_append, List.length_singleton]
        omega
      · have := hl x (List.mem_append_right _ (List.mem_cons_of_mem _ hx))
        omega
theorem Fnd.new {js : List JobT} {rs : List FndR} {j : JobT} {p : Addr} (h : Fnd js rs) (e : j.nm ∉ rs.map (·.nm)) : Fnd (js ++ [j]) (rs ++ [⟨j.nm, p, [j.n]⟩]) := by
  refine ⟨?_, fun z => ?_, fun x hx k => ?_, ?_, fun x hx => ?_⟩
  · rw [List.map_append, List.nodup_append]
    refine ⟨h.nd, List.pairwise_singleton _ _, fun a ha b hb z => ?_⟩
    have hb : b = j.nm := by simpa using hb
    rw [z, hb] at ha
    exact e ha
  · rw [List.map_append, List.mem_append, h.mem]
    constructor
    · rintro (⟨y, a, b⟩ | hz)
      · exact ⟨y, List.mem_append_left _ a, b⟩
      · have hz : z = j.nm := by simpa using hz
        exact ⟨j, List.mem_append_right _ List.mem_cons_self, hz.symm⟩
    · rintro ⟨y, a, b⟩
      rcases List.mem_append.mp a with a | a
      · exact .inl ⟨y, a, b⟩
      · rw [List.mem_singleton.mp a] at b
        exact .inr (by simp [b])
  · rcases List.mem_append.mp hx with hx | hx
    · rw [h.ns x hx]
      refine ⟨fun ⟨y, a, b⟩ => ⟨y, List.mem_append_left _ a, b⟩, fun ⟨y, a, b⟩ => ?_⟩
      rcases List.mem_append.mp a with a | a
      · exact ⟨y, a, b⟩
      · rw [List.mem_singleton.mp a] at b
        exact absurd (List.mem_map.mpr ⟨x, hx, b.1.symm⟩) e
    · rw [List.mem_singleton.mp hx]
      show k ∈ [j.n] ↔ _
      rw [List.mem_singleton]
      constructor
      · rintro rfl
        exact ⟨j, List.mem_append_right _ List.mem_cons_self, rfl, rfl⟩
      · rintro ⟨y, a, b⟩
        rcases List.mem_append.mp a with a | a
        · exact absurd ((h.mem _).2 ⟨y, a, b.1⟩) e
        · rw [List.mem_singleton.mp a] at b
          exact b.2.symm
  · have := h.l1
    simp only [List.length_append, List.length_cons, List.length_nil] at *
    omega
  · rw [List.length_append, List.length_singleton]
    rcases List.mem_append.mp hx with hx | hx
    · have := h.l2 x hx
      omega
    · rw [List.mem_singleton.mp hx]
      show [j.n].length ≤ _
      simp
def sp_by_style (K : PySem.W.Frag) : Sp := fun vs H Q _ => vs.length = 1 ∧ ∃ (a : Addr) (xs : List V) (js : List JobT) (B : Hp) (M L : List (Addr × HO)), vs = [.ref a] ∧ Is B M L H ∧ (SqL K B a xs ∨ SqT K B a xs) ∧ JobsA K B xs js ∧ js.length < 60 ∧
  ∀ (rs : List NmR) (p : Addr) (B' H' : Hp), Same B B' → Is B' M (rs.map NmR.own ++ ((p, .lst (rs.map fun r => .ref r.t)) :: L)) H' → (∀ r ∈ rs, NmAt B' r) → Named js (rs.map NmR.pr) → Q (.ref p) H'
theorem ap_by_style {K : PySem.W.Frag} {H : Hp} {Q : VK} {E : XK} {a : Addr} {xs : List V} {js : List JobT} {B : Hp} {M L : List (Addr × HO)} (I : Is B M L H) (hs : SqL K B a xs ∨ SqT K B a xs) (h : JobsA K B xs js) (hl : js.length < 60) (q : ∀ (rs : List NmR) (p : Addr) (B' H' : Hp), Same B B' → Is B' M (rs.map NmR.own ++ ((p, .lst (rs.map fun r => .ref r.t)) :: L)) H' → (∀ r ∈ rs, NmAt B' r) → Named js (rs.map NmR.pr) → Q (.ref p) H') : sp_by_style K [.ref a] H Q E := ⟨rfl, a, xs, js, B, M, L, rfl, I, hs, h, hl, q⟩
abbrev t_by_style_0 (K : PySem.W.Frag) : TS := (tDrop (tBM K "list" rAppend (tDSetd (tVar 1) (tMe (He.ga K "Style") "named" 0 0 (sp_Style_named K) (fun vs zs => pick .non [0] (vs ++ zs)) E0 (tMe (He.ga K "Job") "of_style" 0 0 (sp_Job_of_style K) (fun vs zs => pick .non [0] (vs ++ zs)) E0 (tVar 2) tNil tNil) tNil tNil) (tLst tNil)) (tCons (tMe (He.ga K "Job") "numbered" 0 0 (sp_Job_numbered K) (fun vs zs => pick .non [0] (vs ++ zs)) E0 (tVar 2) tNil tNil) tNil)))
abbrev t_by_style_1 (K : PySem.W.Frag) : TS := (tRet (tLc (iAny K (tCB (rSortedD K) (tCons (tVar 1) tNil))) (gName 3) tYes (tTup (tCons (tVar 3) (tCons (tSortedSet K (tDGet (tVar 1) (tVar 3))) tNil))) [3]))
abbrev t_by_style_2 (K : PySem.W.Frag) : TS := (tSeq (tFor (iAny K (tVar 0)) (gName 2) (t_by_style_0 K)) (t_by_style_1 K))
def t_by_style (K : PySem.W.Frag) : TS := (tSeq (tAsg tDNewK (gName 1)) (t_by_style_2 K))
theorem rd_by_style {K : PySem.W.Frag} (vs : List V) (H : Hp) (Q : VK) (E : XK) (h : sp_by_style K vs H Q E) : t_by_style K { nx := fun _ H' => Q .non H', rt := Q } (start ["jobs", "found", "job", "name"] vs) H := by
  obtain ⟨_, a, xs, js, B, M, L, rfl, hI, hs, hX, hl, q⟩ := h
  show t_by_style K ⟨_, _, _, _⟩ [some (.ref a), none, none, none] H
  have hxl := hX.len
  unfold t_by_style
  tm_at "go"
  obtain ⟨d, rfl⟩ : ∃ q, q = p := ⟨_, rfl⟩
  suffices key : ∀ {J : It} {G : Hp → Prop}, Walk J xs.length G (YAt xs) → (∀ H', Same B H' → G H') → aFor J (gName 2) (t_by_style_0 K)
      { nx := fun σ H => t_by_style_1 K { nx := fun x H' => Q V.non H', rt := Q } σ H, rt := Q }
      [some (V.ref a), some (V.ref d), none, none] H by
    rcases hs with hs | hs
    · exact .inl ⟨a, rfl, ⟨xs, hI.sq hs⟩, key walk_list fun H' s => Same.seq s hs⟩
    · exact .inr (.inl ⟨a, rfl, ⟨xs, hI.st hs⟩, key walk_tup fun H' s => Same.sqT s hs⟩)
  intro J G w hG
  refine' g_aFor w (fun i σ H => ∃ (c : Option V) (rs : List FndR), σ = [some (.ref a), some (.ref d), c, none] ∧ Is B M ((d, .dK (rs.map FndR.kv)) :: (rs.map FndR.own ++ L)) H ∧ Fnd (js.take i) rs)
    ⟨_, [], rfl, hI, ⟨List.nodup_nil, (fun z => by simp), (fun r hr => by cases hr), Nat.zero_le _, (fun r hr => by cases hr)⟩⟩ (fun i σ H _ ⟨_, _, _, hI, _⟩ => hG H hI.ex) ?_ ?_
  · clear hI
    rintro i x σ H H' hi ⟨c, rs, rfl, hI, hF⟩ ⟨rfl, hv⟩
    obtain ⟨j, ej, y, rfl, hJ⟩ := hX.get hv
    obtain ⟨⟨dx, st, h1, h2⟩, hg⟩ := id hJ
    have hil := (List.getElem?_eq_some_iff.mp ej).1
    rw [List.take_add_one, ej, Option.toList_some]
    tm_at "go"
    refine' g_dsetd ?_
    tm_at "go"
    refine ⟨d, rfl, .inl ⟨_, .inl (hI.get (.head _))⟩, ?_⟩
    tm_at "go"
    refine' ap_Job_of_style (K := K) hI hJ ?_
    intro sb hsb
    obtain ⟨⟨ds, cr, zs, k1, k2, k3⟩, kg⟩ := id hsb
    tm_at "go"
    refine' g_aCl rfl rfl ?_
    refine' ap_Style_named (K := K) hI hsb ?_
    tm_at "go"
    have hkl : (rs.map FndR.kv).length < sizeLine := by
      have := hF.l1
      rw [List.length_take] at this
      rw [List.length_map, sizeLine_eq]
      omega
    refine ⟨rs.map FndR.kv, Sum.inr j.nm, by tm_at "hp", rfl, hkl, fun v hv => ?_, fun hv => ?_⟩
    · by_cases hm : j.nm ∈ rs.map (·.nm)
      · obtain ⟨r, hr, er⟩ := List.mem_map.mp hm
        rw [← er, fnd_val hF.nd hr] at hv
        cases hv
        obtain ⟨r1, r2, rfl⟩ := List.append_of_mem hr
        replace hI := hI.forget (L' := (d, .dK ((r1 ++ r :: r2).map FndR.kv)) :: ((r1 ++ r :: r2).map FndR.own ++ L)) (by tm_at "sub")
        have hI := hI.perm (L' := (r.l, .lst (r.ns.map V.int)) :: (d, .dK ((r1 ++ r :: r2).map FndR.kv)) :: ((r1.map FndR.own ++ r2.map FndR.own) ++ L)) (by
          refine (List.Perm.swap _ _ _).trans (List.Perm.cons _ ?_)
          rw [List.map_append, List.map_cons, List.append_assoc, List.append_assoc]
          exact List.perm_middle.symm)
        have hrl := hF.l2 r (List.mem_append_right _ List.mem_cons_self)
        rw [List.length_take] at hrl
        refine g_tyL (hI.get (.head _)) ?_
        tm_at "go"
        refine' ap_Job_numbered (K := K) hI hJ ?_
        tm_at "go"
        refine ⟨_, r1 ++ { r with ns := r.ns ++ [j.n] } :: r2, rfl, ?_, hF.add er⟩
        have ek : (r1 ++ { r with ns := r.ns ++ [j.n] } :: r2).map FndR.kv = (r1 ++ r :: r2).map FndR.kv := by rw [List.map_append, List.map_append, List.map_cons, List.map_cons]
        rw [ek]
        have eo : FndR.own { r with ns := r.ns ++ [j.n] } = (r.l, HO.lst (r.ns.map V.int ++ [V.int j.n])) := by
          show (r.l, HO.lst ((r.ns ++ [j.n]).map V.int)) = _
          rw [List.map_append]
          rfl
        refine hI.perm ?_
        have e2 : (r1 ++ { r with ns := r.ns ++ [j.n] } :: r2).map FndR.own ++ L = r1.map FndR.own ++ (r.l, HO.lst (r.ns.map V.int ++ [V.int j.n])) :: (r2.map FndR.own ++ L) := by
          rw [List.map_append, List.map_cons, eo, List.append_assoc]
          rfl
        rw [e2, List.append_assoc]
        exact (List.Perm.cons _ List.perm_middle).trans (List.Perm.swap _ _ _)
      · rw [fnd_no hm] at hv
        cases hv
    · have hm : j.nm ∉ rs.map (·.nm) := fun hm => by
        obtain ⟨r, hr, er⟩ := List.mem_map.mp hm
        rw [← er, fnd_val hF.nd hr] at hv
        cases hv
      rw [putK_new _ hv]
      replace hI := hI.put (Put.there (Put.here (o := .dK (rs.map FndR.kv ++ [(Sum.inr j.nm, V.ref p)]))))
      refine g_tyL (hI.get (.head _)) ?_
      tm_at "go"
      refine' ap_Job_numbered (K := K) hI hJ ?_
      tm_at "go"
      refine ⟨_, rs ++ [⟨j.nm, p, [j.n]⟩], rfl, ?_, hF.new hm⟩
      rw [List.map_append, List.map_append]
      refine hI.perm ?_
      refine List.Perm.trans ?_ (List.Perm.swap _ _ _)
      refine List.Perm.cons _ ?_
      rw [List.append_assoc]
      exact List.perm_middle
  · clear hI
    rintro σ H ⟨c, rs, rfl, hI, hF⟩
    rw [hX.len, List.take_of_length_le (Nat.le_refl _)] at hF
    tm_at "go"
    refine g_sortedD (ks := rs.map (·.nm)) hI (by tm_at "hp") (by rw [List.map_map, List.map_map]; rfl) (by have := hF.l1; rw [List.length_map]; omega) hF.nd ?_
    clear hI
    intro ys py H hup hym hI
    have hyl : ys.length ≤ 60 := by
      have h1 : ys.Nodup := hup.imp fun {a b} h e => by
        subst e
        exact List.lt_irrefl _ h
      have := ((List.perm_ext_iff_of_nodup h1 hF.nd).mpr hym).length_eq
      rw [List.length_map] at this
      have := hF.l1
      omega
    tm_at "go"
    refine' g_aLc (walk_list (xs := ys.map V.str)) hI (by tm_at "wiped") (by rw [List.length_map]; omega) (fun i acc B' M' => ∃ ws : List NmR, M' = ws.map NmR.own ++ M ∧ acc = (ws.map fun r => V.ref r.t) ∧ (∀ r ∈ ws, NmAt B' r) ∧ ws.map (·.nm) = ys.take i ∧ ∀ r ∈ ws, r.ns.Pairwise (· < ·) ∧ ∀ k, k ∈ r.ns ↔ ∃ j ∈ js, j.nm = r.nm ∧ j.n = k)
      ⟨[], rfl, rfl, (fun r hr => by cases hr), rfl, (fun r hr => by cases hr)⟩ (fun _ _ _ _ _ _ _ s hI' _ => SqL.of (hI'.get (by tm_at "mem"))) ?_ ?_
    · clear hI
      rintro i v acc B2 M2 D H' H'' hi s2 hI ⟨ws, rfl, rfl, hA, hn, hk⟩ ⟨rfl, hv⟩ hz
      rw [List.getElem?_map] at hv
      obtain ⟨z, ez, rfl⟩ := Option.map_eq_some_iff.mp hv
      obtain ⟨r, hr, er⟩ := List.mem_map.mp ((hym z).1 (List.mem_of_getElem? ez))
      have hrl := hF.l2 r hr
      have hrm : (r.l, HO.lst (r.ns.map V.int)) ∈ rs.map FndR.own ++ L := List.mem_append_left _ (List.mem_map.mpr ⟨r, hr, rfl⟩)
      tm_at "go"
      refine' g_wiped (by tm_at "wiped") ?_
      tm_at "go"
      refine' g_sortedSet ?_
      tm_at "go"
      rw [← er]
      refine' g_aDGetS (by tm_at "hp") (fnd_val hF.nd hr) ?_
      refine' g_aSSi hI (SqL.of (hI.get (List.mem_cons_of_mem _ (List.mem_cons_of_mem _ (List.mem_cons_of_mem _ hrm))))) (by omega) ?_
      clear hI
      intro ms q1 H hms hmk hI
      tm_at "go"
      obtain ⟨tp, rfl⟩ : ∃ q, q = p := ⟨_, rfl⟩
      refine' hI.give .here ?_
      clear hI
      intro B3 s3 htp hI
      have hI := hI.perm (L' := (q1, .lst (ms.map V.int)) :: _) (List.Perm.refl _)
      refine lcY (s2.trans s3) hI.lToM hz ⟨ws ++ [⟨tp, q1, r.nm, ms⟩], by rw [List.map_append]; rfl, by rw [List.map_append]; rfl, fun x hx => ?_, ?_, fun x hx => ?_⟩
      · rcases List.mem_append.mp hx with hx | hx
        · exact s3 _ _ (hA x hx)
        · rw [List.mem_singleton.mp hx]
          exact htp
      · rw [List.map_append, hn, List.take_add_one, ez, ← er]
        rfl
      · rcases List.mem_append.mp hx with hx | hx
        · exact hk x hx
        · rw [List.mem_singleton.mp hx]
          exact ⟨hms, fun k => by rw [hmk, hF.ns r hr]⟩
    · clear hI
      rintro acc B2 M2 D H s2 hI ⟨ws, rfl, rfl, hA, hn, hk⟩ _
      rw [List.length_map, List.take_of_length_le (Nat.le_refl _)] at hn
      have hI := hI.mToL
      refine q ws D B2 H s2 (hI.forget ?_) hA ⟨?_, fun z => ?_, fun w hw => ?_⟩
      · refine List.Sublist.append (List.Sublist.refl _) (List.Sublist.cons₂ _ ?_)
        exact List.Sublist.cons _ (List.Sublist.cons _ (List.sublist_append_right _ _))
      · rw [List.map_map]
        show (ws.map (·.nm)).Pairwise ltS
        rw [hn]
        exact hup
      · rw [List.map_map]
        show z ∈ ws.map (·.nm) ↔ _
        rw [hn, hym, hF.mem]
      · obtain ⟨r, hr, rfl⟩ := List.mem_map.mp hw
        exact hk r hr
/-! ### what is drawn -/
def Lets (n : Nat) (z : Str) : Prop := z.length ≤ n ∧ ∀ c ∈ z.cps.toList, c ∈ letS.cps.toList
theorem Lets.mono {n m : Nat} {z : Str} (h : Lets n z) (hn : n ≤ m) : Lets m z := ⟨Nat.le_trans h.1 hn, h.2⟩
theorem Lets.add {n m : Nat} {x y : Str} (h1 : Lets n x) (h2 : Lets m y) : Lets (n + m) (x ++ y) := by
  refine ⟨by rw [len_app]; have := h1.1; have := h2.1; omega, fun c hc => ?_⟩
  rw [cps_app] at hc
  rcases List.mem_append.mp hc with h | h
  · exact h1.2 c h
  · exact h2.2 c h
theorem letS_bd : ∀ c ∈ letS.cps.toList, c < 128 := by decide +kernel
theorem Lets.sh {n : Nat} {z : Str} (h : Lets n z) : Sh n z := ⟨h.1, fun c hc => letS_bd c (h.2 c hc)⟩
theorem Lets.sign {c : Nat} (h : c ∈ letS.cps.toList) : Lets 1 ⟨#[c]⟩ := by
  refine ⟨Nat.le_refl _, fun d hd => ?_⟩
  have : d = c := by simpa using hd
  rw [this]
  exact h
theorem Lets.name {n : Nat} {z : Str} (h : Lets n z) (hn : n ≤ 8) (h1 : 1 ≤ z.length) (hb : inV (.str z) barVs = false) : isName (.str z) = true := by
  show (decide (1 ≤ (z.length : Int)) && (decide ((z.length : Int) ≤ 8) && (!inV (.str z) barVs && z.cps.toList.all fun c => decide (c ∈ letS.cps.toList)))) = true
  have := h.1
  rw [decide_eq_true (by omega), decide_eq_true (by omega), hb, List.all_eq_true.mpr fun c hc => decide_eq_true (h.2 c hc)]
  rfl
theorem g_ix_all {K : PySem.W.Frag} {H : Hp} {Q : VK} {a : Addr} {xs : List V} {i : Int} (P : V → Prop) (hs : SqL K H a xs) (h : ∀ x ∈ xs, P x) (h0 : 0 ≤ i) (h1 : i < (xs.length : Int)) (q : ∀ x, P x → Q x H) : rIx K (.ref a) (.int i) H Q := by
  have hl : i.toNat < xs.length := by omega
  exact g_ix_l hs (atI_of h0 (List.getElem?_eq_getElem hl)) (q _ (h _ (List.getElem_mem hl)))
theorem wk_sew : WorkOk "sew" := ⟨"hand", by decide +kernel⟩
theorem wk_glue : WorkOk "glue" := ⟨"hand", by decide +kernel⟩
theorem wk_cover : WorkOk "cover" := ⟨"hand", by decide +kernel⟩
theorem wk_letter : WorkOk "letter" := ⟨"hand", by decide +kernel⟩
theorem wk_press : WorkOk "press" := ⟨"press", by decide +kernel⟩
theorem in_bar {z : Str} (h : inV (.str z) barVs = true) : isName (.str ("un" ++ z)) = true ∧ Sh 8 ("un" ++ z) := by
  unfold inV at h
  obtain ⟨y, hy, e⟩ := List.any_eq_true.mp h
  have key : ∀ y ∈ barVs, ∃ w : Str, y = .str w ∧ isName (.str ("un" ++ w)) = true ∧ shB 8 ("un" ++ w) = true := by
    intro y hy
    have : y ∈ [V.str "style", .str "job", .str "round", .str "sew", .str "glue", .str "cover", .str "letter", .str "press", .str "hand", .str "haste"] := hy
    simp only [List.mem_cons, List.not_mem_nil, or_false] at this
    rcases this with rfl | rfl | rfl | rfl | rfl | rfl | rfl | rfl | rfl | rfl <;> exact ⟨_, rfl, by decide +kernel, by decide +kernel⟩
  obtain ⟨w, rfl, h1, h2⟩ := key y hy
  have e2 : w = z := eq_of_beq (show (w == z) = true from e)
  rw [← e2]
  exact ⟨h1, Sh.lit h2⟩
def sp_law_title (K : PySem.W.Frag) : Sp := fun vs H Q _ => vs.length = 1 ∧ ∃ (m : Addr) (n : Int) (B : Hp) (M L : List (Addr × HO)), vs = [.ref m] ∧ Is B M L H ∧ Dr m n B M ∧ n < 2 ^ 39 ∧
  ∀ (z : Str) (H' : Hp) (M' : List (Addr × HO)), Is B M' L H' → Dr m (n + 12) B M' → isName (.str z) = true → plainS z → Q (.str z) H'
theorem ap_law_title {K : PySem.W.Frag} {B H : Hp} {M L : List (Addr × HO)} {Q : VK} {E : XK} {n : Int} {m : Addr} (I : Is B M L H) (d : Dr m n B M) (h : n < 2 ^ 39) (q : ∀ (z : Str) (H' : Hp) (M' : List (Addr × HO)), Is B M' L H' → Dr m (n + 12) B M' → isName (.str z) = true → plainS z → Q (.str z) H') : sp_law_title K [.ref m] H Q E :=
  ⟨rfl, m, n, B, M, L, rfl, I, d, h, q⟩
abbrev t_law_title_0 (K : PySem.W.Frag) : TS := (tAsg (tOp (rAddA K) (tVar 2) (tOp (rIx K) (tC (.str "abcdefghijklmnopqrstuvwxyz")) (tCl 2 0 (sp_law_draw K) (fun vs zs => pick .non [0, 1] (vs ++ zs)) E0 (tCons (tVar 0) (tCons (tC (.int 26)) tNil)) tNil))) (gName 2))
abbrev t_law_title_1 (K : PySem.W.Frag) : TS := (tRet (tIf (tTest (tOp (rInA K) (tVar 2) (tVar 4))) (tOp (rAddA K) (tC (.str "un")) (tVar 2)) (tVar 2)))
abbrev t_law_title_2 (K : PySem.W.Frag) : TS := (tSeq (tAsg (tLst (tCons (tC (.str "style")) (tCons (tC (.str "job")) (tCons (tC (.str "round")) (tCons (tC (.str "sew")) (tCons (tC (.str "glue")) (tCons (tC (.str "cover")) (tCons (tC (.str "letter")) (tCons (tC (.str "press")) (tCons (tC (.str "hand")) (tCons (tC (.str "haste")) tNil))))))))))) (gName 4)) (t_law_title_1 K))
abbrev t_law_title_3 (K : PySem.W.Frag) : TS := (tSeq (tFor (iRng1 (tCons (tOp (rAddA K) (tC (.int 1)) (tOp (rIx K) (tLst (tCons (tCl 2 0 (sp_law_draw K) (fun vs zs => pick .non [0, 1] (vs ++ zs)) E0 (tCons (tVar 0) (tCons (tC (.int 3)) tNil)) tNil) (tCons (tCl 2 0 (sp_law_draw K) (fun vs zs => pick .non [0, 1] (vs ++ zs)) E0 (tCons (tVar 0) (tCons (tC (.int 8)) tNil)) tNil) (tCons (tC (.int 7)) tNil)))) (tVar 1))) tNil)) (gName 3) (t_law_title_0 K)) (t_law_title_2 K))
abbrev t_law_title_4 (K : PySem.W.Frag) : TS := (tSeq (tAsg (tC (.str "")) (gName 2)) (t_law_title_3 K))
def t_law_title (K : PySem.W.Frag) : TS := (tSeq (tAsg (tCl 2 0 (sp_law_draw K) (fun vs zs => pick .non [0, 1] (vs ++ zs)) E0 (tCons (tVar 0) (tCons (tC (.int 3)) tNil)) tNil) (gName 1)) (t_law_title_4 K))
theorem rd_law_title {K : PySem.W.Frag} (vs : List V) (H : Hp) (Q : VK) (E : XK) (h : sp_law_title K vs H Q E) : t_law_title K { nx := fun _ H' => Q .non H', rt := Q } (start ["m", "some", "said", "k", "words"] vs) H := by
  obtain ⟨_, m, n, B, M, L, rfl, hI, hd, h1, q⟩ := h
  show t_law_title K ⟨_, _, _, _⟩ [some (.ref m), none, none, none, none] H
  unfold t_law_title
  have hlet : Sh 26 ("abcdefghijklmnopqrstuvwxyz" : Str) := Sh.lit (by decide +kernel)
  have hlet2 : ("abcdefghijklmnopqrstuvwxyz" : Str).length = 26 := by decide +kernel
  have hlet3 : ∀ c ∈ ("abcdefghijklmnopqrstuvwxyz" : Str).cps.toList, Lets 1 ⟨#[c]⟩ := fun c hc => Lets.sign hc
  tm_at "go"
  tm_at "draw"
  revert r
  intro some1 hs0 hs1
  tm_at "go"
  tm_at "draw"
  tm_at "go"
  tm_at "draw"
  tm_at "go"
  refine g_ix_ints (lo := 0) (hi := 7) (by tm_at "sq") (by repeat (first | exact Ints.nil | refine Ints.cons (by omega) ?_)) hs0 (by tm_at "arith") ?_
  intro w hw0 hw1
  tm_at "go"
  replace hI := hI.forget (L' := L) (by tm_at "sub")
  have hd : Dr m (n + 3 + ((0 : Nat) : Int)) B M := hd.mono (by omega)
  refine' g_aFor walk_range (fun i σ H => ∃ (z : Str) (c d : Option V) (M : List (Addr × HO)), σ = [some (.ref m), some (.int some1), some (.str z), c, d] ∧ Is B M L H ∧ Dr m (n + 3 + (i : Int)) B M ∧ Lets i z ∧ z.length = i)
    ⟨_, _, _, M, rfl, hI, hd, ⟨Nat.le_refl _, fun c hc => by cases hc⟩, rfl⟩ (fun _ _ _ _ _ => trivial) ?_ ?_
  · rintro i x σ H H' hi ⟨z, c, d, M, rfl, hI, hd, hz, hzl⟩ ⟨rfl, rfl⟩
    have hi : i < (1 + w).toNat := hi
    tm_at "go"
    tm_at "draw"
    refine g_ix_sh hlet (by decide) hr0 (by rw [hlet2]; omega) ?_
    intro c1 hc1 _
    have hl1 := hlet3 c1 hc1
    refine g_add_sh hz.sh hl1.sh (by omega) ?_
    intro _
    tm_at "go"
    exact ⟨_, _, _, M, rfl, hI, hd.mono (by omega), hz.add hl1, by rw [len_app, hzl]; rfl⟩
  · rintro σ H ⟨z, c, d, M, rfl, hI, hd, hz, hzl⟩
    have hzl : z.length = (1 + w).toNat := hzl
    tm_at "go"
    refine g_in_l (by tm_at "sq") rfl (by decide) ?_
    tm_at "go"
    replace hI := hI.forget (L' := L) (by tm_at "sub")
    have hd : Dr m (n + 12) B M := hd.mono (by omega)
    cases e : inV (.str z) barVs with
    | true =>
      have e1 : inV (.str z) [V.str "style", .str "job", .str "round", .str "sew", .str "glue", .str "cover", .str "letter", .str "press", .str "hand", .str "haste"] = true := e
      rw [e1]
      tm_at "go"
      obtain ⟨k1, k2⟩ := in_bar e
      refine g_add_sh (Sh.lit (n := 2) (by decide +kernel)) hz.sh (by omega) fun _ => ?_
      exact q _ _ _ hI hd k1 (k2.plain (by decide))
    | false =>
      have e1 : inV (.str z) [V.str "style", .str "job", .str "round", .str "sew", .str "glue", .str "cover", .str "letter", .str "press", .str "hand", .str "haste"] = false := e
      rw [e1]
      tm_at "go"
      exact q _ _ _ hI hd (hz.name (by omega) (by omega) e) (hz.sh.plain (by omega))
def sp_law_drawn_step (K : PySem.W.Frag) : Sp := fun vs H Q _ => vs.length = 1 ∧ ∃ (m : Addr) (n : Int) (B : Hp) (M L : List (Addr × HO)), vs = [.ref m] ∧ Is B M L H ∧ Dr m n B M ∧ n < 2 ^ 39 ∧
  ∀ (v : V) (r : StepT) (B' H' : Hp) (M' : List (Addr × HO)), Same B B' → Is B' M' L H' → Dr m (n + 7) B' M' → StepG r → StepR B' v r → Q v H'
theorem ap_law_drawn_step {K : PySem.W.Frag} {B H : Hp} {M L : List (Addr × HO)} {Q : VK} {E : XK} {n : Int} {m : Addr} (I : Is B M L H) (d : Dr m n B M) (h : n < 2 ^ 39) (q : ∀ (v : V) (r : StepT) (B' H' : Hp) (M' : List (Addr × HO)), Same B B' → Is B' M' L H' → Dr m (n + 7) B' M' → StepG r → StepR B' v r → Q v H') : sp_law_drawn_step K [.ref m] H Q E :=
  ⟨rfl, m, n, B, M, L, rfl, I, d, h, q⟩
def IsWk (x : V) : Prop := ∃ z, x = .str z ∧ WorkOk z
abbrev t_law_drawn_step_0 (K : PySem.W.Frag) : TS := (tRet (tTup (tCons (tOp (rIx K) (tLst (tCons (tC (.str "sew")) (tCons (tC (.str "glue")) (tCons (tC (.str "cover")) (tCons (tC (.str "letter")) (tCons (tC (.str "press")) tNil)))))) (tVar 1)) (tCons (tVar 4) (tCons (tVar 5) tNil)))))
abbrev t_law_drawn_step_1 (K : PySem.W.Frag) : TS := (tSeq (tAsg (tOp (rIx K) (tLst (tCons (tCl 2 0 (sp_law_draw K) (fun vs zs => pick .non [0, 1] (vs ++ zs)) E0 (tCons (tVar 0) (tCons (tC (.int 241)) tNil)) tNil) (tCons (tCl 2 0 (sp_law_draw K) (fun vs zs => pick .non [0, 1] (vs ++ zs)) E0 (tCons (tVar 0) (tCons (tC (.int 9)) tNil)) tNil) (tCons (tC (.int 0)) (tCons (tC (.int 240)) tNil))))) (tVar 3)) (gName 5)) (t_law_drawn_step_0 K))
abbrev t_law_drawn_step_2 (K : PySem.W.Frag) : TS := (tSeq (tAsg (tOp (rIx K) (tLst (tCons (tOp (rAddA K) (tC (.int 1)) (tCl 2 0 (sp_law_draw K) (fun vs zs => pick .non [0, 1] (vs ++ zs)) E0 (tCons (tVar 0) (tCons (tC (.int 240)) tNil)) tNil)) (tCons (tOp (rAddA K) (tC (.int 1)) (tCl 2 0 (sp_law_draw K) (fun vs zs => pick .non [0, 1] (vs ++ zs)) E0 (tCons (tVar 0) (tCons (tC (.int 9)) tNil)) tNil)) (tCons (tC (.int 1)) (tCons (tC (.int 240)) tNil))))) (tVar 2)) (gName 4)) (t_law_drawn_step_1 K))
def t_law_drawn_step (K : PySem.W.Frag) : TS := (tSeq (tPar3 1 2 3 (tCons (tCl 2 0 (sp_law_draw K) (fun vs zs => pick .non [0, 1] (vs ++ zs)) E0 (tCons (tVar 0) (tCons (tC (.int 5)) tNil)) tNil) (tCons (tCl 2 0 (sp_law_draw K) (fun vs zs => pick .non [0, 1] (vs ++ zs)) E0 (tCons (tVar 0) (tCons (tC (.int 4)) tNil)) tNil) (tCons (tCl 2 0 (sp_law_draw K) (fun vs zs => pick .non [0, 1] (vs ++ zs)) E0 (tCons (tVar 0) (tCons (tC (.int 4)) tNil)) tNil) tNil)))) (t_law_drawn_step_2 K))
theorem rd_law_drawn_step {K : PySem.W.Frag} (vs : List V) (H : Hp) (Q : VK) (E : XK) (h : sp_law_drawn_step K vs H Q E) : t_law_drawn_step K { nx := fun _ H' => Q .non H', rt := Q } (start ["m", "work", "one", "two", "first", "last"] vs) H := by
  obtain ⟨_, m, n, B, M, L, rfl, hI, hd, h1, q⟩ := h
  show t_law_drawn_step K ⟨_, _, _, _⟩ [some (.ref m), none, none, none, none, none] H
  unfold t_law_drawn_step
  tm_at "go"
  tm_at "draw"
  revert r
  intro work hw0 hw1
  tm_at "go"
  tm_at "draw"
  revert r
  intro one ho0 ho1
  tm_at "go"
  tm_at "draw"
  revert r
  intro two ht0 ht1
  tm_at "go"
  tm_at "draw"
  tm_at "go"
  tm_at "draw"
  tm_at "go"
  refine g_ix_ints (lo := 1) (hi := 240) (by tm_at "sq") (by repeat (first | exact Ints.nil | refine Ints.cons (by omega) ?_)) ho0 (by tm_at "arith") ?_
  intro first hf0 hf1
  tm_at "go"
  tm_at "draw"
  tm_at "go"
  tm_at "draw"
  tm_at "go"
  refine g_ix_ints (lo := 0) (hi := 240) (by tm_at "sq") (by repeat (first | exact Ints.nil | refine Ints.cons (by omega) ?_)) ht0 (by tm_at "arith") ?_
  intro last hl0 hl1
  tm_at "go"
  refine g_ix_all IsWk (by tm_at "sq") (by
    intro x hx
    simp only [List.mem_cons, List.not_mem_nil, or_false] at hx
    rcases hx with rfl | rfl | rfl | rfl | rfl
    · exact ⟨_, rfl, wk_sew⟩
    · exact ⟨_, rfl, wk_glue⟩
    · exact ⟨_, rfl, wk_cover⟩
    · exact ⟨_, rfl, wk_letter⟩
    · exact ⟨_, rfl, wk_press⟩) hw0 (by tm_at "arith") ?_
  rintro _ ⟨z, rfl, hz⟩
  tm_at "go"
  refine' hI.give .here ?_
  clear hI
  intro B2 s2 hp hI
  exact q _ (z, first, last) B2 _ _ s2 (hI.forget (by tm_at "sub")) ((hd.mono (by omega)).same s2) ⟨hz, hf0, hf1, hl0, hl1⟩ ⟨_, rfl, hp⟩
def sp_law_drawn_steps (K : PySem.W.Frag) : Sp := fun vs H Q _ => vs.length = 2 ∧ ∃ (m : Addr) (top n : Int) (B : Hp) (M L : List (Addr × HO)), vs = [.ref m, .int top] ∧ Is B M L H ∧ Dr m n B M ∧ n < 2 ^ 38 ∧ 1 ≤ top ∧ top ≤ 12 ∧
  ∀ (p : Addr) (xs : List V) (rs : List StepT) (B' H' : Hp) (M' : List (Addr × HO)), Same B B' → Is B' M' L H' → Dr m (n + 110) B' M' → StepsB B' xs rs → (∀ r ∈ rs, StepG r) → 1 ≤ rs.length → (rs.length : Int) ≤ top → B' p = some (.lst xs) → Q (.ref p) H'
theorem ap_law_drawn_steps {K : PySem.W.Frag} {B H : Hp} {M L : List (Addr × HO)} {Q : VK} {E : XK} {top n : Int} {m : Addr} (I : Is B M L H) (d : Dr m n B M) (h : n < 2 ^ 38) (h1 : 1 ≤ top) (h2 : top ≤ 12) (q : ∀ (p : Addr) (xs : List V) (rs : List StepT) (B' H' : Hp) (M' : List (Addr × HO)), Same B B' → Is B' M' L H' → Dr m (n + 110) B' M' → StepsB B' xs rs → (∀ r ∈ rs, StepG r) → 1 ≤ rs.length → (rs.length : Int) ≤ top → B' p = some (.lst xs) → Q (.ref p) H') : sp_law_drawn_steps K [.ref m, .int top] H Q E :=
  ⟨rfl, m, top, n, B, M, L, rfl, I, d, h, h1, h2, q⟩
abbrev t_law_drawn_steps_0 (K : PySem.W.Frag) : TS := (tDrop (tBM K "list" rAppend (tVar 4) (tCons (tIf (tTr K (tVar 6)) (tOp (rIx K) (tVar 4) (tCl 2 0 (sp_law_draw K) (fun vs zs => pick .non [0, 1] (vs ++ zs)) E0 (tCons (tVar 0) (tCons (tCB (rLen K) (tCons (tVar 4) tNil)) tNil)) tNil)) (tCl 1 0 (sp_law_drawn_step K) (fun vs zs => pick .non [0] (vs ++ zs)) E0 (tCons (tVar 0) tNil) tNil)) tNil)))
abbrev t_law_drawn_steps_1 (K : PySem.W.Frag) : TS := (tSeq (tAsg (tOp (rEqA K) (tCl 2 0 (sp_law_draw K) (fun vs zs => pick .non [0, 1] (vs ++ zs)) E0 (tCons (tVar 0) (tCons (tC (.int 4)) tNil)) tNil) (tC (.int 0))) (gName 6)) (t_law_drawn_steps_0 K))
abbrev t_law_drawn_steps_2 (K : PySem.W.Frag) : TS := (tRet (tVar 4))
abbrev t_law_drawn_steps_3 (K : PySem.W.Frag) : TS := (tSeq (tFor (iRng1 (tCons (tOp (rI0 fun i j => .int (i - j)) (tVar 3) (tC (.int 1))) tNil)) (gName 5) (t_law_drawn_steps_1 K)) (t_law_drawn_steps_2 K))
abbrev t_law_drawn_steps_4 (K : PySem.W.Frag) : TS := (tSeq (tAsg (tLst (tCons (tCl 1 0 (sp_law_drawn_step K) (fun vs zs => pick .non [0] (vs ++ zs)) E0 (tCons (tVar 0) tNil) tNil) tNil)) (gName 4)) (t_law_drawn_steps_3 K))
abbrev t_law_drawn_steps_5 (K : PySem.W.Frag) : TS := (tSeq (tAsg (tOp (rIx K) (tLst (tCons (tOp (rAddA K) (tC (.int 1)) (tCl 2 0 (sp_law_draw K) (fun vs zs => pick .non [0, 1] (vs ++ zs)) E0 (tCons (tVar 0) (tCons (tVar 1) tNil)) tNil)) (tCons (tCB rMin2 (tCons (tVar 1) (tCons (tOp (rAddA K) (tC (.int 1)) (tCl 2 0 (sp_law_draw K) (fun vs zs => pick .non [0, 1] (vs ++ zs)) E0 (tCons (tVar 0) (tCons (tC (.int 3)) tNil)) tNil)) tNil))) (tCons (tVar 1) tNil)))) (tVar 2)) (gName 3)) (t_law_drawn_steps_4 K))
def t_law_drawn_steps (K : PySem.W.Frag) : TS := (tSeq (tAsg (tCl 2 0 (sp_law_draw K) (fun vs zs => pick .non [0, 1] (vs ++ zs)) E0 (tCons (tVar 0) (tCons (tC (.int 3)) tNil)) tNil) (gName 2)) (t_law_drawn_steps_5 K))
theorem rd_law_drawn_steps {K : PySem.W.Frag} (vs : List V) (H : Hp) (Q : VK) (E : XK) (h : sp_law_drawn_steps K vs H Q E) : t_law_drawn_steps K { nx := fun _ H' => Q .non H', rt := Q } (start ["m", "top", "some", "many", "found", "k", "again"] vs) H := by
  obtain ⟨_, m, top, n, B, M, L, rfl, hI, hd, h1, h2, h3, q⟩ := h
  show t_law_drawn_steps K ⟨_, _, _, _⟩ [some (.ref m), some (.int top), none, none, none, none, none] H
  unfold t_law_drawn_steps
  tm_at "go"
  tm_at "draw"
  revert r
  intro some1 hs0 hs1
  tm_at "go"
  tm_at "draw"
  tm_at "go"
  tm_at "draw"
  tm_at "go"
  refine g_ix_ints (lo := 1) (hi := top) (by tm_at "sq") (by repeat (first | exact Ints.nil | refine Ints.cons (by omega) ?_)) hs0 (by tm_at "arith") ?_
  intro many hm0 hm1
  tm_at "go"
  replace hI := hI.forget (L' := L) (by tm_at "sub")
  refine' ap_law_drawn_step (K := K) hI hd (by omega) ?_
  clear hI hd
  intro v0 r0 B1 H M s1 hI hd hg0 hv0
  tm_at "go"
  obtain ⟨found, rfl⟩ : ∃ q, q = p := ⟨_, rfl⟩
  have hd : Dr m (n + 10 + 9 * ((0 : Nat) : Int)) B1 M := hd.mono (by omega)
  refine' g_aFor walk_range (fun i σ H => ∃ (c d : Option V) (xs : List V) (rs : List StepT) (B2 : Hp) (M : List (Addr × HO)), σ = [some (.ref m), some (.int top), some (.int some1), some (.int many), some (.ref found), c, d] ∧ Same B1 B2 ∧ Is B2 M ((found, .lst xs) :: L) H ∧ Dr m (n + 10 + 9 * (i : Int)) B2 M ∧ StepsB B2 xs rs ∧ (∀ r ∈ rs, StepG r) ∧ rs.length = i + 1)
    ⟨_, _, [v0], [r0], B1, M, rfl, fun _ _ h => h, hI, hd, .cons hv0 .nil, fun r hr => by rw [List.mem_singleton.mp hr]; exact hg0, rfl⟩ (fun _ _ _ _ _ => trivial) ?_ ?_
  · rintro i x σ H H' hi ⟨c, d, xs, rs, B2, M, rfl, s2, hI, hd, hr, hg, hl⟩ ⟨rfl, rfl⟩
    have hi : i < (many - 1).toNat := hi
    have hlx := hr.len
    tm_at "go"
    tm_at "draw"
    tm_at "go"
    refine g_dec (fun _ => ?_) (fun _ => ?_)
    · tm_at "go"
      tm_at "draw"
      revert r
      intro spot hp0 hp1
      have hlt : spot.toNat < rs.length := by omega
      obtain ⟨y, hy, hyr⟩ := hr.get' (List.getElem?_eq_getElem hlt)
      refine g_ix_l (by tm_at "sq") (atI_of hp0 hy) ?_
      tm_at "go"
      refine ⟨_, _, _, _, B2, M, rfl, s2, hI, hd.mono (by omega), hr.snoc hyr, fun r hr' => ?_, by simp [hl]⟩
      rcases List.mem_append.mp hr' with h | h
      · exact hg r h
      · rw [List.mem_singleton.mp h]
        exact hg _ (List.getElem_mem hlt)
    · tm_at "go"
      refine' ap_law_drawn_step (K := K) hI hd (by omega) ?_
      clear hI hd
      intro v r' B3 H M s3 hI hd hg' hv
      tm_at "go"
      refine ⟨_, _, _, _, B3, M, rfl, s2.trans s3, hI, hd.mono (by omega), (hr.same s3).snoc hv, fun r hr' => ?_, by simp [hl]⟩
      rcases List.mem_append.mp hr' with h | h
      · exact hg r h
      · rw [List.mem_singleton.mp h]
        exact hg'
  · rintro σ H ⟨c, d, xs, rs, B2, M, rfl, s2, hI, hd, hr, hg, hl⟩
    have hl : rs.length = (many - 1).toNat + 1 := hl
    tm_at "go"
    refine' hI.give .here ?_
    clear hI
    intro B3 s3 hp hI
    exact q found xs rs B3 _ _ ((s1.trans s2).trans s3) hI ((hd.mono (by omega)).same s3) (hr.same s3) hg (by omega) (by omega) hp
/-! ### plain styles, plain jobs -/
structure PlainS (B : Hp) (p : Addr) (nm : Str) (rs : List StepT) : Prop where
  ex : ∃ (a : Addr) (xs : List V), B p = some (.tup [.str nm, .ref a]) ∧ B a = some (.lst xs) ∧ StepsB B xs rs
  good : GoodT nm rs
theorem PlainS.same {B B' : Hp} {p : Addr} {nm : Str} {rs : List StepT} (h : PlainS B p nm rs) (e : Same B B') : PlainS B' p nm rs := by
  obtain ⟨⟨a, xs, h1, h2, h3⟩, g⟩ := h
  exact ⟨⟨a, xs, e _ _ h1, e _ _ h2, h3.same e⟩, g⟩
structure PlainJ (B : Hp) (p : Addr) (j : JobT) : Prop where
  ex : ∃ s : Addr, B p = some (.tup [.int j.n, .ref s, .int j.c, .int j.w, .bl j.q]) ∧ PlainS B s j.nm j.rs
  good : GoodJ j
theorem PlainJ.same {B B' : Hp} {p : Addr} {j : JobT} (h : PlainJ B p j) (e : Same B B') : PlainJ B' p j := by
  obtain ⟨⟨s, h1, h2⟩, g⟩ := h
  exact ⟨⟨s, e _ _ h1, h2.same e⟩, g⟩
abbrev JobsB (B : Hp) (xs : List V) (js : List JobT) : Prop := All2 (fun v j => ∃ a, v = .ref a ∧ PlainJ B a j) xs js
theorem JobsB.same {B B' : Hp} {xs : List V} {js : List JobT} (h : JobsB B xs js) (e : Same B B') : JobsB B' xs js := All2.mono (fun _ _ ⟨a, e1, h1⟩ => ⟨a, e1, h1.same e⟩) h
def IsPS (B : Hp) (x : V) : Prop := ∃ a nm rs, x = .ref a ∧ PlainS B a nm rs
theorem IsPS.same {B B' : Hp} {x : V} (h : IsPS B x) (e : Same B B') : IsPS B' x := by
  obtain ⟨a, nm, rs, rfl, h⟩ := h
  exact ⟨a, nm, rs, rfl, h.same e⟩
/-! as data -/
def plainD (j : JobT) : PyData := .tuple [.int j.n, .tuple [.str j.nm, .list (j.rs.map stepD)], .int j.c, .int j.w, .bool j.q]
theorem dp_plain {K : PySem.W.Frag} {B H : Hp} (e : Same B H) {x : Addr} {j : JobT} (h : PlainJ B x j) : Dp K H (.ref x) (plainD j) := by
  obtain ⟨⟨s, h1, ⟨a, xs, p1, p2, p3⟩, _⟩, _⟩ := h
  exact .tup (SqT.of (e _ _ h1)) (.cons (.int _) (.cons (.tup (SqT.of (e _ _ p1)) (.cons (.str _) (.cons (.lst (SqL.of (e _ _ p2)) (dp_steps e p3)) .nil))) (.cons (.int _) (.cons (.int _) (.cons (.bl _) .nil)))))
theorem dp_plains {K : PySem.W.Frag} {B H : Hp} (e : Same B H) : ∀ {xs : List V} {js : List JobT}, JobsB B xs js → DpAll K H xs (js.map plainD)
  | _, _, .nil => .nil
  | _, _, .cons ⟨a, rfl, h⟩ t => .cons (dp_plain e h) (dp_plains e t)
theorem name_short {z : Str} (h : isName (.str z) = true) : z.length ≤ 8 ∧ 1 ≤ z.length := by
  have h : (decide (1 ≤ (z.length : Int)) && (decide ((z.length : Int) ≤ 8) && (!inV (.str z) barVs && z.cps.toList.all fun c => decide (c ∈ letS.cps.toList)))) = true := h
  rw [Bool.and_eq_true, Bool.and_eq_true] at h
  have h1 := of_decide_eq_true h.1
  have h2 := of_decide_eq_true h.2.1
  omega
theorem name_letters {z : Str} (h : isName (.str z) = true) : ∀ c ∈ z.cps.toList, c ∈ letS.cps.toList := by
  have h : (decide (1 ≤ (z.length : Int)) && (decide ((z.length : Int) ≤ 8) && (!inV (.str z) barVs && z.cps.toList.all fun c => decide (c ∈ letS.cps.toList)))) = true := h
  rw [Bool.and_eq_true, Bool.and_eq_true, Bool.and_eq_true] at h
  exact fun c hc => of_decide_eq_true (List.all_eq_true.mp h.2.2.2 c hc)
theorem name_lets {z : Str} (h : isName (.str z) = true) : Lets z.length z := ⟨Nat.le_refl _, name_letters h⟩
theorem shn_plain {j : JobT} (g : GoodJ j) : ∃ n, n ≤ 70000 ∧ Shn (plainD j) n 5 := by
  obtain ⟨n, hn1, hn⟩ := shn_steps j.rs g.t.row
  have h1 := g.t.l1
  obtain ⟨_, g1, g2, g3, g4, g5, g6⟩ := id g
  have hs := name_short g.t.nm.1
  have hl := (name_lets g.t.nm.1).sh
  refine ⟨_, ?_, .tup (.cons (shn_int (by omega) (by omega)) (.cons (.tup (.cons (.str hl.2) (.cons (.lst hn) .nil))) (.cons (shn_int (by omega) (by omega)) (.cons (shn_int (by omega) (by omega)) (.cons .bl .nil)))))⟩
  omega
theorem shn_plains : ∀ (js : List JobT), (∀ j ∈ js, GoodJ j) → ∃ n, n ≤ 80000 * js.length ∧ ShnAll (js.map plainD) n 5
  | [], _ => ⟨0, by simp, .nil⟩
  | j :: js, h => by
    obtain ⟨n, hn1, hn⟩ := shn_plains js fun x hx => h x (List.mem_cons_of_mem _ hx)
    obtain ⟨k, hk1, hk⟩ := shn_plain (h j List.mem_cons_self)
    exact ⟨_, by rw [List.length_cons]; omega, .cons hk hn⟩
theorem JobsB.good {B : Hp} : ∀ {xs : List V} {js : List JobT}, JobsB B xs js → ∀ j ∈ js, GoodJ j
  | _, _, .nil, j, h => by cases h
  | _, _, .cons ⟨a, e, h⟩ t, j, hj => by
    rcases List.mem_cons.mp hj with rfl | hj
    · exact h.good
    · exact JobsB.good t j hj
theorem g_ne_nilD {K : PySem.W.Frag} {H : Hp} {Q : VK} {a b : Addr} {xs : List V} {ds : List PyData} {n k : Nat} (h1 : SqL K H a xs) (hd : DpAll K H xs ds) (hs : ShnAll ds n k) (hk : k ≤ 50) (h2 : SqL K H b []) (q : Q (.bl (!decide (ds = []))) H) : rNeA K (.ref a) (.ref b) H Q := by
  refine g_ne_d (.lst h1 hd) (.lst h2 .nil) (Shn.shaped (.lst hs) (by omega)) (by decide) ?_
  cases ds with
  | nil => exact q
  | cons d ds =>
    have e : PyData.eqv (.list (d :: ds)) (.list []) = false := by simp [PyData.eqv, PyData.eqvAll]
    rw [e]
    rw [decide_eq_false (by exact fun z => by cases z)] at q
    exact q
theorem g_eq_nilD {K : PySem.W.Frag} {H : Hp} {Q : VK} {a b : Addr} {xs : List V} {ds : List PyData} {n k : Nat} (h1 : SqL K H a xs) (hd : DpAll K H xs ds) (hs : ShnAll ds n k) (hk : k ≤ 50) (h2 : SqL K H b []) (q : Q (.bl (decide (ds = []))) H) : rEqA K (.ref a) (.ref b) H Q := by
  refine g_eq_d (.lst h1 hd) (.lst h2 .nil) (Shn.shaped (.lst hs) (by omega)) (by decide) ?_
  cases ds with
  | nil => exact q
  | cons d ds =>
    have e : PyData.eqv (.list (d :: ds)) (.list []) = false := by simp [PyData.eqv, PyData.eqvAll]
    rw [e]
    rw [decide_eq_false (by exact fun z => by cases z)] at q
    exact q
/-! kinds -/
theorem cps_lit (c : Nat) (z : Str) : ∀ w : Str, w.cps.toList = [c] → (z ++ w).cps.toList = z.cps.toList ++ [c] := fun w h => by rw [cps_app, h]
theorem name_more {z w : Str} {c : Nat} (h : isName (.str z) = true) (hl : z.length < 8) (hw : w.cps.toList = [c]) (hc : c = 97 ∨ c = 122) : isName (.str (z ++ w)) = true ∧ plainS (z ++ w) := by
  have hn := name_short h
  have hwl : Lets 1 w := by
    refine ⟨?_, fun d hd => ?_⟩
    · show w.cps.size ≤ 1
      rw [← Array.length_toList, hw]
      exact Nat.le_refl _
    · rw [hw, List.mem_singleton] at hd
      rw [hd]
      rcases hc with rfl | rfl <;> decide +kernel
  have hL := (name_lets h).add hwl
  have hb : inV (.str (z ++ w)) barVs = false := by
    cases e : inV (.str (z ++ w)) barVs with
    | false => rfl
    | true =>
      exfalso
      unfold inV at e
      obtain ⟨y, hy, e⟩ := List.any_eq_true.mp e
      have key : ∀ y ∈ barVs, ∃ u : Str, y = .str u ∧ u.cps.toList.getLast? ≠ some 97 ∧ u.cps.toList.getLast? ≠ some 122 := by
        intro y hy
        have : y ∈ [V.str "style", .str "job", .str "round", .str "sew", .str "glue", .str "cover", .str "letter", .str "press", .str "hand", .str "haste"] := hy
        simp only [List.mem_cons, List.not_mem_nil, or_false] at this
        rcases this with rfl | rfl | rfl | rfl | rfl | rfl | rfl | rfl | rfl | rfl <;> exact ⟨_, rfl, by decide +kernel, by decide +kernel⟩
      obtain ⟨u, rfl, k1, k2⟩ := key y hy
      have e2 : u = z ++ w := eq_of_beq (show (u == z ++ w) = true from e)
      rw [e2, cps_lit c z w hw, List.getLast?_concat] at k1 k2
      rcases hc with rfl | rfl
      · exact k1 rfl
      · exact k2 rfl
  have hlen : (z ++ w).length = z.length + 1 := by
    rw [len_app]
    show _ + w.cps.size = _
    rw [← Array.length_toList, hw]
    rfl
  exact ⟨hL.name (by omega) (by omega) hb, hL.sh.plain (by omega)⟩
def sp_law_kinds (K : PySem.W.Frag) : Sp := fun vs H Q _ => vs.length = 1 ∧ ∃ (m : Addr) (n : Int) (B : Hp) (M L : List (Addr × HO)), vs = [.ref m] ∧ Is B M L H ∧ Dr m n B M ∧ n < 2 ^ 37 ∧
  ∀ (p : Addr) (xs : List V) (B' H' : Hp) (M' : List (Addr × HO)), Same B B' → Is B' M' L H' → Dr m (n + 400) B' M' → B' p = some (.lst xs) → (∀ x ∈ xs, IsPS B' x) → 4 ≤ xs.length → xs.length ≤ 6 → Q (.ref p) H'
theorem ap_law_kinds {K : PySem.W.Frag} {B H : Hp} {M L : List (Addr × HO)} {Q : VK} {E : XK} {n : Int} {m : Addr} (I : Is B M L H) (d : Dr m n B M) (h : n < 2 ^ 37) (q : ∀ (p : Addr) (xs : List V) (B' H' : Hp) (M' : List (Addr × HO)), Same B B' → Is B' M' L H' → Dr m (n + 400) B' M' → B' p = some (.lst xs) → (∀ x ∈ xs, IsPS B' x) → 4 ≤ xs.length → xs.length ≤ 6 → Q (.ref p) H') : sp_law_kinds K [.ref m] H Q E :=
  ⟨rfl, m, n, B, M, L, rfl, I, d, h, q⟩
abbrev t_law_kinds_0 (K : PySem.W.Frag) : TS := (tRet (tVar 3))
abbrev t_law_kinds_1 (K : PySem.W.Frag) : TS := (tSeq (tIfS (tTest (tOp (rI0 fun i j => .bl (decide (i < j))) (tCB (rLen K) (tCons (tVar 2) tNil)) (tC (.int 8)))) (tDrop (tBM K "list" rAppend (tVar 3) (tCons (tTup (tCons (tOp (rAddA K) (tVar 2) (tC (.str "z"))) (tCons (tOp (rIx K) (tOp (rIx K) (tVar 3) (tC (.int 2))) (tC (.int 1))) tNil))) tNil))) tNext) (t_law_kinds_0 K))
abbrev t_law_kinds_2 (K : PySem.W.Frag) : TS := (tSeq (tIfS (tTest (tOp (rI0 fun i j => .bl (decide (i < j))) (tCB (rLen K) (tCons (tVar 1) tNil)) (tC (.int 8)))) (tDrop (tBM K "list" rAppend (tVar 3) (tCons (tTup (tCons (tOp (rAddA K) (tVar 1) (tC (.str "a"))) (tCons (tOp (rIx K) (tOp (rIx K) (tVar 3) (tC (.int 0))) (tC (.int 1))) tNil))) tNil))) tNext) (t_law_kinds_1 K))
abbrev t_law_kinds_3 (K : PySem.W.Frag) : TS := (tSeq (tDrop (tBM K "list" rAppend (tVar 3) (tCons (tTup (tCons (tCl 1 0 (sp_law_title K) (fun vs zs => pick .non [0] (vs ++ zs)) E0 (tCons (tVar 0) tNil) tNil) (tCons (tOp (rIx K) (tOp (rIx K) (tVar 3) (tC (.int 2))) (tC (.int 1))) tNil))) tNil))) (t_law_kinds_2 K))
abbrev t_law_kinds_4 (K : PySem.W.Frag) : TS := (tSeq (tAsg (tLst (tCons (tTup (tCons (tVar 1) (tCons (tCl 2 0 (sp_law_drawn_steps K) (fun vs zs => pick .non [0, 1] (vs ++ zs)) E0 (tCons (tVar 0) (tCons (tC (.int 3)) tNil)) tNil) tNil))) (tCons (tTup (tCons (tVar 1) (tCons (tCl 2 0 (sp_law_drawn_steps K) (fun vs zs => pick .non [0, 1] (vs ++ zs)) E0 (tCons (tVar 0) (tCons (tC (.int 2)) tNil)) tNil) tNil))) (tCons (tTup (tCons (tVar 2) (tCons (tCl 2 0 (sp_law_drawn_steps K) (fun vs zs => pick .non [0, 1] (vs ++ zs)) E0 (tCons (tVar 0) (tCons (tC (.int 12)) tNil)) tNil) tNil))) tNil)))) (gName 3)) (t_law_kinds_3 K))
def t_law_kinds (K : PySem.W.Frag) : TS := (tSeq (tPar 1 2 (tCons (tCl 1 0 (sp_law_title K) (fun vs zs => pick .non [0] (vs ++ zs)) E0 (tCons (tVar 0) tNil) tNil) (tCons (tCl 1 0 (sp_law_title K) (fun vs zs => pick .non [0] (vs ++ zs)) E0 (tCons (tVar 0) tNil) tNil) tNil))) (t_law_kinds_4 K))
theorem rd_law_kinds {K : PySem.W.Frag} (vs : List V) (H : Hp) (Q : VK) (E : XK) (h : sp_law_kinds K vs H Q E) : t_law_kinds K { nx := fun _ H' => Q .non H', rt := Q } (start ["m", "word", "other", "found"] vs) H := by
  obtain ⟨_, m, n, B, M, L, rfl, hI, hd, h1, q⟩ := h
  show t_law_kinds K ⟨_, _, _, _⟩ [some (.ref m), none, none, none] H
  unfold t_law_kinds
  tm_at "go"
  refine' ap_law_title (K := K) hI hd (by omega) ?_
  clear hI hd
  intro w1 H M hI hd n1 l1
  tm_at "go"
  refine' ap_law_title (K := K) hI hd (by omega) ?_
  clear hI hd
  intro w2 H M hI hd n2 l2
  tm_at "go"
  refine' ap_law_drawn_steps (K := K) hI hd (by omega) (by decide) (by decide) ?_
  clear hI hd
  intro p1 x1 r1 B1 H M s1 hI hd h11 h12 h13 h14 h15
  tm_at "go"
  obtain ⟨k1, rfl⟩ : ∃ q, q = p := ⟨_, rfl⟩
  refine' hI.give .here ?_
  clear hI
  intro B2 t1 e1 hI
  have P1 : PlainS B2 k1 w1 r1 := ⟨⟨p1, x1, e1, t1 _ _ h15, h11.same t1⟩, ⟨n1, l1⟩, h13, by omega, h12⟩
  replace hd := hd.same t1
  refine' ap_law_drawn_steps (K := K) hI hd (by omega) (by decide) (by decide) ?_
  clear hI hd
  intro p2 x2 r2 B3 H M s2 hI hd h21 h22 h23 h24 h25
  tm_at "go"
  obtain ⟨k2, rfl⟩ : ∃ q, q = p := ⟨_, rfl⟩
  refine' hI.give .here ?_
  clear hI
  intro B4 t2 e2 hI
  have P2 : PlainS B4 k2 w1 r2 := ⟨⟨p2, x2, e2, t2 _ _ h25, h21.same t2⟩, ⟨n1, l1⟩, h23, by omega, h22⟩
  replace hd := hd.same t2
  refine' ap_law_drawn_steps (K := K) hI hd (by omega) (by decide) (by decide) ?_
  clear hI hd
  intro p3 x3 r3 B5 H M s3 hI hd h31 h32 h33 h34 h35
  tm_at "go"
  obtain ⟨found, rfl⟩ : ∃ q, q = p := ⟨_, rfl⟩
  obtain ⟨k3, rfl⟩ : ∃ q, q = p := ⟨_, rfl⟩
  refine' hI.give (a := k3) (by tm_at "del") ?_
  clear hI
  intro B6 t3 e3 hI
  have P3 : PlainS B6 k3 w2 r3 := ⟨⟨p3, x3, e3, t3 _ _ h35, h31.same t3⟩, ⟨n2, l2⟩, h33, by omega, h32⟩
  replace hd := hd.same t3
  tm_at "go"
  refine' ap_law_title (K := K) hI hd (by omega) ?_
  clear hI hd
  intro w4 H M hI hd n4 l4
  tm_at "go"
  refine g_ix_l (by tm_at "sq") (atI_of (by decide) rfl) ?_
  tm_at "go"
  refine g_ix_t (SqT.of (hI.b e3)) (atI_of (by decide) rfl) ?_
  tm_at "go"
  obtain ⟨k4, rfl⟩ : ∃ q, q = p := ⟨_, rfl⟩
  refine' hI.give (a := k4) (by tm_at "del") ?_
  clear hI
  intro B7 t4 e4 hI
  have P4 : PlainS B7 k4 w4 r3 := ⟨⟨p3, x3, e4, t4 _ _ (t3 _ _ h35), h31.same (t3.trans t4)⟩, ⟨n4, l4⟩, h33, by omega, h32⟩
  replace hd := hd.same t4
  replace P3 := P3.same t4
  replace P2 := P2.same ((s3.trans t3).trans t4)
  replace P1 := P1.same (((((s2.trans t2).trans s3).trans t3).trans t4))
  have sA := (((((s1.trans t1).trans s2).trans t2).trans s3).trans t3).trans t4
  have hd : Dr m (n + 400) B7 M := hd.mono (by omega)
  have hall : ∀ x ∈ [V.ref k1, V.ref k2, V.ref k3, V.ref k4], IsPS B7 x := fun x hx => by
    simp only [List.mem_cons, List.not_mem_nil, or_false] at hx
    rcases hx with rfl | rfl | rfl | rfl
    · exact ⟨_, _, _, rfl, P1⟩
    · exact ⟨_, _, _, rfl, P2⟩
    · exact ⟨_, _, _, rfl, P3⟩
    · exact ⟨_, _, _, rfl, P4⟩
  clear h1 s1 t1 s2 t2 s3 t3 t4 h11 h21 P4 P2 e1 e2 e3 e4 h15 h25
  have fin : ∀ (B8 H : Hp) (M : List (Addr × HO)) (xs : List V), Same B B8 → Is B8 M ((found, .lst xs) :: L) H → Dr m (n + 400) B8 M → (∀ x ∈ xs, IsPS B8 x) → 4 ≤ xs.length → xs.length ≤ 6 → Q (.ref found) H := by
    intro B8 H M xs s8 hI hd hx l0 l1
    refine' hI.give .here ?_
    clear hI
    intro B9 s9 e9 hI
    exact q found xs B9 H M (s8.trans s9) hI (hd.same s9) e9 (fun x h => (hx x h).same s9) l0 l1
  have mid : ∀ (B8 H : Hp) (M : List (Addr × HO)) (xs : List V), Same B B8 → Is B8 M ((found, .lst xs) :: L) H → Dr m (n + 400) B8 M → (∀ x ∈ xs, IsPS B8 x) → 4 ≤ xs.length → xs.length ≤ 5 → xs[2]? = some (V.ref k3) → PlainS B8 k3 w2 r3 → (if decide ((w2.length : Int) < 8) = true then tDrop (tBM K "list" rAppend (tVar 3) (tCons (tTup (tCons (tOp (rAddA K) (tVar 2) (tC (.str "z"))) (tCons (tOp (rIx K) (tOp (rIx K) (tVar 3) (tC (.int 2))) (tC (.int 1))) tNil))) tNil)) { nx := fun σ H => t_law_kinds_0 K { nx := fun x H' => Q V.non H', rt := Q } σ H, rt := Q } [some (V.ref m), some (V.str w1), some (V.str w2), some (V.ref found)] H else tNext { nx := fun σ H => t_law_kinds_0 K { nx := fun x H' => Q V.non H', rt := Q } σ H, rt := Q } [some (V.ref m), some (V.str w1), some (V.str w2), some (V.ref found)] H) := by
    intro B8 H M xs s8 hI hd hx l0 l1 e2 P3
    obtain ⟨⟨a3, y3, u1, u2, u3⟩, _⟩ := id P3
    refine g_dec (fun hlt => ?_) (fun _ => ?_)
    · tm_at "go"
      refine g_add_sh (name_lets n2).sh (Sh.lit (n := 1) (by decide +kernel)) (by omega) ?_
      intro _
      tm_at "go"
      refine g_ix_l (by tm_at "sq") (atI_of (by decide) e2) ?_
      tm_at "go"
      refine g_ix_t (SqT.of (hI.b u1)) (atI_of (by decide) rfl) ?_
      tm_at "go"
      obtain ⟨k6, rfl⟩ : ∃ q, q = p := ⟨_, rfl⟩
      refine' hI.give (a := k6) (by tm_at "del") ?_
      clear hI
      intro B9 t6 e6 hI
      obtain ⟨nz, lz⟩ := name_more (w := "z") (c := 122) n2 (by omega) (by decide +kernel) (.inr rfl)
      have P6 : PlainS B9 k6 (w2 ++ "z") r3 := ⟨⟨a3, y3, e6, t6 _ _ u2, u3.same t6⟩, ⟨nz, lz⟩, h33, by omega, h32⟩
      refine fin B9 _ M _ (s8.trans t6) hI (hd.same t6) (fun x h => ?_) (by rw [List.length_append]; omega) (by rw [List.length_append, List.length_singleton]; omega)
      rcases List.mem_append.mp h with h | h
      · exact (hx x h).same t6
      · rw [List.mem_singleton.mp h]
        exact ⟨_, _, _, rfl, P6⟩
    · tm_at "go"
      exact fin B8 _ M xs s8 hI hd hx l0 (by omega)
  obtain ⟨⟨a1, y1, v1, v2, v3⟩, _⟩ := id P1
  tm_at "go"
  refine g_dec (fun hlt => ?_) (fun _ => ?_)
  · tm_at "go"
    refine g_add_sh (name_lets n1).sh (Sh.lit (n := 1) (by decide +kernel)) (by omega) ?_
    intro _
    tm_at "go"
    refine g_ix_l (by tm_at "sq") (atI_of (by decide) rfl) ?_
    tm_at "go"
    refine g_ix_t (SqT.of (hI.b v1)) (atI_of (by decide) rfl) ?_
    tm_at "go"
    obtain ⟨k5, rfl⟩ : ∃ q, q = p := ⟨_, rfl⟩
    refine' hI.give (a := k5) (by tm_at "del") ?_
    clear hI
    intro B9 t6 e6 hI
    obtain ⟨nz, lz⟩ := name_more (w := "a") (c := 97) n1 (by omega) (by decide +kernel) (.inl rfl)
    have P6 : PlainS B9 k5 (w1 ++ "a") r1 := ⟨⟨a1, y1, e6, t6 _ _ v2, v3.same t6⟩, ⟨nz, lz⟩, h13, by omega, h12⟩
    refine mid B9 _ M _ (sA.trans t6) hI (hd.same t6) (fun x h => ?_) (by simp) (by simp) rfl (P3.same t6)
    rcases List.mem_append.mp h with h | h
    · exact (hall x h).same t6
    · rw [List.mem_singleton.mp h]
      exact ⟨_, _, _, rfl, P6⟩
  · tm_at "go"
    exact mid B7 _ M _ sA hI hd hall (by simp) (by simp) rfl P3
def sp_law_plain_job (K : PySem.W.Frag) : Sp := fun vs H Q _ => vs.length = 3 ∧ ∃ (m st : Addr) (ss : List V) (few n : Int) (B : Hp) (M L : List (Addr × HO)), vs = [.ref m, .ref st, .int few] ∧ Is B M L H ∧ Dr m n B M ∧ n < 2 ^ 37 ∧ 1 ≤ few ∧ few ≤ 99999 ∧ B st = some (.lst ss) ∧ (∀ x ∈ ss, IsPS B x) ∧ 4 ≤ ss.length ∧ ss.length ≤ 6 ∧
  ∀ (x : Addr) (j : JobT) (B' H' : Hp) (M' : List (Addr × HO)), Same B B' → Is B' M' L H' → Dr m (n + 9) B' M' → PlainJ B' x j → Q (.ref x) H'
theorem ap_law_plain_job {K : PySem.W.Frag} {B H : Hp} {M L : List (Addr × HO)} {Q : VK} {E : XK} {m st : Addr} {ss : List V} {few n : Int} (I : Is B M L H) (d : Dr m n B M) (h : n < 2 ^ 37) (h1 : 1 ≤ few) (h2 : few ≤ 99999) (hs : B st = some (.lst ss)) (hS : ∀ x ∈ ss, IsPS B x) (hs1 : 4 ≤ ss.length) (hs2 : ss.length ≤ 6) (q : ∀ (x : Addr) (j : JobT) (B' H' : Hp) (M' : List (Addr × HO)), Same B B' → Is B' M' L H' → Dr m (n + 9) B' M' → PlainJ B' x j → Q (.ref x) H') : sp_law_plain_job K [.ref m, .ref st, .int few] H Q E :=
  ⟨rfl, m, st, ss, few, n, B, M, L, rfl, I, d, h, h1, h2, hs, hS, hs1, hs2, q⟩
abbrev t_law_plain_job_0 (K : PySem.W.Frag) : TS := (tRet (tTup (tCons (tVar 3) (tCons (tOp (rIx K) (tVar 1) (tCl 2 0 (sp_law_draw K) (fun vs zs => pick .non [0, 1] (vs ++ zs)) E0 (tCons (tVar 0) (tCons (tCB (rLen K) (tCons (tVar 1) tNil)) tNil)) tNil)) (tCons (tVar 4) (tCons (tVar 5) (tCons (tOp (rEqA K) (tCl 2 0 (sp_law_draw K) (fun vs zs => pick .non [0, 1] (vs ++ zs)) E0 (tCons (tVar 0) (tCons (tC (.int 3)) tNil)) tNil) (tC (.int 0))) tNil)))))))
abbrev t_law_plain_job_1 (K : PySem.W.Frag) : TS := (tSeq (tAsg (tCB rMin2 (tCons (tOp (rI CPow fun i j => .int (i ^ j.toNat)) (tC (.int 10)) (tC (.int 6))) (tCons (tOp (rAddA K) (tVar 4) (tCl 2 0 (sp_law_draw K) (fun vs zs => pick .non [0, 1] (vs ++ zs)) E0 (tCons (tVar 0) (tCons (tOp (rIx K) (tLst (tCons (tC (.int 1)) (tCons (tC (.int 2)) (tCons (tC (.int 12000)) tNil)))) (tCl 2 0 (sp_law_draw K) (fun vs zs => pick .non [0, 1] (vs ++ zs)) E0 (tCons (tVar 0) (tCons (tC (.int 3)) tNil)) tNil)) tNil)) tNil)) tNil))) (gName 5)) (t_law_plain_job_0 K))
abbrev t_law_plain_job_2 (K : PySem.W.Frag) : TS := (tSeq (tIfS (tTest (tOp (rEqA K) (tCl 2 0 (sp_law_draw K) (fun vs zs => pick .non [0, 1] (vs ++ zs)) E0 (tCons (tVar 0) (tCons (tC (.int 4)) tNil)) tNil) (tC (.int 0)))) (tAsg (tOp (rI0 fun i j => .int (i - j)) (tOp (rI CPow fun i j => .int (i ^ j.toNat)) (tC (.int 10)) (tC (.int 6))) (tCl 2 0 (sp_law_draw K) (fun vs zs => pick .non [0, 1] (vs ++ zs)) E0 (tCons (tVar 0) (tCons (tC (.int 3)) tNil)) tNil)) (gName 4)) tNext) (t_law_plain_job_1 K))
abbrev t_law_plain_job_3 (K : PySem.W.Frag) : TS := (tSeq (tAsg (tCl 2 0 (sp_law_draw K) (fun vs zs => pick .non [0, 1] (vs ++ zs)) E0 (tCons (tVar 0) (tCons (tOp (rIx K) (tLst (tCons (tC (.int 2)) (tCons (tC (.int 3)) (tCons (tOp (rI0 fun i j => .int (i - j)) (tOp (rI CPow fun i j => .int (i ^ j.toNat)) (tC (.int 10)) (tC (.int 6))) (tC (.int 12000))) tNil)))) (tCl 2 0 (sp_law_draw K) (fun vs zs => pick .non [0, 1] (vs ++ zs)) E0 (tCons (tVar 0) (tCons (tC (.int 3)) tNil)) tNil)) tNil)) tNil) (gName 4)) (t_law_plain_job_2 K))
def t_law_plain_job (K : PySem.W.Frag) : TS := (tSeq (tAsg (tOp (rAddA K) (tC (.int 1)) (tCl 2 0 (sp_law_draw K) (fun vs zs => pick .non [0, 1] (vs ++ zs)) E0 (tCons (tVar 0) (tCons (tVar 2) tNil)) tNil)) (gName 3)) (t_law_plain_job_3 K))
theorem rd_law_plain_job {K : PySem.W.Frag} (vs : List V) (H : Hp) (Q : VK) (E : XK) (h : sp_law_plain_job K vs H Q E) : t_law_plain_job K { nx := fun _ H' => Q .non H', rt := Q } (start ["m", "plains", "few", "figure", "came", "end"] vs) H := by
  obtain ⟨_, m, st, ss, few, n, B, M, L, rfl, hI, hd, h1, f0, f1, hst, hS, hs1, hs2, q⟩ := h
  show t_law_plain_job K ⟨_, _, _, _⟩ [some (.ref m), some (.ref st), some (.int few), none, none, none] H
  unfold t_law_plain_job
  tm_at "go"
  tm_at "draw"
  revert r
  intro fig fg0 fg1
  tm_at "go"
  tm_at "draw"
  refine g_ix_ints (lo := 2) (hi := 988000) (by tm_at "sq") (by repeat (first | exact Ints.nil | refine Ints.cons (by omega) ?_)) (by omega) (by tm_at "arith") ?_
  intro wide w0 w1
  tm_at "go"
  tm_at "draw"
  revert r
  intro came c0 c1
  replace hI := hI.forget (L' := L) (by tm_at "sub")
  tm_at "go"
  tm_at "draw"
  have rest : ∀ (came : Int) (H : Hp) (M : List (Addr × HO)), 0 ≤ came → came ≤ 1000000 → Is B M L H → Dr m (n + 5) B M → t_law_plain_job_1 K { nx := fun x H' => Q V.non H', rt := Q } [some (.ref m), some (.ref st), some (.int few), some (.int (1 + fig)), some (.int came), none] H := by
    intro came H M c0 c1 hI hd
    tm_at "go"
    tm_at "draw"
    refine g_ix_ints (lo := 1) (hi := 12000) (by tm_at "sq") (by repeat (first | exact Ints.nil | refine Ints.cons (by omega) ?_)) (by omega) (by tm_at "arith") ?_
    intro u u0 u1
    tm_at "go"
    tm_at "draw"
    revert r
    intro more m0 m1
    replace hI := hI.forget (L' := L) (by tm_at "sub")
    tm_at "go"
    tm_at "draw"
    refine g_ix_all (IsPS B) (by tm_at "sq") hS (by omega) (by tm_at "arith") ?_
    rintro _ ⟨p, nm, rs, rfl, hP⟩
    tm_at "go"
    tm_at "draw"
    tm_at "go"
    obtain ⟨x, rfl⟩ : ∃ q, q = p := ⟨_, rfl⟩
    refine' hI.give .here ?_
    clear hI
    intro B2 s2 hx hI
    exact q x ⟨1 + fig, nm, rs, came, min 1000000 (came + more), decide (V.int r = V.int 0)⟩ B2 H M s2 hI ((hd.mono (by omega)).same s2) ⟨⟨_, hx, hP.same s2⟩, hP.good, by show 1 ≤ 1 + fig; omega, by show 1 + fig ≤ 99999; omega, c0, c1, by show came ≤ min 1000000 (came + more); omega, by show min 1000000 (came + more) ≤ 1000000; omega⟩
  tm_at "go"
  refine g_dec (fun _ => ?_) (fun _ => ?_)
  · tm_at "go"
    tm_at "draw"
    refine' g_rI0 ?_
    tm_at "stop"
    exact rest (1000000 - r) _ _ (by omega) (by omega) hI (hd.mono (by omega))
  · tm_at "next"
    exact rest came _ _ c0 (by omega) hI (hd.mono (by omega))
def sp_law_plain_jobs (K : PySem.W.Frag) : Sp := fun vs H Q _ => vs.length = 3 ∧ ∃ (m st : Addr) (ss : List V) (top n : Int) (B : Hp) (M L : List (Addr × HO)), vs = [.ref m, .ref st, .int top] ∧ Is B M L H ∧ Dr m n B M ∧ n < 2 ^ 36 ∧ 1 ≤ top ∧ top ≤ 16 ∧ B st = some (.lst ss) ∧ (∀ x ∈ ss, IsPS B x) ∧ 4 ≤ ss.length ∧ ss.length ≤ 6 ∧
  ∀ (p : Addr) (xs : List V) (js : List JobT) (B' H' : Hp) (M' : List (Addr × HO)), Same B B' → Is B' M' L H' → Dr m (n + 200) B' M' → JobsB B' xs js → (js.length : Int) ≤ top → B' p = some (.lst xs) → Q (.ref p) H'
theorem ap_law_plain_jobs {K : PySem.W.Frag} {B H : Hp} {M L : List (Addr × HO)} {Q : VK} {E : XK} {m st : Addr} {ss : List V} {top n : Int} (I : Is B M L H) (d : Dr m n B M) (h : n < 2 ^ 36) (h1 : 1 ≤ top) (h2 : top ≤ 16) (hs : B st = some (.lst ss)) (hS : ∀ x ∈ ss, IsPS B x) (hs1 : 4 ≤ ss.length) (hs2 : ss.length ≤ 6) (q : ∀ (p : Addr) (xs : List V) (js : List JobT) (B' H' : Hp) (M' : List (Addr × HO)), Same B B' → Is B' M' L H' → Dr m (n + 200) B' M' → JobsB B' xs js → (js.length : Int) ≤ top → B' p = some (.lst xs) → Q (.ref p) H') : sp_law_plain_jobs K [.ref m, .ref st, .int top] H Q E :=
  ⟨rfl, m, st, ss, top, n, B, M, L, rfl, I, d, h, h1, h2, hs, hS, hs1, hs2, q⟩
abbrev t_law_plain_jobs_0 (K : PySem.W.Frag) : TS := (tDrop (tBM K "list" rAppend (tVar 4) (tCons (tIf (tTr K (tVar 6)) (tOp (rIx K) (tVar 4) (tCl 2 0 (sp_law_draw K) (fun vs zs => pick .non [0, 1] (vs ++ zs)) E0 (tCons (tVar 0) (tCons (tCB (rLen K) (tCons (tVar 4) tNil)) tNil)) tNil)) (tCl 3 0 (sp_law_plain_job K) (fun vs zs => pick .non [0, 1, 2] (vs ++ zs)) E0 (tCons (tVar 0) (tCons (tVar 1) (tCons (tVar 3) tNil))) tNil)) tNil)))
abbrev t_law_plain_jobs_1 (K : PySem.W.Frag) : TS := (tSeq (tAsg (tAndV (tOp (rNeA K) (tVar 4) (tLst tNil)) (tOp (rEqA K) (tCl 2 0 (sp_law_draw K) (fun vs zs => pick .non [0, 1] (vs ++ zs)) E0 (tCons (tVar 0) (tCons (tC (.int 5)) tNil)) tNil) (tC (.int 0)))) (gName 6)) (t_law_plain_jobs_0 K))
abbrev t_law_plain_jobs_2 (K : PySem.W.Frag) : TS := (tRet (tVar 4))
abbrev t_law_plain_jobs_3 (K : PySem.W.Frag) : TS := (tSeq (tFor (iRng1 (tCons (tCl 2 0 (sp_law_draw K) (fun vs zs => pick .non [0, 1] (vs ++ zs)) E0 (tCons (tVar 0) (tCons (tOp (rAddA K) (tVar 2) (tC (.int 1))) tNil)) tNil) tNil)) (gName 5) (t_law_plain_jobs_1 K)) (t_law_plain_jobs_2 K))
abbrev t_law_plain_jobs_4 (K : PySem.W.Frag) : TS := (tSeq (tAsg (tLst tNil) (gName 4)) (t_law_plain_jobs_3 K))
def t_law_plain_jobs (K : PySem.W.Frag) : TS := (tSeq (tAsg (tOp (rIx K) (tLst (tCons (tC (.int 2)) (tCons (tC (.int 12)) (tCons (tC (.int 99999)) tNil)))) (tCl 2 0 (sp_law_draw K) (fun vs zs => pick .non [0, 1] (vs ++ zs)) E0 (tCons (tVar 0) (tCons (tC (.int 3)) tNil)) tNil)) (gName 3)) (t_law_plain_jobs_4 K))
theorem rd_law_plain_jobs {K : PySem.W.Frag} (vs : List V) (H : Hp) (Q : VK) (E : XK) (h : sp_law_plain_jobs K vs H Q E) : t_law_plain_jobs K { nx := fun _ H' => Q .non H', rt := Q } (start ["m", "plains", "top", "few", "found", "k", "again"] vs) H := by
  obtain ⟨_, m, st, ss, top, n, B, M, L, rfl, hI, hd, h1, h2, h3, hst, hS, hs1, hs2, q⟩ := h
  show t_law_plain_jobs K ⟨_, _, _, _⟩ [some (.ref m), some (.ref st), some (.int top), none, none, none, none] H
  unfold t_law_plain_jobs
  tm_at "go"
  tm_at "draw"
  refine g_ix_ints (lo := 2) (hi := 99999) (by tm_at "sq") (by repeat (first | exact Ints.nil | refine Ints.cons (by omega) ?_)) (by omega) (by tm_at "arith") ?_
  intro few f0 f1
  replace hI := hI.forget (L' := L) (by tm_at "sub")
  tm_at "go"
  obtain ⟨found, rfl⟩ : ∃ q, q = p := ⟨_, rfl⟩
  tm_at "draw"
  revert r
  intro many y0 y1
  tm_at "go"
  have hd : Dr m (n + 2 + 10 * ((0 : Nat) : Int)) B M := hd.mono (by omega)
  refine' g_aFor walk_range (fun i σ H => ∃ (c d : Option V) (B2 : Hp) (M : List (Addr × HO)) (xs : List V) (js : List JobT), σ = [some (.ref m), some (.ref st), some (.int top), some (.int few), some (.ref found), c, d] ∧
      Same B B2 ∧ Is B2 M ((found, .lst xs) :: L) H ∧ Dr m (n + 2 + 10 * (i : Int)) B2 M ∧ JobsB B2 xs js ∧ js.length = i)
      ⟨_, _, B, _, [], [], rfl, fun _ _ e => e, hI, hd, .nil, rfl⟩ (fun _ _ _ _ _ => trivial) ?_ ?_
  · clear hI hd
    rintro i x σ H H' hi ⟨c, d, B2, M, xs, js, rfl, s2, hI, hd, hJ, hl⟩ ⟨rfl, rfl⟩
    have hi : i < many.toNat := hi
    have hxl := hJ.len
    obtain ⟨nn, hnn, hsh⟩ := shn_plains js hJ.good
    have hst2 := s2 _ _ hst
    have hS2 : ∀ x ∈ ss, IsPS B2 x := fun x hx => (hS x hx).same s2
    have new : ∀ (H : Hp) (M : List (Addr × HO)) (c0 d : Option V), Is B2 M ((found, .lst xs) :: L) H → Dr m (n + 2 + 10 * (i : Int) + 1) B2 M → sp_law_plain_job K [.ref m, .ref st, .int few] H (fun x H1 =>
        tNil [some (V.ref m), some (V.ref st), some (V.int top), some (V.int few), some (V.ref found), c0, d] H1 fun xs H2 => rAppend (.ref found) (x :: xs) H2 fun x H3 =>
        ∃ (c d' : Option V) (B2 : Hp) (M : List (Addr × HO)) (xs : List V) (js : List JobT), [some (V.ref m), some (V.ref st), some (V.int top), some (V.int few), some (V.ref found), c0, d] = [some (.ref m), some (.ref st), some (.int top), some (.int few), some (.ref found), c, d'] ∧
      Same B B2 ∧ Is B2 M ((found, .lst xs) :: L) H3 ∧ Dr m (n + 2 + 10 * ((i + 1 : Nat) : Int)) B2 M ∧ JobsB B2 xs js ∧ js.length = i + 1) E0 := by
      intro H M c0 d hI hd
      refine' ap_law_plain_job (K := K) hI hd (by omega) (by omega) (by omega) hst2 hS2 hs1 hs2 ?_
      clear hI hd
      intro x j B3 H M s3 hI hd hP
      tm_at "go"
      exact ⟨_, _, B3, _, _, js ++ [j], rfl, s2.trans s3, hI, hd.mono (by omega), (hJ.same s3).snoc ⟨x, rfl, hP⟩, by rw [List.length_append, hl]; rfl⟩
    tm_at "go"
    refine g_ne_nilD (by tm_at "sq") (dp_plains hI.ex hJ) hsh (by decide) (by tm_at "sq") ?_
    replace hI := hI.forget (L' := (found, .lst xs) :: L) (by tm_at "sub")
    by_cases hn : js.map plainD = []
    · rw [decide_eq_true hn]
      tm_at "go"
      exact new _ _ _ _ hI (hd.mono (by omega))
    · rw [decide_eq_false hn]
      have hpos : 0 < js.length := by
        cases js with
        | nil => exact absurd rfl hn
        | cons _ _ => simp
      tm_at "go"
      tm_at "draw"
      tm_at "go"
      refine g_dec (fun _ => ?_) (fun _ => ?_)
      · tm_at "go"
        tm_at "draw"
        revert r
        intro spot p0 p1
        obtain ⟨y, hy, hyr⟩ := hJ.get' (List.getElem?_eq_getElem (show spot.toNat < js.length by omega))
        refine g_ix_l (by tm_at "sq") (atI_of p0 hy) ?_
        tm_at "go"
        exact ⟨_, _, B2, _, _, js ++ [_], rfl, s2, hI, hd.mono (by omega), hJ.snoc hyr, by rw [List.length_append, List.length_singleton]; omega⟩
      · tm_at "go"
        exact new _ _ _ _ hI (hd.mono (by omega))
  · clear hI hd
    rintro σ H ⟨c, d, B2, M, xs, js, rfl, s2, hI, hd, hJ, hl⟩
    tm_at "go"
    refine' hI.give .here ?_
    clear hI
    intro B3 s3 hp hI
    exact q found xs js B3 _ _ (s2.trans s3) hI ((hd.mono (by omega)).same s3) (hJ.same s3) (by omega) hp
def sp_law_job (K : PySem.W.Frag) : Sp := fun vs H Q _ => vs.length = 1 ∧ ∃ (p : Addr) (j : JobT) (B : Hp) (M L : List (Addr × HO)), vs = [.ref p] ∧ Is B M L H ∧ PlainJ B p j ∧ ∀ x B' H', Same B B' → Is B' M L H' → JobAt K B' x j → Q (.ref x) H'
theorem ap_law_job {K : PySem.W.Frag} {H : Hp} {Q : VK} {E : XK} {p : Addr} {j : JobT} {B : Hp} {M L : List (Addr × HO)} (I : Is B M L H) (h : PlainJ B p j) (q : ∀ x B' H', Same B B' → Is B' M L H' → JobAt K B' x j → Q (.ref x) H') : sp_law_job K [.ref p] H Q E := ⟨rfl, p, j, B, M, L, rfl, I, h, q⟩
def t_law_job (K : PySem.W.Frag) : TS := (tRet (tMk (He.ga K "Job") 2 3 (sp_Job_init K) (fun vs zs => pick .non [0, 1, 2, 3, 4, 5] (vs ++ (zs ++ [.int 0, .non, .bl false]))) E0 (tCons (tOp (rIx K) (tVar 0) (tC (.int 0))) (tCons (tMk (He.ga K "Style") 2 0 (sp_Style_init K) (fun vs zs => pick .non [0, 1, 2] (vs ++ zs)) E0 (tCons (tOp (rIx K) (tOp (rIx K) (tVar 0) (tC (.int 1))) (tC (.int 0))) (tCons (tOp (rIx K) (tOp (rIx K) (tVar 0) (tC (.int 1))) (tC (.int 1))) tNil)) tNil) tNil)) (tCons (tOp (rIx K) (tVar 0) (tC (.int 2))) (tCons (tOp (rIx K) (tVar 0) (tC (.int 3))) (tCons (tOp (rIx K) (tVar 0) (tC (.int 4))) tNil)))))
theorem rd_law_job {K : PySem.W.Frag} (vs : List V) (H : Hp) (Q : VK) (E : XK) (h : sp_law_job K vs H Q E) : t_law_job K { nx := fun _ H' => Q .non H', rt := Q } (start ["plain"] vs) H := by
  obtain ⟨_, pl, j, B, M, L, rfl, hI, hP, q⟩ := h
  show t_law_job K ⟨_, _, _, _⟩ [some (.ref pl)] H
  obtain ⟨⟨s, h1, ⟨⟨a, xs, u1, u2, u3⟩, ug⟩⟩, hg⟩ := id hP
  unfold t_law_job
  tm_at "go"
  refine g_ix_t (SqT.of (hI.b h1)) (atI_of (by decide) rfl) ?_
  tm_at "go"
  refine g_ix_t (SqT.of (hI.b h1)) (atI_of (by decide) rfl) ?_
  tm_at "go"
  refine g_ix_t (SqT.of (hI.b u1)) (atI_of (by decide) rfl) ?_
  tm_at "go"
  refine g_ix_t (SqT.of (hI.b h1)) (atI_of (by decide) rfl) ?_
  tm_at "go"
  refine g_ix_t (SqT.of (hI.b u1)) (atI_of (by decide) rfl) ?_
  tm_at "go"
  obtain ⟨st, rfl⟩ : ∃ q, q = x := ⟨_, rfl⟩
  refine' ap_Style_init (K := K) hI u2 u3 ug ?_
  clear hI
  intro B1 H s1 hI hS
  replace h1 := s1 _ _ h1
  refine ⟨rfl, ?_⟩
  tm_at "go"
  refine g_ix_t (SqT.of (hI.b h1)) (atI_of (by decide) rfl) ?_
  tm_at "go"
  refine g_ix_t (SqT.of (hI.b h1)) (atI_of (by decide) rfl) ?_
  tm_at "go"
  refine g_ix_t (SqT.of (hI.b h1)) (atI_of (by decide) rfl) ?_
  tm_at "go"
  obtain ⟨y, rfl⟩ : ∃ q, q = x := ⟨_, rfl⟩
  refine' ap_Job_init (K := K) j hI hS hg ?_
  clear hI
  intro B2 H s2 hI hJ
  refine ⟨rfl, ?_⟩
  exact q y B2 H (s1.trans s2) hI hJ
/-! what a job tells -/
def sp_law_plain (K : PySem.W.Frag) : Sp := fun vs H Q _ => vs.length = 1 ∧ ∃ (x : Addr) (j : JobT) (B : Hp) (M L : List (Addr × HO)), vs = [.ref x] ∧ Is B M L H ∧ JobAt K B x j ∧ ∀ p B' H', Same B B' → Is B' M L H' → PlainJ B' p j → Q (.ref p) H'
theorem ap_law_plain {K : PySem.W.Frag} {H : Hp} {Q : VK} {E : XK} {x : Addr} {j : JobT} {B : Hp} {M L : List (Addr × HO)} (I : Is B M L H) (h : JobAt K B x j) (q : ∀ p B' H', Same B B' → Is B' M L H' → PlainJ B' p j → Q (.ref p) H') : sp_law_plain K [.ref x] H Q E := ⟨rfl, x, j, B, M, L, rfl, I, h, q⟩
abbrev t_law_plain_0 (K : PySem.W.Frag) : TS := (tRet (tTup (tCons (tMe (He.ga K "Job") "numbered" 0 0 (sp_Job_numbered K) (fun vs zs => pick .non [0] (vs ++ zs)) E0 (tVar 0) tNil tNil) (tCons (tTup (tCons (tMe (He.ga K "Style") "named" 0 0 (sp_Style_named K) (fun vs zs => pick .non [0] (vs ++ zs)) E0 (tVar 1) tNil tNil) (tCons (tMe (He.ga K "Style") "steps" 0 0 (sp_Style_steps K) (fun vs zs => pick .non [0] (vs ++ zs)) E0 (tVar 1) tNil tNil) tNil))) (tCons (tMe (He.ga K "Job") "brought_at" 0 0 (sp_Job_brought_at K) (fun vs zs => pick .non [0] (vs ++ zs)) E0 (tVar 0) tNil tNil) (tCons (tMe (He.ga K "Job") "due_at" 0 0 (sp_Job_due_at K) (fun vs zs => pick .non [0] (vs ++ zs)) E0 (tVar 0) tNil tNil) (tCons (tMe (He.ga K "Job") "in_haste" 0 0 (sp_Job_in_haste K) (fun vs zs => pick .non [0] (vs ++ zs)) E0 (tVar 0) tNil tNil) tNil)))))))
def t_law_plain (K : PySem.W.Frag) : TS := (tSeq (tAsg (tMe (He.ga K "Job") "of_style" 0 0 (sp_Job_of_style K) (fun vs zs => pick .non [0] (vs ++ zs)) E0 (tVar 0) tNil tNil) (gName 1)) (t_law_plain_0 K))
theorem rd_law_plain {K : PySem.W.Frag} (vs : List V) (H : Hp) (Q : VK) (E : XK) (h : sp_law_plain K vs H Q E) : t_law_plain K { nx := fun _ H' => Q .non H', rt := Q } (start ["job", "book"] vs) H := by
  obtain ⟨_, x, j, B, M, L, rfl, hI, hJ, q⟩ := h
  show t_law_plain K ⟨_, _, _, _⟩ [some (.ref x), none] H
  obtain ⟨⟨dx, sx, h1, _⟩, hg⟩ := id hJ
  unfold t_law_plain
  tm_at "go"
  try refine' g_aCl rfl rfl ?_
  refine' ap_Job_of_style (K := K) hI hJ ?_
  intro st hS
  obtain ⟨⟨ds, cr, zs, k1, k2, k3⟩, kg⟩ := id hS
  tm_at "go"
  try refine' g_aCl rfl rfl ?_
  refine' ap_Job_numbered (K := K) hI hJ ?_
  tm_at "go"
  try refine' g_aCl rfl rfl ?_
  refine' ap_Style_named (K := K) hI hS ?_
  tm_at "go"
  try refine' g_aCl rfl rfl ?_
  refine' ap_Style_steps (K := K) hI hS ?_
  clear hI
  intro pl xs H hxs hI
  tm_at "go"
  try refine' g_aCl rfl rfl ?_
  refine' ap_Job_brought_at (K := K) hI hJ ?_
  tm_at "go"
  try refine' g_aCl rfl rfl ?_
  refine' ap_Job_due_at (K := K) hI hJ ?_
  tm_at "go"
  try refine' g_aCl rfl rfl ?_
  refine' ap_Job_in_haste (K := K) hI hJ ?_
  tm_at "go"
  obtain ⟨y, rfl⟩ : ∃ q, q = p := ⟨_, rfl⟩
  obtain ⟨z, rfl⟩ : ∃ q, q = p := ⟨_, rfl⟩
  refine' hI.give (a := pl) (by tm_at "del") ?_
  clear hI
  intro B1 s1 e1 hI
  refine' hI.give (a := z) (by tm_at "del") ?_
  clear hI
  intro B2 s2 e2 hI
  refine' hI.give (a := y) (by tm_at "del") ?_
  clear hI
  intro B3 s3 e3 hI
  exact q y B3 _ ((s1.trans s2).trans s3) hI ⟨⟨z, e3, ⟨⟨pl, xs, s3 _ _ e2, s3 _ _ (s2 _ _ e1), hxs.same ((s1.trans s2).trans s3)⟩, kg⟩⟩, hg⟩
def sp_law_rank (K : PySem.W.Frag) : Sp := fun vs H Q _ => vs.length = 1 ∧ ∃ (x : Addr) (j : JobT) (B : Hp) (M L : List (Addr × HO)), vs = [.ref x] ∧ Is B M L H ∧ PlainJ B x j ∧ ∀ p H', Is B M ((p, .tup [.int (if j.q = true then 0 else 1), .int j.w, .int j.c, .int j.n]) :: L) H' → Q (.ref p) H'
def t_law_rank (K : PySem.W.Frag) : TS := (tRet (tTup (tCons (tIf (tTr K (tOp (rIx K) (tVar 0) (tC (.int 4)))) (tC (.int 0)) (tC (.int 1))) (tCons (tOp (rIx K) (tVar 0) (tC (.int 3))) (tCons (tOp (rIx K) (tVar 0) (tC (.int 2))) (tCons (tOp (rIx K) (tVar 0) (tC (.int 0))) tNil))))))
theorem rd_law_rank {K : PySem.W.Frag} (vs : List V) (H : Hp) (Q : VK) (E : XK) (h : sp_law_rank K vs H Q E) : t_law_rank K { nx := fun _ H' => Q .non H', rt := Q } (start ["plain"] vs) H := by
  obtain ⟨_, x, ⟨n, nm, rs, c, w, qk⟩, B, M, L, rfl, hI, hX, q⟩ := h
  show t_law_rank K ⟨_, _, _, _⟩ [some (.ref x)] H
  obtain ⟨⟨s, h1, h2⟩, hg⟩ := id hX
  unfold t_law_rank
  tm_at "go"
  refine g_ix_t (SqT.of (hI.b h1)) (atI_of (by decide) rfl) ?_
  tm_at "go"
  refine g_b (fun hq => ?_) (fun hq => ?_)
  · subst hq
    tm_at "go"
    refine g_ix_t (SqT.of (hI.b h1)) (atI_of (by decide) rfl) ?_
    tm_at "go"
    refine g_ix_t (SqT.of (hI.b h1)) (atI_of (by decide) rfl) ?_
    tm_at "go"
    refine g_ix_t (SqT.of (hI.b h1)) (atI_of (by decide) rfl) ?_
    tm_at "go"
    exact q _ _ hI
  · subst hq
    tm_at "go"
    refine g_ix_t (SqT.of (hI.b h1)) (atI_of (by decide) rfl) ?_
    tm_at "go"
    refine g_ix_t (SqT.of (hI.b h1)) (atI_of (by decide) rfl) ?_
    tm_at "go"
    refine g_ix_t (SqT.of (hI.b h1)) (atI_of (by decide) rfl) ?_
    tm_at "go"
    exact q _ _ hI
theorem ap_law_rank {K : PySem.W.Frag} {H : Hp} {Q : VK} {E : XK} {x : Addr} {j : JobT} {B : Hp} {M L : List (Addr × HO)} (I : Is B M L H) (h : PlainJ B x j) (q : ∀ p H', Is B M ((p, .tup [.int (if j.q = true then 0 else 1), .int j.w, .int j.c, .int j.n]) :: L) H' → Q (.ref p) H') : sp_law_rank K [.ref x] H Q E := ⟨rfl, x, j, B, M, L, rfl, I, h, q⟩
theorem cutV_take {xs : List V} {j : Nat} (h : j ≤ xs.length) : cutV xs none (some (j : Int)) = xs.take j := by
  unfold cutV
  rw [HT.sIx_none, HT.sIx_nat, List.drop_zero, Nat.sub_zero, Nat.min_eq_left h]
theorem cutV_drop {xs : List V} {j : Nat} : cutV xs (some (j : Int)) none = xs.drop j := by
  unfold cutV
  rw [HT.sIx_nat, HT.sIx_none]
  by_cases h : j ≤ xs.length
  · rw [Nat.min_eq_left h]
    exact List.take_of_length_le (by rw [List.length_drop]; omega)
  · rw [Nat.min_eq_right (by omega), List.drop_eq_nil_of_le (by omega), List.drop_eq_nil_of_le (by omega)]
    simp
theorem All2.take {α β : Type} {R : α → β → Prop} : ∀ {xs : List α} {ys : List β} (n : Nat), All2 R xs ys → All2 R (xs.take n) (ys.take n)
  | _, _, 0, _ => .nil
  | _, _, n + 1, .nil => .nil
  | _, _, n + 1, .cons h t => .cons h (All2.take n t)
theorem All2.drop {α β : Type} {R : α → β → Prop} : ∀ {xs : List α} {ys : List β} (n : Nat), All2 R xs ys → All2 R (xs.drop n) (ys.drop n)
  | _, _, 0, h => h
  | _, _, n + 1, .nil => .nil
  | _, _, n + 1, .cons h t => All2.drop n t
def sp_law_ordered (K : PySem.W.Frag) : Sp := fun vs H Q _ => vs.length = 1 ∧ ∃ (a : Addr) (xs : List V) (js : List JobT) (B : Hp) (M L : List (Addr × HO)), vs = [.ref a] ∧ Is B M L H ∧ SqL K B a xs ∧ JobsB B xs js ∧ js.length < 60 ∧ ∀ p ys H', Is B M ((p, .lst ys) :: L) H' → JobsB B ys (ordJ js) → Q (.ref p) H'
theorem ap_law_ordered {K : PySem.W.Frag} {H : Hp} {Q : VK} {E : XK} {a : Addr} {xs : List V} {js : List JobT} {B : Hp} {M L : List (Addr × HO)} (I : Is B M L H) (hs : SqL K B a xs) (h : JobsB B xs js) (hl : js.length < 60) (q : ∀ p ys H', Is B M ((p, .lst ys) :: L) H' → JobsB B ys (ordJ js) → Q (.ref p) H') : sp_law_ordered K [.ref a] H Q E := ⟨rfl, a, xs, js, B, M, L, rfl, I, hs, h, hl, q⟩
abbrev t_law_ordered_0 (K : PySem.W.Frag) : TS := (tAsg (tOp (rI0 fun i j => .int (i - j)) (tVar 3) (tC (.int 1))) (gName 3))
abbrev t_law_ordered_1 (K : PySem.W.Frag) : TS := (tAsg (tOp (rAddA K) (tOp (rAddA K) (tSl (rSlA K) (tVar 1) tNoPart (tPart (tVar 3))) (tLst (tCons (tVar 2) tNil))) (tSl (rSlA K) (tVar 1) (tPart (tVar 3)) tNoPart)) (gName 1))
abbrev t_law_ordered_2 (K : PySem.W.Frag) : TS := (tSeq (tWhile (tAnd (tTest (tOp (rI0 fun i j => .bl (decide (j < i))) (tVar 3) (tC (.int 0)))) (tTest (tOp (rGtD K) (tCl 1 0 (sp_law_rank K) (fun vs zs => pick .non [0] (vs ++ zs)) E0 (tCons (tOp (rIx K) (tVar 1) (tOp (rI0 fun i j => .int (i - j)) (tVar 3) (tC (.int 1)))) tNil) tNil) (tCl 1 0 (sp_law_rank K) (fun vs zs => pick .non [0] (vs ++ zs)) E0 (tCons (tVar 2) tNil) tNil)))) (t_law_ordered_0 K)) (t_law_ordered_1 K))
abbrev t_law_ordered_3 (K : PySem.W.Frag) : TS := (tSeq (tAsg (tCB (rLen K) (tCons (tVar 1) tNil)) (gName 3)) (t_law_ordered_2 K))
abbrev t_law_ordered_4 (K : PySem.W.Frag) : TS := (tRet (tVar 1))
abbrev t_law_ordered_5 (K : PySem.W.Frag) : TS := (tSeq (tFor (iAny K (tVar 0)) (gName 2) (t_law_ordered_3 K)) (t_law_ordered_4 K))
def t_law_ordered (K : PySem.W.Frag) : TS := (tSeq (tAsg (tLst tNil) (gName 1)) (t_law_ordered_5 K))
theorem rd_law_ordered {K : PySem.W.Frag} (vs : List V) (H : Hp) (Q : VK) (E : XK) (h : sp_law_ordered K vs H Q E) : t_law_ordered K { nx := fun _ H' => Q .non H', rt := Q } (start ["plains", "found", "plain", "spot"] vs) H := by
  obtain ⟨_, a, xs, js, B, M, L, rfl, hI, hs, hX, hl, q⟩ := h
  show t_law_ordered K ⟨_, _, _, _⟩ [some (.ref a), none, none, none] H
  have hxl := hX.len
  unfold t_law_ordered
  tm_at "go"
  obtain ⟨fd, rfl⟩ : ∃ q, q = p := ⟨_, rfl⟩
  refine' g_aFor walk_list (fun i σ H => ∃ (f : Addr) (c d : Option V) (ys : List V), σ = [some (.ref a), some (.ref f), c, d] ∧ Is B M ((f, .lst ys) :: L) H ∧ JobsB B ys (ordJ (js.take i)))
    ⟨fd, _, _, [], rfl, hI, by rw [List.take_zero, ordJ_nil]; exact .nil⟩ (fun _ _ _ _ ⟨_, _, _, _, _, hI, _⟩ => hI.sq hs) ?_ ?_
  · clear hI
    rintro i v σ H H' hi ⟨f, c, d, ys, rfl, hI, hY⟩ ⟨rfl, hv⟩
    obtain ⟨j, ej, y, rfl, hJ⟩ := hX.get hv
    have hil := (List.getElem?_eq_some_iff.mp ej).1
    have hyl := hY.len
    rw [ordJ_len, List.length_take] at hyl
    rw [List.take_add_one, ej, Option.toList_some]
    tm_at "go"
    refine' g_while (fun k σ H => ∃ n : Nat, k = n ∧ σ = [some (.ref a), some (.ref f), some (.ref y), some (.int (n : Int))] ∧ Is B M ((f, .lst ys) :: L) H ∧ n ≤ ys.length ∧ ∀ (t : Nat) x, n ≤ t → (ordJ (js.take i))[t]? = some x → PySem.W.dataLe false rankD x j = false) ys.length
      ⟨_, rfl, rfl, hI, Nat.le_refl _, fun t x ht hx => by
        have := (List.getElem?_eq_some_iff.mp hx).1
        rw [ordJ_len, List.length_take] at this
        omega⟩ ?_
    clear hI
    rintro k σ H ⟨n, rfl, rfl, hI, hn, hgt⟩
    have out : ∀ (bk ct : L2.St → Hp → Prop) (H : Hp), Is B M ((f, .lst ys) :: L) H → (∀ x, (ordJ (js.take i))[k - 1]? = some x → 0 < k → PySem.W.dataLe false rankD x j = true) → t_law_ordered_1 K { nx := fun σ H => ∃ (f : Addr) (c d : Option V) (ys : List V), σ = [some (.ref a), some (.ref f), c, d] ∧ Is B M ((f, .lst ys) :: L) H ∧ JobsB B ys (ordJ (js.take i ++ [j])), rt := Q, bk := bk, ct := ct } [some (.ref a), some (.ref f), some (.ref y), some (.int (k : Int))] H := by
      intro bk ct H hI hle
      have hsort : (ordJ (js.take i)).Pairwise (fun a b => PySem.W.dataLe false rankD a b = true) := List.pairwise_mergeSort dle_tr dle_to _
      have eins : ordJ (js.take i ++ [j]) = (ordJ (js.take i)).take k ++ [j] ++ (ordJ (js.take i)).drop k := by
        show (js.take i ++ [j]).mergeSort (PySem.W.dataLe false rankD) = _
        rw [ms_snoc dle_tr dle_to]
        refine insS_at (by show k ≤ (ordJ (js.take i)).length; rw [← hY.len]; exact hn) (fun t x ht hx => ?_) (fun x hx => hgt k x (Nat.le_refl _) hx)
        have hlt := (List.getElem?_eq_some_iff.mp hx).1
        obtain ⟨z, hz⟩ : ∃ z, (ordJ (js.take i))[k - 1]? = some z := ⟨_, List.getElem?_eq_getElem (by rw [← hY.len]; omega)⟩
        have hzj := hle z hz (by omega)
        rcases Nat.lt_or_eq_of_le (show t ≤ k - 1 by omega) with h | h
        · refine dle_tr _ _ _ ?_ hzj
          have h1 := (List.getElem?_eq_some_iff.mp hx)
          have h2 := (List.getElem?_eq_some_iff.mp hz)
          obtain ⟨h3, rfl⟩ := h1
          obtain ⟨h4, rfl⟩ := h2
          exact List.pairwise_iff_getElem.mp hsort t (k - 1) h3 h4 h
        · subst h
          have hx : (ordJ (js.take i))[k - 1]? = some x := hx
          rw [hz] at hx
          cases hx
          exact hzj
      have h45 : ys.length ≤ 60 := by omega
      tm_at "go"
      refine g_sl_l hI (by tm_at "sq") ?_
      clear hI
      intro p1 H hI
      rw [cutV_take hn] at hI
      tm_at "go"
      refine g_add_l hI (hI.get (by tm_at "mem")) (hI.get (by tm_at "mem")) (by rw [List.length_take]; simp; omega) ?_
      clear hI
      intro p2 H hI
      tm_at "go"
      refine g_sl_l hI (SqL.of (hI.get (by tm_at "mem"))) ?_
      clear hI
      intro p3 H hI
      rw [cutV_drop] at hI
      tm_at "go"
      refine g_add_l hI (hI.get (by tm_at "mem")) (hI.get (by tm_at "mem")) (by simp only [List.length_append, List.length_take, List.length_drop, List.length_cons, List.length_nil]; omega) ?_
      clear hI
      intro p4 H hI
      tm_at "go"
      refine ⟨p4, _, _, _, rfl, hI.forget (by tm_at "sub"), ?_⟩
      rw [eins]
      exact ((hY.take k).snoc ⟨y, rfl, hJ⟩).app (hY.drop k)
    tm_at "go"
    refine g_dec (fun h0 => ?_) (fun h0 => ?_)
    · obtain ⟨z, hz⟩ : ∃ z, (ordJ (js.take i))[k - 1]? = some z := ⟨_, List.getElem?_eq_getElem (by rw [← hY.len]; omega)⟩
      obtain ⟨v, hv, pz, rfl, hZ⟩ := hY.get' hz
      tm_at "go"
      refine g_ix_l (by tm_at "sq") (atI_of (by omega) (by rw [show ((k : Int) - 1).toNat = k - 1 by omega]; exact hv)) ?_
      tm_at "go"
      refine' ap_law_rank (K := K) hI hZ ?_
      clear hI
      intro r1 H hI
      tm_at "go"
      refine' ap_law_rank (K := K) hI hJ ?_
      clear hI
      intro r2 H hI
      refine g_gt_ints (ns := rkJ z) (ms := rkJ j) (rank_key (hI.get (by tm_at "mem"))) (rank_key (hI.get (by tm_at "mem"))) ?_
      replace hI := hI.forget (L' := (f, .lst ys) :: L) (by tm_at "sub")
      have edl : PySem.W.dataLe false rankD z j = !decide (rkJ j < rkJ z) := by
        rw [rank_le]
        show decide (rkJ z ≤ rkJ j) = _
        by_cases h : rkJ j < rkJ z
        · rw [decide_eq_true h, decide_eq_false (fun w => List.not_le.mpr h w)]
          rfl
        · rw [decide_eq_false h, decide_eq_true (List.not_lt.mp h)]
          rfl
      tm_at "go"
      refine g_b (fun hlt => ?_) (fun hlt => ?_)
      · tm_at "go"
        refine g_whB ?_
        tm_at "go"
        refine ⟨k - 1, by omega, k - 1, rfl, by rw [show ((k : Int) - 1) = ((k - 1 : Nat) : Int) by omega], hI, by omega, fun t x ht hx => ?_⟩
        rcases Nat.lt_or_eq_of_le ht with h | h
        · exact hgt t x (by omega) hx
        · rw [← h, hz] at hx
          cases hx
          rw [edl, hlt]
          rfl
      · tm_at "next"
        refine out _ _ H hI fun x hx _ => ?_
        rw [hz] at hx
        cases hx
        rw [edl, hlt]
        rfl
    · tm_at "next"
      exact out _ _ H hI fun x hx h => absurd h (by omega)
  · clear hI
    rintro σ H ⟨f, c, d, ys, rfl, hI, hY⟩
    rw [hxl, List.take_of_length_le (Nat.le_refl _)] at hY
    tm_at "go"
    exact q f ys H hI hY
/-! ### the law's own numbers by names -/
def nmD (w : Str × List Int) : PyData := .tuple [.str w.1, .list (w.2.map .int)]
theorem dpall_app {K : PySem.W.Frag} {H : Hp} : ∀ {vs us : List V} {ds es : List PyData}, DpAll K H vs ds → DpAll K H us es → DpAll K H (vs ++ us) (ds ++ es)
  | _, _, _, _, .nil, h => h
  | _, _, _, _, .cons a b, h => .cons a (dpall_app b h)
theorem dpall_len {K : PySem.W.Frag} {H : Hp} : ∀ {vs : List V} {ds : List PyData}, DpAll K H vs ds → vs.length = ds.length
  | _, _, .nil => rfl
  | _, _, .cons a b => by rw [List.length_cons, List.length_cons, dpall_len b]
def sp_law_named (K : PySem.W.Frag) : Sp := fun vs H Q _ => vs.length = 1 ∧ ∃ (a : Addr) (xs : List V) (js : List JobT) (B : Hp) (M L : List (Addr × HO)), vs = [.ref a] ∧ Is B M L H ∧ SqL K B a xs ∧ JobsB B xs js ∧ js.length < 60 ∧ ∀ p ts ws B' H', Same B B' → Is B' M ((p, .lst ts) :: L) H' → Named js ws → DpAll K B' ts (ws.map nmD) → Q (.ref p) H'
theorem ap_law_named {K : PySem.W.Frag} {H : Hp} {Q : VK} {E : XK} {a : Addr} {xs : List V} {js : List JobT} {B : Hp} {M L : List (Addr × HO)} (I : Is B M L H) (hs : SqL K B a xs) (h : JobsB B xs js) (hl : js.length < 60) (q : ∀ p ts ws B' H', Same B B' → Is B' M ((p, .lst ts) :: L) H' → Named js ws → DpAll K B' ts (ws.map nmD) → Q (.ref p) H') : sp_law_named K [.ref a] H Q E := ⟨rfl, a, xs, js, B, M, L, rfl, I, hs, h, hl, q⟩
abbrev t_law_named_0 (K : PySem.W.Frag) : TS := (tDrop (tBM K "list" rAppend (tVar 1) (tCons (tTup (tCons (tVar 2) (tCons (tSortedSet K (tLc (iAny K (tVar 0)) (gName 3) (tTest (tOp (rEqA K) (tOp (rIx K) (tOp (rIx K) (tVar 3) (tC (.int 1))) (tC (.int 0))) (tVar 2))) (tOp (rIx K) (tVar 3) (tC (.int 0))) [3])) tNil))) tNil)))
abbrev t_law_named_1 (K : PySem.W.Frag) : TS := (tRet (tVar 1))
abbrev t_law_named_2 (K : PySem.W.Frag) : TS := (tSeq (tFor (iAny K (tSortedSet K (tLc (iAny K (tVar 0)) (gName 3) tYes (tOp (rIx K) (tOp (rIx K) (tVar 3) (tC (.int 1))) (tC (.int 0))) [3]))) (gName 2) (t_law_named_0 K)) (t_law_named_1 K))
def t_law_named (K : PySem.W.Frag) : TS := (tSeq (tAsg (tLst tNil) (gName 1)) (t_law_named_2 K))
theorem rd_law_named {K : PySem.W.Frag} (vs : List V) (H : Hp) (Q : VK) (E : XK) (h : sp_law_named K vs H Q E) : t_law_named K { nx := fun _ H' => Q .non H', rt := Q } (start ["plains", "found", "word", "plain"] vs) H := by
  obtain ⟨_, a, xs, js, B, M, L, rfl, hI, hs, hX, hl, q⟩ := h
  show t_law_named K ⟨_, _, _, _⟩ [some (.ref a), none, none, none] H
  have hxl := hX.len
  unfold t_law_named
  tm_at "go"
  obtain ⟨fd, rfl⟩ : ∃ q, q = p := ⟨_, rfl⟩
  try refine' g_sortedSet ?_
  tm_at "go"
  refine' g_lcX (xs := xs) (js.map fun j => V.str j.nm) (by rw [List.length_map, hxl]) walk_list hI (by tm_at "wiped") (by omega) (fun D acc H' I => I.sq hs) ?_ ?_
  · clear hI
    intro i x y D acc H' hx hy hI PY hPY
    obtain ⟨j, ej, b, rfl, hJ⟩ := hX.get hx
    obtain ⟨⟨s, h1, ⟨⟨c, zs, u1, u2, u3⟩, ug⟩⟩, hg⟩ := id hJ
    tm_at "go"
    refine' g_wiped (by tm_at "wiped") ?_
    tm_at "go"
    refine g_ix_t (SqT.of (hI.b h1)) (atI_of (by decide) rfl) ?_
    tm_at "go"
    refine g_ix_t (SqT.of (hI.b u1)) (atI_of (by decide) rfl) ?_
    tm_at "go"
    rw [List.getElem?_map, ej] at hy
    cases hy
    exact hPY _ hI
  clear hI
  intro D H hI
  tm_at "go"
  have e1 : (js.map fun j => V.str j.nm) = (js.map (·.nm)).map V.str := by rw [List.map_map]; rfl
  rw [e1] at hI
  refine' g_aSSs hI (SqL.of (hI.get (.head _))) (by rw [List.length_map]; omega) ?_
  clear hI
  intro ms pw H hup hmem hI
  have hml : ms.length ≤ 60 := by
    have h1 : ms.Nodup := hup.imp fun {a b} h e => by
      subst e
      exact List.lt_irrefl _ h
    have hsub : ms ⊆ js.map (·.nm) := fun z hz => (hmem z).1 hz
    have := List.Nodup.length_le_of_subset h1 hsub
    rw [List.length_map] at this
    omega
  replace hI := hI.forget (L' := (pw, .lst (ms.map V.str)) :: (fd, .lst []) :: L) (by tm_at "sub")
  tm_at "go"
  refine' g_aFor (walk_list (xs := ms.map V.str)) (fun i σ H => ∃ (c : Option V) (B2 : Hp) (ts : List V) (ws : List (Str × List Int)), σ = [some (.ref a), some (.ref fd), c, none] ∧ Same B B2 ∧ Is B2 M ((pw, .lst (ms.map V.str)) :: (fd, .lst ts) :: L) H ∧ ws.map (·.1) = ms.take i ∧ DpAll K B2 ts (ws.map nmD) ∧
      ∀ w ∈ ws, w.2.Pairwise (· < ·) ∧ ∀ k, k ∈ w.2 ↔ ∃ j ∈ js, j.nm = w.1 ∧ j.n = k)
    ⟨_, B, [], [], rfl, fun _ _ e => e, hI, rfl, .nil, fun w hw => by cases hw⟩ (fun _ _ _ _ ⟨_, _, _, _, _, _, hI, _⟩ => SqL.of (hI.get (.head _))) ?_ ?_
  · clear hI
    rintro i v σ H H' hi ⟨c, B2, ts, ws, rfl, s2, hI, hw, hD, hN⟩ ⟨rfl, hv⟩
    rw [List.getElem?_map] at hv
    obtain ⟨z, ez, rfl⟩ := Option.map_eq_some_iff.mp hv
    have hX2 := hX.same s2
    have hs2 : SqL K B2 a xs := Same.seq s2 hs
    have htl := dpall_len hD
    have hwl : ws.length ≤ 60 := by
      have := congrArg List.length hw
      rw [List.length_map, List.length_take] at this
      omega
    rw [List.length_map] at htl
    tm_at "go"
    try refine' g_sortedSet ?_
    tm_at "go"
    refine' g_lcF js (by omega) walk_list hI (by tm_at "wiped") (by omega) (fun j => decide (j.nm = z)) (fun j => V.int j.n) (fun D acc H' I => I.sq (Same.seq s2 hs)) ?_ ?_
    · clear hI
      intro i x j D acc H' hx ej hI PY PN hPY hPN
      obtain ⟨j', ej', b, rfl, hJ⟩ := hX2.get hx
      rw [ej] at ej'
      cases ej'
      obtain ⟨⟨s, h1, ⟨⟨c, zs, u1, u2, u3⟩, ug⟩⟩, hg⟩ := id hJ
      tm_at "go"
      refine' g_wiped (by tm_at "wiped") ?_
      tm_at "go"
      refine g_ix_t (SqT.of (hI.b h1)) (atI_of (by decide) rfl) ?_
      tm_at "go"
      refine g_ix_t (SqT.of (hI.b u1)) (atI_of (by decide) rfl) ?_
      tm_at "go"
      refine g_dec (fun h => ?_) (fun h => ?_)
      · tm_at "go"
        refine g_ix_t (SqT.of (hI.b h1)) (atI_of (by decide) rfl) ?_
        tm_at "go"
        exact hPY _ (decide_eq_true (V.str.inj h)) hI
      · tm_at "go"
        exact hPN _ (decide_eq_false fun e => h (by rw [e])) hI
    clear hI
    intro D H hI
    tm_at "go"
    have e2 : ((js.filter fun j => decide (j.nm = z)).map fun j => V.int j.n) = ((js.filter fun j => decide (j.nm = z)).map (·.n)).map V.int := by rw [List.map_map]; rfl
    rw [e2] at hI
    refine' g_aSSi hI (SqL.of (hI.get (.head _))) (by rw [List.length_map]; have := List.length_filter_le (fun j => decide (j.nm = z)) js; omega) ?_
    clear hI
    intro ns pn H hns hnk hI
    tm_at "go"
    obtain ⟨tp, rfl⟩ : ∃ q, q = p := ⟨_, rfl⟩
    replace hI := hI.forget (L' := (tp, .tup [V.str z, V.ref pn]) :: (pn, .lst (ns.map V.int)) :: (pw, .lst (ms.map V.str)) :: (fd, .lst (ts ++ [V.ref tp])) :: L) (by tm_at "sub")
    refine' hI.give (a := pn) (by tm_at "del") ?_
    clear hI
    intro B3 s3 e3 hI
    refine' hI.give (a := tp) (by tm_at "del") ?_
    clear hI
    intro B4 s4 e4 hI
    refine ⟨_, B4, _, ws ++ [(z, ns)], rfl, s2.trans (s3.trans s4), hI, ?_, ?_, fun w hw' => ?_⟩
    · rw [List.map_append, hw, List.take_add_one, ez]
      rfl
    · rw [List.map_append]
      exact dpall_app (DpAll.same (s3.trans s4) hD) (.cons (.tup (SqT.of e4) (.cons (.str z) (.cons (.lst (SqL.of (s4 _ _ e3)) (dp_ints ns)) .nil))) .nil)
    · rcases List.mem_append.mp hw' with h | h
      · exact hN w h
      · rw [List.mem_singleton.mp h]
        refine ⟨hns, fun k => ?_⟩
        rw [hnk, List.mem_map]
        constructor
        · rintro ⟨j, hj, rfl⟩
          obtain ⟨h1, h2⟩ := List.mem_filter.mp hj
          exact ⟨j, h1, of_decide_eq_true h2, rfl⟩
        · rintro ⟨j, h1, h2, h3⟩
          exact ⟨j, List.mem_filter.mpr ⟨h1, decide_eq_true h2⟩, h3⟩
  · clear hI
    rintro σ H ⟨c, B2, ts, ws, rfl, s2, hI, hw, hD, hN⟩
    rw [List.length_map, List.take_of_length_le (Nat.le_refl _)] at hw
    tm_at "go"
    refine q fd ts ws B2 H s2 (hI.forget (by tm_at "sub")) ⟨by rw [hw]; exact hup, fun z => ?_, hN⟩ hD
    rw [hw, hmem, List.mem_map]
/-! ### what is told -/
def FirstOf (K : PySem.W.Frag) (B : Hp) (fv : V) (js : List JobT) : Prop := (js = [] ∧ fv = .non) ∨ ∃ x j, fv = .ref x ∧ JobAt K B x j ∧ (ordJ js).head? = some j
structure Told (K : PySem.W.Frag) (B : Hp) (js : List JobT) (ys : List V) (fv : V) (rs : List NmR) : Prop where
  jobs : JobsA K B ys (ordJ js)
  fst : FirstOf K B fv js
  at_ : ∀ r ∈ rs, NmAt B r
  nm : Named js (rs.map NmR.pr)
theorem FirstOf.same {K : PySem.W.Frag} {B B' : Hp} {fv : V} {js : List JobT} (h : FirstOf K B fv js) (e : Same B B') : FirstOf K B' fv js := by
  rcases h with h | ⟨x, j, h1, h2, h3⟩
  · exact .inl h
  · exact .inr ⟨x, j, h1, h2.same e, h3⟩
theorem Told.same {K : PySem.W.Frag} {B B' : Hp} {js : List JobT} {ys : List V} {fv : V} {rs : List NmR} (h : Told K B js ys fv rs) (e : Same B B') : Told K B' js ys fv rs :=
  ⟨h.jobs.same e, h.fst.same e, fun r hr => e _ _ (h.at_ r hr), h.nm⟩
abbrev toldL (p p0 p2 : Addr) (ys : List V) (fv : V) (rs : List NmR) (L : List (Addr × HO)) : List (Addr × HO) := (p, .lst [.ref p0, fv, .ref p2]) :: (p2, .lst (rs.map fun r => .ref r.t)) :: (p0, .lst ys) :: (rs.map NmR.own ++ L)
def sp_law_asked (K : PySem.W.Frag) : Sp := fun vs H Q _ => vs.length = 2 ∧ ∃ (way : Int) (a : Addr) (xs : List V) (js : List JobT) (B : Hp) (M L : List (Addr × HO)), vs = [.int way, .ref a] ∧ Is B M L H ∧ (SqL K B a xs ∨ SqT K B a xs) ∧ JobsA K B xs js ∧ js.length < 60 ∧
  ∀ (p p0 p2 : Addr) (ys : List V) (fv : V) (rs : List NmR) (B' H' : Hp), Same B B' → Is B' M (toldL p p0 p2 ys fv rs L) H' → Told K B' js ys fv rs → Q (.ref p) H'
theorem ap_law_asked {K : PySem.W.Frag} {H : Hp} {Q : VK} {E : XK} {way : Int} {a : Addr} {xs : List V} {js : List JobT} {B : Hp} {M L : List (Addr × HO)} (I : Is B M L H) (hs : SqL K B a xs ∨ SqT K B a xs) (h : JobsA K B xs js) (hl : js.length < 60) (q : ∀ (p p0 p2 : Addr) (ys : List V) (fv : V) (rs : List NmR) (B' H' : Hp), Same B B' → Is B' M (toldL p p0 p2 ys fv rs L) H' → Told K B' js ys fv rs → Q (.ref p) H') : sp_law_asked K [.int way, .ref a] H Q E := ⟨rfl, way, a, xs, js, B, M, L, rfl, I, hs, h, hl, q⟩
abbrev t_law_asked_0 (K : PySem.W.Frag) : TS := (tRet (tLst (tCons (tCl 0 1 (sp_by_rank K) (fun vs zs => pick .non [0] (vs ++ zs)) E0 tNil (tCons (tVar 1) tNil)) (tCons (tCl 0 1 (sp_first_of K) (fun vs zs => pick .non [0] (vs ++ zs)) E0 tNil (tCons (tVar 1) tNil)) (tCons (tCl 0 1 (sp_by_style K) (fun vs zs => pick .non [0] (vs ++ zs)) E0 tNil (tCons (tVar 1) tNil)) tNil)))))
def t_law_asked (K : PySem.W.Frag) : TS := (tSeq (tIfS (tTest (tOp (rEqA K) (tVar 0) (tC (.int 0)))) (tRet (tLst (tCons (tCl 1 0 (sp_by_rank K) (fun vs zs => pick .non [0] (vs ++ zs)) E0 (tCons (tVar 1) tNil) tNil) (tCons (tCl 1 0 (sp_first_of K) (fun vs zs => pick .non [0] (vs ++ zs)) E0 (tCons (tVar 1) tNil) tNil) (tCons (tCl 1 0 (sp_by_style K) (fun vs zs => pick .non [0] (vs ++ zs)) E0 (tCons (tVar 1) tNil) tNil) tNil))))) tNext) (t_law_asked_0 K))
theorem rd_law_asked {K : PySem.W.Frag} (vs : List V) (H : Hp) (Q : VK) (E : XK) (h : sp_law_asked K vs H Q E) : t_law_asked K { nx := fun _ H' => Q .non H', rt := Q } (start ["way", "row"] vs) H := by
  obtain ⟨_, way, a, xs, js, B, M, L, rfl, hI, hs, hX, hl, q⟩ := h
  show t_law_asked K ⟨_, _, _, _⟩ [some (.int way), some (.ref a)] H
  have fin : ∀ (p p0 p2 : Addr) (ys : List V) (fv : V) (rs : List NmR) (B' H' : Hp), Same B B' → Is B' M ((p, .lst [.ref p0, fv, .ref p2]) :: (rs.map NmR.own ++ ((p2, .lst (rs.map fun r => .ref r.t)) :: (p0, .lst ys) :: L))) H' → Told K B' js ys fv rs → Q (.ref p) H' := by
    intro p p0 p2 ys fv rs B' H' s hI hT
    refine q p p0 p2 ys fv rs B' H' s (hI.perm (List.Perm.cons _ ?_)) hT
    exact (List.perm_append_comm_assoc [(p2, HO.lst (rs.map fun r => V.ref r.t)), (p0, HO.lst ys)] (rs.map NmR.own) L)
  unfold t_law_asked
  tm_at "go"
  refine g_dec (fun hw => ?_) (fun hw => ?_)
  · tm_at "go"
    refine' ap_by_rank (K := K) hI hs hX ?_
    clear hI
    intro p0 ys H hY hI
    tm_at "go"
    refine' ap_first_of (K := K) hI hs hX (fun e H hI => ?_) (fun x j H hJ _ hh hI => ?_)
    · tm_at "go"
      refine' ap_by_style (K := K) hI hs hX hl ?_
      clear hI
      intro rs p2 B' H' s hI hA hN
      tm_at "go"
      exact fin _ p0 p2 ys .non rs B' _ s hI ⟨hY.same s, .inl ⟨e, rfl⟩, hA, hN⟩
    · tm_at "go"
      refine' ap_by_style (K := K) hI hs hX hl ?_
      clear hI
      intro rs p2 B' H' s hI hA hN
      tm_at "go"
      exact fin _ p0 p2 ys (.ref x) rs B' _ s hI ⟨hY.same s, .inr ⟨x, j, rfl, hJ.same s, hh⟩, hA, hN⟩
  · tm_at "go"
    refine' ap_by_rank (K := K) hI hs hX ?_
    clear hI
    intro p0 ys H hY hI
    tm_at "go"
    refine' ap_first_of (K := K) hI hs hX (fun e H hI => ?_) (fun x j H hJ _ hh hI => ?_)
    · tm_at "go"
      refine' ap_by_style (K := K) hI hs hX hl ?_
      clear hI
      intro rs p2 B' H' s hI hA hN
      tm_at "go"
      exact fin _ p0 p2 ys .non rs B' _ s hI ⟨hY.same s, .inl ⟨e, rfl⟩, hA, hN⟩
    · tm_at "go"
      refine' ap_by_style (K := K) hI hs hX hl ?_
      clear hI
      intro rs p2 B' H' s hI hA hN
      tm_at "go"
      exact fin _ p0 p2 ys (.ref x) rs B' _ s hI ⟨hY.same s, .inr ⟨x, j, rfl, hJ.same s, hh⟩, hA, hN⟩
theorem shn_ints : ∀ ns : List Int, (∀ n ∈ ns, -(2 ^ 200) < n ∧ n < 2 ^ 200) → ShnAll (ns.map .int) (2002 * ns.length) 0
  | [], _ => .nil
  | n :: ns, h => by
    have h1 := h n List.mem_cons_self
    have h2 := shn_ints ns fun x hx => h x (List.mem_cons_of_mem _ hx)
    have := ShnAll.cons (shn_int h1.1 h1.2) h2
    rw [List.length_cons, show 2002 * (ns.length + 1) = 2000 + 2002 * ns.length + 2 by omega]
    exact this
theorem shnAll_up {k : Nat} : ∀ {d : List PyData} {n : Nat}, ShnAll d n 0 → (∀ x ∈ d, ∃ i, x = .int i) → ShnAll d n k
  | _, _, .nil, _ => .nil
  | _, _, .cons h t, hx => by
    obtain ⟨i, rfl⟩ := hx _ List.mem_cons_self
    cases h with
    | int z => exact .cons (.int z) (shnAll_up t fun x hx' => hx x (List.mem_cons_of_mem _ hx'))
theorem shn_named : ∀ (ws : List (Str × List Int)), (∀ w ∈ ws, (∀ c ∈ w.1.cps.toList, c < 128) ∧ w.1.length ≤ 8 ∧ w.2.length ≤ 60 ∧ ∀ n ∈ w.2, -(2 ^ 200) < n ∧ n < 2 ^ 200) → ∃ n, n ≤ 130000 * ws.length ∧ ShnAll (ws.map nmD) n 3
  | [], _ => ⟨0, by simp, .nil⟩
  | w :: ws, h => by
    obtain ⟨n, hn1, hn⟩ := shn_named ws fun x hx => h x (List.mem_cons_of_mem _ hx)
    obtain ⟨a, b, c, d⟩ := h w List.mem_cons_self
    have hi : ShnAll (w.2.map .int) (2002 * w.2.length) 1 := shnAll_up (shn_ints w.2 d) fun x hx => by
      obtain ⟨i, _, rfl⟩ := List.mem_map.mp hx
      exact ⟨i, rfl⟩
    refine ⟨_, ?_, .cons (.tup (.cons (.str a) (.cons (.lst hi) .nil))) hn⟩
    rw [List.length_cons]
    omega
theorem Named.short {js : List JobT} {ws : List (Str × List Int)} (h : Named js ws) (g : ∀ j ∈ js, GoodJ j) (hl : js.length < 60) : ws.length ≤ 60 ∧ ∀ w ∈ ws, (∀ c ∈ w.1.cps.toList, c < 128) ∧ w.1.length ≤ 8 ∧ w.2.length ≤ 60 ∧ ∀ n ∈ w.2, -(2 ^ 200) < n ∧ n < 2 ^ 200 := by
  constructor
  · have h1 : (ws.map (·.1)).Nodup := h.up.imp fun {a b} h e => by
      subst e
      exact List.lt_irrefl _ h
    have hsub : ws.map (·.1) ⊆ js.map (·.nm) := fun z hz => List.mem_map.mpr ((h.mem z).1 hz)
    have := List.Nodup.length_le_of_subset h1 hsub
    rw [List.length_map, List.length_map] at this
    omega
  · intro w hw
    obtain ⟨j, hj, e⟩ := (h.mem w.1).1 (List.mem_map.mpr ⟨w, hw, rfl⟩)
    have gj := g j hj
    have hs := name_lets gj.t.nm.1
    have hn := name_short gj.t.nm.1
    rw [e] at hs hn
    obtain ⟨n1, n2⟩ := h.ns w hw
    refine ⟨hs.sh.2, hn.1, ?_, fun n hn => ?_⟩
    · have h1 : w.2.Nodup := n1.imp fun {a b} h e => by omega
      have hsub : w.2 ⊆ js.map (·.n) := fun z hz => by
        obtain ⟨j, a, b, c⟩ := (n2 z).1 hz
        exact List.mem_map.mpr ⟨j, a, c⟩
      have := List.Nodup.length_le_of_subset h1 hsub
      rw [List.length_map] at this
      omega
    · obtain ⟨j, a, b, c⟩ := (n2 n).1 hn
      have gj := g j a
      have h0 := gj.n0
      have h1 := gj.n1
      omega
theorem JobsA.good {K : PySem.W.Frag} {B : Hp} : ∀ {xs : List V} {js : List JobT}, JobsA K B xs js → ∀ j ∈ js, GoodJ j
  | _, _, .nil, j, h => by cases h
  | _, _, .cons ⟨a, e, h⟩ t, j, hj => by
    rcases List.mem_cons.mp hj with rfl | hj
    · exact h.good
    · exact JobsA.good t j hj
theorem dp_told {K : PySem.W.Frag} {H : Hp} : ∀ {rs : List NmR}, (∀ r ∈ rs, NmAt H r) → (∀ r ∈ rs, H r.l = some (.lst (r.ns.map V.int))) → DpAll K H (rs.map fun r => V.ref r.t) ((rs.map NmR.pr).map nmD)
  | [], _, _ => .nil
  | r :: rs, h1, h2 => .cons (.tup (SqT.of (h1 r List.mem_cons_self)) (.cons (.str _) (.cons (.lst (SqL.of (h2 r List.mem_cons_self)) (dp_ints r.ns)) .nil))) (dp_told (fun x hx => h1 x (List.mem_cons_of_mem _ hx)) fun x hx => h2 x (List.mem_cons_of_mem _ hx))
def sp_law_answers_right (K : PySem.W.Frag) : Sp := fun vs H Q _ => vs.length = 2 ∧ ∃ (p p0 p2 pl : Addr) (ys : List V) (fv : V) (rs : List NmR) (ps : List V) (js : List JobT) (B : Hp) (M L : List (Addr × HO)), vs = [.ref p, .ref pl] ∧ Is B M (toldL p p0 p2 ys fv rs L) H ∧ Told K B js ys fv rs ∧ B pl = some (.lst ps) ∧ JobsB B ps js ∧ js.length < 60 ∧
  ∀ (B' H' : Hp), Same B B' → Is B' M (toldL p p0 p2 ys fv rs L) H' → Q (.bl true) H'
theorem ap_law_answers_right {K : PySem.W.Frag} {H : Hp} {Q : VK} {E : XK} {p p0 p2 pl : Addr} {ys : List V} {fv : V} {rs : List NmR} {ps : List V} {js : List JobT} {B : Hp} {M L : List (Addr × HO)} (I : Is B M (toldL p p0 p2 ys fv rs L) H) (hT : Told K B js ys fv rs) (hp : B pl = some (.lst ps)) (hP : JobsB B ps js) (hl : js.length < 60) (q : ∀ (B' H' : Hp), Same B B' → Is B' M (toldL p p0 p2 ys fv rs L) H' → Q (.bl true) H') : sp_law_answers_right K [.ref p, .ref pl] H Q E := ⟨rfl, p, p0, p2, pl, ys, fv, rs, ps, js, B, M, L, rfl, I, hT, hp, hP, hl, q⟩
abbrev t_law_answers_right_0 (K : PySem.W.Frag) : TS := (tRet (tOp (rEqA K) (tCB (rRepr K) (tCons (tOp (rIx K) (tVar 0) (tC (.int 2))) tNil)) (tCB (rRepr K) (tCons (tCl 1 0 (sp_law_named K) (fun vs zs => pick .non [0] (vs ++ zs)) E0 (tCons (tVar 1) tNil) tNil) tNil))))
abbrev t_law_answers_right_1 (K : PySem.W.Frag) : TS := (tSeq (tIfS (tOr (tAnd (tTest (tOp (rEqA K) (tVar 2) (tLst tNil))) (tTest (tOp rNoNo (tOp (rIx K) (tVar 0) (tC (.int 1))) (tC .non)))) (tAnd (tTest (tOp (rNeA K) (tVar 2) (tLst tNil))) (tTest (tOp (rNeA K) (tCB (rRepr K) (tCons (tCl 1 0 (sp_law_plain K) (fun vs zs => pick .non [0] (vs ++ zs)) E0 (tCons (tOp (rIx K) (tVar 0) (tC (.int 1))) tNil) tNil) tNil)) (tCB (rRepr K) (tCons (tOp (rIx K) (tVar 2) (tC (.int 0))) tNil)))))) (tRet (tC (.bl false))) tNext) (t_law_answers_right_0 K))
abbrev t_law_answers_right_2 (K : PySem.W.Frag) : TS := (tSeq (tIfS (tOr (tNot (tTr K (tCB (rIsi K) (tCons (tOp (rIx K) (tVar 0) (tC (.int 0))) (tCons (tC (.ty "list")) tNil))))) (tTest (tOp (rNeA K) (tCB (rRepr K) (tCons (tLc (iAny K (tOp (rIx K) (tVar 0) (tC (.int 0)))) (gName 3) tYes (tCl 1 0 (sp_law_plain K) (fun vs zs => pick .non [0] (vs ++ zs)) E0 (tCons (tVar 3) tNil) tNil) [3]) tNil)) (tCB (rRepr K) (tCons (tVar 2) tNil))))) (tRet (tC (.bl false))) tNext) (t_law_answers_right_1 K))
def t_law_answers_right (K : PySem.W.Frag) : TS := (tSeq (tAsg (tCl 1 0 (sp_law_ordered K) (fun vs zs => pick .non [0] (vs ++ zs)) E0 (tCons (tVar 1) tNil) tNil) (gName 2)) (t_law_answers_right_2 K))
theorem rd_law_answers_right {K : PySem.W.Frag} (vs : List V) (H : Hp) (Q : VK) (E : XK) (h : sp_law_answers_right K vs H Q E) : t_law_answers_right K { nx := fun _ H' => Q .non H', rt := Q } (start ["told", "plains", "owed", "job"] vs) H := by
  obtain ⟨_, w0, p0, p2, pl, ys, fv, rs, ps, js, B, M, L, rfl, hI, hT, hpl, hP, hl, q⟩ := h
  show t_law_answers_right K ⟨_, _, _, _⟩ [some (.ref w0), some (.ref pl), none, none] H
  obtain ⟨hY, hF, hA, hN⟩ := id hT
  have hgo : ∀ j ∈ js, GoodJ j := hP.good
  have hyl := hY.len
  rw [ordJ_len] at hyl
  have hgo2 := hY.good
  unfold t_law_answers_right
  tm_at "go"
  refine' ap_law_ordered (K := K) hI (SqL.of hpl) hP hl ?_
  clear hI
  intro po os H hI hO
  have hol := hO.len
  rw [ordJ_len] at hol
  tm_at "go"
  replace hI : Is B M ((po, .lst os) :: (w0, .lst [.ref p0, fv, .ref p2]) :: (p2, .lst (rs.map fun r => .ref r.t)) :: (p0, .lst ys) :: (rs.map NmR.own ++ L)) H := hI
  refine g_ix_l (by tm_at "sq") (atI_of (by decide) rfl) ?_
  have hT0 : Thing K H (.ref p0) .lst := thing_lst (hI.get (by tm_at "mem"))
  tm_at "go"
  refine g_ix_l (by tm_at "sq") (atI_of (by decide) rfl) ?_
  tm_at "go"
  refine' g_aLc (walk_list (xs := ys)) hI (by tm_at "wiped") (by omega) (fun i acc B2 M2 => M2 = M ∧ JobsB B2 acc ((ordJ js).take i)) ⟨rfl, .nil⟩ (fun _ _ _ _ _ _ _ s hI' _ => SqL.of (hI'.get (by tm_at "mem"))) ?_ ?_
  · clear hI
    rintro i v acc B2 M2 D H' H'' hi s2 hI ⟨rfl, hAc⟩ ⟨rfl, hv⟩ hz
    obtain ⟨j, ej, a, rfl, hJ⟩ := hY.get hv
    tm_at "go"
    refine' g_wiped (by tm_at "wiped") ?_
    tm_at "go"
    refine' ap_law_plain (K := K) hI (hJ.same s2) ?_
    clear hI
    intro x B3 H s3 hI hx
    refine lcY (s2.trans s3) hI hz ⟨rfl, ?_⟩
    rw [List.take_add_one, ej]
    exact (hAc.same s3).snoc ⟨x, rfl, hx⟩
  clear hI
  rintro acc B2 M2 D H s2 hI ⟨rfl, hAc⟩ _
  rw [List.take_of_length_le (by rw [ordJ_len]; omega)] at hAc
  obtain ⟨nn, hnn, hsh⟩ := shn_plains (ordJ js) hgo2
  rw [ordJ_len] at hnn
  tm_at "go"
  refine g_repr (.lst (SqL.of (hI.get (.head _))) (dp_plains hI.ex hAc)) (.lst hsh) (by omega) (by decide) ?_
  tm_at "go"
  refine g_repr (.lst (SqL.of (hI.get (by tm_at "mem"))) (dp_plains hI.ex (hO.same s2))) (.lst hsh) (by omega) (by decide) ?_
  replace hO := hO.same s2
  replace hI := hI.forget (L' := (po, .lst os) :: (w0, .lst [.ref p0, fv, .ref p2]) :: (p2, .lst (rs.map fun r => .ref r.t)) :: (p0, .lst ys) :: (rs.map NmR.own ++ L)) (by tm_at "sub")
  tm_at "go"
  skip
  refine g_ndec (fun h => absurd rfl h) (fun _ => ?_)
  have rest : ∀ (B3 H : Hp), Same B B3 → Is B3 M2 ((po, .lst os) :: (w0, .lst [.ref p0, fv, .ref p2]) :: (p2, .lst (rs.map fun r => .ref r.t)) :: (p0, .lst ys) :: (rs.map NmR.own ++ L)) H → t_law_answers_right_0 K { nx := fun x H' => Q V.non H', rt := Q } [some (V.ref w0), some (V.ref pl), some (V.ref po), none] H := by
    intro B3 H s3 hI
    have hs := hN.short hgo hl
    obtain ⟨n2, hn2, hsh2⟩ := shn_named _ hs.2
    have hnn2 : n2 + 3 ≤ 16000000 := by have := hs.1; omega
    tm_at "go"
    refine g_ix_l (SqL.of (hI.get (by tm_at "mem"))) (atI_of (by decide) rfl) ?_
    tm_at "go"
    refine g_repr (.lst (SqL.of (hI.get (by tm_at "mem"))) (dp_told (fun r hr => hI.b (s3 _ _ (hA r hr))) fun r hr => hI.get (List.mem_cons_of_mem _ (List.mem_cons_of_mem _ (List.mem_cons_of_mem _ (List.mem_cons_of_mem _ (List.mem_append_left _ (List.mem_map.mpr ⟨r, hr, rfl⟩)))))))) (.lst hsh2) hnn2 (by decide) ?_
    tm_at "go"
    refine' ap_law_named (K := K) hI (SqL.of (s3 _ _ hpl)) (hP.same s3) hl ?_
    clear hI
    intro pn ts ws B4 H s4 hI hN2 hD
    rw [← hN.uniq hN2] at hD
    tm_at "go"
    refine g_repr (.lst (SqL.of (hI.get (.head _))) (DpAll.same hI.ex hD)) (.lst hsh2) hnn2 (by decide) ?_
    tm_at "go"
    rw [decide_eq_true rfl]
    exact q B4 H (s3.trans s4) (hI.forget (by tm_at "sub"))
  tm_at "go"
  refine g_eq_nilD (SqL.of (hI.get (by tm_at "mem"))) (dp_plains hI.ex hO) hsh (by decide) (SqL.of (hI.get (.head _))) ?_
  replace hI := hI.forget (L' := (po, .lst os) :: (w0, .lst [.ref p0, fv, .ref p2]) :: (p2, .lst (rs.map fun r => .ref r.t)) :: (p0, .lst ys) :: (rs.map NmR.own ++ L)) (by tm_at "sub")
  rcases hF with ⟨e0, ef⟩ | ⟨x, j, ef, hJ, hh⟩
  · subst ef
    have en : (ordJ js).map plainD = [] := by rw [e0, ordJ_nil]; rfl
    rw [decide_eq_true en]
    tm_at "go"
    refine g_ix_l (SqL.of (hI.get (by tm_at "mem"))) (atI_of (by decide) rfl) ?_
    tm_at "go"
    refine g_ndec (fun h => absurd rfl h) (fun _ => ?_)
    tm_at "go"
    refine g_ne_nilD (SqL.of (hI.get (by tm_at "mem"))) (dp_plains hI.ex hO) hsh (by decide) (SqL.of (hI.get (.head _))) ?_
    rw [decide_eq_true en]
    tm_at "next"
    exact rest B2 _ s2 (hI.forget (by tm_at "sub"))
  · subst ef
    obtain ⟨tl, et⟩ : ∃ tl, ordJ js = j :: tl := by
      cases e : ordJ js with
      | nil => rw [e] at hh; cases hh
      | cons c s =>
        rw [e] at hh
        cases hh
        exact ⟨s, rfl⟩
    have en : ¬ (ordJ js).map plainD = [] := by
      rw [et]
      exact fun z => by cases z
    rw [decide_eq_false en]
    tm_at "go"
    refine g_ne_nilD (SqL.of (hI.get (by tm_at "mem"))) (dp_plains hI.ex hO) hsh (by decide) (SqL.of (hI.get (.head _))) ?_
    rw [decide_eq_false en]
    tm_at "go"
    refine g_ix_l (SqL.of (hI.get (by tm_at "mem"))) (atI_of (by decide) rfl) ?_
    tm_at "go"
    refine' ap_law_plain (K := K) hI (hJ.same s2) ?_
    clear hI
    intro y B3 H s3 hI hy
    obtain ⟨n1, hn1, hsh1⟩ := shn_plain hJ.good
    tm_at "go"
    refine g_repr (dp_plain hI.ex hy) hsh1 (by omega) (by decide) ?_
    tm_at "go"
    replace hO := hO.same s3
    rw [et] at hO
    obtain ⟨v, ev, a, rfl, hv⟩ := hO.get' (i := 0) rfl
    refine g_ix_l (SqL.of (hI.get (by tm_at "mem"))) (atI_of (by decide) ev) ?_
    tm_at "go"
    refine g_repr (dp_plain hI.ex hv) hsh1 (by omega) (by decide) ?_
    tm_at "go"
    generalize (plainD j).shown = zz
    refine g_ndec (fun h => absurd rfl h) (fun _ => ?_)
    tm_at "next"
    exact rest B3 _ (s2.trans s3) (hI.forget (by tm_at "sub"))
theorem g_iterSeq {K : PySem.W.Frag} {B H : Hp} {a : Addr} {xs : List V} {R : L2.It → Hp → Prop} (hs : SqL K B a xs ∨ SqT K B a xs) (s : Same B H) (k : ∀ (J : L2.It) (G : Hp → Prop), Walk J xs.length G (YAt xs) → (∀ H', Same B H' → G H') → R J H) : aIter K (.ref a) H R := by
  rcases hs with hs | hs
  · exact .inl ⟨a, rfl, ⟨xs, Same.seq s hs⟩, k _ _ walk_list fun H' s => Same.seq s hs⟩
  · exact .inr (.inl ⟨a, rfl, ⟨xs, Same.sqT s hs⟩, k _ _ walk_tup fun H' s => Same.sqT s hs⟩)
def sp_law_right (K : PySem.W.Frag) : Sp := fun vs H Q _ => vs.length = 3 ∧ ∃ (way : Int) (a pl : Addr) (xs ps : List V) (js : List JobT) (B : Hp) (M L : List (Addr × HO)), vs = [.int way, .ref a, .ref pl] ∧ Is B M L H ∧ (SqL K B a xs ∨ SqT K B a xs) ∧ JobsA K B xs js ∧ B pl = some (.lst ps) ∧ JobsB B ps js ∧ js.length < 60 ∧
  ∀ (B' H' : Hp), Same B B' → Is B' M L H' → Q (.bl true) H'
theorem ap_law_right {K : PySem.W.Frag} {H : Hp} {Q : VK} {E : XK} {way : Int} {a pl : Addr} {xs ps : List V} {js : List JobT} {B : Hp} {M L : List (Addr × HO)} (I : Is B M L H) (hs : SqL K B a xs ∨ SqT K B a xs) (h : JobsA K B xs js) (hp : B pl = some (.lst ps)) (hP : JobsB B ps js) (hl : js.length < 60) (q : ∀ (B' H' : Hp), Same B B' → Is B' M L H' → Q (.bl true) H') : sp_law_right K [.int way, .ref a, .ref pl] H Q E := ⟨rfl, way, a, pl, xs, ps, js, B, M, L, rfl, I, hs, h, hp, hP, hl, q⟩
abbrev t_law_right_0 (K : PySem.W.Frag) : TS := (tDrop (tBM K "list" rAppend (tOp (rIx K) (tVar 5) (tC (.int 1))) (tCons (tC (.int 7)) tNil)))
abbrev t_law_right_1 (K : PySem.W.Frag) : TS := (tDrop (tBM K "list" rAppend (tOp (rIx K) (tVar 4) (tC (.int 2))) (tCons (tTup (tCons (tC (.str "calf")) (tCons (tLst tNil) tNil))) tNil)))
abbrev t_law_right_2 (K : PySem.W.Frag) : TS := (tSeq (tFor (iAny K (tOp (rIx K) (tVar 4) (tC (.int 2)))) (gName 5) (t_law_right_0 K)) (t_law_right_1 K))
abbrev t_law_right_3 (K : PySem.W.Frag) : TS := (tSeq (tDrop (tBM K "list" rAppend (tOp (rIx K) (tVar 4) (tC (.int 0))) (tCons (tC .non) tNil))) (t_law_right_2 K))
abbrev t_law_right_4 (K : PySem.W.Frag) : TS := (tSeq (tDrop (tBM0 K "list" rReverse (tOp (rIx K) (tVar 4) (tC (.int 0))))) (t_law_right_3 K))
abbrev t_law_right_5 (K : PySem.W.Frag) : TS := (tSeq (tIfS (tOr (tNot (tTr K (tCl 2 0 (sp_law_answers_right K) (fun vs zs => pick .non [0, 1] (vs ++ zs)) E0 (tCons (tVar 4) (tCons (tVar 2) tNil)) tNil))) (tTest (tOp (rNeA K) (tCB (rRepr K) (tCons (tLc (iAny K (tVar 1)) (gName 6) tYes (tCl 1 0 (sp_law_plain K) (fun vs zs => pick .non [0] (vs ++ zs)) E0 (tCons (tVar 6) tNil) tNil) [6]) tNil)) (tCB (rRepr K) (tCons (tVar 2) tNil))))) (tRet (tC (.bl false))) tNext) (t_law_right_4 K))
abbrev t_law_right_6 (K : PySem.W.Frag) : TS := (tSeq (tAsg (tCl 2 0 (sp_law_asked K) (fun vs zs => pick .non [0, 1] (vs ++ zs)) E0 (tCons (tVar 0) (tCons (tVar 1) tNil)) tNil) (gName 4)) (t_law_right_5 K))
abbrev t_law_right_7 (K : PySem.W.Frag) : TS := (tRet (tC (.bl true)))
def t_law_right (K : PySem.W.Frag) : TS := (tSeq (tFor (iRng1 (tCons (tC (.int 2)) tNil)) (gName 3) (t_law_right_6 K)) (t_law_right_7 K))
theorem rd_law_right {K : PySem.W.Frag} (vs : List V) (H : Hp) (Q : VK) (E : XK) (h : sp_law_right K vs H Q E) : t_law_right K { nx := fun _ H' => Q .non H', rt := Q } (start ["way", "row", "plains", "again", "told", "one", "job"] vs) H := by
  obtain ⟨_, way, a, pl, xs, ps, js, B, M, L, rfl, hI, hs, hX, hpl, hP, hl, q⟩ := h
  show t_law_right K ⟨_, _, _, _⟩ [some (.int way), some (.ref a), some (.ref pl), none, none, none, none] H
  have hxl := hX.len
  have hgo := hP.good
  unfold t_law_right
  tm_at "go"
  refine' g_aFor walk_range (fun i σ H => ∃ (c d e : Option V) (B2 : Hp), σ = [some (.int way), some (.ref a), some (.ref pl), c, d, e, none] ∧ Same B B2 ∧ Is B2 M L H)
    ⟨_, _, _, B, rfl, fun _ _ e => e, hI⟩ (fun _ _ _ _ _ => trivial) ?_ ?_
  · clear hI
    rintro i x σ H H' hi ⟨c, d, e, B2, rfl, s2, hI⟩ ⟨rfl, rfl⟩
    have hs2 : SqL K B2 a xs ∨ SqT K B2 a xs := hs.imp (Same.seq s2) (Same.sqT s2)
    tm_at "go"
    refine' ap_law_asked (K := K) hI hs2 (hX.same s2) hl ?_
    clear hI
    intro w0 p0 p2 ys fv rs B3 H s3 hI hT
    tm_at "go"
    refine' ap_law_answers_right (K := K) hI hT (s3 _ _ (s2 _ _ hpl)) (hP.same (s2.trans s3)) hl ?_
    clear hI
    intro B4 H s4 hI
    have s24 := (s2.trans s3).trans s4
    replace hT := hT.same s4
    have hs4 : SqL K B4 a xs ∨ SqT K B4 a xs := hs.imp (Same.seq s24) (Same.sqT s24)
    tm_at "go"
    refine g_iterSeq hs4 hI.ex ?_
    intro J G w hG
    refine' g_aLc w hI (by tm_at "wiped") (by omega) (fun i acc B5 M5 => M5 = M ∧ JobsB B5 acc (js.take i)) ⟨rfl, .nil⟩ (fun _ _ _ _ _ _ _ s hI' _ => hG _ (s.trans hI'.ex)) ?_ ?_
    · clear hI
      rintro i v acc B5 M5 D H' H'' hi s5 hI ⟨rfl, hAc⟩ ⟨rfl, hv⟩ hz
      obtain ⟨j, ej, b, rfl, hJ⟩ := hX.get hv
      tm_at "go"
      refine' g_wiped (by tm_at "wiped") ?_
      tm_at "go"
      refine' ap_law_plain (K := K) hI (hJ.same (s24.trans s5)) ?_
      clear hI
      intro x B6 H s6 hI hx
      refine lcY (s5.trans s6) hI hz ⟨rfl, ?_⟩
      rw [List.take_add_one, ej]
      exact (hAc.same s6).snoc ⟨x, rfl, hx⟩
    clear hI
    rintro acc B5 M5 D H s5 hI ⟨rfl, hAc⟩ _
    rw [hxl, List.take_of_length_le (Nat.le_refl _)] at hAc
    obtain ⟨nn, hnn, hsh⟩ := shn_plains js hgo
    have s25 := s24.trans s5
    tm_at "go"
    refine g_repr (.lst (SqL.of (hI.get (.head _))) (dp_plains hI.ex hAc)) (.lst hsh) (by omega) (by decide) ?_
    tm_at "go"
    refine g_repr (.lst (SqL.of (hI.b (s25 _ _ hpl))) (dp_plains hI.ex (hP.same s25))) (.lst hsh) (by omega) (by decide) ?_
    replace hT := hT.same s5
    replace hI : Is B5 M5 (toldL w0 p0 p2 ys fv rs L) H := hI.forget (by tm_at "sub")
    tm_at "go"
    generalize (PyData.list (js.map plainD)).shown = zz
    refine g_ndec (fun h => absurd rfl h) (fun _ => ?_)
    replace hI : Is B5 M5 ((w0, .lst [.ref p0, fv, .ref p2]) :: (p2, .lst (rs.map fun r => .ref r.t)) :: (p0, .lst ys) :: (rs.map NmR.own ++ L)) H := hI
    tm_at "go"
    refine g_ix_l (SqL.of (hI.get (.head _))) (atI_of (by decide) rfl) ?_
    tm_at "go"
    refine g_rev hI (hI.get (by tm_at "mem")) (by tm_at "put") ?_
    clear hI
    intro H hI
    tm_at "go"
    refine g_ix_l (SqL.of (hI.get (.head _))) (atI_of (by decide) rfl) ?_
    have hyl := hT.jobs.len
    rw [ordJ_len] at hyl
    tm_at "go"
    refine g_app hI (hI.get (by tm_at "mem")) (by rw [List.length_reverse]; omega) (by tm_at "put") ?_
    clear hI
    intro H hI
    replace hI : Is B5 M5 (rs.map NmR.own ++ ((w0, .lst [.ref p0, fv, .ref p2]) :: (p2, .lst (rs.map fun r => .ref r.t)) :: (p0, .lst (ys.reverse ++ [V.non])) :: L)) H := hI.perm (List.perm_append_comm_assoc [(w0, HO.lst [.ref p0, fv, .ref p2]), (p2, HO.lst (rs.map fun r => V.ref r.t)), (p0, HO.lst (ys.reverse ++ [V.non]))] (rs.map NmR.own) L).symm
    have hns := hT.nm.short hgo hl
    rw [List.length_map] at hns
    tm_at "go"
    refine g_ix_l (SqL.of (hI.get (List.mem_append_right _ (List.Mem.head _)))) (atI_of (by decide) rfl) ?_
    have hp2 : SqL K H p2 (rs.map fun r => V.ref r.t) := SqL.of (hI.get (List.mem_append_right _ (by tm_at "mem")))
    tm_at "go"
    refine' g_aFor (walk_list (xs := rs.map fun r => V.ref r.t)) (fun i' σ H => ∃ (d : Option V), σ = [some (.int way), some (.ref a), some (.ref pl), some (.int (0 + (i : Int))), some (.ref w0), d, none] ∧
        Is B5 M5 ((rs.take i').map (fun r => (r.l, HO.lst (r.ns.map V.int ++ [V.int 7]))) ++ ((rs.drop i').map NmR.own ++ ((w0, .lst [.ref p0, fv, .ref p2]) :: (p2, .lst (rs.map fun r => .ref r.t)) :: (p0, .lst (ys.reverse ++ [V.non])) :: L))) H)
      ⟨_, rfl, hI⟩ (fun _ _ _ _ ⟨_, _, hI⟩ => SqL.of (hI.get (List.mem_append_right _ (List.mem_append_right _ (by tm_at "mem"))))) ?_ ?_
    · clear hI
      rintro i' v σ H H' hi' ⟨d, rfl, hI⟩ ⟨rfl, hv⟩
      rw [List.getElem?_map] at hv
      obtain ⟨r, er, rfl⟩ := Option.map_eq_some_iff.mp hv
      obtain ⟨hlt, er'⟩ := List.getElem?_eq_some_iff.mp er
      rw [List.drop_eq_getElem_cons hlt, er', List.map_cons, List.cons_append] at hI
      replace hI := hI.perm List.perm_middle.symm
      have hrA := hT.at_ r (List.mem_of_getElem? er)
      have hrl := (hns.2 (r.nm, r.ns) (List.mem_map.mpr ⟨r, List.mem_of_getElem? er, rfl⟩)).2.2.1
      replace hI : Is B5 M5 ((r.l, .lst (r.ns.map V.int)) :: _) H' := hI
      tm_at "go"
      refine g_ix_t (SqT.of (hI.b hrA)) (atI_of (by decide) rfl) ?_
      refine g_tyL (hI.get (.head _)) ?_
      tm_at "go"
      refine ⟨_, rfl, ?_⟩
      rw [List.take_add_one, er, Option.toList_some, List.map_append, List.append_assoc]
      exact hI.perm List.perm_middle
    · clear hI
      rintro σ H ⟨d, rfl, hI⟩
      rw [List.length_map, List.take_of_length_le (Nat.le_refl _), List.drop_of_length_le (Nat.le_refl _)] at hI
      replace hI : Is B5 M5 ((w0, .lst [.ref p0, fv, .ref p2]) :: (p2, .lst (rs.map fun r => .ref r.t)) :: L) H := hI.forget (List.Sublist.trans (List.Sublist.cons₂ _ (List.Sublist.cons₂ _ (List.Sublist.cons _ (List.Sublist.refl _)))) (List.sublist_append_right _ _))
      tm_at "go"
      refine g_ix_l (SqL.of (hI.get (.head _))) (atI_of (by decide) rfl) ?_
      refine g_tyL (hI.get (by tm_at "mem")) ?_
      tm_at "go"
      exact ⟨_, _, _, B5, rfl, s25, hI.forget (by tm_at "sub")⟩
  · clear hI
    rintro σ H ⟨c, d, e, B2, rfl, s2, hI⟩
    tm_at "go"
    exact q B2 H s2 hI
/-! ### by hand -/
theorem dp_intsC {K : PySem.W.Frag} {H : Hp} : ∀ ns : List Int, DpAll K H (ns.map V.int) (ns.map PyData.int)
  | [] => .nil
  | n :: ns => .cons (.int n) (dp_intsC ns)
theorem g_ne_isC {K : PySem.W.Frag} {H : Hp} {Q : VK} {a b : Addr} {ns : List Int} (hb : ∀ n ∈ ns, -(2 ^ 200) < n ∧ n < 2 ^ 200) (h1 : SqL K H a (ns.map V.int)) (h2 : SqL K H b (ns.map V.int)) (k : Q (.bl false) H) : rNeA K (.ref a) (.ref b) H Q := by
  have sh : ShnAll (ns.map PyData.int) _ 1 := shnAll_up (shn_ints ns hb) fun x hx => by
    obtain ⟨i, _, rfl⟩ := List.mem_map.mp hx
    exact ⟨i, rfl⟩
  refine g_ne_d (.lst h1 (dp_intsC ns)) (.lst h2 (dp_intsC ns)) (Shn.shaped (.lst sh) (by decide)) (Shn.shaped (.lst sh) (by decide)) ?_
  rw [SeqAt.eqv_refl _ (Shn.lay (.lst sh))]
  exact k
theorem ordJ_cons (a : JobT) (l : List JobT) : ordJ (a :: l) = insF (PySem.W.dataLe false rankD) a (ordJ l) := ms_cons dle_tr dle_to a l
def ordC (js : List JobT) : List JobT := js.foldr (insF fun p q => decide (rkJ p ≤ rkJ q)) []
theorem ordJ_ordC : ∀ js : List JobT, ordJ js = ordC js
  | [] => ordJ_nil
  | a :: l => by
    rw [ordJ_cons, ordJ_ordC l, rank_le]
    rfl
abbrev oneS : List StepT := [("sew", 5, 0)]
theorem good_one {nm : Str} (h : isName (.str nm) = true) (h2 : plainS nm) : GoodT nm oneS := ⟨⟨h, h2⟩, by decide, by decide, fun r hr => by
  rcases List.mem_singleton.mp hr with rfl
  exact ⟨wk_sew, by decide, by decide, by decide, by decide⟩⟩
theorem good_calf : GoodT "calf" oneS := good_one (by decide +kernel) ((Sh.lit (n := 8) (by decide +kernel)).plain (by decide))
theorem good_cloth : GoodT "cloth" oneS := good_one (by decide +kernel) ((Sh.lit (n := 8) (by decide +kernel)).plain (by decide))
theorem gjm {n : Int} {nm : Str} {rs : List StepT} {c w : Int} {q : Bool} (g : GoodT nm rs) (h : 1 ≤ n ∧ n ≤ 99999 ∧ 0 ≤ c ∧ c ≤ w ∧ w ≤ 1000000) : GoodJ ⟨n, nm, rs, c, w, q⟩ := ⟨g, h.1, h.2.1, h.2.2.1, Int.le_trans h.2.2.2.1 h.2.2.2.2, h.2.2.2.1, h.2.2.2.2⟩
theorem te_style1 {K : PySem.W.Frag} {σ : L2.St} {B H : Hp} {M L : List (Addr × HO)} {Q : VK} {nm w : Str} {h r : Int} (I : Is B M L H) (g : GoodT nm [(w, h, r)]) (q : ∀ st B' H', Same B B' → Is B' M L H' → StyleAt K B' st nm [(w, h, r)] → Q (.ref st) H') : (tMk (He.ga K "Style") 2 0 (sp_Style_init K) (fun vs zs => pick .non [0, 1, 2] (vs ++ zs)) E0 (tCons (tC (.str nm)) (tCons (tLst (tCons (tTup (tCons (tC (.str w)) (tCons (tC (.int h)) (tCons (tC (.int r)) tNil)))) tNil)) tNil)) tNil) σ H Q := by
  have hI := I
  tm_at "go"
  obtain ⟨st, rfl⟩ : ∃ q, q = x := ⟨_, rfl⟩
  refine' hI.give (o := .tup [.str w, .int h, .int r]) (by tm_at "del") ?_
  clear hI
  intro B1 s1 e1 hI
  refine' hI.give (o := .lst [.ref _]) (by tm_at "del") ?_
  clear hI
  intro B2 s2 e2 hI
  refine' ap_Style_init (K := K) hI e2 (.cons ⟨_, rfl, s2 _ _ e1⟩ .nil) g ?_
  clear hI
  intro B3 H s3 hI hS
  refine ⟨rfl, ?_⟩
  exact q st B3 H ((s1.trans s2).trans s3) hI hS
theorem g_numbs {K : PySem.W.Frag} {B H : Hp} {M L : List (Addr × HO)} {Q : VK} {p : Addr} {a b r d : Option V} {ys : List V} {os : List JobT} (I : Is B M ((p, .lst ys) :: L) H) (hY : JobsA K B ys os) (hl : os.length < 60) (q : ∀ p' H', Is B M ((p', .lst (os.map fun j => V.int j.n)) :: L) H' → Q (.ref p') H') : aLc (Itl K p) (gName 3) tYes (tMe (He.ga K "Job") "numbered" 0 0 (sp_Job_numbered K) (fun vs zs => pick .non [0] (vs ++ zs)) E0 (tVar 3) tNil tNil) [3] [a, b, r, none, d] H Q := by
  have hI := I
  have hyl := hY.len
  refine' g_lcX (xs := ys) (os.map fun j => V.int j.n) (by rw [List.length_map]; exact hyl.symm) walk_list hI (by tm_at "wiped") (by omega) (fun D acc H' I => SqL.of (I.get (by tm_at "mem"))) ?_ ?_
  · clear hI
    intro i x y D acc H' hx hy hI PY hPY
    obtain ⟨j, ej, b, rfl, hJ⟩ := hY.get hx
    obtain ⟨⟨dx, st, h1, _⟩, _⟩ := id hJ
    tm_at "go"
    refine' g_wiped (by tm_at "wiped") ?_
    tm_at "go"
    refine' ap_Job_numbered (K := K) hI hJ ?_
    rw [List.getElem?_map, ej] at hy
    cases hy
    exact hPY _ hI
  clear hI
  intro D H hI
  exact q D H (hI.forget (by tm_at "sub"))
theorem g_ne_named {K : PySem.W.Frag} {H : Hp} {Q : VK} {a b : Addr} {xs ys : List V} {ws : List (Str × List Int)} (hw : ∀ w ∈ ws, (∀ c ∈ w.1.cps.toList, c < 128) ∧ w.1.length ≤ 8 ∧ w.2.length ≤ 60 ∧ ∀ n ∈ w.2, -(2 ^ 200) < n ∧ n < 2 ^ 200) (h1 : SqL K H a xs) (d1 : DpAll K H xs (ws.map nmD)) (h2 : SqL K H b ys) (d2 : DpAll K H ys (ws.map nmD)) (k : Q (.bl false) H) : rNeA K (.ref a) (.ref b) H Q := by
  obtain ⟨n, _, sh⟩ := shn_named ws hw
  refine g_ne_d (.lst h1 d1) (.lst h2 d2) (Shn.shaped (.lst sh) (by decide)) (Shn.shaped (.lst sh) (by decide)) ?_
  rw [SeqAt.eqv_refl _ (Shn.lay (.lst sh))]
  exact k
theorem nmAt_same {B B' : Hp} {rs : List NmR} (h : ∀ r ∈ rs, NmAt B r) (s : Same B B') : ∀ r ∈ rs, NmAt B' r := fun r hr => s _ _ (h r hr)
theorem dp_owned {K : PySem.W.Frag} {B H : Hp} {M L : List (Addr × HO)} {rs : List NmR} (I : Is B M (rs.map NmR.own ++ L) H) (h : ∀ r ∈ rs, NmAt B r) : DpAll K H (rs.map fun r => V.ref r.t) ((rs.map NmR.pr).map nmD) :=
  dp_told (fun r hr => I.b (h r hr)) fun r hr => I.get (List.mem_append_left _ (List.mem_map.mpr ⟨r, hr, rfl⟩))
abbrev rowA : List JobT := [⟨9, "calf", oneS, 5, 20, false⟩, ⟨8, "cloth", oneS, 4, 20, false⟩, ⟨7, "calf", oneS, 4, 20, false⟩, ⟨99, "cloth", oneS, 3, 21, false⟩, ⟨100, "calf", oneS, 9, 99, true⟩]
abbrev rowB : List JobT := [⟨1, "calf", oneS, 0, 0, false⟩, ⟨2, "calf", oneS, 1000000, 1000000, true⟩, ⟨3, "calf", oneS, 0, 1000000, false⟩, ⟨4, "calf", oneS, 1000000, 1000000, false⟩]
abbrev jobK (k : Nat) : JobT := ⟨(k : Int) + 1, "calf", oneS, 0, 200 - (k : Int), false⟩
abbrev rowK : List JobT := (List.range 40).map jobK
theorem ordA : ordC rowA = [⟨100, "calf", oneS, 9, 99, true⟩, ⟨7, "calf", oneS, 4, 20, false⟩, ⟨8, "cloth", oneS, 4, 20, false⟩, ⟨9, "calf", oneS, 5, 20, false⟩, ⟨99, "cloth", oneS, 3, 21, false⟩] := by decide +kernel
theorem ordA4 : ordC (rowA.take 4) = [⟨7, "calf", oneS, 4, 20, false⟩, ⟨8, "cloth", oneS, 4, 20, false⟩, ⟨9, "calf", oneS, 5, 20, false⟩, ⟨99, "cloth", oneS, 3, 21, false⟩] := by decide +kernel
theorem ordB : ordC rowB = [⟨2, "calf", oneS, 1000000, 1000000, true⟩, ⟨1, "calf", oneS, 0, 0, false⟩, ⟨3, "calf", oneS, 0, 1000000, false⟩, ⟨4, "calf", oneS, 1000000, 1000000, false⟩] := by decide +kernel
theorem ordK : ordC rowK = ((List.range 40).map fun k => jobK (39 - k)) := by decide +kernel
abbrev wsA : List (Str × List Int) := [("calf", [7, 9, 100]), ("cloth", [8, 99])]
abbrev wsK : List (Str × List Int) := [("calf", (List.range 40).map fun (k : Nat) => (k : Int) + 1)]
theorem named_of {js : List JobT} {ws : List (Str × List Int)} (h1 : (ws.map (·.1)).Pairwise ltS) (h2 : (ws.map (·.1)) ⊆ js.map (·.nm)) (h3 : js.map (·.nm) ⊆ ws.map (·.1)) (h4 : ∀ w ∈ ws, w.2.Pairwise (· < ·) ∧ w.2 ⊆ (js.filter fun j => decide (j.nm = w.1)).map (·.n) ∧ (js.filter fun j => decide (j.nm = w.1)).map (·.n) ⊆ w.2) : Named js ws :=
  ⟨h1, fun z => ⟨fun h => List.mem_map.mp (h2 h), fun ⟨j, a, b⟩ => h3 (List.mem_map.mpr ⟨j, a, b⟩)⟩, fun w hw => ⟨(h4 w hw).1, fun k => ⟨fun h => by
      obtain ⟨j, hj, e⟩ := List.mem_map.mp ((h4 w hw).2.1 h)
      obtain ⟨hj, e2⟩ := List.mem_filter.mp hj
      exact ⟨j, hj, of_decide_eq_true e2, e⟩, fun ⟨j, a, b, c⟩ => (h4 w hw).2.2 (List.mem_map.mpr ⟨j, List.mem_filter.mpr ⟨a, decide_eq_true b⟩, c⟩)⟩⟩⟩
def subB {α : Type} [DecidableEq α] (l m : List α) : Bool := l.all fun x => m.contains x
theorem subB_of {α : Type} [DecidableEq α] {l m : List α} (h : subB l m = true) : l ⊆ m := fun x hx => by
  have := List.all_eq_true.mp h x hx
  exact List.contains_iff_mem.mp this
instance : DecidableRel ltS := fun a b => inferInstanceAs (Decidable (a.cps.toList < b.cps.toList))
def namedB (js : List JobT) (ws : List (Str × List Int)) : Bool := decide ((ws.map (·.1)).Pairwise ltS) && (subB (ws.map (·.1)) (js.map (·.nm)) && (subB (js.map (·.nm)) (ws.map (·.1)) && ws.all fun w => decide (w.2.Pairwise (· < ·)) && (subB w.2 ((js.filter fun j => decide (j.nm = w.1)).map (·.n)) && subB ((js.filter fun j => decide (j.nm = w.1)).map (·.n)) w.2)))
theorem namedB_of {js : List JobT} {ws : List (Str × List Int)} (h : namedB js ws = true) : Named js ws := by
  unfold namedB at h
  rw [Bool.and_eq_true, Bool.and_eq_true, Bool.and_eq_true] at h
  obtain ⟨a, b, c, d⟩ := h
  refine named_of (of_decide_eq_true a) (subB_of b) (subB_of c) fun w hw => ?_
  have := List.all_eq_true.mp d w hw
  rw [Bool.and_eq_true, Bool.and_eq_true] at this
  exact ⟨of_decide_eq_true this.1, subB_of this.2.1, subB_of this.2.2⟩
theorem namedA : Named rowA wsA := namedB_of (by decide +kernel)
theorem namedK : Named rowK wsK := namedB_of (by decide +kernel)
def wsB (ws : List (Str × List Int)) : Bool := ws.all fun w => w.1.cps.toList.all (fun c => decide (c < 128)) && (decide (w.1.length ≤ 8) && (decide (w.2.length ≤ 60) && w.2.all fun n => decide (-(2 ^ 200) < n ∧ n < 2 ^ 200)))
theorem wsB_of {ws : List (Str × List Int)} (h : wsB ws = true) : ∀ w ∈ ws, (∀ c ∈ w.1.cps.toList, c < 128) ∧ w.1.length ≤ 8 ∧ w.2.length ≤ 60 ∧ ∀ n ∈ w.2, -(2 ^ 200) < n ∧ n < 2 ^ 200 := fun w hw => by
  have := List.all_eq_true.mp h w hw
  rw [Bool.and_eq_true, Bool.and_eq_true, Bool.and_eq_true] at this
  obtain ⟨a, b, c, d⟩ := this
  exact ⟨fun x hx => of_decide_eq_true (List.all_eq_true.mp a x hx), of_decide_eq_true b, of_decide_eq_true c, fun x hx => of_decide_eq_true (List.all_eq_true.mp d x hx)⟩
theorem wsA_ok : ∀ w ∈ wsA, (∀ c ∈ w.1.cps.toList, c < 128) ∧ w.1.length ≤ 8 ∧ w.2.length ≤ 60 ∧ ∀ n ∈ w.2, -(2 ^ 200) < n ∧ n < 2 ^ 200 := wsB_of (by decide +kernel)
theorem wsK_ok : ∀ w ∈ wsK, (∀ c ∈ w.1.cps.toList, c < 128) ∧ w.1.length ≤ 8 ∧ w.2.length ≤ 60 ∧ ∀ n ∈ w.2, -(2 ^ 200) < n ∧ n < 2 ^ 200 := wsB_of (by decide +kernel)
def sp_law_by_hand_right (K : PySem.W.Frag) : Sp := fun vs H Q _ => vs.length = 0 ∧ ∃ (B : Hp) (M L : List (Addr × HO)), vs = [] ∧ Is B M L H ∧ ∀ H', Q (.bl true) H'
theorem ap_law_by_hand_right {K : PySem.W.Frag} {H : Hp} {Q : VK} {E : XK} {B : Hp} {M L : List (Addr × HO)} (I : Is B M L H) (q : ∀ H', Q (.bl true) H') : sp_law_by_hand_right K [] H Q E := ⟨rfl, B, M, L, rfl, I, q⟩
abbrev t_law_by_hand_right_0 (K : PySem.W.Frag) : TS := (tRet (tOp (rEqA K) (tLst (tCons (tCl 1 0 (sp_by_rank K) (fun vs zs => pick .non [0] (vs ++ zs)) E0 (tCons (tLst tNil) tNil) tNil) (tCons (tCl 1 0 (sp_by_rank K) (fun vs zs => pick .non [0] (vs ++ zs)) E0 (tCons (tTup tNil) tNil) tNil) (tCons (tCl 1 0 (sp_by_style K) (fun vs zs => pick .non [0] (vs ++ zs)) E0 (tCons (tLst tNil) tNil) tNil) (tCons (tCl 1 0 (sp_by_style K) (fun vs zs => pick .non [0] (vs ++ zs)) E0 (tCons (tTup tNil) tNil) tNil) (tCons (tCl 1 0 (sp_first_of K) (fun vs zs => pick .non [0] (vs ++ zs)) E0 (tCons (tLst tNil) tNil) tNil) (tCons (tCl 1 0 (sp_first_of K) (fun vs zs => pick .non [0] (vs ++ zs)) E0 (tCons (tTup tNil) tNil) tNil) tNil))))))) (tOp (rAddA K) (tOp rMulA (tLst (tCons (tLst tNil) tNil)) (tC (.int 4))) (tOp rMulA (tLst (tCons (tC .non) tNil)) (tC (.int 2))))))
abbrev t_law_by_hand_right_1 (K : PySem.W.Frag) : TS := (tSeq (tIfS (tTest (tOp (rNeA K) (tCl 1 0 (sp_by_style K) (fun vs zs => pick .non [0] (vs ++ zs)) E0 (tCons (tVar 2) tNil) tNil) (tLst (tCons (tTup (tCons (tC (.str "calf")) (tCons (tLc (iRng1 (tCons (tC (.int 40)) tNil)) (gName 4) tYes (tOp (rAddA K) (tVar 4) (tC (.int 1))) [4]) tNil))) tNil)))) (tRet (tC (.bl false))) tNext) (t_law_by_hand_right_0 K))
abbrev t_law_by_hand_right_2 (K : PySem.W.Frag) : TS := (tSeq (tIfS (tOr (tTest (tOp (rNeA K) (tLc (iAny K (tCl 1 0 (sp_by_rank K) (fun vs zs => pick .non [0] (vs ++ zs)) E0 (tCons (tVar 2) tNil) tNil)) (gName 3) tYes (tMe (He.ga K "Job") "numbered" 0 0 (sp_Job_numbered K) (fun vs zs => pick .non [0] (vs ++ zs)) E0 (tVar 3) tNil tNil) [3]) (tLc (iRng1 (tCons (tC (.int 40)) tNil)) (gName 4) tYes (tOp (rI0 fun i j => .int (i - j)) (tC (.int 40)) (tVar 4)) [4]))) (tTest (tOp (rOwnNe K (He.ga K "Job") (sp_Job_eq K) (fun vs zs => pick .non [0, 1] (vs ++ zs)) E0) (tCl 1 0 (sp_first_of K) (fun vs zs => pick .non [0] (vs ++ zs)) E0 (tCons (tVar 2) tNil) tNil) (tOp (rIx K) (tVar 2) (tC (.int 39)))))) (tRet (tC (.bl false))) tNext) (t_law_by_hand_right_1 K))
abbrev t_law_by_hand_right_3 (K : PySem.W.Frag) : TS := (tSeq (tAsg (tLc (iRng1 (tCons (tC (.int 40)) tNil)) (gName 4) tYes (tMk (He.ga K "Job") 4 0 (sp_Job_init K) (fun vs zs => pick .non [0, 1, 2, 3, 4, 7] (vs ++ (zs ++ [.int 0, .non, .bl false]))) E0 (tCons (tOp (rAddA K) (tVar 4) (tC (.int 1))) (tCons (tVar 0) (tCons (tC (.int 0)) (tCons (tOp (rI0 fun i j => .int (i - j)) (tC (.int 200)) (tVar 4)) tNil)))) tNil) [4]) (gName 2)) (t_law_by_hand_right_2 K))
abbrev t_law_by_hand_right_4 (K : PySem.W.Frag) : TS := (tSeq (tIfS (tOr (tTest (tOp (rNeA K) (tLc (iAny K (tCl 1 0 (sp_by_rank K) (fun vs zs => pick .non [0] (vs ++ zs)) E0 (tCons (tVar 2) tNil) tNil)) (gName 3) tYes (tMe (He.ga K "Job") "numbered" 0 0 (sp_Job_numbered K) (fun vs zs => pick .non [0] (vs ++ zs)) E0 (tVar 3) tNil tNil) [3]) (tLst (tCons (tC (.int 2)) (tCons (tC (.int 1)) (tCons (tC (.int 3)) (tCons (tC (.int 4)) tNil))))))) (tTest (tOp (rOwnNe K (He.ga K "Job") (sp_Job_eq K) (fun vs zs => pick .non [0, 1] (vs ++ zs)) E0) (tCl 1 0 (sp_first_of K) (fun vs zs => pick .non [0] (vs ++ zs)) E0 (tCons (tVar 2) tNil) tNil) (tOp (rIx K) (tVar 2) (tC (.int 1)))))) (tRet (tC (.bl false))) tNext) (t_law_by_hand_right_3 K))
abbrev t_law_by_hand_right_5 (K : PySem.W.Frag) : TS := (tSeq (tDrop (tBM K "list" rAppend (tVar 2) (tCons (tMk (He.ga K "Job") 4 0 (sp_Job_init K) (fun vs zs => pick .non [0, 1, 2, 3, 4, 7] (vs ++ (zs ++ [.int 0, .non, .bl false]))) E0 (tCons (tC (.int 4)) (tCons (tVar 0) (tCons (tOp (rI CPow fun i j => .int (i ^ j.toNat)) (tC (.int 10)) (tC (.int 6))) (tCons (tOp (rI CPow fun i j => .int (i ^ j.toNat)) (tC (.int 10)) (tC (.int 6))) tNil)))) tNil) tNil))) (t_law_by_hand_right_4 K))
abbrev t_law_by_hand_right_6 (K : PySem.W.Frag) : TS := (tSeq (tAsg (tLst (tCons (tMk (He.ga K "Job") 4 0 (sp_Job_init K) (fun vs zs => pick .non [0, 1, 2, 3, 4, 7] (vs ++ (zs ++ [.int 0, .non, .bl false]))) E0 (tCons (tC (.int 1)) (tCons (tVar 0) (tCons (tC (.int 0)) (tCons (tC (.int 0)) tNil)))) tNil) (tCons (tMk (He.ga K "Job") 5 0 (sp_Job_init K) (fun vs zs => pick .non [0, 1, 2, 3, 4, 5] (vs ++ (zs ++ [.int 0, .non, .bl false]))) E0 (tCons (tC (.int 2)) (tCons (tVar 0) (tCons (tOp (rI CPow fun i j => .int (i ^ j.toNat)) (tC (.int 10)) (tC (.int 6))) (tCons (tOp (rI CPow fun i j => .int (i ^ j.toNat)) (tC (.int 10)) (tC (.int 6))) (tCons (tC (.bl true)) tNil))))) tNil) (tCons (tMk (He.ga K "Job") 4 0 (sp_Job_init K) (fun vs zs => pick .non [0, 1, 2, 3, 4, 7] (vs ++ (zs ++ [.int 0, .non, .bl false]))) E0 (tCons (tC (.int 3)) (tCons (tVar 0) (tCons (tC (.int 0)) (tCons (tOp (rI CPow fun i j => .int (i ^ j.toNat)) (tC (.int 10)) (tC (.int 6))) tNil)))) tNil) tNil)))) (gName 2)) (t_law_by_hand_right_5 K))
abbrev t_law_by_hand_right_7 (K : PySem.W.Frag) : TS := (tSeq (tIfS (tOr (tTest (tOp (rNeA K) (tCl 1 0 (sp_by_style K) (fun vs zs => pick .non [0] (vs ++ zs)) E0 (tCons (tCB (rTupOf K) (tCons (tVar 2) tNil)) tNil) tNil) (tLst (tCons (tTup (tCons (tC (.str "calf")) (tCons (tLst (tCons (tC (.int 7)) (tCons (tC (.int 9)) (tCons (tC (.int 100)) tNil)))) tNil))) (tCons (tTup (tCons (tC (.str "cloth")) (tCons (tLst (tCons (tC (.int 8)) (tCons (tC (.int 99)) tNil))) tNil))) tNil))))) (tTest (tOp (rOwnNe K (He.ga K "Job") (sp_Job_eq K) (fun vs zs => pick .non [0, 1] (vs ++ zs)) E0) (tCl 1 0 (sp_first_of K) (fun vs zs => pick .non [0] (vs ++ zs)) E0 (tCons (tSl (rSlA K) (tVar 2) tNoPart (tPart (tC (.int 4)))) tNil) tNil) (tOp (rIx K) (tVar 2) (tC (.int 2)))))) (tRet (tC (.bl false))) tNext) (t_law_by_hand_right_6 K))
abbrev t_law_by_hand_right_8 (K : PySem.W.Frag) : TS := (tSeq (tIfS (tOr (tTest (tOp (rNeA K) (tLc (iAny K (tCl 1 0 (sp_by_rank K) (fun vs zs => pick .non [0] (vs ++ zs)) E0 (tCons (tVar 2) tNil) tNil)) (gName 3) tYes (tMe (He.ga K "Job") "numbered" 0 0 (sp_Job_numbered K) (fun vs zs => pick .non [0] (vs ++ zs)) E0 (tVar 3) tNil tNil) [3]) (tLst (tCons (tC (.int 100)) (tCons (tC (.int 7)) (tCons (tC (.int 8)) (tCons (tC (.int 9)) (tCons (tC (.int 99)) tNil)))))))) (tTest (tOp (rOwnNe K (He.ga K "Job") (sp_Job_eq K) (fun vs zs => pick .non [0, 1] (vs ++ zs)) E0) (tCl 1 0 (sp_first_of K) (fun vs zs => pick .non [0] (vs ++ zs)) E0 (tCons (tVar 2) tNil) tNil) (tOp (rIx K) (tVar 2) (tC (.int 4)))))) (tRet (tC (.bl false))) tNext) (t_law_by_hand_right_7 K))
abbrev t_law_by_hand_right_9 (K : PySem.W.Frag) : TS := (tSeq (tDrop (tBM K "list" rAppend (tVar 2) (tCons (tMk (He.ga K "Job") 5 0 (sp_Job_init K) (fun vs zs => pick .non [0, 1, 2, 3, 4, 5] (vs ++ (zs ++ [.int 0, .non, .bl false]))) E0 (tCons (tC (.int 100)) (tCons (tVar 0) (tCons (tC (.int 9)) (tCons (tC (.int 99)) (tCons (tC (.bl true)) tNil))))) tNil) tNil))) (t_law_by_hand_right_8 K))
abbrev t_law_by_hand_right_10 (K : PySem.W.Frag) : TS := (tSeq (tAsg (tLst (tCons (tMk (He.ga K "Job") 4 0 (sp_Job_init K) (fun vs zs => pick .non [0, 1, 2, 3, 4, 7] (vs ++ (zs ++ [.int 0, .non, .bl false]))) E0 (tCons (tC (.int 9)) (tCons (tVar 0) (tCons (tC (.int 5)) (tCons (tC (.int 20)) tNil)))) tNil) (tCons (tMk (He.ga K "Job") 4 0 (sp_Job_init K) (fun vs zs => pick .non [0, 1, 2, 3, 4, 7] (vs ++ (zs ++ [.int 0, .non, .bl false]))) E0 (tCons (tC (.int 8)) (tCons (tVar 1) (tCons (tC (.int 4)) (tCons (tC (.int 20)) tNil)))) tNil) (tCons (tMk (He.ga K "Job") 4 0 (sp_Job_init K) (fun vs zs => pick .non [0, 1, 2, 3, 4, 7] (vs ++ (zs ++ [.int 0, .non, .bl false]))) E0 (tCons (tC (.int 7)) (tCons (tVar 0) (tCons (tC (.int 4)) (tCons (tC (.int 20)) tNil)))) tNil) (tCons (tMk (He.ga K "Job") 4 0 (sp_Job_init K) (fun vs zs => pick .non [0, 1, 2, 3, 4, 7] (vs ++ (zs ++ [.int 0, .non, .bl false]))) E0 (tCons (tC (.int 99)) (tCons (tVar 1) (tCons (tC (.int 3)) (tCons (tC (.int 21)) tNil)))) tNil) tNil))))) (gName 2)) (t_law_by_hand_right_9 K))
def t_law_by_hand_right (K : PySem.W.Frag) : TS := (tSeq (tAsg (tTup (tCons (tMk (He.ga K "Style") 2 0 (sp_Style_init K) (fun vs zs => pick .non [0, 1, 2] (vs ++ zs)) E0 (tCons (tC (.str "calf")) (tCons (tLst (tCons (tTup (tCons (tC (.str "sew")) (tCons (tC (.int 5)) (tCons (tC (.int 0)) tNil)))) tNil)) tNil)) tNil) (tCons (tMk (He.ga K "Style") 2 0 (sp_Style_init K) (fun vs zs => pick .non [0, 1, 2] (vs ++ zs)) E0 (tCons (tC (.str "cloth")) (tCons (tLst (tCons (tTup (tCons (tC (.str "sew")) (tCons (tC (.int 5)) (tCons (tC (.int 0)) tNil)))) tNil)) tNil)) tNil) tNil))) (gTup K 2 (gCons (gName 0) (gCons (gName 1) gNil)))) (t_law_by_hand_right_10 K))
theorem rd_law_by_hand_right {K : PySem.W.Frag} (C : JobC K) (D : OwnD K (He.ga K "Job")) (vs : List V) (H : Hp) (Q : VK) (E : XK) (h : sp_law_by_hand_right K vs H Q E) : t_law_by_hand_right K { nx := fun _ H' => Q .non H', rt := Q } (start ["calf", "cloth", "row", "job", "k"] vs) H := by
  obtain ⟨_, B, M, L, rfl, hI, q⟩ := h
  show t_law_by_hand_right K ⟨_, _, _, _⟩ [none, none, none, none, none] H
  replace hI := hI.forget (List.nil_sublist L)
  unfold t_law_by_hand_right
  tm_at "next"
  refine' g_seq ?_
  refine' g_asg ?_
  refine' g_tup ?_
  refine' g_cons ?_
  refine te_style1 hI good_calf ?_
  clear hI
  intro calf B1 H s1 hI hC
  refine' g_cons ?_
  refine te_style1 hI good_cloth ?_
  clear hI
  intro cloth B2 H s2 hI hD
  replace hC := hC.same s2
  tm_at "go"
  obtain ⟨a0, rfl⟩ : ∃ q, q = x := ⟨_, rfl⟩
  refine' ap_Job_init (K := K) ⟨9, "calf", oneS, 5, 20, false⟩ hI hC (gjm good_calf (by decide)) ?_
  clear hI
  intro B3 H s3 hI ha0
  replace hC := hC.same s3
  replace hD := hD.same s3
  refine ⟨rfl, ?_⟩
  tm_at "go"
  obtain ⟨a1, rfl⟩ : ∃ q, q = x := ⟨_, rfl⟩
  refine' ap_Job_init (K := K) ⟨8, "cloth", oneS, 4, 20, false⟩ hI hD (gjm good_cloth (by decide)) ?_
  clear hI
  intro B4 H s4 hI ha1
  replace hC := hC.same s4
  replace hD := hD.same s4
  replace ha0 := ha0.same s4
  refine ⟨rfl, ?_⟩
  tm_at "go"
  obtain ⟨a2, rfl⟩ : ∃ q, q = x := ⟨_, rfl⟩
  refine' ap_Job_init (K := K) ⟨7, "calf", oneS, 4, 20, false⟩ hI hC (gjm good_calf (by decide)) ?_
  clear hI
  intro B5 H s5 hI ha2
  replace hC := hC.same s5
  replace hD := hD.same s5
  replace ha0 := ha0.same s5
  replace ha1 := ha1.same s5
  refine ⟨rfl, ?_⟩
  tm_at "go"
  obtain ⟨a3, rfl⟩ : ∃ q, q = x := ⟨_, rfl⟩
  refine' ap_Job_init (K := K) ⟨99, "cloth", oneS, 3, 21, false⟩ hI hD (gjm good_cloth (by decide)) ?_
  clear hI
  intro B6 H s6 hI ha3
  replace hC := hC.same s6
  replace hD := hD.same s6
  replace ha0 := ha0.same s6
  replace ha1 := ha1.same s6
  replace ha2 := ha2.same s6
  refine ⟨rfl, ?_⟩
  tm_at "go"
  obtain ⟨rowa, rfl⟩ : ∃ q, q = p := ⟨_, rfl⟩
  obtain ⟨a4, rfl⟩ : ∃ q, q = x := ⟨_, rfl⟩
  refine' ap_Job_init (K := K) ⟨100, "calf", oneS, 9, 99, true⟩ hI hC (gjm good_calf (by decide)) ?_
  clear hI
  intro B7 H s7 hI ha4
  replace hC := hC.same s7
  replace hD := hD.same s7
  replace ha0 := ha0.same s7
  replace ha1 := ha1.same s7
  replace ha2 := ha2.same s7
  replace ha3 := ha3.same s7
  refine ⟨rfl, ?_⟩
  tm_at "go"
  refine' hI.give (a := rowa) (by tm_at "del") ?_
  clear hI
  intro B8 s8 hrA hI
  replace hC := hC.same s8
  replace hD := hD.same s8
  replace ha0 := ha0.same s8
  replace ha1 := ha1.same s8
  replace ha2 := ha2.same s8
  replace ha3 := ha3.same s8
  replace ha4 := ha4.same s8
  have hJA : JobsA K B8 [.ref a0, .ref a1, .ref a2, .ref a3, .ref a4] rowA := .cons ⟨_, rfl, ha0⟩ (.cons ⟨_, rfl, ha1⟩ (.cons ⟨_, rfl, ha2⟩ (.cons ⟨_, rfl, ha3⟩ (.cons ⟨_, rfl, ha4⟩ .nil))))
  refine' ap_by_rank (K := K) hI (.inl (SqL.of hrA)) hJA ?_
  clear hI
  intro pn ys H hY hI
  rw [ordJ_ordC, ordA] at hY
  tm_at "go"
  refine' g_numbs hI hY (by decide) ?_
  clear hI
  intro pn H hI
  tm_at "go"
  refine g_ne_isC (ns := [100, 7, 8, 9, 99]) (by decide) (SqL.of (hI.get (by tm_at "mem"))) (SqL.of (hI.get (.head _))) ?_
  tm_at "go"
  refine' ap_first_of (K := K) hI (.inl (SqL.of hrA)) hJA (fun e => by cases e) ?_
  clear hI
  intro x j H hJ hm hh hI
  rw [ordJ_ordC, ordA] at hh
  cases hh
  tm_at "go"
  refine g_ix_l (SqL.of (hI.b hrA)) (atI_of (by decide) rfl) ?_
  refine' g_jobNe D C hI hJ ha4 ?_
  clear hI
  intro H hI
  rw [decide_eq_true rfl]
  tm_at "go"
  obtain ⟨ta, rfl⟩ : ∃ q, q = p := ⟨_, rfl⟩
  refine' hI.give (a := ta) (by tm_at "del") ?_
  clear hI
  intro B9 s9 hta hI
  replace hC := hC.same s9
  replace hD := hD.same s9
  replace ha0 := ha0.same s9
  replace ha1 := ha1.same s9
  replace ha2 := ha2.same s9
  replace ha3 := ha3.same s9
  replace ha4 := ha4.same s9
  replace hJA := hJA.same s9
  replace hrA := s9 _ _ hrA
  refine' ap_by_style (K := K) hI (.inr (SqT.of hta)) hJA (by decide) ?_
  clear hI
  intro rs pw B10 H s10 hI hA hN
  replace hC := hC.same s10
  replace hD := hD.same s10
  replace ha0 := ha0.same s10
  replace ha1 := ha1.same s10
  replace ha2 := ha2.same s10
  replace ha3 := ha3.same s10
  replace ha4 := ha4.same s10
  replace hJA := hJA.same s10
  replace hrA := s10 _ _ hrA
  have eA := hN.uniq namedA
  tm_at "go"
  obtain ⟨pz, rfl⟩ : ∃ q, q = p := ⟨_, rfl⟩
  have hdp : DpAll K H (rs.map fun r => V.ref r.t) ((rs.map NmR.pr).map nmD) := dp_told (fun r hr => hI.b (hA r hr)) fun r hr => hI.get (by simp only [List.mem_cons, List.mem_append]; right; right; right; right; right; left; exact List.mem_map.mpr ⟨r, hr, rfl⟩)
  rw [eA] at hdp
  refine g_ne_named wsA_ok (SqL.of (hI.get (by simp [List.mem_cons, List.mem_append]))) hdp (SqL.of (hI.get (.head _))) (.cons (.tup (SqT.of (hI.get (by tm_at "mem"))) (.cons (.str _) (.cons (.lst (SqL.of (hI.get (by tm_at "mem"))) (dp_intsC [7, 9, 100])) .nil))) (.cons (.tup (SqT.of (hI.get (by tm_at "mem"))) (.cons (.str _) (.cons (.lst (SqL.of (hI.get (by tm_at "mem"))) (dp_intsC [8, 99])) .nil))) .nil)) ?_
  replace hI := hI.forget (List.nil_sublist _)
  tm_at "go"
  refine g_sl_l hI (SqL.of (hI.b hrA)) ?_
  clear hI
  intro p4 H hI
  replace hI : Is _ _ [(p4, .lst [.ref a0, .ref a1, .ref a2, .ref a3])] H := hI
  refine' hI.give (a := p4) (by tm_at "del") ?_
  clear hI
  intro B11 s11 h4 hI
  replace hC := hC.same s11
  replace hD := hD.same s11
  replace ha0 := ha0.same s11
  replace ha1 := ha1.same s11
  replace ha2 := ha2.same s11
  replace ha3 := ha3.same s11
  replace ha4 := ha4.same s11
  replace hJA := hJA.same s11
  replace hrA := s11 _ _ hrA
  have hJ4 : JobsA K B11 [.ref a0, .ref a1, .ref a2, .ref a3] (rowA.take 4) := .cons ⟨_, rfl, ha0⟩ (.cons ⟨_, rfl, ha1⟩ (.cons ⟨_, rfl, ha2⟩ (.cons ⟨_, rfl, ha3⟩ .nil)))
  tm_at "go"
  refine' ap_first_of (K := K) hI (.inl (SqL.of h4)) hJ4 (fun e => by cases e) ?_
  clear hI
  intro x j H hJ hm hh hI
  rw [ordJ_ordC, ordA4] at hh
  cases hh
  tm_at "go"
  refine g_ix_l (SqL.of (hI.b hrA)) (atI_of (by decide) rfl) ?_
  refine' g_jobNe D C hI hJ ha2 ?_
  clear hI
  intro H hI
  rw [decide_eq_true rfl]
  tm_at "go"
  obtain ⟨b0, rfl⟩ : ∃ q, q = x := ⟨_, rfl⟩
  refine' ap_Job_init (K := K) ⟨1, "calf", oneS, 0, 0, false⟩ hI hC (gjm good_calf (by decide)) ?_
  clear hI
  intro B12 H s12 hI hb0
  replace hC := hC.same s12
  replace hD := hD.same s12
  refine ⟨rfl, ?_⟩
  tm_at "go"
  obtain ⟨b1, rfl⟩ : ∃ q, q = x := ⟨_, rfl⟩
  refine' ap_Job_init (K := K) ⟨2, "calf", oneS, 1000000, 1000000, true⟩ hI hC (gjm good_calf (by decide)) ?_
  clear hI
  intro B13 H s13 hI hb1
  replace hC := hC.same s13
  replace hD := hD.same s13
  replace hb0 := hb0.same s13
  refine ⟨rfl, ?_⟩
  tm_at "go"
  obtain ⟨b2, rfl⟩ : ∃ q, q = x := ⟨_, rfl⟩
  refine' ap_Job_init (K := K) ⟨3, "calf", oneS, 0, 1000000, false⟩ hI hC (gjm good_calf (by decide)) ?_
  clear hI
  intro B14 H s14 hI hb2
  replace hC := hC.same s14
  replace hD := hD.same s14
  replace hb0 := hb0.same s14
  replace hb1 := hb1.same s14
  refine ⟨rfl, ?_⟩
  tm_at "go"
  obtain ⟨rowb, rfl⟩ : ∃ q, q = p := ⟨_, rfl⟩
  obtain ⟨b3, rfl⟩ : ∃ q, q = x := ⟨_, rfl⟩
  refine' ap_Job_init (K := K) ⟨4, "calf", oneS, 1000000, 1000000, false⟩ hI hC (gjm good_calf (by decide)) ?_
  clear hI
  intro B15 H s15 hI hb3
  replace hC := hC.same s15
  replace hD := hD.same s15
  replace hb0 := hb0.same s15
  replace hb1 := hb1.same s15
  replace hb2 := hb2.same s15
  refine ⟨rfl, ?_⟩
  tm_at "go"
  refine' hI.give (a := rowb) (by tm_at "del") ?_
  clear hI
  intro B16 s16 hrB hI
  replace hC := hC.same s16
  replace hD := hD.same s16
  replace hb0 := hb0.same s16
  replace hb1 := hb1.same s16
  replace hb2 := hb2.same s16
  replace hb3 := hb3.same s16
  have hJB : JobsA K B16 [.ref b0, .ref b1, .ref b2, .ref b3] rowB := .cons ⟨_, rfl, hb0⟩ (.cons ⟨_, rfl, hb1⟩ (.cons ⟨_, rfl, hb2⟩ (.cons ⟨_, rfl, hb3⟩ .nil)))
  refine' ap_by_rank (K := K) hI (.inl (SqL.of hrB)) hJB ?_
  clear hI
  intro pn ys H hY hI
  rw [ordJ_ordC, ordB] at hY
  tm_at "go"
  refine' g_numbs hI hY (by decide) ?_
  clear hI
  intro pn H hI
  tm_at "go"
  refine g_ne_isC (ns := [2, 1, 3, 4]) (by decide) (SqL.of (hI.get (by tm_at "mem"))) (SqL.of (hI.get (.head _))) ?_
  tm_at "go"
  refine' ap_first_of (K := K) hI (.inl (SqL.of hrB)) hJB (fun e => by cases e) ?_
  clear hI
  intro x j H hJ hm hh hI
  rw [ordJ_ordC, ordB] at hh
  cases hh
  tm_at "go"
  refine g_ix_l (SqL.of (hI.b hrB)) (atI_of (by decide) rfl) ?_
  refine' g_jobNe D C hI hJ hb1 ?_
  clear hI
  intro H hI
  rw [decide_eq_true rfl]
  tm_at "go"
  replace hI := hI.forget (List.nil_sublist _)
  refine' g_aLc walk_range hI (by tm_at "wiped") (by decide) (fun i acc B' M' => M' = M ∧ JobsA K B' acc ((List.range i).map jobK)) ⟨rfl, .nil⟩ (fun _ _ _ _ _ _ _ _ _ _ => trivial) ?_ ?_
  · clear hI
    rintro i v acc BB MM DD H' H'' hi ss hI ⟨rfl, hAc⟩ ⟨rfl, rfl⟩ hz
    have hi : i < 40 := hi
    tm_at "go"
    refine' g_wiped (by tm_at "wiped") ?_
    tm_at "go"
    obtain ⟨y, rfl⟩ : ∃ q, q = x := ⟨_, rfl⟩
    rw [show (0 : Int) + (i : Int) + 1 = (i : Int) + 1 by omega, show (200 : Int) - (0 + (i : Int)) = 200 - (i : Int) by omega]
    refine' ap_Job_init (K := K) (jobK i) hI (hC.same ss) (gjm good_calf (by omega)) ?_
    clear hI
    intro BC H sc hI hy
    refine ⟨rfl, ?_⟩
    refine lcY (ss.trans sc) hI hz ⟨rfl, ?_⟩
    rw [List.range_succ, List.map_append]
    exact (hAc.same sc).snoc ⟨y, rfl, hy⟩
  clear hI
  rintro xk BK MK rowk H sk hI ⟨rfl, hJK⟩ _
  replace hJK : JobsA K BK xk rowK := hJK
  tm_at "next"
  tm_at "go"
  refine' hI.give (a := rowk) (by tm_at "del") ?_
  clear hI
  intro BL sl hrK hI
  replace hJK := hJK.same sl
  refine' ap_by_rank (K := K) hI (.inl (SqL.of hrK)) hJK ?_
  clear hI
  intro pn ys H hY hI
  rw [ordJ_ordC, ordK] at hY
  tm_at "go"
  refine' g_numbs hI hY (by decide) ?_
  clear hI
  intro pn H hI
  tm_at "go"
  refine' g_lcX (xs := rng 0 40) (((List.range 40).map fun (k : Nat) => V.int (40 - (k : Int)))) rfl walkR hI (by tm_at "wiped") (by decide) (fun D acc H' I => trivial) ?_ ?_
  · clear hI
    intro i x y D acc H' hx hy hI PY hPY
    have hi : i < 40 := by
      have := (List.getElem?_eq_some_iff.mp hx).1
      rwa [rng_len] at this
    have hx : x = .int (0 + (i : Int)) := by
      unfold rng at hx
      rw [List.getElem?_map, List.getElem?_range hi] at hx
      cases hx
      rfl
    have hy : y = .int (40 - (i : Int)) := by
      rw [List.getElem?_map, List.getElem?_range hi] at hy
      cases hy
      rfl
    subst hx
    subst hy
    tm_at "go"
    refine' g_wiped (by tm_at "wiped") ?_
    tm_at "go"
    rw [show (40 : Int) - (0 + (i : Int)) = 40 - (i : Int) by omega]
    exact hPY _ hI
  clear hI
  intro pq H hI
  have e40 : ((List.range 40).map fun k => jobK (39 - k)).map (fun j => V.int j.n) = ((List.range 40).map fun (k : Nat) => (40 - (k : Int))).map V.int := by
    rw [List.map_map, List.map_map]
    refine List.map_congr_left fun k hk => ?_
    have := List.mem_range.mp hk
    show V.int (((39 - k : Nat) : Int) + 1) = V.int (40 - (k : Int))
    rw [show ((39 - k : Nat) : Int) + 1 = 40 - (k : Int) by omega]
  rw [e40] at hI
  tm_at "go"
  refine g_ne_isC (ns := (List.range 40).map fun (k : Nat) => (40 - (k : Int))) (by decide +kernel) (SqL.of (hI.get (by tm_at "mem"))) (SqL.of (by rw [List.map_map]; exact hI.get (.head _))) ?_
  tm_at "go"
  have hKl : xk.length = 40 := by
    rw [hJK.len, List.length_map, List.length_range]
  refine' ap_first_of (K := K) hI (.inl (SqL.of hrK)) hJK (fun e => by cases e) ?_
  clear hI
  intro x j H hJ hm hh hI
  rw [ordJ_ordC, ordK] at hh
  cases hh
  tm_at "go"
  obtain ⟨v39, e39, a39, rfl, h39⟩ := hJK.get' (i := 39) (y := jobK 39) rfl
  refine g_ix_l (SqL.of (hI.b hrK)) (atI_of (by decide) e39) ?_
  refine' g_jobNe D C hI hJ h39 ?_
  clear hI
  intro H hI
  rw [decide_eq_true rfl]
  tm_at "go"
  refine' ap_by_style (K := K) hI (.inl (SqL.of hrK)) hJK (by rw [List.length_map, List.length_range]; decide) ?_
  clear hI
  intro rs pw BM H sm hI hA hN
  have eK := hN.uniq namedK
  tm_at "go"
  refine' g_lcX (xs := rng 0 40) (((List.range 40).map fun (k : Nat) => V.int ((k : Int) + 1))) rfl walkR hI (by tm_at "wiped") (by decide) (fun D acc H' I => trivial) ?_ ?_
  · clear hI
    intro i x y D acc H' hx hy hI PY hPY
    have hi : i < 40 := by
      have := (List.getElem?_eq_some_iff.mp hx).1
      rwa [rng_len] at this
    have hx : x = .int (0 + (i : Int)) := by
      unfold rng at hx
      rw [List.getElem?_map, List.getElem?_range hi] at hx
      cases hx
      rfl
    have hy : y = .int ((i : Int) + 1) := by
      rw [List.getElem?_map, List.getElem?_range hi] at hy
      cases hy
      rfl
    subst hx
    subst hy
    tm_at "go"
    refine' g_wiped (by tm_at "wiped") ?_
    tm_at "go"
    rw [show (0 : Int) + (i : Int) + 1 = (i : Int) + 1 by omega]
    exact hPY _ hI
  clear hI
  intro pq H hI
  tm_at "go"
  have hdp : DpAll K H (rs.map fun r => V.ref r.t) ((rs.map NmR.pr).map nmD) := dp_told (fun r hr => hI.b (hA r hr)) fun r hr => hI.get (by simp only [List.mem_cons, List.mem_append]; right; right; right; left; exact List.mem_map.mpr ⟨r, hr, rfl⟩)
  rw [eK] at hdp
  refine g_ne_named wsK_ok (SqL.of (hI.get (by simp [List.mem_cons, List.mem_append]))) hdp (SqL.of (hI.get (.head _))) (.cons (.tup (SqT.of (hI.get (by tm_at "mem"))) (.cons (.str _) (.cons (.lst (SqL.of (by rw [List.map_map]; exact hI.get (by tm_at "mem"))) (dp_intsC ((List.range 40).map fun (k : Nat) => (k : Int) + 1))) .nil))) .nil) ?_
  replace hI := hI.forget (List.nil_sublist _)
  tm_at "go"
  obtain ⟨z1, rfl⟩ : ∃ q, q = p := ⟨_, rfl⟩
  refine' hI.give (a := z1) (by tm_at "del") ?_
  clear hI
  intro C1 t1 e1 hI
  refine' ap_by_rank (K := K) hI (.inl (SqL.of e1)) .nil ?_
  clear hI
  intro w1 y1 H hY1 hI
  rw [ordJ_nil] at hY1
  cases hY1
  tm_at "go"
  obtain ⟨z2, rfl⟩ : ∃ q, q = p := ⟨_, rfl⟩
  refine' hI.give (a := z2) (by tm_at "del") ?_
  clear hI
  intro C2 t2 e2 hI
  refine' ap_by_rank (K := K) hI (.inr (SqT.of e2)) .nil ?_
  clear hI
  intro w2 y2 H hY2 hI
  rw [ordJ_nil] at hY2
  cases hY2
  have nil_rs : ∀ rs : List NmR, Named [] (rs.map NmR.pr) → rs = [] := fun rs h => by
    cases rs with
    | nil => rfl
    | cons r t =>
      obtain ⟨j, hj, _⟩ := (h.mem r.nm).1 List.mem_cons_self
      cases hj
  tm_at "go"
  obtain ⟨z3, rfl⟩ : ∃ q, q = p := ⟨_, rfl⟩
  refine' hI.give (a := z3) (by tm_at "del") ?_
  clear hI
  intro C3 t3 e3 hI
  refine' ap_by_style (K := K) hI (.inl (SqL.of e3)) .nil (by decide) ?_
  clear hI
  intro r3 w3 D3 H d3 hI _ hN3
  cases nil_rs r3 hN3
  replace hI : Is D3 _ ((w3, .lst []) :: _) H := hI
  tm_at "go"
  obtain ⟨z4, rfl⟩ : ∃ q, q = p := ⟨_, rfl⟩
  refine' hI.give (a := z4) (by tm_at "del") ?_
  clear hI
  intro C4 t4 e4 hI
  refine' ap_by_style (K := K) hI (.inr (SqT.of e4)) .nil (by decide) ?_
  clear hI
  intro r4 w4 D4 H d4 hI _ hN4
  cases nil_rs r4 hN4
  replace hI : Is D4 _ ((w4, .lst []) :: _) H := hI
  tm_at "go"
  obtain ⟨z5, rfl⟩ : ∃ q, q = p := ⟨_, rfl⟩
  refine' hI.give (a := z5) (by tm_at "del") ?_
  clear hI
  intro C5 t5 e5 hI
  refine' ap_first_of (K := K) hI (.inl (SqL.of e5)) .nil (fun _ => ?_) (fun x j H _ _ hh => by rw [ordJ_nil] at hh; cases hh)
  clear hI
  intro H hI
  tm_at "go"
  obtain ⟨z6, rfl⟩ : ∃ q, q = p := ⟨_, rfl⟩
  refine' hI.give (a := z6) (by tm_at "del") ?_
  clear hI
  intro C6 t6 e6 hI
  refine' ap_first_of (K := K) hI (.inr (SqT.of e6)) .nil (fun _ => ?_) (fun x j H _ _ hh => by rw [ordJ_nil] at hh; cases hh)
  clear hI
  intro H hI
  tm_at "go"
  refine g_mul_l (n := 4) hI (hI.get (.head _)) (Nat.le_of_ble_eq_true rfl) (by decide) ?_
  clear hI
  intro m1 H hI
  tm_at "go"
  refine g_mul_l (n := 2) hI (hI.get (.head _)) (Nat.le_of_ble_eq_true rfl) (by decide) ?_
  clear hI
  intro m2 H hI
  tm_at "go"
  refine g_add_l hI (hI.get (by tm_at "mem")) (hI.get (.head _)) (Nat.le_of_ble_eq_true rfl) ?_
  clear hI
  intro m3 H hI
  have dnil : ∀ {a : Addr}, H a = some (.lst []) → Dp K H (.ref a) (.list []) := fun h => .lst (SqL.of h) .nil
  have sh : Shn (.list [.list [], .list [], .list [], .list [], .none, .none]) _ 2 := .lst (.cons (.lst .nil) (.cons (.lst .nil) (.cons (.lst .nil) (.cons (.lst .nil) (.cons .non (.cons .non .nil))))))
  refine g_eq_d (.lst (SqL.of (hI.get (by tm_at "mem"))) (.cons (dnil (hI.get (a := w1) (by tm_at "mem"))) (.cons (dnil (hI.get (a := w2) (by tm_at "mem"))) (.cons (dnil (hI.get (a := w3) (by tm_at "mem"))) (.cons (dnil (hI.get (a := w4) (by tm_at "mem"))) (.cons .non (.cons .non .nil)))))))
    (.lst (SqL.of (hI.get (.head _))) (.cons (dnil (hI.get (by tm_at "mem"))) (.cons (dnil (hI.get (by tm_at "mem"))) (.cons (dnil (hI.get (by tm_at "mem"))) (.cons (dnil (hI.get (by tm_at "mem"))) (.cons .non (.cons .non .nil)))))))
    (Shn.shaped sh (by decide)) (Shn.shaped sh (by decide)) ?_
  rw [SeqAt.eqv_refl _ (Shn.lay sh)]
  exact q _
/-! ### the law -/
def hide (B : Hp) (a : Addr) : Hp := fun b => if b = a then none else B b
theorem Is.retake {B H : Hp} {M L : List (Addr × HO)} {a : Addr} {o : HO} (I : Is B M L H) (h : B a = some o) : Is (hide B a) M ((a, o) :: L) H := by
  have hne : ∀ q ∈ L ++ M, q.1 ≠ a := fun q hq z => by
    have := (I.own q hq).2
    rw [z, h] at this
    cases this
  refine ⟨fun b x e => ?_, fun q hq => ?_, ?_⟩
  · unfold hide at e
    split at e
    · cases e
    · exact I.ex b x e
  · rcases List.mem_cons.mp (show q ∈ (a, o) :: (L ++ M) from hq) with rfl | hq
    · exact ⟨I.ex _ _ h, by unfold hide; exact if_pos rfl⟩
    · have h2 := I.own q hq
      exact ⟨h2.1, by unfold hide; rw [if_neg (hne q hq)]; exact h2.2⟩
  · show ((((a, o) :: (L ++ M)).map (·.1))).Nodup
    refine List.nodup_cons.mpr ⟨fun z => ?_, I.nd⟩
    obtain ⟨q, hq, e⟩ := List.mem_map.mp z
    exact hne q hq e
theorem Same.hide {B B' : Hp} {a : Addr} (h : B a = none) (s : Same B B') : Same B (hide B' a) := fun b x e => by
  unfold Bz.hide
  split
  · next hb => rw [hb, h] at e; cases e
  · exact s b x e
theorem All2.rev {α β : Type} {R : α → β → Prop} : ∀ {xs : List α} {ys : List β}, All2 R xs ys → All2 R xs.reverse ys.reverse
  | _, _, .nil => .nil
  | _, _, .cons a t => by
    rw [List.reverse_cons, List.reverse_cons]
    exact (All2.rev t).app (.cons a .nil)
theorem atI_back {α : Type} {xs : List α} {a : α} (h0 : 0 < xs.length) (h : xs[xs.length - 1]? = some a) : atI xs (-1) = some a := by
  unfold atI ixN
  rw [if_neg (by decide), if_pos (by omega)]
  show xs[((-1 : Int) + (xs.length : Int)).toNat]? = _
  rw [show ((-1 : Int) + (xs.length : Int)).toNat = xs.length - 1 by omega]
  exact h
/-- a row lent, taken back behind -/
theorem Is.lend {B H : Hp} {M L : List (Addr × HO)} {a : Addr} {o : HO} {G : Prop} (I : Is B M ((a, o) :: L) H) (k : ∀ B1, Same B B1 → B1 a = some o → Is B1 M L H → (∀ B2 M2 L2 H2, Same B1 B2 → Is B2 M2 L2 H2 → ∃ B3, Same B B3 ∧ Is B3 M2 ((a, o) :: L2) H2 ∧ (∀ b x, b ≠ a → B2 b = some x → B3 b = some x)) → G) : G := by
  have hno : B a = none := (I.own (a, o) (List.mem_cons_self)).2
  refine I.give (a := a) .here ?_
  intro B1 s1 h1 I1
  refine k B1 s1 h1 I1 fun B2 M2 L2 H2 s2 I2 => ⟨hide B2 a, Same.hide hno (s1.trans s2), I2.retake (s2 _ _ h1), fun b x hb e => ?_⟩
  unfold Bz.hide
  rw [if_neg hb]
  exact e
theorem ap_law_begun {K : PySem.W.Frag} {B H : Hp} {L : List (Addr × HO)} {Q : VK} {E : XK} {a : Addr} {ns : List Int} (I : Is B [] L H) (h : SqL K B a (ns.map V.int)) (hl : ns.length ≤ 63) (q : ∀ (m : Addr) (B' : Hp) (M : List (Addr × HO)) (H' : Hp), Same B B' → Is B' M L H' → Dr m 0 B' M → Q (.ref m) H') : sp_law_begun K [.ref a] H Q E :=
  ⟨rfl, a, ns, B, L, rfl, I, h, hl, q⟩
def sp_law (K : PySem.W.Frag) : Sp := fun vs H Q _ => vs.length = 1 ∧ ∃ (a : Addr) (ns : List Int) (B : Hp) (L : List (Addr × HO)), vs = [.ref a] ∧ Is B [] L H ∧ SqL K B a (ns.map V.int) ∧ ns.length ≤ 63 ∧ ∀ H', Q (.bl true) H'
theorem law_asked {K : PySem.W.Frag} (H : Hp) (a : Addr) (ns : List Int) (hn : ns.length ≤ 63) (h : SqL K H a (ns.map V.int)) : sp_law K [.ref a] H (fun v _ => v = .bl true) fun _ _ _ => False :=
  ⟨rfl, a, ns, H, [], rfl, ⟨fun _ _ e => e, fun p hp => (by cases hp), .nil⟩, h, hn, fun _ => rfl⟩
abbrev t_law_0 (K : PySem.W.Frag) : TS := (tDrop (tBM K "list" rAppend (tVar 6) (tCons (tCl 1 0 (sp_law_job K) (fun vs zs => pick .non [0] (vs ++ zs)) E0 (tCons (tVar 7) tNil) tNil) tNil)))
abbrev t_law_1 (K : PySem.W.Frag) : TS := (tIfS (tAnd (tTest (tOp (rNeNil K) (tVar 6) (tLst tNil))) (tNot (tTr K (tCl 3 0 (sp_law_right K) (fun vs zs => pick .non [0, 1, 2] (vs ++ zs)) E0 (tCons (tOp (rI (fun _ j => 0 < j) fun i j => .int (i % j)) (tVar 2) (tC (.int 2))) (tCons (tTup (tCons (tOp (rIx K) (tVar 6) (tUn (rU fun i => .int (-i)) (tC (.int 1)))) (tCons (tOp (rIx K) (tVar 6) (tC (.int 0))) tNil))) (tCons (tLst (tCons (tOp (rIx K) (tVar 8) (tUn (rU fun i => .int (-i)) (tC (.int 1)))) (tCons (tOp (rIx K) (tVar 8) (tC (.int 0))) tNil))) tNil))) tNil)))) (tRet (tC (.bl false))) tNext)
abbrev t_law_2 (K : PySem.W.Frag) : TS := (tSeq (tIfS (tNot (tTr K (tCl 3 0 (sp_law_right K) (fun vs zs => pick .non [0, 1, 2] (vs ++ zs)) E0 (tCons (tOp (rI0 fun i j => .int (i - j)) (tC (.int 1)) (tOp (rI CDiv fun i j => .int (i / j)) (tVar 2) (tC (.int 2)))) (tCons (tVar 6) (tCons (tVar 8) tNil))) tNil))) (tRet (tC (.bl false))) tNext) (t_law_1 K))
abbrev t_law_3 (K : PySem.W.Frag) : TS := (tSeq (tAsg (tLc (iRng1 (tCons (tCB (rLen K) (tCons (tVar 6) tNil)) tNil)) (gName 9) tYes (tOp (rIx K) (tOp (rAddA K) (tVar 4) (tVar 5)) (tOp (rI0 fun i j => .int (i - j)) (tOp (rI0 fun i j => .int (i - j)) (tCB (rLen K) (tCons (tVar 6) tNil)) (tC (.int 1))) (tVar 9))) [9]) (gName 8)) (t_law_2 K))
abbrev t_law_4 (K : PySem.W.Frag) : TS := (tSeq (tDrop (tBM0 K "list" rReverse (tVar 6))) (t_law_3 K))
abbrev t_law_5 (K : PySem.W.Frag) : TS := (tSeq (tIfS (tNot (tTr K (tCl 3 0 (sp_law_right K) (fun vs zs => pick .non [0, 1, 2] (vs ++ zs)) E0 (tCons (tOp (rI CDiv fun i j => .int (i / j)) (tVar 2) (tC (.int 2))) (tCons (tVar 6) (tCons (tOp (rAddA K) (tVar 4) (tVar 5)) tNil))) tNil))) (tRet (tC (.bl false))) tNext) (t_law_4 K))
abbrev t_law_6 (K : PySem.W.Frag) : TS := (tSeq (tFor (iAny K (tVar 5)) (gName 7) (t_law_0 K)) (t_law_5 K))
abbrev t_law_7 (K : PySem.W.Frag) : TS := (tSeq (tIfS (tOr (tNot (tTr K (tCl 3 0 (sp_law_right K) (fun vs zs => pick .non [0, 1, 2] (vs ++ zs)) E0 (tCons (tOp (rI (fun _ j => 0 < j) fun i j => .int (i % j)) (tVar 2) (tC (.int 2))) (tCons (tVar 6) (tCons (tVar 4) tNil))) tNil))) (tNot (tTr K (tCl 3 0 (sp_law_right K) (fun vs zs => pick .non [0, 1, 2] (vs ++ zs)) E0 (tCons (tOp (rI0 fun i j => .int (i - j)) (tC (.int 1)) (tOp (rI (fun _ j => 0 < j) fun i j => .int (i % j)) (tVar 2) (tC (.int 2)))) (tCons (tCB (rTupOf K) (tCons (tVar 6) tNil)) (tCons (tVar 4) tNil))) tNil)))) (tRet (tC (.bl false))) tNext) (t_law_6 K))
abbrev t_law_8 (K : PySem.W.Frag) : TS := (tSeq (tAsg (tLc (iAny K (tVar 4)) (gName 7) tYes (tCl 1 0 (sp_law_job K) (fun vs zs => pick .non [0] (vs ++ zs)) E0 (tCons (tVar 7) tNil) tNil) [7]) (gName 6)) (t_law_7 K))
abbrev t_law_9 (K : PySem.W.Frag) : TS := (tSeq (tAsg (tTup (tCons (tCl 3 0 (sp_law_plain_jobs K) (fun vs zs => pick .non [0, 1, 2] (vs ++ zs)) E0 (tCons (tVar 1) (tCons (tVar 3) (tCons (tOp (rIx K) (tLst (tCons (tC (.int 16)) (tCons (tC (.int 5)) (tCons (tC (.int 9)) tNil)))) (tVar 2)) tNil))) tNil) (tCons (tCl 3 0 (sp_law_plain_jobs K) (fun vs zs => pick .non [0, 1, 2] (vs ++ zs)) E0 (tCons (tVar 1) (tCons (tVar 3) (tCons (tC (.int 3)) tNil))) tNil) tNil))) (gTup K 2 (gCons (gName 4) (gCons (gName 5) gNil)))) (t_law_8 K))
abbrev t_law_10 (K : PySem.W.Frag) : TS := (tSeq (tAsg (tCl 1 0 (sp_law_kinds K) (fun vs zs => pick .non [0] (vs ++ zs)) E0 (tCons (tVar 1) tNil) tNil) (gName 3)) (t_law_9 K))
abbrev t_law_11 (K : PySem.W.Frag) : TS := (tRet (tCl 0 0 (sp_law_by_hand_right K) (fun vs zs => pick .non [] (vs ++ zs)) E0 tNil tNil))
abbrev t_law_12 (K : PySem.W.Frag) : TS := (tSeq (tFor (iRng1 (tCons (tC (.int 3)) tNil)) (gName 2) (t_law_10 K)) (t_law_11 K))
def t_law (K : PySem.W.Frag) : TS := (tSeq (tAsg (tCl 1 0 (sp_law_begun K) (fun vs zs => pick .non [0] (vs ++ zs)) E0 (tCons (tVar 0) tNil) tNil) (gName 1)) (t_law_12 K))
theorem rd_law {K : PySem.W.Frag} (vs : List V) (H : Hp) (Q : VK) (E : XK) (h : sp_law K vs H Q E) : t_law K { nx := fun _ H' => Q .non H', rt := Q } (start ["script", "m", "turn", "kinds", "plains", "more", "row", "plain", "turned", "k"] vs) H := by
  obtain ⟨_, a, ns, B, L, rfl, hI, ha, hl, q⟩ := h
  show t_law K ⟨_, _, _, _⟩ [some (.ref a), none, none, none, none, none, none, none, none, none] H
  unfold t_law
  tm_at "go"
  refine' ap_law_begun (K := K) hI ha hl ?_
  clear hI
  intro m B0 M H s0 hI hd
  clear s0 ha
  tm_at "go"
  refine' g_aFor walk_range (fun t σ H => ∃ (c2 c3 c4 c5 c6 c7 c8 : Option V) (B1 : Hp) (M : List (Addr × HO)), σ = [some (.ref a), some (.ref m), c2, c3, c4, c5, c6, c7, c8, none] ∧ Is B1 M L H ∧ Dr m (900 * (t : Int)) B1 M)
    ⟨_, _, _, _, _, _, _, B0, M, rfl, hI, hd.mono (by omega)⟩ (fun _ _ _ _ _ => trivial) ?_ ?_
  · clear hI hd
    rintro t y σ H H' ht ⟨c2, c3, c4, c5, c6, c7, c8, B1, M, rfl, hI, hd⟩ ⟨rfl, rfl⟩
    have ht : t < 3 := ht
    tm_at "go"
    refine' ap_law_kinds (K := K) hI hd (by omega) ?_
    clear hI hd
    intro kd ks B2 H M s2 hI hd hkd hks hk0 hk1
    tm_at "go"
    refine g_ix_all (fun x => ∃ n : Int, x = .int n ∧ 1 ≤ n ∧ n ≤ 16) (SqL.of (hI.get (.head _))) (fun x hx => ?_) (by omega) (by show (0 : Int) + (t : Int) < 3; omega) ?_
    · rcases List.mem_cons.mp hx with rfl | hx
      · exact ⟨_, rfl, by decide, by decide⟩
      rcases List.mem_cons.mp hx with rfl | hx
      · exact ⟨_, rfl, by decide, by decide⟩
      rcases List.mem_cons.mp hx with rfl | hx
      · exact ⟨_, rfl, by decide, by decide⟩
      · cases hx
    rintro _ ⟨tp, rfl, tp0, tp1⟩
    tm_at "go"
    refine' ap_law_plain_jobs (K := K) hI hd (by omega) tp0 tp1 hkd hks hk0 hk1 ?_
    clear hI hd
    intro p1 ps js B3 H M s3 hI hd hP hjl hp1
    tm_at "go"
    refine' ap_law_plain_jobs (K := K) hI hd (by omega) (by decide) (by decide) (s3 _ _ hkd) (fun x hx => (hks x hx).same s3) hk0 hk1 ?_
    clear hI hd
    intro p2 qs ls B4 H M s4 hI hd hR hll hp2
    replace hP := hP.same s4
    replace hp1 := s4 _ _ hp1
    clear s2 s3 s4 hkd hks
    have hpl := hP.len
    have hql := hR.len
    tm_at "go"
    replace hI := hI.forget (L' := L) (by tm_at "sub")
    refine' g_aLc (walk_list (xs := ps)) hI (by tm_at "wiped") (by omega) (fun i acc B' M' => M' = M ∧ JobsA K B' acc (js.take i)) ⟨rfl, .nil⟩ (fun i acc B' M' D H' _ s I _ => SqL.of (I.b (s _ _ hp1))) ?_ ?_
    · rintro i v acc B' M' D H' H'' hi s hI ⟨rfl, hAc⟩ ⟨rfl, hv⟩ hz
      obtain ⟨j, ej, b, rfl, hJ⟩ := hP.get hv
      tm_at "go"
      refine' g_wiped (by tm_at "wiped") ?_
      tm_at "go"
      refine' ap_law_job (K := K) hI (hJ.same s) ?_
      clear hI
      intro x B6 H s6 hI hx
      refine lcY (s.trans s6) hI hz ⟨rfl, ?_⟩
      rw [List.take_add_one, ej]
      exact (hAc.same s6).snoc ⟨x, rfl, hx⟩
    clear hI
    rintro xs B5 M' R H s5 hI ⟨rfl, hA⟩ _
    rw [hpl, List.take_of_length_le (Nat.le_refl _)] at hA
    replace hP := hP.same s5
    replace hR := hR.same s5
    replace hp1 := s5 _ _ hp1
    replace hp2 := s5 _ _ hp2
    replace hd := hd.same s5
    clear s5
    have hxl := hA.len
    tm_at "go"
    refine hI.lend ?_
    clear hI
    intro B6 s6 hr hI back
    refine' ap_law_right (K := K) hI (.inl (SqL.of hr)) (hA.same s6) (s6 _ _ hp1) (hP.same s6) (by omega) ?_
    clear hI
    intro B7 H s7 hI
    have hr7 := s7 _ _ hr
    tm_at "go"
    obtain ⟨tr, rfl⟩ : ∃ q, q = p := ⟨_, rfl⟩
    refine' hI.give (a := tr) (by tm_at "del") ?_
    clear hI
    intro B8 s8 htr hI
    have s68 := (s6.trans s7).trans s8
    refine' ap_law_right (K := K) hI (.inr (SqT.of htr)) (hA.same s68) (s68 _ _ hp1) (hP.same s68) (by omega) ?_
    clear hI
    intro B9 H s9 hI
    obtain ⟨B10, s10, hI10, -⟩ := back B9 _ _ _ ((s7.trans s8).trans s9) hI
    clear hI back s6 s7 s8 s9 s68 hr hr7 htr B6 B7 B8 B9
    have hI := hI10
    clear hI10
    replace hA := hA.same s10
    replace hP := hP.same s10
    replace hR := hR.same s10
    replace hp1 := s10 _ _ hp1
    replace hp2 := s10 _ _ hp2
    replace hd := hd.same s10
    clear s10 tr
    tm_at "go"
    refine' g_aFor (walk_list (xs := qs)) (fun i σ H => ∃ (d : Option V) (B6 : Hp) (zs : List V), σ = [some (.ref a), some (.ref m), some (.int (0 + (t : Int))), some (.ref kd), some (.ref p1), some (.ref p2), some (.ref R), d, c8, none] ∧
        Same B10 B6 ∧ Is B6 M' ((R, .lst (xs ++ zs)) :: L) H ∧ JobsA K B6 zs (ls.take i))
      ⟨_, B10, [], rfl, fun _ _ e => e, by rw [List.append_nil]; exact hI, .nil⟩ (fun _ _ _ _ ⟨_, B6, _, _, s6, hI, _⟩ => SqL.of (hI.b (s6 _ _ hp2))) ?_ ?_
    · clear hI
      rintro i v σ H H' hi ⟨d, B6, zs, rfl, s6, hI, hZ⟩ ⟨rfl, hv⟩
      obtain ⟨j, ej, b, rfl, hJ⟩ := hR.get hv
      have hzl := hZ.len
      rw [List.length_take] at hzl
      tm_at "go"
      refine' ap_law_job (K := K) hI (hJ.same s6) ?_
      clear hI
      intro x B7 H s7 hI hx
      tm_at "go"
      rw [List.append_assoc] at hI
      refine ⟨_, B7, zs ++ [.ref x], rfl, s6.trans s7, hI, ?_⟩
      rw [List.take_add_one, ej]
      exact (hZ.same s7).snoc ⟨x, rfl, hx⟩
    clear hI
    rintro σ H ⟨d, B6, zs, rfl, s6, hI, hZ⟩
    rw [hql, List.take_of_length_le (Nat.le_refl _)] at hZ
    replace hA := hA.same s6
    replace hP := hP.same s6
    replace hR := hR.same s6
    replace hp1 := s6 _ _ hp1
    replace hp2 := s6 _ _ hp2
    replace hd := hd.same s6
    clear s6
    have hAZ : JobsA K B6 (xs ++ zs) (js ++ ls) := hA.app hZ
    have hPR : JobsB B6 (ps ++ qs) (js ++ ls) := hP.app hR
    have hzl := hZ.len
    tm_at "go"
    refine g_add_l hI (hI.b hp1) (hI.b hp2) (by omega) ?_
    clear hI
    intro pm H hI
    refine' hI.give (a := pm) (by tm_at "del") ?_
    clear hI
    intro B7 s7 hpm hI
    replace hAZ := hAZ.same s7
    replace hPR := hPR.same s7
    replace hp1 := s7 _ _ hp1
    replace hp2 := s7 _ _ hp2
    replace hd := hd.same s7
    clear s7
    tm_at "go"
    have hjs : (js ++ ls).length < 60 := by
      rw [List.length_append]
      omega
    refine hI.lend ?_
    clear hI
    intro B8 s8 hr hI back
    refine' ap_law_right (K := K) hI (.inl (SqL.of hr)) (hAZ.same s8) (s8 _ _ hpm) (hPR.same s8) hjs ?_
    clear hI
    intro B9 H s9 hI
    obtain ⟨B10, s10, hI10, -⟩ := back B9 _ _ _ s9 hI
    clear hI back s8 s9 hr B8 B9
    have hI := hI10
    clear hI10
    replace hAZ := hAZ.same s10
    replace hPR := hPR.same s10
    replace hp1 := s10 _ _ hp1
    replace hp2 := s10 _ _ hp2
    replace hd := hd.same s10
    clear s10
    tm_at "go"
    refine g_rev hI (hI.get (.head _)) (by tm_at "put") ?_
    clear hI
    intro H hI
    have hrl : (xs ++ zs).reverse.length = (ps ++ qs).length := by
      rw [List.length_reverse, List.length_append, List.length_append]
      omega
    have hpq : (ps ++ qs).length < 60 := by
      rw [List.length_append]
      omega
    tm_at "go"
    refine' g_lcI (ps ++ qs).reverse (by rw [List.length_reverse, ← hrl, Int.toNat_natCast]) walk_range hI (by tm_at "wiped") (by rw [Int.toNat_natCast]; omega) (fun _ _ _ _ => trivial) ?_ ?_
    · clear hI
      rintro i _ w D acc H' H'' hi ⟨rfl, rfl⟩ hw hI PY hPY
      have hi : i < (ps ++ qs).length := by
        rw [← hrl]
        rw [Int.toNat_natCast] at hi
        exact hi
      tm_at "go"
      refine' g_wiped (by tm_at "wiped") ?_
      tm_at "go"
      refine g_add_l hI (hI.b hp1) (hI.b hp2) (by rw [← List.length_append]; omega) ?_
      clear hI
      intro pn H hI
      tm_at "go"
      rw [List.getElem?_reverse (by omega)] at hw
      refine g_ix_l (SqL.of (hI.get (.head _))) (atI_of (by omega) (by rw [show (((xs ++ zs).reverse.length : Int) - 1 - (0 + (i : Int))).toNat = (ps ++ qs).length - 1 - i by omega]; exact hw)) ?_
      exact hPY _ (hI.forget (by tm_at "sub"))
    clear hI
    intro tu H hI
    refine' hI.give (a := tu) (by tm_at "del") ?_
    clear hI
    intro B11 s11 htu hI
    have hAr : JobsA K B10 (xs ++ zs).reverse (js ++ ls).reverse := hAZ.rev
    have hPr : JobsB B10 (ps ++ qs).reverse (js ++ ls).reverse := hPR.rev
    replace hAr := hAr.same s11
    replace hPr := hPr.same s11
    replace hd := hd.same s11
    have hjr : (js ++ ls).reverse.length < 60 := by
      rw [List.length_reverse]
      exact hjs
    clear s11
    tm_at "go"
    refine hI.lend ?_
    clear hI
    intro B12 s12 hr hI back
    refine' ap_law_right (K := K) hI (.inl (SqL.of hr)) (hAr.same s12) (s12 _ _ htu) (hPr.same s12) hjr ?_
    clear hI
    intro B13 H s13 hI
    obtain ⟨B14, s14, hI14, -⟩ := back B13 _ _ _ s13 hI
    clear hI back s12 s13 hr B12 B13
    have hI := hI14
    clear hI14
    replace hAr := hAr.same s14
    replace hPr := hPr.same s14
    replace htu := s14 _ _ htu
    replace hd := hd.same s14
    clear s14
    tm_at "go"
    refine g_neNil (SqL.of (hI.get (by tm_at "mem"))) (SqL.of (hI.get (.head _))) ?_
    refine g_bl ?_
    refine g_nb (fun hn => ?_) (fun hn => ?_)
    · generalize (xs ++ zs).reverse = X at *
      generalize (ps ++ qs).reverse = Y at *
      generalize (js ++ ls).reverse = J at *
      have hXl := hAr.len
      have hYl := hPr.len
      have hpos : 0 < X.length := by
        cases X with
        | nil => cases hn
        | cons _ _ => exact Nat.succ_pos _
      obtain ⟨j0, ej0⟩ : ∃ j, J[0]? = some j := ⟨_, List.getElem?_eq_getElem (by omega)⟩
      obtain ⟨j1, ej1⟩ : ∃ j, J[J.length - 1]? = some j := ⟨_, List.getElem?_eq_getElem (by omega)⟩
      obtain ⟨_, ex0, x0, rfl, hx0⟩ := hAr.get' ej0
      obtain ⟨_, ex1, x1, rfl, hx1⟩ := hAr.get' ej1
      obtain ⟨_, ey0, y0, rfl, hy0⟩ := hPr.get' ej0
      obtain ⟨_, ey1, y1, rfl, hy1⟩ := hPr.get' ej1
      have neg : ∀ {l : List V} {v : V}, l.length = J.length → l[J.length - 1]? = some v → atI l (-1) = some v := fun {l v} hl e => by
        rw [← hl] at e
        exact atI_back (by omega) e
      tm_at "go"
      refine g_ix_l (SqL.of (hI.get (by tm_at "mem"))) (neg hXl ex1) ?_
      tm_at "go"
      refine g_ix_l (SqL.of (hI.get (by tm_at "mem"))) (atI_of (by decide) ex0) ?_
      tm_at "go"
      obtain ⟨tr, rfl⟩ : ∃ q, q = p := ⟨_, rfl⟩
      refine g_ix_l (SqL.of (hI.b htu)) (neg hYl ey1) ?_
      tm_at "go"
      refine g_ix_l (SqL.of (hI.b htu)) (atI_of (by decide) ey0) ?_
      tm_at "go"
      obtain ⟨tq, rfl⟩ : ∃ q, q = p := ⟨_, rfl⟩
      refine' hI.give (a := tr) (by tm_at "del") ?_
      clear hI
      intro B15 s15 htr hI
      refine' hI.give (a := tq) (by tm_at "del") ?_
      clear hI
      intro B16 s16 htq hI
      have s56 := s15.trans s16
      tm_at "go"
      refine' ap_law_right (K := K) (xs := [.ref x1, .ref x0]) (ps := [.ref y1, .ref y0]) (js := [j1, j0]) hI (.inr (SqT.of (s16 _ _ htr))) (.cons ⟨_, rfl, hx1.same s56⟩ (.cons ⟨_, rfl, hx0.same s56⟩ .nil)) htq (.cons ⟨_, rfl, hy1.same s56⟩ (.cons ⟨_, rfl, hy0.same s56⟩ .nil)) (Nat.le_of_ble_eq_true rfl) ?_
      clear hI
      intro B17 H s17 hI
      tm_at "go"
      exact ⟨_, _, _, _, _, _, _, B17, M', rfl, hI.forget (by tm_at "sub"), (hd.mono (by omega)).same (s56.trans s17)⟩
    · tm_at "go"
      exact ⟨_, _, _, _, _, _, _, B14, M', rfl, hI.forget (by tm_at "sub"), hd.mono (by omega)⟩
  · clear hI hd
    rintro σ H ⟨c2, c3, c4, c5, c6, c7, c8, B1, M, rfl, hI, hd⟩
    tm_at "go"
    try refine' g_aCl rfl rfl ?_
    exact ap_law_by_hand_right (K := K) hI q
end Bz
namespace Bz
open PySem PySem.Spec PyProof.Rows L2
/-! ### the text -/
abbrev FnP (K : PySem.W.Frag) (x q : Str) (st : Stmt) (dvs : List V) (f : Addr) (fd : FuncData) : Prop := FunD K x q (defArgs st) (defBody st) (defScope st) dvs [] f fd
structure Txt (K : PySem.W.Frag) (w : World) (mg : Str → Option Value) : Prop where
  c_MOST_LETTERS : ∃ t, mg "MOST_LETTERS" = some (.int 8 t)
  c_MOST_NUMBER : ∃ t, mg "MOST_NUMBER" = some (.int 99999 t)
  c_MOST_HOUR : ∃ t, mg "MOST_HOUR" = some (.int 1000000 t)
  c_MOST_HOURS : ∃ t, mg "MOST_HOURS" = some (.int 240 t)
  c_MOST_STEPS : ∃ t, mg "MOST_STEPS" = some (.int 12 t)
  c_LETTERS : ∃ t, mg "LETTERS" = some (.str "abcdefghijklmnopqrstuvwxyz" t)
  g_BARRED_WORDS : mg "BARRED_WORDS" = some (.ref (He.ga K "BARRED_WORDS"))
  k_BARRED_WORDS : ∀ H, SqT K H (He.ga K "BARRED_WORDS") [.str "style", .str "job", .str "round", .str "sew", .str "glue", .str "cover", .str "letter", .str "press", .str "hand", .str "haste"]
  g_KINDS : mg "KINDS" = some (.ref (He.ga K "KINDS"))
  k_KINDS : KTab K w (He.ga K "KINDS") [("sew", "hand"), ("glue", "hand"), ("cover", "hand"), ("letter", "hand"), ("press", "press")]
  z_all : mg "all" = none
  z_bool : mg "bool" = none
  z_enumerate : mg "enumerate" = none
  z_int : mg "int" = none
  z_isinstance : mg "isinstance" = none
  z_len : mg "len" = none
  z_list : mg "list" = none
  z_min : mg "min" = none
  z_range : mg "range" = none
  z_repr : mg "repr" = none
  z_set : mg "set" = none
  z_sorted : mg "sorted" = none
  z_str : mg "str" = none
  z_sum : mg "sum" = none
  z_tuple : mg "tuple" = none
  g_Style : mg "Style" = some (.ref (He.ga K "Style"))
  cl_Style : Cls K (He.ga K "Style")
  mk_Style : Mk K (He.ga K "Style") (He.ma K (He.ga K "Style") "__init__")
  od_Style : OwnD K (He.ga K "Style")
  n_Style_called : NoAttr K (He.ga K "Style") "called"
  n_Style_step_rows : NoAttr K (He.ga K "Style") "step_rows"
  g_Job : mg "Job" = some (.ref (He.ga K "Job"))
  cl_Job : Cls K (He.ga K "Job")
  mk_Job : Mk K (He.ga K "Job") (He.ma K (He.ga K "Job") "__init__")
  od_Job : OwnD K (He.ga K "Job")
  n_Job_came : NoAttr K (He.ga K "Job") "came"
  n_Job_has_number : NoAttr K (He.ga K "Job") "has_number"
  n_Job_has_style : NoAttr K (He.ga K "Job") "has_style"
  n_Job_hasty : NoAttr K (He.ga K "Job") "hasty"
  n_Job_wanted : NoAttr K (He.ga K "Job") "wanted"
  g_is_whole : mg "is_whole" = some (.ref (He.ga K "is_whole"))
  d_is_whole : ∃ fd, FnP K "is_whole" "is_whole" (topS 12) [.int 1000000] (He.ga K "is_whole") fd
  g_is_name : mg "is_name" = some (.ref (He.ga K "is_name"))
  d_is_name : ∃ fd, FnP K "is_name" "is_name" (topS 13) [] (He.ga K "is_name") fd
  g_kind_of : mg "kind_of" = some (.ref (He.ga K "kind_of"))
  d_kind_of : ∃ fd, FnP K "kind_of" "kind_of" (topS 14) [] (He.ga K "kind_of") fd
  g_is_step : mg "is_step" = some (.ref (He.ga K "is_step"))
  d_is_step : ∃ fd, FnP K "is_step" "is_step" (topS 15) [] (He.ga K "is_step") fd
  g_are_steps : mg "are_steps" = some (.ref (He.ga K "are_steps"))
  d_are_steps : ∃ fd, FnP K "are_steps" "are_steps" (topS 18) [] (He.ga K "are_steps") fd
  d_Style_init : ∃ fd, FnP K "__init__" "Style.__init__" (inClass (topS 19) 0) [] (He.ma K (He.ga K "Style") "__init__") fd
  m_Style_named : Meth K (He.ga K "Style") "named" (He.ma K (He.ga K "Style") "named")
  d_Style_named : ∃ fd, FnP K "named" "Style.named" (inClass (topS 19) 1) [] (He.ma K (He.ga K "Style") "named") fd
  m_Style_steps : Meth K (He.ga K "Style") "steps" (He.ma K (He.ga K "Style") "steps")
  d_Style_steps : ∃ fd, FnP K "steps" "Style.steps" (inClass (topS 19) 2) [] (He.ma K (He.ga K "Style") "steps") fd
  m_Style_span : Meth K (He.ga K "Style") "span" (He.ma K (He.ga K "Style") "span")
  d_Style_span : ∃ fd, FnP K "span" "Style.span" (inClass (topS 19) 4) [] (He.ma K (He.ga K "Style") "span") fd
  m_Style_eq : Meth K (He.ga K "Style") "__eq__" (He.ma K (He.ga K "Style") "__eq__")
  d_Style_eq : ∃ fd, FnP K "__eq__" "Style.__eq__" (inClass (topS 19) 8) [] (He.ma K (He.ga K "Style") "__eq__") fd
  d_Job_init : ∃ fd, FnP K "__init__" "Job.__init__" (inClass (topS 20) 0) [.int 0, .non, .bl false] (He.ma K (He.ga K "Job") "__init__") fd
  m_Job_numbered : Meth K (He.ga K "Job") "numbered" (He.ma K (He.ga K "Job") "numbered")
  d_Job_numbered : ∃ fd, FnP K "numbered" "Job.numbered" (inClass (topS 20) 1) [] (He.ma K (He.ga K "Job") "numbered") fd
  m_Job_of_style : Meth K (He.ga K "Job") "of_style" (He.ma K (He.ga K "Job") "of_style")
  d_Job_of_style : ∃ fd, FnP K "of_style" "Job.of_style" (inClass (topS 20) 2) [] (He.ma K (He.ga K "Job") "of_style") fd
  m_Job_brought_at : Meth K (He.ga K "Job") "brought_at" (He.ma K (He.ga K "Job") "brought_at")
  d_Job_brought_at : ∃ fd, FnP K "brought_at" "Job.brought_at" (inClass (topS 20) 3) [] (He.ma K (He.ga K "Job") "brought_at") fd
  m_Job_due_at : Meth K (He.ga K "Job") "due_at" (He.ma K (He.ga K "Job") "due_at")
  d_Job_due_at : ∃ fd, FnP K "due_at" "Job.due_at" (inClass (topS 20) 4) [] (He.ma K (He.ga K "Job") "due_at") fd
  m_Job_in_haste : Meth K (He.ga K "Job") "in_haste" (He.ma K (He.ga K "Job") "in_haste")
  d_Job_in_haste : ∃ fd, FnP K "in_haste" "Job.in_haste" (inClass (topS 20) 5) [] (He.ma K (He.ga K "Job") "in_haste") fd
  m_Job_rank : Meth K (He.ga K "Job") "rank" (He.ma K (He.ga K "Job") "rank")
  d_Job_rank : ∃ fd, FnP K "rank" "Job.rank" (inClass (topS 20) 6) [] (He.ma K (He.ga K "Job") "rank") fd
  m_Job_eq : Meth K (He.ga K "Job") "__eq__" (He.ma K (He.ga K "Job") "__eq__")
  d_Job_eq : ∃ fd, FnP K "__eq__" "Job.__eq__" (inClass (topS 20) 9) [] (He.ma K (He.ga K "Job") "__eq__") fd
  g_rank_of : mg "rank_of" = some (.ref (He.ga K "rank_of"))
  d_rank_of : ∃ fd, FnP K "rank_of" "rank_of" (topS 21) [] (He.ga K "rank_of") fd
  g_by_rank : mg "by_rank" = some (.ref (He.ga K "by_rank"))
  d_by_rank : ∃ fd, FnP K "by_rank" "by_rank" (topS 22) [] (He.ga K "by_rank") fd
  g_first_of : mg "first_of" = some (.ref (He.ga K "first_of"))
  d_first_of : ∃ fd, FnP K "first_of" "first_of" (topS 23) [] (He.ga K "first_of") fd
  g_by_style : mg "by_style" = some (.ref (He.ga K "by_style"))
  d_by_style : ∃ fd, FnP K "by_style" "by_style" (topS 24) [] (He.ga K "by_style") fd
  g_law_mixed : mg "_law_mixed" = some (.ref (He.ga K "_law_mixed"))
  d_law_mixed : ∃ fd, FnP K "_law_mixed" "_law_mixed" (topS 26) [] (He.ga K "_law_mixed") fd
  g_law_folded : mg "_law_folded" = some (.ref (He.ga K "_law_folded"))
  d_law_folded : ∃ fd, FnP K "_law_folded" "_law_folded" (topS 27) [] (He.ga K "_law_folded") fd
  g_law_draw : mg "_law_draw" = some (.ref (He.ga K "_law_draw"))
  d_law_draw : ∃ fd, FnP K "_law_draw" "_law_draw" (topS 28) [] (He.ga K "_law_draw") fd
  g_law_begun : mg "_law_begun" = some (.ref (He.ga K "_law_begun"))
  d_law_begun : ∃ fd, FnP K "_law_begun" "_law_begun" (topS 29) [] (He.ga K "_law_begun") fd
  g_law_title : mg "_law_title" = some (.ref (He.ga K "_law_title"))
  d_law_title : ∃ fd, FnP K "_law_title" "_law_title" (topS 30) [] (He.ga K "_law_title") fd
  g_law_drawn_step : mg "_law_drawn_step" = some (.ref (He.ga K "_law_drawn_step"))
  d_law_drawn_step : ∃ fd, FnP K "_law_drawn_step" "_law_drawn_step" (topS 31) [] (He.ga K "_law_drawn_step") fd
  g_law_drawn_steps : mg "_law_drawn_steps" = some (.ref (He.ga K "_law_drawn_steps"))
  d_law_drawn_steps : ∃ fd, FnP K "_law_drawn_steps" "_law_drawn_steps" (topS 32) [] (He.ga K "_law_drawn_steps") fd
  g_law_kinds : mg "_law_kinds" = some (.ref (He.ga K "_law_kinds"))
  d_law_kinds : ∃ fd, FnP K "_law_kinds" "_law_kinds" (topS 33) [] (He.ga K "_law_kinds") fd
  g_law_plain_job : mg "_law_plain_job" = some (.ref (He.ga K "_law_plain_job"))
  d_law_plain_job : ∃ fd, FnP K "_law_plain_job" "_law_plain_job" (topS 34) [] (He.ga K "_law_plain_job") fd
  g_law_plain_jobs : mg "_law_plain_jobs" = some (.ref (He.ga K "_law_plain_jobs"))
  d_law_plain_jobs : ∃ fd, FnP K "_law_plain_jobs" "_law_plain_jobs" (topS 35) [] (He.ga K "_law_plain_jobs") fd
  g_law_job : mg "_law_job" = some (.ref (He.ga K "_law_job"))
  d_law_job : ∃ fd, FnP K "_law_job" "_law_job" (topS 36) [] (He.ga K "_law_job") fd
  g_law_plain : mg "_law_plain" = some (.ref (He.ga K "_law_plain"))
  d_law_plain : ∃ fd, FnP K "_law_plain" "_law_plain" (topS 37) [] (He.ga K "_law_plain") fd
  g_law_rank : mg "_law_rank" = some (.ref (He.ga K "_law_rank"))
  d_law_rank : ∃ fd, FnP K "_law_rank" "_law_rank" (topS 38) [] (He.ga K "_law_rank") fd
  g_law_ordered : mg "_law_ordered" = some (.ref (He.ga K "_law_ordered"))
  d_law_ordered : ∃ fd, FnP K "_law_ordered" "_law_ordered" (topS 39) [] (He.ga K "_law_ordered") fd
  g_law_named : mg "_law_named" = some (.ref (He.ga K "_law_named"))
  d_law_named : ∃ fd, FnP K "_law_named" "_law_named" (topS 40) [] (He.ga K "_law_named") fd
  g_law_asked : mg "_law_asked" = some (.ref (He.ga K "_law_asked"))
  d_law_asked : ∃ fd, FnP K "_law_asked" "_law_asked" (topS 41) [] (He.ga K "_law_asked") fd
  g_law_answers_right : mg "_law_answers_right" = some (.ref (He.ga K "_law_answers_right"))
  d_law_answers_right : ∃ fd, FnP K "_law_answers_right" "_law_answers_right" (topS 42) [] (He.ga K "_law_answers_right") fd
  g_law_right : mg "_law_right" = some (.ref (He.ga K "_law_right"))
  d_law_right : ∃ fd, FnP K "_law_right" "_law_right" (topS 43) [] (He.ga K "_law_right") fd
  g_law_by_hand_right : mg "_law_by_hand_right" = some (.ref (He.ga K "_law_by_hand_right"))
  d_law_by_hand_right : ∃ fd, FnP K "_law_by_hand_right" "_law_by_hand_right" (topS 44) [] (He.ga K "_law_by_hand_right") fd
  g_law : mg "law" = some (.ref (He.ga K "law"))
  d_law : ∃ fd, FnP K "law" "law" (topS 45) [] (He.ga K "law") fd
theorem jobC {K : PySem.W.Frag} {w : World} {mg : Str → Option Value} (T : Txt K w mg) : JobC K := ⟨T.cl_Job, T.n_Job_has_number, T.n_Job_has_style, T.n_Job_came, T.n_Job_wanted, T.n_Job_hasty⟩
theorem styleC {K : PySem.W.Frag} {w : World} {mg : Str → Option Value} (T : Txt K w mg) : StyleC K := ⟨T.cl_Style, T.n_Style_called, T.n_Style_step_rows⟩
section
variable {P : Program} {w : World} {K : PySem.W.Frag} {mg : Str → Option Value} {base : Heap}
theorem sc_is_whole : FnScope ["thing", "least", "most"] ["thing", "least", "most"] (defScope (topS 12)) := ⟨rfl, rfl, rfl, by decide +kernel, rfl, by decide +kernel, by decide +kernel⟩
theorem ok_is_whole (T : Txt K w mg) : ∃ fd, FnP K "is_whole" "is_whole" (topS 12) [.int 1000000] (He.ga K "is_whole") fd ∧ FnG P w K mg base CX0 1 (He.ga K "is_whole") fd ["thing", "least", "most"] (sp_is_whole K) := by
  obtain ⟨fd, F⟩ := T.d_is_whole
  refine ⟨fd, F, fnG_of (sp := sp_is_whole K) F sc_is_whole (fun vs H Q E h => h.1) fun cdv A outer s H vs Q E hr hg h => ?_⟩
  have hu := hu_of hr
  have nd := sc_is_whole.nd
  exact ⟨t_is_whole K, PSs.nox ((pss_one (ps_ret (pe_and (pe_callB call_isi (by rfl) T.z_isinstance (by decide +kernel) (pa_cons (pv 0) (pa_cons (pe_bltn (v := .ty "int") (by rfl) T.z_int (by decide +kernel) rfl) pa_nil))) (pe_and (pe_not (pe_callB call_isi (by rfl) T.z_isinstance (by decide +kernel) (pa_cons (pv 0) (pa_cons (pe_bltn (v := .ty "bool") (by rfl) T.z_bool (by decide +kernel) rfl) pa_nil)))) (pe_one (pe_chain op_le op_le (pv 1) (pv 0) (pv 2)))))))), rd_is_whole vs H Q E h⟩
theorem cs_is_whole_2_most (T : Txt K w mg) : CallOk P w K mg base CX0 1 "is_whole" 2 ["most"] (sp_is_whole K) (fun vs zs => pick .non [0, 1, 2] (vs ++ (zs ++ [.int 1000000]))) := by
  obtain ⟨fd, F, G⟩ := ok_is_whole (P := P) (w := w) (base := base) T
  obtain ⟨g, kb⟩ := kb1 (ps := ["thing", "least", "most"]) F (by simp) 2 ["most"] [0, 1, 2] fun T kV doc pm an cdv ct us ws its h1 h2 h3 => match us, ws, its, h1, h2, h3 with | [_, _], [_], [_], _, _, _ => ⟨_, rfl, rfl⟩
  exact ⟨⟨fd, _, g, G, kb⟩, T.g_is_whole, F.kp⟩
theorem sc_is_name : FnScope ["thing", "sign"] ["thing"] (defScope (topS 13)) := ⟨rfl, rfl, rfl, by decide +kernel, rfl, by decide +kernel, by decide +kernel⟩
theorem ok_is_name (T : Txt K w mg) : ∃ fd, FnP K "is_name" "is_name" (topS 13) [] (He.ga K "is_name") fd ∧ FnG P w K mg base CX0 1 (He.ga K "is_name") fd ["thing"] (sp_is_name K) := by
  obtain ⟨fd, F⟩ := T.d_is_name
  refine ⟨fd, F, fnG_of (sp := sp_is_name K) F sc_is_name (fun vs H Q E h => h.1) fun cdv A outer s H vs Q E hr hg h => ?_⟩
  have hu := hu_of hr
  have nd := sc_is_name.nd
  exact ⟨t_is_name K, PSs.nox ((pss_cons (ps_if (PW.pt (pw_or (pt_not (pt_tr (pe_callB call_isi (by rfl) T.z_isinstance (by decide +kernel) (pa_cons (pv 0) (pa_cons (pe_bltn (v := .ty "str") (by rfl) T.z_str (by decide +kernel) rfl) pa_nil))))) (pw_or (pt_not (pt_chain op_le op_le pe_int (pe_callB cl_len (by rfl) T.z_len PySem.boot_len (pa_cons (pv 0) pa_nil)) (pe_gI T.c_MOST_LETTERS))) (pw_or1 (pt_cmpR op_inA (pv 0) (pe_gR T.g_BARRED_WORDS) rfl))))) (pss_one (ps_ret pe_bl)) pss_nil)
    (pss_one (ps_ret (pe_callB (cr_all rfl) (by rfl) T.z_all (by decide +kernel) (pa_cons (pe_lc (own := [("sign", 1)]) rfl nd (pi_any (pv 0)) (blkOk_by (by first | decide +kernel | kernel_rfl)) (fun _ _ _ _ _ => (pg_name (i := 1) nd rfl (Or.inl rfl))) (fun _ _ _ _ _ => pts_nil) (fun _ _ _ _ _ => (pe_cmpR op_inA (pv 1) (pe_gS T.c_LETTERS) rfl))) pa_nil)))))), rd_is_name T.k_BARRED_WORDS vs H Q E h⟩
theorem cs_is_name_1 (T : Txt K w mg) : CallOk P w K mg base CX0 1 "is_name" 1 [] (sp_is_name K) (fun vs zs => pick .non [0] (vs ++ zs)) := by
  obtain ⟨fd, F, G⟩ := ok_is_name (P := P) (w := w) (base := base) T
  obtain ⟨g, kb⟩ := kb0 (ps := ["thing"]) F 1 [] [0] fun kV doc pm an cdv ct us ws h1 h2 => match us, ws, h1, h2 with | [_], [], _, _ => rfl
  exact ⟨⟨fd, _, g, G, kb⟩, T.g_is_name, F.kp⟩
theorem sc_kind_of : FnScope ["work"] ["work"] (defScope (topS 14)) := ⟨rfl, rfl, rfl, by decide +kernel, rfl, by decide +kernel, by decide +kernel⟩
theorem ok_kind_of (T : Txt K w mg) : ∃ fd, FnP K "kind_of" "kind_of" (topS 14) [] (He.ga K "kind_of") fd ∧ FnG P w K mg base CX0 1 (He.ga K "kind_of") fd ["work"] (sp_kind_of K) := by
  obtain ⟨fd, F⟩ := T.d_kind_of
  refine ⟨fd, F, fnG_of (sp := sp_kind_of K) F sc_kind_of (fun vs H Q E h => h.1) fun cdv A outer s H vs Q E hr hg h => ?_⟩
  have hu := hu_of hr
  have nd := sc_kind_of.nd
  exact ⟨t_kind_of K, PSs.nox ((pss_one (ps_ret (pe_ifExp (pt_tr (pe_callB call_isi (by rfl) T.z_isinstance (by decide +kernel) (pa_cons (pv 0) (pa_cons (pe_bltn (v := .ty "str") (by rfl) T.z_str (by decide +kernel) rfl) pa_nil)))) (pe_kget T.k_KINDS (pe_gR T.g_KINDS) (pv 0) ⟨rfl, rfl, rfl, rfl⟩) pe_non)))), rd_kind_of vs H Q E h⟩
theorem cs_kind_of_1 (T : Txt K w mg) : CallOk P w K mg base CX0 1 "kind_of" 1 [] (sp_kind_of K) (fun vs zs => pick .non [0] (vs ++ zs)) := by
  obtain ⟨fd, F, G⟩ := ok_kind_of (P := P) (w := w) (base := base) T
  obtain ⟨g, kb⟩ := kb0 (ps := ["work"]) F 1 [] [0] fun kV doc pm an cdv ct us ws h1 h2 => match us, ws, h1, h2 with | [_], [], _, _ => rfl
  exact ⟨⟨fd, _, g, G, kb⟩, T.g_kind_of, F.kp⟩
theorem sc_Style_named : FnScope ["self"] ["self"] (defScope (inClass (topS 19) 1)) := ⟨rfl, rfl, rfl, by decide +kernel, rfl, by decide +kernel, by decide +kernel⟩
theorem ok_Style_named (T : Txt K w mg) : ∃ fd, FnP K "named" "Style.named" (inClass (topS 19) 1) [] (He.ma K (He.ga K "Style") "named") fd ∧ FnG P w K mg base CX0 1 (He.ma K (He.ga K "Style") "named") fd ["self"] (sp_Style_named K) := by
  obtain ⟨fd, F⟩ := T.d_Style_named
  refine ⟨fd, F, fnG_of (sp := sp_Style_named K) F sc_Style_named (fun vs H Q E h => h.1) fun cdv A outer s H vs Q E hr hg h => ?_⟩
  have hu := hu_of hr
  have nd := sc_Style_named.nd
  exact ⟨t_Style_named K, PSs.nox ((pss_one (ps_ret (pe_fld (pv 0) rfl)))), rd_Style_named (styleC T) vs H Q E h⟩
theorem cs_Style_named_0 (T : Txt K w mg) : MethOk P w K mg base CX0 1 (He.ga K "Style") "named" 0 [] (sp_Style_named K) (fun vs zs => pick .non [0] (vs ++ zs)) := by
  obtain ⟨fd, F, G⟩ := ok_Style_named (P := P) (w := w) (base := base) T
  obtain ⟨g, kb⟩ := kb0 (ps := ["self"]) F 1 [] [0] fun kV doc pm an cdv ct us ws h1 h2 => match us, ws, h1, h2 with | [_], [], _, _ => rfl
  exact ⟨⟨_, fd, _, g, T.m_Style_named, G, kb⟩, T.cl_Style⟩
theorem sc_Style_steps : FnScope ["self"] ["self"] (defScope (inClass (topS 19) 2)) := ⟨rfl, rfl, rfl, by decide +kernel, rfl, by decide +kernel, by decide +kernel⟩
theorem ok_Style_steps (T : Txt K w mg) : ∃ fd, FnP K "steps" "Style.steps" (inClass (topS 19) 2) [] (He.ma K (He.ga K "Style") "steps") fd ∧ FnG P w K mg base CX0 1 (He.ma K (He.ga K "Style") "steps") fd ["self"] (sp_Style_steps K) := by
  obtain ⟨fd, F⟩ := T.d_Style_steps
  refine ⟨fd, F, fnG_of (sp := sp_Style_steps K) F sc_Style_steps (fun vs H Q E h => h.1) fun cdv A outer s H vs Q E hr hg h => ?_⟩
  have hu := hu_of hr
  have nd := sc_Style_steps.nd
  exact ⟨t_Style_steps K, PSs.nox ((pss_one (ps_ret (pe_callTy cl_listOf (by rfl) T.z_list (by decide +kernel) (pa_cons (pe_fld (pv 0) rfl) pa_nil))))), rd_Style_steps (styleC T) vs H Q E h⟩
theorem cs_Style_steps_0 (T : Txt K w mg) : MethOk P w K mg base CX0 1 (He.ga K "Style") "steps" 0 [] (sp_Style_steps K) (fun vs zs => pick .non [0] (vs ++ zs)) := by
  obtain ⟨fd, F, G⟩ := ok_Style_steps (P := P) (w := w) (base := base) T
  obtain ⟨g, kb⟩ := kb0 (ps := ["self"]) F 1 [] [0] fun kV doc pm an cdv ct us ws h1 h2 => match us, ws, h1, h2 with | [_], [], _, _ => rfl
  exact ⟨⟨_, fd, _, g, T.m_Style_steps, G, kb⟩, T.cl_Style⟩
theorem sc_Style_span : FnScope ["self", "row"] ["self"] (defScope (inClass (topS 19) 4)) := ⟨rfl, rfl, rfl, by decide +kernel, rfl, by decide +kernel, by decide +kernel⟩
theorem ok_Style_span (T : Txt K w mg) : ∃ fd, FnP K "span" "Style.span" (inClass (topS 19) 4) [] (He.ma K (He.ga K "Style") "span") fd ∧ FnG P w K mg base CX0 1 (He.ma K (He.ga K "Style") "span") fd ["self"] (sp_Style_span K) := by
  obtain ⟨fd, F⟩ := T.d_Style_span
  refine ⟨fd, F, fnG_of (sp := sp_Style_span K) F sc_Style_span (fun vs H Q E h => h.1) fun cdv A outer s H vs Q E hr hg h => ?_⟩
  have hu := hu_of hr
  have nd := sc_Style_span.nd
  exact ⟨t_Style_span K, PSs.nox ((pss_one (ps_ret (pe_callB (cr_sum rfl) (by rfl) T.z_sum (by decide +kernel) (pa_cons (pe_lc (own := [("row", 1)]) rfl nd (pi_any (pe_fld (pv 0) rfl)) (blkOk_by (by first | decide +kernel | kernel_rfl)) (fun _ _ _ _ _ => (pg_name (i := 1) nd rfl (Or.inl rfl))) (fun _ _ _ _ _ => pts_nil) (fun _ _ _ _ _ => (pe_op op_addA (pe_ix ix_seq (pv 1) pe_int (fun _ _ => rfl)) (pe_ix ix_seq (pv 1) pe_int (fun _ _ => rfl))))) pa_nil))))), rd_Style_span (styleC T) vs H Q E h⟩
theorem cs_Style_span_0 (T : Txt K w mg) : MethOk P w K mg base CX0 1 (He.ga K "Style") "span" 0 [] (sp_Style_span K) (fun vs zs => pick .non [0] (vs ++ zs)) := by
  obtain ⟨fd, F, G⟩ := ok_Style_span (P := P) (w := w) (base := base) T
  obtain ⟨g, kb⟩ := kb0 (ps := ["self"]) F 1 [] [0] fun kV doc pm an cdv ct us ws h1 h2 => match us, ws, h1, h2 with | [_], [], _, _ => rfl
  exact ⟨⟨_, fd, _, g, T.m_Style_span, G, kb⟩, T.cl_Style⟩
theorem sc_Style_eq : FnScope ["self", "other"] ["self", "other"] (defScope (inClass (topS 19) 8)) := ⟨rfl, rfl, rfl, by decide +kernel, rfl, by decide +kernel, by decide +kernel⟩
theorem ok_Style_eq (T : Txt K w mg) : ∃ fd, FnP K "__eq__" "Style.__eq__" (inClass (topS 19) 8) [] (He.ma K (He.ga K "Style") "__eq__") fd ∧ FnG P w K mg base CX0 1 (He.ma K (He.ga K "Style") "__eq__") fd ["self", "other"] (sp_Style_eq K) := by
  obtain ⟨fd, F⟩ := T.d_Style_eq
  refine ⟨fd, F, fnG_of (sp := sp_Style_eq K) F sc_Style_eq (fun vs H Q E h => h.1) fun cdv A outer s H vs Q E hr hg h => ?_⟩
  have hu := hu_of hr
  have nd := sc_Style_eq.nd
  exact ⟨t_Style_eq K, PSs.nox ((pss_one (ps_ret (pe_and (pe_callB call_isi (by rfl) T.z_isinstance (by decide +kernel) (pa_cons (pv 1) (pa_cons (pe_gR T.g_Style) pa_nil))) (pe_and (pe_cmpR (op_eqA hr) (pe_fld (pv 0) rfl) (pe_fld (pv 1) rfl) (nobehind _ (by decide) (by decide))) (pe_one (pe_cmpR (op_eqA hr) (pe_fld (pv 0) rfl) (pe_fld (pv 1) rfl) (nobehind _ (by decide) (by decide))))))))), rd_Style_eq (styleC T) T.od_Style vs H Q E h⟩
theorem cs_Style_eq_1 (T : Txt K w mg) : MethOk P w K mg base CX0 1 (He.ga K "Style") "__eq__" 1 [] (sp_Style_eq K) (fun vs zs => pick .non [0, 1] (vs ++ zs)) := by
  obtain ⟨fd, F, G⟩ := ok_Style_eq (P := P) (w := w) (base := base) T
  obtain ⟨g, kb⟩ := kb0 (ps := ["self", "other"]) F 2 [] [0, 1] fun kV doc pm an cdv ct us ws h1 h2 => match us, ws, h1, h2 with | [_, _], [], _, _ => rfl
  exact ⟨⟨_, fd, _, g, T.m_Style_eq, G, kb⟩, T.cl_Style⟩
theorem sc_Job_numbered : FnScope ["self"] ["self"] (defScope (inClass (topS 20) 1)) := ⟨rfl, rfl, rfl, by decide +kernel, rfl, by decide +kernel, by decide +kernel⟩
theorem ok_Job_numbered (T : Txt K w mg) : ∃ fd, FnP K "numbered" "Job.numbered" (inClass (topS 20) 1) [] (He.ma K (He.ga K "Job") "numbered") fd ∧ FnG P w K mg base CX0 1 (He.ma K (He.ga K "Job") "numbered") fd ["self"] (sp_Job_numbered K) := by
  obtain ⟨fd, F⟩ := T.d_Job_numbered
  refine ⟨fd, F, fnG_of (sp := sp_Job_numbered K) F sc_Job_numbered (fun vs H Q E h => h.1) fun cdv A outer s H vs Q E hr hg h => ?_⟩
  have hu := hu_of hr
  have nd := sc_Job_numbered.nd
  exact ⟨t_Job_numbered K, PSs.nox ((pss_one (ps_ret (pe_fld (pv 0) rfl)))), rd_Job_numbered (jobC T) vs H Q E h⟩
theorem cs_Job_numbered_0 (T : Txt K w mg) : MethOk P w K mg base CX0 1 (He.ga K "Job") "numbered" 0 [] (sp_Job_numbered K) (fun vs zs => pick .non [0] (vs ++ zs)) := by
  obtain ⟨fd, F, G⟩ := ok_Job_numbered (P := P) (w := w) (base := base) T
  obtain ⟨g, kb⟩ := kb0 (ps := ["self"]) F 1 [] [0] fun kV doc pm an cdv ct us ws h1 h2 => match us, ws, h1, h2 with | [_], [], _, _ => rfl
  exact ⟨⟨_, fd, _, g, T.m_Job_numbered, G, kb⟩, T.cl_Job⟩
theorem sc_Job_of_style : FnScope ["self"] ["self"] (defScope (inClass (topS 20) 2)) := ⟨rfl, rfl, rfl, by decide +kernel, rfl, by decide +kernel, by decide +kernel⟩
theorem ok_Job_of_style (T : Txt K w mg) : ∃ fd, FnP K "of_style" "Job.of_style" (inClass (topS 20) 2) [] (He.ma K (He.ga K "Job") "of_style") fd ∧ FnG P w K mg base CX0 1 (He.ma K (He.ga K "Job") "of_style") fd ["self"] (sp_Job_of_style K) := by
  obtain ⟨fd, F⟩ := T.d_Job_of_style
  refine ⟨fd, F, fnG_of (sp := sp_Job_of_style K) F sc_Job_of_style (fun vs H Q E h => h.1) fun cdv A outer s H vs Q E hr hg h => ?_⟩
  have hu := hu_of hr
  have nd := sc_Job_of_style.nd
  exact ⟨t_Job_of_style K, PSs.nox ((pss_one (ps_ret (pe_fld (pv 0) rfl)))), rd_Job_of_style (jobC T) vs H Q E h⟩
theorem cs_Job_of_style_0 (T : Txt K w mg) : MethOk P w K mg base CX0 1 (He.ga K "Job") "of_style" 0 [] (sp_Job_of_style K) (fun vs zs => pick .non [0] (vs ++ zs)) := by
  obtain ⟨fd, F, G⟩ := ok_Job_of_style (P := P) (w := w) (base := base) T
  obtain ⟨g, kb⟩ := kb0 (ps := ["self"]) F 1 [] [0] fun kV doc pm an cdv ct us ws h1 h2 => match us, ws, h1, h2 with | [_], [], _, _ => rfl
  exact ⟨⟨_, fd, _, g, T.m_Job_of_style, G, kb⟩, T.cl_Job⟩
theorem sc_Job_brought_at : FnScope ["self"] ["self"] (defScope (inClass (topS 20) 3)) := ⟨rfl, rfl, rfl, by decide +kernel, rfl, by decide +kernel, by decide +kernel⟩
theorem ok_Job_brought_at (T : Txt K w mg) : ∃ fd, FnP K "brought_at" "Job.brought_at" (inClass (topS 20) 3) [] (He.ma K (He.ga K "Job") "brought_at") fd ∧ FnG P w K mg base CX0 1 (He.ma K (He.ga K "Job") "brought_at") fd ["self"] (sp_Job_brought_at K) := by
  obtain ⟨fd, F⟩ := T.d_Job_brought_at
  refine ⟨fd, F, fnG_of (sp := sp_Job_brought_at K) F sc_Job_brought_at (fun vs H Q E h => h.1) fun cdv A outer s H vs Q E hr hg h => ?_⟩
  have hu := hu_of hr
  have nd := sc_Job_brought_at.nd
  exact ⟨t_Job_brought_at K, PSs.nox ((pss_one (ps_ret (pe_fld (pv 0) rfl)))), rd_Job_brought_at (jobC T) vs H Q E h⟩
theorem cs_Job_brought_at_0 (T : Txt K w mg) : MethOk P w K mg base CX0 1 (He.ga K "Job") "brought_at" 0 [] (sp_Job_brought_at K) (fun vs zs => pick .non [0] (vs ++ zs)) := by
  obtain ⟨fd, F, G⟩ := ok_Job_brought_at (P := P) (w := w) (base := base) T
  obtain ⟨g, kb⟩ := kb0 (ps := ["self"]) F 1 [] [0] fun kV doc pm an cdv ct us ws h1 h2 => match us, ws, h1, h2 with | [_], [], _, _ => rfl
  exact ⟨⟨_, fd, _, g, T.m_Job_brought_at, G, kb⟩, T.cl_Job⟩
theorem sc_Job_due_at : FnScope ["self"] ["self"] (defScope (inClass (topS 20) 4)) := ⟨rfl, rfl, rfl, by decide +kernel, rfl, by decide +kernel, by decide +kernel⟩
theorem ok_Job_due_at (T : Txt K w mg) : ∃ fd, FnP K "due_at" "Job.due_at" (inClass (topS 20) 4) [] (He.ma K (He.ga K "Job") "due_at") fd ∧ FnG P w K mg base CX0 1 (He.ma K (He.ga K "Job") "due_at") fd ["self"] (sp_Job_due_at K) := by
  obtain ⟨fd, F⟩ := T.d_Job_due_at
  refine ⟨fd, F, fnG_of (sp := sp_Job_due_at K) F sc_Job_due_at (fun vs H Q E h => h.1) fun cdv A outer s H vs Q E hr hg h => ?_⟩
  have hu := hu_of hr
  have nd := sc_Job_due_at.nd
  exact ⟨t_Job_due_at K, PSs.nox ((pss_one (ps_ret (pe_fld (pv 0) rfl)))), rd_Job_due_at (jobC T) vs H Q E h⟩
theorem cs_Job_due_at_0 (T : Txt K w mg) : MethOk P w K mg base CX0 1 (He.ga K "Job") "due_at" 0 [] (sp_Job_due_at K) (fun vs zs => pick .non [0] (vs ++ zs)) := by
  obtain ⟨fd, F, G⟩ := ok_Job_due_at (P := P) (w := w) (base := base) T
  obtain ⟨g, kb⟩ := kb0 (ps := ["self"]) F 1 [] [0] fun kV doc pm an cdv ct us ws h1 h2 => match us, ws, h1, h2 with | [_], [], _, _ => rfl
  exact ⟨⟨_, fd, _, g, T.m_Job_due_at, G, kb⟩, T.cl_Job⟩
theorem sc_Job_in_haste : FnScope ["self"] ["self"] (defScope (inClass (topS 20) 5)) := ⟨rfl, rfl, rfl, by decide +kernel, rfl, by decide +kernel, by decide +kernel⟩
theorem ok_Job_in_haste (T : Txt K w mg) : ∃ fd, FnP K "in_haste" "Job.in_haste" (inClass (topS 20) 5) [] (He.ma K (He.ga K "Job") "in_haste") fd ∧ FnG P w K mg base CX0 1 (He.ma K (He.ga K "Job") "in_haste") fd ["self"] (sp_Job_in_haste K) := by
  obtain ⟨fd, F⟩ := T.d_Job_in_haste
  refine ⟨fd, F, fnG_of (sp := sp_Job_in_haste K) F sc_Job_in_haste (fun vs H Q E h => h.1) fun cdv A outer s H vs Q E hr hg h => ?_⟩
  have hu := hu_of hr
  have nd := sc_Job_in_haste.nd
  exact ⟨t_Job_in_haste K, PSs.nox ((pss_one (ps_ret (pe_fld (pv 0) rfl)))), rd_Job_in_haste (jobC T) vs H Q E h⟩
theorem cs_Job_in_haste_0 (T : Txt K w mg) : MethOk P w K mg base CX0 1 (He.ga K "Job") "in_haste" 0 [] (sp_Job_in_haste K) (fun vs zs => pick .non [0] (vs ++ zs)) := by
  obtain ⟨fd, F, G⟩ := ok_Job_in_haste (P := P) (w := w) (base := base) T
  obtain ⟨g, kb⟩ := kb0 (ps := ["self"]) F 1 [] [0] fun kV doc pm an cdv ct us ws h1 h2 => match us, ws, h1, h2 with | [_], [], _, _ => rfl
  exact ⟨⟨_, fd, _, g, T.m_Job_in_haste, G, kb⟩, T.cl_Job⟩
theorem sc_Job_rank : FnScope ["self"] ["self"] (defScope (inClass (topS 20) 6)) := ⟨rfl, rfl, rfl, by decide +kernel, rfl, by decide +kernel, by decide +kernel⟩
theorem ok_Job_rank (T : Txt K w mg) : ∃ fd, FnP K "rank" "Job.rank" (inClass (topS 20) 6) [] (He.ma K (He.ga K "Job") "rank") fd ∧ FnG P w K mg base CX0 1 (He.ma K (He.ga K "Job") "rank") fd ["self"] (sp_Job_rank K) := by
  obtain ⟨fd, F⟩ := T.d_Job_rank
  refine ⟨fd, F, fnG_of (sp := sp_Job_rank K) F sc_Job_rank (fun vs H Q E h => h.1) fun cdv A outer s H vs Q E hr hg h => ?_⟩
  have hu := hu_of hr
  have nd := sc_Job_rank.nd
  exact ⟨t_Job_rank K, PSs.nox ((pss_one (ps_ret (pe_tup (pa_cons (pe_ifExp (pt_tr (pe_fld (pv 0) rfl)) pe_int pe_int) (pa_cons (pe_fld (pv 0) rfl) (pa_cons (pe_fld (pv 0) rfl) (pa_cons (pe_fld (pv 0) rfl) pa_nil)))))))), rd_Job_rank (jobC T) vs H Q E h⟩
theorem cs_Job_rank_0 (T : Txt K w mg) : MethOk P w K mg base CX0 1 (He.ga K "Job") "rank" 0 [] (sp_Job_rank K) (fun vs zs => pick .non [0] (vs ++ zs)) := by
  obtain ⟨fd, F, G⟩ := ok_Job_rank (P := P) (w := w) (base := base) T
  obtain ⟨g, kb⟩ := kb0 (ps := ["self"]) F 1 [] [0] fun kV doc pm an cdv ct us ws h1 h2 => match us, ws, h1, h2 with | [_], [], _, _ => rfl
  exact ⟨⟨_, fd, _, g, T.m_Job_rank, G, kb⟩, T.cl_Job⟩
theorem sc_law_mixed : FnScope ["cell", "k", "turned"] ["cell", "k"] (defScope (topS 26)) := ⟨rfl, rfl, rfl, by decide +kernel, rfl, by decide +kernel, by decide +kernel⟩
theorem ok_law_mixed (T : Txt K w mg) : ∃ fd, FnP K "_law_mixed" "_law_mixed" (topS 26) [] (He.ga K "_law_mixed") fd ∧ FnG P w K mg base CX0 1 (He.ga K "_law_mixed") fd ["cell", "k"] (sp_law_mixed K) := by
  obtain ⟨fd, F⟩ := T.d_law_mixed
  refine ⟨fd, F, fnG_of (sp := sp_law_mixed K) F sc_law_mixed (fun vs H Q E h => h.1) fun cdv A outer s H vs Q E hr hg h => ?_⟩
  have hu := hu_of hr
  have nd := sc_law_mixed.nd
  exact ⟨t_law_mixed K, PSs.nox ((pss_cons (ps_set (i := 2) nd rfl (Or.inl rfl) (pe_op op_addA (pe_op op_addA (pe_op op_mod (pe_op op_mulA (pe_op op_mulA (pv 0) (pe_op op_addA pe_int (pe_op op_mulA pe_int (pv 1)))) pe_int) pe_int) (pe_op op_mulA (pe_op op_mulA pe_int (pv 1)) (pv 1))) (pe_op op_mulA pe_int (pv 1))))
    (pss_one (ps_ret (pe_op op_fdiv (pe_op op_mod (pe_op op_mulA (pv 2) pe_int) pe_int) pe_int))))), rd_law_mixed vs H Q E h⟩
theorem cs_law_mixed_2 (T : Txt K w mg) : CallOk P w K mg base CX0 1 "_law_mixed" 2 [] (sp_law_mixed K) (fun vs zs => pick .non [0, 1] (vs ++ zs)) := by
  obtain ⟨fd, F, G⟩ := ok_law_mixed (P := P) (w := w) (base := base) T
  obtain ⟨g, kb⟩ := kb0 (ps := ["cell", "k"]) F 2 [] [0, 1] fun kV doc pm an cdv ct us ws h1 h2 => match us, ws, h1, h2 with | [_, _], [], _, _ => rfl
  exact ⟨⟨fd, _, g, G, kb⟩, T.g_law_mixed, F.kp⟩
theorem sc_law_folded : FnScope ["script", "found", "k", "cell"] ["script"] (defScope (topS 27)) := ⟨rfl, rfl, rfl, by decide +kernel, rfl, by decide +kernel, by decide +kernel⟩
theorem ok_law_folded (T : Txt K w mg) : ∃ fd, FnP K "_law_folded" "_law_folded" (topS 27) [] (He.ga K "_law_folded") fd ∧ FnG P w K mg base CX0 1 (He.ga K "_law_folded") fd ["script"] (sp_law_folded K) := by
  obtain ⟨fd, F⟩ := T.d_law_folded
  refine ⟨fd, F, fnG_of (sp := sp_law_folded K) F sc_law_folded (fun vs H Q E h => h.1) fun cdv A outer s H vs Q E hr hg h => ?_⟩
  have hu := hu_of hr
  have nd := sc_law_folded.nd
  exact ⟨t_law_folded K, PSs.nox ((pss_cons (ps_setLc (i := 1) (own := [("k", 2)]) rfl nd rfl rfl (sw_true rfl rfl rfl (by decide +kernel)) (pi_range1 (by rfl) T.z_range (pa_cons pe_int pa_nil)) (blkOk_by (by first | decide +kernel | kernel_rfl)) (fun _ _ _ _ _ => (pg_name (i := 2) nd rfl (Or.inl rfl))) (fun _ _ _ _ _ => pts_nil) (fun _ _ _ _ _ => (pe_op op_addA pe_int (pv 2))))
    (pss_cons (ps_for PassesOwn.never rfl (pi_enumA (by rfl) T.z_enumerate (pa_cons (pv 0) pa_nil)) (pg_tup rfl (pgs_cons (pg_name (i := 2) nd rfl (Or.inl rfl)) (pgs_cons (pg_name (i := 3) nd rfl (Or.inl rfl)) pgs_nil)))
    (pss_one (ps_asg (pe_op op_mod (pe_op op_addA (pe_op op_mulA (pe_ix ix_seq (pv 1) (pe_op op_mod (pv 2) pe_int) (fun _ _ => rfl)) pe_int) (pv 3)) pe_int) (pg_sub (pv 1) (pe_op op_mod (pv 2) pe_int) set_list))))
    (pss_cons (ps_for PassesOwn.never rfl (pi_range2 (by rfl) T.z_range (pa_cons pe_int (pa_cons pe_int pa_nil))) (pg_name (i := 2) nd rfl (Or.inl rfl))
    (pss_one (ps_asg (pe_op op_mod (pe_op op_addA (pe_ix ix_seq (pv 1) (pv 2) (fun _ _ => rfl)) (pe_op op_mulA (pe_ix ix_seq (pv 1) (pe_op op_sub (pv 2) pe_int) (fun _ _ => rfl)) pe_int)) pe_int) (pg_sub (pv 1) (pv 2) set_list))))
    (pss_one (ps_ret (pv 1))))))), rd_law_folded vs H Q E h⟩
theorem cs_law_folded_1 (T : Txt K w mg) : CallOk P w K mg base CX0 1 "_law_folded" 1 [] (sp_law_folded K) (fun vs zs => pick .non [0] (vs ++ zs)) := by
  obtain ⟨fd, F, G⟩ := ok_law_folded (P := P) (w := w) (base := base) T
  obtain ⟨g, kb⟩ := kb0 (ps := ["script"]) F 1 [] [0] fun kV doc pm an cdv ct us ws h1 h2 => match us, ws, h1, h2 with | [_], [], _, _ => rfl
  exact ⟨⟨fd, _, g, G, kb⟩, T.g_law_folded, F.kp⟩
theorem sc_law_rank : FnScope ["plain"] ["plain"] (defScope (topS 38)) := ⟨rfl, rfl, rfl, by decide +kernel, rfl, by decide +kernel, by decide +kernel⟩
theorem ok_law_rank (T : Txt K w mg) : ∃ fd, FnP K "_law_rank" "_law_rank" (topS 38) [] (He.ga K "_law_rank") fd ∧ FnG P w K mg base CX0 1 (He.ga K "_law_rank") fd ["plain"] (sp_law_rank K) := by
  obtain ⟨fd, F⟩ := T.d_law_rank
  refine ⟨fd, F, fnG_of (sp := sp_law_rank K) F sc_law_rank (fun vs H Q E h => h.1) fun cdv A outer s H vs Q E hr hg h => ?_⟩
  have hu := hu_of hr
  have nd := sc_law_rank.nd
  exact ⟨t_law_rank K, PSs.nox ((pss_one (ps_ret (pe_tup (pa_cons (pe_ifExp (pt_tr (pe_ix ix_seq (pv 0) pe_int (fun _ _ => rfl))) pe_int pe_int) (pa_cons (pe_ix ix_seq (pv 0) pe_int (fun _ _ => rfl)) (pa_cons (pe_ix ix_seq (pv 0) pe_int (fun _ _ => rfl)) (pa_cons (pe_ix ix_seq (pv 0) pe_int (fun _ _ => rfl)) pa_nil)))))))), rd_law_rank vs H Q E h⟩
theorem cs_law_rank_1 (T : Txt K w mg) : CallOk P w K mg base CX0 1 "_law_rank" 1 [] (sp_law_rank K) (fun vs zs => pick .non [0] (vs ++ zs)) := by
  obtain ⟨fd, F, G⟩ := ok_law_rank (P := P) (w := w) (base := base) T
  obtain ⟨g, kb⟩ := kb0 (ps := ["plain"]) F 1 [] [0] fun kV doc pm an cdv ct us ws h1 h2 => match us, ws, h1, h2 with | [_], [], _, _ => rfl
  exact ⟨⟨fd, _, g, G, kb⟩, T.g_law_rank, F.kp⟩
theorem sc_is_step : FnScope ["thing"] ["thing"] (defScope (topS 15)) := ⟨rfl, rfl, rfl, by decide +kernel, rfl, by decide +kernel, by decide +kernel⟩
theorem ok_is_step (T : Txt K w mg) : ∃ fd, FnP K "is_step" "is_step" (topS 15) [] (He.ga K "is_step") fd ∧ FnG P w K mg base CX0 2 (He.ga K "is_step") fd ["thing"] (sp_is_step K) := by
  obtain ⟨fd, F⟩ := T.d_is_step
  refine ⟨fd, F, fnG_of (sp := sp_is_step K) F sc_is_step (fun vs H Q E h => h.1) fun cdv A outer s H vs Q E hr hg h => ?_⟩
  have hu := hu_of hr
  have nd := sc_is_step.nd
  exact ⟨t_is_step K, PSs.nox ((pss_cons (ps_if (PW.pt (pw_or (pt_not (pt_tr (pe_callB call_isi (by rfl) T.z_isinstance (by decide +kernel) (pa_cons (pv 0) (pa_cons (pe_bltn (v := .ty "tuple") (by rfl) T.z_tuple (by decide +kernel) rfl) pa_nil))))) (pw_or (pt_cmpR (op_neA hr) (pe_callB cl_len (by rfl) T.z_len PySem.boot_len (pa_cons (pv 0) pa_nil)) pe_int (nobehind _ (by decide) (by decide))) (pw_or1 (pt_cmpR op_isNo (pe_ca (cs_kind_of_1 T) hr (by decide) hg rfl pass0 (pa_cons (pe_ix ix_seq (pv 0) pe_int (fun _ _ => rfl)) pa_nil) pk_nil) pe_non (nobehind _ (by decide) (by decide))))))) (pss_one (ps_ret pe_bl)) pss_nil)
    (pss_one (ps_ret (pe_and (pe_ca (cs_is_whole_2_most T) hr (by decide) hg rfl pass0 (pa_cons (pe_ix ix_seq (pv 0) pe_int (fun _ _ => rfl)) (pa_cons pe_int pa_nil)) (pk_cons (pe_gI T.c_MOST_HOURS) pk_nil)) (pe_one (pe_ca (cs_is_whole_2_most T) hr (by decide) hg rfl pass0 (pa_cons (pe_ix ix_seq (pv 0) pe_int (fun _ _ => rfl)) (pa_cons pe_int pa_nil)) (pk_cons (pe_gI T.c_MOST_HOURS) pk_nil)))))))), rd_is_step vs H Q E h⟩
theorem cs_is_step_1 (T : Txt K w mg) : CallOk P w K mg base CX0 2 "is_step" 1 [] (sp_is_step K) (fun vs zs => pick .non [0] (vs ++ zs)) := by
  obtain ⟨fd, F, G⟩ := ok_is_step (P := P) (w := w) (base := base) T
  obtain ⟨g, kb⟩ := kb0 (ps := ["thing"]) F 1 [] [0] fun kV doc pm an cdv ct us ws h1 h2 => match us, ws, h1, h2 with | [_], [], _, _ => rfl
  exact ⟨⟨fd, _, g, G, kb⟩, T.g_is_step, F.kp⟩
theorem sc_Job_init : FnScope ["self", "number", "style", "brought", "due", "haste", "wanted"] ["self", "number", "style", "brought", "due", "haste"] (defScope (inClass (topS 20) 0)) := ⟨rfl, rfl, rfl, by decide +kernel, rfl, by decide +kernel, by decide +kernel⟩
theorem ok_Job_init (T : Txt K w mg) : ∃ fd, FnP K "__init__" "Job.__init__" (inClass (topS 20) 0) [.int 0, .non, .bl false] (He.ma K (He.ga K "Job") "__init__") fd ∧ FnG P w K mg base CX0 2 (He.ma K (He.ga K "Job") "__init__") fd ["self", "number", "style", "brought", "due", "haste"] (sp_Job_init K) := by
  obtain ⟨fd, F⟩ := T.d_Job_init
  refine ⟨fd, F, fnG_of (sp := sp_Job_init K) F sc_Job_init (fun vs H Q E h => h.1) fun cdv A outer s H vs Q E hr hg h => ?_⟩
  have hu := hu_of hr
  have nd := sc_Job_init.nd
  exact ⟨t_Job_init K, PSs.nox ((pss_cons (ps_if (pt_not (pt_tr (pe_ca (cs_is_whole_2_most T) hr (by decide) hg rfl pass0 (pa_cons (pv 1) (pa_cons pe_int pa_nil)) (pk_cons (pe_gI T.c_MOST_NUMBER) pk_nil)))) (pss_one ps_no) pss_nil)
    (pss_cons (ps_if (pt_not (pt_tr (pe_callB call_isi (by rfl) T.z_isinstance (by decide +kernel) (pa_cons (pv 2) (pa_cons (pe_gR T.g_Style) pa_nil))))) (pss_one ps_no) pss_nil)
    (pss_cons (ps_if (pt_not (pt_tr (pe_ca (cs_is_whole_2_most T) hr (by decide) hg rfl pass0 (pa_cons (pv 3) (pa_cons pe_int pa_nil)) (pk_cons (pe_gI T.c_MOST_HOUR) pk_nil)))) (pss_one ps_no) pss_nil)
    (pss_cons (ps_set (i := 6) nd rfl (Or.inl rfl) (pe_ifExp (pt_cmpR op_isNo (pv 4) pe_non (nobehind _ (by decide) (by decide))) (pe_op op_addA (pv 3) (pe_me0 (cs_Style_span_0 T) hr (by decide) hg pass0 (pv 2) pk_nil)) (pv 4)))
    (pss_cons (ps_if (pt_not (pt_tr (pe_ca (cs_is_whole_2_most T) hr (by decide) hg rfl pass0 (pa_cons (pv 6) (pa_cons (pv 3) pa_nil)) (pk_cons (pe_gI T.c_MOST_HOUR) pk_nil)))) (pss_one ps_no) pss_nil)
    (pss_cons (ps_if (pt_not (pt_tr (pe_callB call_isi (by rfl) T.z_isinstance (by decide +kernel) (pa_cons (pv 5) (pa_cons (pe_bltn (v := .ty "bool") (by rfl) T.z_bool (by decide +kernel) rfl) pa_nil))))) (pss_one ps_no) pss_nil)
    (pss_cons (ps_fld (pv 0) (pv 1) rfl)
    (pss_cons (ps_fld (pv 0) (pv 2) rfl)
    (pss_cons (ps_fld (pv 0) (pv 3) rfl)
    (pss_cons (ps_fld (pv 0) (pv 6) rfl)
    (pss_one (ps_fld (pv 0) (pv 5) rfl))))))))))))), rd_Job_init (jobC T) (styleC T) T.od_Style vs H Q E h⟩
theorem cs_Job_init_2_brought_due_haste (T : Txt K w mg) : MakeOk P w K mg base CX0 2 "Job" 2 ["brought", "due", "haste"] (sp_Job_init K) (fun vs zs => pick .non [0, 1, 2, 3, 4, 5] (vs ++ (zs ++ [.int 0, .non, .bl false]))) := by
  obtain ⟨fd, F, G⟩ := ok_Job_init (P := P) (w := w) (base := base) T
  obtain ⟨g, kb⟩ := kb1 (ps := ["self", "number", "style", "brought", "due", "haste"]) F (by simp) 3 ["brought", "due", "haste"] [0, 1, 2, 3, 4, 5] fun T kV doc pm an cdv ct us ws its h1 h2 h3 => match us, ws, its, h1, h2, h3 with | [_, _, _], [_, _, _], [_, _, _], _, _, _ => ⟨_, rfl, rfl⟩
  exact ⟨⟨_, fd, _, g, T.mk_Job, G, kb⟩, T.g_Job⟩
theorem cs_Job_init_4 (T : Txt K w mg) : MakeOk P w K mg base CX0 2 "Job" 4 [] (sp_Job_init K) (fun vs zs => pick .non [0, 1, 2, 3, 4, 7] (vs ++ (zs ++ [.int 0, .non, .bl false]))) := by
  obtain ⟨fd, F, G⟩ := ok_Job_init (P := P) (w := w) (base := base) T
  obtain ⟨g, kb⟩ := kb1 (ps := ["self", "number", "style", "brought", "due", "haste"]) F (by simp) 5 [] [0, 1, 2, 3, 4, 7] fun T kV doc pm an cdv ct us ws its h1 h2 h3 => match us, ws, its, h1, h2, h3 with | [_, _, _, _, _], [], [_, _, _], _, _, _ => ⟨_, rfl, rfl⟩
  exact ⟨⟨_, fd, _, g, T.mk_Job, G, kb⟩, T.g_Job⟩
theorem cs_Job_init_5 (T : Txt K w mg) : MakeOk P w K mg base CX0 2 "Job" 5 [] (sp_Job_init K) (fun vs zs => pick .non [0, 1, 2, 3, 4, 5] (vs ++ (zs ++ [.int 0, .non, .bl false]))) := by
  obtain ⟨fd, F, G⟩ := ok_Job_init (P := P) (w := w) (base := base) T
  obtain ⟨g, kb⟩ := kb1 (ps := ["self", "number", "style", "brought", "due", "haste"]) F (by simp) 6 [] [0, 1, 2, 3, 4, 5] fun T kV doc pm an cdv ct us ws its h1 h2 h3 => match us, ws, its, h1, h2, h3 with | [_, _, _, _, _, _], [], [_, _, _], _, _, _ => ⟨_, rfl, rfl⟩
  exact ⟨⟨_, fd, _, g, T.mk_Job, G, kb⟩, T.g_Job⟩
theorem sc_Job_eq : FnScope ["self", "other"] ["self", "other"] (defScope (inClass (topS 20) 9)) := ⟨rfl, rfl, rfl, by decide +kernel, rfl, by decide +kernel, by decide +kernel⟩
theorem ok_Job_eq (T : Txt K w mg) : ∃ fd, FnP K "__eq__" "Job.__eq__" (inClass (topS 20) 9) [] (He.ma K (He.ga K "Job") "__eq__") fd ∧ FnG P w K mg base CX0 2 (He.ma K (He.ga K "Job") "__eq__") fd ["self", "other"] (sp_Job_eq K) := by
  obtain ⟨fd, F⟩ := T.d_Job_eq
  refine ⟨fd, F, fnG_of (sp := sp_Job_eq K) F sc_Job_eq (fun vs H Q E h => h.1) fun cdv A outer s H vs Q E hr hg h => ?_⟩
  have hu := hu_of hr
  have nd := sc_Job_eq.nd
  exact ⟨t_Job_eq K, PSs.nox ((pss_one (ps_ret (pe_and (pe_callB call_isi (by rfl) T.z_isinstance (by decide +kernel) (pa_cons (pv 1) (pa_cons (pe_gR T.g_Job) pa_nil))) (pe_and (pe_cmpR (op_eqA hr) (pe_me0 (cs_Job_rank_0 T) hr (by decide) hg pass0 (pv 0) pk_nil) (pe_me0 (cs_Job_rank_0 T) hr (by decide) hg pass0 (pv 1) pk_nil) (nobehind _ (by decide) (by decide))) (pe_one (pe_cmpR (op_ownEq (cs_Style_eq_1 T) hr (by decide) hg pass0) (pe_fld (pv 0) rfl) (pe_fld (pv 1) rfl) (nobehind _ (by decide) (by decide))))))))), rd_Job_eq (jobC T) (styleC T) T.od_Job T.od_Style vs H Q E h⟩
theorem cs_Job_eq_1 (T : Txt K w mg) : MethOk P w K mg base CX0 2 (He.ga K "Job") "__eq__" 1 [] (sp_Job_eq K) (fun vs zs => pick .non [0, 1] (vs ++ zs)) := by
  obtain ⟨fd, F, G⟩ := ok_Job_eq (P := P) (w := w) (base := base) T
  obtain ⟨g, kb⟩ := kb0 (ps := ["self", "other"]) F 2 [] [0, 1] fun kV doc pm an cdv ct us ws h1 h2 => match us, ws, h1, h2 with | [_, _], [], _, _ => rfl
  exact ⟨⟨_, fd, _, g, T.m_Job_eq, G, kb⟩, T.cl_Job⟩
theorem sc_rank_of : FnScope ["job"] ["job"] (defScope (topS 21)) := ⟨rfl, rfl, rfl, by decide +kernel, rfl, by decide +kernel, by decide +kernel⟩
theorem ok_rank_of (T : Txt K w mg) : ∃ fd, FnP K "rank_of" "rank_of" (topS 21) [] (He.ga K "rank_of") fd ∧ FnG P w K mg base CX0 2 (He.ga K "rank_of") fd ["job"] (sp_rank_of K) := by
  obtain ⟨fd, F⟩ := T.d_rank_of
  refine ⟨fd, F, fnG_of (sp := sp_rank_of K) F sc_rank_of (fun vs H Q E h => h.1) fun cdv A outer s H vs Q E hr hg h => ?_⟩
  have hu := hu_of hr
  have nd := sc_rank_of.nd
  exact ⟨t_rank_of K, PSs.nox ((pss_one (ps_ret (pe_me0 (cs_Job_rank_0 T) hr (by decide) hg pass0 (pv 0) pk_nil)))), rd_rank_of vs H Q E h⟩
theorem cs_rank_of_1 (T : Txt K w mg) : CallOk P w K mg base CX0 2 "rank_of" 1 [] (sp_rank_of K) (fun vs zs => pick .non [0] (vs ++ zs)) := by
  obtain ⟨fd, F, G⟩ := ok_rank_of (P := P) (w := w) (base := base) T
  obtain ⟨g, kb⟩ := kb0 (ps := ["job"]) F 1 [] [0] fun kV doc pm an cdv ct us ws h1 h2 => match us, ws, h1, h2 with | [_], [], _, _ => rfl
  exact ⟨⟨fd, _, g, G, kb⟩, T.g_rank_of, F.kp⟩
theorem sc_law_draw : FnScope ["m", "many", "k", "spot", "cell"] ["m", "many"] (defScope (topS 28)) := ⟨rfl, rfl, rfl, by decide +kernel, rfl, by decide +kernel, by decide +kernel⟩
theorem ok_law_draw (T : Txt K w mg) : ∃ fd, FnP K "_law_draw" "_law_draw" (topS 28) [] (He.ga K "_law_draw") fd ∧ FnG P w K mg base CX0 2 (He.ga K "_law_draw") fd ["m", "many"] (sp_law_draw K) := by
  obtain ⟨fd, F⟩ := T.d_law_draw
  refine ⟨fd, F, fnG_of (sp := sp_law_draw K) F sc_law_draw (fun vs H Q E h => h.1) fun cdv A outer s H vs Q E hr hg h => ?_⟩
  have hu := hu_of hr
  have nd := sc_law_draw.nd
  exact ⟨t_law_draw K, PSs.nox ((pss_cons (ps_set (i := 2) nd rfl (Or.inl rfl) (pe_dget hu (pv 0) pe_str (fun _ _ => rfl)))
    (pss_cons (ps_dput hu (pv 0) pe_str (pe_op op_addA (pv 2) pe_int) rfl)
    (pss_cons (ps_if (pt_cmpR (op_neA hr) (pe_dget hu (pv 0) pe_str (fun _ _ => rfl)) (pe_lst pa_nil) (nobehind _ (by decide) (by decide))) (pss_cons (ps_set (i := 3) nd rfl (Or.inl rfl) (pe_op op_mod (pv 2) (pe_callB cl_len (by rfl) T.z_len PySem.boot_len (pa_cons (pe_dget hu (pv 0) pe_str (fun _ _ => rfl)) pa_nil))))
    (pss_cons (ps_set (i := 4) nd rfl (Or.inl rfl) (pe_ix ix_seq (pe_dget hu (pv 0) pe_str (fun _ _ => rfl)) (pv 3) (fun _ _ => rfl)))
    (pss_one (ps_if (pt_cmpR op_gt (pv 4) pe_int (nobehind _ (by decide) (by decide))) (pss_cons (ps_asg (pe_op op_fdiv (pv 4) (pv 1)) (pg_sub (pe_dget hu (pv 0) pe_str (fun _ _ => rfl)) (pv 3) set_list))
    (pss_one (ps_ret (pe_op op_mod (pv 4) (pv 1))))) pss_nil)))) pss_nil)
    (pss_one (ps_ret (pe_op op_mod (pe_ca (cs_law_mixed_2 T) hr (by decide) hg rfl pass0 (pa_cons (pe_ca (cs_law_mixed_2 T) hr (by decide) hg rfl pass0 (pa_cons (pe_op op_addA (pe_ix ix_seq (pe_dget hu (pv 0) pe_str (fun _ _ => rfl)) (pe_op op_mod (pv 2) pe_int) (fun _ _ => rfl)) (pe_op op_mulA pe_int (pe_op op_fdiv (pv 2) pe_int))) (pa_cons (pv 2) pa_nil)) pk_nil) (pa_cons (pe_op op_addA (pv 2) pe_int) pa_nil)) pk_nil) (pv 1)))))))), rd_law_draw vs H Q E h⟩
theorem cs_law_draw_2 (T : Txt K w mg) : CallOk P w K mg base CX0 2 "_law_draw" 2 [] (sp_law_draw K) (fun vs zs => pick .non [0, 1] (vs ++ zs)) := by
  obtain ⟨fd, F, G⟩ := ok_law_draw (P := P) (w := w) (base := base) T
  obtain ⟨g, kb⟩ := kb0 (ps := ["m", "many"]) F 2 [] [0, 1] fun kV doc pm an cdv ct us ws h1 h2 => match us, ws, h1, h2 with | [_, _], [], _, _ => rfl
  exact ⟨⟨fd, _, g, G, kb⟩, T.g_law_draw, F.kp⟩
theorem sc_law_begun : FnScope ["script", "m", "cell"] ["script"] (defScope (topS 29)) := ⟨rfl, rfl, rfl, by decide +kernel, rfl, by decide +kernel, by decide +kernel⟩
theorem ok_law_begun (T : Txt K w mg) : ∃ fd, FnP K "_law_begun" "_law_begun" (topS 29) [] (He.ga K "_law_begun") fd ∧ FnG P w K mg base CX0 2 (He.ga K "_law_begun") fd ["script"] (sp_law_begun K) := by
  obtain ⟨fd, F⟩ := T.d_law_begun
  refine ⟨fd, F, fnG_of (sp := sp_law_begun K) F sc_law_begun (fun vs H Q E h => h.1) fun cdv A outer s H vs Q E hr hg h => ?_⟩
  have hu := hu_of hr
  have nd := sc_law_begun.nd
  exact ⟨t_law_begun K, PSs.nox ((pss_cons (ps_set (i := 1) nd rfl (Or.inl rfl) (pe_disp (pps_cons pe_str (pe_ca (cs_law_folded_1 T) hr (by decide) hg rfl pass0 (pa_cons (pv 0) pa_nil) pk_nil) (pps_cons pe_str (pe_lst pa_nil) (pps_cons pe_str pe_int pps_nil))) (by rfl) (by rfl) (fun z => by cases z) (by decide)))
    (pss_cons (ps_dput hu (pv 1) pe_str (pe_lc (own := [("cell", 2)]) rfl nd (pi_any (pv 0)) (blkOk_by (by first | decide +kernel | kernel_rfl)) (fun _ _ _ _ _ => (pg_name (i := 2) nd rfl (Or.inl rfl))) (fun _ _ _ _ _ => pts_nil) (fun _ _ _ _ _ => (pe_ifExp (pt_cmpR op_ge (pv 2) (pe_op op_pow pe_int pe_int) (nobehind _ (by decide) (by decide))) (pv 2) pe_int))) rfl)
    (pss_one (ps_ret (pv 1)))))), rd_law_begun vs H Q E h⟩
theorem cs_law_begun_1 (T : Txt K w mg) : CallOk P w K mg base CX0 2 "_law_begun" 1 [] (sp_law_begun K) (fun vs zs => pick .non [0] (vs ++ zs)) := by
  obtain ⟨fd, F, G⟩ := ok_law_begun (P := P) (w := w) (base := base) T
  obtain ⟨g, kb⟩ := kb0 (ps := ["script"]) F 1 [] [0] fun kV doc pm an cdv ct us ws h1 h2 => match us, ws, h1, h2 with | [_], [], _, _ => rfl
  exact ⟨⟨fd, _, g, G, kb⟩, T.g_law_begun, F.kp⟩
theorem sc_law_plain : FnScope ["job", "book"] ["job"] (defScope (topS 37)) := ⟨rfl, rfl, rfl, by decide +kernel, rfl, by decide +kernel, by decide +kernel⟩
theorem ok_law_plain (T : Txt K w mg) : ∃ fd, FnP K "_law_plain" "_law_plain" (topS 37) [] (He.ga K "_law_plain") fd ∧ FnG P w K mg base CX0 2 (He.ga K "_law_plain") fd ["job"] (sp_law_plain K) := by
  obtain ⟨fd, F⟩ := T.d_law_plain
  refine ⟨fd, F, fnG_of (sp := sp_law_plain K) F sc_law_plain (fun vs H Q E h => h.1) fun cdv A outer s H vs Q E hr hg h => ?_⟩
  have hu := hu_of hr
  have nd := sc_law_plain.nd
  exact ⟨t_law_plain K, PSs.nox ((pss_cons (ps_set (i := 1) nd rfl (Or.inl rfl) (pe_me0 (cs_Job_of_style_0 T) hr (by decide) hg pass0 (pv 0) pk_nil))
    (pss_one (ps_ret (pe_tup (pa_cons (pe_me0 (cs_Job_numbered_0 T) hr (by decide) hg pass0 (pv 0) pk_nil) (pa_cons (pe_tup (pa_cons (pe_me0 (cs_Style_named_0 T) hr (by decide) hg pass0 (pv 1) pk_nil) (pa_cons (pe_me0 (cs_Style_steps_0 T) hr (by decide) hg pass0 (pv 1) pk_nil) pa_nil))) (pa_cons (pe_me0 (cs_Job_brought_at_0 T) hr (by decide) hg pass0 (pv 0) pk_nil) (pa_cons (pe_me0 (cs_Job_due_at_0 T) hr (by decide) hg pass0 (pv 0) pk_nil) (pa_cons (pe_me0 (cs_Job_in_haste_0 T) hr (by decide) hg pass0 (pv 0) pk_nil) pa_nil)))))))))), rd_law_plain vs H Q E h⟩
theorem cs_law_plain_1 (T : Txt K w mg) : CallOk P w K mg base CX0 2 "_law_plain" 1 [] (sp_law_plain K) (fun vs zs => pick .non [0] (vs ++ zs)) := by
  obtain ⟨fd, F, G⟩ := ok_law_plain (P := P) (w := w) (base := base) T
  obtain ⟨g, kb⟩ := kb0 (ps := ["job"]) F 1 [] [0] fun kV doc pm an cdv ct us ws h1 h2 => match us, ws, h1, h2 with | [_], [], _, _ => rfl
  exact ⟨⟨fd, _, g, G, kb⟩, T.g_law_plain, F.kp⟩
theorem sc_law_ordered : FnScope ["plains", "found", "plain", "spot"] ["plains"] (defScope (topS 39)) := ⟨rfl, rfl, rfl, by decide +kernel, rfl, by decide +kernel, by decide +kernel⟩
theorem ok_law_ordered (T : Txt K w mg) : ∃ fd, FnP K "_law_ordered" "_law_ordered" (topS 39) [] (He.ga K "_law_ordered") fd ∧ FnG P w K mg base CX0 2 (He.ga K "_law_ordered") fd ["plains"] (sp_law_ordered K) := by
  obtain ⟨fd, F⟩ := T.d_law_ordered
  refine ⟨fd, F, fnG_of (sp := sp_law_ordered K) F sc_law_ordered (fun vs H Q E h => h.1) fun cdv A outer s H vs Q E hr hg h => ?_⟩
  have hu := hu_of hr
  have nd := sc_law_ordered.nd
  exact ⟨t_law_ordered K, PSs.nox ((pss_cons (ps_set (i := 1) nd rfl (Or.inl rfl) (pe_lst pa_nil))
    (pss_cons (ps_for PassesOwn.never rfl (pi_any (pv 0)) (pg_name (i := 2) nd rfl (Or.inl rfl))
    (pss_cons (ps_set (i := 3) nd rfl (Or.inl rfl) (pe_callB cl_len (by rfl) T.z_len PySem.boot_len (pa_cons (pv 1) pa_nil)))
    (pss_cons (ps_while PassesOwn.never (PW.pt (pw_and (pt_cmpR op_gt (pv 3) pe_int (nobehind _ (by decide) (by decide))) (pw_and1 (pt_cmpR (op_gtD hr) (pe_ca (cs_law_rank_1 T) hr (by decide) hg rfl pass0 (pa_cons (pe_ix ix_seq (pv 1) (pe_op op_sub (pv 3) pe_int) (fun _ _ => rfl)) pa_nil) pk_nil) (pe_ca (cs_law_rank_1 T) hr (by decide) hg rfl pass0 (pa_cons (pv 2) pa_nil) pk_nil) (nobehind _ (by decide) (by decide))))))
    (pss_one (ps_set (i := 3) nd rfl (Or.inl rfl) (pe_op op_sub (pv 3) pe_int))))
    (pss_one (ps_set (i := 1) nd rfl (Or.inl rfl) (pe_op op_addA (pe_op op_addA (pe_slice sl_any (pv 1) po_none (po_some (pv 3))) (pe_lst (pa_cons (pv 2) pa_nil))) (pe_slice sl_any (pv 1) (po_some (pv 3)) po_none)))))))
    (pss_one (ps_ret (pv 1)))))), rd_law_ordered vs H Q E h⟩
theorem cs_law_ordered_1 (T : Txt K w mg) : CallOk P w K mg base CX0 2 "_law_ordered" 1 [] (sp_law_ordered K) (fun vs zs => pick .non [0] (vs ++ zs)) := by
  obtain ⟨fd, F, G⟩ := ok_law_ordered (P := P) (w := w) (base := base) T
  obtain ⟨g, kb⟩ := kb0 (ps := ["plains"]) F 1 [] [0] fun kV doc pm an cdv ct us ws h1 h2 => match us, ws, h1, h2 with | [_], [], _, _ => rfl
  exact ⟨⟨fd, _, g, G, kb⟩, T.g_law_ordered, F.kp⟩
theorem sc_are_steps : FnScope ["thing", "step"] ["thing"] (defScope (topS 18)) := ⟨rfl, rfl, rfl, by decide +kernel, rfl, by decide +kernel, by decide +kernel⟩
theorem ok_are_steps (T : Txt K w mg) : ∃ fd, FnP K "are_steps" "are_steps" (topS 18) [] (He.ga K "are_steps") fd ∧ FnG P w K mg base CX0 3 (He.ga K "are_steps") fd ["thing"] (sp_are_steps K) := by
  obtain ⟨fd, F⟩ := T.d_are_steps
  refine ⟨fd, F, fnG_of (sp := sp_are_steps K) F sc_are_steps (fun vs H Q E h => h.1) fun cdv A outer s H vs Q E hr hg h => ?_⟩
  have hu := hu_of hr
  have nd := sc_are_steps.nd
  exact ⟨t_are_steps K, PSs.nox ((pss_cons (ps_if (PW.pt (pw_or (pt_not (pt_tr (pe_callB call_isiT (by rfl) T.z_isinstance (by decide +kernel) (pa_cons (pv 0) (pa_cons (pe_tup (pa_cons (pe_bltn (v := .ty "list") (by rfl) T.z_list (by decide +kernel) rfl) (pa_cons (pe_bltn (v := .ty "tuple") (by rfl) T.z_tuple (by decide +kernel) rfl) pa_nil))) pa_nil))))) (pw_or1 (pt_not (pt_chain op_le op_le pe_int (pe_callB cl_len (by rfl) T.z_len PySem.boot_len (pa_cons (pv 0) pa_nil)) (pe_gI T.c_MOST_STEPS)))))) (pss_one (ps_ret pe_bl)) pss_nil)
    (pss_one (ps_ret (pe_callB (cr_all rfl) (by rfl) T.z_all (by decide +kernel) (pa_cons (pe_lc (own := [("step", 1)]) rfl nd (pi_any (pv 0)) (blkOk_by (by first | decide +kernel | kernel_rfl)) (fun _ _ _ _ _ => (pg_name (i := 1) nd rfl (Or.inl rfl))) (fun _ _ _ _ _ => pts_nil) (fun _ _ _ _ _ => (pe_ca (cs_is_step_1 T) hr (by decide) hg rfl pass0 (pa_cons (pv 1) pa_nil) pk_nil))) pa_nil)))))), rd_are_steps vs H Q E h⟩
theorem cs_are_steps_1 (T : Txt K w mg) : CallOk P w K mg base CX0 3 "are_steps" 1 [] (sp_are_steps K) (fun vs zs => pick .non [0] (vs ++ zs)) := by
  obtain ⟨fd, F, G⟩ := ok_are_steps (P := P) (w := w) (base := base) T
  obtain ⟨g, kb⟩ := kb0 (ps := ["thing"]) F 1 [] [0] fun kV doc pm an cdv ct us ws h1 h2 => match us, ws, h1, h2 with | [_], [], _, _ => rfl
  exact ⟨⟨fd, _, g, G, kb⟩, T.g_are_steps, F.kp⟩
theorem sc_by_style : FnScope ["jobs", "found", "job", "name"] ["jobs"] (defScope (topS 24)) := ⟨rfl, rfl, rfl, by decide +kernel, rfl, by decide +kernel, by decide +kernel⟩
theorem ok_by_style (T : Txt K w mg) : ∃ fd, FnP K "by_style" "by_style" (topS 24) [] (He.ga K "by_style") fd ∧ FnG P w K mg base CX0 3 (He.ga K "by_style") fd ["jobs"] (sp_by_style K) := by
  obtain ⟨fd, F⟩ := T.d_by_style
  refine ⟨fd, F, fnG_of (sp := sp_by_style K) F sc_by_style (fun vs H Q E h => h.1) fun cdv A outer s H vs Q E hr hg h => ?_⟩
  have hu := hu_of hr
  have nd := sc_by_style.nd
  exact ⟨t_by_style K, PSs.nox ((pss_cons (ps_set (i := 1) nd rfl (Or.inr rfl) pe_dnewK)
    (pss_cons (ps_for PassesOwn.never rfl (pi_any (pv 0)) (pg_name (i := 2) nd rfl (Or.inl rfl))
    (pss_one (ps_expr (pe_bm PySem.F.plainAttrs_list PySem.F.slot_list_append PySem.F.type_list_append mt_append (pe_dsetd (pv 1) (pe_me0 (cs_Style_named_0 T) hr (by decide) hg pass0 (pe_me0 (cs_Job_of_style_0 T) hr (by decide) hg pass0 (pv 2) pk_nil) pk_nil) (pe_lst pa_nil) ⟨rfl, rfl, rfl, rfl⟩) (pa_cons (pe_me0 (cs_Job_numbered_0 T) hr (by decide) hg pass0 (pv 2) pk_nil) pa_nil)))))
    (pss_one (ps_ret (pe_lc (own := [("name", 3)]) rfl nd (pi_any (pe_callB (cl_sortedD rfl) (by rfl) T.z_sorted (by decide +kernel) (pa_cons (pv 1) pa_nil))) (blkOk_by (by first | decide +kernel | kernel_rfl)) (fun _ _ _ _ _ => (pg_name (i := 3) nd rfl (Or.inl rfl))) (fun _ _ _ _ _ => pts_nil) (fun _ _ _ _ _ => (pe_tup (pa_cons (pv 3) (pa_cons (pe_sortedSet rfl hr (by rfl) T.z_sorted (by rfl) T.z_set (pe_dget hu (pv 1) (pv 3) (fun _ _ => rfl))) pa_nil)))))))))), rd_by_style vs H Q E h⟩
theorem cs_by_style_1 (T : Txt K w mg) : CallOk P w K mg base CX0 3 "by_style" 1 [] (sp_by_style K) (fun vs zs => pick .non [0] (vs ++ zs)) := by
  obtain ⟨fd, F, G⟩ := ok_by_style (P := P) (w := w) (base := base) T
  obtain ⟨g, kb⟩ := kb0 (ps := ["jobs"]) F 1 [] [0] fun kV doc pm an cdv ct us ws h1 h2 => match us, ws, h1, h2 with | [_], [], _, _ => rfl
  exact ⟨⟨fd, _, g, G, kb⟩, T.g_by_style, F.kp⟩
theorem cs_by_style_0_jobs (T : Txt K w mg) : CallOk P w K mg base CX0 3 "by_style" 0 ["jobs"] (sp_by_style K) (fun vs zs => pick .non [0] (vs ++ zs)) := by
  obtain ⟨fd, F, G⟩ := ok_by_style (P := P) (w := w) (base := base) T
  obtain ⟨g, kb⟩ := kb0 (ps := ["jobs"]) F 0 ["jobs"] [0] fun kV doc pm an cdv ct us ws h1 h2 => match us, ws, h1, h2 with | [], [_], _, _ => rfl
  exact ⟨⟨fd, _, g, G, kb⟩, T.g_by_style, F.kp⟩
theorem sc_law_title : FnScope ["m", "some", "said", "k", "words"] ["m"] (defScope (topS 30)) := ⟨rfl, rfl, rfl, by decide +kernel, rfl, by decide +kernel, by decide +kernel⟩
theorem ok_law_title (T : Txt K w mg) : ∃ fd, FnP K "_law_title" "_law_title" (topS 30) [] (He.ga K "_law_title") fd ∧ FnG P w K mg base CX0 3 (He.ga K "_law_title") fd ["m"] (sp_law_title K) := by
  obtain ⟨fd, F⟩ := T.d_law_title
  refine ⟨fd, F, fnG_of (sp := sp_law_title K) F sc_law_title (fun vs H Q E h => h.1) fun cdv A outer s H vs Q E hr hg h => ?_⟩
  have hu := hu_of hr
  have nd := sc_law_title.nd
  exact ⟨t_law_title K, PSs.nox ((pss_cons (ps_set (i := 1) nd rfl (Or.inl rfl) (pe_ca (cs_law_draw_2 T) hr (by decide) hg rfl pass0 (pa_cons (pv 0) (pa_cons pe_int pa_nil)) pk_nil))
    (pss_cons (ps_set (i := 2) nd rfl (Or.inl rfl) pe_str)
    (pss_cons (ps_for PassesOwn.never rfl (pi_range1 (by rfl) T.z_range (pa_cons (pe_op op_addA pe_int (pe_ix ix_seq (pe_lst (pa_cons (pe_ca (cs_law_draw_2 T) hr (by decide) hg rfl pass0 (pa_cons (pv 0) (pa_cons pe_int pa_nil)) pk_nil) (pa_cons (pe_ca (cs_law_draw_2 T) hr (by decide) hg rfl pass0 (pa_cons (pv 0) (pa_cons pe_int pa_nil)) pk_nil) (pa_cons pe_int pa_nil)))) (pv 1) (fun _ _ => rfl))) pa_nil)) (pg_name (i := 3) nd rfl (Or.inl rfl))
    (pss_one (ps_set (i := 2) nd rfl (Or.inl rfl) (pe_op op_addA (pv 2) (pe_ix ix_seq pe_str (pe_ca (cs_law_draw_2 T) hr (by decide) hg rfl pass0 (pa_cons (pv 0) (pa_cons pe_int pa_nil)) pk_nil) (fun _ _ => rfl))))))
    (pss_cons (ps_set (i := 4) nd rfl (Or.inl rfl) (pe_lst (pa_cons pe_str (pa_cons pe_str (pa_cons pe_str (pa_cons pe_str (pa_cons pe_str (pa_cons pe_str (pa_cons pe_str (pa_cons pe_str (pa_cons pe_str (pa_cons pe_str pa_nil))))))))))))
    (pss_one (ps_ret (pe_ifExp (pt_cmpR op_inA (pv 2) (pv 4) rfl) (pe_op op_addA pe_str (pv 2)) (pv 2))))))))), rd_law_title vs H Q E h⟩
theorem cs_law_title_1 (T : Txt K w mg) : CallOk P w K mg base CX0 3 "_law_title" 1 [] (sp_law_title K) (fun vs zs => pick .non [0] (vs ++ zs)) := by
  obtain ⟨fd, F, G⟩ := ok_law_title (P := P) (w := w) (base := base) T
  obtain ⟨g, kb⟩ := kb0 (ps := ["m"]) F 1 [] [0] fun kV doc pm an cdv ct us ws h1 h2 => match us, ws, h1, h2 with | [_], [], _, _ => rfl
  exact ⟨⟨fd, _, g, G, kb⟩, T.g_law_title, F.kp⟩
theorem sc_law_drawn_step : FnScope ["m", "work", "one", "two", "first", "last"] ["m"] (defScope (topS 31)) := ⟨rfl, rfl, rfl, by decide +kernel, rfl, by decide +kernel, by decide +kernel⟩
theorem ok_law_drawn_step (T : Txt K w mg) : ∃ fd, FnP K "_law_drawn_step" "_law_drawn_step" (topS 31) [] (He.ga K "_law_drawn_step") fd ∧ FnG P w K mg base CX0 3 (He.ga K "_law_drawn_step") fd ["m"] (sp_law_drawn_step K) := by
  obtain ⟨fd, F⟩ := T.d_law_drawn_step
  refine ⟨fd, F, fnG_of (sp := sp_law_drawn_step K) F sc_law_drawn_step (fun vs H Q E h => h.1) fun cdv A outer s H vs Q E hr hg h => ?_⟩
  have hu := hu_of hr
  have nd := sc_law_drawn_step.nd
  exact ⟨t_law_drawn_step K, PSs.nox ((pss_cons (ps_par3 rfl nd (i := 1) (j := 2) (l := 3) rfl rfl rfl (by decide) (by decide) (by decide) rfl rfl rfl (pa_cons (pe_ca (cs_law_draw_2 T) hr (by decide) hg rfl pass0 (pa_cons (pv 0) (pa_cons pe_int pa_nil)) pk_nil) (pa_cons (pe_ca (cs_law_draw_2 T) hr (by decide) hg rfl pass0 (pa_cons (pv 0) (pa_cons pe_int pa_nil)) pk_nil) (pa_cons (pe_ca (cs_law_draw_2 T) hr (by decide) hg rfl pass0 (pa_cons (pv 0) (pa_cons pe_int pa_nil)) pk_nil) pa_nil))) (by rfl))
    (pss_cons (ps_set (i := 4) nd rfl (Or.inl rfl) (pe_ix ix_seq (pe_lst (pa_cons (pe_op op_addA pe_int (pe_ca (cs_law_draw_2 T) hr (by decide) hg rfl pass0 (pa_cons (pv 0) (pa_cons pe_int pa_nil)) pk_nil)) (pa_cons (pe_op op_addA pe_int (pe_ca (cs_law_draw_2 T) hr (by decide) hg rfl pass0 (pa_cons (pv 0) (pa_cons pe_int pa_nil)) pk_nil)) (pa_cons pe_int (pa_cons pe_int pa_nil))))) (pv 2) (fun _ _ => rfl)))
    (pss_cons (ps_set (i := 5) nd rfl (Or.inl rfl) (pe_ix ix_seq (pe_lst (pa_cons (pe_ca (cs_law_draw_2 T) hr (by decide) hg rfl pass0 (pa_cons (pv 0) (pa_cons pe_int pa_nil)) pk_nil) (pa_cons (pe_ca (cs_law_draw_2 T) hr (by decide) hg rfl pass0 (pa_cons (pv 0) (pa_cons pe_int pa_nil)) pk_nil) (pa_cons pe_int (pa_cons pe_int pa_nil))))) (pv 3) (fun _ _ => rfl)))
    (pss_one (ps_ret (pe_tup (pa_cons (pe_ix ix_seq (pe_lst (pa_cons pe_str (pa_cons pe_str (pa_cons pe_str (pa_cons pe_str (pa_cons pe_str pa_nil)))))) (pv 1) (fun _ _ => rfl)) (pa_cons (pv 4) (pa_cons (pv 5) pa_nil)))))))))), rd_law_drawn_step vs H Q E h⟩
theorem cs_law_drawn_step_1 (T : Txt K w mg) : CallOk P w K mg base CX0 3 "_law_drawn_step" 1 [] (sp_law_drawn_step K) (fun vs zs => pick .non [0] (vs ++ zs)) := by
  obtain ⟨fd, F, G⟩ := ok_law_drawn_step (P := P) (w := w) (base := base) T
  obtain ⟨g, kb⟩ := kb0 (ps := ["m"]) F 1 [] [0] fun kV doc pm an cdv ct us ws h1 h2 => match us, ws, h1, h2 with | [_], [], _, _ => rfl
  exact ⟨⟨fd, _, g, G, kb⟩, T.g_law_drawn_step, F.kp⟩
theorem sc_law_plain_job : FnScope ["m", "plains", "few", "figure", "came", "end"] ["m", "plains", "few"] (defScope (topS 34)) := ⟨rfl, rfl, rfl, by decide +kernel, rfl, by decide +kernel, by decide +kernel⟩
theorem ok_law_plain_job (T : Txt K w mg) : ∃ fd, FnP K "_law_plain_job" "_law_plain_job" (topS 34) [] (He.ga K "_law_plain_job") fd ∧ FnG P w K mg base CX0 3 (He.ga K "_law_plain_job") fd ["m", "plains", "few"] (sp_law_plain_job K) := by
  obtain ⟨fd, F⟩ := T.d_law_plain_job
  refine ⟨fd, F, fnG_of (sp := sp_law_plain_job K) F sc_law_plain_job (fun vs H Q E h => h.1) fun cdv A outer s H vs Q E hr hg h => ?_⟩
  have hu := hu_of hr
  have nd := sc_law_plain_job.nd
  exact ⟨t_law_plain_job K, PSs.nox ((pss_cons (ps_set (i := 3) nd rfl (Or.inl rfl) (pe_op op_addA pe_int (pe_ca (cs_law_draw_2 T) hr (by decide) hg rfl pass0 (pa_cons (pv 0) (pa_cons (pv 2) pa_nil)) pk_nil)))
    (pss_cons (ps_set (i := 4) nd rfl (Or.inl rfl) (pe_ca (cs_law_draw_2 T) hr (by decide) hg rfl pass0 (pa_cons (pv 0) (pa_cons (pe_ix ix_seq (pe_lst (pa_cons pe_int (pa_cons pe_int (pa_cons (pe_op op_sub (pe_op op_pow pe_int pe_int) pe_int) pa_nil)))) (pe_ca (cs_law_draw_2 T) hr (by decide) hg rfl pass0 (pa_cons (pv 0) (pa_cons pe_int pa_nil)) pk_nil) (fun _ _ => rfl)) pa_nil)) pk_nil))
    (pss_cons (ps_if (pt_cmpR (op_eqA hr) (pe_ca (cs_law_draw_2 T) hr (by decide) hg rfl pass0 (pa_cons (pv 0) (pa_cons pe_int pa_nil)) pk_nil) pe_int (nobehind _ (by decide) (by decide))) (pss_one (ps_set (i := 4) nd rfl (Or.inl rfl) (pe_op op_sub (pe_op op_pow pe_int pe_int) (pe_ca (cs_law_draw_2 T) hr (by decide) hg rfl pass0 (pa_cons (pv 0) (pa_cons pe_int pa_nil)) pk_nil)))) pss_nil)
    (pss_cons (ps_set (i := 5) nd rfl (Or.inl rfl) (pe_callB (cl_min2 rfl) (by rfl) T.z_min (by decide +kernel) (pa_cons (pe_op op_pow pe_int pe_int) (pa_cons (pe_op op_addA (pv 4) (pe_ca (cs_law_draw_2 T) hr (by decide) hg rfl pass0 (pa_cons (pv 0) (pa_cons (pe_ix ix_seq (pe_lst (pa_cons pe_int (pa_cons pe_int (pa_cons pe_int pa_nil)))) (pe_ca (cs_law_draw_2 T) hr (by decide) hg rfl pass0 (pa_cons (pv 0) (pa_cons pe_int pa_nil)) pk_nil) (fun _ _ => rfl)) pa_nil)) pk_nil)) pa_nil))))
    (pss_one (ps_ret (pe_tup (pa_cons (pv 3) (pa_cons (pe_ix ix_seq (pv 1) (pe_ca (cs_law_draw_2 T) hr (by decide) hg rfl pass0 (pa_cons (pv 0) (pa_cons (pe_callB cl_len (by rfl) T.z_len PySem.boot_len (pa_cons (pv 1) pa_nil)) pa_nil)) pk_nil) (fun _ _ => rfl)) (pa_cons (pv 4) (pa_cons (pv 5) (pa_cons (pe_cmpR (op_eqA hr) (pe_ca (cs_law_draw_2 T) hr (by decide) hg rfl pass0 (pa_cons (pv 0) (pa_cons pe_int pa_nil)) pk_nil) pe_int (nobehind _ (by decide) (by decide))) pa_nil))))))))))))), rd_law_plain_job vs H Q E h⟩
theorem cs_law_plain_job_3 (T : Txt K w mg) : CallOk P w K mg base CX0 3 "_law_plain_job" 3 [] (sp_law_plain_job K) (fun vs zs => pick .non [0, 1, 2] (vs ++ zs)) := by
  obtain ⟨fd, F, G⟩ := ok_law_plain_job (P := P) (w := w) (base := base) T
  obtain ⟨g, kb⟩ := kb0 (ps := ["m", "plains", "few"]) F 3 [] [0, 1, 2] fun kV doc pm an cdv ct us ws h1 h2 => match us, ws, h1, h2 with | [_, _, _], [], _, _ => rfl
  exact ⟨⟨fd, _, g, G, kb⟩, T.g_law_plain_job, F.kp⟩
theorem sc_law_named : FnScope ["plains", "found", "word", "plain"] ["plains"] (defScope (topS 40)) := ⟨rfl, rfl, rfl, by decide +kernel, rfl, by decide +kernel, by decide +kernel⟩
theorem ok_law_named (T : Txt K w mg) : ∃ fd, FnP K "_law_named" "_law_named" (topS 40) [] (He.ga K "_law_named") fd ∧ FnG P w K mg base CX0 3 (He.ga K "_law_named") fd ["plains"] (sp_law_named K) := by
  obtain ⟨fd, F⟩ := T.d_law_named
  refine ⟨fd, F, fnG_of (sp := sp_law_named K) F sc_law_named (fun vs H Q E h => h.1) fun cdv A outer s H vs Q E hr hg h => ?_⟩
  have hu := hu_of hr
  have nd := sc_law_named.nd
  exact ⟨t_law_named K, PSs.nox ((pss_cons (ps_set (i := 1) nd rfl (Or.inl rfl) (pe_lst pa_nil))
    (pss_cons (ps_for PassesOwn.never rfl (pi_any (pe_sortedSet rfl hr (by rfl) T.z_sorted (by rfl) T.z_set (pe_lc (own := [("plain", 3)]) rfl nd (pi_any (pv 0)) (blkOk_by (by first | decide +kernel | kernel_rfl)) (fun _ _ _ _ _ => (pg_name (i := 3) nd rfl (Or.inl rfl))) (fun _ _ _ _ _ => pts_nil) (fun _ _ _ _ _ => (pe_ix ix_seq (pe_ix ix_seq (pv 3) pe_int (fun _ _ => rfl)) pe_int (fun _ _ => rfl)))))) (pg_name (i := 2) nd rfl (Or.inr rfl))
    (pss_one (ps_expr (pe_bm PySem.F.plainAttrs_list PySem.F.slot_list_append PySem.F.type_list_append mt_append (pv 1) (pa_cons (pe_tup (pa_cons (pv 2) (pa_cons (pe_sortedSet rfl hr (by rfl) T.z_sorted (by rfl) T.z_set (pe_lc (own := [("plain", 3)]) rfl nd (pi_any (pv 0)) (blkOk_by (by first | decide +kernel | kernel_rfl)) (fun _ _ _ _ _ => (pg_name (i := 3) nd rfl (Or.inl rfl))) (fun _ _ _ _ _ => (pts_one (pt_cmpR (op_eqA hr) (pe_ix ix_seq (pe_ix ix_seq (pv 3) pe_int (fun _ _ => rfl)) pe_int (fun _ _ => rfl)) (pv 2) (nobehind _ (by decide) (by decide))))) (fun _ _ _ _ _ => (pe_ix ix_seq (pv 3) pe_int (fun _ _ => rfl))))) pa_nil))) pa_nil)))))
    (pss_one (ps_ret (pv 1)))))), rd_law_named vs H Q E h⟩
theorem cs_law_named_1 (T : Txt K w mg) : CallOk P w K mg base CX0 3 "_law_named" 1 [] (sp_law_named K) (fun vs zs => pick .non [0] (vs ++ zs)) := by
  obtain ⟨fd, F, G⟩ := ok_law_named (P := P) (w := w) (base := base) T
  obtain ⟨g, kb⟩ := kb0 (ps := ["plains"]) F 1 [] [0] fun kV doc pm an cdv ct us ws h1 h2 => match us, ws, h1, h2 with | [_], [], _, _ => rfl
  exact ⟨⟨fd, _, g, G, kb⟩, T.g_law_named, F.kp⟩
theorem sc_Style_init : FnScope ["self", "name", "steps"] ["self", "name", "steps"] (defScope (inClass (topS 19) 0)) := ⟨rfl, rfl, rfl, by decide +kernel, rfl, by decide +kernel, by decide +kernel⟩
theorem ok_Style_init (T : Txt K w mg) : ∃ fd, FnP K "__init__" "Style.__init__" (inClass (topS 19) 0) [] (He.ma K (He.ga K "Style") "__init__") fd ∧ FnG P w K mg base CX0 4 (He.ma K (He.ga K "Style") "__init__") fd ["self", "name", "steps"] (sp_Style_init K) := by
  obtain ⟨fd, F⟩ := T.d_Style_init
  refine ⟨fd, F, fnG_of (sp := sp_Style_init K) F sc_Style_init (fun vs H Q E h => h.1) fun cdv A outer s H vs Q E hr hg h => ?_⟩
  have hu := hu_of hr
  have nd := sc_Style_init.nd
  exact ⟨t_Style_init K, PSs.nox ((pss_cons (ps_if (pt_not (pt_tr (pe_ca (cs_is_name_1 T) hr (by decide) hg rfl pass0 (pa_cons (pv 1) pa_nil) pk_nil))) (pss_one ps_no) pss_nil)
    (pss_cons (ps_if (pt_not (pt_tr (pe_ca (cs_are_steps_1 T) hr (by decide) hg rfl pass0 (pa_cons (pv 2) pa_nil) pk_nil))) (pss_one ps_no) pss_nil)
    (pss_cons (ps_fld (pv 0) (pv 1) rfl)
    (pss_one (ps_fld (pv 0) (pe_callTy cl_listOf (by rfl) T.z_list (by decide +kernel) (pa_cons (pv 2) pa_nil)) rfl)))))), rd_Style_init (styleC T) vs H Q E h⟩
theorem cs_Style_init_2 (T : Txt K w mg) : MakeOk P w K mg base CX0 4 "Style" 2 [] (sp_Style_init K) (fun vs zs => pick .non [0, 1, 2] (vs ++ zs)) := by
  obtain ⟨fd, F, G⟩ := ok_Style_init (P := P) (w := w) (base := base) T
  obtain ⟨g, kb⟩ := kb0 (ps := ["self", "name", "steps"]) F 3 [] [0, 1, 2] fun kV doc pm an cdv ct us ws h1 h2 => match us, ws, h1, h2 with | [_, _, _], [], _, _ => rfl
  exact ⟨⟨_, fd, _, g, T.mk_Style, G, kb⟩, T.g_Style⟩
theorem sc_law_drawn_steps : FnScope ["m", "top", "some", "many", "found", "k", "again"] ["m", "top"] (defScope (topS 32)) := ⟨rfl, rfl, rfl, by decide +kernel, rfl, by decide +kernel, by decide +kernel⟩
theorem ok_law_drawn_steps (T : Txt K w mg) : ∃ fd, FnP K "_law_drawn_steps" "_law_drawn_steps" (topS 32) [] (He.ga K "_law_drawn_steps") fd ∧ FnG P w K mg base CX0 4 (He.ga K "_law_drawn_steps") fd ["m", "top"] (sp_law_drawn_steps K) := by
  obtain ⟨fd, F⟩ := T.d_law_drawn_steps
  refine ⟨fd, F, fnG_of (sp := sp_law_drawn_steps K) F sc_law_drawn_steps (fun vs H Q E h => h.1) fun cdv A outer s H vs Q E hr hg h => ?_⟩
  have hu := hu_of hr
  have nd := sc_law_drawn_steps.nd
  exact ⟨t_law_drawn_steps K, PSs.nox ((pss_cons (ps_set (i := 2) nd rfl (Or.inl rfl) (pe_ca (cs_law_draw_2 T) hr (by decide) hg rfl pass0 (pa_cons (pv 0) (pa_cons pe_int pa_nil)) pk_nil))
    (pss_cons (ps_set (i := 3) nd rfl (Or.inl rfl) (pe_ix ix_seq (pe_lst (pa_cons (pe_op op_addA pe_int (pe_ca (cs_law_draw_2 T) hr (by decide) hg rfl pass0 (pa_cons (pv 0) (pa_cons (pv 1) pa_nil)) pk_nil)) (pa_cons (pe_callB (cl_min2 rfl) (by rfl) T.z_min (by decide +kernel) (pa_cons (pv 1) (pa_cons (pe_op op_addA pe_int (pe_ca (cs_law_draw_2 T) hr (by decide) hg rfl pass0 (pa_cons (pv 0) (pa_cons pe_int pa_nil)) pk_nil)) pa_nil))) (pa_cons (pv 1) pa_nil)))) (pv 2) (fun _ _ => rfl)))
    (pss_cons (ps_set (i := 4) nd rfl (Or.inl rfl) (pe_lst (pa_cons (pe_ca (cs_law_drawn_step_1 T) hr (by decide) hg rfl pass0 (pa_cons (pv 0) pa_nil) pk_nil) pa_nil)))
    (pss_cons (ps_for PassesOwn.never rfl (pi_range1 (by rfl) T.z_range (pa_cons (pe_op op_sub (pv 3) pe_int) pa_nil)) (pg_name (i := 5) nd rfl (Or.inl rfl))
    (pss_cons (ps_set (i := 6) nd rfl (Or.inl rfl) (pe_cmpR (op_eqA hr) (pe_ca (cs_law_draw_2 T) hr (by decide) hg rfl pass0 (pa_cons (pv 0) (pa_cons pe_int pa_nil)) pk_nil) pe_int (nobehind _ (by decide) (by decide))))
    (pss_one (ps_expr (pe_bm PySem.F.plainAttrs_list PySem.F.slot_list_append PySem.F.type_list_append mt_append (pv 4) (pa_cons (pe_ifExp (pt_tr (pv 6)) (pe_ix ix_seq (pv 4) (pe_ca (cs_law_draw_2 T) hr (by decide) hg rfl pass0 (pa_cons (pv 0) (pa_cons (pe_callB cl_len (by rfl) T.z_len PySem.boot_len (pa_cons (pv 4) pa_nil)) pa_nil)) pk_nil) (fun _ _ => rfl)) (pe_ca (cs_law_drawn_step_1 T) hr (by decide) hg rfl pass0 (pa_cons (pv 0) pa_nil) pk_nil)) pa_nil))))))
    (pss_one (ps_ret (pv 4)))))))), rd_law_drawn_steps vs H Q E h⟩
theorem cs_law_drawn_steps_2 (T : Txt K w mg) : CallOk P w K mg base CX0 4 "_law_drawn_steps" 2 [] (sp_law_drawn_steps K) (fun vs zs => pick .non [0, 1] (vs ++ zs)) := by
  obtain ⟨fd, F, G⟩ := ok_law_drawn_steps (P := P) (w := w) (base := base) T
  obtain ⟨g, kb⟩ := kb0 (ps := ["m", "top"]) F 2 [] [0, 1] fun kV doc pm an cdv ct us ws h1 h2 => match us, ws, h1, h2 with | [_, _], [], _, _ => rfl
  exact ⟨⟨fd, _, g, G, kb⟩, T.g_law_drawn_steps, F.kp⟩
theorem sc_law_plain_jobs : FnScope ["m", "plains", "top", "few", "found", "k", "again"] ["m", "plains", "top"] (defScope (topS 35)) := ⟨rfl, rfl, rfl, by decide +kernel, rfl, by decide +kernel, by decide +kernel⟩
theorem ok_law_plain_jobs (T : Txt K w mg) : ∃ fd, FnP K "_law_plain_jobs" "_law_plain_jobs" (topS 35) [] (He.ga K "_law_plain_jobs") fd ∧ FnG P w K mg base CX0 4 (He.ga K "_law_plain_jobs") fd ["m", "plains", "top"] (sp_law_plain_jobs K) := by
  obtain ⟨fd, F⟩ := T.d_law_plain_jobs
  refine ⟨fd, F, fnG_of (sp := sp_law_plain_jobs K) F sc_law_plain_jobs (fun vs H Q E h => h.1) fun cdv A outer s H vs Q E hr hg h => ?_⟩
  have hu := hu_of hr
  have nd := sc_law_plain_jobs.nd
  exact ⟨t_law_plain_jobs K, PSs.nox ((pss_cons (ps_set (i := 3) nd rfl (Or.inl rfl) (pe_ix ix_seq (pe_lst (pa_cons pe_int (pa_cons pe_int (pa_cons pe_int pa_nil)))) (pe_ca (cs_law_draw_2 T) hr (by decide) hg rfl pass0 (pa_cons (pv 0) (pa_cons pe_int pa_nil)) pk_nil) (fun _ _ => rfl)))
    (pss_cons (ps_set (i := 4) nd rfl (Or.inl rfl) (pe_lst pa_nil))
    (pss_cons (ps_for PassesOwn.never rfl (pi_range1 (by rfl) T.z_range (pa_cons (pe_ca (cs_law_draw_2 T) hr (by decide) hg rfl pass0 (pa_cons (pv 0) (pa_cons (pe_op op_addA (pv 2) pe_int) pa_nil)) pk_nil) pa_nil)) (pg_name (i := 5) nd rfl (Or.inl rfl))
    (pss_cons (ps_set (i := 6) nd rfl (Or.inl rfl) (pe_and (pe_cmpR (op_neA hr) (pv 4) (pe_lst pa_nil) (nobehind _ (by decide) (by decide))) (pe_one (pe_cmpR (op_eqA hr) (pe_ca (cs_law_draw_2 T) hr (by decide) hg rfl pass0 (pa_cons (pv 0) (pa_cons pe_int pa_nil)) pk_nil) pe_int (nobehind _ (by decide) (by decide))))))
    (pss_one (ps_expr (pe_bm PySem.F.plainAttrs_list PySem.F.slot_list_append PySem.F.type_list_append mt_append (pv 4) (pa_cons (pe_ifExp (pt_tr (pv 6)) (pe_ix ix_seq (pv 4) (pe_ca (cs_law_draw_2 T) hr (by decide) hg rfl pass0 (pa_cons (pv 0) (pa_cons (pe_callB cl_len (by rfl) T.z_len PySem.boot_len (pa_cons (pv 4) pa_nil)) pa_nil)) pk_nil) (fun _ _ => rfl)) (pe_ca (cs_law_plain_job_3 T) hr (by decide) hg rfl pass0 (pa_cons (pv 0) (pa_cons (pv 1) (pa_cons (pv 3) pa_nil))) pk_nil)) pa_nil))))))
    (pss_one (ps_ret (pv 4))))))), rd_law_plain_jobs vs H Q E h⟩
theorem cs_law_plain_jobs_3 (T : Txt K w mg) : CallOk P w K mg base CX0 4 "_law_plain_jobs" 3 [] (sp_law_plain_jobs K) (fun vs zs => pick .non [0, 1, 2] (vs ++ zs)) := by
  obtain ⟨fd, F, G⟩ := ok_law_plain_jobs (P := P) (w := w) (base := base) T
  obtain ⟨g, kb⟩ := kb0 (ps := ["m", "plains", "top"]) F 3 [] [0, 1, 2] fun kV doc pm an cdv ct us ws h1 h2 => match us, ws, h1, h2 with | [_, _, _], [], _, _ => rfl
  exact ⟨⟨fd, _, g, G, kb⟩, T.g_law_plain_jobs, F.kp⟩
theorem sc_law_answers_right : FnScope ["told", "plains", "owed", "job"] ["told", "plains"] (defScope (topS 42)) := ⟨rfl, rfl, rfl, by decide +kernel, rfl, by decide +kernel, by decide +kernel⟩
theorem ok_law_answers_right (T : Txt K w mg) : ∃ fd, FnP K "_law_answers_right" "_law_answers_right" (topS 42) [] (He.ga K "_law_answers_right") fd ∧ FnG P w K mg base CX0 4 (He.ga K "_law_answers_right") fd ["told", "plains"] (sp_law_answers_right K) := by
  obtain ⟨fd, F⟩ := T.d_law_answers_right
  refine ⟨fd, F, fnG_of (sp := sp_law_answers_right K) F sc_law_answers_right (fun vs H Q E h => h.1) fun cdv A outer s H vs Q E hr hg h => ?_⟩
  have hu := hu_of hr
  have nd := sc_law_answers_right.nd
  exact ⟨t_law_answers_right K, PSs.nox ((pss_cons (ps_set (i := 2) nd rfl (Or.inl rfl) (pe_ca (cs_law_ordered_1 T) hr (by decide) hg rfl pass0 (pa_cons (pv 1) pa_nil) pk_nil))
    (pss_cons (ps_if (PW.pt (pw_or (pt_not (pt_tr (pe_callB call_isi (by rfl) T.z_isinstance (by decide +kernel) (pa_cons (pe_ix ix_seq (pv 0) pe_int (fun _ _ => rfl)) (pa_cons (pe_bltn (v := .ty "list") (by rfl) T.z_list (by decide +kernel) rfl) pa_nil))))) (pw_or1 (pt_cmpR (op_neA hr) (pe_callB (call_repr hr hg) (by rfl) T.z_repr (by decide +kernel) (pa_cons (pe_lc (own := [("job", 3)]) rfl nd (pi_any (pe_ix ix_seq (pv 0) pe_int (fun _ _ => rfl))) (blkOk_by (by first | decide +kernel | kernel_rfl)) (fun _ _ _ _ _ => (pg_name (i := 3) nd rfl (Or.inl rfl))) (fun _ _ _ _ _ => pts_nil) (fun _ _ _ _ _ => (pe_ca (cs_law_plain_1 T) hr (by decide) hg rfl pass0 (pa_cons (pv 3) pa_nil) pk_nil))) pa_nil)) (pe_callB (call_repr hr hg) (by rfl) T.z_repr (by decide +kernel) (pa_cons (pv 2) pa_nil)) (nobehind _ (by decide) (by decide)))))) (pss_one (ps_ret pe_bl)) pss_nil)
    (pss_cons (ps_if (PW.pt (pw_or (PW.pt (pw_and (pt_cmpR (op_eqA hr) (pv 2) (pe_lst pa_nil) (nobehind _ (by decide) (by decide))) (pw_and1 (pt_cmpR op_noNo (pe_ix ix_seq (pv 0) pe_int (fun _ _ => rfl)) pe_non (nobehind _ (by decide) (by decide)))))) (pw_or1 (PW.pt (pw_and (pt_cmpR (op_neA hr) (pv 2) (pe_lst pa_nil) (nobehind _ (by decide) (by decide))) (pw_and1 (pt_cmpR (op_neA hr) (pe_callB (call_repr hr hg) (by rfl) T.z_repr (by decide +kernel) (pa_cons (pe_ca (cs_law_plain_1 T) hr (by decide) hg rfl pass0 (pa_cons (pe_ix ix_seq (pv 0) pe_int (fun _ _ => rfl)) pa_nil) pk_nil) pa_nil)) (pe_callB (call_repr hr hg) (by rfl) T.z_repr (by decide +kernel) (pa_cons (pe_ix ix_seq (pv 2) pe_int (fun _ _ => rfl)) pa_nil)) (nobehind _ (by decide) (by decide))))))))) (pss_one (ps_ret pe_bl)) pss_nil)
    (pss_one (ps_ret (pe_cmpR (op_eqA hr) (pe_callB (call_repr hr hg) (by rfl) T.z_repr (by decide +kernel) (pa_cons (pe_ix ix_seq (pv 0) pe_int (fun _ _ => rfl)) pa_nil)) (pe_callB (call_repr hr hg) (by rfl) T.z_repr (by decide +kernel) (pa_cons (pe_ca (cs_law_named_1 T) hr (by decide) hg rfl pass0 (pa_cons (pv 1) pa_nil) pk_nil) pa_nil)) (nobehind _ (by decide) (by decide))))))))), rd_law_answers_right vs H Q E h⟩
theorem cs_law_answers_right_2 (T : Txt K w mg) : CallOk P w K mg base CX0 4 "_law_answers_right" 2 [] (sp_law_answers_right K) (fun vs zs => pick .non [0, 1] (vs ++ zs)) := by
  obtain ⟨fd, F, G⟩ := ok_law_answers_right (P := P) (w := w) (base := base) T
  obtain ⟨g, kb⟩ := kb0 (ps := ["told", "plains"]) F 2 [] [0, 1] fun kV doc pm an cdv ct us ws h1 h2 => match us, ws, h1, h2 with | [_, _], [], _, _ => rfl
  exact ⟨⟨fd, _, g, G, kb⟩, T.g_law_answers_right, F.kp⟩
theorem sc_by_rank : FnScope ["jobs"] ["jobs"] (defScope (topS 22)) := ⟨rfl, rfl, rfl, by decide +kernel, rfl, by decide +kernel, by decide +kernel⟩
theorem ok_by_rank (T : Txt K w mg) : ∃ fd, FnP K "by_rank" "by_rank" (topS 22) [] (He.ga K "by_rank") fd ∧ FnG P w K mg base CX0 5 (He.ga K "by_rank") fd ["jobs"] (sp_by_rank K) := by
  obtain ⟨fd, F⟩ := T.d_by_rank
  refine ⟨fd, F, fnG_of (sp := sp_by_rank K) F sc_by_rank (fun vs H Q E h => h.1) fun cdv A outer s H vs Q E hr hg h => ?_⟩
  have hu := hu_of hr
  have nd := sc_by_rank.nd
  exact ⟨t_by_rank K, PSs.nox ((pss_one (ps_ret (pe_callBK (ck_sortKey (cs_rank_of_1 T) hr (by decide) hg fun _ => pass0) (by rfl) T.z_sorted (by decide +kernel) (pa_cons (pv 0) pa_nil) (pk_cons (pe_gR T.g_rank_of) pk_nil))))), rd_by_rank vs H Q E h⟩
theorem cs_by_rank_1 (T : Txt K w mg) : CallOk P w K mg base CX0 5 "by_rank" 1 [] (sp_by_rank K) (fun vs zs => pick .non [0] (vs ++ zs)) := by
  obtain ⟨fd, F, G⟩ := ok_by_rank (P := P) (w := w) (base := base) T
  obtain ⟨g, kb⟩ := kb0 (ps := ["jobs"]) F 1 [] [0] fun kV doc pm an cdv ct us ws h1 h2 => match us, ws, h1, h2 with | [_], [], _, _ => rfl
  exact ⟨⟨fd, _, g, G, kb⟩, T.g_by_rank, F.kp⟩
theorem cs_by_rank_0_jobs (T : Txt K w mg) : CallOk P w K mg base CX0 5 "by_rank" 0 ["jobs"] (sp_by_rank K) (fun vs zs => pick .non [0] (vs ++ zs)) := by
  obtain ⟨fd, F, G⟩ := ok_by_rank (P := P) (w := w) (base := base) T
  obtain ⟨g, kb⟩ := kb0 (ps := ["jobs"]) F 0 ["jobs"] [0] fun kV doc pm an cdv ct us ws h1 h2 => match us, ws, h1, h2 with | [], [_], _, _ => rfl
  exact ⟨⟨fd, _, g, G, kb⟩, T.g_by_rank, F.kp⟩
theorem sc_first_of : FnScope ["jobs"] ["jobs"] (defScope (topS 23)) := ⟨rfl, rfl, rfl, by decide +kernel, rfl, by decide +kernel, by decide +kernel⟩
theorem ok_first_of (T : Txt K w mg) : ∃ fd, FnP K "first_of" "first_of" (topS 23) [] (He.ga K "first_of") fd ∧ FnG P w K mg base CX0 5 (He.ga K "first_of") fd ["jobs"] (sp_first_of K) := by
  obtain ⟨fd, F⟩ := T.d_first_of
  refine ⟨fd, F, fnG_of (sp := sp_first_of K) F sc_first_of (fun vs H Q E h => h.1) fun cdv A outer s H vs Q E hr hg h => ?_⟩
  have hu := hu_of hr
  have nd := sc_first_of.nd
  exact ⟨t_first_of K, PSs.nox ((pss_one (ps_ret (pe_callBK (ck_minKeyD rfl (cs_rank_of_1 T) hr (by decide) hg fun _ => pass0) (by rfl) T.z_min (by decide +kernel) (pa_cons (pv 0) pa_nil) (pk_cons (pe_gR T.g_rank_of) (pk_cons pe_non pk_nil)))))), rd_first_of vs H Q E h⟩
theorem cs_first_of_1 (T : Txt K w mg) : CallOk P w K mg base CX0 5 "first_of" 1 [] (sp_first_of K) (fun vs zs => pick .non [0] (vs ++ zs)) := by
  obtain ⟨fd, F, G⟩ := ok_first_of (P := P) (w := w) (base := base) T
  obtain ⟨g, kb⟩ := kb0 (ps := ["jobs"]) F 1 [] [0] fun kV doc pm an cdv ct us ws h1 h2 => match us, ws, h1, h2 with | [_], [], _, _ => rfl
  exact ⟨⟨fd, _, g, G, kb⟩, T.g_first_of, F.kp⟩
theorem cs_first_of_0_jobs (T : Txt K w mg) : CallOk P w K mg base CX0 5 "first_of" 0 ["jobs"] (sp_first_of K) (fun vs zs => pick .non [0] (vs ++ zs)) := by
  obtain ⟨fd, F, G⟩ := ok_first_of (P := P) (w := w) (base := base) T
  obtain ⟨g, kb⟩ := kb0 (ps := ["jobs"]) F 0 ["jobs"] [0] fun kV doc pm an cdv ct us ws h1 h2 => match us, ws, h1, h2 with | [], [_], _, _ => rfl
  exact ⟨⟨fd, _, g, G, kb⟩, T.g_first_of, F.kp⟩
theorem sc_law_kinds : FnScope ["m", "word", "other", "found"] ["m"] (defScope (topS 33)) := ⟨rfl, rfl, rfl, by decide +kernel, rfl, by decide +kernel, by decide +kernel⟩
theorem ok_law_kinds (T : Txt K w mg) : ∃ fd, FnP K "_law_kinds" "_law_kinds" (topS 33) [] (He.ga K "_law_kinds") fd ∧ FnG P w K mg base CX0 5 (He.ga K "_law_kinds") fd ["m"] (sp_law_kinds K) := by
  obtain ⟨fd, F⟩ := T.d_law_kinds
  refine ⟨fd, F, fnG_of (sp := sp_law_kinds K) F sc_law_kinds (fun vs H Q E h => h.1) fun cdv A outer s H vs Q E hr hg h => ?_⟩
  have hu := hu_of hr
  have nd := sc_law_kinds.nd
  exact ⟨t_law_kinds K, PSs.nox ((pss_cons (ps_par rfl nd (i := 1) (j := 2) rfl rfl (by decide) rfl rfl (pa_cons (pe_ca (cs_law_title_1 T) hr (by decide) hg rfl pass0 (pa_cons (pv 0) pa_nil) pk_nil) (pa_cons (pe_ca (cs_law_title_1 T) hr (by decide) hg rfl pass0 (pa_cons (pv 0) pa_nil) pk_nil) pa_nil)) (by rfl))
    (pss_cons (ps_set (i := 3) nd rfl (Or.inl rfl) (pe_lst (pa_cons (pe_tup (pa_cons (pv 1) (pa_cons (pe_ca (cs_law_drawn_steps_2 T) hr (by decide) hg rfl pass0 (pa_cons (pv 0) (pa_cons pe_int pa_nil)) pk_nil) pa_nil))) (pa_cons (pe_tup (pa_cons (pv 1) (pa_cons (pe_ca (cs_law_drawn_steps_2 T) hr (by decide) hg rfl pass0 (pa_cons (pv 0) (pa_cons pe_int pa_nil)) pk_nil) pa_nil))) (pa_cons (pe_tup (pa_cons (pv 2) (pa_cons (pe_ca (cs_law_drawn_steps_2 T) hr (by decide) hg rfl pass0 (pa_cons (pv 0) (pa_cons pe_int pa_nil)) pk_nil) pa_nil))) pa_nil)))))
    (pss_cons (ps_expr (pe_bm PySem.F.plainAttrs_list PySem.F.slot_list_append PySem.F.type_list_append mt_append (pv 3) (pa_cons (pe_tup (pa_cons (pe_ca (cs_law_title_1 T) hr (by decide) hg rfl pass0 (pa_cons (pv 0) pa_nil) pk_nil) (pa_cons (pe_ix ix_seq (pe_ix ix_seq (pv 3) pe_int (fun _ _ => rfl)) pe_int (fun _ _ => rfl)) pa_nil))) pa_nil)))
    (pss_cons (ps_if (pt_cmpR op_lt (pe_callB cl_len (by rfl) T.z_len PySem.boot_len (pa_cons (pv 1) pa_nil)) pe_int (nobehind _ (by decide) (by decide))) (pss_one (ps_expr (pe_bm PySem.F.plainAttrs_list PySem.F.slot_list_append PySem.F.type_list_append mt_append (pv 3) (pa_cons (pe_tup (pa_cons (pe_op op_addA (pv 1) pe_str) (pa_cons (pe_ix ix_seq (pe_ix ix_seq (pv 3) pe_int (fun _ _ => rfl)) pe_int (fun _ _ => rfl)) pa_nil))) pa_nil)))) pss_nil)
    (pss_cons (ps_if (pt_cmpR op_lt (pe_callB cl_len (by rfl) T.z_len PySem.boot_len (pa_cons (pv 2) pa_nil)) pe_int (nobehind _ (by decide) (by decide))) (pss_one (ps_expr (pe_bm PySem.F.plainAttrs_list PySem.F.slot_list_append PySem.F.type_list_append mt_append (pv 3) (pa_cons (pe_tup (pa_cons (pe_op op_addA (pv 2) pe_str) (pa_cons (pe_ix ix_seq (pe_ix ix_seq (pv 3) pe_int (fun _ _ => rfl)) pe_int (fun _ _ => rfl)) pa_nil))) pa_nil)))) pss_nil)
    (pss_one (ps_ret (pv 3))))))))), rd_law_kinds vs H Q E h⟩
theorem cs_law_kinds_1 (T : Txt K w mg) : CallOk P w K mg base CX0 5 "_law_kinds" 1 [] (sp_law_kinds K) (fun vs zs => pick .non [0] (vs ++ zs)) := by
  obtain ⟨fd, F, G⟩ := ok_law_kinds (P := P) (w := w) (base := base) T
  obtain ⟨g, kb⟩ := kb0 (ps := ["m"]) F 1 [] [0] fun kV doc pm an cdv ct us ws h1 h2 => match us, ws, h1, h2 with | [_], [], _, _ => rfl
  exact ⟨⟨fd, _, g, G, kb⟩, T.g_law_kinds, F.kp⟩
theorem sc_law_job : FnScope ["plain"] ["plain"] (defScope (topS 36)) := ⟨rfl, rfl, rfl, by decide +kernel, rfl, by decide +kernel, by decide +kernel⟩
theorem ok_law_job (T : Txt K w mg) : ∃ fd, FnP K "_law_job" "_law_job" (topS 36) [] (He.ga K "_law_job") fd ∧ FnG P w K mg base CX0 6 (He.ga K "_law_job") fd ["plain"] (sp_law_job K) := by
  obtain ⟨fd, F⟩ := T.d_law_job
  refine ⟨fd, F, fnG_of (sp := sp_law_job K) F sc_law_job (fun vs H Q E h => h.1) fun cdv A outer s H vs Q E hr hg h => ?_⟩
  have hu := hu_of hr
  have nd := sc_law_job.nd
  exact ⟨t_law_job K, PSs.nox ((pss_one (ps_ret (pe_mk (cs_Job_init_2_brought_due_haste T) hr (by decide) hg rfl pass0 (pa_cons (pe_ix ix_seq (pv 0) pe_int (fun _ _ => rfl)) (pa_cons (pe_mk (cs_Style_init_2 T) hr (by decide) hg rfl pass0 (pa_cons (pe_ix ix_seq (pe_ix ix_seq (pv 0) pe_int (fun _ _ => rfl)) pe_int (fun _ _ => rfl)) (pa_cons (pe_ix ix_seq (pe_ix ix_seq (pv 0) pe_int (fun _ _ => rfl)) pe_int (fun _ _ => rfl)) pa_nil)) pk_nil) pa_nil)) (pk_cons (pe_ix ix_seq (pv 0) pe_int (fun _ _ => rfl)) (pk_cons (pe_ix ix_seq (pv 0) pe_int (fun _ _ => rfl)) (pk_cons (pe_ix ix_seq (pv 0) pe_int (fun _ _ => rfl)) pk_nil))))))), rd_law_job vs H Q E h⟩
theorem cs_law_job_1 (T : Txt K w mg) : CallOk P w K mg base CX0 6 "_law_job" 1 [] (sp_law_job K) (fun vs zs => pick .non [0] (vs ++ zs)) := by
  obtain ⟨fd, F, G⟩ := ok_law_job (P := P) (w := w) (base := base) T
  obtain ⟨g, kb⟩ := kb0 (ps := ["plain"]) F 1 [] [0] fun kV doc pm an cdv ct us ws h1 h2 => match us, ws, h1, h2 with | [_], [], _, _ => rfl
  exact ⟨⟨fd, _, g, G, kb⟩, T.g_law_job, F.kp⟩
theorem sc_law_asked : FnScope ["way", "row"] ["way", "row"] (defScope (topS 41)) := ⟨rfl, rfl, rfl, by decide +kernel, rfl, by decide +kernel, by decide +kernel⟩
theorem ok_law_asked (T : Txt K w mg) : ∃ fd, FnP K "_law_asked" "_law_asked" (topS 41) [] (He.ga K "_law_asked") fd ∧ FnG P w K mg base CX0 6 (He.ga K "_law_asked") fd ["way", "row"] (sp_law_asked K) := by
  obtain ⟨fd, F⟩ := T.d_law_asked
  refine ⟨fd, F, fnG_of (sp := sp_law_asked K) F sc_law_asked (fun vs H Q E h => h.1) fun cdv A outer s H vs Q E hr hg h => ?_⟩
  have hu := hu_of hr
  have nd := sc_law_asked.nd
  exact ⟨t_law_asked K, PSs.nox ((pss_cons (ps_if (pt_cmpR (op_eqA hr) (pv 0) pe_int (nobehind _ (by decide) (by decide))) (pss_one (ps_ret (pe_lst (pa_cons (pe_ca (cs_by_rank_1 T) hr (by decide) hg rfl pass0 (pa_cons (pv 1) pa_nil) pk_nil) (pa_cons (pe_ca (cs_first_of_1 T) hr (by decide) hg rfl pass0 (pa_cons (pv 1) pa_nil) pk_nil) (pa_cons (pe_ca (cs_by_style_1 T) hr (by decide) hg rfl pass0 (pa_cons (pv 1) pa_nil) pk_nil) pa_nil)))))) pss_nil)
    (pss_one (ps_ret (pe_lst (pa_cons (pe_ca0 (cs_by_rank_0_jobs T) hr (by decide) hg rfl pass0 (pk_cons (pv 1) pk_nil)) (pa_cons (pe_ca0 (cs_first_of_0_jobs T) hr (by decide) hg rfl pass0 (pk_cons (pv 1) pk_nil)) (pa_cons (pe_ca0 (cs_by_style_0_jobs T) hr (by decide) hg rfl pass0 (pk_cons (pv 1) pk_nil)) pa_nil)))))))), rd_law_asked vs H Q E h⟩
theorem cs_law_asked_2 (T : Txt K w mg) : CallOk P w K mg base CX0 6 "_law_asked" 2 [] (sp_law_asked K) (fun vs zs => pick .non [0, 1] (vs ++ zs)) := by
  obtain ⟨fd, F, G⟩ := ok_law_asked (P := P) (w := w) (base := base) T
  obtain ⟨g, kb⟩ := kb0 (ps := ["way", "row"]) F 2 [] [0, 1] fun kV doc pm an cdv ct us ws h1 h2 => match us, ws, h1, h2 with | [_, _], [], _, _ => rfl
  exact ⟨⟨fd, _, g, G, kb⟩, T.g_law_asked, F.kp⟩
theorem sc_law_by_hand_right : FnScope ["calf", "cloth", "row", "job", "k"] [] (defScope (topS 44)) := ⟨rfl, rfl, rfl, by decide +kernel, rfl, by decide +kernel, by decide +kernel⟩
theorem ok_law_by_hand_right (T : Txt K w mg) : ∃ fd, FnP K "_law_by_hand_right" "_law_by_hand_right" (topS 44) [] (He.ga K "_law_by_hand_right") fd ∧ FnG P w K mg base CX0 6 (He.ga K "_law_by_hand_right") fd [] (sp_law_by_hand_right K) := by
  obtain ⟨fd, F⟩ := T.d_law_by_hand_right
  refine ⟨fd, F, fnG_of (sp := sp_law_by_hand_right K) F sc_law_by_hand_right (fun vs H Q E h => h.1) fun cdv A outer s H vs Q E hr hg h => ?_⟩
  have hu := hu_of hr
  have nd := sc_law_by_hand_right.nd
  exact ⟨t_law_by_hand_right K, PSs.nox ((pss_cons (ps_asg (pe_tup (pa_cons (pe_mk (cs_Style_init_2 T) hr (by decide) hg rfl pass0 (pa_cons pe_str (pa_cons (pe_lst (pa_cons (pe_tup (pa_cons pe_str (pa_cons pe_int (pa_cons pe_int pa_nil)))) pa_nil)) pa_nil)) pk_nil) (pa_cons (pe_mk (cs_Style_init_2 T) hr (by decide) hg rfl pass0 (pa_cons pe_str (pa_cons (pe_lst (pa_cons (pe_tup (pa_cons pe_str (pa_cons pe_int (pa_cons pe_int pa_nil)))) pa_nil)) pa_nil)) pk_nil) pa_nil))) (pg_tup rfl (pgs_cons (pg_name (i := 0) nd rfl (Or.inr rfl)) (pgs_cons (pg_name (i := 1) nd rfl (Or.inl rfl)) pgs_nil))))
    (pss_cons (ps_set (i := 2) nd rfl (Or.inl rfl) (pe_lst (pa_cons (pe_mk (cs_Job_init_4 T) hr (by decide) hg rfl pass0 (pa_cons pe_int (pa_cons (pv 0) (pa_cons pe_int (pa_cons pe_int pa_nil)))) pk_nil) (pa_cons (pe_mk (cs_Job_init_4 T) hr (by decide) hg rfl pass0 (pa_cons pe_int (pa_cons (pv 1) (pa_cons pe_int (pa_cons pe_int pa_nil)))) pk_nil) (pa_cons (pe_mk (cs_Job_init_4 T) hr (by decide) hg rfl pass0 (pa_cons pe_int (pa_cons (pv 0) (pa_cons pe_int (pa_cons pe_int pa_nil)))) pk_nil) (pa_cons (pe_mk (cs_Job_init_4 T) hr (by decide) hg rfl pass0 (pa_cons pe_int (pa_cons (pv 1) (pa_cons pe_int (pa_cons pe_int pa_nil)))) pk_nil) pa_nil))))))
    (pss_cons (ps_expr (pe_bm PySem.F.plainAttrs_list PySem.F.slot_list_append PySem.F.type_list_append mt_append (pv 2) (pa_cons (pe_mk (cs_Job_init_5 T) hr (by decide) hg rfl pass0 (pa_cons pe_int (pa_cons (pv 0) (pa_cons pe_int (pa_cons pe_int (pa_cons pe_bl pa_nil))))) pk_nil) pa_nil)))
    (pss_cons (ps_if (PW.pt (pw_or (pt_cmpR (op_neA hr) (pe_lc (own := [("job", 3)]) rfl nd (pi_any (pe_ca (cs_by_rank_1 T) hr (by decide) hg rfl pass0 (pa_cons (pv 2) pa_nil) pk_nil)) (blkOk_by (by first | decide +kernel | kernel_rfl)) (fun _ _ _ _ _ => (pg_name (i := 3) nd rfl (Or.inl rfl))) (fun _ _ _ _ _ => pts_nil) (fun _ _ _ _ _ => (pe_me0 (cs_Job_numbered_0 T) hr (by decide) hg pass0 (pv 3) pk_nil))) (pe_lst (pa_cons pe_int (pa_cons pe_int (pa_cons pe_int (pa_cons pe_int (pa_cons pe_int pa_nil)))))) (nobehind _ (by decide) (by decide))) (pw_or1 (pt_cmpR (op_ownNe (cs_Job_eq_1 T) T.od_Job.own hr (by decide) hg pass0) (pe_ca (cs_first_of_1 T) hr (by decide) hg rfl pass0 (pa_cons (pv 2) pa_nil) pk_nil) (pe_ix ix_seq (pv 2) pe_int (fun _ _ => rfl)) (nobehind _ (by decide) (by decide)))))) (pss_one (ps_ret pe_bl)) pss_nil)
    (pss_cons (ps_if (PW.pt (pw_or (pt_cmpR (op_neA hr) (pe_ca (cs_by_style_1 T) hr (by decide) hg rfl pass0 (pa_cons (pe_callTy cl_tupOf (by rfl) T.z_tuple (by decide +kernel) (pa_cons (pv 2) pa_nil)) pa_nil) pk_nil) (pe_lst (pa_cons (pe_tup (pa_cons pe_str (pa_cons (pe_lst (pa_cons pe_int (pa_cons pe_int (pa_cons pe_int pa_nil)))) pa_nil))) (pa_cons (pe_tup (pa_cons pe_str (pa_cons (pe_lst (pa_cons pe_int (pa_cons pe_int pa_nil))) pa_nil))) pa_nil))) (nobehind _ (by decide) (by decide))) (pw_or1 (pt_cmpR (op_ownNe (cs_Job_eq_1 T) T.od_Job.own hr (by decide) hg pass0) (pe_ca (cs_first_of_1 T) hr (by decide) hg rfl pass0 (pa_cons (pe_slice sl_any (pv 2) po_none (po_some pe_int)) pa_nil) pk_nil) (pe_ix ix_seq (pv 2) pe_int (fun _ _ => rfl)) (nobehind _ (by decide) (by decide)))))) (pss_one (ps_ret pe_bl)) pss_nil)
    (pss_cons (ps_set (i := 2) nd rfl (Or.inl rfl) (pe_lst (pa_cons (pe_mk (cs_Job_init_4 T) hr (by decide) hg rfl pass0 (pa_cons pe_int (pa_cons (pv 0) (pa_cons pe_int (pa_cons pe_int pa_nil)))) pk_nil) (pa_cons (pe_mk (cs_Job_init_5 T) hr (by decide) hg rfl pass0 (pa_cons pe_int (pa_cons (pv 0) (pa_cons (pe_op op_pow pe_int pe_int) (pa_cons (pe_op op_pow pe_int pe_int) (pa_cons pe_bl pa_nil))))) pk_nil) (pa_cons (pe_mk (cs_Job_init_4 T) hr (by decide) hg rfl pass0 (pa_cons pe_int (pa_cons (pv 0) (pa_cons pe_int (pa_cons (pe_op op_pow pe_int pe_int) pa_nil)))) pk_nil) pa_nil)))))
    (pss_cons (ps_expr (pe_bm PySem.F.plainAttrs_list PySem.F.slot_list_append PySem.F.type_list_append mt_append (pv 2) (pa_cons (pe_mk (cs_Job_init_4 T) hr (by decide) hg rfl pass0 (pa_cons pe_int (pa_cons (pv 0) (pa_cons (pe_op op_pow pe_int pe_int) (pa_cons (pe_op op_pow pe_int pe_int) pa_nil)))) pk_nil) pa_nil)))
    (pss_cons (ps_if (PW.pt (pw_or (pt_cmpR (op_neA hr) (pe_lc (own := [("job", 3)]) rfl nd (pi_any (pe_ca (cs_by_rank_1 T) hr (by decide) hg rfl pass0 (pa_cons (pv 2) pa_nil) pk_nil)) (blkOk_by (by first | decide +kernel | kernel_rfl)) (fun _ _ _ _ _ => (pg_name (i := 3) nd rfl (Or.inl rfl))) (fun _ _ _ _ _ => pts_nil) (fun _ _ _ _ _ => (pe_me0 (cs_Job_numbered_0 T) hr (by decide) hg pass0 (pv 3) pk_nil))) (pe_lst (pa_cons pe_int (pa_cons pe_int (pa_cons pe_int (pa_cons pe_int pa_nil))))) (nobehind _ (by decide) (by decide))) (pw_or1 (pt_cmpR (op_ownNe (cs_Job_eq_1 T) T.od_Job.own hr (by decide) hg pass0) (pe_ca (cs_first_of_1 T) hr (by decide) hg rfl pass0 (pa_cons (pv 2) pa_nil) pk_nil) (pe_ix ix_seq (pv 2) pe_int (fun _ _ => rfl)) (nobehind _ (by decide) (by decide)))))) (pss_one (ps_ret pe_bl)) pss_nil)
    (pss_cons (ps_setLc (i := 2) (own := [("k", 4)]) rfl nd rfl rfl (sw_true rfl rfl rfl (by decide +kernel)) (pi_range1 (by rfl) T.z_range (pa_cons pe_int pa_nil)) (blkOk_by (by first | decide +kernel | kernel_rfl)) (fun _ _ _ _ _ => (pg_name (i := 4) nd rfl (Or.inl rfl))) (fun _ _ _ _ _ => pts_nil) (fun _ _ _ _ _ => (pe_mk (cs_Job_init_4 T) hr (by decide) hg rfl pass0 (pa_cons (pe_op op_addA (pv 4) pe_int) (pa_cons (pv 0) (pa_cons pe_int (pa_cons (pe_op op_sub pe_int (pv 4)) pa_nil)))) pk_nil)))
    (pss_cons (ps_if (PW.pt (pw_or (pt_cmpR (op_neA hr) (pe_lc (own := [("job", 3)]) rfl nd (pi_any (pe_ca (cs_by_rank_1 T) hr (by decide) hg rfl pass0 (pa_cons (pv 2) pa_nil) pk_nil)) (blkOk_by (by first | decide +kernel | kernel_rfl)) (fun _ _ _ _ _ => (pg_name (i := 3) nd rfl (Or.inl rfl))) (fun _ _ _ _ _ => pts_nil) (fun _ _ _ _ _ => (pe_me0 (cs_Job_numbered_0 T) hr (by decide) hg pass0 (pv 3) pk_nil))) (pe_lc (own := [("k", 4)]) rfl nd (pi_range1 (by rfl) T.z_range (pa_cons pe_int pa_nil)) (blkOk_by (by first | decide +kernel | kernel_rfl)) (fun _ _ _ _ _ => (pg_name (i := 4) nd rfl (Or.inl rfl))) (fun _ _ _ _ _ => pts_nil) (fun _ _ _ _ _ => (pe_op op_sub pe_int (pv 4)))) (nobehind _ (by decide) (by decide))) (pw_or1 (pt_cmpR (op_ownNe (cs_Job_eq_1 T) T.od_Job.own hr (by decide) hg pass0) (pe_ca (cs_first_of_1 T) hr (by decide) hg rfl pass0 (pa_cons (pv 2) pa_nil) pk_nil) (pe_ix ix_seq (pv 2) pe_int (fun _ _ => rfl)) (nobehind _ (by decide) (by decide)))))) (pss_one (ps_ret pe_bl)) pss_nil)
    (pss_cons (ps_if (pt_cmpR (op_neA hr) (pe_ca (cs_by_style_1 T) hr (by decide) hg rfl pass0 (pa_cons (pv 2) pa_nil) pk_nil) (pe_lst (pa_cons (pe_tup (pa_cons pe_str (pa_cons (pe_lc (own := [("k", 4)]) rfl nd (pi_range1 (by rfl) T.z_range (pa_cons pe_int pa_nil)) (blkOk_by (by first | decide +kernel | kernel_rfl)) (fun _ _ _ _ _ => (pg_name (i := 4) nd rfl (Or.inl rfl))) (fun _ _ _ _ _ => pts_nil) (fun _ _ _ _ _ => (pe_op op_addA (pv 4) pe_int))) pa_nil))) pa_nil)) (nobehind _ (by decide) (by decide))) (pss_one (ps_ret pe_bl)) pss_nil)
    (pss_one (ps_ret (pe_cmpR (op_eqA hr) (pe_lst (pa_cons (pe_ca (cs_by_rank_1 T) hr (by decide) hg rfl pass0 (pa_cons (pe_lst pa_nil) pa_nil) pk_nil) (pa_cons (pe_ca (cs_by_rank_1 T) hr (by decide) hg rfl pass0 (pa_cons (pe_tup pa_nil) pa_nil) pk_nil) (pa_cons (pe_ca (cs_by_style_1 T) hr (by decide) hg rfl pass0 (pa_cons (pe_lst pa_nil) pa_nil) pk_nil) (pa_cons (pe_ca (cs_by_style_1 T) hr (by decide) hg rfl pass0 (pa_cons (pe_tup pa_nil) pa_nil) pk_nil) (pa_cons (pe_ca (cs_first_of_1 T) hr (by decide) hg rfl pass0 (pa_cons (pe_lst pa_nil) pa_nil) pk_nil) (pa_cons (pe_ca (cs_first_of_1 T) hr (by decide) hg rfl pass0 (pa_cons (pe_tup pa_nil) pa_nil) pk_nil) pa_nil))))))) (pe_op op_addA (pe_op op_mulA (pe_lst (pa_cons (pe_lst pa_nil) pa_nil)) pe_int) (pe_op op_mulA (pe_lst (pa_cons pe_non pa_nil)) pe_int)) (nobehind _ (by decide) (by decide))))))))))))))))), rd_law_by_hand_right (jobC T) T.od_Job vs H Q E h⟩
theorem cs_law_by_hand_right_0 (T : Txt K w mg) : CallOk P w K mg base CX0 6 "_law_by_hand_right" 0 [] (sp_law_by_hand_right K) (fun vs zs => pick .non [] (vs ++ zs)) := by
  obtain ⟨fd, F, G⟩ := ok_law_by_hand_right (P := P) (w := w) (base := base) T
  obtain ⟨g, kb⟩ := kb0 (ps := []) F 0 [] [] fun kV doc pm an cdv ct us ws h1 h2 => match us, ws, h1, h2 with | [], [], _, _ => rfl
  exact ⟨⟨fd, _, g, G, kb⟩, T.g_law_by_hand_right, F.kp⟩
theorem sc_law_right : FnScope ["way", "row", "plains", "again", "told", "one", "job"] ["way", "row", "plains"] (defScope (topS 43)) := ⟨rfl, rfl, rfl, by decide +kernel, rfl, by decide +kernel, by decide +kernel⟩
theorem ok_law_right (T : Txt K w mg) : ∃ fd, FnP K "_law_right" "_law_right" (topS 43) [] (He.ga K "_law_right") fd ∧ FnG P w K mg base CX0 7 (He.ga K "_law_right") fd ["way", "row", "plains"] (sp_law_right K) := by
  obtain ⟨fd, F⟩ := T.d_law_right
  refine ⟨fd, F, fnG_of (sp := sp_law_right K) F sc_law_right (fun vs H Q E h => h.1) fun cdv A outer s H vs Q E hr hg h => ?_⟩
  have hu := hu_of hr
  have nd := sc_law_right.nd
  exact ⟨t_law_right K, PSs.nox ((pss_cons (ps_for PassesOwn.never rfl (pi_range1 (by rfl) T.z_range (pa_cons pe_int pa_nil)) (pg_name (i := 3) nd rfl (Or.inl rfl))
    (pss_cons (ps_set (i := 4) nd rfl (Or.inl rfl) (pe_ca (cs_law_asked_2 T) hr (by decide) hg rfl pass0 (pa_cons (pv 0) (pa_cons (pv 1) pa_nil)) pk_nil))
    (pss_cons (ps_if (PW.pt (pw_or (pt_not (pt_tr (pe_ca (cs_law_answers_right_2 T) hr (by decide) hg rfl pass0 (pa_cons (pv 4) (pa_cons (pv 2) pa_nil)) pk_nil))) (pw_or1 (pt_cmpR (op_neA hr) (pe_callB (call_repr hr hg) (by rfl) T.z_repr (by decide +kernel) (pa_cons (pe_lc (own := [("job", 6)]) rfl nd (pi_any (pv 1)) (blkOk_by (by first | decide +kernel | kernel_rfl)) (fun _ _ _ _ _ => (pg_name (i := 6) nd rfl (Or.inl rfl))) (fun _ _ _ _ _ => pts_nil) (fun _ _ _ _ _ => (pe_ca (cs_law_plain_1 T) hr (by decide) hg rfl pass0 (pa_cons (pv 6) pa_nil) pk_nil))) pa_nil)) (pe_callB (call_repr hr hg) (by rfl) T.z_repr (by decide +kernel) (pa_cons (pv 2) pa_nil)) (nobehind _ (by decide) (by decide)))))) (pss_one (ps_ret pe_bl)) pss_nil)
    (pss_cons (ps_expr (pe_bm0 PySem.F.plainAttrs_list PySem.F.slot_list_reverse PySem.F.type_list_reverse mt_reverse (pe_ix ix_seq (pv 4) pe_int (fun _ _ => rfl))))
    (pss_cons (ps_expr (pe_bm PySem.F.plainAttrs_list PySem.F.slot_list_append PySem.F.type_list_append mt_append (pe_ix ix_seq (pv 4) pe_int (fun _ _ => rfl)) (pa_cons pe_non pa_nil)))
    (pss_cons (ps_for PassesOwn.never rfl (pi_any (pe_ix ix_seq (pv 4) pe_int (fun _ _ => rfl))) (pg_name (i := 5) nd rfl (Or.inl rfl))
    (pss_one (ps_expr (pe_bm PySem.F.plainAttrs_list PySem.F.slot_list_append PySem.F.type_list_append mt_append (pe_ix ix_seq (pv 5) pe_int (fun _ _ => rfl)) (pa_cons pe_int pa_nil)))))
    (pss_one (ps_expr (pe_bm PySem.F.plainAttrs_list PySem.F.slot_list_append PySem.F.type_list_append mt_append (pe_ix ix_seq (pv 4) pe_int (fun _ _ => rfl)) (pa_cons (pe_tup (pa_cons pe_str (pa_cons (pe_lst pa_nil) pa_nil))) pa_nil))))))))))
    (pss_one (ps_ret pe_bl)))), rd_law_right vs H Q E h⟩
theorem cs_law_right_3 (T : Txt K w mg) : CallOk P w K mg base CX0 7 "_law_right" 3 [] (sp_law_right K) (fun vs zs => pick .non [0, 1, 2] (vs ++ zs)) := by
  obtain ⟨fd, F, G⟩ := ok_law_right (P := P) (w := w) (base := base) T
  obtain ⟨g, kb⟩ := kb0 (ps := ["way", "row", "plains"]) F 3 [] [0, 1, 2] fun kV doc pm an cdv ct us ws h1 h2 => match us, ws, h1, h2 with | [_, _, _], [], _, _ => rfl
  exact ⟨⟨fd, _, g, G, kb⟩, T.g_law_right, F.kp⟩
theorem sc_law : FnScope ["script", "m", "turn", "kinds", "plains", "more", "row", "plain", "turned", "k"] ["script"] (defScope (topS 45)) := ⟨rfl, rfl, rfl, by decide +kernel, rfl, by decide +kernel, by decide +kernel⟩
theorem ok_law (T : Txt K w mg) : ∃ fd, FnP K "law" "law" (topS 45) [] (He.ga K "law") fd ∧ FnG P w K mg base CX0 8 (He.ga K "law") fd ["script"] (sp_law K) := by
  obtain ⟨fd, F⟩ := T.d_law
  refine ⟨fd, F, fnG_of (sp := sp_law K) F sc_law (fun vs H Q E h => h.1) fun cdv A outer s H vs Q E hr hg h => ?_⟩
  have hu := hu_of hr
  have nd := sc_law.nd
  exact ⟨t_law K, PSs.nox ((pss_cons (ps_set (i := 1) nd rfl (Or.inl rfl) (pe_ca (cs_law_begun_1 T) hr (by decide) hg rfl pass0 (pa_cons (pv 0) pa_nil) pk_nil))
    (pss_cons (ps_for PassesOwn.never rfl (pi_range1 (by rfl) T.z_range (pa_cons pe_int pa_nil)) (pg_name (i := 2) nd rfl (Or.inl rfl))
    (pss_cons (ps_set (i := 3) nd rfl (Or.inl rfl) (pe_ca (cs_law_kinds_1 T) hr (by decide) hg rfl pass0 (pa_cons (pv 1) pa_nil) pk_nil))
    (pss_cons (ps_asg (pe_tup (pa_cons (pe_ca (cs_law_plain_jobs_3 T) hr (by decide) hg rfl pass0 (pa_cons (pv 1) (pa_cons (pv 3) (pa_cons (pe_ix ix_seq (pe_lst (pa_cons pe_int (pa_cons pe_int (pa_cons pe_int pa_nil)))) (pv 2) (fun _ _ => rfl)) pa_nil))) pk_nil) (pa_cons (pe_ca (cs_law_plain_jobs_3 T) hr (by decide) hg rfl pass0 (pa_cons (pv 1) (pa_cons (pv 3) (pa_cons pe_int pa_nil))) pk_nil) pa_nil))) (pg_tup rfl (pgs_cons (pg_name (i := 4) nd rfl (Or.inr rfl)) (pgs_cons (pg_name (i := 5) nd rfl (Or.inr rfl)) pgs_nil))))
    (pss_cons (ps_set (i := 6) nd rfl (Or.inr rfl) (pe_lc (own := [("plain", 7)]) rfl nd (pi_any (pv 4)) (blkOk_by (by first | decide +kernel | kernel_rfl)) (fun _ _ _ _ _ => (pg_name (i := 7) nd rfl (Or.inl rfl))) (fun _ _ _ _ _ => pts_nil) (fun _ _ _ _ _ => (pe_ca (cs_law_job_1 T) hr (by decide) hg rfl pass0 (pa_cons (pv 7) pa_nil) pk_nil))))
    (pss_cons (ps_if (PW.pt (pw_or (pt_not (pt_tr (pe_ca (cs_law_right_3 T) hr (by decide) hg rfl pass0 (pa_cons (pe_op op_mod (pv 2) pe_int) (pa_cons (pv 6) (pa_cons (pv 4) pa_nil))) pk_nil))) (pw_or1 (pt_not (pt_tr (pe_ca (cs_law_right_3 T) hr (by decide) hg rfl pass0 (pa_cons (pe_op op_sub pe_int (pe_op op_mod (pv 2) pe_int)) (pa_cons (pe_callTy cl_tupOf (by rfl) T.z_tuple (by decide +kernel) (pa_cons (pv 6) pa_nil)) (pa_cons (pv 4) pa_nil))) pk_nil)))))) (pss_one (ps_ret pe_bl)) pss_nil)
    (pss_cons (ps_for PassesOwn.never rfl (pi_any (pv 5)) (pg_name (i := 7) nd rfl (Or.inl rfl))
    (pss_one (ps_expr (pe_bm PySem.F.plainAttrs_list PySem.F.slot_list_append PySem.F.type_list_append mt_append (pv 6) (pa_cons (pe_ca (cs_law_job_1 T) hr (by decide) hg rfl pass0 (pa_cons (pv 7) pa_nil) pk_nil) pa_nil)))))
    (pss_cons (ps_if (pt_not (pt_tr (pe_ca (cs_law_right_3 T) hr (by decide) hg rfl pass0 (pa_cons (pe_op op_fdiv (pv 2) pe_int) (pa_cons (pv 6) (pa_cons (pe_op op_addA (pv 4) (pv 5)) pa_nil))) pk_nil))) (pss_one (ps_ret pe_bl)) pss_nil)
    (pss_cons (ps_expr (pe_bm0 PySem.F.plainAttrs_list PySem.F.slot_list_reverse PySem.F.type_list_reverse mt_reverse (pv 6)))
    (pss_cons (ps_setLc (i := 8) (own := [("k", 9)]) rfl nd rfl rfl (sw_true rfl rfl rfl (by decide +kernel)) (pi_range1 (by rfl) T.z_range (pa_cons (pe_callB cl_len (by rfl) T.z_len PySem.boot_len (pa_cons (pv 6) pa_nil)) pa_nil)) (blkOk_by (by first | decide +kernel | kernel_rfl)) (fun _ _ _ _ _ => (pg_name (i := 9) nd rfl (Or.inl rfl))) (fun _ _ _ _ _ => pts_nil) (fun _ _ _ _ _ => (pe_ix ix_seq (pe_op op_addA (pv 4) (pv 5)) (pe_op op_sub (pe_op op_sub (pe_callB cl_len (by rfl) T.z_len PySem.boot_len (pa_cons (pv 6) pa_nil)) pe_int) (pv 9)) (fun _ _ => rfl))))
    (pss_cons (ps_if (pt_not (pt_tr (pe_ca (cs_law_right_3 T) hr (by decide) hg rfl pass0 (pa_cons (pe_op op_sub pe_int (pe_op op_fdiv (pv 2) pe_int)) (pa_cons (pv 6) (pa_cons (pv 8) pa_nil))) pk_nil))) (pss_one (ps_ret pe_bl)) pss_nil)
    (pss_one (ps_if (PW.pt (pw_and (pt_cmpR (op_neNil hr) (pv 6) (pe_lst pa_nil) (nobehind _ (by decide) (by decide))) (pw_and1 (pt_not (pt_tr (pe_ca (cs_law_right_3 T) hr (by decide) hg rfl pass0 (pa_cons (pe_op op_mod (pv 2) pe_int) (pa_cons (pe_tup (pa_cons (pe_ix ix_seq (pv 6) (pe_un un_neg pe_int) (fun _ _ => rfl)) (pa_cons (pe_ix ix_seq (pv 6) pe_int (fun _ _ => rfl)) pa_nil))) (pa_cons (pe_lst (pa_cons (pe_ix ix_seq (pv 8) (pe_un un_neg pe_int) (fun _ _ => rfl)) (pa_cons (pe_ix ix_seq (pv 8) pe_int (fun _ _ => rfl)) pa_nil))) pa_nil))) pk_nil)))))) (pss_one (ps_ret pe_bl)) pss_nil))))))))))))
    (pss_one (ps_ret (pe_ca0 (cs_law_by_hand_right_0 T) hr (by decide) hg rfl pass0 pk_nil)))))), rd_law vs H Q E h⟩
end
/-! ### the head -/
theorem txt_of {w : World} {K : PySem.W.Frag} {h : Heap} {mg : Str → Option Value} (X : K.In h) (G : h.Ns mainGlobals mg) (c : SaysB faL fnL tsL bsL w K) : Txt K w mg where
  c_MOST_LETTERS := He.int_ok X G (c.d.fact 0 (f := .int "MOST_LETTERS" 8) rfl)
  c_MOST_NUMBER := He.int_ok X G (c.d.fact 1 (f := .int "MOST_NUMBER" 99999) rfl)
  c_MOST_HOUR := He.int_ok X G (c.d.fact 2 (f := .int "MOST_HOUR" 1000000) rfl)
  c_MOST_HOURS := He.int_ok X G (c.d.fact 3 (f := .int "MOST_HOURS" 240) rfl)
  c_MOST_STEPS := He.int_ok X G (c.d.fact 4 (f := .int "MOST_STEPS" 12) rfl)
  c_LETTERS := He.str_ok X G (c.d.fact 5 (f := .str "LETTERS" "abcdefghijklmnopqrstuvwxyz") rfl)
  g_BARRED_WORDS := He.glo_ok X G (c.d.fact 6 (f := .glo "BARRED_WORDS") rfl)
  g_KINDS := He.glo_ok X G (c.d.fact 7 (f := .glo "KINDS") rfl)
  z_all := He.free_ok X G (c.d.fact 8 (f := .free "all") rfl)
  z_bool := He.free_ok X G (c.d.fact 9 (f := .free "bool") rfl)
  z_enumerate := He.free_ok X G (c.d.fact 10 (f := .free "enumerate") rfl)
  z_int := He.free_ok X G (c.d.fact 11 (f := .free "int") rfl)
  z_isinstance := He.free_ok X G (c.d.fact 12 (f := .free "isinstance") rfl)
  z_len := He.free_ok X G (c.d.fact 13 (f := .free "len") rfl)
  z_list := He.free_ok X G (c.d.fact 14 (f := .free "list") rfl)
  z_min := He.free_ok X G (c.d.fact 15 (f := .free "min") rfl)
  z_range := He.free_ok X G (c.d.fact 16 (f := .free "range") rfl)
  z_repr := He.free_ok X G (c.d.fact 17 (f := .free "repr") rfl)
  z_set := He.free_ok X G (c.d.fact 18 (f := .free "set") rfl)
  z_sorted := He.free_ok X G (c.d.fact 19 (f := .free "sorted") rfl)
  z_str := He.free_ok X G (c.d.fact 20 (f := .free "str") rfl)
  z_sum := He.free_ok X G (c.d.fact 21 (f := .free "sum") rfl)
  z_tuple := He.free_ok X G (c.d.fact 22 (f := .free "tuple") rfl)
  g_Style := He.glo_ok X G (c.d.fact 23 (f := .glo "Style") rfl)
  cl_Style := He.cls_ok (c.d.fact 24 (f := .cls "Style") rfl)
  mk_Style := He.mkr_ok (c.d.fact 25 (f := .mkr "Style") rfl)
  n_Style_called := He.noat_ok (c.d.fact 26 (f := .noat "Style" "called") rfl)
  n_Style_step_rows := He.noat_ok (c.d.fact 27 (f := .noat "Style" "step_rows") rfl)
  g_Job := He.glo_ok X G (c.d.fact 28 (f := .glo "Job") rfl)
  cl_Job := He.cls_ok (c.d.fact 29 (f := .cls "Job") rfl)
  mk_Job := He.mkr_ok (c.d.fact 30 (f := .mkr "Job") rfl)
  n_Job_came := He.noat_ok (c.d.fact 31 (f := .noat "Job" "came") rfl)
  n_Job_has_number := He.noat_ok (c.d.fact 32 (f := .noat "Job" "has_number") rfl)
  n_Job_has_style := He.noat_ok (c.d.fact 33 (f := .noat "Job" "has_style") rfl)
  n_Job_hasty := He.noat_ok (c.d.fact 34 (f := .noat "Job" "hasty") rfl)
  n_Job_wanted := He.noat_ok (c.d.fact 35 (f := .noat "Job" "wanted") rfl)
  g_is_whole := He.glo_ok X G (c.d.fact 36 (f := .glo "is_whole") rfl)
  g_is_name := He.glo_ok X G (c.d.fact 37 (f := .glo "is_name") rfl)
  g_kind_of := He.glo_ok X G (c.d.fact 38 (f := .glo "kind_of") rfl)
  g_is_step := He.glo_ok X G (c.d.fact 39 (f := .glo "is_step") rfl)
  g_are_steps := He.glo_ok X G (c.d.fact 40 (f := .glo "are_steps") rfl)
  m_Style_named := He.meth_ok (c.d.fact 41 (f := .meth "Style" "named") rfl)
  m_Style_steps := He.meth_ok (c.d.fact 42 (f := .meth "Style" "steps") rfl)
  m_Style_span := He.meth_ok (c.d.fact 43 (f := .meth "Style" "span") rfl)
  m_Style_eq := He.meth_ok (c.d.fact 44 (f := .meth "Style" "__eq__") rfl)
  m_Job_numbered := He.meth_ok (c.d.fact 45 (f := .meth "Job" "numbered") rfl)
  m_Job_of_style := He.meth_ok (c.d.fact 46 (f := .meth "Job" "of_style") rfl)
  m_Job_brought_at := He.meth_ok (c.d.fact 47 (f := .meth "Job" "brought_at") rfl)
  m_Job_due_at := He.meth_ok (c.d.fact 48 (f := .meth "Job" "due_at") rfl)
  m_Job_in_haste := He.meth_ok (c.d.fact 49 (f := .meth "Job" "in_haste") rfl)
  m_Job_rank := He.meth_ok (c.d.fact 50 (f := .meth "Job" "rank") rfl)
  m_Job_eq := He.meth_ok (c.d.fact 51 (f := .meth "Job" "__eq__") rfl)
  g_rank_of := He.glo_ok X G (c.d.fact 52 (f := .glo "rank_of") rfl)
  g_by_rank := He.glo_ok X G (c.d.fact 53 (f := .glo "by_rank") rfl)
  g_first_of := He.glo_ok X G (c.d.fact 54 (f := .glo "first_of") rfl)
  g_by_style := He.glo_ok X G (c.d.fact 55 (f := .glo "by_style") rfl)
  g_law_mixed := He.glo_ok X G (c.d.fact 56 (f := .glo "_law_mixed") rfl)
  g_law_folded := He.glo_ok X G (c.d.fact 57 (f := .glo "_law_folded") rfl)
  g_law_draw := He.glo_ok X G (c.d.fact 58 (f := .glo "_law_draw") rfl)
  g_law_begun := He.glo_ok X G (c.d.fact 59 (f := .glo "_law_begun") rfl)
  g_law_title := He.glo_ok X G (c.d.fact 60 (f := .glo "_law_title") rfl)
  g_law_drawn_step := He.glo_ok X G (c.d.fact 61 (f := .glo "_law_drawn_step") rfl)
  g_law_drawn_steps := He.glo_ok X G (c.d.fact 62 (f := .glo "_law_drawn_steps") rfl)
  g_law_kinds := He.glo_ok X G (c.d.fact 63 (f := .glo "_law_kinds") rfl)
  g_law_plain_job := He.glo_ok X G (c.d.fact 64 (f := .glo "_law_plain_job") rfl)
  g_law_plain_jobs := He.glo_ok X G (c.d.fact 65 (f := .glo "_law_plain_jobs") rfl)
  g_law_job := He.glo_ok X G (c.d.fact 66 (f := .glo "_law_job") rfl)
  g_law_plain := He.glo_ok X G (c.d.fact 67 (f := .glo "_law_plain") rfl)
  g_law_rank := He.glo_ok X G (c.d.fact 68 (f := .glo "_law_rank") rfl)
  g_law_ordered := He.glo_ok X G (c.d.fact 69 (f := .glo "_law_ordered") rfl)
  g_law_named := He.glo_ok X G (c.d.fact 70 (f := .glo "_law_named") rfl)
  g_law_asked := He.glo_ok X G (c.d.fact 71 (f := .glo "_law_asked") rfl)
  g_law_answers_right := He.glo_ok X G (c.d.fact 72 (f := .glo "_law_answers_right") rfl)
  g_law_right := He.glo_ok X G (c.d.fact 73 (f := .glo "_law_right") rfl)
  g_law_by_hand_right := He.glo_ok X G (c.d.fact 74 (f := .glo "_law_by_hand_right") rfl)
  g_law := He.glo_ok X G (c.d.fact 75 (f := .glo "law") rfl)
  k_BARRED_WORDS := fun H => He.tupB_ok (c.ask 0 rfl) H
  k_KINDS := ktab_of (dk := fun K => He.ga K "KINDS") (kvs := [("sew", "hand"), ("glue", "hand"), ("cover", "hand"), ("letter", "hand"), ("press", "press")]) c.t 0 rfl (c.ask 1 rfl)
  od_Style := ownB_ok (c.ask 2 rfl)
  od_Job := ownB_ok (c.ask 3 rfl)
  d_is_whole := c.d.def_ 0 (d := dd_is_whole) rfl
  d_is_name := c.d.def_ 1 (d := dd_is_name) rfl
  d_kind_of := c.d.def_ 2 (d := dd_kind_of) rfl
  d_is_step := c.d.def_ 3 (d := dd_is_step) rfl
  d_are_steps := c.d.def_ 4 (d := dd_are_steps) rfl
  d_Style_init := c.d.def_ 5 (d := dd_Style_init) rfl
  d_Style_named := c.d.def_ 6 (d := dd_Style_named) rfl
  d_Style_steps := c.d.def_ 7 (d := dd_Style_steps) rfl
  d_Style_span := c.d.def_ 8 (d := dd_Style_span) rfl
  d_Style_eq := c.d.def_ 9 (d := dd_Style_eq) rfl
  d_Job_init := c.d.def_ 10 (d := dd_Job_init) rfl
  d_Job_numbered := c.d.def_ 11 (d := dd_Job_numbered) rfl
  d_Job_of_style := c.d.def_ 12 (d := dd_Job_of_style) rfl
  d_Job_brought_at := c.d.def_ 13 (d := dd_Job_brought_at) rfl
  d_Job_due_at := c.d.def_ 14 (d := dd_Job_due_at) rfl
  d_Job_in_haste := c.d.def_ 15 (d := dd_Job_in_haste) rfl
  d_Job_rank := c.d.def_ 16 (d := dd_Job_rank) rfl
  d_Job_eq := c.d.def_ 17 (d := dd_Job_eq) rfl
  d_rank_of := c.d.def_ 18 (d := dd_rank_of) rfl
  d_by_rank := c.d.def_ 19 (d := dd_by_rank) rfl
  d_first_of := c.d.def_ 20 (d := dd_first_of) rfl
  d_by_style := c.d.def_ 21 (d := dd_by_style) rfl
  d_law_mixed := c.d.def_ 22 (d := dd_law_mixed) rfl
  d_law_folded := c.d.def_ 23 (d := dd_law_folded) rfl
  d_law_draw := c.d.def_ 24 (d := dd_law_draw) rfl
  d_law_begun := c.d.def_ 25 (d := dd_law_begun) rfl
  d_law_title := c.d.def_ 26 (d := dd_law_title) rfl
  d_law_drawn_step := c.d.def_ 27 (d := dd_law_drawn_step) rfl
  d_law_drawn_steps := c.d.def_ 28 (d := dd_law_drawn_steps) rfl
  d_law_kinds := c.d.def_ 29 (d := dd_law_kinds) rfl
  d_law_plain_job := c.d.def_ 30 (d := dd_law_plain_job) rfl
  d_law_plain_jobs := c.d.def_ 31 (d := dd_law_plain_jobs) rfl
  d_law_job := c.d.def_ 32 (d := dd_law_job) rfl
  d_law_plain := c.d.def_ 33 (d := dd_law_plain) rfl
  d_law_rank := c.d.def_ 34 (d := dd_law_rank) rfl
  d_law_ordered := c.d.def_ 35 (d := dd_law_ordered) rfl
  d_law_named := c.d.def_ 36 (d := dd_law_named) rfl
  d_law_asked := c.d.def_ 37 (d := dd_law_asked) rfl
  d_law_answers_right := c.d.def_ 38 (d := dd_law_answers_right) rfl
  d_law_right := c.d.def_ 39 (d := dd_law_right) rfl
  d_law_by_hand_right := c.d.def_ 40 (d := dd_law_by_hand_right) rfl
  d_law := c.d.def_ 41 (d := dd_law) rfl
end Bz
open PySem PySem.W PySem.Calls PyProof.Rows
theorem PySem.Challenge.cw_bindbench_k15_jobs_in_order_holds : PySem.Challenge.rw_bindbench_k15_jobs_in_order.Holds := by
  w_on; o_law
  refine HandSHeadRun.head_any (r := Bz.RR) (q := view Bz.RR.prog [45]) (H := Bz.hkL) (ob := Bz.obL) (M := 8000) (loose := Bz.looseL) (d := HandSHeadRun.topDef Bz.RR.prog 45) (kwd := []) Bz.obL_eq
    (by kernel_rfl) (fun s => by kernel_rfl) Bz.runL (by kernel_rfl) (by kernel_rfl) (by kernel_rfl) (by rfl) (by first | assumption | decide +kernel) (by decide +kernel) ⟨rfl, rfl, rfl, rfl, rfl, by decide +kernel⟩ ?hw ?hc
  case hw => w_witness2
  case hc =>
    refine Bz.walk_ofG (l := PySem.Challenge.rw_bindbench_k15_jobs_in_order) (n := 63) (k := 8) (x := "script") (CX := L2.CX0) rfl (by decide) (by kernel_rfl) ⟨rfl, by decide, by decide⟩ ?F (fun _ _ _ _ z => z)
    intro w mg fa h Y G hmg0
    obtain ⟨K, KX, c⟩ := Y
    have T := Bz.txt_of KX G c
    have hmg : mg ("law" : PySem.Str) = some (.ref fa) := by
      have e : (HandSHeadRun.topDef Bz.RR.prog 45).name = ("law" : PySem.Str) := by kernel_rfl
      rw [← e]
      exact hmg0
    have e := hmg.symm.trans T.g_law
    cases e
    obtain ⟨fd0, F0⟩ := T.d_law
    refine ⟨K, fd0, Bz.sp_law K, KX, fun s u => L2.FunD.bindsA (ps := ["script"]) F0 (fun _ _ _ _ _ _ us hl => match us, hl with | [_], _ => rfl) s [u] rfl, Bz.law_asked, fun base _ _ => ?_⟩
    obtain ⟨fd, F, g⟩ := Bz.ok_law (P := (PySem.Challenge.rw_bindbench_k15_jobs_in_order).prog) (w := w) (base := base) T
    obtain ⟨_, _, _, _, _, _, _, _, _, _, e1, l1, _⟩ := F0.ex
    obtain ⟨_, _, _, _, _, _, _, _, _, _, e2, l2, _⟩ := F.ex
    have e3 := l1.symm.trans l2
    cases e3
    exact g
