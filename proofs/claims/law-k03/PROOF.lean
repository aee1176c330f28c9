import PyProof.Rows.All
import HandS.ForMost
import HandS.Defaults
import HandS.IsInst
import HandS.StrMore
import HandS.Wide
import HandS.WideBits
import HandS.HeadHook3
import HandS.HeadEnd
import HandS.Head2
import PyProof.ReprNest
import HandS.TupAny
import HandS.Style
import PyProof.NeKinds
import HandS.Walk
import HandS.TupMul
import HandS.Text
import KE.IntTextLaws
import PyProof.ReprLen
import HandS.MakeKw
import HandS.Zip
import HandS.SortInts
import KE.GoesMore
import HandS.SortKw
import HandS.SlotsOwn
import PyProof.Rows.Range3
import PyProof.CallStr
import OpenK.KOps
import PyProof.FactsAll.dict
import PyProof.MeetsIn
import PyProof.EqAt
import HandS.OwnEq
import HandS.FStr
import HandS.HeadHook1
import HandS.TryOnly
import HandS.More
import HandS.Exc
import HandS.ExcInit
import KE.KTryMore
import HandS.ExcIs
import HandS.ExcField
import KE.KExcIs
import HandS.Lambda
import HandS.Ends
import HandS.HeadHook4
import HandS.HeadWalk
import HandS.EndTab
import PyProof.ExcBaseAll.LookupError
import PyProof.ExcBaseAll.OverflowError
import PyProof.ExcBaseAll.RuntimeError
import PyProof.ExcBaseAll.Exception
import PyProof.ExcBaseAll.ValueError
import HandS.ExcValue
import PySem.Challenge.RW_bindbench_k03_families_of_refusals
set_option Elab.async false
set_option linter.all false
set_option maxRecDepth 100000
set_option maxHeartbeats 4000000
namespace Bz
open PySem PySem.Spec PyProof.Rows L2
/-! a def's contract where no repr is under way -/
structure FnG (P : Program) (w : World) (K : PySem.W.Frag) (mg : Str → Option Value) (base : Heap) (CX : CXT)
    (k : Nat) (f : Addr) (fd : FuncData) (ps : List Str) (sp : Sp) : Prop where
  len : ∀ vs H Q E, sp vs H Q E → vs.length = ps.length
  go : ∀ (A : Around) (outer : List Env) (s : Shared) (H : Hp) (args : Args) (us : List Value) (vs : List V) (Q : VK) (E : XK),
    Room k A → A.guards = some [] → Env0 P w K mg base A outer s H → BindsTo s fd args (ps.zip us) → Vals vs us →
    sp vs H Q E → codeAny (model P w) A (.call (.ref f) args) (CR CX outer P w H s Q E) s
section
variable {P : Program} {w : World} {K : PySem.W.Frag} {mg : Str → Option Value} {base : Heap} {CX : CXT}
variable {k : Nat} {f : Addr} {fd : FuncData} {ps : List Str} {sp : Sp}
theorem FnG.of (F : FnOk P w K mg base CX k f fd ps sp) : FnG P w K mg base CX k f fd ps sp :=
  ⟨F.len, fun A o s H a us vs Q E r _ e b v q => F.run A o s H a us vs Q E r e b v q⟩
theorem FnG.mono {j : Nat} (F : FnG P w K mg base CX j f fd ps sp) (h : j ≤ k) : FnG P w K mg base CX k f fd ps sp :=
  ⟨F.len, fun A o s H a us vs Q E r g e b v q => F.go A o s H a us vs Q E (r.mono h) g e b v q⟩
theorem guards_deeper {A : Around} {env : Env} (h : A.guards = some []) : (A.deeper env).guards = some [] := h
theorem guards_make {A : Around} {a : Args} (h : A.guards = some []) : (A.under (.builtin "type.__call__" a)).guards = some [] := by
  have e : (Code.builtin "type.__call__" a).isGuard = false := by
    show guardIds.contains "type.__call__" = false
    decide +kernel
  simp [Around.under, Code.guards, e, h, pushGuards]
/-- a def by its body -/
theorem fnG_of {N : List Str} {x qual : Str} {params : Arguments} {body : List Stmt} {scope : Scope} {dvs : List V} {kws : List (Str × V)}
    (F : FunD K x qual params body scope dvs kws f fd) (S : FnScope N ps scope) (len : ∀ vs H Q E, sp vs H Q E → vs.length = ps.length)
    (hb : ∀ (cdv : Value) (A : Around) (outer : List Env) (s : Shared) (H : Hp) (vs : List V) (Q : VK) (E : XK),
      Room k (A.deeper (envOfC qual scope s.heap.objs.size f cdv)) → (A.deeper (envOfC qual scope s.heap.objs.size f cdv)).guards = some [] → sp vs H Q E →
      ∃ t, PSs (cxOf CX P w K mg base N qual scope f cdv A outer s H E) body t ∧ t { nx := fun _ H' => Q .non H', rt := Q } (start N vs) H) :
    FnG P w K mg base CX (k + 1) f fd ps sp := by
  obtain ⟨oc, od, dV, kV, doc, pm, an, cdv, ct, osl, rfl, lk, hcd, _, _⟩ := F.ex
  refine ⟨len, fun A outer s H args us vs Q E hr hg e0 bnd rv hq => ?_⟩
  have KX : K.In s.heap := e0.mod.kin.keeps fun b o e => (e0.bs b o e).1
  refine codeAny_call_function hr.depth (KX _ _ lk) rfl S.co S.gen rfl (PySem.W.codeRec_of KX hcd) (bnd _ _ _ _ ?_)
  refine wpAny_newFunctionEnv_cells S.kind ?_ ?_
  · rintro ⟨n, v⟩ hy
    rcases S.par n (List.of_mem_zip hy).1 with q | q
    · exact Or.inl q
    · exact Or.inr ⟨q, PySem.W.cellsFrom_some _ _ _ (Or.inl q)⟩
  · intro env he s1 x
    subst he
    have lim : s.heap.NoLimit := e0.mod.nolimit.keeps fun b o e => (e0.bs b o e).1
    refine ⟨lim.keeps x.toInCall.keep, codeAny_func ?_⟩
    obtain ⟨t, ht, q⟩ := hb cdv A outer s H vs Q E (hr.deeper _) (guards_deeper hg) hq
    have I := inv_start (CX := CX) (E := E) S hr.hd e0 (len _ _ _ _ hq) rv x
    refine wpAny_mono (ht.run [] s1 (start N vs) H _ I q) ?_ (fun _ _ z => z)
    intro fl s' z
    cases fl with
    | ret u =>
      obtain ⟨v, σ', H', J, r, q'⟩ := z
      exact ⟨v, H', J.os, J.bare, J.base, J.hok, r, q'⟩
    | next =>
      obtain ⟨σ', H', J, q'⟩ := z
      exact ⟨V.non, H', J.os, J.bare, J.base, J.hok, rfl, q'⟩
    | brk => exact z.elim fun _ z => z.elim fun _ z => z.2.elim
    | cont => exact z.elim fun _ z => z.elim fun _ z => z.2.elim
end
section
variable {X : Cx} {CX : CXT} {k : Nat} {f C : Addr} {fd : FuncData} {ps : List Str} {sp : Sp} {dvs : List V} {ds : List Value} {E : XK}
theorem run_g {pins : List (Addr × Obj)} {σ : L2.St} {H : Hp} {s : Shared} {Q : VK} {args : Args} {us : List Value} {vs : List V}
    (F : FnG X.prog X.w X.K X.mg X.base CX k f fd ps sp) (hr : Room k X.A) (hg : X.A.guards = some []) (hx : Passes CX X E)
    (I : Inv X pins σ H s) (b : BindsTo s fd args (ps.zip us)) (r : Vals vs us) (h : sp vs H Q E) :
    wpAny (model X.prog X.w) X.A (call (.ref f) args.pos args.kw) (EP X pins σ Q) X.xe s := by
  refine wpAny_call (codeAny_mono (F.go X.A X.stack s H args us vs Q E hr hg I.env0 b r h) ?_)
  intro r s' z
  cases r with
  | error e => exact hx pins σ H s e s' I z
  | ok fl =>
    cases fl with
    | ret u => exact I.after z
    | next => exact False.elim z
    | brk => exact False.elim z
    | cont => exact False.elim z
end
/-! ### the parts of a list by their places -/
def nth {α : Type} (d : α) : List α → Nat → α
  | [], _ => d
  | a :: _, 0 => a
  | _ :: l, n + 1 => nth d l n
def pick {α : Type} (d : α) : List Nat → List α → List α
  | [], _ => []
  | i :: r, l => nth d l i :: pick d r l
theorem nth_rel : ∀ {l : List V} {u : List Value} (i : Nat), Vals l u → RelV (nth .non l i) (nth .none u i)
  | _, _, _, .nil => rfl
  | _, _, 0, .cons r _ => r
  | _, _, i + 1, .cons _ t => nth_rel i t
theorem pick_rel {l : List V} {u : List Value} (r : Vals l u) : ∀ ix : List Nat, Vals (pick .non ix l) (pick .none ix u)
  | [] => .nil
  | i :: ix => .cons (nth_rel i r) (pick_rel r ix)
section
variable {K : PySem.W.Frag} {x qual : Str} {params : Arguments} {body : List Stmt} {scope : Scope} {dvs : List V} {kws : List (Str × V)} {f : Addr} {fd : FuncData} {ps : List Str}
/-- how a call binds: n places, keywords ks, no defaults -/
theorem kb0 (F : FunD K x qual params body scope [] kws f fd) (n : Nat) (ks : List Str) (ix : List Nat)
    (h : ∀ (kV doc pm : Value) (an : Option Addr) (cdv ct : Value) (us ws : List Value), us.length = n → ws.length = ks.length →
      bindArgs (PySem.W.fnOf x qual params body scope .none kV doc pm an cdv ct) ⟨us, ks.zip ws⟩ = pure (ps.zip (pick .none ix (us ++ ws)))) :
    ∃ g, KBn K fd ps n ks g (fun vs zs => pick .non ix (vs ++ zs)) := by
  obtain ⟨oc, od, dV, kV, doc, pm, an, cdv, ct, osl, rfl, lk, hcd, hD, hK⟩ := F.ex
  rcases hD with ⟨_, rfl⟩ | ⟨e, _⟩
  · exact ⟨fun us ws => pick .none ix (us ++ ws), fun s us ws _ l1 l2 => .of_eq (h kV doc pm an cdv ct us ws l1 l2), fun r1 r2 => pick_rel (r1.append r2) ix⟩
  · exact absurd rfl e
theorem kb1 (F : FunD K x qual params body scope dvs kws f fd) (hd : dvs ≠ []) (n : Nat) (ks : List Str) (ix : List Nat)
    (h : ∀ (T : Addr) (kV doc pm : Value) (an : Option Addr) (cdv ct : Value) (us ws its : List Value), us.length = n → ws.length = ks.length → its.length = dvs.length →
      ∃ k, bindArgs (PySem.W.fnOf x qual params body scope (.ref T) kV doc pm an cdv ct) ⟨us, ks.zip ws⟩ = seqItems? (.ref T) >>= k ∧ k (some its.toArray) = pure (ps.zip (pick .none ix (us ++ (ws ++ its))))) :
    ∃ g, KBn K fd ps n ks g (fun vs zs => pick .non ix (vs ++ (zs ++ dvs))) := by
  obtain ⟨oc, od, dV, kV, doc, pm, an, cdv, ct, osl, rfl, lk, hcd, hD, hK⟩ := F.ex
  rcases hD with ⟨e, _⟩ | ⟨_, T, o, its, m, rfl, lT, oT, rT⟩
  · exact absurd e hd
  · refine ⟨fun us ws => pick .none ix (us ++ (ws ++ its)), fun s us ws X l1 l2 => ?_, fun r1 r2 => pick_rel (r1.append (r2.append rT)) ix⟩
    obtain ⟨k, e1, e2⟩ := h T kV doc pm an cdv ct us ws its l1 l2 rT.length.symm
    refine L2.BindsTo.of_looks fun M => ?_
    rw [e1]
    exact looks_items X lT oT (.of_pure e2)
end
/-! ### calls by names -/
def tCl (n m : Nat) (sp : Sp) (gV : List V → List V → List V) (E : XK) (t tk : TA) : TE :=
  fun σ H Q => t σ H fun vs H1 => tk σ H1 fun zs H2 => vs.length = n ∧ zs.length = m ∧ sp (gV vs zs) H2 Q E
section
variable {X : Cx} {CX : CXT} {k n : Nat} {f C : Addr} {fd : FuncData} {ps ks : List Str} {sp : Sp} {E : XK} {x : Str} {p pos : Pos} {e : Expr} {es : List Expr} {kws : List Keyword} {t tk : TA}
variable {g : List Value → List Value → List Value} {gV : List V → List V → List V}
theorem run_gn {pins : List (Addr × Obj)} {σ : L2.St} {H : Hp} {s : Shared} {Q : VK} {us ws : List Value} {vs zs : List V}
    (F : FnG X.prog X.w X.K X.mg X.base CX k f fd ps sp) (hr : Room k X.A) (hg : X.A.guards = some []) (hb : KBn X.K fd ps n ks g gV) (hx : Passes CX X E)
    (I : Inv X pins σ H s) (r : Vals vs us) (rz : Vals zs ws) (l1 : vs.length = n) (l2 : zs.length = ks.length) (h : sp (gV vs zs) H Q E) :
    wpAny (model X.prog X.w) X.A (call (.ref f) us (ks.zip ws)) (EP X pins σ Q) X.xe s :=
  run_g (args := ⟨us, ks.zip ws⟩) F hr hg hx I (hb.to s us ws I.kIn (r.length.symm.trans l1) (rz.length.symm.trans l2)) (hb.rel r rz) h
/-- f(e, .., k = v, ..) with a place at least -/
theorem pe_cl (F : FnG X.prog X.w X.K X.mg X.base CX k f fd ps sp) (hr : Room k X.A) (hg : X.A.guards = some []) (gl : Gl X x) (hm : X.mg x = some (.ref f))
    (hk : PySem.W.keepIn X.K (.ref f) = true) (hb : KBn X.K fd ps n ks g gV) (hx : Passes CX X E) (ha : PA X (e :: es) t) (hkw : PK X kws tk)
    (h1 : (backToKw pos (keywordEach kws X.env)).all (·.1.isSome) = true := by rfl) (h2 : (backToKw pos (keywordEach kws X.env)).filterMap (·.1) = ks := by rfl)
    (h3 : (x == ("__debug__" : Str)) = false := by decide) (h4 : starEach (e :: es) X.env = (false, eval e X.env) :: starEach es X.env := by rfl)
    (h5 : ((backTo pos (starEach (e :: es) X.env)).any (·.1) || (backToKw pos (keywordEach kws X.env)).any (·.1.isNone)) = false := by rfl) :
    PE X (.Call (.Name x p) (e :: es) kws pos) (tCl n ks.length sp gV E t tk) := ⟨fun pins s σ H Q I h => by
  refine wpAny_Call_Name_kw (ld_glob I gl hm ?_ h3)
  refine PySem.W.callWith_KW (h₀ := X.base) I.ok.mod.kin hk h1 (thn (ha.run pos pins s σ H _ I h) ?_) h5 h4
  rintro us s1 ⟨vs, H1, I1, r, q⟩
  refine thn (hkw.run pos pins s1 σ H1 _ I1 q) ?_
  rintro ws s2 ⟨zs, H2, I2, rz, l1, l2, q2⟩
  refine ⟨I2.kIn, ?_⟩
  rw [h2]
  exact run_gn F hr hg hb hx I2 r rz l1 l2 q2⟩
/-- f(k = v, ..), f() -/
theorem pe_cl0 (F : FnG X.prog X.w X.K X.mg X.base CX k f fd ps sp) (hr : Room k X.A) (hg : X.A.guards = some []) (gl : Gl X x) (hm : X.mg x = some (.ref f))
    (hk : PySem.W.keepIn X.K (.ref f) = true) (hb : KBn X.K fd ps n ks g gV) (hx : Passes CX X E) (hkw : PK X kws tk)
    (h1 : (backToKw pos (keywordEach kws X.env)).all (·.1.isSome) = true := by rfl) (h2 : (backToKw pos (keywordEach kws X.env)).filterMap (·.1) = ks := by rfl)
    (h3 : (x == ("__debug__" : Str)) = false := by decide)
    (h5 : ((backTo pos (starEach [] X.env)).any (·.1) || (backToKw pos (keywordEach kws X.env)).any (·.1.isNone)) = false := by rfl) :
    PE X (.Call (.Name x p) [] kws pos) (tCl n ks.length sp gV E tNil tk) := ⟨fun pins s σ H Q I h => by
  refine wpAny_Call_Name_kw (ld_glob I gl hm ?_ h3)
  refine PySem.W.callWith_KW0 (h₀ := X.base) I.ok.mod.kin hk h1 (thn (hkw.run pos pins s σ H _ I h) ?_) h5
  rintro ws s2 ⟨zs, H2, I2, rz, l1, l2, q2⟩
  refine ⟨I2.kIn, ?_⟩
  rw [h2]
  exact run_gn (us := []) (vs := []) F hr hg hb hx I2 .nil rz l1 l2 q2⟩
end
/-! ### operators, whatever the kinds -/
section
variable {X : Cx}
abbrev rAddI : R2 := rI0 fun i j => .int (i + j)
def rAddS : R2 := fun x y H Q => ∃ i j, x = .str i ∧ y = .str j ∧ i.length + j.length ≤ sizeLine ∧ Q (.str (i ++ j)) H
def rAddA (K : PySem.W.Frag) : R2 := fun x y H Q => rAddI x y H Q ∨ rAddS x y H Q ∨ rCat x y H Q ∨ L2.rCatA K x y H Q
theorem op_addA : OpR X (binaryOp .Add) (rAddA X.K) := OpR.or op_add (OpR.or op_add_str (OpR.or op_cat op_catA))
/-- text * number, the number 0 or more -/
def repS (x : Str) (n : Nat) : Str := ⟨(List.replicate n x.cps.toList).flatten.toArray⟩
theorem repS_fold (a : Array Nat) : ∀ (n : Nat) (acc : Array Nat), (List.replicate n a).foldl (· ++ ·) acc = acc ++ (List.replicate n a.toList).flatten.toArray
  | 0, acc => by simp
  | n + 1, acc => by
    rw [List.replicate_succ, List.foldl_cons, repS_fold a n, List.replicate_succ, List.flatten_cons]
    apply Array.ext'
    simp
def rMulS : R2 := fun x y H Q => ∃ (z : Str) (n : Nat), x = .str z ∧ y = .int n ∧ z.length * n ≤ 16777216 ∧ 1 < n ∧ 0 < z.length ∧ Q (.str (repS z n)) H
theorem op_mulS : OpR X (binaryOp .Mult) rMulS := by
  intro pins s σ H x y v u Q I rx ry h
  obtain ⟨z, n, rfl, rfl, hz, h1, h0, q⟩ := h
  obtain ⟨t, rfl⟩ := rx
  obtain ⟨t', rfl⟩ := ry
  have hn : n ≤ 16777216 := Nat.le_trans (Nat.le_mul_of_pos_left n h0) hz
  have e1 : ((n : Int) == 1 || z.length == 0) = false := by
    have a : ((n : Int) == 1) = false := beq_eq_false_iff_ne.mpr (by omega)
    have b : (z.length == 0) = false := beq_eq_false_iff_ne.mpr (by omega)
    rw [a, b]
    rfl
  have hl : z.length ≤ 16777216 := Nat.le_trans (Nat.le_mul_of_pos_right _ (by omega)) hz
  refine PySem.P.mul_str (by rw [decide_eq_false (by omega), decide_eq_false (by omega)]; rfl) (fun _ _ hc => ?_) (fun _ _ => ?_) ?_
  · have h2 : (2 ^ 63 - 1 : Int) / (n : Int) ≥ (2 ^ 63 - 1) / 16777216 := by
      rw [ge_iff_le, Int.le_ediv_iff_mul_le (by omega)]
      have : ((2 ^ 63 - 1 : Int) / 16777216) * (n : Int) ≤ (2 ^ 63 - 1) / 16777216 * 16777216 := Int.mul_le_mul_of_nonneg_left (by omega) (by decide)
      omega
    have h3 : ((2 ^ 63 - 1 : Int) / 16777216) = 549755813887 := by decide
    omega
  · show decide _ = false
    rw [Int.toNat_natCast]
    refine decide_eq_false ?_
    have e := sizeLine_eq
    omega
  · rw [if_neg (by omega), if_neg (by rw [e1]; exact Bool.false_ne_true), Int.toNat_natCast]
    have e2 : (⟨(List.replicate n z.cps).foldl (· ++ ·) #[]⟩ : Str) = repS z n := by
      unfold repS
      rw [repS_fold]
      simp
    rw [e2]
    refine ⟨?_, ⟨.str (repS z n), H, I.tok _, ⟨_, rfl⟩, q⟩⟩
    show (repS z n).cps.size ≤ sizeLine
    unfold repS
    rw [List.size_toArray, PyProof.Rows.lm_len_rep_flat, sizeLine_eq]
    have : z.cps.toList.length = z.length := by simp [Str.length]
    rw [this, Nat.mul_comm]
    exact hz
def rMulA : R2 := fun x y H Q => rI CMul (fun i j => .int (i * j)) x y H Q ∨ rMulS x y H Q ∨ rRep x y H Q
theorem op_mulA : OpR X (binaryOp .Mult) rMulA := OpR.or op_mul (OpR.or op_mulS op_rep)
/-! == of anything that is data -/
/-- what is the very same at two places, or a scalar -/
def plainV : V → Bool
  | .ref _ => true
  | .int _ => true
  | .str _ => true
  | .bl _ => true
  | .non => true
  | _ => false
theorem eqAt_same {A : Around} {s : Shared} {v : V} {u u' : Value} (h : plainV v = true) (r : RelV v u) (r' : RelV v u') : SeqAt.EqAt A s u u' true := by
  cases v with
  | ref a =>
    cases r
    cases r'
    exact SeqAt.EqAt.same _
  | int i =>
    obtain ⟨t, rfl⟩ := r
    obtain ⟨t', rfl⟩ := r'
    have := SeqAt.EqAt.int_int (A := A) (s := s) i t i t'
    rwa [beq_self_eq_true] at this
  | str z =>
    obtain ⟨t, rfl⟩ := r
    obtain ⟨t', rfl⟩ := r'
    have := SeqAt.EqAt.str_str (A := A) (s := s) z t z t'
    rwa [beq_self_eq_true] at this
  | bl b =>
    cases r
    cases r'
    exact SeqAt.EqAt.same _
  | non =>
    cases r
    cases r'
    exact SeqAt.EqAt.same _
  | _ => cases h
theorem nth_arr {d : Value} : ∀ {l : List Value} {j : Nat} (h : j < l.toArray.size), l.toArray[j] = nth d l j
  | [], j, h => absurd h (by simp)
  | a :: l, 0, _ => rfl
  | a :: l, j + 1, h => by
    have h' : j < l.toArray.size := by simpa using h
    have := nth_arr (d := d) h'
    simpa [nth] using this
theorem plain_nth : ∀ {xs : List V} (j : Nat), xs.all plainV = true → plainV (nth .non xs j) = true
  | [], _, _ => rfl
  | x :: xs, 0, h => by
    rw [List.all_cons, Bool.and_eq_true] at h
    exact h.1
  | x :: xs, j + 1, h => by
    rw [List.all_cons, Bool.and_eq_true] at h
    exact plain_nth j h.2
def rEqI (K : PySem.W.Frag) : R2 := fun x y H Q => ∃ a b xs, x = .ref a ∧ y = .ref b ∧ SqT K H a xs ∧ SqT K H b xs ∧ xs.all plainV = true ∧ Q (.bl true) H
def rNeI (K : PySem.W.Frag) : R2 := fun x y H Q => ∃ a b xs, x = .ref a ∧ y = .ref b ∧ SqT K H a xs ∧ SqT K H b xs ∧ xs.all plainV = true ∧ Q (.bl false) H
theorem eqI_items {A : Around} {s : Shared} {xs : List V} {ia ib : List Value} (ra : Vals xs ia) (rb : Vals xs ib) (hp : xs.all plainV = true) : ∀ j (h1 : j < ia.toArray.size) (h2 : j < ib.toArray.size), SeqAt.EqAt A s ia.toArray[j] ib.toArray[j] true := by
  intro j h1 h2
  rw [nth_arr (d := .none) h1, nth_arr (d := .none) h2]
  exact eqAt_same (plain_nth j hp) (nth_rel j ra) (nth_rel j rb)
theorem eqI_all {xs : List V} {ia ib : List Value} (ra : Vals xs ia) (rb : Vals xs ib) : ((List.range (min ia.toArray.size ib.toArray.size)).all (fun _ => true) && ia.toArray.size == ib.toArray.size) = true := by
  rw [Bool.and_eq_true]
  refine ⟨List.all_eq_true.mpr fun _ _ => rfl, ?_⟩
  rw [List.size_toArray, List.size_toArray, ← ra.length, ← rb.length]
  exact beq_self_eq_true _
theorem op_eqI {k : Nat} (hr : Room k X.A) : OpR X (compareOp .Eq) (rEqI X.K) := by
  intro pins s σ H x y v u Q I rx ry h
  obtain ⟨a, b, xs, rfl, rfl, ha, hb, hp, q⟩ := h
  cases rx
  cases ry
  obtain ⟨ia, ra, ta, _⟩ := I.tuple ha
  obtain ⟨ib, rb, tb, _⟩ := I.tuple hb
  have hu := hr.units
  refine SeqAt.eq_tupleAt (e := fun _ => true) ta tb (by omega) (eqI_items ra rb hp) ?_
  rw [eqI_all ra rb]
  exact ⟨.bl true, H, I, rfl, q⟩
theorem op_neI {k : Nat} (hr : Room k X.A) : OpR X (compareOp .NotEq) (rNeI X.K) := by
  intro pins s σ H x y v u Q I rx ry h
  obtain ⟨a, b, xs, rfl, rfl, ha, hb, hp, q⟩ := h
  cases rx
  cases ry
  obtain ⟨ia, ra, ta, _⟩ := I.tuple ha
  obtain ⟨ib, rb, tb, _⟩ := I.tuple hb
  have hu := hr.units
  refine SeqAt.RcNeAt.tuples (e := fun _ => true) ta tb (by omega) (eqI_items ra rb hp) X.prog X.w _ _ ?_
  rw [eqI_all ra rb]
  exact ⟨.bl false, H, I, rfl, q⟩
def rEqA (K : PySem.W.Frag) : R2 := fun x y H Q => rEq x y H Q ∨ rEqD K x y H Q ∨ rEqI K x y H Q
def rNeA (K : PySem.W.Frag) : R2 := fun x y H Q => rNe x y H Q ∨ rNeD K x y H Q ∨ rNeI K x y H Q
theorem op_eqA {k : Nat} (hr : Room k X.A) : OpR X (compareOp .Eq) (rEqA X.K) := OpR.or op_eq (OpR.or (op_eqD hr.units) (op_eqI hr))
theorem op_neA {k : Nat} (hr : Room k X.A) : OpR X (compareOp .NotEq) (rNeA X.K) := OpR.or op_ne (OpR.or (op_neD hr.units) (op_neI hr))
/-! in: of a list or tuple of flat things, a sign in a text -/
def rInSg : R2 := fun x y H Q => ∃ (c : Nat) (z : Str), x = .str ⟨#[c]⟩ ∧ y = .str z ∧ Q (.bl (decide (c ∈ z.cps.toList))) H
def rNotInSg : R2 := fun x y H Q => ∃ (c : Nat) (z : Str), x = .str ⟨#[c]⟩ ∧ y = .str z ∧ Q (.bl (!decide (c ∈ z.cps.toList))) H
def rInA (K : PySem.W.Frag) : R2 := fun x y H Q => rIn K false x y H Q ∨ rInSg x y H Q
def rNotInA (K : PySem.W.Frag) : R2 := fun x y H Q => rIn K true x y H Q ∨ rNotInSg x y H Q
theorem op_inA : OpR X (compareOp .In) (rInA X.K) := OpR.or op_in_seq op_in_sign
theorem op_notInA : OpR X (compareOp .NotIn) (rNotInA X.K) := OpR.or op_notIn_seq op_notIn_sign
/-! repr of data -/
def rRepr (K : PySem.W.Frag) : List V → Hp → VK → Prop := fun xs H Q => ∃ a d, xs = [a] ∧ Dp K H a d ∧ d.showable = true ∧ d.hasDict = false ∧ d.shown.length ≤ sizeLine ∧ d.depth ≤ 60 ∧ Q (.str d.shown) H
theorem call_repr {k : Nat} (hr : Room k X.A) (hg : X.A.guards = some []) : CallR X (.builtin "repr") (rRepr X.K) := by
  intro pins s σ H xs us Q I r h
  obtain ⟨a, d, rfl, hd, hs, hn, hz, hw, q⟩ := h
  obtain ⟨u, rfl, ru⟩ := vals1 r
  obtain ⟨as, rd⟩ := Dp.reads I d a u hd ru
  have := hr.units
  cases hd with
  | non =>
    cases ru
    refine PySem.P.repr_of_none ⟨.str _, H, I.tok _, ⟨_, rfl⟩, ?_⟩
    simpa only [PyData.shown] using q
  | bl b =>
    cases ru
    refine PySem.P.repr_of_bool ⟨.str _, H, I.tok _, ⟨_, rfl⟩, ?_⟩
    simpa only [PyData.shown] using q
  | int i =>
    obtain ⟨t, rfl⟩ := ru
    refine PySem.P.repr_of_int (by simpa [PyData.showable] using hs) ⟨.str _, H, I.tok _, ⟨_, rfl⟩, ?_⟩
    simpa only [PyData.shown] using q
  | str x =>
    obtain ⟨t, rfl⟩ := ru
    refine PySem.P.repr_of_str ⟨.str _, H, I.tok _, ⟨_, rfl⟩, ?_⟩ (by simpa only [PyData.shown] using hz)
    simpa only [PyData.shown] using q
  | lst h1 h2 =>
    cases ru
    exact repr_of_reads' rd hs (PyData.noDict_hsm hn) hg (by omega) (fun _ _ e => e) (fun h' u tk kp => ⟨.str _, H, I.kept kp, ⟨_, rfl⟩, q⟩) hz
  | tup h1 h2 =>
    cases ru
    exact repr_of_reads' rd hs (PyData.noDict_hsm hn) hg (by omega) (fun _ _ e => e) (fun h' u tk kp => ⟨.str _, H, I.kept kp, ⟨_, rfl⟩, q⟩) hz
end
end Bz
namespace Bz
open PySem PySem.Spec PyProof.Rows L2
/-! ### what is known of the heap: B what stays for good, M and L what is owned and may change -/
structure Is (B : Hp) (M L : List (Addr × HO)) (H : Hp) : Prop where
  ex : Same B H
  own : ∀ p ∈ L ++ M, H p.1 = some p.2 ∧ B p.1 = none
  nd : ((L ++ M).map (·.1)).Nodup
inductive Put (a : Addr) (o : HO) : List (Addr × HO) → List (Addr × HO) → Prop
  | here {u : HO} {L : List (Addr × HO)} : Put a o ((a, u) :: L) ((a, o) :: L)
  | there {x : Addr × HO} {L L' : List (Addr × HO)} : Put a o L L' → Put a o (x :: L) (x :: L')
inductive Del (a : Addr) (o : HO) : List (Addr × HO) → List (Addr × HO) → Prop
  | here {L : List (Addr × HO)} : Del a o ((a, o) :: L) L
  | there {x : Addr × HO} {L L' : List (Addr × HO)} : Del a o L L' → Del a o (x :: L) (x :: L')
section
variable {a : Addr} {o : HO} {L L' : List (Addr × HO)}
theorem Put.keys : ∀ {L L'}, Put a o L L' → L'.map (·.1) = L.map (·.1)
  | _, _, .here => rfl
  | _, _, .there h => by rw [List.map_cons, List.map_cons, h.keys]
theorem Put.mem : ∀ {L L'}, Put a o L L' → ∀ p ∈ L', p ∈ L ∨ p = (a, o)
  | _, _, .here, p, hp => by
    rcases List.mem_cons.mp hp with e | e
    · exact .inr e
    · exact .inl (List.mem_cons_of_mem _ e)
  | _, _, .there h, p, hp => by
    rcases List.mem_cons.mp hp with e | e
    · exact .inl (by rw [e]; exact List.mem_cons_self)
    · rcases h.mem p e with q | q
      · exact .inl (List.mem_cons_of_mem _ q)
      · exact .inr q
theorem Put.has : ∀ {L L'}, Put a o L L' → a ∈ L.map (·.1)
  | _, _, .here => List.mem_cons_self
  | _, _, .there h => List.mem_cons_of_mem _ h.has
theorem Put.app {M : List (Addr × HO)} : ∀ {L L'}, Put a o L L' → Put a o (L ++ M) (L' ++ M)
  | _, _, .here => .here
  | _, _, .there h => .there h.app
theorem Put.app2 (h : Put a o L L') : ∀ M : List (Addr × HO), Put a o (M ++ L) (M ++ L')
  | [] => h
  | _ :: M => .there (Put.app2 h M)
theorem Del.mem : ∀ {L L'}, Del a o L L' → (a, o) ∈ L
  | _, _, .here => List.mem_cons_self
  | _, _, .there h => List.mem_cons_of_mem _ h.mem
theorem Del.perm : ∀ {L L'}, Del a o L L' → L.Perm ((a, o) :: L')
  | _, _, .here => .refl _
  | _, _, .there h => (List.Perm.cons _ h.perm).trans (.swap _ _ _)
end
section
variable {B B' H H' : Hp} {M M' L L' : List (Addr × HO)} {a p : Addr} {o u : HO} {K : PySem.W.Frag} {xs : List V}
theorem Is.get (I : Is B M L H) (h : (a, o) ∈ L) : H a = some o := (I.own (a, o) (List.mem_append_left _ h)).1
theorem Is.getM (I : Is B M L H) (h : (a, o) ∈ M) : H a = some o := (I.own (a, o) (List.mem_append_right _ h)).1
theorem Is.free (I : Is B M L H) (h : H p = none) : B p = none := I.ex.free h
theorem Is.back {B0 : Hp} (s : Same B0 B) (I : Is B M L H) : Is B0 M L H := ⟨s.trans I.ex, fun p hp => ⟨(I.own p hp).1, s.free (I.own p hp).2⟩, I.nd⟩
theorem Is.notin (I : Is B M L H) (h : H p = none) : p ∉ (L ++ M).map (·.1) := fun z => by
  obtain ⟨q, hq, e⟩ := List.mem_map.mp z
  have := (I.own q hq).1
  rw [e, h] at this
  cases this
/-- a new object -/
theorem Is.new (I : Is B M L H) (h : H p = none) : Is B M ((p, o) :: L) (upd H p o) := by
  refine ⟨fun b x e => ?_, fun q hq => ?_, ?_⟩
  · have := I.ex b x e
    rw [upd_ne (ne_of_none this h)]
    exact this
  · rcases List.mem_cons.mp hq with e | e
    · rw [e]
      exact ⟨upd_same, I.free h⟩
    · obtain ⟨h1, h2⟩ := I.own q e
      exact ⟨by rw [upd_ne (ne_of_none h1 h)]; exact h1, h2⟩
  · exact List.nodup_cons.mpr ⟨I.notin h, I.nd⟩
/-- a new object, the rest as it was (behind a call) -/
theorem Is.new' (I : Is B M L H) (s : Same H H') (h : H p = none) (e : H' p = some o) : Is B M ((p, o) :: L) H' := by
  refine ⟨I.ex.trans s, fun q hq => ?_, List.nodup_cons.mpr ⟨I.notin h, I.nd⟩⟩
  rcases List.mem_cons.mp hq with z | z
  · rw [z]
    exact ⟨e, I.free h⟩
  · obtain ⟨h1, h2⟩ := I.own q z
    exact ⟨s _ _ h1, h2⟩
theorem Is.same (I : Is B M L H) (s : Same H H') : Is B M L H' := ⟨I.ex.trans s, fun q hq => ⟨s _ _ (I.own q hq).1, (I.own q hq).2⟩, I.nd⟩
theorem Is.put0 {l l' : List (Addr × HO)} (hl : Put a o l l') (ex : Same B H) (own : ∀ p ∈ l, H p.1 = some p.2 ∧ B p.1 = none) (nd : (l.map (·.1)).Nodup) :
    Same B (upd H a o) ∧ (∀ p ∈ l', (upd H a o) p.1 = some p.2 ∧ B p.1 = none) ∧ (l'.map (·.1)).Nodup := by
  have ha : B a = none := by
    obtain ⟨q, hq, e⟩ := List.mem_map.mp hl.has
    rw [← e]
    exact (own q hq).2
  refine ⟨fun b x e => ?_, fun q hq => ?_, by rw [hl.keys]; exact nd⟩
  · have hb : b ≠ a := fun z => by rw [z, ha] at e; cases e
    rw [upd_ne hb]
    exact ex b x e
  · by_cases hqa : q.1 = a
    · refine ⟨?_, by rw [hqa]; exact ha⟩
      -- the only entry at a is the new one
      have key : ∀ {l l'}, Put a o l l' → (l.map (·.1)).Nodup → ∀ q ∈ l', q.1 = a → q = (a, o) := by
        intro l l' h
        induction h with
        | here =>
          intro n q hq e
          rcases List.mem_cons.mp hq with z | z
          · exact z
          · have n1 := (List.nodup_cons.mp n).1
            exact absurd (show a ∈ _ from by rw [← e]; exact List.mem_map_of_mem z) n1
        | there h ih =>
          intro n q hq e
          obtain ⟨n1, n2⟩ := List.nodup_cons.mp n
          rcases List.mem_cons.mp hq with z | z
          · rw [z] at e
            have n1' : ¬ _ ∈ _ := n1
            exact absurd (by rw [← e] at h; exact h.has) n1'
          · exact ih n2 q z e
      rw [key hl nd q hq hqa]
      exact upd_same
    · rw [upd_ne hqa]
      rcases hl.mem q hq with z | z
      · exact own q z
      · rw [z] at hqa
        exact absurd rfl hqa
theorem Is.put (I : Is B M L H) (h : Put a o L L') : Is B M L' (upd H a o) := by
  obtain ⟨h1, h2, h3⟩ := Is.put0 (h.app (M := M)) I.ex I.own I.nd
  exact ⟨h1, h2, h3⟩
theorem Is.putM (I : Is B M L H) (h : Put a o M M') : Is B M' L (upd H a o) := by
  obtain ⟨h1, h2, h3⟩ := Is.put0 (h.app2 L) I.ex I.own I.nd
  exact ⟨h1, h2, h3⟩
/-- a thing is given away: it will not change any more -/
theorem Is.frz (I : Is B M L H) (d : Del a o L L') : Is (upd B a o) M L' H ∧ Same B (upd B a o) := by
  have pm : (L ++ M).Perm ((a, o) :: (L' ++ M)) := (d.perm.append_right M)
  have ha := I.own (a, o) (List.mem_append_left _ d.mem)
  have nd := (pm.map (·.1)).nodup_iff.mp I.nd
  obtain ⟨n1, n2⟩ := List.nodup_cons.mp nd
  refine ⟨⟨fun b x e => ?_, fun q hq => ?_, n2⟩, fun b x e => ?_⟩
  · by_cases hb : b = a
    · rw [hb, upd_same] at e
      rw [hb, ← e]
      exact ha.1
    · rw [upd_ne hb] at e
      exact I.ex b x e
  · have h2 := I.own q (pm.mem_iff.mpr (List.mem_cons_of_mem _ hq))
    refine ⟨h2.1, ?_⟩
    have hb : q.1 ≠ a := fun z => n1 (by rw [← z]; exact List.mem_map.mpr ⟨q, hq, rfl⟩)
    rw [upd_ne hb]
    exact h2.2
  · have hb : b ≠ a := fun z => by
      have := ha.2
      rw [z, this] at e
      cases e
    rw [upd_ne hb]
    exact e
theorem Is.forget (I : Is B M L H) (h : L'.Sublist L) : Is B M L' H :=
  ⟨I.ex, fun q hq => I.own q ((h.append (.refl M)).subset hq), I.nd.sublist ((h.append (.refl M)).map _)⟩
theorem Is.forgetM (I : Is B M L H) (h : M'.Sublist M) : Is B M' L H :=
  ⟨I.ex, fun q hq => I.own q (((List.Sublist.refl L).append h).subset hq), I.nd.sublist (((List.Sublist.refl L).append h).map _)⟩
theorem Is.perm (I : Is B M L H) (h : L'.Perm L) : Is B M L' H :=
  ⟨I.ex, fun q hq => I.own q ((h.append_right M).mem_iff.mp hq), ((h.append_right M).map _).nodup_iff.mpr I.nd⟩
/-- owned things told as M -/
theorem Is.toM (I : Is B [] (L ++ M) H) : Is B M L H := ⟨I.ex, fun q hq => I.own q (by rw [List.append_nil]; exact hq), by have := I.nd; rwa [List.append_nil] at this⟩
theorem Is.ofM (I : Is B M L H) : Is B [] (L ++ M) H := ⟨I.ex, fun q hq => I.own q (by rwa [List.append_nil] at hq), by have := I.nd; rwa [List.append_nil]⟩
theorem Same.sqT (e : Same H H') (h : SqT K H a xs) : SqT K H' a xs := by
  rcases h with (h | ⟨o, h⟩) | h
  · exact .inl (.inl (e _ _ h))
  · exact .inl (.inr ⟨o, e _ _ h⟩)
  · exact .inr h
theorem Is.sq (I : Is B M L H) (h : SqL K B a xs) : SqL K H a xs := Same.seq I.ex h
theorem Is.st (I : Is B M L H) (h : SqT K B a xs) : SqT K H a xs := Same.sqT I.ex h
theorem Is.sqL (I : Is B M L H) (h : (a, HO.lst xs) ∈ L) : SqL K H a xs := .of (I.get h)
theorem Is.stL (I : Is B M L H) (h : (a, HO.tup xs) ∈ L) : SqT K H a xs := .of (I.get h)
theorem Is.sqM (I : Is B M L H) (h : (a, HO.lst xs) ∈ M) : SqL K H a xs := .of (I.getM h)
theorem Is.b (I : Is B M L H) (h : B a = some o) : H a = some o := I.ex _ _ h
mutual
theorem Dp.same (e : Same H H') : ∀ {v : V} {d : PyData}, Dp K H v d → Dp K H' v d
  | _, _, .non => .non
  | _, _, .bl b => .bl b
  | _, _, .int i => .int i
  | _, _, .str x => .str x
  | _, _, .lst h1 h2 => .lst (Same.seq e h1) (DpAll.same e h2)
  | _, _, .tup h1 h2 => .tup (Same.sqT e h1) (DpAll.same e h2)
theorem DpAll.same (e : Same H H') : ∀ {v : List V} {d : List PyData}, DpAll K H v d → DpAll K H' v d
  | _, _, .nil => .nil
  | _, _, .cons h1 h2 => .cons (Dp.same e h1) (DpAll.same e h2)
end
end
end Bz
namespace Bz
open PySem PySem.Spec PyProof.Rows L2
abbrev St := L2.St
/-! ### slots -/
inductive At : St → Nat → V → Prop
  | z {v : V} {l : St} : At (some v :: l) 0 v
  | s {x : Option V} {l : St} {n : Nat} {v : V} : At l n v → At (x :: l) (n + 1) v
inductive SetAt : St → Nat → Option V → St → Prop
  | z {x v : Option V} {l : St} : SetAt (x :: l) 0 v (v :: l)
  | s {x v : Option V} {l l' : St} {n : Nat} : SetAt l n v l' → SetAt (x :: l) (n + 1) v (x :: l')
inductive Wiped : St → List Nat → St → Prop
  | nil {σ : St} : Wiped σ [] σ
  | cons {σ σ1 σ2 : St} {v : Nat} {vs : List Nat} : Wiped σ vs σ1 → SetAt σ1 v none σ2 → Wiped σ (v :: vs) σ2
theorem At.eq : ∀ {σ : St} {n : Nat} {v : V}, At σ n v → σ[n]? = some (some v)
  | _, _, _, .z => rfl
  | _, _, _, .s h => by
    rw [List.getElem?_cons_succ]
    exact h.eq
theorem SetAt.eq : ∀ {σ σ' : St} {n : Nat} {v : Option V}, SetAt σ n v σ' → σ.set n v = σ'
  | _, _, _, _, .z => rfl
  | _, _, _, _, .s h => by rw [List.set_cons_succ, h.eq]
theorem Wiped.eq : ∀ {σ σ' : St} {vs : List Nat}, Wiped σ vs σ' → wipe σ vs = σ'
  | _, _, _, .nil => rfl
  | _, _, _, .cons h s => by
    unfold wipe
    rw [h.eq, s.eq]
/-! ### steps of a reading -/
section
variable {σ σ' : St} {H : Hp} {Q : VK} {v x y : V} {i : Nat} {ta tb tc te : TE} {D : Ends} {t u : TS} {c c' : TT} {K : PySem.W.Frag} {R : It → Hp → Prop}
variable {nx bk ct : St → Hp → Prop} {rt : VK} {QB : Bool → Hp → Prop} {QL : List V → Hp → Prop} {QS : St → Hp → Prop} {tl tr : TA} {r r' : R2}
theorem g_seq (h : t ⟨fun σ H => u ⟨nx, rt, bk, ct⟩ σ H, rt, bk, ct⟩ σ H) : tSeq t u ⟨nx, rt, bk, ct⟩ σ H := h
theorem g_next (h : nx σ H) : tNext ⟨nx, rt, bk, ct⟩ σ H := h
theorem g_brk (h : bk σ H) : tBreak ⟨nx, rt, bk, ct⟩ σ H := h
theorem g_cont (h : ct σ H) : tCont ⟨nx, rt, bk, ct⟩ σ H := h
theorem g_drop (h : te σ H fun _ H1 => nx σ H1) : tDrop te ⟨nx, rt, bk, ct⟩ σ H := h
theorem g_ret (h : te σ H rt) : tRet te ⟨nx, rt, bk, ct⟩ σ H := h
theorem g_retN (h : rt .non H) : tRetN ⟨nx, rt, bk, ct⟩ σ H := h
theorem g_ifS (h : c σ H fun b H1 => if b = true then t ⟨nx, rt, bk, ct⟩ σ H1 else u ⟨nx, rt, bk, ct⟩ σ H1) : tIfS c t u ⟨nx, rt, bk, ct⟩ σ H := h
theorem g_asg {g : TG} (h : te σ H fun x H1 => g x σ H1 nx) : tAsg te g ⟨nx, rt, bk, ct⟩ σ H := h
theorem g_name (s : SetAt σ i (some v) σ') (q : QS σ' H) : gName i v σ H QS := by
  show QS (σ.set i (some v)) H
  rw [s.eq]
  exact q
theorem g_par {j : Nat} (h : tl σ H fun vs H1 => ∃ v w, vs = [v, w] ∧ nx ((σ.set i (some v)).set j (some w)) H1) : tPar i j tl ⟨nx, rt, bk, ct⟩ σ H := h
theorem g_par2 {j : Nat} {w : V} {σ2 : St} (s : SetAt σ i (some v) σ') (s2 : SetAt σ' j (some w) σ2) (q : nx σ2 H) :
    ∃ v' w', [v, w] = [v', w'] ∧ nx ((σ.set i (some v')).set j (some w')) H := by
  refine ⟨v, w, rfl, ?_⟩
  rw [s.eq, s2.eq]
  exact q
theorem g_var (h : At σ i v) (q : Q v H) : tVar i σ H Q := ⟨v, h.eq, q⟩
theorem g_c (q : Q v H) : tC v σ H Q := q
theorem g_op (h : ta σ H fun x H1 => tb σ H1 fun y H2 => r x y H2 Q) : tOp r ta tb σ H Q := h
theorem g_un {r : V → Hp → VK → Prop} (h : ta σ H fun x H1 => r x H1 Q) : tUn r ta σ H Q := h
theorem g_nil (q : QL [] H) : tNil σ H QL := q
theorem g_cons (h : te σ H fun x H1 => tr σ H1 fun xs H2 => QL (x :: xs) H2) : tCons te tr σ H QL := h
theorem g_cb {r : List V → Hp → VK → Prop} (h : tl σ H fun vs H1 => r vs H1 Q) : tCB r tl σ H Q := h
/-! tests -/
def aBl (x : V) (H : Hp) (Q : Bool → Hp → Prop) : Prop := ∃ k, x = .bl k ∧ Q k H
theorem g_test (h : te σ H fun x H1 => aBl x H1 QB) : tTest te σ H QB := h
theorem g_tB (h : te σ H fun x H1 => aBl x H1 QB) : tB te σ H QB := h
theorem g_bl {b : Bool} (q : QB b H) : aBl (.bl b) H QB := ⟨b, rfl, q⟩
theorem g_and (h : c σ H fun b H1 => if b = true then c' σ H1 QB else QB false H1) : tAnd c c' σ H QB := h
theorem g_or (h : c σ H fun b H1 => if b = true then QB true H1 else c' σ H1 QB) : tOr c c' σ H QB := h
theorem g_not (h : c σ H fun b H1 => QB (!b) H1) : tNot c σ H QB := h
def aIfV (x : V) (H : Hp) (A B : Hp → Prop) : Prop := ∃ c, x = .bl c ∧ if c = true then A H else B H
theorem g_andV (h : ta σ H fun x H1 => aIfV x H1 (fun H1 => tb σ H1 Q) fun H1 => Q (.bl false) H1) : tAndV ta tb σ H Q := h
theorem g_orV (h : ta σ H fun x H1 => aIfV x H1 (fun H1 => Q (.bl true) H1) fun H1 => tb σ H1 Q) : tOrV ta tb σ H Q := h
theorem g_ifV {A B : Hp → Prop} {b : Bool} (h : if b = true then A H else B H) : aIfV (.bl b) H A B := ⟨b, rfl, h⟩
def aNot (x : V) (H : Hp) (Q : VK) : Prop := ∃ c, x = .bl c ∧ Q (.bl (!c)) H
theorem g_notV (h : ta σ H fun x H1 => aNot x H1 Q) : tNotV ta σ H Q := h
theorem g_aNot {b : Bool} (q : Q (.bl (!b)) H) : aNot (.bl b) H Q := ⟨b, rfl, q⟩
theorem g_ifE (h : c σ H fun b H1 => if b = true then ta σ H1 Q else tb σ H1 Q) : tIf c ta tb σ H Q := h
theorem g_chain (h : ta σ H fun x H1 => tb σ H1 fun y H2 => r x y H2 fun z H3 => aIfV z H3 (fun H3 => tc σ H3 fun w H4 => r' y w H4 Q) fun H3 => Q (.bl false) H3) : tChain r r' ta tb tc σ H Q := h
def tTr (K : PySem.W.Frag) (ta : TE) : TT := fun σ H Q => ta σ H fun x H' => ∃ k, TruV K x H' k ∧ Q k H'
def aTru (K : PySem.W.Frag) (x : V) (H : Hp) (Q : Bool → Hp → Prop) : Prop := ∃ k, TruV K x H k ∧ Q k H
theorem pt_tr {X : Cx} {a : Expr} {ta : TE} (ha : PE X a ta) (he : ∀ whole, isTrue a X.env whole = (do let v ← whole; standAt a.pos; holding [v] (truthy v)) := by intro _; rfl) : PT X a (tTr X.K ta) := pt_truth ha he
theorem g_tr (h : ta σ H fun x H' => aTru K x H' QB) : tTr K ta σ H QB := h
theorem g_tru_bl {b : Bool} (q : QB b H) : aTru K (.bl b) H QB := ⟨b, rfl, q⟩
theorem g_tru_non (q : QB false H) : aTru K .non H QB := ⟨false, rfl, q⟩
theorem g_tru_int {n : Int} (q : QB (n != 0) H) : aTru K (.int n) H QB := ⟨_, rfl, q⟩
theorem g_tru_lst {a : Addr} {xs : List V} (h : SqL K H a xs) (q : QB (!xs.isEmpty) H) : aTru K (.ref a) H QB := ⟨_, .inl ⟨xs, h, rfl⟩, q⟩
theorem g_tru_str {z : Str} (h : z.length ≤ sizeLine) (q : QB ((z.length : Int) != 0) H) : aTru K (.str z) H QB := ⟨_, ⟨h, rfl⟩, q⟩
/-! numbers -/
theorem g_rI0 {g : Int → Int → V} {a b : Int} (q : Q (g a b) H) : rI0 g (.int a) (.int b) H Q := ⟨a, b, rfl, rfl, q⟩
theorem g_rI {C : Int → Int → Prop} {g : Int → Int → V} {a b : Int} (h : C a b) (q : Q (g a b) H) : rI C g (.int a) (.int b) H Q := ⟨a, b, rfl, rfl, h, q⟩
theorem g_rU {g : Int → V} {a : Int} (q : Q (g a) H) : rU g (.int a) H Q := ⟨a, rfl, q⟩
theorem g_add_i {a b : Int} (q : Q (.int (a + b)) H) : rAddA K (.int a) (.int b) H Q := .inl ⟨a, b, rfl, rfl, q⟩
theorem g_add_s {a b : Str} (h : a.length + b.length ≤ 1000000) (q : Q (.str (a ++ b)) H) : rAddA K (.str a) (.str b) H Q :=
  .inr (.inl ⟨a, b, rfl, rfl, Nat.le_trans h (by decide), q⟩)
theorem g_mul_i {a b : Int} (h : CMul a b) (q : Q (.int (a * b)) H) : rMulA (.int a) (.int b) H Q := .inl ⟨a, b, rfl, rfl, h, q⟩
theorem g_mul_s {z : Str} {n : Nat} (h : z.length * n ≤ 1000000) (h1 : 1 < n) (h0 : 0 < z.length) (q : Q (.str (repS z n)) H) : rMulA (.str z) (.int (n : Int)) H Q :=
  .inr (.inl ⟨z, n, rfl, rfl, Nat.le_trans h (by decide), h1, h0, q⟩)
/-! comparisons -/
theorem g_eq_s (h : scal x y = true) (q : Q (.bl (decide (x = y))) H) : rEqA K x y H Q := .inl ⟨h, q⟩
theorem g_ne_s (h : scal x y = true) (q : Q (.bl (!decide (x = y))) H) : rNeA K x y H Q := .inl ⟨h, q⟩
theorem g_eq_d {d e : PyData} (h1 : Dp K H x d) (h2 : Dp K H y e) (s1 : SeqAt.shaped d = true) (s2 : SeqAt.shaped e = true) (q : Q (.bl (PyData.eqv d e)) H) : rEqA K x y H Q := .inr (.inl ⟨d, e, h1, h2, s1, s2, q⟩)
theorem g_ne_d {d e : PyData} (h1 : Dp K H x d) (h2 : Dp K H y e) (s1 : SeqAt.shaped d = true) (s2 : SeqAt.shaped e = true) (q : Q (.bl (!PyData.eqv d e)) H) : rNeA K x y H Q := .inr (.inl ⟨d, e, h1, h2, s1, s2, q⟩)
theorem g_eq_i {a b : Addr} {xs : List V} (h1 : SqT K H a xs) (h2 : SqT K H b xs) (p : xs.all plainV = true) (q : Q (.bl true) H) : rEqA K (.ref a) (.ref b) H Q := .inr (.inr ⟨a, b, xs, rfl, rfl, h1, h2, p, q⟩)
theorem g_ne_i {a b : Addr} {xs : List V} (h1 : SqT K H a xs) (h2 : SqT K H b xs) (p : xs.all plainV = true) (q : Q (.bl false) H) : rNeA K (.ref a) (.ref b) H Q := .inr (.inr ⟨a, b, xs, rfl, rfl, h1, h2, p, q⟩)
theorem g_in_l {p : Addr} {xs : List V} (h : SqL K H p xs) (f : flatV x = true) (fs : xs.all flatV = true) (q : Q (.bl (inV x xs)) H) : rInA K x (.ref p) H Q := .inl ⟨p, xs, rfl, .inl h, f, fs, q⟩
theorem g_in_t {p : Addr} {xs : List V} (h : SqT K H p xs) (f : flatV x = true) (fs : xs.all flatV = true) (q : Q (.bl (inV x xs)) H) : rInA K x (.ref p) H Q := .inl ⟨p, xs, rfl, .inr h, f, fs, q⟩
theorem g_nin_l {p : Addr} {xs : List V} (h : SqL K H p xs) (f : flatV x = true) (fs : xs.all flatV = true) (q : Q (.bl (!inV x xs)) H) : rNotInA K x (.ref p) H Q := .inl ⟨p, xs, rfl, .inl h, f, fs, q⟩
theorem g_nin_t {p : Addr} {xs : List V} (h : SqT K H p xs) (f : flatV x = true) (fs : xs.all flatV = true) (q : Q (.bl (!inV x xs)) H) : rNotInA K x (.ref p) H Q := .inl ⟨p, xs, rfl, .inr h, f, fs, q⟩
theorem g_in_c {n : Nat} {z : Str} (q : Q (.bl (decide (n ∈ z.cps.toList))) H) : rInA K (.str ⟨#[n]⟩) (.str z) H Q := .inr ⟨n, z, rfl, rfl, q⟩
theorem g_nin_c {n : Nat} {z : Str} (q : Q (.bl (!decide (n ∈ z.cps.toList))) H) : rNotInA K (.str ⟨#[n]⟩) (.str z) H Q := .inr ⟨n, z, rfl, rfl, q⟩
/-! is None -/
def rIsNo : R2 := fun x y H Q => y = .non ∧ Q (.bl (decide (x = .non))) H
def rNoNo : R2 := fun x y H Q => y = .non ∧ Q (.bl (!decide (x = .non))) H
theorem op_isNo {X : Cx} : OpR X (compareOp .Is) rIsNo := op_isN
theorem op_noNo {X : Cx} : OpR X (compareOp .IsNot) rNoNo := op_notN
theorem g_isNo (q : Q (.bl (decide (x = .non))) H) : rIsNo x .non H Q := ⟨rfl, q⟩
theorem g_noNo (q : Q (.bl (!decide (x = .non))) H) : rNoNo x .non H Q := ⟨rfl, q⟩
/-! len -/
def rLen (K : PySem.W.Frag) : List V → Hp → VK → Prop := fun xs H Q => ∃ x n, xs = [x] ∧ LenV K x H n ∧ Q (.int n) H
theorem cl_len {X : Cx} : CallR X (.builtin "len") (rLen X.K) := call_len
theorem g_len_s {z : Str} (h : z.length ≤ 1000000) (q : Q (.int (z.length : Int)) H) : rLen K [.str z] H Q := ⟨_, z.length, rfl, ⟨Nat.le_trans h (by decide), rfl⟩, q⟩
theorem g_len_l {p : Addr} {xs : List V} (h : SqL K H p xs) (q : Q (.int (xs.length : Int)) H) : rLen K [.ref p] H Q := ⟨_, xs.length, rfl, .inl ⟨xs, h, rfl⟩, q⟩
theorem g_len_t {p : Addr} {xs : List V} (h : SqT K H p xs) (q : Q (.int (xs.length : Int)) H) : rLen K [.ref p] H Q := ⟨_, xs.length, rfl, .inr ⟨xs, h, rfl⟩, q⟩
/-! places -/
theorem g_ix_l {p : Addr} {xs : List V} {n : Int} (h : SqL K H p xs) (e : atI xs n = some v) (q : Q v H) : rIx K (.ref p) (.int n) H Q := .inl ⟨p, xs, n, v, rfl, rfl, h, e, q⟩
theorem g_ix_t {p : Addr} {xs : List V} {n : Int} (h : SqT K H p xs) (e : atI xs n = some v) (q : Q v H) : rIx K (.ref p) (.int n) H Q := .inr (.inl ⟨p, xs, n, v, rfl, rfl, h, e, q⟩)
theorem g_ix_s {z : Str} {n : Int} {k : Nat} (h : z.length ≤ 1000000) (e : atI z.cps.toList n = some k) (q : Q (.str ⟨#[k]⟩) H) : rIx K (.str z) (.int n) H Q := .inr (.inr ⟨z, n, k, rfl, rfl, Nat.le_trans h (by decide), e, q⟩)
theorem atI_of {α : Type} {xs : List α} {n : Int} {a : α} (h0 : 0 ≤ n) (h : xs[n.toNat]? = some a) : atI xs n = some a := by
  have hl := (List.getElem?_eq_some_iff.mp h).1
  unfold atI ixN
  rw [if_pos h0, if_pos (by omega)]
  exact h
theorem ixN_of {m : Nat} {n : Int} (h0 : 0 ≤ n) (h : n < m) : ixN m n = some n.toNat := by
  unfold ixN
  rw [if_pos h0, if_pos h]
/-! parts -/
def rSlA (K : PySem.W.Frag) : V → Option Int → Option Int → Hp → VK → Prop := fun x lo hi H Q => rSlL K x lo hi H Q ∨ rSlS x lo hi H Q ∨ L2.rSlA K x lo hi H Q
theorem sl_any {X : Cx} : SlR X (rSlA X.K) := SlR.or sl_list (SlR.or sl_str sl_tupA)
theorem g_sl {tl th : TO} {r : V → Option Int → Option Int → Hp → VK → Prop} (h : te σ H fun x H1 => tl σ H1 fun l H2 => th σ H2 fun u H3 => r x l u H3 Q) : tSl r te tl th σ H Q := h
theorem g_noPart {QO : Option Int → Hp → Prop} (q : QO none H) : tNoPart σ H QO := q
def aPart (x : V) (H : Hp) (Q : Option Int → Hp → Prop) : Prop := ∃ i, x = .int i ∧ Q (some i) H
theorem g_part {QO : Option Int → Hp → Prop} (h : te σ H fun x H1 => aPart x H1 QO) : tPart te σ H QO := h
theorem g_aPart {QO : Option Int → Hp → Prop} {n : Int} (q : QO (some n) H) : aPart (.int n) H QO := ⟨n, rfl, q⟩
theorem g_sl_s {z : Str} {lo hi : Option Int} (h : z.length ≤ 1000000) (q : Q (.str (cutS z lo hi)) H) : rSlA K (.str z) lo hi H Q := .inr (.inl ⟨z, rfl, Nat.le_trans h (by decide), q⟩)
/-! methods of built-in kinds -/
theorem g_bm {T : String} {r : V → List V → Hp → VK → Prop} (h : te σ H fun x H1 => tyV K T x H1 ∧ tl σ H1 fun xs H2 => r x xs H2 Q) : tBM K T r te tl σ H Q := h
theorem g_bm0 {T : String} {r : V → List V → Hp → VK → Prop} (h : te σ H fun x H1 => tyV K T x H1 ∧ r x [] H1 Q) : tBM0 K T r te σ H Q := h
theorem g_m1 {r : V → List V → Hp → VK → Prop} (h : te σ H fun x H1 => (∃ a, x = .str a) ∧ tb σ H1 fun y H2 => r x [y] H2 Q) : tM1 r te tb σ H Q := h
theorem g_isStr {z : Str} {A : Prop} (h : A) : (∃ a, V.str z = .str a) ∧ A := ⟨⟨z, rfl⟩, h⟩
/-! calls -/
def aCl (n m : Nat) (sp : Sp) (gV : List V → List V → List V) (E : XK) (vs zs : List V) (H : Hp) (Q : VK) : Prop := vs.length = n ∧ zs.length = m ∧ sp (gV vs zs) H Q E
theorem g_cl {n m : Nat} {sp : Sp} {gV : List V → List V → List V} {E : XK} (h : tl σ H fun vs H1 => tr σ H1 fun zs H2 => aCl n m sp gV E vs zs H2 Q) : tCl n m sp gV E tl tr σ H Q := h
theorem g_aCl {n m : Nat} {sp : Sp} {gV : List V → List V → List V} {E : XK} {vs zs : List V} (h1 : vs.length = n) (h2 : zs.length = m) (q : sp (gV vs zs) H Q E) : aCl n m sp gV E vs zs H Q := ⟨h1, h2, q⟩
/-! loops -/
def aFor (J : It) (g : TG) (tb : TS) (D : Ends) (σ : St) (H : Hp) : Prop := ∃ W : Nat → Nat → St → Hp → Prop, (∃ m, W 0 m σ H) ∧ ∀ i m σ H, W i m σ H →
  (J.stop i H ∧ D.nx σ H) ∨ (J.go i H ∧ ∃ N : St → Hp → Prop, (∀ σ' H', N σ' H' → ∃ m', m' < m ∧ W (i + 1) m' σ' H') ∧ ∀ x H', J.yld i H x H' → g x σ H' fun σ2 H2 => tb { D with nx := N, ct := N, bk := D.nx } σ2 H2)
theorem g_for {wi : TI} {g : TG} (h : wi σ H fun J H1 => aFor J g t ⟨nx, rt, bk, ct⟩ σ H1) : tFor wi g t ⟨nx, rt, bk, ct⟩ σ H := h
theorem g_aFor {J : It} {n : Nat} {G : Hp → Prop} {Y : Nat → Hp → V → Hp → Prop} {g : TG} (w : Walk J n G Y) (Pv : Nat → St → Hp → Prop) (h0 : Pv 0 σ H) (hG : ∀ i σ H, i ≤ n → Pv i σ H → G H)
    (hs : ∀ i x σ H H', i < n → Pv i σ H → Y i H x H' → g x σ H' fun σ2 H2 => t ⟨Pv (i + 1), rt, nx, Pv (i + 1)⟩ σ2 H2) (hd : ∀ σ H, Pv n σ H → nx σ H) : aFor J g t ⟨nx, rt, bk, ct⟩ σ H :=
  for_it w (D := ⟨nx, rt, bk, ct⟩) Pv h0 hG hs hd
/-! what is walked, by its kind -/
def iAny (K : PySem.W.Frag) (te : TE) : TI := fun σ H R => te σ H fun x H1 => (∃ a, x = .ref a ∧ (∃ xs, SqL K H1 a xs) ∧ R (Itl K a) H1) ∨ (∃ a, x = .ref a ∧ (∃ xs, SqT K H1 a xs) ∧ R (Itt K a) H1) ∨ ∃ z, x = .str z ∧ R (Its z) H1
def aIter (K : PySem.W.Frag) (x : V) (H : Hp) (R : It → Hp → Prop) : Prop := (∃ a, x = .ref a ∧ (∃ xs, SqL K H a xs) ∧ R (Itl K a) H) ∨ (∃ a, x = .ref a ∧ (∃ xs, SqT K H a xs) ∧ R (Itt K a) H) ∨ ∃ z, x = .str z ∧ R (Its z) H
theorem g_iAny (h : te σ H fun x H1 => aIter K x H1 R) : iAny K te σ H R := h
theorem g_it_l {a : Addr} {xs : List V} (h : SqL K H a xs) (q : R (Itl K a) H) : aIter K (.ref a) H R := .inl ⟨a, rfl, ⟨xs, h⟩, q⟩
theorem g_it_t {a : Addr} {xs : List V} (h : SqT K H a xs) (q : R (Itt K a) H) : aIter K (.ref a) H R := .inr (.inl ⟨a, rfl, ⟨xs, h⟩, q⟩)
theorem g_it_s {z : Str} (q : R (Its z) H) : aIter K (.str z) H R := .inr (.inr ⟨z, rfl, q⟩)
theorem pi_any {X : Cx} {tg e : Expr} (he : PE X e te) : PI X tg e (iAny X.K te) := by
  refine ⟨fun pins s σ H R I h => ?_⟩
  refine thn (he.run pins s σ H _ I h) fun v s1 ⟨x, H1, I1, r1, q1⟩ => ?_
  rcases q1 with ⟨a, rfl, ⟨xs, hx⟩, q⟩ | ⟨a, rfl, ⟨xs, hx⟩, q⟩ | ⟨z, rfl, q⟩
  · cases r1
    obtain ⟨its, rv, p, hz⟩ := I1.list hx
    refine wpAny_pyIter_list p.isList ?_
    refine ⟨s1.heap.objs.size, [s1.heap.objs.size], _, _, H1, rfl, I1.kept (t' := s1.toks) fun b o e => Heap.get?_push_of_some _ e, turn_list a _, ⟨_, Heap.get?_push_size _ rfl, rfl, rfl⟩, fun b hb => ?_, q⟩
    obtain rfl : b = s1.heap.objs.size := by simpa using hb
    exact I1.fpOk (Nat.le_refl _) (I1.hok.fresh (Nat.le_refl _))
  · cases r1
    obtain ⟨its, rv, p, hz⟩ := I1.tuple hx
    refine wpAny_pyIter_tuple (show s1.heap.IsTuple a its.toArray from p) ?_
    refine ⟨s1.heap.objs.size, [s1.heap.objs.size], _, _, H1, rfl, I1.kept (t' := s1.toks) fun b o e => Heap.get?_push_of_some _ e, turn_tuple a _, ⟨_, Heap.get?_push_size _ rfl, rfl, rfl⟩, fun b hb => ?_, q⟩
    obtain rfl : b = s1.heap.objs.size := by simpa using hb
    exact I1.fpOk (Nat.le_refl _) (I1.hok.fresh (Nat.le_refl _))
  · obtain ⟨t, rfl⟩ := r1
    cases ha : z.cps.all (· < 128)
    · exact wpAny_pyIter_wide ha (pi_one (tk := s1.toks) I1 _ (turn_str _ z t "str_iterator" (.inr rfl)) ⟨_, Heap.get?_push_size _ rfl, rfl, rfl⟩ q)
    · exact wpAny_pyIter_ascii ha (pi_one (tk := s1.toks) I1 _ (turn_str _ z t "str_ascii_iterator" (.inl rfl)) ⟨_, Heap.get?_push_size _ rfl, rfl, rfl⟩ q)
def aRng1 (vs : List V) (H : Hp) (R : It → Hp → Prop) : Prop := ∃ j : Int, vs = [.int j] ∧ -(2 ^ 62) ≤ j ∧ j < 2 ^ 62 ∧ R (Itr 0 j.toNat) H
theorem g_rng1 (h : tl σ H fun vs H1 => aRng1 vs H1 R) : iRng1 tl σ H R := h
theorem g_aRng1 {j : Int} (h : 0 ≤ j ∧ j < 4000000000) (q : R (Itr 0 j.toNat) H) : aRng1 [.int j] H R := ⟨j, rfl, by omega, by omega, q⟩
def aRng2 (vs : List V) (H : Hp) (R : It → Hp → Prop) : Prop := ∃ i j : Int, vs = [.int i, .int j] ∧ (-(2 ^ 62) ≤ i ∧ i < 2 ^ 62 ∧ -(2 ^ 62) ≤ j ∧ j < 2 ^ 62) ∧ R (Itr i (j - i).toNat) H
theorem g_rng2 (h : tl σ H fun vs H1 => aRng2 vs H1 R) : iRng2 tl σ H R := h
theorem g_aRng2 {i j : Int} (h : -4000000000 ≤ i ∧ i < 4000000000 ∧ -4000000000 ≤ j ∧ j < 4000000000) (q : R (Itr i (j - i).toNat) H) : aRng2 [.int i, .int j] H R := ⟨i, j, rfl, by omega, q⟩
def aEnum (K : PySem.W.Frag) (vs : List V) (H : Hp) (R : It → Hp → Prop) : Prop := ∃ a xs, vs = [.ref a] ∧ SqL K H a xs ∧ R (Ite K a) H
theorem g_enum (h : tl σ H fun vs H1 => aEnum K vs H1 R) : iEnum K tl σ H R := h
theorem g_aEnum {a : Addr} {xs : List V} (h : SqL K H a xs) (q : R (Ite K a) H) : aEnum K [.ref a] H R := ⟨a, xs, rfl, h, q⟩
def aZip (K : PySem.W.Frag) (vs : List V) (H : Hp) (R : It → Hp → Prop) : Prop := ∃ a b xs ys, vs = [.ref a, .ref b] ∧ SqL K H a xs ∧ SqL K H b ys ∧ R (Itz K a b) H
theorem g_zip (h : tl σ H fun vs H1 => aZip K vs H1 R) : iZip K tl σ H R := h
theorem g_aZip {a b : Addr} {xs ys : List V} (h : SqL K H a xs) (h2 : SqL K H b ys) (q : R (Itz K a b) H) : aZip K [.ref a, .ref b] H R := ⟨a, b, xs, ys, rfl, h, h2, q⟩
end
end Bz
namespace Bz
open PySem PySem.Spec PyProof.Rows L2
/-- texts as they are handed in: short enough, plain signs -/
def plainS (z : Str) : Prop := z.length ≤ 100000 ∧ ∀ c ∈ z.cps.toList, c < 128
theorem plainS.len {z : Str} (h : plainS z) : z.length ≤ 1000000 := Nat.le_trans h.1 (by decide)
/-! ### readings that touch the heap, over what is known of it -/
section
variable {B B' : Hp} {M M' L L' : List (Addr × HO)}
variable {σ σ' : St} {H : Hp} {Q : VK} {v x y : V} {i : Nat} {ta tb tc te : TE} {D : Ends} {t u : TS} {c c' : TT} {K : PySem.W.Frag} {R : It → Hp → Prop}
variable {nx bk ct : St → Hp → Prop} {rt : VK} {QB : Bool → Hp → Prop} {QL : List V → Hp → Prop} {QS : St → Hp → Prop} {tl tr : TA} {r r' : R2}
theorem sz6 {n : Nat} (h : n ≤ 1000000) : n ≤ sizeLine := Nat.le_trans h (by decide)
theorem sz6' {n : Nat} (h : n < 1000000) : n < sizeLine := Nat.lt_of_lt_of_le h (by decide)
def aLst (xs : List V) (H : Hp) (Q : VK) : Prop := xs.length ≤ sizeLine ∧ ∀ p, H p = none → Q (.ref p) (upd H p (.lst xs))
def aTup (xs : List V) (H : Hp) (Q : VK) : Prop := xs.length ≤ sizeLine ∧ ∀ p, H p = none → Q (.ref p) (upd H p (.tup xs))
theorem g_lst (h : tl σ H fun xs H1 => aLst xs H1 Q) : tLst tl σ H Q := h
theorem g_tup (h : tl σ H fun xs H1 => aTup xs H1 Q) : tTup tl σ H Q := h
theorem g_aLst {xs : List V} (I : Is B M L H) (h : xs.length ≤ 1000000) (q : ∀ p H', Is B M ((p, .lst xs) :: L) H' → Q (.ref p) H') : aLst xs H Q :=
  ⟨sz6 h, fun p hp => q p _ (I.new hp)⟩
theorem g_aTup {xs : List V} (I : Is B M L H) (h : xs.length ≤ 1000000) (q : ∀ p H', Is B M ((p, .tup xs) :: L) H' → Q (.ref p) H') : aTup xs H Q :=
  ⟨sz6 h, fun p hp => q p _ (I.new hp)⟩
/-- list + list -/
theorem g_add_l {a b : Addr} {xs ys : List V} (I : Is B M L H) (ha : H a = some (.lst xs)) (hb : H b = some (.lst ys)) (h : xs.length + ys.length ≤ 1000000)
    (q : ∀ p H', Is B M ((p, .lst (xs ++ ys)) :: L) H' → Q (.ref p) H') : rAddA K (.ref a) (.ref b) H Q :=
  .inr (.inr (.inl ⟨a, b, xs, ys, rfl, rfl, ha, hb, sz6 h, fun p hp => q p _ (I.new hp)⟩))
theorem g_mul_l {a : Addr} {xs : List V} {n : Nat} (I : Is B M L H) (ha : H a = some (.lst xs)) (h : xs.length * n ≤ 1000000) (hn : n ≤ 1000000)
    (q : ∀ p H', Is B M ((p, .lst (List.replicate n xs).flatten) :: L) H' → Q (.ref p) H') : rMulA (.ref a) (.int (n : Int)) H Q :=
  .inr (.inr ⟨a, n, xs, rfl, rfl, ha, by omega, by omega, by rw [Int.toNat_natCast]; exact sz6 h, fun p hp => by rw [Int.toNat_natCast]; exact q p _ (I.new hp)⟩)
theorem g_sl_l {a : Addr} {xs : List V} {lo hi : Option Int} (I : Is B M L H) (ha : SqL K H a xs) (q : ∀ p H', Is B M ((p, .lst (cutV xs lo hi)) :: L) H' → Q (.ref p) H') : rSlA K (.ref a) lo hi H Q :=
  .inl ⟨a, xs, rfl, ha, fun p hp => q p _ (I.new hp)⟩
theorem g_sl_t {a : Addr} {xs : List V} {lo hi : Option Int} (I : Is B M L H) (ha : SqT K H a xs) (hn : ¬ (HT.sIx xs.length 0 lo = 0 ∧ HT.sIx xs.length xs.length hi = xs.length)) (q : ∀ p H', Is B M ((p, .tup (cutV xs lo hi)) :: L) H' → Q (.ref p) H') : rSlA K (.ref a) lo hi H Q :=
  .inr (.inr ⟨a, xs, rfl, ha, fun h => absurd h hn, fun _ p hp => q p _ (I.new hp)⟩)
theorem cutV_whole {xs : List V} {lo hi : Option Int} (h : HT.sIx xs.length 0 lo = 0 ∧ HT.sIx xs.length xs.length hi = xs.length) : cutV xs lo hi = xs := by
  unfold cutV
  rw [h.1, h.2, List.drop_zero, Nat.sub_zero, List.take_length]
/-- a part of a tuple, whatever part: what it is stays -/
theorem g_sl_tB {a : Addr} {xs : List V} {lo hi : Option Int} (I : Is B M L H) (ha : SqT K B a xs) (q : ∀ p B' H', Same B B' → Is B' M L H' → SqT K B' p (cutV xs lo hi) → Q (.ref p) H') : rSlA K (.ref a) lo hi H Q := by
  refine .inr (.inr ⟨a, xs, rfl, Is.st I ha, fun h => ?_, fun _ p hp => ?_⟩)
  · exact q a B H (fun _ _ e => e) I (by rw [cutV_whole h]; exact ha)
  · obtain ⟨h1, h2⟩ := (I.new (o := .tup (cutV xs lo hi)) hp).frz .here
    exact q p _ _ h2 h1 (SqT.of upd_same)
theorem g_add_t {a b : Addr} {xs ys : List V} (I : Is B M L H) (ha : SqT K H a xs) (hb : SqT K H b ys) (h0 : xs ≠ []) (h1 : ys ≠ []) (h : xs.length + ys.length ≤ 1000000)
    (q : ∀ p H', Is B M ((p, .tup (xs ++ ys)) :: L) H' → Q (.ref p) H') : rAddA K (.ref a) (.ref b) H Q :=
  .inr (.inr (.inr ⟨a, b, xs, ys, rfl, rfl, ha, hb, sz6 h, fun e => absurd e h0, fun _ e => absurd e h1, fun _ _ p hp => q p _ (I.new hp)⟩))
theorem g_add_tB {a b : Addr} {xs ys : List V} (I : Is B M L H) (ha : SqT K B a xs) (hb : SqT K B b ys) (h : xs.length + ys.length ≤ 1000000)
    (q : ∀ p B' H', Same B B' → Is B' M L H' → SqT K B' p (xs ++ ys) → Q (.ref p) H') : rAddA K (.ref a) (.ref b) H Q := by
  refine .inr (.inr (.inr ⟨a, b, xs, ys, rfl, rfl, Is.st I ha, Is.st I hb, sz6 h, fun e => ?_, fun _ e => ?_, fun _ _ p hp => ?_⟩))
  · exact q b B H (fun _ _ e => e) I (by rw [e]; exact hb)
  · exact q a B H (fun _ _ e => e) I (by rw [e, List.append_nil]; exact ha)
  · obtain ⟨h1, h2⟩ := (I.new (o := .tup (xs ++ ys)) hp).frz .here
    exact q p _ _ h2 h1 (SqT.of upd_same)
/-- new lists of texts -/
theorem g_newS {ys : List Str} (I : Is B M L H) (q : ∀ p H', Is B M ((p, .lst (ys.map V.str)) :: L) H' → Q (.ref p) H') : rNewStrs ys H Q := fun p hp => q p _ (I.new hp)
/-- append -/
theorem g_app {l : Addr} {xs : List V} (I : Is B M L H) (hl : H l = some (.lst xs)) (h : xs.length < 1000000) (u : Put l (.lst (xs ++ [v])) L L') (q : ∀ H', Is B M L' H' → Q .non H') : rAppend (.ref l) [v] H Q :=
  ⟨l, xs, v, rfl, rfl, hl, sz6' h, q _ (I.put u)⟩
theorem g_tyL {l : Addr} {xs : List V} {A : Prop} (hl : H l = some (.lst xs)) (h : A) : tyV K "list" (.ref l) H ∧ A := ⟨.inl ⟨rfl, xs, SqL.of hl⟩, h⟩
/-- xs[i] = v -/
def aSetL (o i v : V) (H : Hp) (Q : Hp → Prop) : Prop := rSetL o i v H Q
theorem g_sub {to ti : TE} {ts : TSet} (h : to σ H fun o H1 => ti σ H1 fun i H2 => ts o i v H2 fun H3 => QS σ H3) : gSub to ti ts v σ H QS := h
theorem g_setL {l : Addr} {xs : List V} {n : Int} {QH : Hp → Prop} (I : Is B M L H) (hl : H l = some (.lst xs)) (h0 : 0 ≤ n) (h1 : n < xs.length) (u : Put l (.lst (xs.set n.toNat v)) L L') (q : ∀ H', Is B M L' H' → QH H') : rSetL (.ref l) (.int n) v H QH :=
  ⟨l, xs, n, n.toNat, rfl, rfl, hl, ixN_of h0 h1, q _ (I.put u)⟩
theorem g_setLM {l : Addr} {xs : List V} {n : Int} {QH : Hp → Prop} (I : Is B M L H) (hl : H l = some (.lst xs)) (h0 : 0 ≤ n) (h1 : n < xs.length) (u : Put l (.lst (xs.set n.toNat v)) M M') (q : ∀ H', Is B M' L H' → QH H') : rSetL (.ref l) (.int n) v H QH :=
  ⟨l, xs, n, n.toNat, rfl, rfl, hl, ixN_of h0 h1, q _ (I.putM u)⟩
/-- unpacking a tuple -/
theorem g_gTup {a : Addr} {xs : List V} {n : Nat} {ts : TGs} (h : SqT K H a xs) (hl : xs.length = n) (q : ts xs σ H QS) : gTup K n ts (.ref a) σ H QS := ⟨a, xs, rfl, h, hl, q⟩
theorem g_gCons {g : TG} {ts : TGs} {rest : List V} (q : g v σ H fun σ' H' => ts rest σ' H' QS) : gCons g ts (v :: rest) σ H QS := ⟨v, rest, rfl, q⟩
theorem g_gNil (q : QS σ H) : gNil [] σ H QS := ⟨rfl, q⟩
/-! dicts with text keys -/
inductive KGet : List (Key × V) → Key → V → Prop
  | here {k : Key} {v : V} {l : List (Key × V)} : KGet ((k, v) :: l) k v
  | there {k k' : Key} {v v' : V} {l : List (Key × V)} : ¬ k' = k → KGet l k v → KGet ((k', v') :: l) k v
inductive NoKey (k : Key) : List (Key × V) → Prop
  | nil : NoKey k []
  | cons {k' : Key} {v' : V} {l : List (Key × V)} : ¬ k' = k → NoKey k l → NoKey k ((k', v') :: l)
inductive KPut (k : Key) (v : V) : List (Key × V) → List (Key × V) → Prop
  | here {u : V} {l : List (Key × V)} : NoKey k l → KPut k v ((k, u) :: l) ((k, v) :: l)
  | there {k' : Key} {u : V} {l l' : List (Key × V)} : ¬ k' = k → KPut k v l l' → KPut k v ((k', u) :: l) ((k', u) :: l')
theorem KGet.eq {kvs : List (Key × V)} {k : Key} (h : KGet kvs k v) : valV kvs k = some v := by
  induction h with
  | here => exact valV_pos rfl
  | there hne _ ih =>
    rw [valV_neg (show ¬ _ = _ from hne)]
    exact ih
theorem NoKey.map {k : Key} {kvs : List (Key × V)} (h : NoKey k kvs) : kvs.map (fun kv => if kv.1 = k then (kv.1, v) else kv) = kvs := by
  induction h with
  | nil => rfl
  | cons hne _ ih => rw [List.map_cons, if_neg hne, ih]
theorem KPut.any {k : Key} {kvs kvs' : List (Key × V)} (h : KPut k v kvs kvs') : (kvs.any fun kv => decide (kv.1 = k)) = true ∧ kvs.map (fun kv => if kv.1 = k then (kv.1, v) else kv) = kvs' := by
  induction h with
  | here hn =>
    refine ⟨by simp, ?_⟩
    rw [List.map_cons, if_pos rfl, hn.map]
  | there hne _ ih =>
    refine ⟨by rw [List.any_cons, ih.1, Bool.or_true], ?_⟩
    rw [List.map_cons, if_neg hne, ih.2]
theorem KPut.eq {k : Key} {kvs kvs' : List (Key × V)} (h : KPut k v kvs kvs') : putK kvs k v = kvs' := by
  unfold putK
  rw [if_pos h.any.1]
  exact h.any.2
def aDGet (x y : V) (H : Hp) (Q : VK) : Prop := ∃ a v, x = .ref a ∧ DGet H a y (some v) ∧ Q v H
theorem g_dget {td ty : TE} (h : td σ H fun x H1 => ty σ H1 fun y H2 => aDGet x y H2 Q) : tDGet td ty σ H Q := h
theorem g_aDGet {a : Addr} {kvs : List (Key × V)} {z : Str} (h : H a = some (.dK kvs)) (e : KGet kvs (Sum.inr z) v) (q : Q v H) : aDGet (.ref a) (.str z) H Q :=
  ⟨a, v, rfl, .inl ⟨kvs, .inr z, .inl h, rfl, e.eq.symm⟩, q⟩
def aDPut (v x y : V) (H : Hp) (Q : Hp → Prop) : Prop := ∃ a H4, x = .ref a ∧ DPut H a y v H4 ∧ Q H4
theorem g_dput {td ty tv : TE} (h : tv σ H fun v H1 => td σ H1 fun x H2 => ty σ H2 fun y H3 => aDPut v x y H3 fun H4 => nx σ H4) : sDPut td ty tv ⟨nx, rt, bk, ct⟩ σ H := by
  exact h
theorem g_aDPut {a : Addr} {kvs kvs' : List (Key × V)} {z : Str} {QH : Hp → Prop} (I : Is B M L H) (h : H a = some (.dK kvs)) (hz : kvs.length < 100000) (kp : KPut (Sum.inr z) v kvs kvs') (u : Put a (.dK kvs') L L') (q : ∀ H', Is B M L' H' → QH H') : aDPut v (.ref a) (.str z) H QH :=
  ⟨a, _, rfl, .inl ⟨kvs, .inr z, h, rfl, sz6' (by omega), rfl⟩, q _ (by rw [kp.eq]; exact I.put u)⟩
theorem g_aDPutM {a : Addr} {kvs kvs' : List (Key × V)} {z : Str} {QH : Hp → Prop} (I : Is B M L H) (h : H a = some (.dK kvs)) (hz : kvs.length < 100000) (kp : KPut (Sum.inr z) v kvs kvs') (u : Put a (.dK kvs') M M') (q : ∀ H', Is B M' L H' → QH H') : aDPut v (.ref a) (.str z) H QH :=
  ⟨a, _, rfl, .inl ⟨kvs, .inr z, h, rfl, sz6' (by omega), rfl⟩, q _ (by rw [kp.eq]; exact I.putM u)⟩
/-! a written dict -/
inductive Snoc {α : Type} (x : α) : List α → List α → Prop
  | nil : Snoc x [] [x]
  | cons {a : α} {l l' : List α} : Snoc x l l' → Snoc x (a :: l) (a :: l')
theorem Snoc.eq {α : Type} {x : α} : ∀ {l l' : List α}, Snoc x l l' → l ++ [x] = l'
  | _, _, .nil => rfl
  | _, _, .cons h => by rw [List.cons_append, h.eq]
inductive Mrg : List (Key × V) → List (V × V) → List (Key × V) → Prop
  | nil {l : List (Key × V)} : Mrg l [] l
  | str {l l' r : List (Key × V)} {z : Str} {v : V} {more : List (V × V)} : NoKey (Sum.inr z) l → Snoc (Sum.inr z, v) l l' → Mrg l' more r → Mrg l ((.str z, v) :: more) r
  | int {l l' r : List (Key × V)} {n : Int} {v : V} {more : List (V × V)} : NoKey (Sum.inl n) l → Snoc (Sum.inl n, v) l l' → Mrg l' more r → Mrg l ((.int n, v) :: more) r
theorem NoKey.any {k : Key} {kvs : List (Key × V)} (h : NoKey k kvs) : (kvs.any fun kv => decide (kv.1 = k)) = false := by
  induction h with
  | nil => rfl
  | cons hne _ ih => rw [List.any_cons, decide_eq_false hne, ih]; rfl
theorem NoKey.put {k : Key} {kvs : List (Key × V)} (h : NoKey k kvs) : putK kvs k v = kvs ++ [(k, v)] := by
  unfold putK
  rw [h.any]
  rfl
theorem Mrg.eq {l : List (Key × V)} {ps : List (V × V)} {r : List (Key × V)} (h : Mrg l ps r) : ∃ kvs : List (Key × V), ps = kvs.map (fun kv => (kV kv.1, kv.2)) ∧ mergeK l kvs = r ∧ kvs.length = ps.length := by
  induction h with
  | nil => exact ⟨[], rfl, rfl, rfl⟩
  | @str l l' r z v more hn hs _ ih =>
    obtain ⟨kvs, e1, e2, e3⟩ := ih
    refine ⟨(Sum.inr z, v) :: kvs, by rw [e1]; rfl, ?_, by simp [e3]⟩
    show mergeK (putK l (Sum.inr z) v) kvs = r
    rw [hn.put, hs.eq]
    exact e2
  | @int l l' r n v more hn hs _ ih =>
    obtain ⟨kvs, e1, e2, e3⟩ := ih
    refine ⟨(Sum.inl n, v) :: kvs, by rw [e1]; rfl, ?_, by simp [e3]⟩
    show mergeK (putK l (Sum.inl n) v) kvs = r
    rw [hn.put, hs.eq]
    exact e2
def aDisp (p : Addr) (ps : List (V × V)) (H : Hp) (Q : VK) : Prop := H p = some (.dK []) ∧ ∃ kvs : List (Key × V), ps = kvs.map (fun kv => (kV kv.1, kv.2)) ∧ kvs.length ≤ 15 ∧ Q (.ref p) (upd H p (.dK (mergeK [] kvs)))
theorem g_disp {trs : List (TE × TE)} (I : Is B M L H) (q : ∀ p H', Is B M ((p, .dK []) :: L) H' → tPairs trs σ H' fun ps H2 => aDisp p ps H2 Q) : tDisp trs σ H Q := fun p hp => q p _ (I.new hp)
theorem g_pnil {QP : List (V × V) → Hp → Prop} (q : QP [] H) : tPairs [] σ H QP := q
theorem g_pcons {tk tv : TE} {r : List (TE × TE)} {QP : List (V × V) → Hp → Prop} (q : tk σ H fun x H1 => tv σ H1 fun y H2 => tPairs r σ H2 fun ps H3 => QP ((x, y) :: ps) H3) : tPairs ((tk, tv) :: r) σ H QP := q
theorem g_aDisp {p : Addr} {ps : List (V × V)} {kvs : List (Key × V)} (I : Is B M L H) (h : H p = some (.dK [])) (m : Mrg [] ps kvs) (hz : ps.length ≤ 15) (u : Put p (.dK kvs) L L') (q : ∀ H', Is B M L' H' → Q (.ref p) H') : aDisp p ps H Q := by
  obtain ⟨k, e1, e2, e3⟩ := m.eq
  refine ⟨h, k, e1, by omega, ?_⟩
  rw [e2]
  exact q _ (I.put u)
theorem g_newK (I : Is B M L H) (q : ∀ p H', Is B M ((p, .dK []) :: L) H' → Q (.ref p) H') : tDNewK σ H Q := fun p hp => q p _ (I.new hp)
/-- an owned thing told as M -/
theorem Is.pull {a : Addr} {o : HO} (I : Is B M L H) (d : Del a o L L') : Is B ((a, o) :: M) L' H := by
  have pm : (L ++ M).Perm (L' ++ ((a, o) :: M)) := (d.perm.append_right M).trans List.perm_middle.symm
  exact ⟨I.ex, fun q hq => I.own q (pm.mem_iff.mpr hq), (pm.map (·.1)).nodup_iff.mp I.nd⟩
/-- given away, as one asks it -/
theorem Is.give {a : Addr} {o : HO} {G : Prop} (I : Is B M L H) (d : Del a o L L') (k : ∀ B', Same B B' → B' a = some o → Is B' M L' H → G) : G := by
  obtain ⟨h1, h2⟩ := I.frz d
  exact k _ h2 upd_same h1
/-! comprehensions: P of the turn, what is made so far, what stays and M -/
def aLc (J : It) (g : TG) (tt : TT) (te : TE) (vs : List Nat) (σ : St) (H1 : Hp) (Q : VK) : Prop :=
  ∀ D, H1 D = none → ∃ W : Nat → Nat → Hp → Prop, (∃ m, W 0 m (upd H1 D (.lst []))) ∧ ∀ i m H, W i m H →
    (J.stop i H ∧ Q (.ref D) H) ∨ (J.go i H ∧ ∃ Nx : Hp → Prop, (∀ H', Nx H' → ∃ m', m' < m ∧ W (i + 1) m' H') ∧ ∀ x H', J.yld i H x H' → g x (wipe σ vs) H' fun σ2 H2 => wipe σ2 vs = wipe σ vs ∧ tt σ2 H2 fun b H3 =>
      if b = true then te σ2 H3 fun y H4 => ∃ acc, H4 D = some (.lst acc) ∧ acc.length < sizeLine ∧ Nx (upd H4 D (.lst (acc ++ [y]))) else Nx H3)
theorem g_lc {wi : TI} {g : TG} {tt : TT} {vs : List Nat} (h : wi σ H fun J H1 => aLc J g tt te vs σ H1 Q) : tLc wi g tt te vs σ H Q := h
/-- between two turns; at a turn's end with an item, without one -/
def LcI (P : Nat → List V → Hp → List (Addr × HO) → Prop) (B : Hp) (L : List (Addr × HO)) (D : Addr) (i : Nat) (H : Hp) : Prop :=
  ∃ acc B' M', Same B B' ∧ acc.length ≤ i ∧ i ≤ 900000 ∧ Is B' M' ((D, .lst acc) :: L) H ∧ P i acc B' M'
def LcY (P : Nat → List V → Hp → List (Addr × HO) → Prop) (B : Hp) (L : List (Addr × HO)) (D : Addr) (i : Nat) (y : V) (H : Hp) : Prop :=
  ∃ acc, H D = some (.lst acc) ∧ acc.length < sizeLine ∧ LcI P B L D (i + 1) (upd H D (.lst (acc ++ [y])))
theorem lcY {P : Nat → List V → Hp → List (Addr × HO) → Prop} {D : Addr} {acc : List V} (s : Same B B') (I : Is B' M' ((D, .lst acc) :: L) H) (hl : acc.length ≤ i ∧ i < 900000) (p : P (i + 1) (acc ++ [y]) B' M') : LcY P B L D i y H :=
  ⟨acc, I.get List.mem_cons_self, sz6' (by omega), acc ++ [y], B', M', s, by rw [List.length_append]; simpa using hl.1, by omega, I.put .here, p⟩
theorem lcN {P : Nat → List V → Hp → List (Addr × HO) → Prop} {D : Addr} {acc : List V} (s : Same B B') (I : Is B' M' ((D, .lst acc) :: L) H) (hl : acc.length ≤ i ∧ i < 900000) (p : P (i + 1) acc B' M') : LcI P B L D (i + 1) H :=
  ⟨acc, B', M', s, by omega, by omega, I, p⟩
theorem g_aLc {J : It} {n : Nat} {G : Hp → Prop} {Y : Nat → Hp → V → Hp → Prop} {g : TG} {tt : TT} {vs : List Nat} {σ0 : St} (w : Walk J n G Y) (I : Is B M L H) (hw : Wiped σ vs σ0) (hz : n ≤ 900000)
    (P : Nat → List V → Hp → List (Addr × HO) → Prop) (h0 : P 0 [] B M)
    (hG : ∀ i acc B' M' D H', i ≤ n → Same B B' → Is B' M' ((D, .lst acc) :: L) H' → P i acc B' M' → G H')
    (hs : ∀ i x acc B' M' D H' H'', i < n → Same B B' → Is B' M' ((D, .lst acc) :: L) H' → P i acc B' M' → Y i H' x H'' → (acc.length ≤ i ∧ i < 900000) →
      g x σ0 H'' fun σ2 H2 => wipe σ2 vs = σ0 ∧ tt σ2 H2 fun b H3 => if b = true then te σ2 H3 fun y H4 => LcY P B L D i y H4 else LcI P B L D (i + 1) H3)
    (hd : ∀ acc B' M' D H', Same B B' → Is B' M' ((D, .lst acc) :: L) H' → P n acc B' M' → acc.length ≤ n → Q (.ref D) H') : aLc J g tt te vs σ H Q := by
  intro D hD
  refine lc_it w (fun i H' => LcI P B L D i H') ⟨[], B, M, Same.refl B, Nat.le_refl _, by omega, I.new hD, h0⟩ ?_ ?_ ?_
  · rintro i H' hi ⟨acc, B', M', s, hl, _, I', p⟩
    exact hG i acc B' M' D H' hi s I' p
  · rintro i x H' H'' hi ⟨acc, B', M', s, hl, _, I', p⟩ yy
    rw [hw.eq]
    exact hs i x acc B' M' D H' H'' hi s I' p yy ⟨hl, by omega⟩
  · rintro H' ⟨acc, B', M', s, hl, _, I', p⟩
    exact hd acc B' M' D H' s I' p hl
/-- a comprehension that neither draws nor changes: (xs.filter p).map f -/
theorem g_lcM {J : It} {xs : List V} {G : Hp → Prop} {g : TG} {tt : TT} {vs : List Nat} {σ0 : St} (w : Walk J xs.length G (YAt xs)) (I : Is B M L H) (hw : Wiped σ vs σ0) (hz : xs.length ≤ 900000) (p : V → Bool) (f : V → V)
    (hG : ∀ D acc H', Is B M ((D, .lst acc) :: L) H' → G H')
    (hs : ∀ (i : Nat) (x : V) (D : Addr) (acc : List V) (H' : Hp), xs[i]? = some x → Is B M ((D, .lst acc) :: L) H' → ∀ (PY : V → Hp → Prop) (PN : Hp → Prop), (∀ H4, p x = true → Is B M ((D, .lst acc) :: L) H4 → PY (f x) H4) → (∀ H3, p x = false → Is B M ((D, .lst acc) :: L) H3 → PN H3) →
      g x σ0 H' fun σ2 H2 => wipe σ2 vs = σ0 ∧ tt σ2 H2 fun b H3 => if b = true then te σ2 H3 fun y H4 => PY y H4 else PN H3)
    (hd : ∀ D H', Is B M ((D, .lst ((xs.filter p).map f)) :: L) H' → Q (.ref D) H') : aLc J g tt te vs σ H Q := by
  refine g_aLc w I hw hz (fun i acc B' M' => B' = B ∧ M' = M ∧ acc = ((xs.take i).filter p).map f) ⟨rfl, rfl, rfl⟩ ?_ ?_ ?_
  · rintro i acc B' M' D H' _ s I' ⟨rfl, rfl, rfl⟩
    exact hG D _ H' I'
  · rintro i x acc B' M' D H' H'' hi s I' ⟨rfl, rfl, e⟩ ⟨rfl, hx⟩ hl
    refine hs i x D acc H'' hx I' _ _ (fun H4 hp I4 => lcY s I4 hl ⟨rfl, rfl, ?_⟩) fun H3 hp I3 => lcN s I3 hl ⟨rfl, rfl, ?_⟩
    · rw [List.take_add_one, hx, e]
      show _ = List.map f (List.filter p (xs.take i ++ [x]))
      rw [List.filter_append, List.map_append, List.filter_cons, if_pos hp]
      rfl
    · rw [List.take_add_one, hx, e]
      show _ = List.map f (List.filter p (xs.take i ++ [x]))
      rw [List.filter_append, List.map_append, List.filter_cons, if_neg (by rw [hp]; exact Bool.false_ne_true)]
      simp
  · rintro acc B' M' D H' s I' ⟨rfl, rfl, rfl⟩ _
    rw [List.take_length] at I'
    exact hd D H' I'
/-- signs of a text -/
def sg (c : Nat) : V := .str ⟨#[c]⟩
def signs (z : Str) : List V := z.cps.toList.map sg
theorem signs_len (z : Str) : (signs z).length = z.length := by unfold signs; rw [List.length_map]; rfl
theorem walkS {z : Str} : Walk (Its z) (signs z).length (fun _ => True) (YAt (signs z)) := by
  have w := walk_str (z := z)
  have e : z.cps.size = (signs z).length := by unfold signs; simp
  rw [e] at w
  refine w.mono (fun _ _ => trivial) fun i H x H' hi _ y => ?_
  obtain ⟨h1, c, h2, h3⟩ := y
  refine ⟨h1, ?_⟩
  unfold signs
  rw [List.getElem?_map, ← Array.getElem?_toList] at *
  rw [h2, h3]
  rfl
def rng (lo : Int) (n : Nat) : List V := (List.range n).map fun (i : Nat) => V.int (lo + (i : Int))
theorem rng_len (lo : Int) (n : Nat) : (rng lo n).length = n := by unfold rng; simp
theorem walkR {lo : Int} {n : Nat} : Walk (Itr lo n) (rng lo n).length (fun _ => True) (YAt (rng lo n)) := by
  have w := walk_range (lo := lo) (n := n)
  rw [rng_len]
  refine w.mono (fun _ _ => trivial) fun i H x H' hi _ y => ?_
  obtain ⟨h1, h2⟩ := y
  refine ⟨h1, ?_⟩
  unfold rng
  rw [List.getElem?_map, List.getElem?_range hi, h2]
  rfl
theorem signs_mem {z : Str} {x : V} {i : Nat} (h : (signs z)[i]? = some x) : ∃ c, c ∈ z.cps.toList ∧ x = .str ⟨#[c]⟩ := by
  unfold signs at h
  rw [List.getElem?_map] at h
  cases e : z.cps.toList[i]? with
  | none => rw [e] at h; cases h
  | some c => rw [e] at h; exact ⟨c, List.mem_of_getElem? e, (Option.some.inj h).symm⟩
def unsg (f : Nat → V) (v : V) : V := match v with
  | .str y => f (y.cps.getD 0 0)
  | _ => .non
def unsgB (f : Nat → Bool) (v : V) : Bool := match v with
  | .str y => f (y.cps.getD 0 0)
  | _ => false
theorem map_unsg (f : Nat → V) : ∀ l : List Nat, (l.map sg).map (unsg f) = l.map f
  | [] => rfl
  | c :: l => by rw [List.map_cons, List.map_cons, List.map_cons, map_unsg f l]; rfl
theorem filter_unsg (p : Nat → Bool) : ∀ l : List Nat, (l.map sg).filter (unsgB p) = (l.filter p).map sg
  | [] => rfl
  | c :: l => by
    have e : unsgB p (sg c) = p c := rfl
    rw [List.map_cons, List.filter_cons, List.filter_cons, e, filter_unsg p l]
    cases p c <;> simp
/-- over a text's signs, with a test -/
theorem g_lcS {z : Str} {g : TG} {tt : TT} {vs : List Nat} {σ0 : St} (I : Is B M L H) (hw : Wiped σ vs σ0) (hz : z.length ≤ 900000) (p : Nat → Bool) (f : Nat → V)
    (hs : ∀ (c : Nat) (D : Addr) (acc : List V) (H' : Hp), c ∈ z.cps.toList → Is B M ((D, .lst acc) :: L) H' → ∀ (PY : V → Hp → Prop) (PN : Hp → Prop), (∀ H4, p c = true → Is B M ((D, .lst acc) :: L) H4 → PY (f c) H4) → (∀ H3, p c = false → Is B M ((D, .lst acc) :: L) H3 → PN H3) →
      g (.str ⟨#[c]⟩) σ0 H' fun σ2 H2 => wipe σ2 vs = σ0 ∧ tt σ2 H2 fun b H3 => if b = true then te σ2 H3 fun y H4 => PY y H4 else PN H3)
    (hd : ∀ D H', Is B M ((D, .lst ((z.cps.toList.filter p).map f)) :: L) H' → Q (.ref D) H') : aLc (Its z) g tt te vs σ H Q := by
  refine g_lcM walkS I hw (by rw [signs_len]; exact hz) (unsgB p) (unsg f) (fun _ _ _ _ => trivial) ?_ ?_
  · intro i x D acc H' hx hI' PY PN hY hN
    obtain ⟨c, hc, rfl⟩ := signs_mem hx
    exact hs c D acc H' hc hI' PY PN hY hN
  · intro D H' hI'
    have e : (List.filter (unsgB p) (signs z)).map (unsg f) = (z.cps.toList.filter p).map f := by
      unfold signs
      rw [filter_unsg, map_unsg]
    rw [e] at hI'
    exact hd D H' hI'
/-- .. without one -/
theorem g_lcS1 {z : Str} {g : TG} {vs : List Nat} {σ0 : St} (I : Is B M L H) (hw : Wiped σ vs σ0) (hz : z.length ≤ 900000) (f : Nat → V)
    (hs : ∀ (c : Nat) (D : Addr) (acc : List V) (H' : Hp), c ∈ z.cps.toList → Is B M ((D, .lst acc) :: L) H' → ∀ (PY : V → Hp → Prop), (∀ H4, Is B M ((D, .lst acc) :: L) H4 → PY (f c) H4) →
      g (.str ⟨#[c]⟩) σ0 H' fun σ2 H2 => wipe σ2 vs = σ0 ∧ te σ2 H2 fun y H4 => PY y H4)
    (hd : ∀ D H', Is B M ((D, .lst (z.cps.toList.map f)) :: L) H' → Q (.ref D) H') : aLc (Its z) g tYes te vs σ H Q := by
  refine g_lcS I hw hz (fun _ => true) f ?_ ?_
  · intro c D acc H' hc hI' PY PN hY hN
    exact hs c D acc H' hc hI' PY fun H4 => hY H4 rfl
  · intro D H' hI'
    have e : z.cps.toList.filter (fun _ => true) = z.cps.toList := List.filter_eq_self.mpr fun _ _ => rfl
    rw [e] at hI'
    exact hd D H' hI'
theorem g_all {α : Type} {D : Addr} {l : List α} {P : α → Bool} (h : SqL K H D (l.map fun c => V.bl (P c))) (q : Q (.bl (l.all P)) H) : rAll K [.ref D] H Q := by
  refine ⟨D, l.map P, rfl, ?_, ?_⟩
  · rw [List.map_map]
    exact h
  · rw [List.all_map]
    exact q
theorem g_wiped {σ1 : St} {vs : List Nat} {A : Prop} (w : Wiped σ vs σ1) (h : A) : wipe σ vs = σ1 ∧ A := ⟨w.eq, h⟩
theorem g_yes (h : QB true H) : tYes σ H QB := h
theorem g_true {A E : Prop} (h : A) : if true = true then A else E := by rw [if_pos rfl]; exact h
theorem g_false {A E : Prop} (h : E) : if false = true then A else E := by rw [if_neg Bool.false_ne_true]; exact h
theorem g_ntrue {A E : Prop} (h : E) : if (!true) = true then A else E := g_false h
theorem g_nfalse {A E : Prop} (h : A) : if (!false) = true then A else E := g_true h
theorem g_dec {p : Prop} [Decidable p] {A E : Prop} (h1 : p → A) (h2 : ¬ p → E) : if decide p = true then A else E := by
  by_cases h : p
  · rw [decide_eq_true h]
    exact g_true (h1 h)
  · rw [decide_eq_false h]
    exact g_false (h2 h)
theorem g_ndec {p : Prop} [Decidable p] {A E : Prop} (h1 : ¬ p → A) (h2 : p → E) : if (!decide p) = true then A else E := by
  by_cases h : p
  · rw [decide_eq_true h]
    exact g_false (h2 h)
  · rw [decide_eq_false h]
    exact g_true (h1 h)
theorem g_b {b : Bool} {A E : Prop} (h1 : b = true → A) (h2 : b = false → E) : if b = true then A else E := by
  cases b with
  | true => exact g_true (h1 rfl)
  | false => exact g_false (h2 rfl)
theorem g_nb {b : Bool} {A E : Prop} (h1 : b = false → A) (h2 : b = true → E) : if (!b) = true then A else E := by
  cases b with
  | true => exact g_false (h2 rfl)
  | false => exact g_true (h1 rfl)
end
end Bz
namespace Bz
open PySem PySem.Spec PyProof.Rows L2
/-! ### rules by their own names -/
def rIntS : List V → Hp → VK → Prop := fun xs H Q => ∃ a n, xs = [.str a] ∧ PySem.intText? a = some n ∧ a.length ≤ 640 ∧ Q (.int n) H
def rStrI : List V → Hp → VK → Prop := fun xs H Q => ∃ i, xs = [.int i] ∧ i.natAbs.log2 < 1920 ∧ Q (.str (toString i)) H
def rSplit : V → List V → Hp → VK → Prop := fun x xs H Q => ∃ a b, x = .str a ∧ xs = [.str b] ∧ (b.length == 0) = false ∧ a.length + 2 ≤ sizeLine ∧ rNewStrs (Txt.split a b) H Q
def rJoin (K : PySem.W.Frag) : V → List V → Hp → VK → Prop := fun x xs H Q => ∃ a p, ∃ ys : List Str, x = .str a ∧ xs = [.ref p] ∧ (SqL K H p (ys.map V.str) ∨ SqT K H p (ys.map V.str)) ∧ (ys.map (·.length)).sum + ys.length * a.length ≤ 16777216 ∧ Q (.str (Txt.join a ys)) H
def rIndexS : V → List V → Hp → VK → Prop := fun x xs H Q => ∃ a b k, x = .str a ∧ xs = [.str b] ∧ Txt.index0 a b = some k ∧ Q (.int (k : Nat)) H
def rListOf (K : PySem.W.Frag) : List V → Hp → VK → Prop := fun xs H Q => ∃ p ys, xs = [.ref p] ∧ (SqL K H p ys ∨ SqT K H p ys) ∧ ∀ l, H l = none → Q (.ref l) (upd H l (.lst ys))
section
variable {X : Cx}
theorem cl_intS : CallR X (.type "int") rIntS := call_int_str
theorem cl_strI : CallR X (.type "str") rStrI := call_str_int
theorem cl_listOf : CallR X (.type "list") (rListOf X.K) := call_list_of
theorem mt_indexS : MtR X "str.index" rIndexS := by
  intro pins s σ H x xs v us Q I rx rs h
  obtain ⟨a, b, k, rfl, rfl, hk, q⟩ := h
  obtain ⟨t, rfl⟩ := rx
  cases rs with
  | cons r1 rs =>
    cases rs
    obtain ⟨u, rfl⟩ := r1
    cases e : Builtin.Str.occurrences a b 0 a.length 1 with
    | nil =>
      unfold Txt.index0 at hk
      rw [e] at hk
      cases hk
    | cons j rest =>
      have ej : j = k := by
        unfold Txt.index0 at hk
        rw [e] at hk
        exact Option.some.inj hk
      subst ej
      exact PySem.SC.index e ⟨.int (j : Nat), H, I.tok _, ⟨_, rfl⟩, q⟩
/-- tuple * int -/
def rRepTT (K : PySem.W.Frag) : R2 := fun x y H Q => ∃ l k xs, x = .ref l ∧ y = .int k ∧ SqT K H l xs ∧ xs ≠ [] ∧ 2 ≤ k ∧ k ≤ 100000 ∧ xs.length ≤ 10 ∧ ∀ p, H p = none → Q (.ref p) (upd H p (.tup (List.replicate k.toNat xs).flatten))
theorem op_repTT : OpR X (binaryOp .Mult) (rRepTT X.K) := by
  intro pins s σ H x y v u Q I rx ry h
  obtain ⟨l, k, xs, rfl, rfl, hT, hne, h1, h2, hz, q⟩ := h
  cases rx
  obtain ⟨t, rfl⟩ := ry
  obtain ⟨its, r, ⟨⟨cls, dd, data, sl⟩, ho, hc, n, hd⟩, hs⟩ := I.tuple hT
  simp only at hc hd
  subst hc hd
  have hle : its.length = xs.length := r.length.symm
  have hi : its.toArray.isEmpty = false := by
    cases its with
    | nil => exact absurd (List.eq_nil_of_length_eq_zero hle.symm) hne
    | cons a b => rfl
  have hsz0 : its.toArray.size = xs.length := by rw [List.size_toArray, hle]
  have hm : ((its.toArray.size : Nat) : Int) * k ≤ 1000000 := by
    rw [hsz0]
    have a1 : ((xs.length : Nat) : Int) * k ≤ 10 * k := Int.mul_le_mul_of_nonneg_right (by omega) (by omega)
    omega
  have flen : k.toNat * its.length ≤ 1000000 := by
    have a1 : k.toNat * its.length ≤ 100000 * 10 := Nat.mul_le_mul (by omega) (by omega)
    omega
  have e0 := sizeLine_eq
  have c0 : (decide (k < -(2 ^ 63)) || decide (k ≥ 2 ^ 63)) = false := by
    rw [decide_eq_false (by omega), decide_eq_false (by omega)]
    rfl
  have c1 : (its.toArray.isEmpty || k == 1) = false := by rw [hi, Bool.false_or]; exact beq_eq_false_iff_ne.mpr (by omega)
  have c2 : (decide (k ≤ 0) || its.toArray.isEmpty) = false := by rw [hi, Bool.or_false]; exact decide_eq_false (by omega)
  have c4 : Builtin.Tuple.tupleTooMany (((its.toArray.size : Nat) : Int) * k) = false := by
    unfold Builtin.Tuple.tupleTooMany
    exact decide_eq_false (by omega)
  have g2 := call_meets (prog := X.prog) (w := X.w) (A := X.A) (E := X.xe) (s := s) (Q := EP X pins σ Q) PySem.F.slot_tuple_mul (show s.TypeIs (.ref l) "tuple" from ⟨_, ho, rfl⟩) PySem.F.entry_tuple_mul (PySem.F.args_tuple_mul_2 _ _)
    (tuple_mulW l its.toArray n dd sl k t c0 c1 c2 (by omega) c4 (by rw [size_rep, List.size_toArray, PyProof.Rows.lm_len_rep_flat]; omega)) ⟨ho, by
      rw [size_rep]
      refine ⟨.ref s.heap.objs.size, _, I.laid (t' := s.toks) (o := .tup (List.replicate k.toNat xs).flatten) (fun b ob q => Heap.get?_push_of_some _ q) (Nat.le_refl _) ?_, rfl, q _ (I.hok.fresh (Nat.le_refl _))⟩
      exact ⟨by rw [PyProof.Rows.lm_len_rep_flat, ← hle]; omega, _, r.rep k.toNat, IsTup.new _ _⟩⟩
  exact wpAny_binaryOp_repeat_ref (T := "tuple") (U := "int") (by decide) ⟨_, ho, rfl⟩ (fun s' => typeIs_int s' k t) noFill_tuple_mul PySem.F.fills_int_mul PySem.F.slot_int_rmul repeat_tuple PySem.F.slot_int_index.lookup
    (call_meets PySem.F.slot_int_rmul (typeIs_int s k t) PySem.F.entry_int_rmul (PySem.F.args_int_rmul_2 _ _) (int_rmul_tuple k t l its.toArray n dd sl) ⟨ho, rfl, ⟨_, ho, rfl⟩, g2⟩)
/-! the module's names -/
theorem pe_gI {x : Str} {i : Int} {pos : Pos} (h : ∃ t, X.mg x = some (.int i t)) (gl : Gl X x := by rfl) (hd : (x == ("__debug__" : Str)) = false := by decide) : PE X (.Name x pos) (tC (.int i)) := by
  obtain ⟨t, h⟩ := h
  exact pe_glob gl h ⟨_, rfl⟩ hd
theorem pe_gS {x z : Str} {pos : Pos} (h : ∃ t, X.mg x = some (.str z t)) (gl : Gl X x := by rfl) (hd : (x == ("__debug__" : Str)) = false := by decide) : PE X (.Name x pos) (tC (.str z)) := by
  obtain ⟨t, h⟩ := h
  exact pe_glob gl h ⟨_, rfl⟩ hd
theorem pe_gR {x : Str} {a : Addr} {pos : Pos} (h : X.mg x = some (.ref a)) (gl : Gl X x := by rfl) (hd : (x == ("__debug__" : Str)) = false := by decide) : PE X (.Name x pos) (tC (.ref a)) := pe_glob gl h rfl hd
end
/-! ### calls of the text's defs -/
structure CallOk (P : Program) (w : World) (K : PySem.W.Frag) (mg : Str → Option Value) (base : Heap) (CX : CXT) (k : Nat) (x : Str) (n : Nat) (ks : List Str) (sp : Sp) (gV : List V → List V → List V) : Prop where
  ok : ∃ fd ps g, FnG P w K mg base CX k (He.ga K x) fd ps sp ∧ KBn K fd ps n ks g gV
  at_ : mg x = some (.ref (He.ga K x))
  kp : PySem.W.keepIn K (.ref (He.ga K x)) = true
section
variable {X : Cx} {CX : CXT} {k k' n : Nat} {ks : List Str} {sp : Sp} {E : XK} {x : Str} {p pos : Pos} {e : Expr} {es : List Expr} {kws : List Keyword} {t tk : TA} {gV : List V → List V → List V}
theorem pe_ca (c : CallOk X.prog X.w X.K X.mg X.base CX k x n ks sp gV) (hr : Room k' X.A) (hk : k ≤ k') (hg : X.A.guards = some []) (gl : Gl X x) (hx : Passes CX X E) (ha : PA X (e :: es) t) (hkw : PK X kws tk)
    (h1 : (backToKw pos (keywordEach kws X.env)).all (·.1.isSome) = true := by rfl) (h2 : (backToKw pos (keywordEach kws X.env)).filterMap (·.1) = ks := by rfl)
    (h3 : (x == ("__debug__" : Str)) = false := by decide) (h4 : starEach (e :: es) X.env = (false, eval e X.env) :: starEach es X.env := by rfl)
    (h5 : ((backTo pos (starEach (e :: es) X.env)).any (·.1) || (backToKw pos (keywordEach kws X.env)).any (·.1.isNone)) = false := by rfl) :
    PE X (.Call (.Name x p) (e :: es) kws pos) (tCl n ks.length sp gV E t tk) := by
  obtain ⟨⟨fd, ps, g, F, kb⟩, a, kp⟩ := c
  exact pe_cl F (hr.mono hk) hg gl a kp kb hx ha hkw h1 h2 h3 h4 h5
theorem pe_ca0 (c : CallOk X.prog X.w X.K X.mg X.base CX k x n ks sp gV) (hr : Room k' X.A) (hk : k ≤ k') (hg : X.A.guards = some []) (gl : Gl X x) (hx : Passes CX X E) (hkw : PK X kws tk)
    (h1 : (backToKw pos (keywordEach kws X.env)).all (·.1.isSome) = true := by rfl) (h2 : (backToKw pos (keywordEach kws X.env)).filterMap (·.1) = ks := by rfl)
    (h3 : (x == ("__debug__" : Str)) = false := by decide)
    (h5 : ((backTo pos (starEach [] X.env)).any (·.1) || (backToKw pos (keywordEach kws X.env)).any (·.1.isNone)) = false := by rfl) :
    PE X (.Call (.Name x p) [] kws pos) (tCl n ks.length sp gV E tNil tk) := by
  obtain ⟨⟨fd, ps, g, F, kb⟩, a, kp⟩ := c
  exact pe_cl0 F (hr.mono hk) hg gl a kp kb hx hkw h1 h2 h3 h5
end
end Bz
namespace Bz
open PySem PySem.Spec PyProof.Rows L2
/-! ### short plain texts -/
def Sh (n : Nat) (z : Str) : Prop := z.length ≤ n ∧ ∀ c ∈ z.cps.toList, c < 128
theorem Sh.plain {n : Nat} {z : Str} (h : Sh n z) (hn : n ≤ 100000) : plainS z := ⟨Nat.le_trans h.1 hn, h.2⟩
theorem Sh.mono {n m : Nat} {z : Str} (h : Sh n z) (hn : n ≤ m) : Sh m z := ⟨Nat.le_trans h.1 hn, h.2⟩
theorem len_cps (z : Str) : z.length = z.cps.toList.length := by simp [Str.length]
theorem cps_app (x y : Str) : (x ++ y).cps.toList = x.cps.toList ++ y.cps.toList := TL.tl_append x y
theorem len_app (x y : Str) : (x ++ y).length = x.length + y.length := by rw [len_cps, len_cps, len_cps, cps_app, List.length_append]
theorem Sh.add {n m : Nat} {x y : Str} (h1 : Sh n x) (h2 : Sh m y) : Sh (n + m) (x ++ y) := by
  refine ⟨by rw [len_app]; have := h1.1; have := h2.1; omega, fun c hc => ?_⟩
  rw [cps_app] at hc
  rcases List.mem_append.mp hc with h | h
  · exact h1.2 c h
  · exact h2.2 c h
theorem Sh.sign {c : Nat} (h : c < 128) : Sh 1 ⟨#[c]⟩ := by
  refine ⟨Nat.le_refl _, fun d hd => ?_⟩
  have : d = c := by simpa using hd
  omega
def shB (n : Nat) (z : Str) : Bool := decide (z.length ≤ n) && z.cps.toList.all fun c => decide (c < 128)
theorem Sh.lit {n : Nat} {z : Str} (h : shB n z = true) : Sh n z := by
  unfold shB at h
  rw [Bool.and_eq_true] at h
  exact ⟨of_decide_eq_true h.1, fun c hc => of_decide_eq_true (List.all_eq_true.mp h.2 c hc)⟩
theorem Sh.at {n : Nat} {z : Str} {i : Int} (h : Sh n z) (h0 : 0 ≤ i) (h1 : i < (z.length : Int)) : ∃ c, atI z.cps.toList i = some c ∧ c ∈ z.cps.toList ∧ Sh 1 ⟨#[c]⟩ := by
  have hl : i.toNat < z.cps.toList.length := by rw [← len_cps]; omega
  exact ⟨_, atI_of h0 (List.getElem?_eq_getElem hl), List.getElem_mem hl, Sh.sign (h.2 _ (List.getElem_mem hl))⟩
theorem Sh.cut {n : Nat} {z : Str} (h : Sh n z) (lo hi : Option Int) : Sh n (cutS z lo hi) :=
  ⟨Nat.le_trans (cutS_length z lo hi) h.1, fun c hc => h.2 c (List.mem_of_mem_drop (List.mem_of_mem_take hc))⟩
theorem Sh.cut_to {n k : Nat} {z : Str} (h : Sh n z) (lo : Option Int) : Sh k (cutS z lo (some (k : Int))) := by
  refine ⟨?_, (h.cut _ _).2⟩
  have e : HT.sIx z.length z.length (some (k : Int)) = min k z.length := HT.sIx_nat _ _ _
  rw [len_cps]
  show (((z.cps.toList.drop _).take (HT.sIx z.length z.length (some (k : Int)) - _)).toArray.toList).length ≤ k
  rw [List.toList_toArray, List.length_take]
  omega
theorem repS_cps (z : Str) (k : Nat) : (repS z k).cps.toList = (List.replicate k z.cps.toList).flatten := rfl
theorem Sh.rep {n k : Nat} {z : Str} (h : Sh n z) : Sh (n * k) (repS z k) := by
  refine ⟨?_, fun c hc => ?_⟩
  · rw [len_cps, repS_cps, PyProof.Rows.lm_len_rep_flat, ← len_cps, Nat.mul_comm]
    exact Nat.mul_le_mul_right _ h.1
  · rw [repS_cps] at hc
    obtain ⟨l, hl, hc⟩ := List.mem_flatten.mp hc
    rw [(List.mem_replicate.mp hl).2] at hc
    exact h.2 c hc
theorem Sh.num {i : Int} {k : Nat} (h0 : 0 ≤ i) (hk : 0 < k) (h : i < (10 ^ k : Nat)) : Sh k (Str.ofString (toString i)) := by
  obtain ⟨n, rfl⟩ := Int.eq_ofNat_of_zero_le h0
  have hn : n < 10 ^ k := Int.ofNat_lt.mp h
  have e : (Str.ofString (toString ((n : Nat) : Int))).cps.toList = TL.numL n := TL.tl_num n
  refine ⟨?_, fun c hc => ?_⟩
  · rw [len_cps, e]
    exact TL.numL_len hk hn
  · rw [e] at hc
    have := TL.numL_digits n c hc
    omega
/-- a list of such texts -/
def Txs (n : Nat) (xs : List V) : Prop := ∀ x ∈ xs, ∃ z, x = .str z ∧ Sh n z
theorem Txs.nil {n : Nat} : Txs n [] := fun _ h => by cases h
theorem Txs.cons {n : Nat} {z : Str} {xs : List V} (h : Sh n z) (t : Txs n xs) : Txs n (.str z :: xs) := fun x hx => by
  rcases List.mem_cons.mp hx with e | e
  · exact ⟨z, e, h⟩
  · exact t x e
theorem Txs.app {n : Nat} {xs ys : List V} (h : Txs n xs) (t : Txs n ys) : Txs n (xs ++ ys) := fun x hx => by
  rcases List.mem_append.mp hx with e | e
  · exact h x e
  · exact t x e
theorem Txs.mono {n m : Nat} {xs : List V} (h : Txs n xs) (hn : n ≤ m) : Txs m xs := fun x hx => by
  obtain ⟨z, e, s⟩ := h x hx
  exact ⟨z, e, s.mono hn⟩
def txB (n : Nat) : List V → Bool
  | [] => true
  | .str z :: xs => shB n z && txB n xs
  | _ :: _ => false
theorem Txs.lit {n : Nat} : ∀ {xs : List V}, txB n xs = true → Txs n xs
  | [], _ => .nil
  | .str z :: xs, h => by
    have h : (shB n z && txB n xs) = true := h
    rw [Bool.and_eq_true] at h
    exact .cons (Sh.lit h.1) (Txs.lit h.2)
theorem Txs.get {n : Nat} {xs : List V} {i : Int} (h : Txs n xs) (h0 : 0 ≤ i) (h1 : i < (xs.length : Int)) : ∃ z, atI xs i = some (.str z) ∧ Sh n z := by
  have hl : i.toNat < xs.length := by omega
  obtain ⟨z, e, s⟩ := h _ (List.getElem_mem hl)
  exact ⟨z, atI_of h0 (by rw [List.getElem?_eq_getElem hl, e]), s⟩
theorem Txs.getB {n : Nat} {xs : List V} {i : Int} (h : Txs n xs) (h0 : i < 0) (h1 : -(xs.length : Int) ≤ i) : ∃ z, atI xs i = some (.str z) ∧ Sh n z := by
  have hl : (i + xs.length).toNat < xs.length := by omega
  obtain ⟨z, e, s⟩ := h _ (List.getElem_mem hl)
  refine ⟨z, ?_, s⟩
  unfold atI ixN
  rw [if_neg (by omega), if_pos h1]
  show xs[(i + xs.length).toNat]? = _
  rw [List.getElem?_eq_getElem hl, e]
/-! ### what repr shows is short -/
mutual
inductive Shn : PyData → Nat → Nat → Prop
  | non {k : Nat} : Shn .none 5 k
  | bl {b : Bool} {k : Nat} : Shn (.bool b) 5 k
  | int {i : Int} {k : Nat} : i.natAbs.log2 < 1920 → Shn (.int i) 2000 k
  | str {z : Str} {k : Nat} : (∀ c ∈ z.cps.toList, c < 128) → Shn (.str z) (10 * z.length + 2) k
  | lst {xs : List PyData} {n k : Nat} : ShnAll xs n k → Shn (.list xs) (n + 3) (k + 1)
  | tup {xs : List PyData} {n k : Nat} : ShnAll xs n k → Shn (.tuple xs) (n + 3) (k + 1)
inductive ShnAll : List PyData → Nat → Nat → Prop
  | nil {k : Nat} : ShnAll [] 0 k
  | cons {x : PyData} {xs : List PyData} {n m k : Nat} : Shn x n k → ShnAll xs m k → ShnAll (x :: xs) (n + m + 2) k
end
mutual
theorem Shn.ok : ∀ {d : PyData} {n k : Nat}, Shn d n k → d.showable = true ∧ d.hasDict = false ∧ d.shown.length ≤ n ∧ d.depth ≤ k
  | _, _, _, .non => ⟨rfl, rfl, by decide, Nat.zero_le _⟩
  | _, _, _, .bl (b := b) => ⟨rfl, rfl, by cases b <;> decide, Nat.zero_le _⟩
  | _, _, _, .int (i := i) h => by
    refine ⟨by simpa only [PyData.showable, decide_eq_true_eq] using h, by simp only [PyData.hasDict], ?_, by simp only [PyData.depth]; omega⟩
    have e := int_text_length_le (a := i) (k := 1920) (by decide) h
    simp only [PyData.shown]
    rw [PySem.ofString_length]
    omega
  | _, _, _, .str (z := z) h => by
    refine ⟨by simp only [PyData.showable], by simp only [PyData.hasDict], ?_, by simp only [PyData.depth]; omega⟩
    have e := PySem.StrLaws.reprText_len z fun c hc => Nat.lt_of_lt_of_le (h c hc) (by decide)
    simp only [PyData.shown]
    have e2 : z.length = z.cps.size := rfl
    omega
  | _, _, _, .lst (xs := xs) h => by
    obtain ⟨h1, h2, h3, h4⟩ := ShnAll.ok h
    refine ⟨by simpa only [PyData.showable] using h1, by simpa only [PyData.hasDict] using h2, ?_, by simp only [PyData.depth]; omega⟩
    have := listText_len_le (PyData.shownAll xs)
    have h5 := PyData.shownAll_length xs
    simp only [PyData.shown]
    omega
  | _, _, _, .tup (xs := xs) h => by
    obtain ⟨h1, h2, h3, h4⟩ := ShnAll.ok h
    refine ⟨by simpa only [PyData.showable] using h1, by simpa only [PyData.hasDict] using h2, ?_, by simp only [PyData.depth]; omega⟩
    have := tupleText_len_le (PyData.shownAll xs)
    have h5 := PyData.shownAll_length xs
    simp only [PyData.shown]
    omega
theorem ShnAll.ok : ∀ {d : List PyData} {n k : Nat}, ShnAll d n k → PyData.showableAll d = true ∧ PyData.hasDictAll d = false ∧ ((PyData.shownAll d).map (·.length)).sum + 2 * d.length ≤ n ∧ PyData.depthAll d ≤ k
  | _, _, _, .nil => ⟨by simp only [PyData.showableAll], by simp only [PyData.hasDictAll], by simp [PyData.shownAll], by simp only [PyData.depthAll]; omega⟩
  | _, _, _, .cons h t => by
    obtain ⟨h1, h2, h3, h4⟩ := Shn.ok h
    obtain ⟨t1, t2, t3, t4⟩ := ShnAll.ok t
    refine ⟨by simp only [PyData.showableAll, h1, t1, Bool.and_true], by simp only [PyData.hasDictAll, h2, t2, Bool.or_false], ?_, by simp only [PyData.depthAll]; omega⟩
    simp only [PyData.shownAll, List.map_cons, List.sum_cons, List.length_cons]
    omega
end
mutual
theorem Shn.lay : ∀ {d : PyData} {n k : Nat}, Shn d n k → d.canLay0 = true
  | _, _, _, .non => rfl
  | _, _, _, .bl => rfl
  | _, _, _, .int _ => rfl
  | _, _, _, .str (z := z) h => by
    simp only [PyData.canLay0]
    unfold PyData.strOk
    rw [← Array.all_toList, List.all_eq_true]
    intro c hc
    exact decide_eq_true (Nat.lt_of_lt_of_le (h c hc) (by decide))
  | _, _, _, .lst h => by simp only [PyData.canLay0, ShnAll.lay h]
  | _, _, _, .tup h => by simp only [PyData.canLay0, ShnAll.lay h]
theorem ShnAll.lay : ∀ {d : List PyData} {n k : Nat}, ShnAll d n k → PyData.canLayAll0 d = true
  | _, _, _, .nil => by simp only [PyData.canLayAll0]
  | _, _, _, .cons h t => by simp only [PyData.canLayAll0, Shn.lay h, ShnAll.lay t, Bool.and_true]
end
theorem Shn.shaped {d : PyData} {n k : Nat} (h : Shn d n k) (hk : k ≤ 60) : SeqAt.shaped d = true := by
  unfold SeqAt.shaped
  rw [h.lay, decide_eq_true (by have := h.ok.2.2.2; omega)]
  rfl
theorem shn_signs {k : Nat} : ∀ l : List Nat, (∀ c ∈ l, c < 128) → ShnAll (l.map fun c => PyData.str ⟨#[c]⟩) (14 * l.length) k
  | [], _ => .nil
  | c :: l, h => by
    have h1 : Shn (PyData.str ⟨#[c]⟩) 12 k := Shn.str (z := ⟨#[c]⟩) (Sh.sign (h c List.mem_cons_self)).2
    have h2 := ShnAll.cons h1 (shn_signs (k := k) l fun d hd => h d (List.mem_cons_of_mem _ hd))
    rwa [show 12 + 14 * l.length + 2 = 14 * (c :: l).length by rw [List.length_cons]; omega] at h2
theorem g_repr {K : PySem.W.Frag} {H : Hp} {Q : VK} {x : V} {d : PyData} {n k : Nat} (h : Dp K H x d) (s : Shn d n k) (hn : n ≤ 16000000) (hk : k ≤ 60) (q : Q (.str d.shown) H) : rRepr K [x] H Q := by
  obtain ⟨h1, h2, h3, h4⟩ := s.ok
  exact ⟨x, d, rfl, h, h1, h2, by rw [sizeLine_eq]; omega, by omega, q⟩
/-! the same, of any two texts -/
section
variable {K : PySem.W.Frag} {H : Hp} {Q : VK} {n m : Nat}
theorem g_add_sh {a b : Str} (h1 : Sh n a) (h2 : Sh m b) (h : n + m ≤ 1000000) (q : Sh (n + m) (a ++ b) → Q (.str (a ++ b)) H) : rAddA K (.str a) (.str b) H Q :=
  g_add_s (by have := h1.1; have := h2.1; omega) (q (h1.add h2))
theorem g_ix_sh {z : Str} {i : Int} (h : Sh n z) (hn : n ≤ 1000000) (h0 : 0 ≤ i) (h1 : i < (z.length : Int)) (q : ∀ c, c ∈ z.cps.toList → Sh 1 ⟨#[c]⟩ → Q (.str ⟨#[c]⟩) H) : rIx K (.str z) (.int i) H Q := by
  obtain ⟨c, e, hc, s⟩ := h.at h0 h1
  exact g_ix_s (Nat.le_trans h.1 hn) e (q c hc s)
theorem g_ix_tx {a : Addr} {xs : List V} {i : Int} (hs : SqL K H a xs) (h : Txs n xs) (h0 : 0 ≤ i) (h1 : i < (xs.length : Int)) (q : ∀ z, Sh n z → Q (.str z) H) : rIx K (.ref a) (.int i) H Q := by
  obtain ⟨z, e, s⟩ := h.get h0 h1
  exact g_ix_l hs e (q z s)
theorem g_sl_sh {z : Str} {lo hi : Option Int} (h : Sh n z) (hn : n ≤ 1000000) (q : Sh n (cutS z lo hi) → Q (.str (cutS z lo hi)) H) : rSlA K (.str z) lo hi H Q :=
  g_sl_s (Nat.le_trans h.1 hn) (q (h.cut lo hi))
theorem g_strI {i : Int} {k : Nat} (h0 : 0 ≤ i) (hk : 0 < k ∧ k ≤ 250) (h : i < (10 ^ k : Nat)) (q : Sh k (Str.ofString (toString i)) → Q (.str (Str.ofString (toString i))) H) : rStrI [.int i] H Q := by
  refine ⟨i, rfl, ?_, q (Sh.num h0 hk.1 h)⟩
  have e : i.natAbs < 2 ^ 1920 := by
    have h1 : 10 ^ k ≤ 10 ^ 250 := Nat.pow_le_pow_right (by decide) hk.2
    have h2 : (10 : Nat) ^ 500 < 2 ^ 1920 := by decide +kernel
    omega
  by_cases hz : i.natAbs = 0
  · rw [hz]
    decide
  · exact (Nat.log2_lt hz).mpr e
end
theorem mt_tyS {K : PySem.W.Frag} {H : Hp} {z : Str} {A : Prop} (h : A) : tyV K "str" (.str z) H ∧ A := ⟨rfl, h⟩
end Bz
namespace Bz
open PySem PySem.Spec PyProof.Rows L2
/-! ### what is never reached -/
def tNoS : TS := fun _ _ _ => False
def tNoE : TE := fun _ _ _ => False
theorem ps_no {X : Cx} {st : Stmt} : PS X st tNoS := ⟨fun _ _ _ _ _ _ h => h.elim⟩
theorem pe_no {X : Cx} {e : Expr} : PE X e tNoE := ⟨fun _ _ _ _ _ _ h => h.elim⟩
/-! ### own classes: methods, makes -/
structure MethOk (P : Program) (w : World) (K : PySem.W.Frag) (mg : Str → Option Value) (base : Heap) (CX : CXT) (k : Nat) (C : Addr) (m : Str) (n : Nat) (ks : List Str) (sp : Sp) (gV : List V → List V → List V) : Prop where
  ok : ∃ f fd ps g, Meth K C m f ∧ FnG P w K mg base CX k f fd ps sp ∧ KBn K fd ps (n + 1) ks g gV
  cl : Cls K C
structure MakeOk (P : Program) (w : World) (K : PySem.W.Frag) (mg : Str → Option Value) (base : Heap) (CX : CXT) (k : Nat) (x : Str) (n : Nat) (ks : List Str) (sp : Sp) (gV : List V → List V → List V) : Prop where
  ok : ∃ f fd ps g, Mk K (He.ga K x) f ∧ FnG P w K mg base CX k f fd ps sp ∧ KBn K fd ps (n + 1) ks g gV
  at_ : mg x = some (.ref (He.ga K x))
def tMe (C : Addr) (m : Str) (n j : Nat) (sp : Sp) (gV : List V → List V → List V) (E : XK) (to : TE) (t tk : TA) : TE := fun σ H Q => to σ H fun x H1 => ∃ a dx fs, x = .ref a ∧ H1 a = some (.ins C dx fs) ∧ fs.lookup m = none ∧
  t σ H1 fun vs H2 => tk σ H2 fun zs H3 => vs.length = n ∧ zs.length = j ∧ sp (gV (x :: vs) zs) H3 Q E
def tMk (C : Addr) (n j : Nat) (sp : Sp) (gV : List V → List V → List V) (E : XK) (t tk : TA) : TE := fun σ H Q => t σ H fun vs H1 => tk σ H1 fun zs H2 => vs.length = n ∧ zs.length = j ∧
  ∀ x dx, H2 x = none → H2 dx = none → dx ≠ x → sp (gV (.ref x :: vs) zs) (upd (upd H2 dx (.own x)) x (.ins C dx [])) (fun v H3 => v = .non ∧ Q (.ref x) H3) E
section
variable {X : Cx} {CX : CXT} {k k' n : Nat} {C : Addr} {ks : List Str} {sp : Sp} {E : XK} {x m : Str} {p pos apos : Pos} {e o : Expr} {es : List Expr} {kws : List Keyword} {to : TE} {t tk : TA} {gV : List V → List V → List V}
theorem pe_me {pl : Sem Bool} (c : MethOk X.prog X.w X.K X.mg X.base CX k C m n ks sp gV) (hr : Room k' X.A) (hk : k ≤ k') (hg : X.A.guards = some []) (hx : Passes CX X E) (ho : PE X o to) (ha : PA X (e :: es) t) (hkw : PK X kws tk)
    (h1 : (backToKw pos (keywordEach kws X.env)).all (·.1.isSome) = true := by rfl) (h2 : (backToKw pos (keywordEach kws X.env)).filterMap (·.1) = ks := by rfl)
    (h4 : starEach (e :: es) X.env = (false, eval e X.env) :: starEach es X.env := by rfl)
    (h5 : ((backTo pos (starEach (e :: es) X.env)).any (·.1) || (backToKw pos (keywordEach kws X.env)).any (·.1.isNone)) = false := by rfl)
    (ht : eval (.Call (.Attribute o m apos) (e :: es) kws pos) X.env = (do
      let ov ← eval o X.env
      standAt apos.atName
      let (f, first) ← holding [ov] (getMethod ov m pl)
      callWith pos f first (backTo pos (starEach (e :: es) X.env)) (backToKw pos (keywordEach kws X.env))) := by rfl) :
    PE X (.Call (.Attribute o m apos) (e :: es) kws pos) (tMe C m n ks.length sp gV E to t tk) := by
  obtain ⟨⟨f, fd, ps, g, hm, F, kb⟩, cl⟩ := c
  refine ⟨fun pins s σ H Q I h => ?_⟩
  refine PySem.W.methodCall_KW (pl := pl) (thn (ho.run pins s σ H _ I h) fun u s1 ⟨x, H1, I1, rx, a, dx, fs, ex, ea, l, q⟩ => ?_) ht
  subst ex
  obtain rfl : u = Value.ref a := rx
  refine getmeth_ok I1 ea cl hm l ?_
  refine PySem.W.callWith_KW (first := [.ref a]) (h₀ := X.base) I.ok.mod.kin hm.kp h1 (thn (ha.run pos pins s1 σ H1 _ I1 q) ?_) h5 h4
  rintro us s2 ⟨vs, H2, I2, r, q2⟩
  refine thn (hkw.run pos pins s2 σ H2 _ I2 q2) ?_
  rintro ws s3 ⟨zs, H3, I3, rz, l1, l2, q3⟩
  refine ⟨I3.kIn, ?_⟩
  rw [h2]
  exact run_gn (us := .ref a :: us) (vs := .ref a :: vs) F (hr.mono hk) hg kb hx I3 (.cons rfl r) rz (congrArg Nat.succ l1) l2 q3
theorem pe_me0 {pl : Sem Bool} (c : MethOk X.prog X.w X.K X.mg X.base CX k C m n ks sp gV) (hr : Room k' X.A) (hk : k ≤ k') (hg : X.A.guards = some []) (hx : Passes CX X E) (ho : PE X o to) (hkw : PK X kws tk)
    (h1 : (backToKw pos (keywordEach kws X.env)).all (·.1.isSome) = true := by rfl) (h2 : (backToKw pos (keywordEach kws X.env)).filterMap (·.1) = ks := by rfl)
    (h5 : ((backTo pos (starEach [] X.env)).any (·.1) || (backToKw pos (keywordEach kws X.env)).any (·.1.isNone)) = false := by rfl)
    (ht : eval (.Call (.Attribute o m apos) [] kws pos) X.env = (do
      let ov ← eval o X.env
      standAt apos.atName
      let (f, first) ← holding [ov] (getMethod ov m pl)
      callWith pos f first (backTo pos (starEach [] X.env)) (backToKw pos (keywordEach kws X.env))) := by rfl) :
    PE X (.Call (.Attribute o m apos) [] kws pos) (tMe C m n ks.length sp gV E to tNil tk) := by
  obtain ⟨⟨f, fd, ps, g, hm, F, kb⟩, cl⟩ := c
  refine ⟨fun pins s σ H Q I h => ?_⟩
  refine PySem.W.methodCall_KW (pl := pl) (thn (ho.run pins s σ H _ I h) fun u s1 ⟨x, H1, I1, rx, a, dx, fs, ex, ea, l, q⟩ => ?_) ht
  subst ex
  obtain rfl : u = Value.ref a := rx
  refine getmeth_ok I1 ea cl hm l ?_
  refine PySem.W.callWith_KW0 (first := [.ref a]) (h₀ := X.base) I.ok.mod.kin hm.kp h1 (thn (hkw.run pos pins s1 σ H1 _ I1 q) ?_) h5
  rintro ws s3 ⟨zs, H3, I3, rz, l1, l2, q3⟩
  refine ⟨I3.kIn, ?_⟩
  rw [h2]
  exact run_gn (us := .ref a :: []) (vs := .ref a :: []) F (hr.mono hk) hg kb hx I3 (.cons rfl .nil) rz (congrArg Nat.succ l1) l2 q3
/-- a make runs __init__ -/
theorem run_mk {f : Addr} {fd : FuncData} {ps : List Str} {g : List Value → List Value → List Value} {pins : List (Addr × Obj)} {σ : L2.St} {H : Hp} {s : Shared} {Q : VK} {us ws : List Value} {vs zs : List V}
    (M : Mk X.K C f) (F : FnG X.prog X.w X.K X.mg X.base CX k f fd ps sp) (hr : Room (k + 1) X.A) (hg : X.A.guards = some []) (hb : KBn X.K fd ps (n + 1) ks g gV)
    (hx : Passes CX X E) (I : Inv X pins σ H s) (r : Vals vs us) (rz : Vals zs ws) (l1 : vs.length = n) (l2 : zs.length = ks.length)
    (h : ∀ x dx, H x = none → H dx = none → dx ≠ x → sp (gV (.ref x :: vs) zs) (upd (upd H dx (.own x)) x (.ins C dx [])) (fun v H2 => v = .non ∧ Q (.ref x) H2) E) :
    wpAny (model X.prog X.w) X.A (call (.ref C) us (ks.zip ws)) (EP X pins σ Q) X.xe s := by
  have hq := h (s.heap.objs.size + 1) s.heap.objs.size (I.hok.fresh (Nat.le_succ _)) (I.hok.fresh (Nat.le_refl _)) (Nat.ne_of_lt (Nat.lt_succ_self _))
  have I2 := Inv.made (C := C) I
  have r1 : Vals (V.ref (s.heap.objs.size + 1) :: vs) (Value.ref (s.heap.objs.size + 1) :: us) := .cons rfl r
  refine wpAny_call (make_map (f := f) I.kIn M.makes M.init (beq_iff_eq.mp M.fn) (codeAny_mono (F.go _ X.stack _ _ ⟨Value.ref (s.heap.objs.size + 1) :: us, ks.zip ws⟩ (g (Value.ref (s.heap.objs.size + 1) :: us) ws) _ _ E (hr.make C us (ks.zip ws)) (guards_make hg)
    (I2.env0.make C us (ks.zip ws)) (hb.to _ (Value.ref (s.heap.objs.size + 1) :: us) ws I2.kIn (r1.length.symm.trans (congrArg Nat.succ l1)) (rz.length.symm.trans l2)) (hb.rel r1 rz) hq) ?_))
  rintro (e | fl) s' z
  · exact hx pins σ _ _ e s' I2 z
  · cases fl with
    | ret u =>
      obtain ⟨v, H', I3, rv, ev, q3⟩ := I2.after z
      subst ev
      exact ⟨rv, ⟨V.ref (s.heap.objs.size + 1), H', I3, rfl, q3⟩⟩
    | _ => exact False.elim z
theorem pe_mk (c : MakeOk X.prog X.w X.K X.mg X.base CX k x n ks sp gV) (hr : Room k' X.A) (hk : k + 1 ≤ k') (hg : X.A.guards = some []) (gl : Gl X x) (hx : Passes CX X E) (ha : PA X (e :: es) t) (hkw : PK X kws tk)
    (h1 : (backToKw pos (keywordEach kws X.env)).all (·.1.isSome) = true := by rfl) (h2 : (backToKw pos (keywordEach kws X.env)).filterMap (·.1) = ks := by rfl)
    (h3 : (x == ("__debug__" : Str)) = false := by decide) (h4 : starEach (e :: es) X.env = (false, eval e X.env) :: starEach es X.env := by rfl)
    (h5 : ((backTo pos (starEach (e :: es) X.env)).any (·.1) || (backToKw pos (keywordEach kws X.env)).any (·.1.isNone)) = false := by rfl) :
    PE X (.Call (.Name x p) (e :: es) kws pos) (tMk (He.ga X.K x) n ks.length sp gV E t tk) := by
  obtain ⟨⟨f, fd, ps, g, M, F, kb⟩, hm⟩ := c
  refine ⟨fun pins s σ H Q I h => ?_⟩
  refine wpAny_Call_Name_kw (ld_glob I gl hm ?_ h3)
  refine PySem.W.callWith_KW (h₀ := X.base) I.ok.mod.kin M.kp h1 (thn (ha.run pos pins s σ H _ I h) ?_) h5 h4
  rintro us s1 ⟨vs, H1, I1, r, q⟩
  refine thn (hkw.run pos pins s1 σ H1 _ I1 q) ?_
  rintro ws s2 ⟨zs, H2, I2, rz, l1, l2, q2⟩
  refine ⟨I2.kIn, ?_⟩
  rw [h2]
  exact run_mk M F (hr.mono hk) hg kb hx I2 r rz l1 l2 q2
theorem pe_mk0 (c : MakeOk X.prog X.w X.K X.mg X.base CX k x n ks sp gV) (hr : Room k' X.A) (hk : k + 1 ≤ k') (hg : X.A.guards = some []) (gl : Gl X x) (hx : Passes CX X E) (hkw : PK X kws tk)
    (h1 : (backToKw pos (keywordEach kws X.env)).all (·.1.isSome) = true := by rfl) (h2 : (backToKw pos (keywordEach kws X.env)).filterMap (·.1) = ks := by rfl)
    (h3 : (x == ("__debug__" : Str)) = false := by decide)
    (h5 : ((backTo pos (starEach [] X.env)).any (·.1) || (backToKw pos (keywordEach kws X.env)).any (·.1.isNone)) = false := by rfl) :
    PE X (.Call (.Name x p) [] kws pos) (tMk (He.ga X.K x) n ks.length sp gV E tNil tk) := by
  obtain ⟨⟨f, fd, ps, g, M, F, kb⟩, hm⟩ := c
  refine ⟨fun pins s σ H Q I h => ?_⟩
  refine wpAny_Call_Name_kw (ld_glob I gl hm ?_ h3)
  refine PySem.W.callWith_KW0 (h₀ := X.base) I.ok.mod.kin M.kp h1 (thn (hkw.run pos pins s σ H _ I h) ?_) h5
  rintro ws s2 ⟨zs, H2, I2, rz, l1, l2, q2⟩
  refine ⟨I2.kIn, ?_⟩
  rw [h2]
  exact run_mk (us := []) (vs := []) M F (hr.mono hk) hg kb hx I2 .nil rz l1 l2 q2
end
/-! ### readings of these -/
section
variable {B : Hp} {M M' L L' : List (Addr × HO)} {σ : St} {H : Hp} {Q : VK} {K : PySem.W.Frag} {to te tv : TE} {tl tk : TA} {C a dx : Addr} {fs fs' : List (Str × V)} {m f : Str} {v y : V}
variable {nx bk ct : St → Hp → Prop} {rt : VK}
/-- fields -/
inductive FGet : List (Str × V) → Str → V → Prop
  | here {f : Str} {v : V} {l : List (Str × V)} : FGet ((f, v) :: l) f v
  | there {f g : Str} {v u : V} {l : List (Str × V)} : (f == g) = false → FGet l f v → FGet ((g, u) :: l) f v
inductive NoF (f : Str) : List (Str × V) → Prop
  | nil : NoF f []
  | cons {g : Str} {u : V} {l : List (Str × V)} : (f == g) = false → NoF f l → NoF f ((g, u) :: l)
theorem FGet.eq (h : FGet fs f v) : fs.lookup f = some v := by
  induction h with
  | here => simp [List.lookup]
  | there hne _ ih =>
    rw [List.lookup_cons, hne]
    exact ih
theorem NoF.eq (h : NoF f fs) : fs.lookup f = none := by
  induction h with
  | nil => rfl
  | cons hne _ ih =>
    rw [List.lookup_cons, hne]
    exact ih
def aMe (C : Addr) (m : Str) (x : V) (H : Hp) (A : Prop) : Prop := ∃ a dx fs, x = .ref a ∧ H a = some (.ins C dx fs) ∧ fs.lookup m = none ∧ A
theorem g_me {n j : Nat} {sp : Sp} {gV : List V → List V → List V} {E : XK} (h : to σ H fun x H1 => aMe C m x H1 (tl σ H1 fun vs H2 => tk σ H2 fun zs H3 => aCl n j sp (fun vs zs => gV (x :: vs) zs) E vs zs H3 Q)) : tMe C m n j sp gV E to tl tk σ H Q := by
  exact h
theorem g_aMe {A : Prop} (h : H a = some (.ins C dx fs)) (n : NoF m fs) (q : A) : aMe C m (.ref a) H A := ⟨a, dx, fs, rfl, h, n.eq, q⟩
def aMk (C : Addr) (n j : Nat) (sp : Sp) (gV : List V → List V → List V) (E : XK) (vs zs : List V) (H2 : Hp) (Q : VK) : Prop := vs.length = n ∧ zs.length = j ∧
  ∀ x dx, H2 x = none → H2 dx = none → dx ≠ x → sp (gV (.ref x :: vs) zs) (upd (upd H2 dx (.own x)) x (.ins C dx [])) (fun v H3 => v = .non ∧ Q (.ref x) H3) E
theorem g_mk {n j : Nat} {sp : Sp} {gV : List V → List V → List V} {E : XK} (h : tl σ H fun vs H1 => tk σ H1 fun zs H2 => aMk C n j sp gV E vs zs H2 Q) : tMk C n j sp gV E tl tk σ H Q := h
theorem g_aMk {n j : Nat} {sp : Sp} {gV : List V → List V → List V} {E : XK} {vs zs : List V} (I : Is B M L H) (h1 : vs.length = n) (h2 : zs.length = j)
    (q : ∀ x dx H', Is B M ((x, .ins C dx []) :: (dx, .own x) :: L) H' → sp (gV (.ref x :: vs) zs) H' (fun v H3 => v = .non ∧ Q (.ref x) H3) E) : aMk C n j sp gV E vs zs H Q :=
  ⟨h1, h2, fun x dx hx hd hne => q x dx _ ((I.new hd).new (by rw [upd_ne (Ne.symm hne)]; exact hx))⟩
/-- o.f -/
def aFld (K : PySem.W.Frag) (f : Str) (x : V) (H1 : Hp) (Q : VK) : Prop := ∃ a C dx fs v, x = .ref a ∧ H1 a = some (.ins C dx fs) ∧ Cls K C ∧ NoAttr K C f ∧ fs.lookup f = some v ∧ Q v H1
theorem g_fld (h : to σ H fun x H1 => aFld K f x H1 Q) : tFld K to f σ H Q := h
theorem g_aFld (h : H a = some (.ins C dx fs)) (c : Cls K C) (n : NoAttr K C f) (g : FGet fs f v) (q : Q v H) : aFld K f (.ref a) H Q := ⟨a, C, dx, fs, v, rfl, h, c, n, g.eq, q⟩
/-- o.f = v -/
def aSetF (K : PySem.W.Frag) (f : Str) (y x : V) (H2 : Hp) (QH : Hp → Prop) : Prop := ∃ a C dx fs, x = .ref a ∧ H2 a = some (.ins C dx fs) ∧ Cls K C ∧ NoAttr K C f ∧ fs.length < 1000 ∧ QH (upd H2 a (.ins C dx (putF f y fs)))
theorem g_setF (h : tv σ H fun y H1 => to σ H1 fun x H2 => aSetF K f y x H2 fun H3 => nx σ H3) : sFld K to tv f ⟨nx, rt, bk, ct⟩ σ H := h
/-- a field is put -/
inductive FPut (f : Str) (v : V) : List (Str × V) → List (Str × V) → Prop
  | nil : FPut f v [] [(f, v)]
  | here {u : V} {l : List (Str × V)} : FPut f v ((f, u) :: l) ((f, v) :: l)
  | there {g : Str} {u : V} {l l' : List (Str × V)} : ¬ g = f → FPut f v l l' → FPut f v ((g, u) :: l) ((g, u) :: l')
theorem FPut.eq (h : FPut f v fs fs') : putF f v fs = fs' := by
  induction h with
  | nil => rfl
  | here => exact if_pos rfl
  | there hne _ ih =>
    show (if _ = _ then _ else _) = _
    rw [if_neg hne, ih]
theorem g_aSetF {QH : Hp → Prop} (I : Is B M L H) (h : H a = some (.ins C dx fs)) (c : Cls K C) (n : NoAttr K C f) (hz : fs.length < 100) (fp : FPut f y fs fs') (u : Put a (.ins C dx fs') L L') (q : ∀ H', Is B M L' H' → QH H') : aSetF K f y (.ref a) H QH :=
  ⟨a, C, dx, fs, rfl, h, c, n, by omega, q _ (by rw [fp.eq]; exact I.put u)⟩
theorem g_par3 {i j l : Nat} (h : tl σ H fun vs H1 => ∃ u v w, vs = [u, v, w] ∧ nx (((σ.set i (some u)).set j (some v)).set l (some w)) H1) : tPar3 i j l tl ⟨nx, rt, bk, ct⟩ σ H := h
theorem g_par3b {i j l : Nat} {σ1 σ2 σ3 : St} {u v w : V} (s1 : SetAt σ i (some u) σ1) (s2 : SetAt σ1 j (some v) σ2) (s3 : SetAt σ2 l (some w) σ3) (q : nx σ3 H) :
    ∃ u' v' w', [u, v, w] = [u', v', w'] ∧ nx (((σ.set i (some u')).set j (some v')).set l (some w')) H := by
  refine ⟨u, v, w, rfl, ?_⟩
  rw [s1.eq, s2.eq, s3.eq]
  exact q
/-- a power of written numbers -/
theorem g_pow {a b c : Int} (h : CPow a b) (e : a ^ b.toNat = c) (q : Q (.int c) H) : rI CPow (fun i j => .int (i ^ j.toNat)) (.int a) (.int b) H Q := ⟨a, b, rfl, rfl, h, by subst e; exact q⟩
/-- x op= e -/
theorem g_aug {i : Nat} {ti : TIp} {x : V} (h : At σ i x) (q : te σ H fun y H1 => ti x y H1 fun z H2 => nx (σ.set i (some z)) H2) : tAug i te ti ⟨nx, rt, bk, ct⟩ σ H := ⟨x, h.eq, q⟩
theorem g_set {σ' : St} {i : Nat} (s : SetAt σ i (some v) σ') (q : nx σ' H) : nx (σ.set i (some v)) H := by
  rw [s.eq]
  exact q
end
end Bz
namespace Bz
open PySem PySem.Spec PyProof.Rows L2
open AutoSeq1 (wpAny_loadPart')
/-! ### enumerate of a tuple -/
theorem enum_newT (l : Addr) (items : Array Value) (n : Nat) (dct : Option Addr) (sl : Array (Option Value)) :
    Meets (Builtin.«enumerate.__new__» ⟨[.type "enumerate", .ref l], []⟩) (fun _ R s => s.heap.get? l = some { cls := .type "tuple", dict := dct, data := .seq items n, slots := sl } ∧
      R (.ok (.ret (.ref (s.heap.push { cls := .type "tuple_iterator", data := .fields #[.ref l, .int 0 0] }).objs.size)))
        { s with heap := (s.heap.push { cls := .type "tuple_iterator", data := .fields #[.ref l, .int 0 0] }).push { cls := .type "enumerate", data := .fields #[.none, .bool false, .ref s.heap.objs.size, rawInt 0, .none, .none] } }) :=
  .of_wp fun prog w A R s h => by
    obtain ⟨hp, g, d, tk, os⟩ := s
    obtain ⟨hl, h⟩ := h
    have hsub := sub_enumerate
    have hT : Heap.IsTuple (Shared.heap ⟨hp, g, d, tk, os⟩) l items := ⟨_, hl, rfl, n, rfl⟩
    wp_walk using wpAny_loadPart' hl
    refine wpAny_stack_any fun st => wpAny_pure ?_
    split
    · rename_i c _ _ _ _ _
      cases (c == Value.type "enumerate")
      · wp_walk using wpAny_loadPart' hl, wpAny_pyIter_tuple hT
        exact ⟨_, rfl, h⟩
      · wp_walk using wpAny_loadPart' hl, wpAny_pyIter_tuple hT
        exact ⟨_, rfl, h⟩
    · wp_walk using wpAny_loadPart' hl, wpAny_pyIter_tuple hT
      exact ⟨_, rfl, h⟩
theorem call_enumT {prog : Program} {w : World} {A : Around} {E : Value → Shared → Prop} {s : Shared} {l : Addr} {items : Array Value} {Q : Value → Shared → Prop} (hL : s.heap.IsTuple l items)
    (h : ∀ h', IsEnum h' (s.heap.objs.size + 1) s.heap.objs.size 0 .none → h'.IsTupleIter s.heap.objs.size l 0 → h'.objs.size = s.heap.objs.size + 2 →
      (∀ b o, s.heap.get? b = some o → h'.get? b = some o) → Q (.ref (s.heap.objs.size + 1)) { s with heap := h' }) :
    wpAny (model prog w) A (call (.type "enumerate") [.ref l]) Q E s := by
  obtain ⟨⟨c, dct, dt, sl⟩, hl, hc, n, hd⟩ := hL
  replace hc : c = .type "tuple" := hc
  replace hd : dt = .seq items n := hd
  subst hc hd
  refine callType_new F.called_enumerate (by decide) (F.typeCall_enumerate_1 _) (F.newCall_enumerate_1 _) (fun obj => F.args_object_init_2 obj _) F.entry_enumerate_new
    (enum_newT l items n dct sl) ⟨hl, ?_⟩
  have hz : (s.heap.push { cls := .type "tuple_iterator", data := .fields #[.ref l, .int 0 0] }).objs.size = s.heap.objs.size + 1 := Heap.size_push ..
  show _ ∧ _
  rw [hz]
  have he : IsEnum ((s.heap.push { cls := .type "tuple_iterator", data := .fields #[.ref l, .int 0 0] }).push
      { cls := .type "enumerate", data := .fields #[.none, .bool false, .ref s.heap.objs.size, rawInt 0, .none, .none] }) (s.heap.objs.size + 1) s.heap.objs.size 0 .none := by
    have z := Heap.get?_push_size (s.heap.push { cls := .type "tuple_iterator", data := .fields #[.ref l, .int 0 0] })
      (o := { cls := .type "enumerate", data := .fields #[.none, .bool false, .ref s.heap.objs.size, rawInt 0, .none, .none] }) rfl
    rw [hz] at z
    exact z
  exact ⟨⟨_, he, rfl⟩, h _ he ⟨_, Heap.get?_push_of_some _ (Heap.get?_push_size _ rfl), rfl, rfl⟩ (by rw [Heap.size_push, hz]) fun b o x => Heap.get?_push_of_some _ (Heap.get?_push_of_some _ x)⟩
/-- the tuple at a, each item in a new pair -/
def IteT (K : PySem.W.Frag) (a : Addr) : It :=
  ⟨fun i H => ∃ (xs : List V) (x : V), SqT K H a xs ∧ xs[i]? = some x, fun i H v H' => ∃ T x, v = .ref T ∧ H T = none ∧ H' = upd H T (.tup [.int (i : Nat), x]) ∧ ∀ xs, SqT K H a xs → xs[i]? = some x, fun i H => ∃ xs : List V, SqT K H a xs ∧ xs.length ≤ i⟩
theorem turn_enumT {P : Program} {w : World} {K : PySem.W.Frag} {elts : List Expr} {kk : Nat} {tpos : Pos} (a e it : Addr) :
    Turn P w K (.Tuple elts kk tpos) (IteT K a) [e, it] e (fun i h => (∃ old, IsEnum h e it ((i : Nat) : Int) old) ∧ h.IsTupleIter it a i ∧ e ≠ it ∧ a ≠ it ∧ e ≠ a) where
  mem := by simp
  obj := fun i h st b hb => by
    obtain ⟨⟨old, he⟩, ⟨o, ho, hc, hd⟩, _⟩ := st
    have e' : b = e ∨ b = it := by simpa using hb
    rcases e' with z | z
    · rw [z]
      exact ⟨_, he, fun v q => nomatch q⟩
    · rw [z]
      exact ⟨o, ho, fun v q => by rw [hd] at q; cases q⟩
  keep := fun i h h' st k => let ⟨⟨old, he⟩, hi, hne⟩ := st; ⟨⟨old, k e (by simp) _ he⟩, hi.at fun o q => k it (by simp) o q, hne⟩
  item := by
    intro X hP hw hK hc i pins s σ H E I hf st hg
    subst hP hw hK
    obtain ⟨⟨old, he⟩, hit, hne, hai, hea⟩ := st
    obtain ⟨xs, x, hq, hx⟩ := hg
    obtain ⟨its, rv, p, hz⟩ := I.tuple hq
    obtain ⟨u, hu, ru⟩ := rv.get hx
    have hel : e < s.heap.objs.size := Heap.lt_size he
    have hil : it < s.heap.objs.size := by obtain ⟨_, q, _⟩ := hit; exact Heap.lt_size q
    have hu2 : its.toArray[i]? = some u := by simpa using hu
    have hlt : i < its.toArray.size := by
      rcases Nat.lt_or_ge i its.toArray.size with z | z
      · exact z
      · rw [Array.getElem?_eq_none z] at hu2
        cases hu2
    refine wpAny_pyNext_enum_itemD (Draws.tuple (show X.A.in1.handled = none from I.ok.hd hc) it a hai its.toArray) he ⟨hit, p⟩ hlt hne (by simpa using ⟨hne, hea⟩) fun y h' tk' hy ho hst hT hsz hk => ?_
    have hyu : y = u := by
      have := hy.symm.trans hu2
      exact Option.some.inj this
    subst hyu
    refine ⟨_, rfl, wpAny_letOwnedTupleGo_enum (s := { s with heap := h', toks := tk' + 1 }) ho fun h'' he' sb => ?_⟩
    have hT2 : h''.get? s.heap.objs.size = some { cls := .type "tuple", data := .seq #[.int i tk', y] } := (sb.2 _ (Nat.ne_of_gt hel)).trans hT
    have new : ObjOk X.prog X.w (upd H s.heap.objs.size (.tup [.int (i : Nat), x])) h'' s.heap.objs.size (.tup [.int (i : Nat), x]) :=
      ⟨by show 2 ≤ sizeLine; decide, [.int i tk', y], .cons ⟨_, rfl⟩ (.cons ru .nil), ⟨_, hT2, rfl, _, rfl⟩⟩
    have I1 : Inv X pins σ (upd H s.heap.objs.size (.tup [.int (i : Nat), x])) { s with heap := h'', toks := tk' + 1 } :=
      I.turnedNew (ch := [e, it]) (fun b ob hb q => (sb.2 b (fun z => hb (by simp [z]))).trans (hk b ob (fun z => hb (by simp [z])) (fun z => hb (by simp [z])) q)) hf (Nat.le_refl _) new
    refine ⟨.ref s.heap.objs.size, _, I1, rfl, ⟨_, x, rfl, I.hok.fresh (Nat.le_refl _), rfl, fun ys hy => by rw [I.tuple_inj hy hq]; exact hx⟩, ⟨⟨y, ?_⟩, hst.1.at fun o q => (sb.2 it (Ne.symm hne)).trans q, hne, hai, hea⟩, fun b hb => ?_⟩
    · have e1 : ((i + 1 : Nat) : Int) = (i : Int) + 1 := by omega
      rw [e1]
      exact he'
    · have hb' : b < s.heap.objs.size := by
        have e' : b = e ∨ b = it := by simpa using hb
        rcases e' with z | z
        · rw [z]
          exact hel
        · rw [z]
          exact hil
      rw [upd_ne (Nat.ne_of_lt hb')]
      exact (hf b hb).1
  done := by
    intro X hP hw hK hc i pins s σ H E I hf st hg
    subst hP hw hK
    obtain ⟨⟨old, he⟩, hit, hne, hai, hea⟩ := st
    obtain ⟨xs, hq, hx⟩ := hg
    obtain ⟨its, rv, p, hz⟩ := I.tuple hq
    obtain ⟨f0, f1, f2, f3, f4, f5⟩ := hf it (by simp)
    have hl := rv.length
    have hd : X.A.in1.handled = none := I.ok.hd hc
    unfold pyNext
    have hTy : s.TypeIs (.ref e) "enumerate" := ⟨_, he, rfl⟩
    refine wpAny_bind (wpAny_attempt (wpAny_callSpecial?_slot (name := Str.ofString "__next__") hTy F.slot_enumerate_next
      (wpAny_call_entry F.slot_enumerate_next hTy F.entry_enumerate_next ?_ (F.args_enumerate_next_1 _))))
    show wpAny _ _ (field (.ref e) 2 >>= _) _ _ _
    refine wpAny_bind (wpAny_field he rfl (x := .ref it) rfl ?_)
    refine wpAny_bind (wpAny_nextOf_tuple_end hd hit p (by simp; omega) fun h' x eb hx' => ?_)
    obtain ⟨o, ho, hc2⟩ := hx'
    refine wpAny_bind (wpAny_isInstance (T := "StopIteration") (b := true) ⟨o, ho, hc2⟩ isSubtype_stop ?_)
    exact wpAny_pure ⟨rfl, I.turned (t' := s.toks) (fun b o hb q => eb b o hb q) f0 f1 f3 f4 f5⟩
  self := fun A i s Q E st h => let ⟨⟨_, he⟩, _⟩ := st; wpAny_pyIter_enum he h
/-- enumerate of a list or of a tuple -/
def iEnumA (K : PySem.W.Frag) (ta : TA) : TI := fun σ H R => ta σ H fun vs H1 => ∃ a xs, vs = [.ref a] ∧ ((SqL K H1 a xs ∧ R (Ite K a) H1) ∨ (SqT K H1 a xs ∧ R (IteT K a) H1))
theorem pi_enumA {X : Cx} {e : Expr} {ta : TA} {p pos tpos : Pos} {elts : List Expr} {kk : Nat} (hg : Gl X "enumerate") (hm : X.mg "enumerate" = none) (ha : PA X [e] ta) (hs : starEach [e] X.env = [(false, eval e X.env)] := by rfl) :
    PI X (.Tuple elts kk tpos) (.Call (.Name "enumerate" p) [e] [] pos) (iEnumA X.K ta) := by
  refine ⟨fun pins s σ H R I h => ?_⟩
  refine Call_ (ld_blt I hg hm boot_enumerate (PyProof.Rows.callWith_type1 (thn (ha.run pos pins s σ H _ I h) fun us s1 ⟨vs, H1, I1, r1, q1⟩ => ?_) hs rfl))
  obtain ⟨a, xs, ex, q⟩ := q1
  subst ex
  cases r1 with
  | cons r rr =>
    cases rr
    cases r
    have hb : ∀ {b : Addr}, b = s1.heap.objs.size + 1 ∨ b = s1.heap.objs.size → s1.heap.objs.size ≤ b := fun {b} e' => by
      rcases e' with z | z
      · rw [z]
        exact Nat.le_add_right _ _
      · rw [z]
        exact Nat.le_refl _
    rcases q with ⟨hq, q⟩ | ⟨hq, q⟩
    · obtain ⟨its, rv, p', hz⟩ := I1.list hq
      refine call_enumerate_list p'.isList fun h' he hit hsz hk => wpAny_pyIter_enum he ?_
      have I2 : Inv X pins σ H1 { s1 with heap := h' } := I1.kept (t' := s1.toks) hk
      refine ⟨s1.heap.objs.size + 1, [s1.heap.objs.size + 1, s1.heap.objs.size], _, _, H1, rfl, I2, turn_enum a (s1.heap.objs.size + 1) s1.heap.objs.size, ⟨⟨.none, he⟩, hit, Nat.succ_ne_self _⟩, fun b hbm => ?_, q⟩
      have hle := hb (by simpa using hbm)
      exact I1.fpOk hle (I1.hok.fresh hle)
    · obtain ⟨its, rv, p', hz⟩ := I1.tuple hq
      have hal : a < s1.heap.objs.size := by
        obtain ⟨o, ho, _⟩ := p'
        exact Heap.lt_size ho
      refine call_enumT p' fun h' he hit hsz hk => wpAny_pyIter_enum he ?_
      have I2 : Inv X pins σ H1 { s1 with heap := h' } := I1.kept (t' := s1.toks) hk
      refine ⟨s1.heap.objs.size + 1, [s1.heap.objs.size + 1, s1.heap.objs.size], _, _, H1, rfl, I2, turn_enumT a (s1.heap.objs.size + 1) s1.heap.objs.size, ⟨⟨.none, he⟩, hit, Nat.succ_ne_self _, Nat.ne_of_lt hal, fun z => absurd hal (by rw [← z]; exact Nat.not_lt_of_le (Nat.le_add_right _ _))⟩, fun b hbm => ?_, q⟩
      have hle := hb (by simpa using hbm)
      exact I1.fpOk hle (I1.hok.fresh hle)
theorem walk_enumT {K : PySem.W.Frag} {a : Addr} {xs : List V} : Walk (IteT K a) xs.length (fun H => SqT K H a xs) (YPair (fun i => some (.int (i : Nat))) (fun i => xs[i]?)) := by
  refine ⟨fun i _ hi q => ?_, fun _ q => ⟨xs, q, Nat.le_refl _⟩, fun i H v H' hi q y => ?_⟩
  · exact ⟨xs, xs[i], q, by simp [hi]⟩
  · obtain ⟨T, x, h1, h2, h3, h4⟩ := y
    exact ⟨T, _, x, h1, h2, h3, rfl, h4 xs q⟩
end Bz
namespace Bz
open PySem PySem.Spec PyProof.Rows L2
def rMax2 : List V → Hp → VK → Prop := fun xs H Q => ∃ i j, xs = [.int i, .int j] ∧ Q (.int (if j > i then j else i)) H
def rMin2 : List V → Hp → VK → Prop := fun xs H Q => ∃ i j, xs = [.int i, .int j] ∧ Q (.int (if j < i then j else i)) H
def rDivmod : List V → Hp → VK → Prop := fun xs H Q => ∃ i j, xs = [.int i, .int j] ∧ CDiv i j ∧ ∀ p, H p = none → Q (.ref p) (upd H p (.tup [.int (i / j), .int (i % j)]))
def rTupOf (K : PySem.W.Frag) : List V → Hp → VK → Prop := fun xs H Q => ∃ p ys, xs = [.ref p] ∧ ((SqL K H p ys ∧ ∀ l, H l = none → Q (.ref l) (upd H l (.tup ys))) ∨ (SqT K H p ys ∧ Q (.ref p) H))
section
variable {X : Cx}
theorem cl_max2 (hc : X.calm = true) : CallR X (.builtin "max") rMax2 := call_max2 hc
theorem cl_min2 (hc : X.calm = true) : CallR X (.builtin "min") rMin2 := call_min2 hc
theorem cl_divmod : CallR X (.builtin "divmod") rDivmod := call_divmod
theorem cl_tupOf : CallR X (.type "tuple") (rTupOf X.K) := call_tuple_of
end
section
variable {B : Hp} {M M' L L' : List (Addr × HO)} {σ : St} {H : Hp} {Q : VK} {K : PySem.W.Frag} {tl : TA} {R : It → Hp → Prop} {a b p : Addr} {xs ys : List V} {i j : Int}
theorem imax (i j : Int) : (if j > i then j else i) = max i j := by
  by_cases h : j > i
  · rw [if_pos h]
    omega
  · rw [if_neg h]
    omega
theorem imin (i j : Int) : (if j < i then j else i) = min i j := by
  by_cases h : j < i
  · rw [if_pos h]
    omega
  · rw [if_neg h]
    omega
theorem g_max2 (q : Q (.int (max i j)) H) : rMax2 [.int i, .int j] H Q := ⟨i, j, rfl, by rw [imax]; exact q⟩
theorem g_min2 (q : Q (.int (min i j)) H) : rMin2 [.int i, .int j] H Q := ⟨i, j, rfl, by rw [imin]; exact q⟩
theorem g_divmod (I : Is B M L H) (h : CDiv i j) (q : ∀ p H', Is B M ((p, .tup [.int (i / j), .int (i % j)]) :: L) H' → Q (.ref p) H') : rDivmod [.int i, .int j] H Q := ⟨i, j, rfl, h, fun p hp => q p _ (I.new hp)⟩
theorem g_tupOf (I : Is B M L H) (h : SqL K H a xs) (q : ∀ p H', Is B M ((p, .tup xs) :: L) H' → Q (.ref p) H') : rTupOf K [.ref a] H Q := ⟨a, xs, rfl, .inl ⟨h, fun p hp => q p _ (I.new hp)⟩⟩
theorem g_listOfL (I : Is B M L H) (h : SqL K H a xs) (q : ∀ p H', Is B M ((p, .lst xs) :: L) H' → Q (.ref p) H') : rListOf K [.ref a] H Q := ⟨a, xs, rfl, .inl h, fun p hp => q p _ (I.new hp)⟩
theorem g_listOfT (I : Is B M L H) (h : SqT K H a xs) (q : ∀ p H', Is B M ((p, .lst xs) :: L) H' → Q (.ref p) H') : rListOf K [.ref a] H Q := ⟨a, xs, rfl, .inr h, fun p hp => q p _ (I.new hp)⟩
theorem g_sum {ns : List Int} (h : SqL K H a (ns.map V.int)) (q : Q (.int ns.sum) H) : rSum K [.ref a] H Q := ⟨a, ns, rfl, h, q⟩
theorem g_sortedI {ns : List Int} (I : Is B M L H) (h : SqL K H a (ns.map V.int)) (q : ∀ (ns' : List Int) p H', ns'.Perm ns → ns'.Pairwise (· ≤ ·) → Is B M ((p, .lst (ns'.map V.int)) :: L) H' → Q (.ref p) H') : rSortedI K [.ref a] H Q :=
  ⟨a, ns, rfl, h, fun ns' p h1 h2 hp => q ns' p _ h1 h2 (I.new hp)⟩
def aEnumA (K : PySem.W.Frag) (vs : List V) (H : Hp) (R : It → Hp → Prop) : Prop := ∃ a xs, vs = [.ref a] ∧ ((SqL K H a xs ∧ R (Ite K a) H) ∨ (SqT K H a xs ∧ R (IteT K a) H))
theorem g_enumA (h : tl σ H fun vs H1 => aEnumA K vs H1 R) : iEnumA K tl σ H R := h
theorem g_aEnumL (h : SqL K H a xs) (q : R (Ite K a) H) : aEnumA K [.ref a] H R := ⟨a, xs, rfl, .inl ⟨h, q⟩⟩
theorem g_aEnumT (h : SqT K H a xs) (q : R (IteT K a) H) : aEnumA K [.ref a] H R := ⟨a, xs, rfl, .inr ⟨h, q⟩⟩
def aZipA (K : PySem.W.Frag) (vs : List V) (H : Hp) (R : It → Hp → Prop) : Prop := ∃ a b xs ys, vs = [.ref a, .ref b] ∧ ((SqL K H a xs ∧ SqL K H b ys ∧ R (Itz K a b) H) ∨ (SqT K H a xs ∧ SqT K H b ys ∧ R (RZ.ItzT K a b) H))
theorem g_zipA (h : tl σ H fun vs H1 => aZipA K vs H1 R) : RZ.iZipA K tl σ H R := h
theorem g_aZipL (h : SqL K H a xs) (h2 : SqL K H b ys) (q : R (Itz K a b) H) : aZipA K [.ref a, .ref b] H R := ⟨a, b, xs, ys, rfl, .inl ⟨h, h2, q⟩⟩
theorem g_aZipT (h : SqT K H a xs) (h2 : SqT K H b ys) (q : R (RZ.ItzT K a b) H) : aZipA K [.ref a, .ref b] H R := ⟨a, b, xs, ys, rfl, .inr ⟨h, h2, q⟩⟩
theorem walk_zipTT {n : Nat} (hn : n = min xs.length ys.length) : Walk (RZ.ItzT K a b) n (fun H => SqT K H a xs ∧ SqT K H b ys) (YPair (fun i => xs[i]?) (fun i => ys[i]?)) := by
  subst hn
  refine ⟨fun i _ hi q => ?_, fun _ q => ⟨xs, ys, q.1, q.2, by omega⟩, fun i H v H' _ q y => ?_⟩
  · have h1 : i < xs.length := by omega
    have h2 : i < ys.length := by omega
    exact ⟨xs, ys, xs[i], ys[i], q.1, q.2, by simp [h1], by simp [h2]⟩
  · obtain ⟨T, x, z, h1, h2, h3, h4, h5⟩ := y
    exact ⟨T, x, z, h1, h2, h3, h4 xs q.1, h5 ys q.2⟩
theorem g_ipI {f : Int → Int → Int} (q : Q (.int (f i j)) H) : ipI f (.int i) (.int j) H Q := ⟨i, j, rfl, rfl, q⟩
end
end Bz
namespace Bz
open PySem PySem.Spec PyProof.Rows L2
section
variable {B : Hp} {M L : List (Addr × HO)} {σ σ0 : St} {H : Hp} {Q : VK} {te : TE} {g : TG} {J : It} {vs : List Nat} {xs : List V}
theorem take_snocI {α : Type} {l : List α} {i : Nat} {a : α} (h : l[i]? = some a) : l.take (i + 1) = l.take i ++ [a] := by
  rw [List.take_add_one, h]
  rfl
/-- a comprehension without a test whose items ys are known one by one -/
theorem g_lcI {G : Hp → Prop} {n : Nat} (ys : List V) (hn : ys.length = n) {Y : Nat → Hp → V → Hp → Prop} (w : Walk J n G Y) (I : Is B M L H) (hw : Wiped σ vs σ0) (hz : n ≤ 900000)
    (hG : ∀ D acc H', Is B M ((D, .lst acc) :: L) H' → G H')
    (hs : ∀ (i : Nat) (x y : V) (D : Addr) (acc : List V) (H' H'' : Hp), i < n → Y i H' x H'' → ys[i]? = some y → Is B M ((D, .lst acc) :: L) H' → ∀ (PY : V → Hp → Prop), (∀ H4, Is B M ((D, .lst acc) :: L) H4 → PY y H4) →
      g x σ0 H'' fun σ2 H2 => wipe σ2 vs = σ0 ∧ te σ2 H2 fun z H4 => PY z H4)
    (hd : ∀ D H', Is B M ((D, .lst ys) :: L) H' → Q (.ref D) H') : aLc J g tYes te vs σ H Q := by
  refine g_aLc w I hw hz (fun i acc B' M' => B = B' ∧ M = M' ∧ acc = ys.take i) ⟨rfl, rfl, rfl⟩ ?_ ?_ ?_
  · rintro i acc B' M' D H' _ s I' ⟨rfl, rfl, rfl⟩
    exact hG D _ H' I'
  · rintro i x acc B' M' D H' H'' hi s I' ⟨rfl, rfl, e⟩ y hl
    obtain ⟨z, hz⟩ : ∃ z, ys[i]? = some z := ⟨_, List.getElem?_eq_getElem (by omega)⟩
    have := hs i x z D acc H' H'' hi y hz I' (LcY (fun i acc B' M' => B = B' ∧ M = M' ∧ acc = ys.take i) B L D i) fun H4 I4 => lcY s I4 hl ⟨rfl, rfl, by rw [take_snocI hz, e]⟩
    exact this
  · rintro acc B' M' D H' s I' ⟨rfl, rfl, rfl⟩ _
    rw [List.take_of_length_le (by omega)] at I'
    exact hd D H' I'
/-- the same, over a list or a tuple -/
theorem g_lcX {G : Hp → Prop} (ys : List V) (hn : ys.length = xs.length) (w : Walk J xs.length G (YAt xs)) (I : Is B M L H) (hw : Wiped σ vs σ0) (hz : xs.length ≤ 900000)
    (hG : ∀ D acc H', Is B M ((D, .lst acc) :: L) H' → G H')
    (hs : ∀ (i : Nat) (x y : V) (D : Addr) (acc : List V) (H' : Hp), xs[i]? = some x → ys[i]? = some y → Is B M ((D, .lst acc) :: L) H' → ∀ (PY : V → Hp → Prop), (∀ H4, Is B M ((D, .lst acc) :: L) H4 → PY y H4) →
      g x σ0 H' fun σ2 H2 => wipe σ2 vs = σ0 ∧ te σ2 H2 fun z H4 => PY z H4)
    (hd : ∀ D H', Is B M ((D, .lst ys) :: L) H' → Q (.ref D) H') : aLc J g tYes te vs σ H Q := by
  refine g_lcI ys hn w I hw hz hG ?_ hd
  rintro i x y D acc H' H'' hi ⟨rfl, hx⟩ hy I' PY q
  exact hs i x y D acc _ hx hy I' PY q
end
/-! two lists side by side -/
inductive All2 {α β : Type} (F : α → β → Prop) : List α → List β → Prop
  | nil : All2 F [] []
  | cons {a : α} {b : β} {l : List α} {m : List β} : F a b → All2 F l m → All2 F (a :: l) (b :: m)
section
variable {α β : Type} {F G : α → β → Prop}
theorem All2.mono (h : ∀ a b, F a b → G a b) : ∀ {l : List α} {m : List β}, All2 F l m → All2 G l m
  | _, _, .nil => .nil
  | _, _, .cons h1 t => .cons (h _ _ h1) (t.mono h)
theorem All2.len : ∀ {l : List α} {m : List β}, All2 F l m → l.length = m.length
  | _, _, .nil => rfl
  | _, _, .cons _ t => by rw [List.length_cons, List.length_cons, t.len]
theorem All2.get : ∀ {l : List α} {m : List β} {i : Nat} {x : α}, All2 F l m → l[i]? = some x → ∃ y, m[i]? = some y ∧ F x y
  | _, _, 0, _, .cons h _, e => by
    cases e
    exact ⟨_, rfl, h⟩
  | _, _, i + 1, _, .cons _ t, e => t.get (i := i) e
theorem All2.get' : ∀ {l : List α} {m : List β} {i : Nat} {y : β}, All2 F l m → m[i]? = some y → ∃ x, l[i]? = some x ∧ F x y
  | _, _, 0, _, .cons h _, e => by
    cases e
    exact ⟨_, rfl, h⟩
  | _, _, i + 1, _, .cons _ t, e => t.get' (i := i) e
theorem All2.mem {l : List α} {m : List β} {x : α} (h : All2 F l m) (hx : x ∈ l) : ∃ y ∈ m, F x y := by
  obtain ⟨i, e⟩ := List.getElem?_of_mem hx
  obtain ⟨y, e2, f⟩ := h.get e
  exact ⟨y, List.mem_of_getElem? e2, f⟩
theorem All2.app : ∀ {l l' : List α} {m m' : List β}, All2 F l m → All2 F l' m' → All2 F (l ++ l') (m ++ m')
  | _, _, _, _, .nil, h => h
  | _, _, _, _, .cons h t, h2 => .cons h (t.app h2)
theorem All2.snoc {l : List α} {m : List β} {x : α} {y : β} (h : All2 F l m) (h2 : F x y) : All2 F (l ++ [x]) (m ++ [y]) := h.app (.cons h2 .nil)
end
end Bz
namespace Bz
open PySem PySem.Spec PyProof.Rows L2
/-- a op1 b op2 c op3 d -/
def tChain3 (r r' r3 : R2) (ta tb tc td : TE) : TE := fun σ H Q => ta σ H fun x H1 => tb σ H1 fun y H2 => r x y H2 fun z H3 => aIfV z H3
  (fun H3 => tc σ H3 fun w H4 => r' y w H4 fun z2 H5 => aIfV z2 H5 (fun H5 => td σ H5 fun v H6 => r3 w v H6 Q) fun H5 => Q (.bl false) H5) fun H3 => Q (.bl false) H3
theorem pe_chain3 {X : Cx} {a b c d : Expr} {ta tb tc td : TE} {pos : Pos} {op op' op3 : CmpOp} {r r' r3 : R2} (ho : OpR X (compareOp op) r) (ho' : OpR X (compareOp op') r') (ho3 : OpR X (compareOp op3) r3) (ha : PE X a ta) (hb : PE X b tb) (hc : PE X c tc) (hd : PE X d td)
    (hm : lastMarks [op, op', op3] [b, c, d] = false := by with_unfolding_all rfl) : PE X (.Compare a [op, op', op3] [b, c, d] pos) (tChain3 r r' r3 ta tb tc td) := by
  refine ⟨fun pins s σ H Q I h => ?_⟩
  refine Compare_chain (thn (ha.run pins s σ H _ I h) fun v s1 ⟨x, H1, I1, r1, q1⟩ => chain_link (thn (hb.run pins s1 σ H1 _ I1 q1) fun u s2 ⟨y, H2, I2, r2, q2⟩ =>
    thn (ho pins s2 σ H2 x y v u _ I2 r1 r2 q2) fun e s3 ⟨z, H3, I3, rz, k, ek, q3⟩ => ?_)) hm
  subst ek
  cases rz
  refine wpAny_truthy_bool ?_
  cases k with
  | false => exact ite_ff ⟨.bl false, H3, I3, rfl, q3⟩
  | true =>
    refine ite_tt (chain_link (thn (hc.run pins s3 σ H3 _ I3 q3) fun w' s4 ⟨z', H4, I4, r4, q4⟩ => thn (ho' pins s4 σ H4 y z' u w' _ I4 r2 r4 q4) fun e2 s5 ⟨z2, H5, I5, rz2, k2, ek2, q5⟩ => ?_))
    subst ek2
    cases rz2
    refine wpAny_truthy_bool ?_
    cases k2 with
    | false => exact ite_ff ⟨.bl false, H5, I5, rfl, q5⟩
    | true => exact ite_tt (chain_last (thn (hd.run pins s5 σ H5 _ I5 q5) fun w2 s6 ⟨z3, H6, I6, r6, q6⟩ => ho3 pins s6 σ H6 z' z3 w' w2 Q I6 r4 r6 q6))
theorem g_chain3 {σ : St} {H : Hp} {Q : VK} {ta tb tc td : TE} {r r' r3 : R2} (h : ta σ H fun x H1 => tb σ H1 fun y H2 => r x y H2 fun z H3 => aIfV z H3
  (fun H3 => tc σ H3 fun w H4 => r' y w H4 fun z2 H5 => aIfV z2 H5 (fun H5 => td σ H5 fun v H6 => r3 w v H6 Q) fun H5 => Q (.bl false) H5) fun H3 => Q (.bl false) H3) : tChain3 r r' r3 ta tb tc td σ H Q := h
end Bz
namespace Bz
open PySem PySem.Spec PyProof.Rows L2
theorem lt1 {h : Heap} {l : Addr} {xs : Array Value} (e : h.IsList l xs) : l < h.objs.size := by obtain ⟨_, e, _⟩ := e; exact Heap.lt_size e
theorem z3_type (a b c : Value) : checkTypeCall "zip" ⟨[a, b, c], []⟩ = pure () := by kernel_rfl
theorem z3_new (a b c : Value) : checkBuiltinCall "zip.__new__" ⟨[.type "zip", a, b, c], []⟩ = pure () := by kernel_rfl
theorem z3_init (a b c d : Value) : argsOk "object.__init__" ⟨[a, b, c, d], []⟩ := by
  unfold argsOk; rw [signature?_of (id := "object.__init__") (n := ['_', '_', 't', 'i', 'n', 'i', '_', '_']) (o := ['t', 'c', 'e', 'j', 'b', 'o']) (by kernel_rfl) F.owner_object]; kernel_rfl
abbrev IsTri (h : Heap) (T : Addr) (a b c : Value) : Prop := h.get? T = some { cls := .type "tuple", data := .seq #[a, b, c] }
section
variable {prog : Program} {w : World} {A : Around} {E : Value → Shared → Prop} {s : Shared} {n l1 l2 l3 : Nat}
theorem upd_tri {T : Addr} {a b c x : Value} {k : Nat} {Q : Unit → Shared → Prop} (hT : IsTri s.heap T a b c)
    (h : ∀ h', h'.get? T = some { cls := .type "tuple", data := .seq ((#[a, b, c] : Array Value).setIfInBounds k x) } → Heap.SameBut T s.heap h' → Q () { s with heap := h' }) :
    wpAny (model prog w) A (updateSeq T (·.setIfInBounds k x)) Q E s := by
  refine wpAny_updateSeq hT rfl (h _ ?_ (Heap.SameBut.update ..))
  rw [Heap.get?_update_self _ hT rfl]
  simp [Obj.mapSeq]
/-- a zip of three lists that has given k threes: its parts lie one behind the other from n on -/
structure Z3 (h : Heap) (n l1 l2 l3 k : Nat) : Prop where
  z : IsZip h (n + 5) (n + 3) (n + 4) .none
  ti : IsTri h (n + 3) (.ref n) (.ref (n + 1)) (.ref (n + 2))
  to : ∃ a b c, IsTri h (n + 4) a b c
  i1 : h.IsListIter n l1 k
  i2 : h.IsListIter (n + 1) l2 k
  i3 : h.IsListIter (n + 2) l3 k
  h1 : l1 < n
  h2 : l2 < n
  h3 : l3 < n
theorem z3_item {k : Nat} {xs ys zs : Array Value} {x y z : Value} {Q : Value → Shared → Prop} (D : Z3 s.heap n l1 l2 l3 k)
    (hl1 : s.heap.IsList l1 xs) (hl2 : s.heap.IsList l2 ys) (hl3 : s.heap.IsList l3 zs) (hx : xs[k]? = some x) (hy : ys[k]? = some y) (hz' : zs[k]? = some z)
    (hQ : ∀ h', IsZip h' (n + 5) (n + 3) (n + 4) (rawInt s.heap.objs.size) → IsTri h' (n + 4) x y z → h'.IsListIter n l1 (k + 1) → h'.IsListIter (n + 1) l2 (k + 1) → h'.IsListIter (n + 2) l3 (k + 1) →
      IsTri h' s.heap.objs.size x y z → h'.objs.size = s.heap.objs.size + 1 →
      (∀ c o, c ≠ n + 5 → c ≠ n + 4 → c ≠ n → c ≠ n + 1 → c ≠ n + 2 → s.heap.get? c = some o → h'.get? c = some o) → Q (.ref s.heap.objs.size) { s with heap := h' }) :
    wpAny (model prog w) A (Builtin.«zip.__next__» ⟨[.ref (n + 5 : Nat)], []⟩) (fun fin s' => ∃ v, fin = .done (.ret v) ∧ Q v s') E s := by
  obtain ⟨hz, hTI, ⟨a, b, c, hTO⟩, h1, h2, h3, q1, q2, q3⟩ := D
  show wpAny _ _ (field (.ref (n + 5 : Nat)) 2 >>= _) _ _ _
  refine wpAny_bind (wpAny_field hz rfl (x := .bool false) rfl ?_)
  show wpAny _ _ (field (.ref (n + 5 : Nat)) 3 >>= _) _ _ _
  refine wpAny_bind (wpAny_field hz rfl (x := .ref (n + 3 : Nat)) rfl ?_)
  refine wpAny_bind (wpAny_seqItems hTI rfl ?_)
  show wpAny _ _ (Builtin.SmallTypes.ownedTupleIsFree (.ref (n + 5 : Nat)) >>= _) _ _ _
  refine wpAny_bind ?_
  unfold Builtin.SmallTypes.ownedTupleIsFree
  refine wpAny_bind (wpAny_field hz rfl (x := .none) rfl (wpAny_pure ?_))
  simp only [if_true]
  refine wpAny_bind (wpAny_rule ?_)
  refine wpAny_bind (wpAny_field hz rfl (x := .ref (n + 4 : Nat)) rfl ?_)
  refine wpAny_bind (wpAny_setField_rec hz (by simp) fun h₁ hz₁ hs₁ => ?_)
  replace hz₁ : IsZip h₁ (n + 5) (n + 3) (n + 4) .ellipsis := hz₁
  refine wpAny_bind ?_
  simp only [List.zipIdx_cons, List.zipIdx_nil, List.forIn_cons, List.forIn_nil]
  have b1 : h₁.IsListIter n l1 k := h1.extBut hs₁.extBut (by show @Ne Nat _ _; omega)
  have b2 : h₁.IsListIter (n + 1) l2 k := h2.extBut hs₁.extBut (by show @Ne Nat _ _; omega)
  have b3 : h₁.IsListIter (n + 2) l3 k := h3.extBut hs₁.extBut (by show @Ne Nat _ _; omega)
  have c1 : h₁.IsList l1 xs := hl1.extBut hs₁.extBut (by show @Ne Nat _ _; omega)
  have c2 : h₁.IsList l2 ys := hl2.extBut hs₁.extBut (by show @Ne Nat _ _; omega)
  have c3 : h₁.IsList l3 zs := hl3.extBut hs₁.extBut (by show @Ne Nat _ _; omega)
  have hTO₁ : IsTri h₁ (n + 4) a b c := hs₁.extBut _ _ (by show @Ne Nat _ _; omega) hTO
  refine wpAny_bind (wpAny_bind (wpAny_onRaise ?_))
  show wpAny _ _ (Builtin.SmallTypes.nextOf (.ref n) >>= _) _ _ _
  refine wpAny_bind (wpAny_nextOf_list_item b1 c1 hx fun h₂ b1₂ hs₂ => wpAny_pure ?_)
  have hTO₂ : IsTri h₂ (n + 4) a b c := hs₂.extBut _ _ (by show @Ne Nat _ _; omega) hTO₁
  refine wpAny_bind (wpAny_seqItems hTO₂ rfl ?_)
  refine wpAny_bind (upd_tri hTO₂ fun h₃ hTO₃ hs₃ => ?_)
  replace hTO₃ : IsTri h₃ (n + 4) x b c := hTO₃
  refine wpAny_bind (wpAny_letGo (wpAny_pure ?_))
  refine wpAny_bind (wpAny_bind (wpAny_onRaise ?_))
  show wpAny _ _ (Builtin.SmallTypes.nextOf (.ref (n + 1 : Nat)) >>= _) _ _ _
  refine wpAny_bind (wpAny_nextOf_list_item ((b2.extBut hs₂.extBut (by show @Ne Nat _ _; omega)).extBut hs₃.extBut (by show @Ne Nat _ _; omega))
    ((c2.extBut hs₂.extBut (by show @Ne Nat _ _; omega)).extBut hs₃.extBut (by show @Ne Nat _ _; omega)) hy fun h₄ b2₄ hs₄ => wpAny_pure ?_)
  have hTO₄ : IsTri h₄ (n + 4) x b c := hs₄.extBut _ _ (by show @Ne Nat _ _; omega) hTO₃
  refine wpAny_bind (wpAny_seqItems hTO₄ rfl ?_)
  refine wpAny_bind (upd_tri hTO₄ fun h₅ hTO₅ hs₅ => ?_)
  replace hTO₅ : IsTri h₅ (n + 4) x y c := hTO₅
  refine wpAny_bind (wpAny_letGo (wpAny_pure ?_))
  refine wpAny_bind (wpAny_bind (wpAny_onRaise ?_))
  show wpAny _ _ (Builtin.SmallTypes.nextOf (.ref (n + 2 : Nat)) >>= _) _ _ _
  refine wpAny_bind (wpAny_nextOf_list_item ((((b3.extBut hs₂.extBut (by show @Ne Nat _ _; omega)).extBut hs₃.extBut (by show @Ne Nat _ _; omega)).extBut hs₄.extBut (by show @Ne Nat _ _; omega)).extBut hs₅.extBut (by show @Ne Nat _ _; omega))
    ((((c3.extBut hs₂.extBut (by show @Ne Nat _ _; omega)).extBut hs₃.extBut (by show @Ne Nat _ _; omega)).extBut hs₄.extBut (by show @Ne Nat _ _; omega)).extBut hs₅.extBut (by show @Ne Nat _ _; omega)) hz' fun h₆ b3₆ hs₆ => wpAny_pure ?_)
  have hTO₆ : IsTri h₆ (n + 4) x y c := hs₆.extBut _ _ (by show @Ne Nat _ _; omega) hTO₅
  refine wpAny_bind (wpAny_seqItems hTO₆ rfl ?_)
  refine wpAny_bind (upd_tri hTO₆ fun h₇ hTO₇ hs₇ => ?_)
  replace hTO₇ : IsTri h₇ (n + 4) x y z := hTO₇
  refine wpAny_bind (wpAny_letGo (wpAny_pure (wpAny_pure ?_)))
  refine wpAny_bind (wpAny_seqItems hTO₇ rfl ?_)
  refine wpAny_bind (wpAny_newTuple ?_)
  have hsz : h₇.objs.size = s.heap.objs.size := by rw [hs₇.1, hs₆.1, hs₅.1, hs₄.1, hs₃.1, hs₂.1, hs₁.1]
  have hz₇ : IsZip h₇ (n + 5) (n + 3) (n + 4) .ellipsis := hs₇.extBut _ _ (by show @Ne Nat _ _; omega) (hs₆.extBut _ _ (by show @Ne Nat _ _; omega) (hs₅.extBut _ _ (by show @Ne Nat _ _; omega) (hs₄.extBut _ _ (by show @Ne Nat _ _; omega) (hs₃.extBut _ _ (by show @Ne Nat _ _; omega) (hs₂.extBut _ _ (by show @Ne Nat _ _; omega) hz₁)))))
  have hk₇ : ∀ c o, c ≠ n + 5 → c ≠ n + 4 → c ≠ n → c ≠ n + 1 → c ≠ n + 2 → s.heap.get? c = some o → h₇.get? c = some o := fun c o e1 e2 e3 e4 e5 e =>
    hs₇.extBut _ _ e2 (hs₆.extBut _ _ e5 (hs₅.extBut _ _ e2 (hs₄.extBut _ _ e4 (hs₃.extBut _ _ e2 (hs₂.extBut _ _ e3 (hs₁.extBut _ _ e1 e))))))
  have b1₇ : h₇.IsListIter n l1 (k + 1) := ((((b1₂.extBut hs₃.extBut (by show @Ne Nat _ _; omega)).extBut hs₄.extBut (by show @Ne Nat _ _; omega)).extBut hs₅.extBut (by show @Ne Nat _ _; omega)).extBut hs₆.extBut (by show @Ne Nat _ _; omega)).extBut hs₇.extBut (by show @Ne Nat _ _; omega)
  have b2₇ : h₇.IsListIter (n + 1) l2 (k + 1) := ((b2₄.extBut hs₅.extBut (by show @Ne Nat _ _; omega)).extBut hs₆.extBut (by show @Ne Nat _ _; omega)).extBut hs₇.extBut (by show @Ne Nat _ _; omega)
  have b3₇ : h₇.IsListIter (n + 2) l3 (k + 1) := b3₆.extBut hs₇.extBut (by show @Ne Nat _ _; omega)
  have hzlt : n + 5 < h₇.objs.size := Heap.lt_size hz₇
  show wpAny _ _ (Builtin.SmallTypes.ownedTupleHandOut (.ref (n + 5 : Nat)) (.ref h₇.objs.size) >>= _) _ _ _
  refine wpAny_bind ?_
  unfold Builtin.SmallTypes.ownedTupleHandOut
  have hz₈ : IsZip (h₇.push { cls := .type "tuple", data := .seq #[x, y, z] }) (n + 5) (n + 3) (n + 4) .ellipsis := Heap.get?_push_of_some _ hz₇
  refine wpAny_bind (wpAny_setField_rec hz₈ (by simp) fun h₉ hz₉ hs₉ => ?_)
  replace hz₉ : IsZip h₉ (n + 5) (n + 3) (n + 4) (rawInt h₇.objs.size) := hz₉
  refine wpAny_setField_rec hz₉ (by simp) fun hA hzA hsA => ?_
  replace hzA : IsZip hA (n + 5) (n + 3) (n + 4) (rawInt h₇.objs.size) := hzA
  have up : ∀ c o, c ≠ n + 5 → h₇.get? c = some o → hA.get? c = some o := fun c o c1 e => hsA.extBut _ _ c1 (hs₉.extBut _ _ c1 (Heap.get?_push_of_some _ e))
  have hTA : IsTri hA h₇.objs.size x y z := hsA.extBut _ _ (Nat.ne_of_gt hzlt) (hs₉.extBut _ _ (Nat.ne_of_gt hzlt) (Heap.get?_push_size _ rfl))
  have hsA' : hA.objs.size = h₇.objs.size + 1 := by rw [hsA.1, hs₉.1, Heap.size_push]
  rw [hsz] at hzA hTA hsA'
  refine wpAny_pure ⟨_, rfl, ?_⟩
  show Q (.ref h₇.objs.size) _
  rw [hsz]
  exact hQ hA hzA (up _ _ (by show @Ne Nat _ _; omega) hTO₇) (b1₇.at fun o e => up _ o (by show @Ne Nat _ _; omega) e) (b2₇.at fun o e => up _ o (by show @Ne Nat _ _; omega) e) (b3₇.at fun o e => up _ o (by show @Ne Nat _ _; omega) e) hTA hsA' fun c o c1 c2 c3 c4 c5 e => up c o c1 (hk₇ c o c1 c2 c3 c4 c5 e)
/-- all three at their ends -/
theorem z3_end {k : Nat} {xs ys zs : Array Value} {Q : Fin → Shared → Prop} (hh : A.handled = none) (D : Z3 s.heap n l1 l2 l3 k) (hl1 : s.heap.IsList l1 xs) (hx : xs[k]? = none)
    (hE : ∀ h' e, (∀ c o, c ≠ n + 5 → c ≠ n + 4 → c ≠ n → c ≠ n + 1 → c ≠ n + 2 → s.heap.get? c = some o → h'.get? c = some o) → (∃ o, h'.get? e = some o ∧ o.cls = .type "StopIteration") → E (.ref e) { s with heap := h' }) :
    wpAny (model prog w) A (Builtin.«zip.__next__» ⟨[.ref (n + 5 : Nat)], []⟩) Q E s := by
  obtain ⟨hz, hTI, ⟨a, b, c, hTO⟩, h1, h2, h3, q1, q2, q3⟩ := D
  show wpAny _ _ (field (.ref (n + 5 : Nat)) 2 >>= _) _ _ _
  refine wpAny_bind (wpAny_field hz rfl (x := .bool false) rfl ?_)
  show wpAny _ _ (field (.ref (n + 5 : Nat)) 3 >>= _) _ _ _
  refine wpAny_bind (wpAny_field hz rfl (x := .ref (n + 3 : Nat)) rfl ?_)
  refine wpAny_bind (wpAny_seqItems hTI rfl ?_)
  show wpAny _ _ (Builtin.SmallTypes.ownedTupleIsFree (.ref (n + 5 : Nat)) >>= _) _ _ _
  refine wpAny_bind ?_
  unfold Builtin.SmallTypes.ownedTupleIsFree
  refine wpAny_bind (wpAny_field hz rfl (x := .none) rfl (wpAny_pure ?_))
  simp only [if_true]
  refine wpAny_bind (wpAny_rule ?_)
  refine wpAny_bind (wpAny_field hz rfl (x := .ref (n + 4 : Nat)) rfl ?_)
  refine wpAny_bind (wpAny_setField_rec hz (by simp) fun h₁ hz₁ hs₁ => ?_)
  replace hz₁ : IsZip h₁ (n + 5) (n + 3) (n + 4) .ellipsis := hz₁
  refine wpAny_bind ?_
  simp only [List.zipIdx_cons, List.zipIdx_nil, List.forIn_cons, List.forIn_nil]
  have b1 : h₁.IsListIter n l1 k := h1.extBut hs₁.extBut (by show @Ne Nat _ _; omega)
  have c1 : h₁.IsList l1 xs := hl1.extBut hs₁.extBut (by show @Ne Nat _ _; omega)
  refine wpAny_bind (wpAny_bind (wpAny_onRaise ?_))
  show wpAny _ _ (Builtin.SmallTypes.nextOf (.ref n) >>= _) _ _ _
  refine wpAny_bind (wpAny_nextOf_list_end hh b1 c1 hx fun h₂ e hs₂ he => ?_)
  obtain ⟨oe, hoe, hce⟩ := he
  have hz₂ : IsZip h₂ (n + 5) (n + 3) (n + 4) .ellipsis := hs₂ _ _ (by show @Ne Nat _ _; omega) hz₁
  have hez : e ≠ n + 5 := fun x => by subst x; rw [hz₂] at hoe; cases hoe; simp at hce
  exact wpAny_setField_rec hz₂ (by simp) fun h₃ _ hs₃ => hE h₃ e (fun c o c1 _ c3 _ _ x => hs₃.extBut _ _ c1 (hs₂ _ _ c3 (hs₁.extBut _ _ c1 x))) ⟨oe, hs₃.extBut _ _ hez hoe, hce⟩
theorem z3_next {k : Nat} {xs ys zs : Array Value} {x y z : Value} {Q : Option Value → Shared → Prop} (D : Z3 s.heap n l1 l2 l3 k)
    (hl1 : s.heap.IsList l1 xs) (hl2 : s.heap.IsList l2 ys) (hl3 : s.heap.IsList l3 zs) (hx : xs[k]? = some x) (hy : ys[k]? = some y) (hz' : zs[k]? = some z)
    (hQ : ∀ h', IsZip h' (n + 5) (n + 3) (n + 4) (rawInt s.heap.objs.size) → IsTri h' (n + 4) x y z → h'.IsListIter n l1 (k + 1) → h'.IsListIter (n + 1) l2 (k + 1) → h'.IsListIter (n + 2) l3 (k + 1) →
      IsTri h' s.heap.objs.size x y z → h'.objs.size = s.heap.objs.size + 1 →
      (∀ c o, c ≠ n + 5 → c ≠ n + 4 → c ≠ n → c ≠ n + 1 → c ≠ n + 2 → s.heap.get? c = some o → h'.get? c = some o) → Q (some (.ref s.heap.objs.size)) { s with heap := h' }) :
    wpAny (model prog w) A (pyNext (.ref (n + 5 : Nat))) Q E s := by
  have hT : s.TypeIs (.ref (n + 5 : Nat)) "zip" := ⟨_, D.z, rfl⟩
  unfold pyNext
  exact wpAny_bind (wpAny_attempt (wpAny_callSpecial?_slot (name := Str.ofString "__next__") hT F.slot_zip_next
    (wpAny_call_entry F.slot_zip_next hT F.entry_zip_next
      (z3_item D hl1 hl2 hl3 hx hy hz' fun h' a1 a2 a3 a4 a5 a6 a7 a8 => wpAny_pure (hQ h' a1 a2 a3 a4 a5 a6 a7 a8)) (F.args_zip_next_1 _))))
theorem z3_nextEnd {k : Nat} {xs : Array Value} {Q : Option Value → Shared → Prop} (hh : A.handled = none) (D : Z3 s.heap n l1 l2 l3 k) (hl1 : s.heap.IsList l1 xs) (hx : xs[k]? = none)
    (hQ : ∀ h', (∀ c o, c ≠ n + 5 → c ≠ n + 4 → c ≠ n → c ≠ n + 1 → c ≠ n + 2 → s.heap.get? c = some o → h'.get? c = some o) → Q none { s with heap := h' }) : wpAny (model prog w) A (pyNext (.ref (n + 5 : Nat))) Q E s := by
  have hT : s.TypeIs (.ref (n + 5 : Nat)) "zip" := ⟨_, D.z, rfl⟩
  unfold pyNext
  refine wpAny_bind (wpAny_attempt (wpAny_callSpecial?_slot (name := Str.ofString "__next__") hT F.slot_zip_next
    (wpAny_call_entry F.slot_zip_next hT F.entry_zip_next (z3_end (ys := #[]) (zs := #[]) hh D hl1 hx fun h' e hk he => ?_) (F.args_zip_next_1 _))))
  obtain ⟨o, ho, hc⟩ := he
  refine wpAny_bind (wpAny_isInstance (T := "StopIteration") (b := true) ⟨o, ho, hc⟩ isSubtype_stop ?_)
  exact wpAny_pure (hQ _ hk)
end
abbrev z3H1 (h : Heap) (l1 : Addr) : Heap := h.push { cls := .type "list_iterator", data := .fields #[.ref l1, .int 0 0] }
abbrev z3H2 (h : Heap) (l1 l2 : Addr) : Heap := (z3H1 h l1).push { cls := .type "list_iterator", data := .fields #[.ref l2, .int 0 0] }
abbrev z3H3 (h : Heap) (l1 l2 l3 : Addr) : Heap := (z3H2 h l1 l2).push { cls := .type "list_iterator", data := .fields #[.ref l3, .int 0 0] }
abbrev z3H4 (h : Heap) (l1 l2 l3 : Addr) : Heap := (z3H3 h l1 l2 l3).push { cls := .type "tuple", data := .seq #[.ref h.objs.size, .ref (z3H1 h l1).objs.size, .ref (z3H2 h l1 l2).objs.size] }
abbrev z3H5 (h : Heap) (l1 l2 l3 : Addr) : Heap := (z3H4 h l1 l2 l3).push { cls := .type "tuple", data := .seq #[.none, .none, .none] }
abbrev z3H6 (h : Heap) (l1 l2 l3 : Addr) : Heap := (z3H5 h l1 l2 l3).push { cls := .type "zip", data := .fields #[.none, .bool false, .bool false, .ref (z3H3 h l1 l2 l3).objs.size, .ref (z3H4 h l1 l2 l3).objs.size] }
theorem meets_z3 (l1 l2 l3 : Addr) (xs ys zs : Array Value) :
    Meets (Builtin.«zip.__new__» ⟨[.type "zip", .ref l1, .ref l2, .ref l3], []⟩) (fun _ R s => s.heap.IsList l1 xs ∧ s.heap.IsList l2 ys ∧ s.heap.IsList l3 zs ∧
      R (.ok (.ret (.ref (z3H5 s.heap l1 l2 l3).objs.size))) { s with heap := z3H6 s.heap l1 l2 l3 }) :=
  .of_wp fun prog w A R s h => by
    obtain ⟨hp, g, d, tk, os⟩ := s; obtain ⟨hl1, hl2, hl3, h⟩ := h
    have hsub := sub_zip
    have hL1 : Heap.IsList (Shared.heap ⟨hp, g, d, tk, os⟩) l1 xs := hl1
    have hL2 : Heap.IsList (Shared.heap ⟨hp.push { cls := .type "list_iterator", data := .fields #[.ref l1, .int 0 0] }, g, d, tk, os⟩) l2 ys := Heap.IsList.push hl2 _
    have hL3 : Heap.IsList (Shared.heap ⟨(hp.push { cls := .type "list_iterator", data := .fields #[.ref l1, .int 0 0] }).push { cls := .type "list_iterator", data := .fields #[.ref l2, .int 0 0] }, g, d, tk, os⟩) l3 zs := Heap.IsList.push (Heap.IsList.push hl3 _) _
    wp_walk using wpAny_pyIter_list hL1, wpAny_pyIter_list hL2, wpAny_pyIter_list hL3
    exact ⟨_, rfl, h⟩
section
variable {prog : Program} {w : World} {A : Around} {E : Value → Shared → Prop} {s : Shared}
theorem call_z3 {l1 l2 l3 : Nat} {xs ys zs : Array Value} {Q : Value → Shared → Prop} (hl1 : s.heap.IsList l1 xs) (hl2 : s.heap.IsList l2 ys) (hl3 : s.heap.IsList l3 zs)
    (h : ∀ h', Z3 h' s.heap.objs.size l1 l2 l3 0 → (∀ c o, s.heap.get? c = some o → h'.get? c = some o) → Q (.ref (s.heap.objs.size + 5)) { s with heap := h' }) :
    wpAny (model prog w) A (call (.type "zip") [.ref l1, .ref l2, .ref l3]) Q E s := by
  refine callType_new F.called_zip (by decide) (z3_type _ _ _) (z3_new _ _ _) (fun obj => z3_init obj _ _ _) F.entry_zip_new
    (meets_z3 l1 l2 l3 xs ys zs) ⟨hl1, hl2, hl3, ?_⟩
  have z1 : (z3H1 s.heap l1).objs.size = s.heap.objs.size + 1 := Heap.size_push ..
  have z2 : (z3H2 s.heap l1 l2).objs.size = s.heap.objs.size + 2 := by rw [Heap.size_push, z1]
  have z3 : (z3H3 s.heap l1 l2 l3).objs.size = s.heap.objs.size + 3 := by rw [Heap.size_push, z2]
  have z4 : (z3H4 s.heap l1 l2 l3).objs.size = s.heap.objs.size + 4 := by rw [Heap.size_push, z3]
  have z5 : (z3H5 s.heap l1 l2 l3).objs.size = s.heap.objs.size + 5 := by rw [Heap.size_push, z4]
  have g6 : (z3H6 s.heap l1 l2 l3).get? (z3H5 s.heap l1 l2 l3).objs.size = some _ := Heap.get?_push_size _ rfl
  have g5 : (z3H6 s.heap l1 l2 l3).get? (z3H4 s.heap l1 l2 l3).objs.size = some _ := Heap.get?_push_of_some _ (Heap.get?_push_size _ rfl)
  have g4 : (z3H6 s.heap l1 l2 l3).get? (z3H3 s.heap l1 l2 l3).objs.size = some _ := Heap.get?_push_of_some _ (Heap.get?_push_of_some _ (Heap.get?_push_size _ rfl))
  have g3 : (z3H6 s.heap l1 l2 l3).get? (z3H2 s.heap l1 l2).objs.size = some _ := Heap.get?_push_of_some _ (Heap.get?_push_of_some _ (Heap.get?_push_of_some _ (Heap.get?_push_size _ rfl)))
  have g2 : (z3H6 s.heap l1 l2 l3).get? (z3H1 s.heap l1).objs.size = some _ := Heap.get?_push_of_some _ (Heap.get?_push_of_some _ (Heap.get?_push_of_some _ (Heap.get?_push_of_some _ (Heap.get?_push_size _ rfl))))
  have g1 : (z3H6 s.heap l1 l2 l3).get? s.heap.objs.size = some _ := Heap.get?_push_of_some _ (Heap.get?_push_of_some _ (Heap.get?_push_of_some _ (Heap.get?_push_of_some _ (Heap.get?_push_of_some _ (Heap.get?_push_size _ rfl)))))
  show _ ∧ _
  rw [z3, z4, z5] at g6
  rw [z1, z2, z3] at g4
  rw [z4] at g5
  rw [z2] at g3
  rw [z1] at g2
  rw [z5]
  exact ⟨⟨_, g6, rfl⟩, h _ ⟨g6, g4, ⟨_, _, _, g5⟩, ⟨_, g1, rfl, rfl⟩, ⟨_, g2, rfl, rfl⟩, ⟨_, g3, rfl, rfl⟩, lt1 hl1, lt1 hl2, lt1 hl3⟩ fun c o x =>
    Heap.get?_push_of_some _ (Heap.get?_push_of_some _ (Heap.get?_push_of_some _ (Heap.get?_push_of_some _ (Heap.get?_push_of_some _ (Heap.get?_push_of_some _ x)))))⟩
end
/-- the lists at a, b, c as they stand at each turn, the items in new tuples of three -/
def Itz3 (K : PySem.W.Frag) (a b c : Addr) : It :=
  ⟨fun i H => ∃ (xs ys zs : List V) (x y z : V), SqL K H a xs ∧ SqL K H b ys ∧ SqL K H c zs ∧ xs[i]? = some x ∧ ys[i]? = some y ∧ zs[i]? = some z,
    fun i H v H' => ∃ T x y z, v = .ref T ∧ H T = none ∧ H' = upd H T (.tup [x, y, z]) ∧ (∀ xs, SqL K H a xs → xs[i]? = some x) ∧ (∀ ys, SqL K H b ys → ys[i]? = some y) ∧ ∀ zs, SqL K H c zs → zs[i]? = some z,
    fun i H => ∃ xs : List V, SqL K H a xs ∧ xs.length ≤ i⟩
theorem turn_zip3 {P : Program} {w : World} {K : PySem.W.Frag} {elts : List Expr} {kk : Nat} {tpos : Pos} {n a b c : Nat} :
    Turn P w K (.Tuple elts kk tpos) (Itz3 K a b c) [(n + 5 : Nat), (n + 4 : Nat), (n + 3 : Nat), n, (n + 1 : Nat), (n + 2 : Nat)] (n + 5 : Nat) (fun i h => Z3 h n a b c i) where
  mem := by simp
  obj := fun i h st d hd => by
    obtain ⟨hz, hTI, ⟨x, y, z, hTO⟩, ⟨o1, e1, _, d1⟩, ⟨o2, e2, _, d2⟩, ⟨o3, e3, _, d3⟩, _, _, _⟩ := st
    have e' : d = n + 5 ∨ d = n + 4 ∨ d = n + 3 ∨ d = n ∨ d = n + 1 ∨ d = n + 2 := by simpa using hd
    rcases e' with q | q | q | q | q | q
    · rw [q]; exact ⟨_, hz, fun v q => nomatch q⟩
    · rw [q]; exact ⟨_, hTO, fun v q => nomatch q⟩
    · rw [q]; exact ⟨_, hTI, fun v q => nomatch q⟩
    · rw [q]; exact ⟨o1, e1, fun v q => by rw [d1] at q; cases q⟩
    · rw [q]; exact ⟨o2, e2, fun v q => by rw [d2] at q; cases q⟩
    · rw [q]; exact ⟨o3, e3, fun v q => by rw [d3] at q; cases q⟩
  keep := fun i h h' st k => by
    obtain ⟨hz, hTI, ⟨x, y, z, hTO⟩, h1, h2, h3, q1, q2, q3⟩ := st
    exact ⟨k (n + 5) (by simp) _ hz, k (n + 3) (by simp) _ hTI, ⟨x, y, z, k (n + 4) (by simp) _ hTO⟩, h1.at fun o q => k n (by simp) o q, h2.at fun o q => k (n + 1) (by simp) o q, h3.at fun o q => k (n + 2) (by simp) o q, q1, q2, q3⟩
  item := by
    intro X hP hw hK hc i pins s σ H E I hf st hg
    subst hP hw hK
    obtain ⟨xs, ys, zs, x, y, z, hqx, hqy, hqz, hx, hy, hz'⟩ := hg
    obtain ⟨its, rv, p, _⟩ := I.list hqx
    obtain ⟨its2, rv2, p2, _⟩ := I.list hqy
    obtain ⟨its3, rv3, p3, _⟩ := I.list hqz
    obtain ⟨u, hu, ru⟩ := rv.get hx
    obtain ⟨u2, hu2, ru2⟩ := rv2.get hy
    obtain ⟨u3, hu3, ru3⟩ := rv3.get hz'
    have hzl : n + 5 < s.heap.objs.size := Heap.lt_size st.z
    refine z3_next st p.isList p2.isList p3.isList (x := u) (y := u2) (z := u3) (by simpa using hu) (by simpa using hu2) (by simpa using hu3) fun h' z' TO' h1' h2' h3' hT hsz hk => ?_
    refine ⟨_, rfl, wpAny_letOwnedTupleGo_zip (s := { s with heap := h' }) z' fun h'' z'' sb => ?_⟩
    have hT2 : h''.get? s.heap.objs.size = some { cls := .type "tuple", data := .seq #[u, u2, u3] } := (sb.2 _ (Nat.ne_of_gt hzl)).trans hT
    have new : ObjOk X.prog X.w (upd H s.heap.objs.size (.tup [x, y, z])) h'' s.heap.objs.size (.tup [x, y, z]) :=
      ⟨by show 3 ≤ sizeLine; decide, [u, u2, u3], .cons ru (.cons ru2 (.cons ru3 .nil)), ⟨_, hT2, rfl, _, rfl⟩⟩
    have hTI' : IsTri h'' (n + 3) (.ref n) (.ref (n + 1)) (.ref (n + 2)) := (sb.2 _ (by show @Ne Nat _ _; omega)).trans (hk _ _ (by show @Ne Nat _ _; omega) (by show @Ne Nat _ _; omega) (by show @Ne Nat _ _; omega) (by show @Ne Nat _ _; omega) (by show @Ne Nat _ _; omega) st.ti)
    have I1 : Inv X pins σ (upd H s.heap.objs.size (.tup [x, y, z])) { s with heap := h'' } :=
      I.turnedNew (t' := s.toks) (ch := [(n + 5 : Nat), (n + 4 : Nat), (n + 3 : Nat), n, (n + 1 : Nat), (n + 2 : Nat)]) (fun c o hb q => (sb.2 c (fun q' => hb (by simp [q']))).trans (hk c o (fun q' => hb (by simp [q'])) (fun q' => hb (by simp [q'])) (fun q' => hb (by simp [q'])) (fun q' => hb (by simp [q'])) (fun q' => hb (by simp [q'])) q)) hf (Nat.le_refl _) new
    refine ⟨.ref s.heap.objs.size, _, I1, rfl, ⟨_, x, y, z, rfl, I.hok.fresh (Nat.le_refl _), rfl, fun l hl => by rw [I.list_inj hl hqx]; exact hx, fun l hl => by rw [I.list_inj hl hqy]; exact hy, fun l hl => by rw [I.list_inj hl hqz]; exact hz'⟩,
      ⟨z'', hTI', ⟨u, u2, u3, ?_⟩, ?_, ?_, ?_, st.h1, st.h2, st.h3⟩, fun c hcm => ?_⟩
    · exact (sb.2 _ (by show @Ne Nat _ _; omega)).trans TO'
    · exact h1'.at fun o q => (sb.2 _ (by show @Ne Nat _ _; omega)).trans q
    · exact h2'.at fun o q => (sb.2 _ (by show @Ne Nat _ _; omega)).trans q
    · exact h3'.at fun o q => (sb.2 _ (by show @Ne Nat _ _; omega)).trans q
    · have hlt : c < s.heap.objs.size := by
        have e' : c = n + 5 ∨ c = n + 4 ∨ c = n + 3 ∨ c = n ∨ c = n + 1 ∨ c = n + 2 := by simpa using hcm
        have e2 : n + 5 < s.heap.objs.size := hzl
        show @LT.lt Nat _ _ _
        rcases e' with q | q | q | q | q | q <;> (rw [q]; omega)
      rw [upd_ne (Nat.ne_of_lt hlt)]
      exact (hf c hcm).1
  done := by
    intro X hP hw hK hc i pins s σ H E I hf st hg
    subst hP hw hK
    obtain ⟨xs, hqx, hend⟩ := hg
    obtain ⟨its, rv, p, _⟩ := I.list hqx
    have l1 := rv.length
    have he : its.toArray[i]? = none := by simp; omega
    exact z3_nextEnd (I.ok.hd hc) st p.isList he fun h' hk => ⟨rfl, I.turnedL (t' := s.toks) (ch := [(n + 5 : Nat), (n + 4 : Nat), (n + 3 : Nat), n, (n + 1 : Nat), (n + 2 : Nat)]) (fun c o hb q =>
      hk c o (fun q' => hb (by simp [q'])) (fun q' => hb (by simp [q'])) (fun q' => hb (by simp [q'])) (fun q' => hb (by simp [q'])) (fun q' => hb (by simp [q'])) q) hf⟩
  self := fun A i s Q E st h => wpAny_pyIter_zip st.z h
def aZip3 (K : PySem.W.Frag) (vs : List V) (H : Hp) (R : It → Hp → Prop) : Prop := ∃ a b c xs ys zs, vs = [.ref a, .ref b, .ref c] ∧ SqL K H a xs ∧ SqL K H b ys ∧ SqL K H c zs ∧ R (Itz3 K a b c) H
def iZip3 (K : PySem.W.Frag) (ta : TA) : TI := fun σ H R => ta σ H fun vs H1 => aZip3 K vs H1 R
theorem pi_zip3 {X : Cx} {e e2 e3 : Expr} {ta : TA} {p pos tpos : Pos} {elts : List Expr} {kk : Nat} (hg : Gl X "zip") (hm : X.mg "zip" = none) (ha : PA X [e, e2, e3] ta)
    (hs : starEach [e, e2, e3] X.env = (false, eval e X.env) :: starEach [e2, e3] X.env := by rfl) (hpl : (backTo pos (starEach [e2, e3] X.env)).any (·.1) = false := by rfl) :
    PI X (.Tuple elts kk tpos) (.Call (.Name "zip" p) [e, e2, e3] [] pos) (iZip3 X.K ta) := by
  refine ⟨fun pins s σ H R I h => ?_⟩
  refine Call_ (ld_blt I hg hm PyProof.Rows.boot_zip (PyProof.Rows.callWith_type1 (thn (ha.run pos pins s σ H _ I h) fun us s1 ⟨vs, H1, I1, r1, q1⟩ => ?_) hs hpl))
  obtain ⟨a, b, c, xs, ys, zs, ex, hqx, hqy, hqz, q⟩ := q1
  subst ex
  cases r1 with
  | cons r rr =>
    cases rr with
    | cons r' rr =>
      cases rr with
      | cons r'' rr =>
        cases rr
        cases r
        cases r'
        cases r''
        obtain ⟨its, rv, p1, _⟩ := I1.list hqx
        obtain ⟨its2, rv2, p2, _⟩ := I1.list hqy
        obtain ⟨its3, rv3, p3, _⟩ := I1.list hqz
        refine call_z3 p1.isList p2.isList p3.isList fun h' D hk => wpAny_pyIter_zip D.z ?_
        have I2 : Inv X pins σ H1 { s1 with heap := h' } := I1.kept (t' := s1.toks) hk
        refine ⟨(s1.heap.objs.size + 5 : Nat), _, _, _, H1, rfl, I2, turn_zip3 (n := s1.heap.objs.size) (a := a) (b := b) (c := c), D, fun d hd => ?_, q⟩
        have e' : d = s1.heap.objs.size + 5 ∨ d = s1.heap.objs.size + 4 ∨ d = s1.heap.objs.size + 3 ∨ d = s1.heap.objs.size ∨ d = s1.heap.objs.size + 1 ∨ d = s1.heap.objs.size + 2 := by simpa using hd
        have hle : s1.heap.objs.size ≤ d := by
          show @LE.le Nat _ _ _
          rcases e' with z | z | z | z | z | z <;> (rw [z]; omega)
        exact I1.fpOk hle (I1.hok.fresh hle)
/-- a new tuple of three -/
def YTri (xs ys zs : Nat → Option V) : Nat → Hp → V → Hp → Prop := fun i H v H' => ∃ T x y z, v = .ref T ∧ H T = none ∧ H' = upd H T (.tup [x, y, z]) ∧ xs i = some x ∧ ys i = some y ∧ zs i = some z
section
variable {K : PySem.W.Frag} {a b c : Addr} {xs ys zs : List V} {tl : TA} {σ : St} {H : Hp} {R : It → Hp → Prop}
theorem walk_zip3 {n : Nat} (h1 : n = xs.length) (h2 : n = ys.length) (h3 : n = zs.length) : Walk (Itz3 K a b c) n (fun H => SqL K H a xs ∧ SqL K H b ys ∧ SqL K H c zs) (YTri (fun i => xs[i]?) (fun i => ys[i]?) (fun i => zs[i]?)) := by
  refine ⟨fun i _ hi q => ?_, fun _ q => ⟨xs, q.1, by omega⟩, fun i H v H' _ q y => ?_⟩
  · have h1 : i < xs.length := by omega
    have h2 : i < ys.length := by omega
    have h3 : i < zs.length := by omega
    exact ⟨xs, ys, zs, xs[i], ys[i], zs[i], q.1, q.2.1, q.2.2, by simp [h1], by simp [h2], by simp [h3]⟩
  · obtain ⟨T, x, y, z, h1, h2, h3, h4, h5, h6⟩ := y
    exact ⟨T, x, y, z, h1, h2, h3, h4 xs q.1, h5 ys q.2.1, h6 zs q.2.2⟩
theorem g_zip3 (h : tl σ H fun vs H1 => aZip3 K vs H1 R) : iZip3 K tl σ H R := h
theorem g_aZip3 (h : SqL K H a xs) (h2 : SqL K H b ys) (h3 : SqL K H c zs) (q : R (Itz3 K a b c) H) : aZip3 K [.ref a, .ref b, .ref c] H R := ⟨a, b, c, xs, ys, zs, rfl, h, h2, h3, q⟩
end
end Bz
namespace Bz
open PySem PySem.Spec PyProof.Rows L2
/-! sum(xs, start=i) -/
theorem args_sumS (a v : Value) : argsOk "sum" ⟨[a], [(Str.ofString "start", v)]⟩ := by unfold argsOk; kernel_rfl
section
variable {prog : Program} {w : World} {A : Around} {E : Value → Shared → Prop} {s : Shared}
theorem walks_from {I : Addr} {fp wr : List Addr} {n : Nat} {P : Nat → Value → Prop} {St : Nat → Heap → Prop} (W : Walks prog w A I fp wr n P St) :
    Walks prog w A I fp wr (n + 1) (fun i v => ∃ j, i = j + 1 ∧ P j v) (fun i h => ∃ j, i = j + 1 ∧ St j h) where
  sub := W.sub
  frame := fun i h h' st k => by
    obtain ⟨j, rfl, st⟩ := st
    exact ⟨j, rfl, W.frame j h h' st k⟩
  item := fun i s Q E hi st hQ => by
    obtain ⟨j, rfl, st⟩ := st
    exact W.item j s Q E (by omega) st fun v h' tk p st' k => hQ v h' tk ⟨j, rfl, p⟩ ⟨j + 1, rfl, st'⟩ k
  done := fun s Q E st hQ => by
    obtain ⟨j, e, st⟩ := st
    have : j = n := by omega
    subst this
    exact W.done s Q E st hQ
  self := fun i s Q E st hQ => by
    obtain ⟨j, rfl, st⟩ := st
    exact W.self j s Q E st hQ
theorem preSum_from (a : Int) (val : Nat → Int) : ∀ n, preSum (fun i => if i = 0 then a else val (i - 1)) (n + 1) = a + preSum val n
  | 0 => by simp [preSum]
  | n + 1 => by
    have ih := preSum_from a val n
    show preSum _ (n + 1) + _ = a + (preSum val n + val n)
    rw [ih]
    simp
    omega
theorem call_treeK {id : String} {b : Builtin} {args : List Value} {kw : List (Str × Value)} {Q : Value → Shared → Prop} (hk : builtinKind id = none) (hp : plainId id = true)
    (hb : entryFor table id = some b) (ha : argsOk id ⟨args, kw⟩)
    (hc : wpAny (model prog w) A.in1 (b ⟨args, kw⟩) (fun fin s' => match fin with
      | .done f => (match (Except.ok f : Result) with | .ok (.ret v) => Q v s' | .ok _ => False | .error e => E e s')
      | .again c' => c'.quiet = true ∧ codeAny (model prog w) A c' (fun r s' => match r with | .ok (.ret v) => Q v s' | .ok _ => False | .error e => E e s') s') E s) :
    wpAny (model prog w) A (call (.builtin id) args kw) Q E s := by
  refine wpAny_call (codeAny_call_builtin hp hb ?_)
  simp only [checkBuiltinCall, hk]
  cases hsig : Manifest.signature? id with
  | none => exact wpAny_pure hc
  | some sig =>
    have h2 : Bind.checkArgs id sig ⟨args, kw⟩ = pure () := by simpa only [argsOk, hsig] using ha
    show wpAny _ A.in1 (Bind.checkArgs id sig ⟨args, kw⟩) _ _ s
    rw [h2]
    exact wpAny_pure hc
theorem call_sumS {l : Addr} {xs : Array (Int × Tok)} {a : Int} {t : Tok} {Q : Value → Shared → Prop} (hh : A.handled = none) (hl : s.heap.IsList l (intItems xs))
    (h : ∀ h' tk t', (∀ b o, s.heap.get? b = some o → h'.get? b = some o) → Q (.int (a + preSum (numAt xs) xs.size) t') { s with heap := h', toks := tk }) :
    wpAny (model prog w) A (call (.builtin "sum") [.ref l] [(Str.ofString "start", .int a t)]) Q E s := by
  refine call_treeK F.kind_sum F.plain_sum F.entry_sum (args_sumS _ _) ?_
  unfold Builtin.«sum»
  simp only [List.length_cons, List.length_nil]
  rw [if_neg (by decide)]
  refine wpAny_bind (wpAny_of_eq (show Builtin.Builtins.bindParams "sum" ["start"] 0 ⟨[], [(Str.ofString "start", .int a t)]⟩ = pure [some (.int a t)] from by kernel_rfl) ?_)
  refine wpAny_bind (iter_intList hl fun s₂ e st hfp hlI => ?_)
  subst e
  have W := walks_from (Walks.list (prog := prog) (w := w) (A := A.in1) hh s.heap.objs.size l hlI (intItems xs))
  have hsz : (intItems xs).size = xs.size := by simp [intItems]
  have key : ∀ (t0 : Tok) (stage : Int) (tk : Nat), (stage = 0 ∨ stage = 2) → ∀ h1 : Heap, h1 = (s.heap.push { cls := .type "list_iterator", data := .fields #[.ref l, .int 0 0] }).push { cls := .type "list", data := .seq #[Value.int a t0] } →
      codeAny (model prog w) A (.builtin "sum.loop" ⟨[.ref s.heap.objs.size, .ref (s.heap.objs.size + 1 : Nat), rawInt stage, rawInt 0], []⟩) (fun r s' => match r with | .ok (.ret v) => Q v s' | .ok _ => False | .error e => E e s') { s with heap := h1, toks := tk } := by
    intro t0 stage tk hst h1 eh
    subst eh
    have hS : Heap.get? ((s.heap.push { cls := .type "list_iterator", data := .fields #[.ref l, .int 0 0] }).push { cls := .type "list", data := .seq #[Value.int a t0] }) (s.heap.objs.size + 1 : Nat) = some { cls := .type "list", data := .seq #[Value.int a t0] } := by
      have := Heap.get?_push_size (s.heap.push { cls := .type "list_iterator", data := .fields #[.ref l, .int 0 0] }) (o := { cls := .type "list", data := .seq #[Value.int a t0] }) rfl
      rw [Heap.size_push] at this
      exact this
    refine codeAny_sum_loopG W (fun i => if i = 0 then a else numAt xs (i - 1)) ?_ (s.heap.objs.size + 1 : Nat) ?_ ((intItems xs).size + 1 - 1) 1 _ t0 stage hst rfl (by omega) ⟨0, rfl, ?_⟩ (c := 0) ?_ ?_
    · rintro i v ⟨j, rfl, hj⟩
      exact intItems_at hj
    · intro hm
      have := hfp _ hm
      rw [Heap.size_push] at this
      exact Nat.lt_irrefl _ this
    · exact ⟨st.1.at fun o e => Heap.get?_push_of_some _ e, st.2.at fun o e => Heap.get?_push_of_some _ e⟩
    · have e1 : preSum (fun i => if i = 0 then a else numAt xs (i - 1)) 1 = a := by simp [preSum]
      rw [e1]
      exact hS
    · intro h' tk' t' hk
      rw [preSum_from, hsz]
      exact h h' tk' t' fun b o e => hk b o (fun hm => by
        rw [List.mem_singleton] at hm
        subst hm
        exact Nat.lt_irrefl _ (Heap.lt_size e)) (fun hm => by
        subst hm
        have := Heap.lt_size e
        exact Nat.lt_irrefl _ (Nat.lt_trans (Nat.lt_succ_self _) this)) (Heap.get?_push_of_some _ (Heap.get?_push_of_some _ e))
  show wpAny _ _ (if _ then _ else _) _ _ _
  split
  · refine wpAny_bind (wpAny_rule ?_)
    refine wpAny_bind (wpAny_mkInt ?_)
    refine wpAny_bind (wpAny_pure ?_)
    simp only [List.forIn_cons, List.forIn_nil]
    refine wpAny_bind (wpAny_bind (wpAny_bind (wpAny_isInstance (T := "int") (b := false) (typeIs_int _ _ _) PySem.sub_int_str ?_)))
    simp only [Bool.false_eq_true, if_false]
    refine wpAny_pure (wpAny_bind (wpAny_bind (wpAny_isInstance (T := "int") (b := false) (typeIs_int _ _ _) PySem.sub_int_bytes ?_)))
    simp only [Bool.false_eq_true, if_false]
    refine wpAny_pure (wpAny_bind (wpAny_bind (wpAny_isInstance (T := "int") (b := false) (typeIs_int _ _ _) PySem.sub_int_bytearray ?_)))
    simp only [Bool.false_eq_true, if_false]
    refine wpAny_pure (wpAny_pure ?_)
    refine wpAny_bind (wpAny_newObj_type ?_)
    refine wpAny_pure ⟨plainId_quiet F.plain_sum_loop _, ?_⟩
    rw [Heap.size_push]
    exact key _ _ _ (by first | exact Or.inl rfl | exact Or.inr rfl) _ rfl
  · refine wpAny_bind (wpAny_pure ?_)
    simp only [List.forIn_cons, List.forIn_nil]
    refine wpAny_bind (wpAny_bind (wpAny_bind (wpAny_isInstance (T := "int") (b := false) (typeIs_int _ _ _) PySem.sub_int_str ?_)))
    simp only [Bool.false_eq_true, if_false]
    refine wpAny_pure (wpAny_bind (wpAny_bind (wpAny_isInstance (T := "int") (b := false) (typeIs_int _ _ _) PySem.sub_int_bytes ?_)))
    simp only [Bool.false_eq_true, if_false]
    refine wpAny_pure (wpAny_bind (wpAny_bind (wpAny_isInstance (T := "int") (b := false) (typeIs_int _ _ _) PySem.sub_int_bytearray ?_)))
    simp only [Bool.false_eq_true, if_false]
    refine wpAny_pure (wpAny_pure ?_)
    refine wpAny_bind (wpAny_newObj_type ?_)
    refine wpAny_pure ⟨plainId_quiet F.plain_sum_loop _, ?_⟩
    rw [Heap.size_push]
    exact key _ _ _ (by first | exact Or.inl rfl | exact Or.inr rfl) _ rfl
theorem sum_rawS {l : Addr} {its : List Value} {ns : List Int} {a : Int} {t : Tok} {Q : Value → Shared → Prop} (hh : A.handled = none) (hl : s.heap.IsList l its.toArray) (hi : IntsAre its ns)
    (h : ∀ h' tk t', (∀ b o, s.heap.get? b = some o → h'.get? b = some o) → Q (.int (a + ns.sum) t') { s with heap := h', toks := tk }) : wpAny (model prog w) A (call (.builtin "sum") [.ref l] [(Str.ofString "start", .int a t)]) Q E s := by
  obtain ⟨xs, e⟩ := hi.allInts.items
  have hn : numsOf (intItems xs).toList = ns := by rw [← e]; exact hi.numsOf
  rw [nums_intItems] at hn
  rw [e] at hl
  refine call_sumS hh hl fun h' tk t' hk => ?_
  have := h h' tk t' hk
  rw [preSum_eq, List.take_of_length_le (by simp), hn]
  exact this
end
/-- sum(xs, start=i) of a list of ints -/
def rSumS (K : PySem.W.Frag) : List V → List V → Hp → VK → Prop := fun vs zs H Q => ∃ (a : Addr) (ns : List Int) (i : Int), vs = [V.ref a] ∧ zs = [V.int i] ∧ SqL K H a (ns.map V.int) ∧ Q (.int (i + ns.sum)) H
theorem ck_sum {X : Cx} (hc : X.calm = true) : CallRK X (.builtin "sum") [Str.ofString "start"] (rSumS X.K) := by
  intro pins s σ H vs zs us ws Q I r rz h
  obtain ⟨a, ns, i, rfl, rfl, hs, q⟩ := h
  obtain ⟨its, rv, hl, _⟩ := I.list hs
  rw [Vals.ref1 r]
  obtain ⟨u, rfl, ru⟩ := vals1 rz
  obtain ⟨t, rfl⟩ := ru
  exact sum_rawS (I.ok.hd hc) hl.isList rv.ints fun h' tk t' hk => ⟨.int _, H, I.kept hk, ⟨_, rfl⟩, q⟩
section
variable {K : PySem.W.Frag} {H : Hp} {Q : VK} {a : Addr} {ns : List Int} {i : Int} {σ : St} {r : List V → List V → Hp → VK → Prop} {t tk : TA}
theorem g_ckw (h : t σ H fun vs H1 => tk σ H1 fun zs H2 => r vs zs H2 Q) : tCKw r t tk σ H Q := h
theorem g_sumS (h : SqL K H a (ns.map V.int)) (q : Q (.int (i + ns.sum)) H) : rSumS K [.ref a] [.int i] H Q := ⟨a, ns, i, rfl, rfl, h, q⟩
end
end Bz
namespace Bz
open PySem PySem.Spec PyProof.Rows L2
section
variable {B : Hp} {M L : List (Addr × HO)} {σ σ0 : St} {H : Hp} {Q : VK} {te : TE} {g : TG} {J : It} {vs : List Nat} {xs : List V}
/-- a comprehension that neither draws nor changes, told by rows l that stand beside: (l.filter p).map f -/
theorem g_lcF {α : Type} (l : List α) (hl : l.length = xs.length) {G : Hp → Prop} {tt : TT} (w : Walk J xs.length G (YAt xs)) (I : Is B M L H) (hw : Wiped σ vs σ0) (hz : xs.length ≤ 900000) (p : α → Bool) (f : α → V)
    (hG : ∀ D acc H', Is B M ((D, .lst acc) :: L) H' → G H')
    (hs : ∀ (i : Nat) (x : V) (r : α) (D : Addr) (acc : List V) (H' : Hp), xs[i]? = some x → l[i]? = some r → Is B M ((D, .lst acc) :: L) H' → ∀ (PY : V → Hp → Prop) (PN : Hp → Prop), (∀ H4, p r = true → Is B M ((D, .lst acc) :: L) H4 → PY (f r) H4) → (∀ H3, p r = false → Is B M ((D, .lst acc) :: L) H3 → PN H3) →
      g x σ0 H' fun σ2 H2 => wipe σ2 vs = σ0 ∧ tt σ2 H2 fun b H3 => if b = true then te σ2 H3 fun y H4 => PY y H4 else PN H3)
    (hd : ∀ D H', Is B M ((D, .lst ((l.filter p).map f)) :: L) H' → Q (.ref D) H') : aLc J g tt te vs σ H Q := by
  refine g_aLc w I hw hz (fun i acc B' M' => B' = B ∧ M' = M ∧ acc = ((l.take i).filter p).map f) ⟨rfl, rfl, rfl⟩ ?_ ?_ ?_
  · rintro i acc B' M' D H' _ s I' ⟨rfl, rfl, rfl⟩
    exact hG D _ H' I'
  · rintro i x acc B' M' D H' H'' hi s I' ⟨rfl, rfl, e⟩ ⟨rfl, hx⟩ hle
    obtain ⟨r, hr⟩ : ∃ r, l[i]? = some r := ⟨_, List.getElem?_eq_getElem (by omega)⟩
    refine hs i x r D acc H'' hx hr I' _ _ (fun H4 hp I4 => lcY s I4 hle ⟨rfl, rfl, ?_⟩) fun H3 hp I3 => lcN s I3 hle ⟨rfl, rfl, ?_⟩
    · rw [take_snocI hr, List.filter_append, List.map_append, e, List.filter_cons, if_pos hp]
      rfl
    · rw [take_snocI hr, List.filter_append, List.map_append, e, List.filter_cons, if_neg (by rw [hp]; exact Bool.false_ne_true)]
      simp
  · rintro acc B' M' D H' s I' ⟨rfl, rfl, rfl⟩ _
    rw [← hl, List.take_length] at I'
    exact hd D H' I'
end
theorem filt_sum {α : Type} (p : α → Bool) (f : α → Int) : ∀ l : List α, ((l.filter p).map f).sum = (l.map fun x => if p x then f x else 0).sum
  | [] => rfl
  | x :: l => by
    have ih := filt_sum p f l
    by_cases h : p x = true
    · rw [List.filter_cons, if_pos h, List.map_cons, List.sum_cons, ih, List.map_cons, List.sum_cons, if_pos h]
    · rw [List.filter_cons, if_neg h, ih, List.map_cons, List.sum_cons, if_neg h, Int.zero_add]
theorem filt_len {α : Type} (p : α → Bool) : ∀ l : List α, ((l.filter p).length : Int) = (l.map fun x => if p x then 1 else 0).sum
  | [] => rfl
  | x :: l => by
    have ih := filt_len p l
    by_cases h : p x = true
    · rw [List.filter_cons, if_pos h, List.map_cons, List.sum_cons, if_pos h, List.length_cons, ← ih]
      omega
    · rw [List.filter_cons, if_neg h, ih, List.map_cons, List.sum_cons, if_neg h, Int.zero_add]
end Bz
namespace Bz
open PySem PySem.Spec PyProof.Rows L2
/-! own special methods: ==, != of an instance with an own __eq__; len -/
theorem guards_in1 (A : Around) : A.in1.guards = A.guards := rfl
section
variable {X : Cx} {CX : CXT} {pins : List (Addr × Obj)} {σ : L2.St} {H : Hp} {s : Shared} {a C dx f : Addr} {fs : List (Str × V)} {k : Nat} {sp : Sp} {E : XK} {fd : FuncData} {ps : List Str} {gV : List V → List V → List V} {g : List Value → List Value → List Value} {ks : List Str}
/-- the callee runs below the running body -/
theorem run_gA {A : Around} {Q : VK} {us : List Value} {vs : List V} {n : Nat} (F : FnG X.prog X.w X.K X.mg X.base CX k f fd ps sp) (hr : Room k A) (hg : A.guards = some []) (e0 : Env0 X.prog X.w X.K X.mg X.base A X.stack s H) (hb : KBn X.K fd ps n [] g gV) (hx : Passes CX X E)
    (I : Inv X pins σ H s) (r : Vals vs us) (l1 : vs.length = n) (h : sp (gV vs []) H Q E) : wpAny (model X.prog X.w) A (call (.ref f) us) (EP X pins σ Q) X.xe s := by
  refine wpAny_call (codeAny_mono (F.go A X.stack s H ⟨us, []⟩ (g us []) (gV vs []) Q E hr hg e0 (hb.to s us [] I.kIn (r.length.symm.trans l1) rfl) (hb.rel r .nil) h) ?_)
  intro r s' z
  cases r with
  | error e => exact hx pins σ H s e s' I z
  | ok fl =>
    cases fl with
    | ret u => exact I.after z
    | next => exact False.elim z
    | brk => exact False.elim z
    | cont => exact False.elim z
theorem looks_ty {x : V} {u t : Value} (I : Inv X pins σ H s) (rx : RelV x u) (ty : TyOf X.K H x t) {M : Model} : PySem.W.Looks M s.heap (typeOf u) t := by
  cases ty with
  | non => cases (show u = Value.none from rx); exact PySem.W.kitx_none.ty _ _ I.kIn True.intro
  | bl y => cases (show u = Value.bool y from rx); exact PySem.W.kitx_bool.ty _ _ I.kIn True.intro
  | int i => obtain ⟨t, q⟩ := (show ∃ t, u = Value.int i t from rx); cases q; exact PySem.W.kitx_int.ty _ _ I.kIn True.intro
  | str y => obtain ⟨t, q⟩ := (show ∃ t, u = Value.str y t from rx); cases q; exact PySem.W.kitx_str.ty _ _ I.kIn True.intro
  | flt y => obtain ⟨t, q⟩ := (show ∃ t, u = Value.float y t from rx); cases q; exact PySem.W.kitx_float.ty _ _ I.kIn True.intro
  | @lst a xs ea =>
    cases (show u = Value.ref a from rx)
    obtain ⟨_, _, n, _, h1⟩ := (show ObjOk X.prog X.w H s.heap a (.lst xs) from I.hok a _ ea)
    exact PySem.W.kitx_list.ty _ _ I.kIn ⟨_, h1, rfl⟩
  | @frz a ob xs ea =>
    cases (show u = Value.ref a from rx)
    obtain ⟨_, _, _, n, _, h1⟩ := (show ObjOk X.prog X.w H s.heap a (.frz ob (.lst xs)) from I.hok a _ ea)
    exact PySem.W.kitx_list.ty _ _ I.kIn ⟨_, h1, rfl⟩
  | @tup a xs ea =>
    cases (show u = Value.ref a from rx)
    obtain ⟨_, _, _, p⟩ := (show ObjOk X.prog X.w H s.heap a (.tup xs) from I.hok a _ ea)
    obtain ⟨o, h1, h2, _⟩ := p
    exact PySem.W.kitx_tuple.ty _ _ I.kIn ⟨o, h1, h2⟩
  | @dK a kvs ea =>
    cases (show u = Value.ref a from rx)
    obtain ⟨_, _, vs, _, p⟩ := (show ObjOk X.prog X.w H s.heap a (.dK kvs) from I.hok a _ ea)
    obtain ⟨o, es, ep, h1, h2, _⟩ := p
    exact PySem.W.kitx_dict.ty _ _ I.kIn ⟨o, h1, h2.1⟩
  | @dT a kvs ea =>
    cases (show u = Value.ref a from rx)
    obtain ⟨_, _, xs, _, o, es, ep, h1, h2, _⟩ := (show ObjOk X.prog X.w H s.heap a (.dT kvs) from I.hok a _ ea)
    exact PySem.W.kitx_dict.ty _ _ I.kIn ⟨o, h1, h2.1⟩
  | @ins a C dx fs ea cl ha hn htk hm =>
    cases (show u = Value.ref a from rx)
    obtain ⟨mA, O, _⟩ := ins_get I.hok ea
    obtain ⟨od, J, _⟩ := O.look
    exact (PySem.W.kitx_own (cl.get _) cl.hd ha hn htk hm).ty _ _ I.kIn J
/-- what == of the class's instances asks: one of them at x, y of the type t that is not looked at first -/
def rOwnEq (K : PySem.W.Frag) (C : Addr) (sp : Sp) (gV : List V → List V → List V) (E : XK) : R2 := fun x y H Q => ∃ a dx fs t, x = .ref a ∧ H a = some (.ins C dx fs) ∧ TyOf K H y t ∧ PySem.W.notFirst K C t = true ∧ sp (gV [x, y] []) H Q E
theorem op_ownEq (c : MethOk X.prog X.w X.K X.mg X.base CX k C "__eq__" 1 [] sp gV) {k' : Nat} (hr : Room k' X.A) (hk : k ≤ k') (hg : X.A.guards = some []) (hx : Passes CX X E) : OpR X (compareOp .Eq) (rOwnEq X.K C sp gV E) := by
  obtain ⟨⟨f, fd, ps, g, hm, F, kb⟩, cl⟩ := c
  intro pins s σ H x y v u Q I rx ry h
  obtain ⟨a, dx, fs, t, rfl, ha, ty, hn, q⟩ := h
  cases (show v = Value.ref a from rx)
  obtain ⟨mA, O, _⟩ := ins_get I.hok ha
  obtain ⟨od, J, _⟩ := O.look
  obtain ⟨m, hF⟩ := I.fr
  show wpAny _ _ (richCompare .Eq (.ref a) u) _ _ _
  refine PySem.W.cmp_K (op := .Eq) (tb := t) hr.units0 hF I.ok.mod.kin J (looks_ty I ry ty) hn hm.at_ hm.fn ?_
  refine wpAny_mono (run_gA (us := [.ref a, u]) (vs := [.ref a, y]) F (hr.mono hk) hg I.env0 kb hx I (.cons rfl (.cons ry .nil)) rfl q) (fun w s' z => ?_) fun _ _ x => x
  obtain ⟨z', H', I', rz, qz⟩ := z
  exact SlX.cmpback rz ⟨z', H', I', rz, qz⟩
theorem ifBound_B {M : Model} {A : Around} {E : Value → Shared → Prop} {x : Addr} {ox : Obj} {od : Option Obj} {name : Str} {id B : String} {args : List Value} {Q : Option Value → Shared → Prop} {K : PySem.W.Frag} (XK : K.In s.heap) (I : PySem.W.InstAt s.heap x ox C od)
    (hs : PySem.W.findIn K (.ref C) name = some (some (.builtin id))) (S : Slot B name id) (h : wpAny M A (call (.builtin id) (.ref x :: args)) (fun v => Q (some v)) E s) : wpAny M A (callSpecialIfBound? (.ref x) name args) Q E s := by
  simp only [callSpecialIfBound?, bindSpecialIfBound?]
  refine wpAny_holding (wpAny_bind (wpAny_bind (wpAny_bind (I.type.here ((PySem.W.looks_findIn XK hs).here ?_)))))
  simp only [S.bind]
  refine wpAny_bind (wpAny_askSetting (wpAny_ite ?_))
  have fin : wpAny M A (call (.builtin id) ([.ref x] ++ args) >>= fun v => pure (some v)) Q E s := wpAny_bind (wpAny_mono h (fun v s' h' => wpAny_pure h') fun _ _ h' => h')
  split
  · exact wpAny_bind (wpAny_pure (wpAny_pure fin))
  · exact wpAny_tryCatch (wpAny_bind (wpAny_pure (wpAny_pure fin)))
/-- what != asks of the class: object's -/
structure OwnC (K : PySem.W.Frag) (C : Addr) : Prop where
  ne : PySem.W.findIn K (.ref C) "__ne__" = some (some (.builtin "object.__ne__"))
  ob : PySem.W.subIn K (.ref C) (.type "object") = some true
def rOwnNe (K : PySem.W.Frag) (C : Addr) (sp : Sp) (gV : List V → List V → List V) (E : XK) : R2 := fun x y H Q => ∃ a dx fs t, x = .ref a ∧ H a = some (.ins C dx fs) ∧ TyOf K H y t ∧ PySem.W.notFirst K C t = true ∧ sp (gV [x, y] []) H (fun v H' => ∃ b, v = .bl b ∧ Q (.bl (!b)) H') E
theorem op_ownNe (c : MethOk X.prog X.w X.K X.mg X.base CX k C "__eq__" 1 [] sp gV) (oc : OwnC X.K C) {k' : Nat} (hr : Room (k' + 1) X.A) (hk : k ≤ k') (hg : X.A.guards = some []) (hx : Passes CX X E) : OpR X (compareOp .NotEq) (rOwnNe X.K C sp gV E) := by
  obtain ⟨⟨f, fd, ps, g, hm, G, kb⟩, cl⟩ := c
  intro pins s σ H x y v u Q I rx ry h
  obtain ⟨a, dx, fs, t, rfl, ha, ty, hn, q⟩ := h
  cases (show v = Value.ref a from rx)
  obtain ⟨mA, O, _⟩ := ins_get I.hok ha
  obtain ⟨od, J, _⟩ := O.look
  have KX := I.kIn
  -- the call of object.__ne__
  have one : wpAny (model X.prog X.w) X.A (tryCompare (.ref a) "__ne__" u) (fun r s' => ∃ b H', r = some (Value.bool b) ∧ Inv X pins σ H' s' ∧ Q (.bl b) H') X.xe s := by
    unfold tryCompare
    refine wpAny_bind (ifBound_B KX J oc.ne F.cmp_object.ne (wpAny_call (codeAny_call_builtin F.cmp_object.ne.plain F.cmpEntry_ne ?_)))
    refine PySem.W.check_slot F.cmpKind_ne F.cmpSplit_ne (J.type.andThen (PySem.W.looks_subIn KX oc.ob)) (F.cmpArgs_ne _ _) ?_
    unfold Builtin.«object.__ne__»
    refine wpAny_bind (wpAny_of_eq (a := ((Value.ref a : Value), [u])) (by first | rfl | (simp only [slotArgs]; rfl)) ?_)
    refine wpAny_bind (wpAny_cRoomFor (Room.in1 hr).units0 ?_)
    refine wpAny_bind (PySem.W.ifBound_K KX J hm.at_ hm.fn (wpAny_mono (run_gA (A := X.A.in1) (us := [.ref a, u]) (vs := [.ref a, y]) G ((Room.in1 hr).mono hk) hg I.env0.in1 kb hx I (.cons rfl (.cons ry .nil)) rfl q) (fun w s' z => ?_) fun e s' z => z))
    obtain ⟨z', H', I', rz, b, eb, qz⟩ := z
    subst eb
    cases (show w = Value.bool b from rz)
    refine wpAny_bind (wpAny_truthy_bool ?_)
    exact wpAny_pure (wpAny_pure ⟨!b, H', rfl, I', qz⟩)
  show wpAny _ _ (richCompare .NotEq (.ref a) u) _ _ _
  unfold richCompare
  simp only [oneThing_ref]
  refine wpAny_holding (wpAny_bind (wpAny_cRoomFor hr.units0 ?_))
  refine wpAny_bind (J.type.here (wpAny_bind ((looks_ty I ry ty).here ?_)))
  split
  · rename_i q
    have e : PySem.W.subIn X.K t (.ref C) = some false := by
      rcases Bool.or_eq_true_iff.mp hn with e | e
      · rw [beq_iff_eq.mp e] at q; simp at q
      · exact beq_iff_eq.mp e
    refine wpAny_bind ((PySem.W.looks_subIn KX e).here ?_)
    simp only [Bool.false_eq_true, if_false]
    refine wpAny_bind (wpAny_mono one (fun r s' z => ?_) fun _ _ e => e)
    obtain ⟨b, H', rfl, I', qz⟩ := z
    exact wpAny_pure ⟨.bl b, H', I', rfl, qz⟩
  · refine wpAny_bind (wpAny_pure ?_)
    simp only [Bool.false_eq_true, if_false]
    refine wpAny_bind (wpAny_mono one (fun r s' z => ?_) fun _ _ e => e)
    obtain ⟨b, H', rfl, I', qz⟩ := z
    exact wpAny_pure ⟨.bl b, H', I', rfl, qz⟩
/-- len(x) of an instance with an own __len__ -/
def rLenOwn (C : Addr) (sp : Sp) (gV : List V → List V → List V) (E : XK) : List V → Hp → VK → Prop := fun xs H Q => ∃ a dx fs, xs = [.ref a] ∧ H a = some (.ins C dx fs) ∧ sp (gV [.ref a] []) H (fun v H' => ∃ n : Int, v = .int n ∧ 0 ≤ n ∧ n < 2 ^ 62 ∧ Q (.int n) H') E
theorem cl_lenOwn (c : MethOk X.prog X.w X.K X.mg X.base CX k C "__len__" 0 [] sp gV) {k' : Nat} (hr : Room (k' + 1) X.A) (hk : k ≤ k') (hg : X.A.guards = some []) (hx : Passes CX X E) : CallR X (.builtin "len") (rLenOwn C sp gV E) := by
  obtain ⟨⟨f, fd, ps, g, hm, G, kb⟩, cl⟩ := c
  intro pins s σ H xs us Q I r h
  obtain ⟨a, dx, fs, rfl, ha, q⟩ := h
  rw [Vals.ref1 r]
  obtain ⟨mA, O, _⟩ := ins_get I.hok ha
  obtain ⟨od, J, _⟩ := O.look
  obtain ⟨m, hF⟩ := I.fr
  refine PySem.W.len_K hF I.ok.mod.kin J hm.at_ hm.fn (wpAny_mono (run_gA (A := X.A.in1) (us := [.ref a]) (vs := [.ref a]) G ((Room.in1 hr).mono hk) hg I.env0.in1 kb hx I (.cons rfl .nil) rfl q) (fun w s' z => ?_) fun e s' z => z)
  obtain ⟨z', H', I', rz, n, en, h0, h1, qz⟩ := z
  subst en
  obtain ⟨t, e⟩ := (show ∃ t, w = Value.int n t from rz)
  subst e
  exact ⟨⟨h0, by omega⟩, .int n, H', I'.tok _, ⟨_, rfl⟩, qz⟩
/-- str(x) of an instance with an own __str__ -/
def rStrOwn (C : Addr) (sp : Sp) (gV : List V → List V → List V) (E : XK) : List V → Hp → VK → Prop := fun xs H Q => ∃ a dx fs, xs = [.ref a] ∧ H a = some (.ins C dx fs) ∧ sp (gV [.ref a] []) H (fun v H' => ∃ z : Str, v = .str z ∧ Q (.str z) H') E
theorem strOf_own {prog : Program} {w : World} {A : Around} {E : Value → Shared → Prop} {x : Addr} {ox : Obj} {od : Option Obj} {K : PySem.W.Frag} {Q : Value → Shared → Prop} (hu : A.units < cLine) (XK : K.In s.heap) (I : PySem.W.InstAt s.heap x ox C od)
    (hs : PySem.W.findIn K (.ref C) "__str__" = some (some (.ref f))) (hf : PySem.W.isFn K (.ref f) = true) (h : wpAny (model prog w) A (call (.ref f) [.ref x]) (fun r s₁ => ∃ z t, r = Value.str z t ∧ Q r s₁) E s) : wpAny (model prog w) A (Builtin.Str.strOf (.ref x)) Q E s := by
  unfold Builtin.Str.strOf
  rw [if_neg (show ¬ Builtin.Str.isExactStr (.ref x) = true from Bool.false_ne_true)]
  refine wpAny_bind (wpAny_cRoomFor hu ?_)
  refine wpAny_bind (m := callSpecial? (.ref x) (Str.ofString "__str__")) (PySem.W.special_fn XK I hs (beq_iff_eq.mp hf) (wpAny_mono h (fun r s' hr => ?_) fun _ _ y => y))
  obtain ⟨z, t, rfl, hq⟩ := hr
  refine wpAny_bind (wpAny_pure ?_)
  exact wpAny_pure hq
theorem cl_strOwn (c : MethOk X.prog X.w X.K X.mg X.base CX k C "__str__" 0 [] sp gV) {k' : Nat} (hr : Room (k' + 2) X.A) (hk : k ≤ k') (hg : X.A.guards = some []) (hx : Passes CX X E) : CallR X (.type "str") (rStrOwn C sp gV E) := by
  obtain ⟨⟨f, fd, ps, g, hm, G, kb⟩, cl⟩ := c
  intro pins s σ H xs us Q I r h
  obtain ⟨a, dx, fs, rfl, ha, q⟩ := h
  rw [Vals.ref1 r]
  obtain ⟨mA, O, _⟩ := ins_get I.hok ha
  obtain ⟨od, J, _⟩ := O.look
  have hr1 : Room (k' + 1) X.A.in1 := Room.in1 hr
  have hr2 : Room k' X.A.in1.in1 := Room.in1 hr1
  refine callType_newIn F.called_str (by decide) (F.typeCall_str_1 _) (F.newCall_str_1 _) (fun obj => F.args_object_init_2 obj _) F.entry_str_new
    (S := fun A' R s' => A'.in1.units < cLine ∧ X.K.In s'.heap ∧ PySem.W.InstAt s'.heap a (PySem.W.instObj C dx) C (some od) ∧ wpAny (model X.prog X.w) A'.in1 (call (.ref f) [.ref a]) (fun r s₁ => ∃ z t, r = Value.str z t ∧ R (.ok (.ret r)) s₁) (fun e s₁ => R (.error e) s₁) s') ?_ ?_
  · refine MeetsIn.of_wp fun A' R s' h => ?_
    obtain ⟨hu, hK, hJ, h⟩ := h
    rw [str_new_tree]
    refine wpAny_bind (wpAny_pure ?_)
    refine wpAny_bind (wpAny_of_eq isSubtype_str_str ?_)
    exact wpAny_bind (wpAny_mono (strOf_own (A := A'.in1) (Q := fun r s₁ => R (.ok (.ret r)) s₁) hu hK hJ hm.at_ hm.fn h) (fun r s' h' => wpAny_pure ⟨_, rfl, h'⟩) fun _ _ e => e)
  · refine ⟨hr2.units0, I.kIn, J, wpAny_mono (run_gA (A := X.A.in1.in1) (us := [.ref a]) (vs := [.ref a]) G (hr2.mono hk) hg I.env0.in1.in1 kb hx I (.cons rfl .nil) rfl q) (fun w s' z => ?_) fun e s' z => z⟩
    obtain ⟨z', H', I', rz, zs, ez, qz⟩ := z
    subst ez
    obtain ⟨t, e⟩ := (show ∃ t, w = Value.str zs t from rz)
    subst e
    exact ⟨zs, t, rfl, typeIs_str _ _ _, .str zs, H', I', ⟨_, rfl⟩, qz⟩
theorem truthy_own {prog : Program} {w : World} {A : Around} {E : Value → Shared → Prop} {x : Addr} {ox : Obj} {od : Option Obj} {K : PySem.W.Frag} {Q : Bool → Shared → Prop} (XK : K.In s.heap) (I : PySem.W.InstAt s.heap x ox C od) (hb : PySem.W.findIn K (.ref C) "__bool__" = some none)
    (hs : PySem.W.findIn K (.ref C) "__len__" = some (some (.ref f))) (hf : PySem.W.isFn K (.ref f) = true) (h : wpAny (model prog w) A.in1 (call (.ref f) [.ref x]) (fun r s₁ => ∃ n t, r = Value.int n t ∧ 0 ≤ n ∧ n < 2 ^ 62 ∧ ∀ tk, Q (n != 0) { s₁ with toks := tk }) E s) : wpAny (model prog w) A (truthy (.ref x)) Q E s := by
  have key : wpAny (model prog w) A (runValue (.builtin "len" ⟨[.ref x], []⟩)) (fun r s' => ∃ n t, r = .int n t ∧ Q (n != 0) s') E s := by
    refine wpAny_runValue (codeAny_builtin entry_len ?_)
    rw [Around.under_plainId plain_len _]
    unfold Builtin.«len»
    refine wpAny_bind (m := oneArg "len" _) (wpAny_pure ?_)
    refine wpAny_bind (m := callSpecial? (.ref x) (Str.ofString "__len__")) (PySem.W.special_fn XK I hs (beq_iff_eq.mp hf) (wpAny_mono h (fun r s' hr => ?_) fun _ _ y => y))
    obtain ⟨n, t, rfl, h0, h1, hq⟩ := hr
    refine wpAny_bind (wpAny_holding (wpAny_pure ?_))
    refine wpAny_bind (wpAny_letGo ?_)
    show wpAny _ _ (if n < 0 then _ else _) _ _ _
    rw [if_neg (by omega)]
    show wpAny _ _ (if n ≥ 2 ^ 63 then _ else _) _ _ _
    rw [if_neg (by omega)]
    exact wpAny_bind (wpAny_mkInt (wpAny_pure ⟨n, _, rfl, hq _⟩))
  unfold truthy
  refine wpAny_bind (m := callSpecial? (.ref x) (Str.ofString "__bool__")) (wpAny_bind (wpAny_bind (I.type.here ((PySem.W.looks_findIn XK hb).here (wpAny_pure ?_)))))
  refine wpAny_bind (wpAny_bind (I.type.here ((PySem.W.looks_findIn XK hs).here ?_)))
  refine wpAny_bind (wpAny_mono key (fun r s' hr => ?_) fun _ _ y => y)
  obtain ⟨n, t, rfl, hq⟩ := hr
  exact wpAny_pure hq
/-- bool(x) of an instance with an own __len__, without __bool__ -/
def rBoolOwn (C : Addr) (sp : Sp) (gV : List V → List V → List V) (E : XK) : List V → Hp → VK → Prop := fun xs H Q => ∃ a dx fs, xs = [.ref a] ∧ H a = some (.ins C dx fs) ∧ sp (gV [.ref a] []) H (fun v H' => ∃ n : Int, v = .int n ∧ 0 ≤ n ∧ n < 2 ^ 62 ∧ Q (.bl (n != 0)) H') E
theorem cl_boolOwn (c : MethOk X.prog X.w X.K X.mg X.base CX k C "__len__" 0 [] sp gV) (hb : PySem.W.findIn X.K (.ref C) "__bool__" = some none) {k' : Nat} (hr : Room (k' + 3) X.A) (hk : k ≤ k') (hg : X.A.guards = some []) (hx : Passes CX X E) : CallR X (.type "bool") (rBoolOwn C sp gV E) := by
  obtain ⟨⟨f, fd, ps, g, hm, G, kb⟩, cl⟩ := c
  intro pins s σ H xs us Q I r h
  obtain ⟨a, dx, fs, rfl, ha, q⟩ := h
  rw [Vals.ref1 r]
  obtain ⟨mA, O, _⟩ := ins_get I.hok ha
  obtain ⟨od, J, _⟩ := O.look
  have hr1 : Room (k' + 2) X.A.in1 := Room.in1 hr
  have hr2 : Room (k' + 1) X.A.in1.in1 := Room.in1 hr1
  have hr3 : Room k' X.A.in1.in1.in1 := Room.in1 hr2
  refine callType_newIn F.called_bool F.newNe_bool (F.typeCall_bool_1 _) (F.newCall_bool_1 _) (fun obj => F.args_object_init_2 obj _) F.entry_bool_new
    (S := fun A' R s' => X.K.In s'.heap ∧ PySem.W.InstAt s'.heap a (PySem.W.instObj C dx) C (some od) ∧ wpAny (model X.prog X.w) A'.in1.in1 (call (.ref f) [.ref a]) (fun r s₁ => ∃ n t, r = Value.int n t ∧ 0 ≤ n ∧ n < 2 ^ 62 ∧ ∀ tk, R (.ok (.ret (.bool (n != 0)))) { s₁ with toks := tk }) (fun e s₁ => R (.error e) s₁) s') ?_ ?_
  · refine MeetsIn.of_wp fun A' R s' h => ?_
    obtain ⟨hK, hJ, h⟩ := h
    have ht : wpAny (model X.prog X.w) A'.in1 (truthy (.ref a)) (fun b s₁ => R (.ok (.ret (.bool b))) s₁) (fun e s₁ => R (.error e) s₁) s' := truthy_own hK hJ hb hm.at_ hm.fn h
    unfold Builtin.«bool.__new__»
    refine wpAny_bind (wpAny_pure ?_)
    refine wpAny_bind (wpAny_of_eq F.conv_sub_bool ?_)
    refine wpAny_bind (wpAny_pure ?_)
    exact wpAny_bind (wpAny_mono ht (fun b s₁ z => wpAny_pure ⟨_, rfl, z⟩) fun _ _ z => z)
  · refine ⟨I.kIn, J, wpAny_mono (run_gA (A := X.A.in1.in1.in1) (us := [.ref a]) (vs := [.ref a]) G (hr3.mono hk) hg I.env0.in1.in1.in1 kb hx I (.cons rfl .nil) rfl q) (fun w s' z => ?_) fun e s' z => z⟩
    obtain ⟨z', H', I', rz, n, en, h0, h1, qz⟩ := z
    subst en
    obtain ⟨t, e⟩ := (show ∃ t, w = Value.int n t from rz)
    subst e
    exact ⟨n, t, rfl, h0, h1, fun tk => ⟨PySem.typeIs_bool _ _, .bl (n != 0), H', I'.tok _, rfl, qz⟩⟩
end
end Bz
namespace Bz
open PySem PySem.Spec PyProof.Rows L2
/-! odd == x, x an instance with an own __eq__, odd none -/
section
variable {prog : Program} {w : World} {A : Around} {E : Value → Shared → Prop} {s : Shared} {K : PySem.W.Frag} {a C : Addr} {ox : Obj} {od : Option Obj} {Q : Value → Shared → Prop}
theorem not_sub {T : String} (XK : K.In s.heap) (J : PySem.W.InstAt s.heap a ox C od) (h : PySem.W.subIn K (.ref C) (.type T) = some false) {M : Model} : PySem.W.Looks M s.heap (isInstance (.ref a) (.type T)) false := J.type.andThen (PySem.W.looks_subIn XK h)
theorem dec_none (h : Q .notImplemented s) : wpAny (model prog w) A (call (.builtin "NoneType.__eq__") [.none, .ref a]) Q E s := by
  refine wpAny_call_entry (name := (cmpInfo .Eq).2.1) F.slot_NoneType_eq (typeIs_none s) F.entry_NoneType_eq ?_ (F.args_NoneType_eq_2 _ _)
  show wpAny _ _ (ret _) _ _ s
  exact wpAny_pure ⟨_, rfl, h⟩
theorem dec_list {l : Addr} (XK : K.In s.heap) (J : PySem.W.InstAt s.heap a ox C od) (hn : PySem.W.subIn K (.ref C) (.type "list") = some false) (hT : s.TypeIs (.ref l) "list") (h : Q .notImplemented s) : wpAny (model prog w) A (call (.builtin "list.__eq__") [.ref l, .ref a]) Q E s := by
  refine wpAny_call_entry (name := (cmpInfo .Eq).2.1) F.slot_list_eq hT F.entry_list_eq ?_ (F.args_list_eq_2 _ _)
  show wpAny _ _ (isInstance (.ref a) (.type "list") >>= _) _ _ s
  refine wpAny_bind ((not_sub XK J hn).here ?_)
  exact wpAny_pure ⟨_, rfl, h⟩
theorem dec_tuple {l : Addr} (XK : K.In s.heap) (J : PySem.W.InstAt s.heap a ox C od) (hn : PySem.W.subIn K (.ref C) (.type "tuple") = some false) (hT : s.TypeIs (.ref l) "tuple") (h : Q .notImplemented s) : wpAny (model prog w) A (call (.builtin "tuple.__eq__") [.ref l, .ref a]) Q E s := by
  refine wpAny_call_entry (name := (cmpInfo .Eq).2.1) F.slot_tuple_eq hT F.entry_tuple_eq ?_ (F.args_tuple_eq_2 _ _)
  show wpAny _ _ (isInstance (.ref a) (.type "tuple") >>= _) _ _ s
  refine wpAny_bind ((not_sub XK J hn).here ?_)
  exact wpAny_pure ⟨_, rfl, h⟩
theorem dec_dict {l : Addr} (XK : K.In s.heap) (J : PySem.W.InstAt s.heap a ox C od) (hn : PySem.W.subIn K (.ref C) (.type "dict") = some false) (hT : s.TypeIs (.ref l) "dict") (h : Q .notImplemented s) : wpAny (model prog w) A (call (.builtin "dict.__eq__") [.ref l, .ref a]) Q E s := by
  refine wpAny_call_entry (name := (cmpInfo .Eq).2.1) F.slot_dict_eq hT F.entry_dict_eq ?_ (F.args_dict_eq_2 _ _)
  show wpAny _ _ (Builtin.Dict.dictSlotArgs "__eq__" ⟨[.ref l, .ref a], []⟩ >>= _) _ _ s
  refine wpAny_bind (wpAny_of_eq (show Builtin.Dict.dictSlotArgs "__eq__" ⟨[.ref l, .ref a], []⟩ = pure (.ref l, .ref a) from by kernel_rfl) ?_)
  refine wpAny_bind ((not_sub XK J hn).here ?_)
  exact wpAny_bind (wpAny_rule (wpAny_pure ⟨_, rfl, h⟩))
theorem dec_int {i : Int} {t : Tok} {dx : Addr} (J : PySem.W.InstAt s.heap a (PySem.W.instObj C dx) C od) (h : Q .notImplemented s) : wpAny (model prog w) A (call (.builtin "int.__eq__") [.int i t, .ref a]) Q E s := by
  refine wpAny_call_entry (name := (cmpInfo .Eq).2.1) F.slot_int_eq (typeIs_int s i t) F.entry_int_eq ?_ (F.args_int_eq_2 _ _)
  show wpAny _ _ (asInt? (.ref a) >>= _) _ _ s
  refine wpAny_bind (wpAny_bind (wpAny_load J.at_ (wpAny_pure ?_)))
  exact wpAny_bind (wpAny_rule (wpAny_pure ⟨_, rfl, h⟩))
theorem dec_str {z : Str} {t : Tok} {dx : Addr} (J : PySem.W.InstAt s.heap a (PySem.W.instObj C dx) C od) (h : Q .notImplemented s) : wpAny (model prog w) A (call (.builtin "str.__eq__") [.str z t, .ref a]) Q E s := by
  refine wpAny_call_entry (name := (cmpInfo .Eq).2.1) F.slot_str_eq (typeIs_str s z t) F.entry_str_eq ?_ (F.args_str_eq_2 _ _)
  show wpAny _ _ (asStr? (.ref a) >>= _) _ _ s
  refine wpAny_bind (wpAny_bind (wpAny_load J.at_ (wpAny_pure ?_)))
  exact wpAny_bind (wpAny_rule (wpAny_pure ⟨_, rfl, h⟩))
end
section
variable {X : Cx} {CX : CXT} {pins : List (Addr × Obj)} {σ : L2.St} {H : Hp} {s : Shared} {a C dx f : Addr} {fs : List (Str × V)} {k : Nat} {sp : Sp} {E : XK} {gV : List V → List V → List V}
/-- what stands at the left: none, a number, a text, a list, a tuple, a dict -/
inductive Odd (K : PySem.W.Frag) (H : Hp) : V → String → Prop
  | non : Odd K H .non "NoneType"
  | int (i : Int) : Odd K H (.int i) "int"
  | str (z : Str) : Odd K H (.str z) "str"
  | lst {l : Addr} {xs : List V} (e : SqL K H l xs) : Odd K H (.ref l) "list"
  | tup {l : Addr} {xs : List V} (e : SqT K H l xs) : Odd K H (.ref l) "tuple"
  | dK {l : Addr} {kvs : List (Key × V)} (e : H l = some (.dK kvs)) : Odd K H (.ref l) "dict"
/-- the class is none of the built-in ones -/
structure NoB (K : PySem.W.Frag) (C : Addr) : Prop where
  no : PySem.W.subIn K (.ref C) (.type "NoneType") = some false
  i : PySem.W.subIn K (.ref C) (.type "int") = some false
  s : PySem.W.subIn K (.ref C) (.type "str") = some false
  l : PySem.W.subIn K (.ref C) (.type "list") = some false
  t : PySem.W.subIn K (.ref C) (.type "tuple") = some false
  d : PySem.W.subIn K (.ref C) (.type "dict") = some false
theorem richCompare_decl {T id : String} {u : Value} {Q : Value → Shared → Prop} {ox : Obj} {od : Option Obj} (hu : X.A.units < cLine) (XK : X.K.In s.heap) (J : PySem.W.InstAt s.heap a ox C od) (hT : s.TypeIs u T) (S : Slot T (cmpInfo .Eq).2.1 id) (hn : PySem.W.subIn X.K (.ref C) (.type T) = some false)
    (hs : PySem.W.findIn X.K (.ref C) "__eq__" = some (some (.ref f))) (hf : PySem.W.isFn X.K (.ref f) = true)
    (hd : ∀ Q' : Value → Shared → Prop, Q' .notImplemented s → wpAny (model X.prog X.w) X.A (call (.builtin id) [u, .ref a]) Q' X.xe s)
    (h : wpAny (model X.prog X.w) X.A (call (.ref f) [.ref a, u]) (PySem.W.CmpBack Q) X.xe s) : wpAny (model X.prog X.w) X.A (richCompare .Eq u (.ref a)) Q X.xe s := by
  have one : wpAny (model X.prog X.w) X.A (tryCompare (.ref a) "__eq__" u) (fun r s' => ∃ v, r = some v ∧ Q v s') X.xe s := by
    unfold tryCompare
    refine wpAny_bind (PySem.W.ifBound_K XK J hs hf (wpAny_mono h (fun v s' hv => ?_) fun _ _ e => e))
    cases v <;> first | exact hv.elim | exact wpAny_pure ⟨_, rfl, hv⟩
  unfold richCompare
  simp only [hT.oneThing_none]
  refine wpAny_holding (wpAny_bind (wpAny_cRoomFor hu ?_))
  refine wpAny_bind (wpAny_typeOf hT (wpAny_bind (J.type.here ?_)))
  rw [if_pos (show (Value.type T != Value.ref C) = true from rfl)]
  refine wpAny_bind ((PySem.W.looks_subIn XK hn).here ?_)
  simp only [Bool.false_eq_true, if_false]
  refine wpAny_bind (m := tryCompare u _ (.ref a)) (wpAny_tryCompare_declines hT S (hd _ ⟨rfl, ?_⟩))
  simp only [Bool.not_false, if_true]
  refine wpAny_bind (wpAny_mono one (fun r s' z => ?_) fun _ _ e => e)
  obtain ⟨v, rfl, hq⟩ := z
  exact wpAny_pure hq
def rOddEq (K : PySem.W.Frag) (C : Addr) (sp : Sp) (gV : List V → List V → List V) (E : XK) : R2 := fun x y H Q => ∃ a dx fs T, y = .ref a ∧ H a = some (.ins C dx fs) ∧ Odd K H x T ∧ sp (gV [y, x] []) H Q E
theorem op_oddEq (c : MethOk X.prog X.w X.K X.mg X.base CX k C "__eq__" 1 [] sp gV) (nb : NoB X.K C) {k' : Nat} (hr : Room k' X.A) (hk : k ≤ k') (hg : X.A.guards = some []) (hx : Passes CX X E) : OpR X (compareOp .Eq) (rOddEq X.K C sp gV E) := by
  obtain ⟨⟨f, fd, ps, g, hm, G, kb⟩, cl⟩ := c
  intro pins s σ H x y v u Q I rx ry h
  obtain ⟨a, dx, fs, T, rfl, ha, odd, q⟩ := h
  cases (show u = Value.ref a from ry)
  obtain ⟨mA, O, _⟩ := ins_get I.hok ha
  obtain ⟨od, J, _⟩ := O.look
  have fin : wpAny (model X.prog X.w) X.A (call (.ref f) [.ref a, v]) (PySem.W.CmpBack (EP X pins σ Q)) X.xe s := by
    refine wpAny_mono (run_gA (us := [.ref a, v]) (vs := [.ref a, x]) G (hr.mono hk) hg I.env0 kb hx I (.cons rfl (.cons rx .nil)) rfl q) (fun w s' z => ?_) fun _ _ x => x
    obtain ⟨z', H', I', rz, qz⟩ := z
    exact SlX.cmpback rz ⟨z', H', I', rz, qz⟩
  show wpAny _ _ (richCompare .Eq v (.ref a)) _ _ _
  cases odd with
  | non =>
    cases (show v = Value.none from rx)
    exact richCompare_decl hr.units0 I.kIn J (typeIs_none s) F.slot_NoneType_eq nb.no hm.at_ hm.fn (fun Q' z => dec_none z) fin
  | int i =>
    obtain ⟨t, e⟩ := (show ∃ t, v = Value.int i t from rx)
    subst e
    exact richCompare_decl hr.units0 I.kIn J (typeIs_int s i t) F.slot_int_eq nb.i hm.at_ hm.fn (fun Q' z => dec_int J z) fin
  | str zz =>
    obtain ⟨t, e⟩ := (show ∃ t, v = Value.str zz t from rx)
    subst e
    exact richCompare_decl hr.units0 I.kIn J (typeIs_str s zz t) F.slot_str_eq nb.s hm.at_ hm.fn (fun Q' z => dec_str J z) fin
  | @lst l xs e =>
    cases (show v = Value.ref l from rx)
    obtain ⟨its, rv, p, _⟩ := I.list e
    have hT := p.isList.typeIs
    exact richCompare_decl hr.units0 I.kIn J hT F.slot_list_eq nb.l hm.at_ hm.fn (fun Q' z => dec_list I.kIn J nb.l hT z) fin
  | @tup l xs e =>
    cases (show v = Value.ref l from rx)
    obtain ⟨its, rv, p, _⟩ := I.tuple e
    have hT : s.TypeIs (.ref l) "tuple" := by obtain ⟨o, h1, h2, _⟩ := p; exact ⟨o, h1, h2⟩
    exact richCompare_decl hr.units0 I.kIn J hT F.slot_tuple_eq nb.t hm.at_ hm.fn (fun Q' z => dec_tuple I.kIn J nb.t hT z) fin
  | @dK l kvs e =>
    cases (show v = Value.ref l from rx)
    obtain ⟨_, _, vs, _, p⟩ := (show ObjOk X.prog X.w H s.heap l (.dK kvs) from I.hok l _ e)
    obtain ⟨o, es, ep, h1, h2, _⟩ := p
    have hT : s.TypeIs (.ref l) "dict" := ⟨o, h1, h2.1⟩
    exact richCompare_decl hr.units0 I.kIn J hT F.slot_dict_eq nb.d hm.at_ hm.fn (fun Q' z => dec_dict I.kIn J nb.d hT z) fin
end
end Bz
namespace Bz
open PySem PySem.Spec PyProof.Rows L2
/-! x in [y], y an instance with an own __eq__ -/
section
variable {prog : Program} {w : World} {A : Around} {E : Value → Shared → Prop} {s : Shared}
theorem in_meetsIn {T id : String} {B : Builtin} {c x : Value} {S : PySem.Spec} {Q : Value → Shared → Prop} (hT : s.TypeIs c T) (slot : Slot T "__contains__" id)
    (entry : entryFor table id = some B) (args : argsOk id ⟨[c, x], []⟩) (g : MeetsIn prog w (B ⟨[c, x], []⟩) S)
    (h : S A (wants (fun v s' => ∃ b, v = .bool b ∧ Q (.bool b) s') E) s) : wpAny (model prog w) A (compareOp .In x c) Q E s := by
  show wpAny _ A (do return .bool (← contains c x)) Q E s
  refine wpAny_bind (wpAny_contains_slot hT slot (wpAny_mono (call_meetsIn slot hT entry args g h) (fun v s' hv => ?_) fun _ _ e => e))
  obtain ⟨b, rfl, hq⟩ := hv
  exact wpAny_truthy_bool (wpAny_pure hq)
def OneL (l : Addr) (y : Value) (h : Heap) : Prop := ∃ n, h.get? l = some { cls := .type "list", dict := none, data := .seq #[y] n, slots := #[] }
theorem items_one {M : Model} {l : Addr} {y : Value} (hl : OneL l y s.heap) : wpAny M A (Builtin.List.listItems (.ref l)) (fun r s' => r = #[y] ∧ s' = s) E s := by
  obtain ⟨n, hl⟩ := hl
  obtain ⟨hp, g, d, tk, os⟩ := s
  wp_walk using AutoSeq1.wpAny_loadPart' hl
  exact ⟨rfl, rfl⟩
theorem contains_one (l : Addr) (x y : Value) : MeetsIn prog w (Builtin.«list.__contains__» ⟨[.ref l, x], []⟩) (fun A R s => OneL l y s.heap ∧
    wpAny (model prog w) A.in1 (eqBool y x) (fun b s₁ => (b = true → R (.ok (.ret (.bool true))) s₁) ∧ (b = false → OneL l y s₁.heap ∧ R (.ok (.ret (.bool false))) s₁)) (fun e s₁ => R (.error e) s₁) s) := by
  intro A R s h
  obtain ⟨hl, h⟩ := h
  show wpAny _ _ (again _) _ _ s
  refine wpAny_pure ⟨plainId_quiet MeetsSeq.plain_contains_loop _, codeAny_builtin MeetsSeq.entry_contains_loop ?_⟩
  rw [Around.under_plainId MeetsSeq.plain_contains_loop _]
  show wpAny _ _ (Builtin.List.listItems (.ref l) >>= _) _ _ s
  refine wpAny_bind (wpAny_mono (items_one hl) (fun r s' hr => ?_) fun _ _ e => e)
  obtain ⟨rfl, rfl⟩ := hr
  show wpAny _ _ (eqBool y x >>= _) _ _ _
  refine wpAny_bind (wpAny_mono h (fun b s₁ hb => ?_) fun _ _ e => e)
  cases b with
  | true =>
    rw [if_pos rfl]
    exact wpAny_pure (hb.1 rfl)
  | false =>
    rw [if_neg Bool.false_ne_true]
    obtain ⟨hl', hr⟩ := hb.2 rfl
    show wpAny _ _ (again _) _ _ _
    refine wpAny_pure ⟨plainId_quiet MeetsSeq.plain_contains_loop _, codeAny_builtin MeetsSeq.entry_contains_loop ?_⟩
    rw [Around.under_plainId MeetsSeq.plain_contains_loop _]
    show wpAny _ _ (Builtin.List.listItems (.ref l) >>= _) _ _ _
    refine wpAny_bind (wpAny_mono (items_one hl') (fun r s' hr' => ?_) fun _ _ e => e)
    obtain ⟨rfl, rfl⟩ := hr'
    exact wpAny_pure hr
end
section
variable {X : Cx} {CX : CXT} {pins : List (Addr × Obj)} {σ : L2.St} {H : Hp} {s : Shared} {k : Nat} {sp : Sp} {E : XK} {C : Addr} {gV : List V → List V → List V}
theorem oneL_of {l b : Addr} (I : Inv X pins σ H s) (e : H l = some (.lst [.ref b])) : OneL l (.ref b) s.heap := by
  obtain ⟨_, its, n, rv, h1⟩ := (show ObjOk X.prog X.w H s.heap l (.lst [.ref b]) from I.hok l _ e)
  cases rv with
  | cons r t =>
    cases t
    cases r
    exact ⟨n, h1⟩
/-- x in [y] -/
def rInOwn (K : PySem.W.Frag) (C : Addr) (sp : Sp) (gV : List V → List V → List V) (E : XK) : R2 := fun x y H Q => ∃ l b, y = .ref l ∧ H l = some (.lst [.ref b]) ∧
  ((x = .ref b ∧ Q (.bl true) H) ∨ ∃ a dx fs, x = .ref a ∧ a ≠ b ∧ H b = some (.ins C dx fs) ∧ (∃ dy gs, H a = some (.ins C dy gs)) ∧ sp (gV [.ref b, .ref a] []) H (fun v H' => ∃ r, v = .bl r ∧ H' l = some (.lst [.ref b]) ∧ Q (.bl r) H') E)
theorem op_inOwn (c : MethOk X.prog X.w X.K X.mg X.base CX k C "__eq__" 1 [] sp gV) {k' : Nat} (hr : Room (k' + 2) X.A) (hk : k ≤ k') (hg : X.A.guards = some []) (hx : Passes CX X E) : OpR X (compareOp .In) (rInOwn X.K C sp gV E) := by
  obtain ⟨⟨f, fd, ps, g, hm, G, kb⟩, cl⟩ := c
  intro pins s σ H x y v u Q I rx ry h
  obtain ⟨l, b, rfl, hl, h⟩ := h
  cases (show u = Value.ref l from ry)
  have h1 := oneL_of I hl
  have hT : s.TypeIs (.ref l) "list" := by obtain ⟨n, e⟩ := h1; exact ⟨_, e, rfl⟩
  have hr1 : Room (k' + 1) X.A.in1 := Room.in1 hr
  refine in_meetsIn hT F.slot_list_contains F.entry_list_contains (F.args_list_contains_2 _ _) (contains_one l v (.ref b)) ⟨h1, ?_⟩
  rcases h with ⟨rfl, q⟩ | ⟨a, dx, fs, rfl, hne, hb, ⟨dy, gs, ha⟩, q⟩
  · cases (show v = Value.ref b from rx)
    unfold eqBool
    refine wpAny_holding ?_
    rw [if_pos (show (Value.ref b == Value.ref b) = true from beq_self_eq_true _)]
    refine wpAny_bind (wpAny_rule (wpAny_pure ⟨fun _ => ?_, fun z => by cases z⟩))
    exact ⟨true, rfl, .bl true, H, I, rfl, q⟩
  · cases (show v = Value.ref a from rx)
    obtain ⟨mB, OB, _⟩ := ins_get I.hok hb
    obtain ⟨odB, JB, _⟩ := OB.look
    obtain ⟨mA, OA, _⟩ := ins_get I.hok ha
    obtain ⟨odA, JA, _⟩ := OA.look
    obtain ⟨m, hF⟩ := I.fr
    refine GQ.eqBool_refG (fun z => hne z.symm) ?_
    refine PySem.W.cmp_K (op := .Eq) (tb := .ref C) hr1.units0 hF I.ok.mod.kin JB JA.type (by simp [PySem.W.notFirst]) hm.at_ hm.fn ?_
    refine wpAny_mono (run_gA (A := X.A.in1) (us := [.ref b, .ref a]) (vs := [.ref b, .ref a]) G (hr1.mono (by omega)) hg I.env0.in1 kb hx I (.cons rfl (.cons rfl .nil)) rfl q) (fun w s' z => ?_) fun _ _ x => x
    obtain ⟨z', H', I', rz, r, er, hl', qz⟩ := z
    subst er
    cases (show w = Value.bool r from rz)
    refine ⟨r, rfl, fun e => ?_, fun e => ⟨oneL_of I' hl', ?_⟩⟩
    · subst e
      exact ⟨true, rfl, .bl true, H', I', rfl, qz⟩
    · subst e
      exact ⟨false, rfl, .bl false, H', I', rfl, qz⟩
end
end Bz
namespace Bz
open PySem PySem.Spec PyProof.Rows L2
/-! f-strings; what an own class is asked for ==, !=, in, len, str, bool, isinstance -/
def tFS (ts : List TE) : TE := fun σ H Q => tJs ts Str.empty σ H fun out H1 => Q (.str out) H1
section
variable {B : Hp} {M L L' : List (Addr × HO)} {σ : St} {H : Hp} {Q : VK} {te : TE} {QS : Str → Hp → Prop} {acc y : Str} {ts : List TE}
theorem g_fs (h : tJs ts Str.empty σ H fun out H1 => Q (.str out) H1) : tFS ts σ H Q := h
def aJs (ts : List TE) (acc : Str) (σ : St) (x : V) (H1 : Hp) (Q : Str → Hp → Prop) : Prop := ∃ y : Str, x = .str y ∧ (acc ++ y).length ≤ sizeLine ∧ tJs ts (acc ++ y) σ H1 Q
theorem g_jsC (h : te σ H fun x H1 => aJs ts acc σ x H1 QS) : tJs (te :: ts) acc σ H QS := h
theorem g_jsN (h : QS acc H) : tJs [] acc σ H QS := h
theorem g_aJs {n m : Nat} (h1 : Sh n acc) (h2 : Sh m y) (hn : n + m ≤ 100000) (h : Sh (n + m) (acc ++ y) → tJs ts (acc ++ y) σ H QS) : aJs ts acc σ (.str y) H QS :=
  ⟨y, rfl, Nat.le_trans (h1.add h2).1 (Nat.le_trans hn (by decide)), h (h1.add h2)⟩
def aFmt (x : V) (H1 : Hp) (Q : VK) : Prop := (∃ y : Str, x = .str y ∧ y.length ≤ sizeLine ∧ Q (.str y) H1) ∨ ∃ i : Int, x = .int i ∧ i.natAbs.log2 < 1920 ∧ Q (.str (toString i)) H1
theorem g_fmt (h : te σ H fun x H1 => aFmt x H1 Q) : tFmt te σ H Q := h
theorem g_aFmtS {n : Nat} (h : Sh n y) (hn : n ≤ 100000) (q : Q (.str y) H) : aFmt (.str y) H Q := .inl ⟨y, rfl, Nat.le_trans h.1 (Nat.le_trans hn (by decide)), q⟩
theorem g_aFmtI {i : Int} {k : Nat} (h0 : 0 ≤ i) (hk : 0 < k ∧ k ≤ 250) (h : i < (10 ^ k : Nat)) (q : Sh k (Str.ofString (toString i)) → Q (.str (Str.ofString (toString i))) H) : aFmt (.int i) H Q := by
  obtain ⟨j, e, l, q'⟩ := g_strI (H := H) (Q := Q) h0 hk h q
  cases e
  exact .inr ⟨i, rfl, l, q'⟩
theorem sh_empty : Sh 0 Str.empty := ⟨Nat.le_refl _, fun c hc => by cases hc⟩
theorem g_clear {l : Addr} {xs : List V} (I : Is B M L H) (hl : H l = some (.lst xs)) (u : Put l (.lst []) L L') (q : ∀ H', Is B M L' H' → Q .non H') : rClear (.ref l) [] H Q :=
  ⟨l, xs, rfl, rfl, hl, q _ (I.put u)⟩
end
def OTY : List String := ["NoneType", "int", "str", "list", "tuple", "dict"]
/-- all that is asked of an own class here -/
structure OwnD (K : PySem.W.Frag) (C : Addr) : Prop where
  own : OwnC K C
  nb : NoB K C
  nob : PySem.W.findIn K (.ref C) "__bool__" = some none
  c1 : PySem.W.findIn K (.ref C) "__class__" = some (some (.builtin "object.__class__"))
  c2 : PySem.W.specialIn K (.builtin "object.__class__") "__get__" = some (some (.builtin "getset_descriptor.__get__"))
  c3 : PySem.W.takesIn K (.builtin "object.__class__") = some true
  c4 : PySem.W.mroIn K C (.type "object") = some true
  k0 : PySem.W.kitOne K (.ref C) (.ref C) = some true
  k1 : ∀ T ∈ OTY, PySem.W.kitOne K (.type T) (.ref C) = some false
  n1 : ∀ T ∈ OTY, PySem.W.notFirst K C (.type T) = true
  k2 : ∀ T ∈ (["int", "bool", "str", "list", "tuple"] : List String), PySem.W.kitOne K (.ref C) (.type T) = some false
def ownB (K : PySem.W.Frag) (C : Addr) : Bool :=
  He.eqO (PySem.W.findIn K (.ref C) "__ne__") (some (some (.builtin "object.__ne__"))) && (decide (PySem.W.subIn K (.ref C) (.type "object") = some true) &&
  ((OTY.all fun T => decide (PySem.W.subIn K (.ref C) (.type T) = some false)) &&
  (He.eqO (PySem.W.findIn K (.ref C) "__bool__") (some none) &&
  (He.eqO (PySem.W.findIn K (.ref C) "__class__") (some (some (.builtin "object.__class__"))) &&
  (decide (PySem.W.specialIn K (.builtin "object.__class__") "__get__" = some (some (.builtin "getset_descriptor.__get__"))) &&
  (decide (PySem.W.takesIn K (.builtin "object.__class__") = some true) && (decide (PySem.W.mroIn K C (.type "object") = some true) &&
  (decide (PySem.W.kitOne K (.ref C) (.ref C) = some true) && ((OTY.all fun T => decide (PySem.W.kitOne K (.type T) (.ref C) = some false)) && ((OTY.all fun T => PySem.W.notFirst K C (.type T)) && (["int", "bool", "str", "list", "tuple"] : List String).all fun T => decide (PySem.W.kitOne K (.ref C) (.type T) = some false)))))))))))
theorem ownB_ok {K : PySem.W.Frag} {C : Addr} (h : ownB K C = true) : OwnD K C := by
  unfold ownB at h
  simp only [Bool.and_eq_true] at h
  obtain ⟨a1, a2, a3, a4, a5, a6, a7, a8, a9, a10, a11, a12⟩ := h
  have s := fun T hT => of_decide_eq_true (List.all_eq_true.mp a3 T hT)
  exact ⟨⟨He.eqO_ok a1, of_decide_eq_true a2⟩, ⟨s "NoneType" (by decide), s "int" (by decide), s "str" (by decide), s "list" (by decide), s "tuple" (by decide), s "dict" (by decide)⟩, He.eqO_ok a4, He.eqO_ok a5, of_decide_eq_true a6, of_decide_eq_true a7, of_decide_eq_true a8, of_decide_eq_true a9,
    fun T hT => of_decide_eq_true (List.all_eq_true.mp a10 T hT), fun T hT => List.all_eq_true.mp a11 T hT, fun T hT => of_decide_eq_true (List.all_eq_true.mp a12 T hT)⟩
/-- a thing of a built-in kind -/
inductive Oth (K : PySem.W.Frag) (H : Hp) : V → String → Prop
  | non : Oth K H .non "NoneType"
  | int (i : Int) : Oth K H (.int i) "int"
  | str (z : Str) : Oth K H (.str z) "str"
  | lst {l : Addr} {xs : List V} (e : H l = some (.lst xs)) : Oth K H (.ref l) "list"
  | tup {l : Addr} {xs : List V} (e : H l = some (.tup xs)) : Oth K H (.ref l) "tuple"
  | dK {l : Addr} {kvs : List (Key × V)} (e : H l = some (.dK kvs)) : Oth K H (.ref l) "dict"
section
variable {K : PySem.W.Frag} {H H' : Hp} {x y : V} {T : String} {C a b dx dy : Addr} {fs gs : List (Str × V)} {Q : VK} {sp : Sp} {gV : List V → List V → List V} {E : XK}
theorem Oth.same (s : Same H H') (o : Oth K H x T) : Oth K H' x T := by
  cases o with
  | non => exact .non
  | int i => exact .int i
  | str z => exact .str z
  | lst e => exact .lst (s _ _ e)
  | tup e => exact .tup (s _ _ e)
  | dK e => exact .dK (s _ _ e)
theorem Oth.mem (o : Oth K H x T) : T ∈ OTY := by cases o <;> decide
theorem Oth.ty (o : Oth K H x T) : TyOf K H x (.type T) := by
  cases o with
  | non => exact .non
  | int i => exact .int i
  | str z => exact .str z
  | lst e => exact .lst e
  | tup e => exact .tup e
  | dK e => exact .dK e
theorem Oth.odd (o : Oth K H x T) : Odd K H x T := by
  cases o with
  | non => exact .non
  | int i => exact .int i
  | str z => exact .str z
  | lst e => exact .lst (SqL.of e)
  | tup e => exact .tup (SqT.of e)
  | dK e => exact .dK e
theorem OwnD.ty (D : OwnD K C) (c : Cls K C) (h : H a = some (.ins C dx fs)) : TyOf K H (.ref a) (.ref C) := .ins h c D.c1 D.c2 D.c3 D.c4
theorem g_isiO (D : OwnD K C) (c : Cls K C) (h : H a = some (.ins C dx fs)) (q : Q (.bl true) H) : rIsi K [.ref a, .ref C] H Q := ⟨_, _, _, _, true, rfl, .own C, .base (D.ty c h), D.k0, q⟩
theorem g_isiN (D : OwnD K C) (o : Oth K H x T) (q : Q (.bl false) H) : rIsi K [x, .ref C] H Q := ⟨_, _, _, _, false, rfl, .own C, .base o.ty, D.k1 T o.mem, q⟩
theorem self_first : PySem.W.notFirst K C (.ref C) = true := by simp [PySem.W.notFirst]
theorem g_ownEqI (D : OwnD K C) (c : Cls K C) (h : H a = some (.ins C dx fs)) (h2 : H b = some (.ins C dy gs)) (q : sp (gV [.ref a, .ref b] []) H Q E) : rOwnEq K C sp gV E (.ref a) (.ref b) H Q := ⟨a, dx, fs, _, rfl, h, D.ty c h2, self_first, q⟩
theorem g_ownEqO (D : OwnD K C) (h : H a = some (.ins C dx fs)) (o : Oth K H y T) (q : sp (gV [.ref a, y] []) H Q E) : rOwnEq K C sp gV E (.ref a) y H Q := ⟨a, dx, fs, _, rfl, h, o.ty, D.n1 T o.mem, q⟩
def aNeg (v : V) (H : Hp) (Q : VK) : Prop := ∃ b, v = .bl b ∧ Q (.bl (!b)) H
theorem g_aNeg {b : Bool} (q : Q (.bl (!b)) H) : aNeg (.bl b) H Q := ⟨b, rfl, q⟩
theorem g_ownNeI (D : OwnD K C) (c : Cls K C) (h : H a = some (.ins C dx fs)) (h2 : H b = some (.ins C dy gs)) (q : sp (gV [.ref a, .ref b] []) H (fun v H' => aNeg v H' Q) E) : rOwnNe K C sp gV E (.ref a) (.ref b) H Q := ⟨a, dx, fs, _, rfl, h, D.ty c h2, self_first, q⟩
theorem g_ownNeO (D : OwnD K C) (h : H a = some (.ins C dx fs)) (o : Oth K H y T) (q : sp (gV [.ref a, y] []) H (fun v H' => aNeg v H' Q) E) : rOwnNe K C sp gV E (.ref a) y H Q := ⟨a, dx, fs, _, rfl, h, o.ty, D.n1 T o.mem, q⟩
theorem g_oddEq (h : H a = some (.ins C dx fs)) (o : Oth K H x T) (q : sp (gV [.ref a, x] []) H Q E) : rOddEq K C sp gV E x (.ref a) H Q := ⟨a, dx, fs, T, rfl, h, o.odd, q⟩
theorem g_inSame {l : Addr} (h : H l = some (.lst [.ref b])) (q : Q (.bl true) H) : rInOwn K C sp gV E (.ref b) (.ref l) H Q := ⟨l, b, rfl, h, .inl ⟨rfl, q⟩⟩
def aInV (l b : Addr) (v : V) (H : Hp) (Q : VK) : Prop := ∃ r, v = .bl r ∧ H l = some (.lst [.ref b]) ∧ Q (.bl r) H
theorem g_aInV {l : Addr} {r : Bool} (h : H l = some (.lst [.ref b])) (q : Q (.bl r) H) : aInV l b (.bl r) H Q := ⟨r, rfl, h, q⟩
theorem g_inOther {l : Addr} (h : H l = some (.lst [.ref b])) (hne : a ≠ b) (hb : H b = some (.ins C dx fs)) (ha : H a = some (.ins C dy gs)) (q : sp (gV [.ref b, .ref a] []) H (fun v H' => aInV l b v H' Q) E) : rInOwn K C sp gV E (.ref a) (.ref l) H Q :=
  ⟨l, b, rfl, h, .inr ⟨a, dx, fs, rfl, hne, hb, ⟨dy, gs, ha⟩, q⟩⟩
def aLenV (v : V) (H : Hp) (Q : VK) : Prop := ∃ n : Int, v = .int n ∧ 0 ≤ n ∧ n < 2 ^ 62 ∧ Q (.int n) H
theorem g_aLenV {n : Int} (h0 : 0 ≤ n) (h1 : n < 2 ^ 62) (q : Q (.int n) H) : aLenV (.int n) H Q := ⟨n, rfl, h0, h1, q⟩
theorem g_lenOwn (h : H a = some (.ins C dx fs)) (q : sp (gV [.ref a] []) H (fun v H' => aLenV v H' Q) E) : rLenOwn C sp gV E [.ref a] H Q := ⟨a, dx, fs, rfl, h, q⟩
def aBoolV (v : V) (H : Hp) (Q : VK) : Prop := ∃ n : Int, v = .int n ∧ 0 ≤ n ∧ n < 2 ^ 62 ∧ Q (.bl (n != 0)) H
theorem g_aBoolV {n : Int} (h0 : 0 ≤ n) (h1 : n < 2 ^ 62) (q : Q (.bl (n != 0)) H) : aBoolV (.int n) H Q := ⟨n, rfl, h0, h1, q⟩
theorem g_boolOwn (h : H a = some (.ins C dx fs)) (q : sp (gV [.ref a] []) H (fun v H' => aBoolV v H' Q) E) : rBoolOwn C sp gV E [.ref a] H Q := ⟨a, dx, fs, rfl, h, q⟩
def aStrV (v : V) (H : Hp) (Q : VK) : Prop := ∃ z : Str, v = .str z ∧ Q (.str z) H
theorem g_aStrV {z : Str} (q : Q (.str z) H) : aStrV (.str z) H Q := ⟨z, rfl, q⟩
theorem g_strOwn (h : H a = some (.ins C dx fs)) (q : sp (gV [.ref a] []) H (fun v H' => aStrV v H' Q) E) : rStrOwn C sp gV E [.ref a] H Q := ⟨a, dx, fs, rfl, h, q⟩
end
end Bz
namespace Bz
open PySem PySem.Spec PyProof.Rows L2
/-! while; int(a truth) -/
def rIntB : List V → Hp → VK → Prop := fun xs H Q => ∃ k, xs = [.bl k] ∧ Q (.int (if k then 1 else 0)) H
theorem cl_intB {X : Cx} : CallR X (.type "int") rIntB := fun pins s σ H xs us Q I r h => call_int1 pins s σ H xs us Q I r (.inr h)
section
variable {σ : St} {H : Hp} {Q : VK} {nx bk ct : St → Hp → Prop} {rt : VK}
theorem g_intB {k : Bool} (q : Q (.int (if k then 1 else 0)) H) : rIntB [.bl k] H Q := ⟨k, rfl, q⟩
/-- a loop with an invariant that has a measure -/
def aWh (W : Nat → St → Hp → Prop) (m : Nat) (tb : TS) (nx : St → Hp → Prop) (rt : VK) (σ : St) (H1 : Hp) : Prop := ∃ N : St → Hp → Prop, (∀ σ' H', N σ' H' → ∃ m', m' < m ∧ W m' σ' H') ∧ tb ⟨N, rt, nx, N⟩ σ H1
theorem g_while {tc : TT} {tb : TS} (W : Nat → St → Hp → Prop) (m0 : Nat) (h0 : W m0 σ H)
    (hs : ∀ m σ H, W m σ H → tc σ H fun b H1 => if b = true then aWh W m tb nx rt σ H1 else nx σ H1) : tWhile tc tb ⟨nx, rt, bk, ct⟩ σ H := ⟨W, ⟨m0, h0⟩, hs⟩
theorem g_whB {tb : TS} {W : Nat → St → Hp → Prop} {m : Nat} (h : tb ⟨fun σ2 H2 => ∃ m', m' < m ∧ W m' σ2 H2, rt, nx, fun σ2 H2 => ∃ m', m' < m ∧ W m' σ2 H2⟩ σ H) : aWh W m tb nx rt σ H :=
  ⟨_, fun _ _ h => h, h⟩
end
end Bz
namespace Bz
open PySem PySem.Spec PyProof.Rows L2
/-! a, b, .. = a list -/
theorem g_gLst {K : PySem.W.Frag} {σ : St} {H : Hp} {QS : St → Hp → Prop} {a : Addr} {xs : List V} {n : Nat} {ts : TGs} (h : SqL K H a xs) (hl : xs.length = n) (q : ts xs σ H QS) : gLst K n ts (.ref a) σ H QS := ⟨a, xs, rfl, h, hl, q⟩
end Bz
namespace Bz
open PySem PySem.Spec PyProof.Rows L2
/-! a dict of the top, texts by texts: d.get(text) -/
structure KTab (K : PySem.W.Frag) (w : World) (d : Addr) (kvs : List (Str × Str)) : Prop where
  ex : ∃ es n, KDict K w d es n ∧ (∀ q ∈ kvs, ∃ u, PySem.W.nsIn K d q.1 = some (some u) ∧ RelV (.str q.2) u) ∧ ∀ z, (∀ q ∈ kvs, q.1 ≠ z) → PySem.W.nsIn K d z = some none
theorem nsIn_no {K : PySem.W.Frag} {P : Params} {d : Addr} {es : Array DictEntry} {n : Nat} {keys : List Str} {z : Str} (h : K.lookup d = some ⟨.type "dict", none, .dict es n, #[]⟩) (hk : es.toList.map He.keyOf = He.keysIn P keys) (hz : ∀ k ∈ keys, k ≠ z) : PySem.W.nsIn K d z = some none := by
  have key : ∀ e ∈ es.toList, ∃ k t, e.key = .str k t ∧ k ∈ keys := fun e he => by
    have h1 : He.keyOf e ∈ es.toList.map He.keyOf := List.mem_map.mpr ⟨e, he, rfl⟩
    rw [hk] at h1
    obtain ⟨k, hk1, hk2⟩ := List.mem_map.mp h1
    unfold He.keyOf at hk2
    split at hk2
    · rename_i x t q
      have h2 := Option.some.inj hk2
      have h3 := (Prod.mk.inj h2).1
      exact ⟨x, t, q, by rw [← h3]; exact hk1⟩
    · cases hk2
  have f1 : es.toList.find? (·.key.isStr z) = none := List.find?_eq_none.mpr fun e he hc => by
    obtain ⟨k, t, h1, h2⟩ := key e he
    rw [h1] at hc
    exact hz k h2 (eq_of_beq hc)
  have f2 : es.toList.any (·.refKey) = false := List.any_eq_false.mpr fun e he hc => by
    obtain ⟨k, t, h1, h2⟩ := key e he
    unfold DictEntry.refKey at hc
    rw [h1] at hc
    cases hc
  unfold PySem.W.nsIn
  rw [h]
  show (match es.toList.find? (·.key.isStr z) with
    | some e => some (some e.val)
    | none => if es.toList.any (·.refKey) then none else some none) = some none
  rw [f1]
  show (if es.toList.any (·.refKey) = true then none else some none) = some none
  rw [f2]
  rfl
theorem ktab_of {fa : List He.Fa} {fn : List He.DefD} {ts : List He.Tab} {w : World} {K : PySem.W.Frag} {kvs : List (Str × Str)} {dk : PySem.W.Frag → Addr} (c : He.SaysT fa fn ts w K) (i : Nat) (h : ts[i]? = some (dk, kvs.map (·.1))) (hv : He.valsB K (dk K) (kvs.map fun q => (q.1, He.Dv.str q.2)) = true) : KTab K w (dk K) kvs := by
  have e : ts.map (fun t => He.dicW K (t.1 K)) = ts.map fun t => some (He.keysIn w.params t.2) := congrArg (fun z : He.AlT => z.2) c
  have e2 : (ts.map fun t => He.dicW K (t.1 K))[i]? = (ts.map fun t => some (He.keysIn w.params t.2))[i]? := by rw [e]
  rw [List.getElem?_map, List.getElem?_map, h] at e2
  have e3 : He.dicW K (dk K) = some (He.keysIn w.params (kvs.map (·.1))) := Option.some.inj e2
  obtain ⟨es, n, D⟩ := He.dicW_ok e3
  refine ⟨es, n, D, fun q hq => He.valsB_ok hv (q := (q.1, He.Dv.str q.2)) (List.mem_map_of_mem (f := fun q : Str × Str => (q.1, He.Dv.str q.2)) hq), fun z hz => ?_⟩
  have e4 : es.toList.map He.keyOf = He.keysIn w.params (kvs.map (·.1)) := by
    unfold He.dicW at e3
    rw [D.at_] at e3
    have e5 : (match decide (("dict" : String) = "dict") && ((#[] : Array (Option Value)).isEmpty && !(dk K == sysModules)) with
      | true => some (es.toList.map He.keyOf)
      | false => none) = some (He.keysIn w.params (kvs.map (·.1))) := e3
    rw [D.low] at e5
    exact Option.some.inj e5
  exact nsIn_no D.at_ e4 fun k hk => by
    obtain ⟨q, hq, rfl⟩ := List.mem_map.mp hk
    exact hz q hq
def tKGet (d : Addr) (kvs : List (Str × Str)) (te : TE) : TE := fun σ H Q => te σ H fun y H1 => ∃ z, y = .str z ∧ ((∃ v, (z, v) ∈ kvs ∧ Q (.str v) H1) ∨ ((∀ q ∈ kvs, q.1 ≠ z) ∧ Q .non H1))
section
variable {X : Cx} {o e : Expr} {apos cpos : Pos} {ty : TE} {d : Addr} {kvs : List (Str × Str)}
theorem pe_kget (D : KTab X.K X.w d kvs) (ho : PE X o (tC (.ref d))) (he : PE X e ty) (m : M1 X o "get" apos e cpos) : PE X (.Call (.Attribute o "get" apos) [e] [] cpos) (tKGet d kvs ty) := by
  obtain ⟨es, n, D, hv, hno⟩ := D.ex
  refine ⟨fun pins s σ H Q I h => ?_⟩
  refine wpAny_Call_method m.base m.few m.line PySem.F.plainAttrs_dict PySem.F.slot_dict_get PySem.F.type_dict_get (thn (ho.run pins s σ H (fun x H1 => x = .ref d ∧ tKGet d kvs ty σ H1 Q) I ⟨rfl, h⟩) fun u s1 ⟨x, H1, I1, rx, ex, q1⟩ => ?_)
  subst ex
  obtain rfl : u = Value.ref d := rx
  refine ⟨kd_type D I1, fun b q => ?_, ?_⟩
  · cases q
    exact ⟨_, I1.kIn _ _ D.at_, rfl⟩
  · rw [m.trees]
    refine Calls.callWith_builtin rfl (Calls.evalArgs_plain (Calls.spliced_cons (thn (he.run pins s1 σ H1 _ I1 q1) fun iv s2 ⟨y, H2, I2, ry, z, ey, hz⟩ => Calls.spliced_nil ?_)))
    subst ey
    obtain ⟨t, rfl⟩ := ry
    rcases hz with ⟨v, hz, q2⟩ | ⟨hz, q2⟩
    · obtain ⟨u, hu, ru⟩ := hv _ hz
      refine call_meetsIn PySem.F.slot_dict_get (kd_type D I2) PySem.F.entry_dict_get (PySem.F.args_dict_get_2 _ _) (meets_dict_get (PySem.strKind X.prog X.w) d (PySem.strKind_is X.prog X.w z t) D.low) ⟨_, PySem.W.mapOf_K (prog := X.prog) I2.kIn D.at_ D.lit, ?_⟩
      refine ⟨.str v, H2, I2.tok _, ?_, q2⟩
      rw [PySem.W.find_K D.at_ hu]
      exact ru
    · refine call_meetsIn PySem.F.slot_dict_get (kd_type D I2) PySem.F.entry_dict_get (PySem.F.args_dict_get_2 _ _) (meets_dict_get (PySem.strKind X.prog X.w) d (PySem.strKind_is X.prog X.w z t) D.low) ⟨_, PySem.W.mapOf_K (prog := X.prog) I2.kIn D.at_ D.lit, ?_⟩
      refine ⟨.non, H2, I2.tok _, ?_, q2⟩
      rw [PySem.W.find_K D.at_ (hno z hz)]
      rfl
end
theorem g_kget {d : Addr} {kvs : List (Str × Str)} {te : TE} {σ : St} {H : Hp} {Q : VK} (h : te σ H fun y H1 => ∃ z, y = .str z ∧ ((∃ v, (z, v) ∈ kvs ∧ Q (.str v) H1) ∨ ((∀ q ∈ kvs, q.1 ≠ z) ∧ Q .non H1))) : tKGet d kvs te σ H Q := h
theorem g_kgot {kvs : List (Str × Str)} {H : Hp} {Q : VK} {z v : Str} (h : (z, v) ∈ kvs) (q : Q (.str v) H) : ∃ z', V.str z = .str z' ∧ ((∃ v', (z', v') ∈ kvs ∧ Q (.str v') H) ∨ ((∀ q ∈ kvs, q.1 ≠ z') ∧ Q .non H)) := ⟨z, rfl, .inl ⟨v, h, q⟩⟩
theorem g_kno {kvs : List (Str × Str)} {H : Hp} {Q : VK} {z : Str} (h : ∀ q ∈ kvs, q.1 ≠ z) (q : Q .non H) : ∃ z', V.str z = .str z' ∧ ((∃ v', (z', v') ∈ kvs ∧ Q (.str v') H) ∨ ((∀ q ∈ kvs, q.1 ≠ z') ∧ Q .non H)) := ⟨z, rfl, .inr ⟨h, q⟩⟩
/-! xs.pop(0) -/
theorem g_pop0 {B H : Hp} {M L L' : List (Addr × HO)} {Q : VK} {l : Addr} {x : V} {xs : List V} (I : Is B M L H) (hl : H l = some (.lst (x :: xs))) (u : Put l (.lst xs) L L') (q : ∀ H', Is B M L' H' → Q x H') : rPopAt (.ref l) [.int 0] H Q :=
  ⟨l, x :: xs, 0, 0, x, rfl, rfl, hl, by decide, by decide, by simp [seqIndex?], rfl, q _ (I.put u)⟩
/-! o.f += a number -/
def aFAdd (K : PySem.W.Frag) (x : V) (k : Int) (f : Str) (nx : Hp → Prop) (H1 : Hp) : Prop := ∃ a C dx fs i, x = .ref a ∧ H1 a = some (.ins C dx fs) ∧ Cls K C ∧ NoAttr K C f ∧ fs.lookup f = some (.int i) ∧ fs.length < 1000 ∧ nx (upd H1 a (.ins C dx (putF f (.int (i + k)) fs)))
theorem g_fldAdd {K : PySem.W.Frag} {ta : TE} {k : Int} {f : Str} {nx bk ct : St → Hp → Prop} {rt : VK} {σ : St} {H : Hp} (mono : ∀ Q Q', (∀ v H1, Q v H1 → Q' v H1) → ta σ H Q → ta σ H Q') (h : ta σ H fun x H1 => aFAdd K x k f (fun H2 => nx σ H2) H1) : sFldAug K ta (tC (.int k)) rAdd f ⟨nx, rt, bk, ct⟩ σ H :=
  mono _ _ (fun x H1 ⟨a, C, dx, fs, i, e, hh, c, n, l, z, q⟩ => ⟨a, C, dx, fs, .int i, e, hh, c, n, l, i, k, rfl, rfl, dx, fs, hh, z, q⟩) h
theorem var_mono {i : Nat} {σ : St} {H : Hp} (Q Q' : VK) (h : ∀ v H1, Q v H1 → Q' v H1) (q : tVar i σ H Q) : tVar i σ H Q' := by
  obtain ⟨v, e, q⟩ := q
  exact ⟨v, e, h _ _ q⟩
theorem g_aFAdd {K : PySem.W.Frag} {B H : Hp} {M L L' : List (Addr × HO)} {a C dx : Addr} {fs fs' : List (Str × V)} {i k : Int} {f : Str} {nx : Hp → Prop} (I : Is B M L H) (h : H a = some (.ins C dx fs)) (c : Cls K C) (n : NoAttr K C f) (g : FGet fs f (.int i)) (hz : fs.length < 100) (fp : FPut f (.int (i + k)) fs fs') (u : Put a (.ins C dx fs') L L')
    (q : ∀ H', Is B M L' H' → nx H') : aFAdd K (.ref a) k f nx H :=
  ⟨a, C, dx, fs, i, rfl, h, c, n, g.eq, by omega, q _ (by rw [fp.eq]; exact I.put u)⟩
end Bz
namespace Bz
open PySem PySem.Spec PyProof.Rows L2
/-! ### try: .. except (A, B, C) as e: .. , the error kept behind it -/
/-- at a: an error of the class cls, its dict d -/
def exv (a : Addr) (cls : Value) (d : Option Addr) : HO := .ext fun h => ∃ (oe : Obj) (vs : Array Value), h.get? a = some oe ∧ oe.cls = cls ∧ oe.dict = d ∧ oe.data = .fields vs
theorem exv_ok {P : Program} {w : World} {H : Hp} {h : Heap} {a : Addr} {cls : Value} {d : Option Addr} {oe : Obj} {vs : Array Value} (he : h.get? a = some oe) (hz : Zc cls d oe) (hd : oe.data = .fields vs) : ObjOk P w H h a (exv a cls d) :=
  ⟨⟨oe, vs, he, hz.1, hz.2, hd⟩, ⟨_, he⟩, fun h1 h2 ⟨o, v, q, q2⟩ k => ⟨o, v, k _ q, q2⟩⟩
theorem fly_push {B h : Heap} {l : List Env} {a : Addr} {Z : Obj → Prop} {o : Obj} (x : HandSPX.FlyingZ B l a Z h) : HandSPX.FlyingZ B l a Z (h.push o) := by
  obtain ⟨k1, k2, k3, oe, vs, T, oT, ts, he, hz, hd, h1, hnT, hTe, hT, hdT, h3⟩ := x
  exact ⟨fun b o e => Heap.get?_push_of_some _ (k1 b o e), k2, k3.of_keeps fun b o hb _ => ⟨o, Heap.get?_push_of_some _ hb, rfl⟩, oe, vs, T, oT, ts, Heap.get?_push_of_some _ he, hz, hd, h1, hnT, hTe, Heap.get?_push_of_some _ hT, hdT, h3⟩
section
variable {X : Cx} {pins : List (Addr × Obj)} {σ : L2.St} {H : Hp} {s : Shared}
theorem tell_exc {a : Addr} {oe : Obj} {vs : Array Value} {cls : Value} {d : Option Addr} (I : Inv (X.suite a ((a, oe) :: (X.pn ++ pins))) [] σ H s) (ok : X.Ok) (hz : Zc cls d oe) (hd : oe.data = .fields vs) (h0 : X.s_0.heap.get? a = none) (np : ∀ p ∈ X.pn ++ pins, p.1 ≠ a) :
    Inv X pins σ (upd H a (exv a cls d)) s := by
  obtain ⟨ha, na, nL, nF, nC⟩ := I.pin (a, oe) (List.mem_append_left _ List.mem_cons_self)
  have ha : s.heap.get? a = some oe := ha
  have na : H a = none := na
  have nL : a ≠ X.env.locals := nL
  have sm : ∀ {b u}, H b = some u → upd H a (exv a cls d) b = some u := fun {b u} e => by
    rw [upd_ne (ne_of_none e na)]
    exact e
  refine ⟨ok, I.os, I.bare, ⟨I.base.keep, I.base.slot, fun b o e n hx => ?_, I.base.there, fun b xs e => sm (I.base.tups b xs e), fun b o u e => sm (I.base.frzs b o u e), fun b ps e => ?_⟩, I.loc, I.cell, ?_, fun x c e => ?_, fun p hp => ?_, fun b u e => ?_, I.len⟩
  · have hb : b ≠ a := fun z => by
      rw [z] at e
      have e' : X.s_0.heap.get? a = some o := e
      rw [h0] at e'
      cases e'
    rw [upd_ne hb]
    exact I.base.free b o e n hx
  · obtain ⟨more, q⟩ := I.base.tbls b ps e
    exact ⟨more, sm q⟩
  · rw [upd_ne (Ne.symm nL)]
    exact I.free
  · have hc : c ≠ a := fun z => by
      obtain ⟨v, o, ho, hv⟩ := I.cell x c e
      rw [z] at ho
      have ho' : s.heap.get? a = some o := ho
      rw [ha] at ho'
      cases ho'
      exact nC v hv
    rw [upd_ne hc]
    exact I.freeC x c e
  · obtain ⟨q1, q2, q3⟩ := I.pin p (List.mem_append_left _ (List.mem_cons_of_mem _ hp))
    refine ⟨q1, ?_, q3⟩
    rw [upd_ne (np p hp)]
    exact q2
  · by_cases hb : b = a
    · subst hb
      rw [upd_same] at e
      cases e
      exact exv_ok ha hz hd
    · rw [upd_ne hb] at e
      exact (I.hok b u e).stay (fun c v hc z => z) (fun c hc => sm hc) fun c xs hc => sm hc
end
/-- what the clause wishes of an error of the body: it is of one of the three -/
def wAs3 (K : PySem.W.Frag) (c1 c2 c3 : Value) (i : Nat) (ts : Addr → Value → Option Addr → TS) (D : Ends) : WX := fun cls d σ H =>
  PySem.W.exmAny K cls [c1, c2, c3] = some true ∧ ∀ a, H a = none → ts a cls d { nx := fun σ' H' => D.nx (σ'.set i none) (upd H' a (exv a cls d)), rt := fun _ _ => False, bk := fun _ _ => False, ct := fun _ _ => False } (σ.set i (some (.ref a))) H
section
variable {X : Cx} {x1 x2 x3 n : Str} {c1 c2 c3 : Value} {i : Nat} {body suite : List Stmt} {b₀ : Stmt} {p1 p2 p3 pos tp pos' : Pos} {st : Nat} {tb : WX → TS} {ts : Addr → Value → Option Addr → TS}
theorem ps_try_as3 (hs : X.stack = X.env :: X.outer) (hf : X.env.frame = some X.env.locals) (hex : X.ex = []) (hN : X.N.Nodup) (hi : X.N[i]? = some n) (hln : X.env.kindOf n = some .local) (h1 : Names X x1 c1) (h2 : Names X x2 c2) (h3 : Names X x3 c3)
    (hb : ∀ (W : WX) (pn : List (Addr × Obj)) (xe : Value → Shared → Prop), Takes (X.tr pn xe) W → PassesOwn (model X.prog X.w) X.A X.env xe → PSs (X.tr pn xe) body (tb W))
    (hsu : ∀ (a : Addr) (oe : Obj) (cls : Value) (d : Option Addr) (pn : List (Addr × Obj)), Zc cls d oe → (∃ vs, oe.data = .fields vs) → PSs (X.suite a ((a, oe) :: pn)) (b₀ :: suite) (ts a cls d)) :
    PS X (.Try body [.ExceptHandler (some (.Tuple [.Name x1 p1, .Name x2 p2, .Name x3 p3] st tp)) (some n) (b₀ :: suite) pos'] [] [] pos) (fun D σ H => tb (wAs3 X.K c1 c2 c3 i ts D) D σ H) := by
  refine ⟨fun pins s σ H D I h => ?_⟩
  have ok := I.ok
  have hfr : X.A.frames = some (X.env :: X.outer) := by rw [ok.frames, hs]
  refine wpAny_Try_except ?_
  refine wpAny_mono ((hb (wAs3 X.K c1 c2 c3 i ts D) (X.pn ++ pins) (fun e s₁ => wpAny (model X.prog X.w) X.A (noteFrame e X.env) (fun _ s₂ => wpAny (model X.prog X.w) X.A (setFlight e none) (fun _ s₃ =>
    wpAny (model X.prog X.w) X.A (handleBy e X.env [.ExceptHandler (some (.Tuple [.Name x1 p1, .Name x2 p2, .Name x3 p3] st tp)) (some n) (b₀ :: suite) pos']) (SP X pins D) X.xe s₃) X.xe s₂) X.xe s₁) ?_ PassesOwn.looking).run [] s σ H D (I.toTry _) h) ?_ (fun e s1 he => he)
  · intro u s' xx
    obtain ⟨a, B, sI, pins', σ', H', cls, d, rfl, J', nb, up, sky, na, os, ag, hx, hyes⟩ := xx
    have J : Inv X pins σ' H' sI := J'.ofTry ok
    have sky' : Sky B (X.env :: X.outer) a (Zc cls d) X.env.locals s'.heap := by rw [← hs]; exact sky
    show wpAny (model X.prog X.w) X.A (noteFrame (.ref a) X.env) _ _ _
    refine Sky.land Zc.steady hfr hf sky' fun h3' fl3 up3 => ?_
    have J3 : Inv X pins σ' H' { s' with heap := h3' } := J.landed nb fl3.1 (up.trans up3) os ag
    obtain ⟨oe3, vs3, he3, hz3, hd3⟩ := fl3.there
    have nfr : a ∉ frs (X.env :: X.outer) := fun hm => by
      obtain ⟨_, o', e', hnf⟩ := fl3.2.2.1.mem hm
      rw [he3] at e'; cases e'
      exact hnf _ hd3
    have nL : a ≠ X.env.locals := fun z => nfr (List.mem_filterMap.mpr ⟨X.env, List.mem_cons_self, by rw [hf, z]⟩)
    have nF : a ∉ X.fs := fun hm => by
      obtain ⟨e, he, q⟩ := List.mem_filterMap.mp hm
      exact nfr (List.mem_filterMap.mpr ⟨e, List.mem_cons_of_mem _ he, q⟩)
    have nfr' : a ∉ frs X.stack := by rw [hs]; exact nfr
    have hB : B.get? a = none := fl3.2.1
    have h0 : X.s_0.heap.get? a = none := by
      cases e : X.s_0.heap.get? a with
      | none => rfl
      | some o =>
        obtain ⟨o', e'⟩ := J.base.there a o e (by rw [hex]; simp)
        rw [nb a o' e' nfr'] at hB
        cases hB
    have np : ∀ p ∈ X.pn ++ pins, p.1 ≠ a := fun p hp z => by
      obtain ⟨e, n', ne, nf, _⟩ := J.pin p hp
      rw [z] at e
      rw [nb a _ e nfr'] at hB
      cases hB
    have S3 := J3.suite he3 hd3 na nL nF
    refine wpAny_handleBy_cons (codeAny_handlers_test ?_) (by intro q; cases q)
    have named : ∀ {x : Str} {c : Value} {np : Pos}, Names X x c → ∀ {Q : Value → Shared → Prop} {E : Value → Shared → Prop}, Q c { s' with heap := h3' } → wpAny (model X.prog X.w) (X.A.mark (some (.ref a))) (eval (.Name x np) X.env) Q E { s' with heap := h3' } := fun {x c np} hc {Q E} q => by
      obtain ⟨hg, hdbg, hm | ⟨hm, hv, hnn⟩⟩ := hc
      · exact ld_glob (X := X.suite a ((a, oe3) :: (X.pn ++ pins))) S3 hg hm q hdbg
      · exact ld_blt (X := X.suite a ((a, oe3) :: (X.pn ++ pins))) S3 hg hm hv q hnn hdbg
    refine wpAny_Tuple_spliced (Calls.spliced_cons (named h1 (Calls.spliced_cons (named h2 (Calls.spliced_cons (named h3 (Calls.spliced_nil ?_)))))))
    refine ⟨by rw [sizeLine_eq]; simp, ?_⟩
    obtain ⟨tp', htp⟩ : ∃ t, t = h3'.objs.size := ⟨_, rfl⟩
    have hp : (h3'.push { cls := .type "tuple", data := .seq ([c1, c2, c3] : List Value).toArray }).get? h3'.objs.size = some { cls := .type "tuple", data := .seq ([c1, c2, c3] : List Value).toArray } := Heap.get?_push_size _ rfl
    have fl4 := fly_push (o := { cls := .type "tuple", data := .seq ([c1, c2, c3] : List Value).toArray }) fl3
    have up4 : h3'.UpToSlots (h3'.push { cls := .type "tuple", data := .seq ([c1, c2, c3] : List Value).toArray }) := fun b o hb _ => ⟨o.slots, Heap.get?_push_of_some _ hb⟩
    have J4 : Inv X pins σ' H' { s' with heap := h3'.push { cls := .type "tuple", data := .seq ([c1, c2, c3] : List Value).toArray } } := J3.kept fun b o e => Heap.get?_push_of_some _ e
    generalize h3'.push { cls := .type "tuple", data := .seq ([c1, c2, c3] : List Value).toArray } = h4 at *
    obtain ⟨oe4, vs4, he4, hz4, hd4⟩ := fl4.there
    have LT : PySem.W.Looks (model X.prog X.w) h4 (typeOf (.ref a)) cls := fun A Q E s k q => wpAny_typeOf_ref (k _ _ he4) (by rw [hz4.1]; exact q)
    have LM := PySem.W.exm_tup3 (M := model X.prog X.w) (J4.kIn) LT hp hx
    refine LM.here ?_
    refine codeAny_handlers_suite_as ?_
    refine HandSPX.lands_againZ fl4 fun h5 fl5 up5 => ?_
    have J5 : Inv X pins σ' H' { s' with heap := h5 } := J.landed nb fl5.1 (((up.trans up3).trans up4).trans up5) os ag
    obtain ⟨oe5, vs5, he5, hz5, hd5⟩ := fl5.there
    have S5 := J5.suite he5 hd5 na nL nF
    refine store_ok (X := X.suite a ((a, oe5) :: (X.pn ++ pins))) (v := .ref a) S5 hN hi (.inl hln) rfl (fun s6 S6 => ?_) (.inr hln)
    refine wpAny_mono ((hsu a oe5 cls d (X.pn ++ pins) hz5 ⟨_, hd5⟩).run [] s6 _ H' _ S6 (hyes a na)) (fun f s7 hsp => ?_) (fun _ _ z => False.elim z)
    cases f with
    | next =>
      obtain ⟨σ6, H6, S7, q6⟩ := hsp
      exact gone_ok (X := X.suite a ((a, oe5) :: (X.pn ++ pins))) S7 hN hi hln fun s8 S8 => ⟨_, _, tell_exc S8 ok hz5 hd5 h0 np, q6⟩
    | brk =>
      obtain ⟨_, _, _, q6⟩ := hsp
      exact False.elim q6
    | cont =>
      obtain ⟨_, _, _, q6⟩ := hsp
      exact False.elim q6
    | ret u =>
      obtain ⟨_, _, _, _, _, q6⟩ := hsp
      exact False.elim q6
  · intro f s1 hsp
    cases f with
    | next =>
      obtain ⟨σ', H', J', q⟩ := hsp
      exact wpAny_execs_nil ⟨σ', H', J'.ofTry ok, q⟩
    | brk =>
      obtain ⟨σ', H', J', q⟩ := hsp
      exact ⟨σ', H', J'.ofTry ok, q⟩
    | cont =>
      obtain ⟨σ', H', J', q⟩ := hsp
      exact ⟨σ', H', J'.ofTry ok, q⟩
    | ret u =>
      obtain ⟨v, σ', H', J', r, q⟩ := hsp
      exact ⟨v, σ', H', J'.ofTry ok, r, q⟩
end
end Bz
namespace Bz
open PySem PySem.Spec PyProof.Rows L2
/-! ### an error as a value: isinstance, its fields -/
/-- what an error's class is asked -/
def excB (K : PySem.W.Frag) (D : Addr) : Bool :=
  decide (PySem.W.findIn K (.ref D) "__getattribute__" = some (some (.builtin "BaseException.__getattribute__"))) && (decide (PySem.W.findIn K (.ref D) "__getattr__" = some none) && (decide (PySem.W.subIn K (.ref D) (.type "BaseException") = some true) && (PySem.W.hasDictIn K D &&
  (decide (PySem.W.findIn K (.ref D) "__class__" = some (some (.builtin "object.__class__"))) && (decide (PySem.W.specialIn K (.builtin "object.__class__") "__get__" = some (some (.builtin "getset_descriptor.__get__"))) && (decide (PySem.W.takesIn K (.builtin "object.__class__") = some true) && decide (PySem.W.mroIn K D (.type "object") = some true)))))))
theorem excB_ok {K : PySem.W.Frag} {D : Addr} (h : excB K D = true) : ExcC K D := by
  unfold excB at h
  simp only [Bool.and_eq_true] at h
  obtain ⟨a1, a2, a3, a4, a5, a6, a7, a8⟩ := h
  exact ⟨of_decide_eq_true a1, of_decide_eq_true a2, of_decide_eq_true a3, a4, of_decide_eq_true a5, of_decide_eq_true a6, of_decide_eq_true a7, of_decide_eq_true a8⟩
theorem exv_at {P : Program} {w : World} {H : Hp} {h : Heap} {a : Addr} {cls : Value} {d : Option Addr} (hok : HOk P w H h) (e : H a = some (exv a cls d)) : ∃ (oe : Obj) (vs : Array Value), h.get? a = some oe ∧ oe.cls = cls ∧ oe.dict = d ∧ oe.data = .fields vs := by
  have x : ObjOk P w H h a (.ext fun h => ∃ (oe : Obj) (vs : Array Value), h.get? a = some oe ∧ oe.cls = cls ∧ oe.dict = d ∧ oe.data = .fields vs) := hok a _ e
  exact x.1
/-- isinstance(e, c), e an error kept as a value -/
def rIsE (K : PySem.W.Frag) : List V → Hp → VK → Prop := fun xs H Q => ∃ (a D dd : Addr) (fs : List (Str × V)) (c : V) (u : Value) (b : Bool), xs = [.ref a, c] ∧ H a = some (exv a (.ref D) (some dd)) ∧ H dd = some (.xd fs) ∧ ExcC K D ∧ ClsV c u ∧ PySem.W.kitOne K (.ref D) u = some b ∧ Q (.bl b) H
section
variable {X : Cx} {pins : List (Addr × Obj)} {σ : L2.St} {H : Hp} {s : Shared}
theorem exv_inst {a D dd : Addr} {fs : List (Str × V)} (I : Inv X pins σ H s) (ha : H a = some (exv a (.ref D) (some dd))) (hd : H dd = some (.xd fs)) :
    ∃ oe od mA, PySem.W.InstAt s.heap a oe D (some od) ∧ s.heap.Ns1 dd mA ∧ (∀ f, RelO (fs.lookup f) (mA f)) ∧ s.heap.get? dd = some od := by
  obtain ⟨oe, vs, h1, h2, h3, h4⟩ := exv_at I.hok ha
  have hx : ObjOk X.prog X.w H s.heap dd (.xd fs) := I.hok dd _ hd
  obtain ⟨mA, hns, hr⟩ := hx
  obtain ⟨od, ho, hl⟩ := lookIn_ns hns
  exact ⟨oe, od, mA, ⟨h1, h2, by unfold PySem.W.notCls; rw [h4] <;> rfl, by rw [h3]; exact ho⟩, hns, hr, ho⟩
theorem call_isE2 : CallR X (.builtin "isinstance") (rIsE X.K) := by
  intro pins s σ H xs us Q I r h
  obtain ⟨a, D, dd, fs, c, u, b, rfl, ha, hd, C, k, e, q⟩ := h
  obtain ⟨u1, u2, rfl, r1, r2⟩ := vals2 r
  have e2 := k.eq r2
  subst e2
  obtain rfl : u1 = Value.ref a := r1
  obtain ⟨oe, od, mA, J, _⟩ := exv_inst I ha hd
  obtain ⟨cd, hc, _⟩ := PySem.W.any_some C.hd
  exact PySem.W.kia_one (PySem.W.kitx_exc (od := some od) (by rw [hc]; rfl) C.hg C.hk C.hs C.ha C.hn C.ht C.hm) I.kIn J e (fun z => nomatch z) fun tk => ⟨.bl b, H, I.tok tk, rfl, q⟩
/-- isinstance of a thing of any kind, or of an error -/
def rIsX (K : PySem.W.Frag) : List V → Hp → VK → Prop := fun xs H Q => rIsi K xs H Q ∨ rIsE K xs H Q
theorem call_isX : CallR X (.builtin "isinstance") (rIsX X.K) := by
  intro pins s σ H xs us Q I r h
  rcases h with h | h
  · exact call_isi pins s σ H xs us Q I r h
  · exact call_isE2 pins s σ H xs us Q I r h
/-- e.f, e an error kept as a value -/
def tXv (K : PySem.W.Frag) (f : Str) (te : TE) : TE := fun σ H Q => te σ H fun x H1 => ∃ (a D dd : Addr) (fs : List (Str × V)) (v : V), x = .ref a ∧ H1 a = some (exv a (.ref D) (some dd)) ∧ H1 dd = some (.xd fs) ∧ ExcC K D ∧ PySem.W.findIn K (.ref D) f = some none ∧ fs.lookup f = some v ∧ Q v H1
theorem pe_xv {e : Expr} {te : TE} {pos : Pos} {n : Str} (he : PE X e te) (hb : attributeBase e n X.env (eval e X.env) = eval e X.env := by rfl) : PE X (.Attribute e n pos) (tXv X.K n te) := by
  refine ⟨fun pins s σ H Q I h => ?_⟩
  refine attr_of hb (thn (he.run pins s σ H _ I h) fun u s1 hh => ?_)
  obtain ⟨x, H1, I1, rx, a, D, dd, fs, v, ex, ha, hd, C, hno, l, q⟩ := hh
  subst ex
  obtain rfl : u = Value.ref a := rx
  obtain ⟨oe, od, mA, J, hns, hr, ho⟩ := exv_inst I1 ha hd
  obtain ⟨od', ho', hl⟩ := lookIn_ns hns
  rw [ho] at ho'
  cases ho'
  obtain ⟨u, hu, ru⟩ := RelO.some_of (v := v) (o := mA n) (by rw [← l]; exact hr n)
  exact HandSPX.exc_get I1.kIn J C.hg C.hk C.hs (PySem.W.findObj_own C.hd hno rfl (by rw [hl, hu])) (handed_of ru) ⟨v, H1, I1.tok _, ru, q⟩
end
section
variable {K : PySem.W.Frag} {H : Hp} {Q : VK} {a D dd : Addr} {fs : List (Str × V)}
theorem g_isX {xs : List V} (h : rIsi K xs H Q) : rIsX K xs H Q := .inl h
theorem g_isE {c : V} {u : Value} {b : Bool} (ha : H a = some (exv a (.ref D) (some dd))) (hd : H dd = some (.xd fs)) (C : ExcC K D) (k : ClsV c u) (e : PySem.W.kitOne K (.ref D) u = some b) (q : Q (.bl b) H) : rIsX K [.ref a, c] H Q :=
  .inr ⟨a, D, dd, fs, c, u, b, rfl, ha, hd, C, k, e, q⟩
def aXv (K : PySem.W.Frag) (f : Str) (x : V) (H1 : Hp) (Q : VK) : Prop := ∃ (a D dd : Addr) (fs : List (Str × V)) (v : V), x = .ref a ∧ H1 a = some (exv a (.ref D) (some dd)) ∧ H1 dd = some (.xd fs) ∧ ExcC K D ∧ PySem.W.findIn K (.ref D) f = some none ∧ fs.lookup f = some v ∧ Q v H1
theorem g_xv {te : TE} {σ : St} {f : Str} (h : te σ H fun x H1 => aXv K f x H1 Q) : tXv K f te σ H Q := h
theorem g_aXv {f : Str} {v : V} (ha : H a = some (exv a (.ref D) (some dd))) (hd : H dd = some (.xd fs)) (C : ExcC K D) (hn : PySem.W.findIn K (.ref D) f = some none) (g : FGet fs f v) (q : Q v H) : aXv K f (.ref a) H Q :=
  ⟨a, D, dd, fs, v, rfl, ha, hd, C, hn, g.eq, q⟩
end
/-! ### raise C(x), C's __init__ keeps x as its field f -/
def sp_xone (C : Addr) (f : Str) : Sp := fun vs H Q _ => vs.length = 2 ∧ ∃ (a : Addr) (x : V), vs = [.ref a, x] ∧ H a = some (exo a C none) ∧ ∀ dx, H dx = none → dx ≠ a → Q .non (upd (upd H dx (exd dx [(f, x)])) a (exo a C (some dx)))
def aRz (C : Addr) (f : Str) (x : V) (H1 : Hp) (Q : XK) : Prop := ([x] : List V).length ≤ 1000 ∧ ∀ a, H1 a = none → sp_xone C f (.ref a :: ([x] ++ [])) (upd H1 a (exo a C none))
  (fun v H2 => v = .non ∧ ∃ (d : Addr) (fs : List (Str × V)), H2 a = some (exo a C (some d)) ∧ H2 d = some (exd d fs) ∧ H1 d = none ∧ Q (.ref C) (some d) (upd (del H2 a) d (.xd fs))) (fun _ _ _ => False)
def tRz (C : Addr) (f : Str) (te : TE) : St → Hp → XK → Prop := fun σ H Q => te σ H fun x H1 => aRz C f x H1 Q
theorem g_aRz {C : Addr} {f : Str} {x : V} {H1 : Hp} {Q : XK} (q : ∀ d, H1 d = none → Q (.ref C) (some d) (upd H1 d (.xd [(f, x)]))) : aRz C f x H1 Q := by
  refine ⟨by simp, fun a na => ⟨rfl, a, x, rfl, upd_same, fun dx hd hne => ⟨rfl, dx, [(f, x)], upd_same, ?_, ?_, ?_⟩⟩⟩
  · rw [upd_ne hne, upd_same]
  · rw [upd_ne hne] at hd
    exact hd
  · have hd' : H1 dx = none := by rw [upd_ne hne] at hd; exact hd
    have e : upd (del (upd (upd (upd H1 a (exo a C none)) dx (exd dx [(f, x)])) a (exo a C (some dx))) a) dx (.xd [(f, x)]) = upd H1 dx (.xd [(f, x)]) := by
      funext b
      by_cases h1 : b = dx
      · rw [h1, upd_same, upd_same]
      · rw [upd_ne h1, upd_ne h1]
        by_cases h2 : b = a
        · rw [h2, del_same, na]
        · rw [del_ne h2, upd_ne h2, upd_ne h1, upd_ne h2]
    rw [e]
    exact q dx hd'
section
variable {X : Cx} {CX : CXT} {k : Nat}
/-- the class C of the name x, its __init__ fI -/
structure XOneOk (P : Program) (w : World) (K : PySem.W.Frag) (mg : Str → Option Value) (base : Heap) (CX : CXT) (k : Nat) (x f : Str) : Prop where
  T : OexC K (He.ga K x)
  ok : ∃ (fI : Addr) (fd : FuncData) (ps : List Str), PySem.W.findIn K (.ref (He.ga K x)) "__init__" = some (some (.ref fI)) ∧ PySem.W.typeIn K (.ref fI) = some (.type "function") ∧ FnOk P w K mg base CX k fI fd ps (sp_xone (He.ga K x) f) ∧ Binds K fd ps []
  at_ : mg x = some (.ref (He.ga K x))
theorem pmk_xone {x f : Str} {e : Expr} {te : TE} {p pos : Pos} {k' : Nat} (c : XOneOk X.prog X.w X.K X.mg X.base CX k x f) (hr : Room k' X.A) (hk : k + 1 ≤ k') (hx : Passes CX X (fun _ _ _ => False)) (hg : Gl X x) (ha : PA X [e] (tCons te tNil))
    (hdb : (x == ("__debug__" : Str)) = false := by decide) (hs : starEach [e] X.env = (false, eval e X.env) :: starEach [] X.env := by rfl) : PMk X (.Call (.Name x p) [e] [] pos) (tRz (He.ga X.K x) f te) := by
  obtain ⟨T, ⟨fI, fd, ps, iC, tI, F1, hb⟩, hm⟩ := c
  exact pmk_oex (X := X) (e := e) (es := []) (p := p) (pos := pos) (ds := []) (dvs := []) T iC tI F1 (hr.mono hk) hb .nil hx hg hm ha hdb hs (by rfl)
/-- the __init__ of such a class -/
theorem rd_xone {K : PySem.W.Frag} {C : Addr} {f : Str} {N : List Str} (T : OexC K C) (hn : PySem.W.findIn K (.ref C) f = some none) (vs : List V) (H : Hp) (Q : VK) (E : XK) (h : sp_xone C f vs H Q E) (h2 : 2 ≤ N.length) : tOst K f (tVar 0) (tVar 1) { nx := fun _ H' => Q .non H', rt := Q } (L2.start N vs) H := by
  obtain ⟨_, a, x, rfl, ha, q⟩ := h
  match N, h2 with
  | _ :: _ :: _, _ => exact ⟨x, rfl, .ref a, rfl, a, C, rfl, T, hn, .inl ⟨ha, q⟩⟩
theorem passN {X : Cx} : Passes (L2.CX X.prog X.w) X E0 := fun _ _ _ _ _ _ _ ⟨_, _, _, _, _, _, _, _, _, _, _, _, z⟩ => z.elim
/-- raise C(x) -/
def tRaise (W : WX) (t : St → Hp → XK → Prop) : TS := fun _ σ H => t σ H fun cls d H' => W cls d σ H'
end
section
variable {B : Hp} {M L : List (Addr × HO)} {H : Hp}
theorem g_raise {W : WX} {t : St → Hp → XK → Prop} {D : Ends} {σ : St} (h : t σ H fun cls d H' => W cls d σ H') : tRaise W t D σ H := h
theorem g_rz {C : Addr} {f : Str} {te : TE} {σ : St} {Q : XK} (h : te σ H fun x H1 => aRz C f x H1 Q) : tRz C f te σ H Q := h
theorem g_aRzI {C : Addr} {f : Str} {x : V} {Q : XK} (I : Is B M L H) (q : ∀ d H', Is B M ((d, .xd [(f, x)]) :: L) H' → Q (.ref C) (some d) H') : aRz C f x H Q := g_aRz fun d hd => q d _ (I.new hd)
end
end Bz
namespace Bz
open PySem PySem.Spec PyProof.Rows L2
/-! ### a lambda without parameters, handed to a def that calls it within a try -/
abbrev tabSt (H : Hp) (P c : Addr) (q : Str) (ps more : Array Value) : Hp := upd (upd H P (.tbl (ps ++ more))) c (LamX.CodeO c q)
section
variable {X : Cx} {pins : List (Addr × Obj)} {σ : L2.St} {H : Hp} {s : Shared}
/-- the lambda is made: by a code object of the table, or by a new one -/
theorem lam_makeG {c P : Addr} {ps : Array Value} {params : Arguments} {body : Expr} {scope : Scope} {pos : Pos} {E : Value → Shared → Prop} {Q : Value → Shared → Prop} (I : Inv X pins σ H s) (TB : LamX.TabB X.base X.mg c P) (hcode : X.env.code = .ref c)
    (hP : H P = some (.tbl ps)) (ht : TriplesOk ps.toList) (ha : ∀ (pos : Pos) (cv : Value), codeAmong pos ps.toList = some cv → ∃ c, cv = .ref c ∧ H c = some (LamX.CodeO c (X.env.qual ++ "<lambda>")))
    (hdef : defaultsOf params X.env = ([], [])) (hfree : ∀ y ∈ scope.names, y.2 = .free → ∃ c, X.env.cells.lookup y.1 = some c)
    (h : ∀ (f c' : Addr) (pm ctv : Value) (H1 : Hp) (s' : Shared), Inv X pins σ H1 s' → (H1 = H ∨ ∃ more, H c' = none ∧ H1 = tabSt H P c' (X.env.qual ++ "<lambda>") ps more ∧ TriplesOk (ps ++ more).toList ∧ ∀ (pos : Pos) (cv : Value), codeAmong pos (ps ++ more).toList = some cv → codeAmong pos ps.toList = some cv ∨ cv = .ref c') →
      s'.heap.get? f = some (PySem.W.kla_obj "<lambda>" (X.env.qual ++ "<lambda>") params body scope (cloFrom X.env.cells scope.names []) pm c' ctv) → H1 f = none → f ∉ frs X.stack → H1 c' = some (LamX.CodeO c' (X.env.qual ++ "<lambda>")) → Q (.ref f) s') :
    wpAny (model X.prog X.w) X.A (eval (.Lambda params body scope pos) X.env) Q E s := by
  refine PySem.W.kla_eval hdef ?_
  have bP : s.heap.BuiltinsAt X.mg P := TB.bm.keeps I.bk
  have hP' : s.heap.get? P = some { cls := .none, data := .fields ps } := I.hok P _ hP
  have nofr : ∀ f, s.heap.objs.size ≤ f → f ∉ frs X.stack := fun f hf z => by
    rcases List.mem_cons.mp (I.stkSub _ z) with e | e
    · have h1 := I.lt
      rw [← e] at h1
      exact Nat.lt_irrefl _ (Nat.lt_of_lt_of_le h1 hf)
    · exact I.nofs hf e
  cases hc : codeAmong pos ps.toList with
  | none =>
    refine PySem.W.kla_makeFunction (mg := X.mg) (c := c) (P := P) (ps := ps) (closure_ok hfree) I.ok.glob (I.mod.glob.keeps I.bk) hcode (TB.code.keeps I.bk) hP' ht hc TB.gP bP fun c' ctv h' tk hx hge hlt hrec htb => ?_
    obtain ⟨c2, oc, vs, t, e2, hoc, hd, hv⟩ := hrec
    cases e2
    have hsz : s.heap.objs.size ≤ h'.objs.size := Nat.le_trans hge (Nat.le_of_lt hlt)
    have nC : H c' = none := I.hok.fresh hge
    have I1 := LamX.inv_table (t' := tk) (more := #[rawInt pos.line, rawInt pos.col, .ref c']) (h' := h'.push (PySem.W.kla_obj "<lambda>" (X.env.qual ++ "<lambda>") params body scope (cloFrom X.env.cells scope.names []) ((X.mg "__name__").getD .none) c' ctv)) I hP
      (fun b o hb e => Heap.get?_push_of_some _ (hx b o hb e)) (Heap.get?_push_of_some _ htb) hge ⟨oc, vs, t, Heap.get?_push_of_some _ hoc, hd, hv⟩
    have eL : (ps ++ #[rawInt pos.line, rawInt pos.col, .ref c']).toList = ps.toList ++ [rawInt pos.line, rawInt pos.col, .ref c'] := by simp
    refine h h'.objs.size c' ((X.mg "__name__").getD .none) ctv _ _ I1 (.inr ⟨#[rawInt pos.line, rawInt pos.col, .ref c'], nC, rfl, by rw [eL]; exact PySem.TriplesOk_snoc _ _ _ _ ht, fun p' cv hcv => ?_⟩) (Heap.get?_push_size _ rfl) ?_ (nofr _ hsz) upd_same
    · rw [eL] at hcv
      exact LamX.among_app _ ht hcv
    · have n1 : h'.objs.size ≠ c' := Nat.ne_of_gt hlt
      have n2 : h'.objs.size ≠ P := Nat.ne_of_gt (Nat.lt_of_lt_of_le (Heap.lt_size hP') hsz)
      rw [upd_ne n1, upd_ne n2]
      exact I.hok.fresh hsz
  | some cv =>
    obtain ⟨c', e, hco⟩ := ha pos cv hc
    subst e
    refine PySem.W.kla_makeFunctionHit (mg := X.mg) (c := c) (P := P) (ps := ps) (closure_ok hfree) I.ok.glob (I.mod.glob.keeps I.bk) hcode (TB.code.keeps I.bk) hP' ht hc bP fun ctv h' tk hx hsz => ?_
    have I1 : Inv X pins σ H { s with heap := h'.push (PySem.W.kla_obj "<lambda>" (X.env.qual ++ "<lambda>") params body scope (cloFrom X.env.cells scope.names []) ((X.mg "__name__").getD .none) c' ctv), toks := tk } := I.kept fun b o e => Heap.get?_push_of_some _ (hx b o e)
    exact h h'.objs.size c' ((X.mg "__name__").getD .none) ctv H _ I1 (.inl rfl) (Heap.get?_push_size _ rfl) (I.hok.fresh hsz) (nofr _ hsz) hco
/-- x(), x the lambda; what it raises is wished for at the caller's slots -/
theorem pe_actG {CXg : CXT} {Eg : XK} {Ng : List Str} {qg : Str} {sg : Scope} {g f c' : Addr} {cdg pm ctv : Value} {params : Arguments} {body : Expr} {scope : Scope} {k i : Nat} {a : Str} {pn : List (Addr × Obj)} {xe : Value → Shared → Prop} {W : WX} {tb : XK → TE} {p1 p2 : Pos}
    (I : Inv X pins σ H s) (L : LamX.LamS X.env.scope scope) (hf : s.heap.get? f = some (PySem.W.kla_obj "<lambda>" (X.env.qual ++ "<lambda>") params body scope (cloFrom X.env.cells scope.names []) pm c' ctv)) (hfn : H f = none) (hfr : f ∉ frs X.stack)
    (hbind : bindArgs (PySem.W.kla_fn "<lambda>" (X.env.qual ++ "<lambda>") params body scope (cloFrom X.env.cells scope.names []) pm (.ref c') ctv) ⟨[], []⟩ = pure [])
    (tk : Takes ((cxOf CXg X.prog X.w X.K X.mg X.base Ng qg sg g cdg X.A X.stack s H Eg).tr pn xe) W) (hr : Room (k + 1) (X.A.deeper (envOfC qg sg s.heap.objs.size g cdg))) (hgu : X.A.guards = some [])
    (hbody : ∀ (A : Around) (outer : List Env) (s : Shared) (H : Hp) (E : XK), Room k (A.deeper (LamX.lamEnv X scope s.heap.objs.size f c')) → A.guards = some [] → PE (LamX.lamCx X A outer s H E scope f c') body (tb E))
    (hN : Ng[i]? = some a) (hv : Vis sg a) (hd : (a == ("__debug__" : Str)) = false) (hcd : (a == ("__classdict__" : Str)) = false) :
    PE ((cxOf CXg X.prog X.w X.K X.mg X.base Ng qg sg g cdg X.A X.stack s H Eg).tr pn xe) (.Call (.Name a p1) [] [] p2)
      (fun σZ HZ Q => σZ[i]? = some (some (.ref f)) ∧ HZ c' = some (LamX.CodeO c' (X.env.qual ++ "<lambda>")) ∧ ∃ E : XK, (∀ cls d H', E cls d H' → W cls d σZ H') ∧ tb E σ HZ Q) := by
  refine ⟨fun pinsZ sZ σZ HZ Q IZ h => ?_⟩
  obtain ⟨hs, hc, E, hE, ht⟩ := h
  refine wpAny_Call_Name_kw (thn ((pe_var (pos := p1) (i := i) hN hv hd hcd).run pinsZ sZ σZ HZ (fun v H1 => v = .ref f ∧ H1 = HZ) IZ ⟨.ref f, hs, rfl, rfl⟩) fun u s1 ⟨v, H1, I1, r1, q1⟩ => ?_)
  obtain ⟨ev, eH⟩ := q1
  subst ev
  rw [eH] at I1
  obtain rfl : u = Value.ref f := r1
  have of1 : s1.heap.get? f = some (PySem.W.kla_obj "<lambda>" (X.env.qual ++ "<lambda>") params body scope (cloFrom X.env.cells scope.names []) pm c' ctv) := I1.base.keep f _ hf hfn hfr (fun z => nomatch (show f ∈ ([] : List Addr) from z))
  refine PySem.W.callWith_F0 ⟨_, _, _, _, of1⟩ ?_
  have un : Un (frs X.stack) [] H HZ s.heap s1.heap := I1.base
  obtain ⟨⟨oc, vs, t, hoc, hdc, hvc⟩, _, _⟩ := I1.hok c' _ hc
  have rc : codeAny (model X.prog X.w) (X.A.deeper (envOfC qg sg s.heap.objs.size g cdg)) (.call (.ref f) ⟨[], []⟩) (CR (L2.CX X.prog X.w) (envOfC qg sg s.heap.objs.size g cdg :: X.stack) X.prog X.w HZ s1 Q E) s1 := by
    refine PySem.W.kla_callFunE hr.depth of1 rfl L.co L.gen rfl ⟨c', oc, vs, t, rfl, hoc, hdc, hvc⟩ ?_
    rw [hbind]
    refine wpAny_pure (wpAny_newFunctionEnv (fun y hy => (L.own y hy).2) (fun y hy => absurd hy (by simp)) (fun h₁ hns hsb => ⟨I1.nolimit.fresh _ hsb, ?_⟩) L.kind)
    show codeAny _ _ (.expr body (LamX.lamEnv X scope s1.heap.objs.size f c')) _ _
    have kp : ∀ b o, s1.heap.get? b = some o → h₁.get? b = some o := fun b o e => hsb.extBut b o (Nat.ne_of_lt (Heap.lt_size e)) (Heap.get?_push_of_some _ e)
    have J : Inv (LamX.lamCx X (X.A.deeper (envOfC qg sg s.heap.objs.size g cdg)) (envOfC qg sg s.heap.objs.size g cdg :: X.stack) s1 HZ E scope f c') [] σ HZ { s1 with heap := h₁, toks := s1.toks + ([] : List (Str × Value)).length } :=
      LamX.lam_start2 I L I1.env0 hr.hd un hns kp
    refine PySem.W.kla_codeExpr (wpAny_mono ((hbody _ _ s1 HZ E (hr.deeper _) (guards_deeper hgu)).run [] _ _ HZ Q J ht) (fun v s' hq => ?_) fun e s' hq => hq)
    obtain ⟨w', H', J', rv, q⟩ := hq
    exact ⟨w', H', J'.os, J'.bare, J'.base, J'.hok, rv, q⟩
  refine wpAny_call (codeAny_mono rc fun r s' hq => ?_)
  cases r with
  | error e => exact tk _ _ (XE.of_call I1 hE hq)
  | ok fl =>
    cases fl with
    | ret u => exact I1.after hq
    | next => exact False.elim hq
    | brk => exact False.elim hq
    | cont => exact False.elim hq
end
/-- the def that calls what it got: TT what it makes of the lambda's reading -/
def GivesG (X : Cx) (k : Nat) (Ng : List Str) (x : Str) (sg : Scope) (g : Addr) (cdg : Value) (bg : List Stmt) (a : Str) (q : Str) (TT : (XK → Hp → VK → Prop) → Hp → VK → Prop) : Prop :=
  ∀ (f c' : Addr) (s : Shared) (H : Hp) (Q : VK) (tl : XK → Hp → VK → Prop), Room k (X.A.deeper (envOfC x sg s.heap.objs.size g cdg)) →
    (∀ (W : WX) (pn : List (Addr × Obj)) (xe : Value → Shared → Prop) (p1 p2 : Pos), Takes ((cxOf CX0 X.prog X.w X.K X.mg X.base Ng x sg g cdg X.A X.stack s H E0).tr pn xe) W →
      PE ((cxOf CX0 X.prog X.w X.K X.mg X.base Ng x sg g cdg X.A X.stack s H E0).tr pn xe) (.Call (.Name a p1) [] [] p2) (fun σZ HZ Q => σZ[0]? = some (some (.ref f)) ∧ HZ c' = some (LamX.CodeO c' q) ∧ ∃ E : XK, (∀ cls d H', E cls d H' → W cls d σZ H') ∧ tl E HZ Q)) →
    H c' = some (LamX.CodeO c' q) → TT tl H Q →
    ∃ t, PSs (cxOf CX0 X.prog X.w X.K X.mg X.base Ng x sg g cdg X.A X.stack s H E0) bg t ∧ t { nx := fun _ H' => Q .non H', rt := Q } (L2.start Ng [.ref f]) H
/-- the table at P tells code objects of the name q alone -/
def TabI (B : Hp) (q : Str) (ps : Array Value) : Prop := TriplesOk ps.toList ∧ ∀ (pos : Pos) (cv : Value), codeAmong pos ps.toList = some cv → ∃ c, cv = .ref c ∧ B c = some (LamX.CodeO c q)
def tLamG (P : Addr) (q : Str) (TT : (XK → Hp → VK → Prop) → Hp → VK → Prop) (t : XK → TE) : TE := fun σ H Q => ∃ ps, H P = some (.tbl ps) ∧ TabI H q ps ∧ TT (fun E H' Q' => t E σ H' Q') H Q ∧
  ∀ c' more, H c' = none → TriplesOk (ps ++ more).toList → (∀ (pos : Pos) (cv : Value), codeAmong pos (ps ++ more).toList = some cv → codeAmong pos ps.toList = some cv ∨ cv = .ref c') → TT (fun E H' Q' => t E σ H' Q') (tabSt H P c' q ps more) Q
section
variable {X : Cx}
theorem pe_lamG {TT : (XK → Hp → VK → Prop) → Hp → VK → Prop} {x a : Str} {g c P : Addr} {k : Nat} {fd : FuncData} {pg : Arguments} {bg : List Stmt} {sg : Scope} {Ng : List Str} {params : Arguments} {body : Expr} {scope : Scope} {t : XK → TE} {p lpos pos : Pos}
    (hg : Gl X x) (hm : X.mg x = some (.ref g)) (F : FunD X.K x x pg bg sg [] [] g fd) (hbd : L2.Binds X.K fd [a] []) (Sg : FnScope Ng [a] sg) (hNg : Ng[0]? = some a) (hva : Vis sg a) (hgu : X.A.guards = some [])
    (hG : ∀ cdg, GivesG X k Ng x sg g cdg bg a (X.env.qual ++ "<lambda>") TT) (TB : LamX.TabB X.base X.mg c P) (hcode : X.env.code = .ref c) (hr : Room (k + 2) X.A) (L : LamX.LamS X.env.scope scope) (hdef : defaultsOf params X.env = ([], []))
    (hbind : ∀ (q : Str) (cl : List (Str × Addr)) (pm cv ctv : Value), bindArgs (PySem.W.kla_fn "<lambda>" q params body scope cl pm cv ctv) ⟨[], []⟩ = pure [])
    (hbody : ∀ (A : Around) (outer : List Env) (s : Shared) (H : Hp) (E : XK) (f c' : Addr), Room k (A.deeper (LamX.lamEnv X scope s.heap.objs.size f c')) → A.guards = some [] → PE (LamX.lamCx X A outer s H E scope f c') body (t E))
    (hdb : (x == ("__debug__" : Str)) = false := by decide) (hd : (a == ("__debug__" : Str)) = false := by decide) (hcd : (a == ("__classdict__" : Str)) = false := by decide) :
    PE X (.Call (.Name x p) [.Lambda params body scope lpos] [] pos) (tLamG P (X.env.qual ++ "<lambda>") TT t) := by
  refine ⟨fun pins s σ H Q I h => ?_⟩
  obtain ⟨ps, hP, hT, h1, h2⟩ := h
  obtain ⟨oc, od, dV, kV, doc, pm, an, cdv, ct, osl, rfl, lk, hcg, _, _⟩ := F.ex
  refine wpAny_Call_Name_kw (ld_glob I hg hm ?_ hdb)
  refine PySem.W.callWith_K (h₀ := X.base) I.ok.mod.kin F.kp ?_ (by rfl) (by rfl)
  show wpAny _ _ (spliced ((false, eval (.Lambda params body scope lpos) X.env) :: backTo pos (starEach [] X.env))) _ _ s
  refine Calls.spliced_cons (lam_makeG I TB hcode hP hT.1 hT.2 hdef (L.has I.ok) fun f c' pm' ctv H1 s' I1 eH hf hfn hfr hco => ?_)
  refine Calls.spliced_nil ⟨I1.kIn, ?_⟩
  have hTT : TT (fun E H' Q' => t E σ H' Q') H1 Q := by
    rcases eH with rfl | ⟨more, n, rfl, e1, e2⟩
    · exact h1
    · exact h2 c' more n e1 e2
  have rc : codeAny (model X.prog X.w) X.A (.call (.ref g) ⟨[.ref f], []⟩) (CR CX0 X.stack X.prog X.w H1 s' Q E0) s' := by
    refine LamX.run_ofS (N := Ng) (ps := [a]) (us := [.ref f]) (vs := [.ref f]) lk hcg Sg hr I1.env0 (hbd s' [.ref f] I1.kIn rfl) (.cons rfl .nil) rfl fun hr' => ?_
    exact hG cdv f c' s' H1 Q (fun E H' Q' => t E σ H' Q') (hr'.mono (Nat.le_succ _)) (fun W pn xe p1 p2 tk => pe_actG (i := 0) I1 L hf hfn hfr (hbind _ _ _ _ _) tk hr' hgu (fun A outer s H E hr2 hg2 => hbody A outer s H E f c' hr2 hg2) hNg hva hd hcd) hco hTT
  refine wpAny_call (codeAny_mono rc fun r s2 hq => ?_)
  cases r with
  | error e => exact (show False from hq).elim
  | ok fl =>
    cases fl with
    | ret u => exact I1.after hq
    | next => exact False.elim hq
    | brk => exact False.elim hq
    | cont => exact False.elim hq
end
/-! in what is known of the heap -/
section
variable {B H : Hp} {M L : List (Addr × HO)} {Q : VK} {P : Addr} {q : Str} {ps : Array Value} {TT : (XK → Hp → VK → Prop) → Hp → VK → Prop} {t : XK → TE} {σ : L2.St}
theorem TabI.same {B' : Hp} (h : TabI B q ps) (s : Same B B') : TabI B' q ps := ⟨h.1, fun pos cv e => by
  obtain ⟨c, e1, e2⟩ := h.2 pos cv e
  exact ⟨c, e1, s _ _ e2⟩⟩
theorem TabI.nil : TabI B q #[] := ⟨True.intro, fun pos cv hc => by
  have z : codeAmong pos [] = some cv := hc
  simp [codeAmong] at z⟩
theorem g_lamG (I : Is B M ((P, .tbl ps) :: L) H) (hT : TabI B q ps)
    (k : ∀ B' ps' H', Same B B' → Is B' M ((P, .tbl ps') :: L) H' → TabI B' q ps' → TT (fun E H' Q' => t E σ H' Q') H' Q) : tLamG P q TT t σ H Q := by
  have hP := I.get (List.Mem.head _)
  refine ⟨ps, hP, hT.same I.ex, k B ps H (fun _ _ e => e) I hT, fun c' more n e1 e2 => ?_⟩
  have I2 := I.put (Put.here (o := .tbl (ps ++ more)))
  have nP : c' ≠ P := fun z => by
    rw [z, hP] at n
    cases n
  have I3 := I2.new (p := c') (o := LamX.CodeO c' q) (by rw [upd_ne nP]; exact n)
  refine I3.give .here fun B' s b I4 => ?_
  refine k B' (ps ++ more) _ s I4 ⟨e1, fun pos cv hcv => ?_⟩
  rcases e2 pos cv hcv with h | h
  · obtain ⟨c, h1, h2⟩ := hT.2 pos cv h
    exact ⟨c, h1, s _ _ h2⟩
  · exact ⟨c', h, b⟩
end
end Bz
namespace Bz
open PySem PySem.Spec PyProof.Rows L2
/-- the script as the law sees it: told by itself, unless it is one of the module's own objects -/
def scr (K : PySem.W.Frag) (a : Addr) (o : Obj) (xs : List V) : Hp := fun b => if b = a ∧ K.lookup a = none then some (.frz o (.lst xs)) else none
section
variable {K : PySem.W.Frag} {a b : Addr} {o : Obj} {xs : List V} {u : HO}
theorem scr_at (h : scr K a o xs b = some u) : b = a ∧ K.lookup a = none ∧ u = .frz o (.lst xs) := by
  unfold scr at h
  split at h
  · rename_i c
    exact ⟨c.1, c.2, (Option.some.inj h).symm⟩
  · cases h
theorem scr_else (h : ∀ u, ¬ scr K a o xs b = some u) : scr K a o xs b = none := by
  cases e : scr K a o xs b with
  | none => rfl
  | some u => exact absurd e (h u)
end
/-- a law's promise, kept where no repr is under way, is kept at the head -/
theorem walk_ofG {l : PySem.W.OpenLaw} {n k : Nat} {q : Program} {loose : List Str} {XP : (Str → Option Value) → Heap → Prop} {YP : World → Heap → Prop} {d : DefRec} {CX : CXT} {x : Str}
    (hn : l.most = some n) (hn2 : n ≤ sizeLine) (hdf : d.params.defaults = []) (hr : Room k callerA)
    (F : ∀ (w : World) (mg : Str → Option Value) (fa : Addr) (h : Heap), YP w h → h.Ns mainGlobals mg → mg d.name = some (.ref fa) →
      ∃ (K : PySem.W.Frag) (fd : FuncData) (sp : Sp), K.In h ∧ (∀ (s : Shared) (u : Value), BindsTo s fd ⟨[u], []⟩ [(x, u)]) ∧
        (∀ (H : Hp) (a : Addr) (ns : List Int), ns.length ≤ n → SqL K H a (ns.map V.int) → sp [.ref a] H (fun v _ => v = .bl true) fun _ _ _ => False) ∧
        ∀ base : Heap, K.In base → base.Ns mainGlobals mg → FnG l.prog w K mg base CX k fa fd [x] sp)
    (hCX : ∀ (H : Hp) (s : Shared) (e : Value) (s' : Shared), CX [] H s (fun _ _ _ => False) e s' → False) :
    PySem.W.WalkO q loose XP YP l.row.toRowW d [] (fun f vs => PySem.call f vs) := by
  refine Att.attach_call hn hdf fun w s₀ s₁ mg mb fa o pm cd doc a vs ns G Y ho hd hcd hmg hobj hints hlen hg => ?_
  obtain ⟨K, fd, sp, KX, hb, hsp, hF⟩ := F w mg fa _ Y G.T.g hmg
  have hv := vals_ints hints
  have hlv := hints.length
  have hsz : ns.length ≤ sizeLine := Nat.le_trans hlen hn2
  generalize hH : scr K a { cls := .type "list", data := .seq vs.toArray } (ns.map V.int) = H
  have told : ∀ {b : Addr} {u : HO}, H b = some u → b = a ∧ K.lookup a = none ∧ u = .frz { cls := .type "list", data := .seq vs.toArray } (.lst (ns.map V.int)) := fun {b u} e => by
    rw [← hH] at e
    exact scr_at e
  have free : ∀ {b : Addr}, (∀ u, ¬ H b = some u) → H b = none := fun {b} e => by
    rw [← hH] at e ⊢
    exact scr_else e
  have seen : ∀ {b : Addr} {ob : Obj}, s₁.heap.get? b = some ob → (∀ u, ¬ H b = some u) → (hidT s₁.heap H).get? b = some ob := fun e z => hidT_get e (free z)
  have names : ∀ {b : Addr} {m : Str → Option Value}, s₁.heap.Ns b m → (hidT s₁.heap H).Ns b m := by
    rintro b m ⟨ob, es, ep, e, hdd, r⟩
    refine ⟨ob, es, ep, seen e fun u z => ?_, hdd, r⟩
    rw [(told z).1, hobj] at e
    cases e
    cases hdd
  have own : K.In (hidT s₁.heap H) := fun b ob e => seen (KX b ob e) fun u z => by
    obtain ⟨h1, h2, _⟩ := told z
    rw [h1, h2] at e
    cases e
  have seq : SqL K H a (ns.map V.int) := by
    cases hk : K.lookup a with
    | none => exact .inl (.inr ⟨{ cls := .type "list", data := .seq vs.toArray }, by rw [← hH]; exact if_pos ⟨rfl, hk⟩⟩)
    | some ob =>
      have e := KX a ob hk
      rw [hobj] at e
      cases e
      exact .inr ⟨_, vs.toArray, _, hk, rfl, rfl, rfl, by rw [List.size_toArray, hlv]; exact hsz, by simpa using hv⟩
  have good : HOk l.prog w H s₁.heap := fun b u e => by
    obtain ⟨h1, _, h3⟩ := told e
    subst h1 h3
    exact ⟨hobj, by rw [List.length_map]; exact hsz, vs, _, hv, hobj⟩
  obtain ⟨mc, l1, l2⟩ := G.T.nolimit
  have env : Env0 l.prog w K mg (hidT s₁.heap H) callerA [] s₁ H :=
    ⟨rfl, ⟨own, names G.T.g, ⟨mb, names G.T.b, G.T.builtins⟩, ⟨mc, names l1, l2⟩⟩, fun b ob e => of_hidT e, Nat.le_of_eq (hidT_size _ _), trivial, fun b z => List.not_mem_nil (show b ∈ ([] : List Addr) from z) |>.elim, good, .of_eq hg⟩
  refine codeAny_mono ((hF _ own (names G.T.g)).go callerA [] s₁ H ⟨[.ref a], []⟩ [.ref a] [.ref a] _ _ hr rfl env (hb s₁ (.ref a)) (.cons rfl .nil) (hsp H a ns hlen seq)) ?_
  rintro (e | fl) s' z
  · exact (hCX H s₁ e s' z).elim
  · cases fl with
    | ret v =>
      obtain ⟨y, H', hos, hbare, keep, ok', rv, hy⟩ := z
      have hy : y = .bl true := hy
      rw [hy] at rv
      have ev : v = Value.bool true := rv
      rw [ev]
      refine ⟨rfl, OldK.of_keep fun b ob e => ?_, hos, hbare⟩
      cases hq : H b with
      | none => exact keep.keep b ob e hq (fun z => (List.not_mem_nil (show b ∈ ([] : List Addr) from z)).elim) (by simp)
      | some u =>
        obtain ⟨_, _, h3⟩ := told hq
        rw [h3] at hq
        have e1 := (good b _ hq).1
        rw [e1] at e
        cases e
        exact (ok' b _ (keep.frzs b _ _ hq)).1
    | _ => exact False.elim z
end Bz
namespace Bz
open PySem PySem.Spec PyProof.Rows L2
/-! ### the head: names, defs, tables, and what else may be asked of the top's objects -/
/-- the addresses that hang on the top's names, by levels; those seen are kept as a number's bits -/
def forceN {α : Type} (n : Nat) (k : Nat → α) : α := match n with
  | 0 => k 0
  | m + 1 => k (m + 1)
def addE {α : Type} : List Addr → Nat → List Addr → (Nat → List Addr → α) → α
  | [], seen, new, k => k seen new
  | a :: r, seen, new, k => forceN a fun a => match Nat.beq (Nat.land (Nat.shiftRight seen a) 1) 1 with
    | true => addE r seen new k
    | false => forceN (Nat.lor seen (Nat.shiftLeft 1 a)) fun seen => addE r seen (a :: new) k
def levE {α : Type} (g : Addr → Option Obj) : List Addr → Nat → List Addr → (Nat → List Addr → α) → α
  | [], seen, new, k => k seen new
  | a :: r, seen, new, k => match g a with
    | some o => addE (He.refsD o) seen new fun seen new => levE g r seen new k
    | none => levE g r seen new k
def growE (g : Addr → Option Obj) : Nat → List Addr → Nat → List Addr → List Addr
  | 0, _, _, all => all
  | n + 1, front, seen, all => levE g front seen [] fun seen new => growE g n new seen (all ++ new)
def asE (g : Addr → Option Obj) (n : Nat) : List Addr := growE g n [mainGlobals] (Nat.shiftLeft 1 mainGlobals) [mainGlobals]
abbrev Ask : Type := PySem.W.Frag → Bool
abbrev AlB : Type := Bool × He.AlT
def obsB (fa : List He.Fa) (fn : List He.DefD) (ts : List He.Tab) (bs : List Ask) (K : PySem.W.Frag) : AlB := (bs.all fun b => b K, He.obsT fa fn ts K)
def valB (fn : List He.DefD) (ts : List He.Tab) (w : World) : AlB := (true, He.valT fn ts w)
def obsBG (n : Nat) (fa : List He.Fa) (fn : List He.DefD) (ts : List He.Tab) (bs : List Ask) (g : Addr → Option Obj) : AlB := obsB fa fn ts bs (He.frG g (asE g n))
def SaysB (fa : List He.Fa) (fn : List He.DefD) (ts : List He.Tab) (bs : List Ask) (w : World) (K : PySem.W.Frag) : Prop := obsB fa fn ts bs K = valB fn ts w
def hookB (n : Nat) (fa : List He.Fa) (fn : List He.DefD) (ts : List He.Tab) (bs : List Ask) : PySem.W.Hook where
  α := AlB
  obs := fun s => obsBG n fa fn ts bs s.heap.get?
  val := fun w => valB fn ts w
  says := fun w h => ∃ K : PySem.W.Frag, K.In h ∧ SaysB fa fn ts bs w K
  of := fun _ _ e => ⟨_, He.frG_in, e⟩
  keeps := fun _ _ _ ⟨K, hK, c⟩ k => ⟨K, PySem.W.Frag.In.keeps hK k, c⟩
theorem obsBG_eq {n : Nat} {fa : List He.Fa} {fn : List He.DefD} {ts : List He.Tab} {bs : List Ask} {g : Addr → Option Obj} {s : Shared} (h : ∀ a, g a = s.heap.get? a) : obsBG n fa fn ts bs g = (hookB n fa fn ts bs).obs s := by
  have e : g = s.heap.get? := funext h
  rw [e] <;> rfl
section
variable {fa : List He.Fa} {fn : List He.DefD} {ts : List He.Tab} {bs : List Ask} {w : World} {K : PySem.W.Frag}
theorem SaysB.t (c : SaysB fa fn ts bs w K) : He.SaysT fa fn ts w K := congrArg (fun z : AlB => z.2) c
theorem SaysB.d (c : SaysB fa fn ts bs w K) : He.SaysD fa fn K := c.t.d
theorem SaysB.ask (c : SaysB fa fn ts bs w K) (i : Nat) {b : Ask} (h : bs[i]? = some b := by rfl) : b K = true := by
  have c1 : (bs.all fun b => b K) = true := congrArg (fun z : AlB => z.1) c
  exact List.all_eq_true.mp c1 b (List.mem_of_getElem? h)
end
end Bz
namespace Bz
open PySem PySem.Spec PyProof.Rows L2
/-! ### what the head tells of an own error class over ValueError, with its own __init__ of one field -/
def oexB (K : PySem.W.Frag) (C : Addr) : Bool := match K.lookup C with
  | some ⟨.type c, _, .cls cd, sl⟩ => decide (c = "type") && (match cd.mro, sl.toList with
    | .ref C' :: bm, [_, _, _, _, some (.builtin n), _] => decide (C' = C) && (decide (n = "ValueError.__new__") && (cd.hasDict && (!cd.hasDel && HandSPX.refsVE bm)))
    | _, _ => false)
  | _ => false
theorem oexB_ok {K : PySem.W.Frag} {C : Addr} (h : oexB K C = true) : ∃ nm q N bs bm sn sub ab col dd k0 k1 k2 k3 k5, K.lookup C = some (excClassObj nm q C N bs bm true sn sub ab col dd k0 k1 k2 k3 k5 "ValueError.__new__") ∧ HandSPX.refsVE bm = true := by
  unfold oexB at h
  split at h
  · rename_i c dd cd sl ho
    simp only [Bool.and_eq_true] at h
    obtain ⟨hc, h⟩ := h
    have hc := of_decide_eq_true hc
    split at h
    · rename_i C' bm k0 k1 k2 k3 n k5 hm hs
      simp only [Bool.and_eq_true, Bool.not_eq_true'] at h
      obtain ⟨e1, e2, e3, e4, e5⟩ := h
      have e1 := of_decide_eq_true e1
      have e2 := of_decide_eq_true e2
      obtain ⟨nm, bs, mro, ns, qn, hd, sn, sb, ab, col, dl⟩ := cd
      dsimp only at hm e3 e4
      subst hm e3 e4 e1 e2 hc
      have es : sl = #[k0, k1, k2, k3, some (.builtin "ValueError.__new__"), k5] := by
        apply Array.toList_inj.mp
        rw [hs]
      subst es
      exact ⟨_, _, _, _, _, _, _, _, _, _, _, _, _, _, _, ho, e5⟩
    · cases h
  · cases h
def xoneB (K : PySem.W.Frag) (C : Addr) (f : Str) : Bool :=
  oexB K C && (He.eqO (PySem.W.findIn K (.ref C) "__setattr__") (some (some (.builtin "object.__setattr__"))) && (decide (PySem.W.subIn K (.ref C) (.type "BaseException") = some true) && (decide (PySem.W.typeIn K (.ref C) = some (.type "type")) && (PySem.W.keepIn K (.ref C) &&
  (He.eqO (PySem.W.findIn K (.ref C) "__init__") (some (some (.ref (He.ma K C "__init__")))) && (decide (PySem.W.typeIn K (.ref (He.ma K C "__init__")) = some (.type "function")) && He.eqO (PySem.W.findIn K (.ref C) f) (some none)))))))
structure XoneF (K : PySem.W.Frag) (C : Addr) (f : Str) : Prop where
  T : OexC K C
  i : PySem.W.findIn K (.ref C) "__init__" = some (some (.ref (He.ma K C "__init__")))
  t : PySem.W.typeIn K (.ref (He.ma K C "__init__")) = some (.type "function")
  n : PySem.W.findIn K (.ref C) f = some none
theorem xoneB_ok {K : PySem.W.Frag} {C : Addr} {f : Str} (h : xoneB K C f = true) : XoneF K C f := by
  unfold xoneB at h
  simp only [Bool.and_eq_true] at h
  obtain ⟨a1, a2, a3, a4, a5, a6, a7, a8⟩ := h
  exact ⟨⟨oexB_ok a1, He.eqO_ok a2, of_decide_eq_true a3, of_decide_eq_true a4, a5⟩, He.eqO_ok a6, of_decide_eq_true a7, He.eqO_ok a8⟩
/-! ### the code objects' tables at the head -/
def hidB (g : Addr → Option Obj) (as : List Addr) : PySem.W.Frag := He.frT g as
def obsBT (fa : List He.Fa) (fn : List He.DefD) (ts : List He.Tab) (bs : List Ask) (tf : List He.Defn) (g : Addr → Option Obj) (K : PySem.W.Frag) : AlB × Bool := (obsB fa fn ts bs K, He.tabsB g tf K)
def hookBT (n : Nat) (fa : List He.Fa) (fn : List He.DefD) (ts : List He.Tab) (bs : List Ask) (tf : List He.Defn) : PySem.W.Hook where
  α := AlB × Bool
  obs := fun s => obsBT fa fn ts bs tf s.heap.get? (He.frT s.heap.get? (asE s.heap.get? n))
  val := fun w => (valB fn ts w, true)
  says := fun w h => ∃ K : PySem.W.Frag, K.In h ∧ SaysB fa fn ts bs w K ∧ (∀ p ∈ tf, PySem.W.codeHdIn K (He.cT K p).1 (He.cT K p).2 = true) ∧ (∀ p ∈ tf, K.lookup (He.cT K p).2 = none) ∧ ∀ p ∈ tf, h.get? (He.cT K p).2 = some { cls := .none, data := .fields #[] }
  of := fun w s e => by
    have e1 : obsB fa fn ts bs (He.frT s.heap.get? (asE s.heap.get? n)) = valB fn ts w := congrArg (fun z : AlB × Bool => z.1) e
    have e2 : He.tabsB s.heap.get? tf (He.frT s.heap.get? (asE s.heap.get? n)) = true := congrArg (fun z : AlB × Bool => z.2) e
    have key : ∀ p ∈ tf, PySem.W.codeHdIn (He.frT s.heap.get? (asE s.heap.get? n)) (He.cT (He.frT s.heap.get? (asE s.heap.get? n)) p).1 (He.cT (He.frT s.heap.get? (asE s.heap.get? n)) p).2 = true ∧ ∃ o, s.heap.get? (He.cT (He.frT s.heap.get? (asE s.heap.get? n)) p).2 = some o ∧ He.emptyTab o = true := fun p hp => by
      have h := List.all_eq_true.mp e2 p hp
      simp only [Bool.and_eq_true] at h
      obtain ⟨h3, h4⟩ := h
      refine ⟨h3, ?_⟩
      cases q : s.heap.get? (He.cT (He.frT s.heap.get? (asE s.heap.get? n)) p).2 with
      | none =>
        rw [q] at h4
        cases h4
      | some o =>
        rw [q] at h4
        exact ⟨o, rfl, h4⟩
    exact ⟨_, He.frT_in, e1, fun p hp => (key p hp).1, fun p hp => by
      obtain ⟨_, o, q, z⟩ := key p hp
      exact He.frT_none q z, fun p hp => by
      obtain ⟨_, o, q, z⟩ := key p hp
      rw [q, He.emptyTab_eq z]⟩
  keeps := fun _ _ _ ⟨K, hK, c, h1, h2, h3⟩ k => ⟨K, PySem.W.Frag.In.keeps hK k, c, h1, h2, fun p hp => k _ _ (h3 p hp)⟩
theorem obsBT_eq {n : Nat} {fa : List He.Fa} {fn : List He.DefD} {ts : List He.Tab} {bs : List Ask} {tf : List He.Defn} {g : Addr → Option Obj} {s : Shared} (h : ∀ a, g a = s.heap.get? a) : obsBT fa fn ts bs tf g (He.frT g (asE g n)) = (hookBT n fa fn ts bs tf).obs s := by
  have e : g = s.heap.get? := funext h
  rw [e] <;> rfl
end Bz
namespace Bz
open PySem PySem.Spec PyProof.Rows L2
/-! ### a law's end where lambdas are made: the script, and the tables of code objects -/
def scrT (K : PySem.W.Frag) (a : Addr) (o : Obj) (xs : List V) (Ts : List Addr) : Hp := fun b => if b = a ∧ K.lookup a = none then some (.frz o (.lst xs)) else if b ∈ Ts then some (.tbl #[]) else none
section
variable {K : PySem.W.Frag} {a b : Addr} {o : Obj} {xs : List V} {u : HO} {Ts : List Addr}
theorem scrT_at (h : scrT K a o xs Ts b = some u) : (b = a ∧ K.lookup a = none ∧ u = .frz o (.lst xs)) ∨ (b ∈ Ts ∧ u = .tbl #[]) := by
  unfold scrT at h
  split at h
  · rename_i c
    exact .inl ⟨c.1, c.2, (Option.some.inj h).symm⟩
  · split at h
    · rename_i c
      exact .inr ⟨c, (Option.some.inj h).symm⟩
    · cases h
theorem scrT_else (h : ∀ u, ¬ scrT K a o xs Ts b = some u) : scrT K a o xs Ts b = none := by
  cases e : scrT K a o xs Ts b with
  | none => rfl
  | some u => exact absurd e (h u)
theorem scrT_tab (h : b ∈ Ts) (n : a ∉ Ts) : scrT K a o xs Ts b = some (.tbl #[]) := by
  unfold scrT
  rw [if_neg (fun z => n (by rw [← z.1]; exact h)), if_pos h]
end
theorem walk_ofGT {l : PySem.W.OpenLaw} {n k : Nat} {q : Program} {loose : List Str} {XP : (Str → Option Value) → Heap → Prop} {YP : World → Heap → Prop} {d : DefRec} {CX : CXT} {x : Str}
    (hn : l.most = some n) (hn2 : n ≤ sizeLine) (hdf : d.params.defaults = []) (hr : Room k callerA)
    (F : ∀ (w : World) (mg : Str → Option Value) (fa : Addr) (h : Heap), YP w h → h.Ns mainGlobals mg → mg d.name = some (.ref fa) →
      ∃ (K : PySem.W.Frag) (fd : FuncData) (sp : Sp) (cs : List (Addr × Addr)), K.In h ∧ (∀ p ∈ cs, h.get? p.2 = some { cls := .none, data := .fields #[] }) ∧ (∀ p ∈ cs, K.lookup p.2 = none) ∧ (∀ p ∈ cs, PySem.W.CodeHd h p.1 p.2) ∧ (∀ (s : Shared) (u : Value), BindsTo s fd ⟨[u], []⟩ [(x, u)]) ∧
        (∀ (H : Hp) (a : Addr) (ns : List Int), ns.length ≤ n → (∀ p ∈ cs, H p.2 = some (.tbl #[])) → a ∉ cs.map (·.2) → SqL K H a (ns.map V.int) → sp [.ref a] H (fun v _ => v = .bl true) fun _ _ _ => False) ∧
        ∀ base : Heap, K.In base → base.Ns mainGlobals mg → (∀ p ∈ cs, LamX.TabB base mg p.1 p.2) → FnG l.prog w K mg base CX k fa fd [x] sp)
    (hCX : ∀ (H : Hp) (s : Shared) (e : Value) (s' : Shared), CX [] H s (fun _ _ _ => False) e s' → False) :
    PySem.W.WalkO q loose XP YP l.row.toRowW d [] (fun f vs => PySem.call f vs) := by
  refine Att.attach_call hn hdf fun w s₀ s₁ mg mb fa o pm cd doc a vs ns G Y ho hd hcd hmg hobj hints hlen hg => ?_
  obtain ⟨K, fd, sp, cs, KX, hT, nT, C, hb, hsp, hF⟩ := F w mg fa _ Y G.T.g hmg
  have hv := vals_ints hints
  have hlv := hints.length
  have hsz : ns.length ≤ sizeLine := Nat.le_trans hlen hn2
  have isT : ∀ b : Addr, b ∈ cs.map (·.2) → s₁.heap.get? b = some { cls := .none, data := .fields #[] } := fun b hb => by
    obtain ⟨p, hp, e⟩ := List.mem_map.mp hb
    rw [← e]
    exact hT p hp
  have aT : a ∉ cs.map (·.2) := fun z => by
    have q := isT a z
    rw [hobj] at q
    have z' : Data.seq vs.toArray _ = Data.fields #[] := congrArg Obj.data (Option.some.inj q)
    cases z'
  generalize hH : scrT K a { cls := .type "list", data := .seq vs.toArray } (ns.map V.int) (cs.map (·.2)) = H
  have told : ∀ {b : Addr} {u : HO}, H b = some u → (b = a ∧ K.lookup a = none ∧ u = .frz { cls := .type "list", data := .seq vs.toArray } (.lst (ns.map V.int))) ∨ (b ∈ cs.map (·.2) ∧ u = .tbl #[]) := fun {b u} e => by
    rw [← hH] at e
    exact scrT_at e
  have free : ∀ {b : Addr}, (∀ u, ¬ H b = some u) → H b = none := fun {b} e => by
    rw [← hH] at e ⊢
    exact scrT_else e
  have tabs : ∀ p ∈ cs, H p.2 = some (.tbl #[]) := fun p hp => by
    rw [← hH]
    exact scrT_tab (List.mem_map.mpr ⟨p, hp, rfl⟩) aT
  have seen : ∀ {b : Addr} {ob : Obj}, s₁.heap.get? b = some ob → (∀ u, ¬ H b = some u) → (hidT s₁.heap H).get? b = some ob := fun e z => hidT_get e (free z)
  have noD : ∀ {b : Addr} {ob : Obj}, s₁.heap.get? b = some ob → (∀ vs n, ob.data ≠ .seq vs n) → ob.data ≠ .fields #[] → ∀ u, ¬ H b = some u := fun {b ob} e h1 h2 u z => by
    rcases told z with ⟨e1, _, _⟩ | ⟨e1, _⟩
    · rw [e1, hobj] at e
      cases e
      exact h1 _ _ rfl
    · rw [isT b e1] at e
      cases e
      exact h2 rfl
  have names : ∀ {b : Addr} {m : Str → Option Value}, s₁.heap.Ns b m → (hidT s₁.heap H).Ns b m := by
    rintro b m ⟨ob, es, ep, e, hdd, r⟩
    refine ⟨ob, es, ep, seen e (noD e (fun vs n z => ?_) fun z => ?_), hdd, r⟩ <;> rw [hdd] at z <;> cases z
  have own : K.In (hidT s₁.heap H) := fun b ob e => seen (KX b ob e) fun u z => by
    rcases told z with ⟨h1, h2, _⟩ | ⟨h1, _⟩
    · rw [h1, h2] at e
      cases e
    · obtain ⟨p, hp, ep⟩ := List.mem_map.mp h1
      rw [← ep, nT p hp] at e
      cases e
  have seq : SqL K H a (ns.map V.int) := by
    cases hk : K.lookup a with
    | none => exact .inl (.inr ⟨{ cls := .type "list", data := .seq vs.toArray }, by rw [← hH]; exact if_pos ⟨rfl, hk⟩⟩)
    | some ob =>
      have e := KX a ob hk
      rw [hobj] at e
      cases e
      exact .inr ⟨_, vs.toArray, _, hk, rfl, rfl, rfl, by rw [List.size_toArray, hlv]; exact hsz, by simpa using hv⟩
  have good : HOk l.prog w H s₁.heap := fun b u e => by
    rcases told e with ⟨h1, _, h3⟩ | ⟨h1, h3⟩
    · subst h1 h3
      exact ⟨hobj, by rw [List.length_map]; exact hsz, vs, _, hv, hobj⟩
    · subst h3
      exact isT b h1
  have TB : ∀ p ∈ cs, LamX.TabB (hidT s₁.heap H) mg p.1 p.2 := fun p hp => by
    have hTp := hT p hp
    refine ⟨?_, ?_, fun z => ?_⟩
    · obtain ⟨o, us, file, tf, flags, tg, inF, text, tt, e1, r1, r2, r3, r4, r5, r6, r7, r8, hne⟩ := C p hp
      refine ⟨o, us, file, tf, flags, tg, inF, text, tt, seen e1 (noD e1 (fun vs n z => ?_) fun z => ?_), r1, r2, r3, r4, r5, r6, r7, r8, hne⟩
      · rw [r2] at z
        cases z
      · rw [r2] at z
        cases z
        simp at r3
    · obtain ⟨bm, ob, b1, b2, b3, b4, b5, b6⟩ := G.T.bmain
      have nG : bm ≠ mainGlobals := fun q => by
        obtain ⟨o, es, ep, e, hd, _⟩ := G.T.g
        rw [q, e] at b3
        cases b3
        rw [hd] at b6
        cases b6
      have nP : bm ≠ p.2 := fun q => by
        rw [q, hTp] at b3
        cases b3
        cases b6
      refine ⟨bm, ob, b1, b2, nG, nP, seen b3 (noD b3 (fun vs n z => ?_) fun z => ?_), b4, b5, b6⟩
      · rw [b6] at z
        cases z
      · rw [b6] at z
        cases z
    · obtain ⟨o, es, ep, e, hd, _⟩ := G.T.g
      rw [z, hTp] at e
      cases e
      cases hd
  obtain ⟨mc, l1, l2⟩ := G.T.nolimit
  have env : Env0 l.prog w K mg (hidT s₁.heap H) callerA [] s₁ H :=
    ⟨rfl, ⟨own, names G.T.g, ⟨mb, names G.T.b, G.T.builtins⟩, ⟨mc, names l1, l2⟩⟩, fun b ob e => of_hidT e, Nat.le_of_eq (hidT_size _ _), trivial, fun b z => List.not_mem_nil (show b ∈ ([] : List Addr) from z) |>.elim, good, .of_eq hg⟩
  refine codeAny_mono ((hF _ own (names G.T.g) TB).go callerA [] s₁ H ⟨[.ref a], []⟩ [.ref a] [.ref a] _ _ hr rfl env (hb s₁ (.ref a)) (.cons rfl .nil) (hsp H a ns hlen tabs aT seq)) ?_
  rintro (e | fl) s' z
  · exact (hCX H s₁ e s' z).elim
  · cases fl with
    | ret v =>
      obtain ⟨y, H', hos, hbare, keep, ok', rv, hy⟩ := z
      have hy : y = .bl true := hy
      rw [hy] at rv
      have ev : v = Value.bool true := rv
      rw [ev]
      have key : ∀ b o, b ∉ cs.map (·.2) → s₁.heap.get? b = some o → s'.heap.get? b = some o := fun b ob nb e => by
        cases hq : H b with
        | none => exact keep.keep b ob e hq (fun z => (List.not_mem_nil (show b ∈ ([] : List Addr) from z)).elim) (by simp)
        | some u =>
          rcases told hq with ⟨_, _, h3⟩ | ⟨h1, _⟩
          · rw [h3] at hq
            have e1 := (good b _ hq).1
            rw [e1] at e
            cases e
            exact (ok' b _ (keep.frzs b _ _ hq)).1
          · exact absurd h1 nb
      have grown : ∀ p ∈ cs, ∃ more : Array Value, s'.heap.get? p.2 = some { cls := .none, data := .fields more } := fun p hp => by
        obtain ⟨more, z⟩ := keep.tbls p.2 #[] (tabs p hp)
        exact ⟨_, ok' p.2 _ z⟩
      refine ⟨rfl, ⟨fun b o e => ?_, fun b o e => ?_⟩, hos, hbare⟩
      · by_cases hb : b ∈ cs.map (·.2)
        · obtain ⟨p, hp, ep⟩ := List.mem_map.mp hb
          obtain ⟨more, hm⟩ := grown p hp
          rw [← ep] at e ⊢
          rw [hT p hp] at e
          cases e
          exact .inr (.inl ⟨((C p hp).tab (hT p hp)).isCodeTable, rfl, #[], more, rfl, by rw [Array.empty_append]; exact hm⟩)
        · exact .inl (key b o hb e)
      · by_cases hb : b ∈ cs.map (·.2)
        · obtain ⟨p, hp, ep⟩ := List.mem_map.mp hb
          obtain ⟨more, hm⟩ := grown p hp
          rw [← ep]
          exact ⟨_, hm⟩
        · exact ⟨o, key b o hb e⟩
    | _ => exact False.elim z
/-- a def by its body, its code object known -/
theorem fnG_ofC {P : Program} {w : World} {K : PySem.W.Frag} {mg : Str → Option Value} {base : Heap} {CX : CXT} {k : Nat} {p : He.Defn} {fd : FuncData} {N ps : List Str} {sp : Sp} {x qual : Str} {params : Arguments} {body : List Stmt} {scope : Scope} {dvs : List V} {kws : List (Str × V)}
    (F : FunD K x qual params body scope dvs kws (He.fAd K p) fd) (S : FnScope N ps scope) (len : ∀ vs H Q E, sp vs H Q E → vs.length = ps.length)
    (hb : ∀ (A : Around) (outer : List Env) (s : Shared) (H : Hp) (vs : List V) (Q : VK) (E : XK),
      Room k (A.deeper (envOfC qual scope s.heap.objs.size (He.fAd K p) (.ref (He.cT K p).1))) → (A.deeper (envOfC qual scope s.heap.objs.size (He.fAd K p) (.ref (He.cT K p).1))).guards = some [] → sp vs H Q E →
      ∃ t, PSs (cxOf CX P w K mg base N qual scope (He.fAd K p) (.ref (He.cT K p).1) A outer s H E) body t ∧ t { nx := fun _ H' => Q .non H', rt := Q } (start N vs) H) :
    FnG P w K mg base CX (k + 1) (He.fAd K p) fd ps sp := by
  obtain ⟨oc, od, dV, kV, doc, pm, an, cdv, ct, osl, rfl, lk, hcd, _, _⟩ := F.ex
  obtain ⟨c, rfl⟩ := He.codeIn_ref hcd
  have ec : (He.cT K p).1 = c := He.codeOf_eq lk rfl
  subst ec
  refine ⟨len, fun A outer s H args us vs Q E hr hg e0 bnd rv hq => ?_⟩
  have KX : K.In s.heap := e0.mod.kin.keeps fun b o e => (e0.bs b o e).1
  refine codeAny_call_function hr.depth (KX _ _ lk) rfl S.co S.gen rfl (PySem.W.codeRec_of KX hcd) (bnd _ _ _ _ ?_)
  refine wpAny_newFunctionEnv_cells S.kind ?_ ?_
  · rintro ⟨n, v⟩ hy
    rcases S.par n (List.of_mem_zip hy).1 with q | q
    · exact Or.inl q
    · exact Or.inr ⟨q, PySem.W.cellsFrom_some _ _ _ (Or.inl q)⟩
  · intro env he s1 x
    subst he
    have lim : s.heap.NoLimit := e0.mod.nolimit.keeps fun b o e => (e0.bs b o e).1
    refine ⟨lim.keeps x.toInCall.keep, codeAny_func ?_⟩
    obtain ⟨t, ht, q⟩ := hb A outer s H vs Q E (hr.deeper _) (guards_deeper hg) hq
    have I := inv_start (CX := CX) (E := E) S hr.hd e0 (len _ _ _ _ hq) rv x
    refine wpAny_mono (ht.run [] s1 (start N vs) H _ I q) ?_ (fun _ _ z => z)
    intro fl s' z
    cases fl with
    | ret u =>
      obtain ⟨v, σ', H', J, r, q'⟩ := z
      exact ⟨v, H', J.os, J.bare, J.base, J.hok, r, q'⟩
    | next =>
      obtain ⟨σ', H', J, q'⟩ := z
      exact ⟨V.non, H', J.os, J.bare, J.base, J.hok, rfl, q'⟩
    | brk => exact z.elim fun _ z => z.elim fun _ z => z.2.elim
    | cont => exact z.elim fun _ z => z.elim fun _ z => z.2.elim
end Bz
namespace Bz
open PySem PySem.Spec PyProof.Rows L2
/-! ### own error classes over any built-in one -/
def dropRefs : List Value → List Value
  | .ref _ :: r => dropRefs r
  | l => l
theorem drop_contains (Y : String) : ∀ l : List Value, l.contains (Value.type Y) = (dropRefs l).contains (Value.type Y)
  | [] => rfl
  | a :: r => by
    cases a with
    | ref c =>
      rw [List.contains_cons, drop_contains Y r]
      rfl
    | _ => rfl
theorem drop_refuse (v : Value) : ∀ l : List Value, refuseLoop v "__setattr__" l = refuseLoop v "__setattr__" (dropRefs l)
  | [] => rfl
  | a :: r => by
    cases a with
    | ref c =>
      rw [refuseLoop_ref, drop_refuse v r]
      rfl
    | _ => rfl
/-- what is asked of the built-in class at the end: newId makes its instances, tl are its classes -/
structure XBase (newId : String) (tl : List Value) : Prop where
  F : ∃ (B initId : String) (bmB : List Value), ExcBaseFacts B newId initId bmB ∧ tl.contains (.type B) = true
  nA : tl.contains (.type "AttributeError") = false
  nN : tl.contains (.type "NameError") = false
  ob : tl.contains (.type "object") = true
  ps : ∀ v : Value, refuseLoop v "__setattr__" tl = pure ()
def tlVal : List Value := [.type "ValueError", .type "Exception", .type "BaseException", .type "object"]
def tlKey : List Value := [.type "KeyError", .type "LookupError", .type "Exception", .type "BaseException", .type "object"]
def tlLook : List Value := [.type "LookupError", .type "Exception", .type "BaseException", .type "object"]
def tlOver : List Value := [.type "OverflowError", .type "ArithmeticError", .type "Exception", .type "BaseException", .type "object"]
def tlRun : List Value := [.type "RuntimeError", .type "Exception", .type "BaseException", .type "object"]
def tlExc : List Value := [.type "Exception", .type "BaseException", .type "object"]
theorem xb_val : XBase "ValueError.__new__" tlVal := ⟨⟨_, _, _, F.excBase_ValueError, by decide +kernel⟩, by decide +kernel, by decide +kernel, by decide +kernel, fun v => by kernel_rfl⟩
theorem xb_key : XBase "LookupError.__new__" tlKey := ⟨⟨_, _, _, F.excBase_LookupError, by decide +kernel⟩, by decide +kernel, by decide +kernel, by decide +kernel, fun v => by kernel_rfl⟩
theorem xb_look : XBase "LookupError.__new__" tlLook := ⟨⟨_, _, _, F.excBase_LookupError, by decide +kernel⟩, by decide +kernel, by decide +kernel, by decide +kernel, fun v => by kernel_rfl⟩
theorem xb_over : XBase "OverflowError.__new__" tlOver := ⟨⟨_, _, _, F.excBase_OverflowError, by decide +kernel⟩, by decide +kernel, by decide +kernel, by decide +kernel, fun v => by kernel_rfl⟩
theorem xb_run : XBase "RuntimeError.__new__" tlRun := ⟨⟨_, _, _, F.excBase_RuntimeError, by decide +kernel⟩, by decide +kernel, by decide +kernel, by decide +kernel, fun v => by kernel_rfl⟩
theorem xb_exc : XBase "Exception.__new__" tlExc := ⟨⟨_, _, _, F.excBase_Exception, by decide +kernel⟩, by decide +kernel, by decide +kernel, by decide +kernel, fun v => by kernel_rfl⟩
def xbL : List (String × List Value) := [("ValueError.__new__", tlVal), ("LookupError.__new__", tlKey), ("LookupError.__new__", tlLook), ("OverflowError.__new__", tlOver), ("RuntimeError.__new__", tlRun), ("Exception.__new__", tlExc)]
theorem xb_of {n : String} {tl : List Value} (h : (n, tl) ∈ xbL) : XBase n tl := by
  simp only [xbL, List.mem_cons, List.not_mem_nil, or_false, Prod.mk.injEq] at h
  rcases h with ⟨rfl, rfl⟩ | ⟨rfl, rfl⟩ | ⟨rfl, rfl⟩ | ⟨rfl, rfl⟩ | ⟨rfl, rfl⟩ | ⟨rfl, rfl⟩
  · exact xb_val
  · exact xb_key
  · exact xb_look
  · exact xb_over
  · exact xb_run
  · exact xb_exc
/-! ### such a class called: the object is made, then the own __init__ -/
section
variable {M : Model} {prog : Program} {w : World} {A : Around} {E : Value → Shared → Prop} {R : Result → Shared → Prop} {hp : Heap} {g : Array GenState} {d : Drawn} {t : Nat} {os : OsState}
variable {nm q : Str} {C N : Addr} {bs bm bmB : List Value} {sn : List Str} {sub : List Value} {ab : Bool} {col : Option Bool} {dd : Option Addr} {k0 k1 k2 k3 k5 : Option Value} {B newId initId : String}
theorem xnew_chk (G : ExcBaseFacts B newId initId bmB) (c1 : bm.contains (.type B) = true) {us : List Value} {Q : Unit → Shared → Prop}
    (kC : hp.get? C = some (excClassObj nm q C N bs bm true sn sub ab col dd k0 k1 k2 k3 k5 newId)) (z : Q () ⟨hp, g, d, t, os⟩) : wpAny M A (checkBuiltinCall newId ⟨.ref C :: us, []⟩) Q E ⟨hp, g, d, t, os⟩ := by
  have m1 : (Value.ref C :: bm).contains (.type B) = true := by
    rw [List.contains_cons, c1, Bool.or_true]
  have st := G.noStar
  simp only [checkBuiltinCall, G.newKind, G.newSplit, G.newRow]
  repeat (first
    | refine wpAny_loadPart_at kC ?_
    | (refine wpAny_isSubtype_exc kC ?_; rw [m1])
    | refine wpAny_staticBase_exc kC ?_
    | refine wpAny_madeBy_exc kC ?_
    | simp only [bne_self_eq_false, Bool.false_eq_true, if_false]
    | wp_step)
  exact z
theorem xnew_run (G : ExcBaseFacts B newId initId bmB) (c1 : bm.contains (.type B) = true) (c2 : bm.contains (.type "AttributeError") = false) (c3 : bm.contains (.type "NameError") = false) {us : List Value}
    (kC : hp.get? C = some (excClassObj nm q C N bs bm true sn sub ab col dd k0 k1 k2 k3 k5 newId)) (hz : us.length ≤ sizeLine)
    (z : R (.ok (.ret (.ref (hp.objs.size + 1)))) ⟨(hp.push (PySem.W.kdv_tup us)).push (HandSPX.excO C hp.objs.size), g, d, t, os⟩) :
    codeAny (model prog w) A (.builtin newId ⟨.ref C :: us, []⟩) R ⟨hp, g, d, t, os⟩ := by
  have he := G.ends
  have m1 : (Value.ref C :: bm).contains (.type B) = true := by
    rw [List.contains_cons, c1, Bool.or_true]
  have m2 : (Value.ref C :: bm).contains (.type "AttributeError") = false := by
    rw [List.contains_cons, c2]
    rfl
  have m3 : (Value.ref C :: bm).contains (.type "NameError") = false := by
    rw [List.contains_cons, c3]
    rfl
  apply codeAny_builtinAt G.entry
  unfold Builtin.«BaseException.__new__»
  apply PySem.wpAt_bind
  show PySem.wpAt _ _ _ (stack >>= _) _ _ _
  apply PySem.wpAt_bind
  apply PySem.wpAt_stack
  intro p below
  apply PySem.wpAt_of_wpAny
  wp_walk
  apply PySem.wpAt_of_wpAny
  rw [G.owner]
  repeat (first
    | with_reducible refine wpAny_madeHere_exc G.canon kC ?_
    | with_reducible refine wpAny_loadPart_at kC ?_
    | (with_reducible refine wpAny_isSubtype_exc kC ?_; first | rw [m1] | rw [m2] | rw [m3])
    | wp_step)
  show R _ _
  rw [Heap.size_push]
  exact z
theorem xcls_type (G : ExcBaseFacts B newId initId bmB) (c1 : bm.contains (.type B) = true) (c2 : bm.contains (.type "AttributeError") = false) (c3 : bm.contains (.type "NameError") = false) {us : List Value} {fI : Addr} {Q : Fin → Shared → Prop}
    (kC : hp.get? C = some (excClassObj nm q C N bs bm true sn sub ab col dd k0 k1 k2 k3 k5 newId))
    (hi : PySem.W.Looks (model prog w) hp (typeLookup (.ref C) "__init__") (some (.ref fI))) (hb : ∀ v, PySem.W.Looks (model prog w) hp (bindSpecial (.ref fI) v) (.ref fI, [v])) (hz : us.length ≤ sizeLine)
    (z : codeAny (model prog w) A (.call (.ref fI) ⟨.ref (hp.objs.size + 1) :: us, []⟩)
      (fun r s' => match r with
        | .ok (.ret v) => v = .none ∧ Q (.done (.ret (.ref (hp.objs.size + 1)))) s'
        | .ok _ => False
        | .error e => E e s') ⟨(hp.push (PySem.W.kdv_tup us)).push (HandSPX.excO C hp.objs.size), g, d, t, os⟩) :
    wpAny (model prog w) A (Builtin.«type.__call__» ⟨.ref C :: us, []⟩) Q E ⟨hp, g, d, t, os⟩ := by
  repeat (first
    | with_reducible refine wpAny_loadPart_at kC ?_
    | with_reducible refine wpAny_madeBy_exc kC ?_
    | wp_step)
  apply codeAny_call_builtin_code (Code.quiet_builtin _ G.quiet)
  apply xnew_chk G c1 kC
  apply xnew_run G c1 c2 c3 kC hz
  show wpAny _ _ _ _ _ _
  have k : ∀ b o, hp.get? b = some o → ((hp.push (PySem.W.kdv_tup us)).push (HandSPX.excO C hp.objs.size)).get? b = some o := fun b o e => by
    apply Heap.get?_push_of_some
    apply Heap.get?_push_of_some
    exact e
  have kC' := k _ _ kC
  have ke : ((hp.push (PySem.W.kdv_tup us)).push (HandSPX.excO C hp.objs.size)).get? (hp.objs.size + 1) = some (HandSPX.excO C hp.objs.size) := by
    heap_get
  have mC : (Value.ref C :: bm).contains (.ref C) = true := by
    simp
  have hi' := hi.keeps k
  have hb' := (hb (.ref (hp.objs.size + 1))).keeps k
  unfold isInstance
  repeat (first
    | with_reducible refine wpAny_loadPart_at ke ?_
    | (with_reducible refine wpAny_isSubtype_exc kC' ?_; rw [mC])
    | wp_step)
  show wpAny _ _ (typeLookup (.ref C) _) _ _ _
  apply hi'.at
  refine wpAny_holding ?_
  refine wpAny_bind ?_
  apply hb'.at
  refine wpAny_bind ?_
  refine wpAny_call ?_
  refine codeAny_mono z fun r s' y => ?_
  cases r with
  | error e => exact y
  | ok fl =>
    cases fl with
    | ret v =>
      obtain ⟨rfl, y⟩ := y
      first
        | exact wpAny_pure (wpAny_pure y)
        | (wp_walk; exact y)
    | next => exact False.elim y
    | brk => exact False.elim y
    | cont => exact False.elim y
theorem xcls_call (G : ExcBaseFacts B newId initId bmB) (c1 : bm.contains (.type B) = true) (c2 : bm.contains (.type "AttributeError") = false) (c3 : bm.contains (.type "NameError") = false) {us : List Value} {fI : Addr}
    (kC : hp.get? C = some (excClassObj nm q C N bs bm true sn sub ab col dd k0 k1 k2 k3 k5 newId))
    (hi : PySem.W.Looks (model prog w) hp (typeLookup (.ref C) "__init__") (some (.ref fI))) (hb : ∀ v, PySem.W.Looks (model prog w) hp (bindSpecial (.ref fI) v) (.ref fI, [v])) (hz : us.length ≤ sizeLine)
    (z : codeAny (model prog w) (A.under (.builtin "type.__call__" ⟨.ref C :: us, []⟩)) (.call (.ref fI) ⟨.ref (hp.objs.size + 1) :: us, []⟩) (PySem.W.InitBack (hp.objs.size + 1) R)
      ⟨(hp.push (PySem.W.kdv_tup us)).push (HandSPX.excO C hp.objs.size), g, d, t, os⟩) :
    codeAny (model prog w) A (.call (.ref C) ⟨us, []⟩) R ⟨hp, g, d, t, os⟩ := by
  have a1 := tc_lookup
  have a2 := tc_bind (.ref C)
  have ty : (⟨hp, g, d, t, os⟩ : Shared).TypeIs (.ref C) "type" := ⟨_, kC, rfl⟩
  apply codeAny_of_tree
  show wpAny _ _ (callAny (.ref C) _) _ _ _
  repeat (any_goals (first
    | assumption
    | with_reducible refine wpAny_loadPart_at kC ?_
    | wp_step))
  refine ⟨rfl, ?_⟩
  apply codeAny_call_builtin_at (Code.quiet_builtin _ (by decide +kernel)) entry_typeCall
  apply wpAny_check_type_call_sub kC
  apply xcls_type G c1 c2 c3 kC hi hb hz
  refine codeAny_mono z fun r s' y => ?_
  cases r with
  | error e => exact y
  | ok fl =>
    cases fl with
    | _ => exact y
end
end Bz
namespace Bz
open PySem PySem.Spec PyProof.Rows L2
/-! ### fields of such an error, being made -/
section
open Builtin Builtin.ObjectAttr
variable {prog : Program} {w : World} {R : Result → Shared → Prop} {A : Around} {hp : Heap} {g : Array GenState} {d : Drawn} {t : Nat} {os : OsState}
variable {K : PySem.W.Frag} {name : Str} {tk : Tok} {v : Value} {x C : Addr} {fv : Array Value} {cd : ClassData}
theorem xmro_obj {bm tl : List Value} (hd : dropRefs bm = tl) (ho : tl.contains (.type "object") = true) : (Value.ref C :: bm).contains (.type "object") = true := by
  rw [drop_contains]
  show (dropRefs bm).contains _ = true
  rw [hd]
  exact ho
theorem xmro_ps {bm tl : List Value} (hd : dropRefs bm = tl) (hp : ∀ v : Value, refuseLoop v "__setattr__" tl = pure ()) (v : Value) : refuseLoop v "__setattr__" (Value.ref C :: bm) = pure () := by
  rw [drop_refuse]
  show refuseLoop v "__setattr__" (dropRefs bm) = pure ()
  rw [hd]
  exact hp v
theorem xosa_new (X : K.In hp) (hx : hp.get? x = some { cls := .ref C, data := .fields fv }) (hcd : PySem.W.clsIn K C = some cd) (hm : cd.mro.contains (.type "object") = true) (hps : ∀ v : Value, refuseLoop v "__setattr__" cd.mro = pure ()) (hh : cd.hasDict = true) (ha : PySem.W.findIn K (.ref C) name = some none)
    (z : ∀ h' tk' dx, (∀ b o, b ≠ x → hp.get? b = some o → h'.get? b = some o) → hp.objs.size ≤ dx → dx ≠ x → h'.get? x = some { cls := .ref C, dict := some dx, data := .fields fv } →
      h'.Ns1 dx (fun y => if y = name then some v else none) → R (.ok (.ret .none)) ⟨h', g, d, tk', os⟩) :
    codeAny (model prog w) A (.call (.builtin "object.__setattr__") ⟨[.ref x, .str name tk, v], []⟩) R ⟨hp, g, d, t, os⟩ := by
  have J : PySem.W.InstAt hp x { cls := .ref C, data := .fields fv } C none := ⟨hx, rfl, rfl, trivial⟩
  have S := F.store_object
  have ne : cd.mro.isEmpty = false := by
    cases e : cd.mro with
    | nil =>
      rw [e] at hm
      cases hm
    | cons _ _ => rfl
  have nx : x ≠ hp.objs.size := Nat.ne_of_lt (Heap.lt_size hx)
  have sub : PySem.W.Looks (model prog w) hp (isInstance (.ref x) (.type "object")) true := J.type.andThen (PySem.W.looks_mroIn X (by
    unfold PySem.W.mroIn
    rw [hcd, Option.bind_some, if_neg (by rw [ne]; decide), hm]))
  refine codeAny_call_builtin S.slot.plain S.entry (@PySem.W.check_slot (model prog w) _ _ ⟨hp, g, d, t, os⟩ "object.__setattr__" "object" "__setattr__" (.ref x) [.str name tk, v] [] _ S.kind S.split sub (S.args (.ref x) (.str name tk) v) ?_)
  have l1 : PySem.W.Looks (model prog w) hp (mroOf (.ref C)) cd.mro := (PySem.W.looks_clsIn X hcd).andThen .now
  have l2 : PySem.W.Looks (model prog w) hp (storeTaker? none) none := .now
  have l3 : PySem.W.Looks (model prog w) hp (classData C) cd := PySem.W.looks_clsIn X hcd
  rw [PySem.W.osa_eq, refuse_eq]
  apply wpAny_bind
  apply wpAny_bind
  apply J.type.at
  apply wpAny_bind
  apply l1.at
  rw [hps]
  apply wpAny_pure
  apply wpAny_bind
  apply J.type.at
  apply wpAny_bind
  apply (PySem.W.looks_findIn X ha).at
  apply wpAny_bind
  apply l2.at
  show wpAny _ _ (storeInOwnDict (.ref x) (.ref C) (.str name tk) name v false) _ _ _
  obtain ⟨nm, bs, mro, ns, qn, hd, sn, sb, ab, col, del⟩ := cd
  dsimp only at hh
  subst hh
  unfold storeInOwnDict ownDictForStores
  repeat (first
    | with_reducible refine HandSPX.store_in_new ?_ ?_
    | with_reducible refine wpAny_loadPart_at hx ?_
    | with_reducible refine l3.at ?_
    | wp_step)
  · exact ⟨_, #[], _, (Heap.get?_update_ne _ _ _ _ nx.symm).trans (Heap.get?_push_at rfl rfl), rfl, fun e he => absurd he (by simp), fun _ => rfl⟩
  · intro h' tk' hn hs
    have hx2 : (hp.push { cls := .type "dict", data := .dict #[] }).get? x = some { cls := .ref C, data := .fields fv } := Heap.get?_push_of_some _ hx
    refine z h' tk' hp.objs.size (fun b o hb ho => ?_) (Nat.le_refl _) nx.symm ?_ hn
    · rw [hs.2 b (Nat.ne_of_lt (Heap.lt_size ho)), Heap.get?_update_ne _ _ _ _ hb]
      exact Heap.get?_push_of_some _ ho
    · rw [hs.2 x nx]
      exact Heap.get?_update_self _ hx2 rfl
theorem xosa_old {dx : Addr} {m0 : Str → Option Value} {nl : List Str} (X : K.In hp) (hx : hp.get? x = some { cls := .ref C, dict := some dx, data := .fields fv }) (hns : hp.Ns1 dx m0) (hw : Within m0 nl) (hz : nl.length ≤ 1000)
    (hcd : PySem.W.clsIn K C = some cd) (hm : cd.mro.contains (.type "object") = true) (hps : ∀ v : Value, refuseLoop v "__setattr__" cd.mro = pure ()) (hh : cd.hasDict = true) (ha : PySem.W.findIn K (.ref C) name = some none)
    (z : ∀ h' tk', (∀ b o, b ≠ dx → hp.get? b = some o → h'.get? b = some o) → h'.Ns1 dx (fun y => if y = name then some v else m0 y) → R (.ok (.ret .none)) ⟨h', g, d, tk', os⟩) :
    codeAny (model prog w) A (.call (.builtin "object.__setattr__") ⟨[.ref x, .str name tk, v], []⟩) R ⟨hp, g, d, t, os⟩ := by
  obtain ⟨oD, esD, epD, hoD, hdD, _⟩ := hns.count hw
  have J : PySem.W.InstAt hp x { cls := .ref C, dict := some dx, data := .fields fv } C (some oD) := ⟨hx, rfl, rfl, hoD⟩
  have S := F.store_object
  have ne : cd.mro.isEmpty = false := by
    cases e : cd.mro with
    | nil =>
      rw [e] at hm
      cases hm
    | cons _ _ => rfl
  have sub : PySem.W.Looks (model prog w) hp (isInstance (.ref x) (.type "object")) true := J.type.andThen (PySem.W.looks_mroIn X (by
    unfold PySem.W.mroIn
    rw [hcd, Option.bind_some, if_neg (by rw [ne]; decide), hm]))
  refine codeAny_call_builtin S.slot.plain S.entry (@PySem.W.check_slot (model prog w) _ _ ⟨hp, g, d, t, os⟩ "object.__setattr__" "object" "__setattr__" (.ref x) [.str name tk, v] [] _ S.kind S.split sub (S.args (.ref x) (.str name tk) v) ?_)
  have l1 : PySem.W.Looks (model prog w) hp (mroOf (.ref C)) cd.mro := (PySem.W.looks_clsIn X hcd).andThen .now
  have l2 : PySem.W.Looks (model prog w) hp (storeTaker? none) none := .now
  have l3 : PySem.W.Looks (model prog w) hp (classData C) cd := PySem.W.looks_clsIn X hcd
  rw [PySem.W.osa_eq, refuse_eq]
  apply wpAny_bind
  apply wpAny_bind
  apply J.type.at
  apply wpAny_bind
  apply l1.at
  rw [hps]
  apply wpAny_pure
  apply wpAny_bind
  apply J.type.at
  apply wpAny_bind
  apply (PySem.W.looks_findIn X ha).at
  apply wpAny_bind
  apply l2.at
  show wpAny _ _ (storeInOwnDict (.ref x) (.ref C) (.str name tk) name v false) _ _ _
  obtain ⟨nm, bs, mro, ns, qn, hd, sn, sb, ab, col, del⟩ := cd
  dsimp only at hh
  subst hh
  unfold storeInOwnDict ownDictForStores
  repeat (first
    | with_reducible refine PySem.OEX.store_in_old hns hw hz ?_
    | with_reducible refine wpAny_loadPart_at hx ?_
    | with_reducible refine l3.at ?_
    | wp_step)
  intro h' tk' hn hs
  exact z h' tk' (fun b o hb ho => (hs.2 b hb).trans ho) hn
end
/-- what the head tells of such a class -/
structure OexG (K : PySem.W.Frag) (C : Addr) : Prop where
  cls : ∃ newId tl nm q N bs bm sn sub ab col dd k0 k1 k2 k3 k5, XBase newId tl ∧ K.lookup C = some (excClassObj nm q C N bs bm true sn sub ab col dd k0 k1 k2 k3 k5 newId) ∧ dropRefs bm = tl
  sa : PySem.W.findIn K (.ref C) "__setattr__" = some (some (.builtin "object.__setattr__"))
  exC : PySem.W.subIn K (.ref C) (.type "BaseException") = some true
  tyC : PySem.W.typeIn K (.ref C) = some (.type "type")
  kC : PySem.W.keepIn K (.ref C) = true
section
variable {X : Cx} {pins : List (Addr × Obj)} {σ : L2.St} {H : Hp} {s : Shared} {a C dx : Addr} {f : Str} {y : V} {u : Value} {fs : List (Str × V)} {Q : Unit → Shared → Prop} {E : Value → Shared → Prop} {A : Around}
theorem xst_new (T : OexG X.K C) (I : Inv X pins σ H s) (e : H a = some (exo a C none)) (hno : PySem.W.findIn X.K (.ref C) f = some none) (ry : RelV y u)
    (h : ∀ dx s', H dx = none → dx ≠ a → Inv X pins σ (upd (upd H dx (exd dx [(f, y)])) a (exo a C (some dx))) s' → Q () s') : wpAny (model X.prog X.w) A (setAttr (.ref a) f u) Q E s := by
  obtain ⟨newId, tl, nm, q, N, bs, bm, sn, sub, ab, col, dd, k0, k1, k2, k3, k5, xb, hC, hbm⟩ := T.cls
  have hcl : PySem.W.clsIn X.K C = some { name := nm, bases := bs, mro := .ref C :: bm, ns := N, qualname := q, hasDict := true, slotNames := sn, subclasses := sub, abstract := ab, collection := col, hasDel := false } := by
    unfold PySem.W.clsIn
    rw [hC] <;> rfl
  obtain ⟨t1, ho⟩ := exo_at I.hok e
  obtain ⟨hp, g, d, t, os⟩ := s
  refine PySem.W.set_plain I.kIn (ox := { cls := .ref C, dict := none, data := .fields #[.ref t1, .none, .none, .none, .bool false, .none] }) (od := none) ⟨ho, rfl, rfl, trivial⟩ T.sa ?_
  refine xosa_new I.kIn ho hcl (xmro_obj hbm xb.ob) (xmro_ps hbm xb.ps) rfl hno ?_
  intro h' tk' dx k dn dne hx hn
  have hnd : H dx = none := I.hok.fresh dn
  have nd : ∀ {b : Addr} {o : Obj}, hp.get? b = some o → b ≠ dx := fun {b o} q => Nat.ne_of_lt (Nat.lt_of_lt_of_le (Heap.lt_size q) dn)
  have na : ∀ {b : Addr}, H b = none → b ≠ a := fun {b} n z => by
    rw [z, e] at n
    cases n
  have U : Un X.fs [] H (upd (upd H dx (exd dx [(f, y)])) a (exo a C (some dx))) hp h' := by
    constructor
    · intro b o q n _ _
      exact k b o (na n) q
    · intro b o q n _ _
      exact ⟨o.slots, k b o (na n) q⟩
    · intro b o q n _
      rw [upd_ne (na n), upd_ne (nd q)]
      exact n
    · intro b o q _
      by_cases hb : b = a
      · exact ⟨_, by rw [hb]; exact hx⟩
      · exact ⟨o, k b o hb q⟩
    · intro b xs q
      rw [upd_ne (at_ne e q exo_tup), upd_ne (ne_of_none q hnd)]
      exact q
    · intro b o v q
      rw [upd_ne (at_ne e q exo_frz), upd_ne (ne_of_none q hnd)]
      exact q
    · intro b ps q
      refine ⟨#[], ?_⟩
      rw [upd_ne (at_ne e q exo_tbl), upd_ne (ne_of_none q hnd), q]
      simp
  refine h dx _ hnd dne (I.un (t' := tk') U ?_)
  intro b o q
  by_cases hb : b = a
  · subst hb
    rw [upd_same] at q
    cases q
    exact exo_ok hx
  rw [upd_ne hb] at q
  by_cases hd : b = dx
  · subst hd
    rw [upd_same] at q
    cases q
    exact exd_ok hn (relO_put (fs := []) ry fun g => True.intro)
  rw [upd_ne hd] at q
  refine (I.hok b o q).stay ?_ ?_ ?_
  · intro c v hc z
    refine k c v ?_ z
    rcases hc with hc | hc
    · rw [hc]
      exact hb
    · exact at_ne e hc exo_own
  · intro c hc
    rw [upd_ne (at_ne e hc exo_own), upd_ne (ne_of_none hc hnd)]
    exact hc
  · intro c xs hc
    rw [upd_ne (at_ne e hc exo_tup), upd_ne (ne_of_none hc hnd)]
    exact hc
theorem xst_old (T : OexG X.K C) (I : Inv X pins σ H s) (e : H a = some (exo a C (some dx))) (ed : H dx = some (exd dx fs)) (hl : fs.length ≤ 900) (hno : PySem.W.findIn X.K (.ref C) f = some none) (ry : RelV y u)
    (h : ∀ s', Inv X pins σ (upd H dx (exd dx ((f, y) :: fs))) s' → Q () s') : wpAny (model X.prog X.w) A (setAttr (.ref a) f u) Q E s := by
  obtain ⟨newId, tl, nm, q, N, bs, bm, sn, sub, ab, col, dd, k0, k1, k2, k3, k5, xb, hC, hbm⟩ := T.cls
  have hcl : PySem.W.clsIn X.K C = some { name := nm, bases := bs, mro := .ref C :: bm, ns := N, qualname := q, hasDict := true, slotNames := sn, subclasses := sub, abstract := ab, collection := col, hasDel := false } := by
    unfold PySem.W.clsIn
    rw [hC] <;> rfl
  obtain ⟨t1, ho⟩ := exo_at I.hok e
  obtain ⟨mA, hns, rel⟩ := exd_at I.hok ed
  have hw := within_of rel
  obtain ⟨hp, g, d, t, os⟩ := s
  obtain ⟨oD, _, _, hoD, _, _⟩ := hns.count hw
  refine PySem.W.set_plain I.kIn (ox := { cls := .ref C, dict := some dx, data := .fields #[.ref t1, .none, .none, .none, .bool false, .none] }) (od := some oD) ⟨ho, rfl, rfl, hoD⟩ T.sa ?_
  refine xosa_old I.kIn ho hns hw ?_ hcl (xmro_obj hbm xb.ob) (xmro_ps hbm xb.ps) rfl hno ?_
  · rw [List.length_map]
    omega
  intro h' tk' k hn
  have hd : ∃ o, h'.get? dx = some o := by
    obtain ⟨o, _, _, e', _⟩ := hn
    exact ⟨o, e'⟩
  refine h _ (I.write (t' := tk') (x := dx) (e := dx) (o := exd dx ((f, y) :: fs)) ?_ (.inl rfl) k hd (exd_ok hn (relO_put ry rel)))
  rw [ed]
  exact True.intro
end
/-- self.f = e -/
def tOsg (K : PySem.W.Frag) (f : Str) (to te : TE) : TS := fun D σ H => te σ H fun y H1 => to σ H1 fun x H2 => ∃ a C : Addr, x = .ref a ∧ OexG K C ∧ PySem.W.findIn K (.ref C) f = some none ∧
  ((H2 a = some (exo a C none) ∧ ∀ dx, H2 dx = none → dx ≠ a → D.nx σ (upd (upd H2 dx (exd dx [(f, y)])) a (exo a C (some dx)))) ∨
    ∃ (dx : Addr) (fs : List (Str × V)), H2 a = some (exo a C (some dx)) ∧ H2 dx = some (exd dx fs) ∧ fs.length ≤ 900 ∧ D.nx σ (upd H2 dx (exd dx ((f, y) :: fs))))
theorem ps_osg {X : Cx} {o e : Expr} {to te : TE} {f : Str} {p' pos : Pos} (ho : PE X o to) (he : PE X e te) (hs : swapsWith e (some (.Attribute o f p')) pos.line X.env = pure false := by rfl) : PS X (.Assign [.Attribute o f p'] e pos) (tOsg X.K f to te) := by
  refine ⟨fun pins s σ H D I h => ?_⟩
  refine plainObj_wpAny_Assign_Attribute ?_ hs
  refine thn (he.run pins s σ H _ I h) ?_
  rintro v s1 ⟨y, H1, I1, r1, q1⟩
  refine thn (ho.run pins s1 σ H1 _ I1 q1) ?_
  rintro u s2 ⟨x, H2, I2, r2, a, C, ex, T, hno, q⟩
  subst ex
  obtain rfl : u = Value.ref a := r2
  rcases q with ⟨ea, q⟩ | ⟨dx, fs, ea, ed, hl, q⟩
  · exact xst_new T I2 ea hno r1 fun dx s' n ne J => ⟨σ, _, J, q dx n ne⟩
  · exact xst_old T I2 ea ed hl hno r1 fun s' J => ⟨σ, _, J, q⟩
end Bz
namespace Bz
open PySem PySem.Spec PyProof.Rows L2
/-! ### C(e, ..): an error is made -/
structure XMakeOk (P : Program) (w : World) (K : PySem.W.Frag) (mg : Str → Option Value) (base : Heap) (CX : CXT) (k : Nat) (x : Str) (n : Nat) (sp : Sp) (gV : List V → List V → List V) : Prop where
  T : OexG K (He.ga K x)
  ok : ∃ (fI : Addr) (fd : FuncData) (ps : List Str) (g : List Value → List Value → List Value), PySem.W.findIn K (.ref (He.ga K x)) "__init__" = some (some (.ref fI)) ∧ PySem.W.typeIn K (.ref fI) = some (.type "function") ∧ FnG P w K mg base CX k fI fd ps sp ∧ KBn K fd ps (n + 1) [] g gV
  at_ : mg x = some (.ref (He.ga K x))
def aXmk (C : Addr) (n : Nat) (sp : Sp) (gV : List V → List V → List V) (vs : List V) (H1 : Hp) (Q : XK) : Prop := vs.length = n ∧ vs.length ≤ 1000 ∧ ∀ a, H1 a = none → sp (gV (.ref a :: vs) []) (upd H1 a (exo a C none))
  (fun v H2 => v = .non ∧ ∃ (d : Addr) (fs : List (Str × V)), H2 a = some (exo a C (some d)) ∧ H2 d = some (exd d fs) ∧ H1 d = none ∧ Q (.ref C) (some d) (upd (del H2 a) d (.xd fs))) E0
def tXMk (C : Addr) (n : Nat) (sp : Sp) (gV : List V → List V → List V) (ta : TA) : St → Hp → XK → Prop := fun σ H Q => ta σ H fun vs H1 => aXmk C n sp gV vs H1 Q
section
variable {X : Cx} {CX : CXT} {k k' n : Nat} {sp : Sp} {gV : List V → List V → List V} {x : Str} {e : Expr} {es : List Expr} {ta : TA} {p pos : Pos}
theorem pmk_xg (c : XMakeOk X.prog X.w X.K X.mg X.base CX k x n sp gV) (hr : Room k' X.A) (hk : k + 1 ≤ k') (hgu : X.A.guards = some []) (hx : Passes CX X E0) (hg : Gl X x) (ha : PA X (e :: es) ta)
    (hdb : (x == ("__debug__" : Str)) = false := by decide) (he : starEach (e :: es) X.env = (false, eval e X.env) :: starEach es X.env := by rfl) (hpl : (backTo pos (starEach es X.env)).any (·.1) = false := by rfl) :
    PMk X (.Call (.Name x p) (e :: es) [] pos) (tXMk (He.ga X.K x) n sp gV ta) := by
  intro pins s σ H Q I h
  obtain ⟨T, ⟨fI, fd, ps, gg, iC, tI, F1, kb⟩, hm⟩ := c
  generalize hCe : He.ga X.K x = C at *
  obtain ⟨newId, tl, nm, q, N, bs, bm, sn, sub, ab, col, dd, k0, k1, k2, k3, k5, xb, hC, hbm⟩ := T.cls
  obtain ⟨B, initId, bmB, G, cB⟩ := xb.F
  have c1 : bm.contains (.type B) = true := by
    rw [drop_contains, hbm]
    exact cB
  have c2 : bm.contains (.type "AttributeError") = false := by
    rw [drop_contains, hbm]
    exact xb.nA
  have c3 : bm.contains (.type "NameError") = false := by
    rw [drop_contains, hbm]
    exact xb.nN
  refine wpAny_Call_Name_kw (ld_glob I hg hm ?_ hdb)
  refine PySem.W.callWith_K (h₀ := X.base) I.ok.mod.kin T.kC (thn (ha.run pos pins s σ H _ I h) ?_) he hpl
  rintro us s1 ⟨vs, H1, I1, r1, ln, hz, q1⟩
  refine ⟨I1.kIn, ?_⟩
  show wpAny _ _ (call (.ref C) us) _ _ _
  obtain ⟨hp, g, dr, tk, os⟩ := s1
  have hsz : hp.objs.size ≤ hp.objs.size + 1 := Nat.le_succ _
  have hn : H1 (hp.objs.size + 1) = none := I1.hok.fresh hsz
  have hq := q1 (hp.objs.size + 1) hn
  have kk : ∀ b o, hp.get? b = some o → ((hp.push (PySem.W.kdv_tup us)).push (HandSPX.excO C hp.objs.size)).get? b = some o := fun b o e => by
    apply Heap.get?_push_of_some
    apply Heap.get?_push_of_some
    exact e
  have hget : ((hp.push (PySem.W.kdv_tup us)).push (HandSPX.excO C hp.objs.size)).get? (hp.objs.size + 1) = some (HandSPX.excO C hp.objs.size) := by
    heap_get
  have I2 : Inv X pins σ (upd H1 (hp.objs.size + 1) (exo (hp.objs.size + 1) C none)) ⟨(hp.push (PySem.W.kdv_tup us)).push (HandSPX.excO C hp.objs.size), g, dr, tk, os⟩ :=
    I1.laid (t' := tk) (a := hp.objs.size + 1) (o := exo (hp.objs.size + 1) C none) (h' := (hp.push (PySem.W.kdv_tup us)).push (HandSPX.excO C hp.objs.size)) kk hsz (exo_ok hget)
  have r2 : Vals (V.ref (hp.objs.size + 1) :: vs) (Value.ref (hp.objs.size + 1) :: us) := .cons rfl r1
  have hl1 : (Value.ref (hp.objs.size + 1) :: us).length = n + 1 := by
    rw [← r2.length, List.length_cons, ln]
  have hus : us.length ≤ sizeLine := by
    rw [← Paired.length r1, sizeLine_eq]
    omega
  refine wpAny_call (xcls_call G c1 c2 c3 (I1.kIn _ _ hC) (PySem.W.looks_findIn I1.kIn iC) (fun v => PySem.W.bind_fn I1.kIn v tI) hus (codeAny_mono (F1.go _ X.stack _ _ ⟨Value.ref (hp.objs.size + 1) :: us, []⟩ (gg (Value.ref (hp.objs.size + 1) :: us) []) _ _ E0
    ((hr.mono hk).make C us []) (guards_make hgu) (I2.env0.make C us []) (kb.to _ (Value.ref (hp.objs.size + 1) :: us) [] I2.kIn hl1 rfl) (kb.rel r2 .nil) hq) ?_))
  intro r s' hq'
  cases r with
  | error er => exact hx pins σ _ _ er s' I2 hq'
  | ok fl =>
    cases fl with
    | ret u =>
      obtain ⟨v, H2, os2, bare2, un2, hok2, rv, ev, d, fs, ea, ed, hd1, q2⟩ := hq'
      subst ev
      obtain ⟨h2, g2, d2, t2, os'⟩ := s'
      exact ⟨rv, mk_end (raises_own T.exC T.tyC) I1 hsz kk un2 hok2 os2 bare2 ea ed hd1 q2⟩
    | next => exact False.elim hq'
    | brk => exact False.elim hq'
    | cont => exact False.elim hq'
end
/-- an __init__ that keeps fields fl, all in all F -/
def sp_xinit (K : PySem.W.Frag) (n : Nat) (fl : List Str) (F : List V → List (Str × V)) : Sp := fun vs H Q _ => vs.length = n + 1 ∧ ∃ (a C : Addr) (ws : List V), vs = .ref a :: ws ∧ OexG K C ∧ (∀ f ∈ fl, PySem.W.findIn K (.ref C) f = some none) ∧ H a = some (exo a C none) ∧
  ∀ dx, H dx = none → dx ≠ a → Q .non (upd (upd H dx (exd dx (F ws))) a (exo a C (some dx)))
theorem xput {H : Hp} {a dx C : Addr} {u v : HO} {w : HO} (h : dx ≠ a) : upd (upd (upd H dx u) a w) dx v = upd (upd H dx v) a w := by
  funext b
  by_cases h1 : b = dx
  · rw [h1, upd_same, upd_ne h, upd_same]
  · rw [upd_ne h1]
    by_cases h2 : b = a
    · rw [h2, upd_same, upd_same]
    · rw [upd_ne h2, upd_ne h2, upd_ne h1, upd_ne h1]
section
variable {K : PySem.W.Frag} {B H : Hp} {M L : List (Addr × HO)} {C : Addr} {n : Nat} {fl : List Str} {F : List V → List (Str × V)} {gV : List V → List V → List V} {vs : List V} {Q : XK}
theorem g_xmk {sp : Sp} {ta : TA} {σ : St} (h : ta σ H fun vs H1 => aXmk C n sp gV vs H1 Q) : tXMk C n sp gV ta σ H Q := h
theorem g_aXmk (I : Is B M L H) (T : OexG K C) (hf : ∀ f ∈ fl, PySem.W.findIn K (.ref C) f = some none) (hn : vs.length = n) (hz : n ≤ 1000) (hg : ∀ a, gV (.ref a :: vs) [] = .ref a :: vs)
    (q : ∀ d H', Is B M ((d, .xd (F vs)) :: L) H' → Q (.ref C) (some d) H') : aXmk C n (sp_xinit K n fl F) gV vs H Q := by
  refine ⟨hn, by omega, fun a na => ?_⟩
  rw [hg]
  refine ⟨by rw [List.length_cons, hn], a, C, vs, rfl, T, hf, upd_same, fun dx hd hne => ⟨rfl, dx, F vs, upd_same, ?_, ?_, ?_⟩⟩
  · rw [upd_ne hne, upd_same]
  · rw [upd_ne hne] at hd
    exact hd
  · have hd' : H dx = none := by
      rw [upd_ne hne] at hd
      exact hd
    have e : upd (del (upd (upd (upd H a (exo a C none)) dx (exd dx (F vs))) a (exo a C (some dx))) a) dx (.xd (F vs)) = upd H dx (.xd (F vs)) := by
      funext b
      by_cases h1 : b = dx
      · rw [h1, upd_same, upd_same]
      · rw [upd_ne h1, upd_ne h1]
        by_cases h2 : b = a
        · rw [h2, del_same, na]
        · rw [del_ne h2, upd_ne h2, upd_ne h1, upd_ne h2]
    rw [e]
    exact q dx _ (I.new hd')
/-- the first field, a further one -/
theorem g_osg1 {nx bk ct : St → Hp → Prop} {rt : VK} {σ : St} {i j : Nat} {f : Str} {a : Addr} {y : V} (h1 : σ[j]? = some (some y)) (h2 : σ[i]? = some (some (.ref a))) (T : OexG K C) (hn : PySem.W.findIn K (.ref C) f = some none) (ha : H a = some (exo a C none))
    (q : ∀ dx, H dx = none → dx ≠ a → nx σ (upd (upd H dx (exd dx [(f, y)])) a (exo a C (some dx)))) : tOsg K f (tVar i) (tVar j) ⟨nx, rt, bk, ct⟩ σ H := ⟨y, h1, .ref a, h2, a, C, rfl, T, hn, .inl ⟨ha, q⟩⟩
theorem g_osg2 {nx bk ct : St → Hp → Prop} {rt : VK} {σ : St} {i j : Nat} {f : Str} {a dx : Addr} {y : V} {fs : List (Str × V)} (h1 : σ[j]? = some (some y)) (h2 : σ[i]? = some (some (.ref a))) (T : OexG K C) (hn : PySem.W.findIn K (.ref C) f = some none) (hne : dx ≠ a) (hz : fs.length ≤ 900)
    (q : nx σ (upd (upd H dx (exd dx ((f, y) :: fs))) a (exo a C (some dx)))) : tOsg K f (tVar i) (tVar j) ⟨nx, rt, bk, ct⟩ σ (upd (upd H dx (exd dx fs)) a (exo a C (some dx))) :=
  ⟨y, h1, .ref a, h2, a, C, rfl, T, hn, .inr ⟨dx, fs, upd_same, by rw [upd_ne hne, upd_same], hz, by rw [xput (C := C) hne]; exact q⟩⟩
end
/-! ### C.m(e, ..), C an own class: its plain def -/
structure ClsFnOk (P : Program) (w : World) (K : PySem.W.Frag) (mg : Str → Option Value) (base : Heap) (CX : CXT) (k : Nat) (x m : Str) (n : Nat) (sp : Sp) (gV : List V → List V → List V) : Prop where
  ok : ∃ (f : Addr) (fd : FuncData) (ps : List Str) (g : List Value → List Value → List Value), PySem.W.findCls K (.ref (He.ga K x)) (.type "type") m = some (.val (.ref f)) ∧ PySem.W.handedIn (.ref f) = true ∧ PySem.W.keepIn K (.ref f) = true ∧ FnG P w K mg base CX k f fd ps sp ∧ KBn K fd ps n [] g gV
  rd : PySem.W.readsIn K (He.ga K x) (.type "type") = true
  sp_ : PySem.W.specialIn K (.ref (He.ga K x)) "__getattribute__" = some (some (.builtin "type.__getattribute__"))
  at_ : mg x = some (.ref (He.ga K x))
theorem pe_clsfn {X : Cx} {CX : CXT} {k k' n : Nat} {sp : Sp} {gV : List V → List V → List V} {E : XK} {x m : Str} {e : Expr} {es : List Expr} {ta : TA} {p1 p2 pos : Pos} {pl : Sem Bool} (c : ClsFnOk X.prog X.w X.K X.mg X.base CX k x m n sp gV) (hr : Room k' X.A) (hk : k ≤ k') (hgu : X.A.guards = some []) (hx : Passes CX X E) (hg : Gl X x) (ha : PA X (e :: es) ta)
    (hc : eval (.Call (.Attribute (.Name x p1) m p2) (e :: es) [] pos) X.env = (do
      let ov ← eval (.Name x p1) X.env
      standAt p2.atName
      let (f, first) ← holding [ov] (getMethod ov m pl)
      callWith pos f first (backTo pos (starEach (e :: es) X.env)) (backToKw pos (keywordEach [] X.env))) := by rfl)
    (hdb : (x == ("__debug__" : Str)) = false := by decide) (he : starEach (e :: es) X.env = (false, eval e X.env) :: starEach es X.env := by rfl) (hpl : ((backTo pos (starEach (e :: es) X.env)).any (·.1) || (backToKw pos (keywordEach [] X.env)).any (·.1.isNone)) = false := by rfl) :
    PE X (.Call (.Attribute (.Name x p1) m p2) (e :: es) [] pos) (tCl n 0 sp gV E ta tNil) := by
  obtain ⟨⟨f, fd, ps, g, fc, hh, kf, F, kb⟩, rd, sg, hm⟩ := c
  refine ⟨fun pins s σ H Q I h => ?_⟩
  refine PySem.W.methodCall_KW (ld_glob I hg hm ?_ hdb) hc
  refine PySem.W.method_cls I.kIn sg ?_
  refine PySem.W.cls_value I.kIn rd fc hh ?_
  refine PySem.W.callWith_KW (h₀ := X.base) I.ok.mod.kin kf (by rfl) (thn (ha.run pos pins _ σ H _ (I.tok _) h) ?_) hpl he
  rintro us s1 ⟨vs, H1, I1, r, q⟩
  refine thn (pk_nil.run pos pins s1 σ H1 _ I1 q) ?_
  rintro ws s2 ⟨zs, H2, I2, rz, l1, l2, q2⟩
  refine ⟨I2.kIn, ?_⟩
  exact run_gn (ks := []) F (hr.mono hk) hgu kb hx I2 r rz l1 l2 q2
end Bz
namespace Bz
open PySem PySem.Spec PyProof.Rows L2
/-! ### what the head tells of own error classes -/
def oexGB (K : PySem.W.Frag) (C : Addr) : Bool := match K.lookup C with
  | some ⟨.type c, _, .cls cd, sl⟩ => decide (c = "type") && (match cd.mro, sl.toList with
    | .ref C' :: bm, [_, _, _, _, some (.builtin n), _] => decide (C' = C) && (cd.hasDict && (!cd.hasDel && xbL.any fun p => decide (p.1 = n) && (dropRefs bm == p.2)))
    | _, _ => false)
  | _ => false
theorem oexGB_ok {K : PySem.W.Frag} {C : Addr} (h : oexGB K C = true) : ∃ newId tl nm q N bs bm sn sub ab col dd k0 k1 k2 k3 k5, XBase newId tl ∧ K.lookup C = some (excClassObj nm q C N bs bm true sn sub ab col dd k0 k1 k2 k3 k5 newId) ∧ dropRefs bm = tl := by
  unfold oexGB at h
  split at h
  · rename_i c dd cd sl ho
    rw [Bool.and_eq_true] at h
    obtain ⟨hc, h⟩ := h
    have hc := of_decide_eq_true hc
    split at h
    · rename_i C' bm k0 k1 k2 k3 n k5 hm hs
      simp only [Bool.and_eq_true, Bool.not_eq_true'] at h
      obtain ⟨e1, e3, e4, e5⟩ := h
      have e1 := of_decide_eq_true e1
      obtain ⟨p, hp, e6⟩ := List.any_eq_true.mp e5
      rw [Bool.and_eq_true] at e6
      have e7 := of_decide_eq_true e6.1
      have e8 := beq_iff_eq.mp e6.2
      obtain ⟨nm, bs, mro, ns, qn, hd, sn, sb, ab, col, dl⟩ := cd
      dsimp only at hm e3 e4
      subst hm e3 e4 e1 hc
      have es : sl = #[k0, k1, k2, k3, some (.builtin n), k5] := by
        apply Array.toList_inj.mp
        rw [hs]
      subst es
      have hx : XBase n (dropRefs bm) := by
        rw [e8, ← e7]
        exact xb_of hp
      exact ⟨_, _, _, _, _, _, _, _, _, _, _, _, _, _, _, _, _, hx, ho, rfl⟩
    · cases h
  · cases h
structure ErrOk (K : PySem.W.Frag) (C : Str) (fl : List Str) : Prop where
  ox : OexG K (He.ga K C)
  ex : ExcC K (He.ga K C)
  nf : ∀ f ∈ fl, PySem.W.findIn K (.ref (He.ga K C)) f = some none
  ini : PySem.W.findIn K (.ref (He.ga K C)) "__init__" = some (some (.ref (He.ma K (He.ga K C) "__init__")))
  ty : PySem.W.typeIn K (.ref (He.ma K (He.ga K C) "__init__")) = some (.type "function")
def errOkB (K : PySem.W.Frag) (C : Str) (fl : List Str) : Bool :=
  oexGB K (He.ga K C) && (He.eqO (PySem.W.findIn K (.ref (He.ga K C)) "__setattr__") (some (some (.builtin "object.__setattr__"))) && (decide (PySem.W.subIn K (.ref (He.ga K C)) (.type "BaseException") = some true) && (decide (PySem.W.typeIn K (.ref (He.ga K C)) = some (.type "type")) && (PySem.W.keepIn K (.ref (He.ga K C)) &&
  (excB K (He.ga K C) && (fl.all (fun f => He.eqO (PySem.W.findIn K (.ref (He.ga K C)) f) (some none)) && (He.eqO (PySem.W.findIn K (.ref (He.ga K C)) "__init__") (some (some (.ref (He.ma K (He.ga K C) "__init__")))) && decide (PySem.W.typeIn K (.ref (He.ma K (He.ga K C) "__init__")) = some (.type "function")))))))))
theorem errOkB_ok {K : PySem.W.Frag} {C : Str} {fl : List Str} (h : errOkB K C fl = true) : ErrOk K C fl := by
  unfold errOkB at h
  simp only [Bool.and_eq_true] at h
  obtain ⟨a1, a2, a3, a4, a5, a6, a7, a8, a9⟩ := h
  exact ⟨⟨oexGB_ok a1, He.eqO_ok a2, of_decide_eq_true a3, of_decide_eq_true a4, a5⟩, excB_ok a6, fun f hf => He.eqO_ok (List.all_eq_true.mp a7 f hf), He.eqO_ok a8, of_decide_eq_true a9⟩
/-- an own class's plain def, told by the class -/
structure ClsFnF (K : PySem.W.Frag) (x m : Str) : Prop where
  f : PySem.W.findCls K (.ref (He.ga K x)) (.type "type") m = some (.val (.ref (He.ma K (He.ga K x) m)))
  h : PySem.W.handedIn (.ref (He.ma K (He.ga K x) m)) = true
  k : PySem.W.keepIn K (.ref (He.ma K (He.ga K x) m)) = true
  rd : PySem.W.readsIn K (He.ga K x) (.type "type") = true
  sp_ : PySem.W.specialIn K (.ref (He.ga K x)) "__getattribute__" = some (some (.builtin "type.__getattribute__"))
def clsFnB (K : PySem.W.Frag) (x m : Str) : Bool := (match PySem.W.findCls K (.ref (He.ga K x)) (.type "type") m with
  | some (.val (.ref f)) => decide (f = He.ma K (He.ga K x) m)
  | _ => false) && (PySem.W.handedIn (.ref (He.ma K (He.ga K x) m)) && (PySem.W.keepIn K (.ref (He.ma K (He.ga K x) m)) && (PySem.W.readsIn K (He.ga K x) (.type "type") && He.eqO (PySem.W.specialIn K (.ref (He.ga K x)) "__getattribute__") (some (some (.builtin "type.__getattribute__"))))))
theorem clsFnB_ok {K : PySem.W.Frag} {x m : Str} (h : clsFnB K x m = true) : ClsFnF K x m := by
  unfold clsFnB at h
  simp only [Bool.and_eq_true] at h
  obtain ⟨a1, a2, a3, a4, a5⟩ := h
  refine ⟨?_, a2, a3, a4, He.eqO_ok a5⟩
  split at a1
  · rename_i f e
    rw [e, of_decide_eq_true a1]
  · cases a1
/-- of which classes an error is -/
structure KitOk (K : PySem.W.Frag) (C : Str) (own : List (Str × Bool)) (tys : List (String × Bool)) : Prop where
  o : ∀ p ∈ own, PySem.W.kitOne K (.ref (He.ga K C)) (.ref (He.ga K p.1)) = some p.2
  t : ∀ p ∈ tys, PySem.W.kitOne K (.ref (He.ga K C)) (.type p.1) = some p.2
def kitB (K : PySem.W.Frag) (C : Str) (own : List (Str × Bool)) (tys : List (String × Bool)) : Bool :=
  own.all (fun p => decide (PySem.W.kitOne K (.ref (He.ga K C)) (.ref (He.ga K p.1)) = some p.2)) && tys.all (fun p => decide (PySem.W.kitOne K (.ref (He.ga K C)) (.type p.1) = some p.2))
theorem kitB_ok {K : PySem.W.Frag} {C : Str} {own : List (Str × Bool)} {tys : List (String × Bool)} (h : kitB K C own tys = true) : KitOk K C own tys := by
  unfold kitB at h
  rw [Bool.and_eq_true] at h
  exact ⟨fun p hp => of_decide_eq_true (List.all_eq_true.mp h.1 p hp), fun p hp => of_decide_eq_true (List.all_eq_true.mp h.2 p hp)⟩
end Bz
namespace Bz
open PySem PySem.Spec PyProof.Rows L2
/-! ### the law's heap: the script, and empty tables that are owned -/
theorem is_tables {K : PySem.W.Frag} {H : Hp} {a : Addr} {xs : List V} (Ts : List Addr) (hN : Ts.Nodup) (ht : ∀ p ∈ Ts, H p = some (.tbl #[])) (na : a ∉ Ts) (h : SqL K H a xs) :
    ∃ B : Hp, Is B [] (Ts.map fun p => (p, HO.tbl #[])) H ∧ SqL K B a xs := by
  refine ⟨fun b => if b ∈ Ts then none else H b, ⟨fun b o e => ?_, fun p hp => ?_, ?_⟩, ?_⟩
  · have e : (if b ∈ Ts then none else H b) = some o := e
    split at e
    · cases e
    · exact e
  · rw [List.append_nil] at hp
    obtain ⟨q, hq, rfl⟩ := List.mem_map.mp hp
    exact ⟨ht q hq, if_pos hq⟩
  · rw [List.append_nil, List.map_map]
    have : (Ts.map ((fun p : Addr × HO => p.1) ∘ fun p => (p, HO.tbl #[]))) = Ts := by
      induction Ts with
      | nil => rfl
      | cons x r ih =>
        rw [List.map_cons, ih (List.nodup_cons.mp hN).2 (fun p hp => ht p (List.mem_cons_of_mem _ hp)) (fun z => na (List.mem_cons_of_mem _ z))]
        rfl
    rw [this]
    exact hN
  · rcases h with (h | ⟨o, h⟩) | h
    · refine .inl (.inl ?_)
      show (if a ∈ Ts then none else H a) = _
      rw [if_neg na]
      exact h
    · refine .inl (.inr ⟨o, ?_⟩)
      show (if a ∈ Ts then none else H a) = _
      rw [if_neg na]
      exact h
    · exact .inr h
end Bz
namespace Bz
open PySem PySem.Spec PyProof.Rows L2
/-! ### BadValue, BadText, NoSuch, TooMany -/
structure ErrKit (K : PySem.W.Frag) : Prop where
  kv : KitOk K "BadValue" [("BadText", false), ("BadValue", true), ("NoSuch", false), ("TooMany", false)] [("ValueError", true), ("KeyError", false), ("OverflowError", false)]
  kt : KitOk K "BadText" [("BadText", true), ("BadValue", true), ("NoSuch", false), ("TooMany", false)] [("ValueError", true), ("KeyError", false), ("OverflowError", false)]
  kn : KitOk K "NoSuch" [("BadText", false), ("BadValue", false), ("NoSuch", true), ("TooMany", false)] [("ValueError", false), ("KeyError", true), ("OverflowError", false)]
  km : KitOk K "TooMany" [("BadText", false), ("BadValue", false), ("NoSuch", false), ("TooMany", true)] [("ValueError", false), ("KeyError", false), ("OverflowError", true)]
  mm : ∀ c ∈ ([("BadValue" : Str), "BadText", "NoSuch", "TooMany"] : List Str), PySem.W.exmAny K (.ref (He.ga K c)) [.ref (He.ga K "BadValue"), .ref (He.ga K "NoSuch"), .ref (He.ga K "TooMany")] = some true
def errKitB (K : PySem.W.Frag) : Bool :=
  kitB K "BadValue" [("BadText", false), ("BadValue", true), ("NoSuch", false), ("TooMany", false)] [("ValueError", true), ("KeyError", false), ("OverflowError", false)] &&
  (kitB K "BadText" [("BadText", true), ("BadValue", true), ("NoSuch", false), ("TooMany", false)] [("ValueError", true), ("KeyError", false), ("OverflowError", false)] &&
  (kitB K "NoSuch" [("BadText", false), ("BadValue", false), ("NoSuch", true), ("TooMany", false)] [("ValueError", false), ("KeyError", true), ("OverflowError", false)] &&
  (kitB K "TooMany" [("BadText", false), ("BadValue", false), ("NoSuch", false), ("TooMany", true)] [("ValueError", false), ("KeyError", false), ("OverflowError", true)] &&
  ([("BadValue" : Str), "BadText", "NoSuch", "TooMany"] : List Str).all fun c => decide (PySem.W.exmAny K (.ref (He.ga K c)) [.ref (He.ga K "BadValue"), .ref (He.ga K "NoSuch"), .ref (He.ga K "TooMany")] = some true))))
theorem errKitB_ok {K : PySem.W.Frag} (h : errKitB K = true) : ErrKit K := by
  unfold errKitB at h
  simp only [Bool.and_eq_true] at h
  obtain ⟨a1, a2, a3, a4, a5⟩ := h
  exact ⟨kitB_ok a1, kitB_ok a2, kitB_ok a3, kitB_ok a4, fun c hc => of_decide_eq_true (List.all_eq_true.mp a5 c hc)⟩
structure ErrC (K : PySem.W.Frag) : Prop where
  bv : ErrOk K "BadValue" ["what"]
  bt : ErrOk K "BadText" ["what", "row", "word"]
  ns : ErrOk K "NoSuch" ["what", "name"]
  tm : ErrOk K "TooMany" ["most"]
  kit : ErrKit K
/-- an error's class, its fields, what is told of it -/
inductive ErrT : Str → List (Str × V) → List V → Prop
  | val (x : V) : ErrT "BadValue" [("what", x)] [.str "value", x]
  | text (r w : V) : ErrT "BadText" [("word", w), ("row", r), ("what", .str "text")] [.str "text", r, w]
  | no (x y : V) : ErrT "NoSuch" [("name", y), ("what", x)] [.str "no", x, y]
  | many (x : V) : ErrT "TooMany" [("most", x)] [.str "many", x]
theorem ErrT.len {X : Str} {fs : List (Str × V)} {ws : List V} (h : ErrT X fs ws) : ws.length ≤ 3 := by
  cases h <;> simp
theorem ErrT.ex {K : PySem.W.Frag} (C : ErrC K) {X : Str} {fs : List (Str × V)} {ws : List V} (h : ErrT X fs ws) : ExcC K (He.ga K X) := by
  cases h
  · exact C.bv.ex
  · exact C.bt.ex
  · exact C.ns.ex
  · exact C.tm.ex
theorem ErrT.mm {K : PySem.W.Frag} (C : ErrC K) {X : Str} {fs : List (Str × V)} {ws : List V} (h : ErrT X fs ws) : PySem.W.exmAny K (.ref (He.ga K X)) [.ref (He.ga K "BadValue"), .ref (He.ga K "NoSuch"), .ref (He.ga K "TooMany")] = some true := by
  refine C.kit.mm X ?_
  simp only [List.mem_cons]
  cases h <;> simp
end Bz
namespace Bz
open PySem PySem.Spec PyProof.Rows L2
/-! ### repr(x) of an instance with an own __repr__ -/
section
variable {X : Cx} {CX : CXT} {C : Addr} {k : Nat} {sp : Sp} {E : XK} {gV : List V → List V → List V}
def rReprOwn (C : Addr) (sp : Sp) (gV : List V → List V → List V) (E : XK) : List V → Hp → VK → Prop := fun xs H Q => ∃ a dx fs, xs = [.ref a] ∧ H a = some (.ins C dx fs) ∧ sp (gV [.ref a] []) H (fun v H' => ∃ z : Str, v = .str z ∧ Q (.str z) H') E
theorem cl_reprOwn (c : MethOk X.prog X.w X.K X.mg X.base CX k C "__repr__" 0 [] sp gV) {k' : Nat} (hr : Room (k' + 1) X.A) (hk : k ≤ k') (hg : X.A.guards = some []) (hx : Passes CX X E) : CallR X (.builtin "repr") (rReprOwn C sp gV E) := by
  obtain ⟨⟨f, fd, ps, g, hm, G, kb⟩, cl⟩ := c
  intro pins s σ H xs us Q I r h
  obtain ⟨a, dx, fs, rfl, ha, q⟩ := h
  rw [Vals.ref1 r]
  obtain ⟨mA, O, _⟩ := ins_get I.hok ha
  obtain ⟨od, J, _⟩ := O.look
  obtain ⟨m, hF⟩ := I.fr
  refine PySem.W.repr_K (Room.in1 hr).units0 hF I.ok.mod.kin J hm.at_ hm.fn (wpAny_mono (run_gA (A := X.A.in1) (us := [.ref a]) (vs := [.ref a]) G ((Room.in1 hr).mono hk) hg I.env0.in1 kb hx I (.cons rfl .nil) rfl q) (fun w s' z => ?_) fun e s' z => z)
  obtain ⟨z', H', I', rz, zs, ez, qz⟩ := z
  subst ez
  obtain ⟨t, e⟩ := (show ∃ t, w = Value.str zs t from rz)
  subst e
  exact ⟨.str zs, H', I', ⟨_, rfl⟩, qz⟩
theorem g_reprOwn {sp : Sp} {gV : List V → List V → List V} {C a dx : Addr} {fs : List (Str × V)} {H : Hp} {Q : VK} (h : H a = some (.ins C dx fs)) (q : sp (gV [.ref a] []) H (fun v H' => ∃ z : Str, v = .str z ∧ Q (.str z) H') E0) : rReprOwn C sp gV E0 [.ref a] H Q := ⟨a, dx, fs, rfl, h, q⟩
end
/-! ### xs.reverse() -/
theorem g_rev {B H : Hp} {M L L' : List (Addr × HO)} {Q : VK} {l : Addr} {xs : List V} (I : Is B M L H) (hl : H l = some (.lst xs)) (u : Put l (.lst xs.reverse) L L') (q : ∀ H', Is B M L' H' → Q .non H') : rReverse (.ref l) [] H Q :=
  ⟨l, xs, rfl, rfl, hl, q _ (I.put u)⟩
end Bz
namespace Bz
open PySem PySem.Spec PyProof.Rows L2
/-! ### the head, where a class is asked for a name of its own: what the interpreter keeps beside the program is looked at too -/
def asS (g : Addr → Option Obj) (n : Nat) : List Addr := asE g n ++ [cStatics]
def hookBS (n : Nat) (fa : List He.Fa) (fn : List He.DefD) (ts : List He.Tab) (bs : List Ask) (tf : List He.Defn) : PySem.W.Hook where
  α := AlB × Bool
  obs := fun s => obsBT fa fn ts bs tf s.heap.get? (He.frT s.heap.get? (asS s.heap.get? n))
  val := fun w => (valB fn ts w, true)
  says := fun w h => ∃ K : PySem.W.Frag, K.In h ∧ SaysB fa fn ts bs w K ∧ (∀ p ∈ tf, PySem.W.codeHdIn K (He.cT K p).1 (He.cT K p).2 = true) ∧ (∀ p ∈ tf, K.lookup (He.cT K p).2 = none) ∧ ∀ p ∈ tf, h.get? (He.cT K p).2 = some { cls := .none, data := .fields #[] }
  of := fun w s e => by
    have e1 : obsB fa fn ts bs (He.frT s.heap.get? (asS s.heap.get? n)) = valB fn ts w := congrArg (fun z : AlB × Bool => z.1) e
    have e2 : He.tabsB s.heap.get? tf (He.frT s.heap.get? (asS s.heap.get? n)) = true := congrArg (fun z : AlB × Bool => z.2) e
    have key : ∀ p ∈ tf, PySem.W.codeHdIn (He.frT s.heap.get? (asS s.heap.get? n)) (He.cT (He.frT s.heap.get? (asS s.heap.get? n)) p).1 (He.cT (He.frT s.heap.get? (asS s.heap.get? n)) p).2 = true ∧ ∃ o, s.heap.get? (He.cT (He.frT s.heap.get? (asS s.heap.get? n)) p).2 = some o ∧ He.emptyTab o = true := fun p hp => by
      have h := List.all_eq_true.mp e2 p hp
      simp only [Bool.and_eq_true] at h
      obtain ⟨h3, h4⟩ := h
      refine ⟨h3, ?_⟩
      cases q : s.heap.get? (He.cT (He.frT s.heap.get? (asS s.heap.get? n)) p).2 with
      | none =>
        rw [q] at h4
        cases h4
      | some o =>
        rw [q] at h4
        exact ⟨o, rfl, h4⟩
    exact ⟨_, He.frT_in, e1, fun p hp => (key p hp).1, fun p hp => by
      obtain ⟨_, o, q, z⟩ := key p hp
      exact He.frT_none q z, fun p hp => by
      obtain ⟨_, o, q, z⟩ := key p hp
      rw [q, He.emptyTab_eq z]⟩
  keeps := fun _ _ _ ⟨K, hK, c, h1, h2, h3⟩ k => ⟨K, PySem.W.Frag.In.keeps hK k, c, h1, h2, fun p hp => k _ _ (h3 p hp)⟩
theorem obsBS_eq {n : Nat} {fa : List He.Fa} {fn : List He.DefD} {ts : List He.Tab} {bs : List Ask} {tf : List He.Defn} {g : Addr → Option Obj} {s : Shared} (h : ∀ a, g a = s.heap.get? a) : obsBT fa fn ts bs tf g (He.frT g (asS g n)) = (hookBS n fa fn ts bs tf).obs s := by
  have e : g = s.heap.get? := funext h
  rw [e] <;> rfl
end Bz
namespace Bz
open PySem PySem.Spec PyProof.Rows L2
/-! ### an error made, as a value -/
def tXval (t : St → Hp → XK → Prop) : TE := fun σ H Q => t σ H fun cls d H' => ∀ a, H' a = none → Q (.ref a) (upd H' a (exv a cls d))
theorem pe_xval {X : Cx} {e : Expr} {t : St → Hp → XK → Prop} (he : PMk X e t) : PE X e (tXval t) := by
  refine ⟨fun pins s σ H Q I h => ?_⟩
  refine wpAny_mono (he pins s σ H _ I h) (fun u s' hu => ?_) fun _ _ x => x
  obtain ⟨a, oe, vs, sI, H', cls, d, rfl, J, k, hne, ha, hz, hd, h1, na, os, ag, r, q⟩ := hu
  have L : Inv X pins σ (upd H' a (exv a cls d)) { sI with heap := s'.heap, toks := s'.toks } := J.laidN k hne na (exv_ok ha hz hd)
  obtain ⟨h', g', d', t', o'⟩ := s'
  exact ⟨.ref a, upd H' a (exv a cls d), ⟨L.ok, os.trans L.os, ag, L.base, L.loc, L.cell, L.free, L.freeC, L.pin, L.hok, L.len⟩, rfl, q a na⟩
end Bz
namespace Bz
open PySem PySem.Spec PyProof.Rows L2
/-- of which further classes they are -/
structure ErrKit2 (K : PySem.W.Frag) : Prop where
  kv : KitOk K "BadValue" [] [("LookupError", false), ("IndexError", false), ("RuntimeError", false), ("ZeroDivisionError", false)]
  kt : KitOk K "BadText" [] [("LookupError", false), ("IndexError", false), ("RuntimeError", false), ("ZeroDivisionError", false)]
  kn : KitOk K "NoSuch" [] [("LookupError", true), ("IndexError", false), ("RuntimeError", false), ("ZeroDivisionError", false)]
  km : KitOk K "TooMany" [] [("LookupError", false), ("IndexError", false), ("RuntimeError", false), ("ZeroDivisionError", false)]
def errKit2B (K : PySem.W.Frag) : Bool :=
  kitB K "BadValue" [] [("LookupError", false), ("IndexError", false), ("RuntimeError", false), ("ZeroDivisionError", false)] && (kitB K "BadText" [] [("LookupError", false), ("IndexError", false), ("RuntimeError", false), ("ZeroDivisionError", false)] && (kitB K "NoSuch" [] [("LookupError", true), ("IndexError", false), ("RuntimeError", false), ("ZeroDivisionError", false)] && kitB K "TooMany" [] [("LookupError", false), ("IndexError", false), ("RuntimeError", false), ("ZeroDivisionError", false)]))
theorem errKit2B_ok {K : PySem.W.Frag} (h : errKit2B K = true) : ErrKit2 K := by
  unfold errKit2B at h
  simp only [Bool.and_eq_true] at h
  obtain ⟨a1, a2, a3, a4⟩ := h
  exact ⟨kitB_ok a1, kitB_ok a2, kitB_ok a3, kitB_ok a4⟩
end Bz
namespace Bz
open PySem PySem.Spec PyProof.Rows L2
def topS (i : Nat) : Stmt := PySem.Challenge.pw_bindbench_k03_families_of_refusals.main.body.getD i (.Pass ⟨0, 0, 0, 0⟩)
def dd_BadValue_init : He.DefD := ⟨("BadValue", some "__init__"), "__init__", "BadValue.__init__", defArgs (inClass (topS 2) 0), defBody (inClass (topS 2) 0), defScope (inClass (topS 2) 0), [], []⟩
def dd_BadText_init : He.DefD := ⟨("BadText", some "__init__"), "__init__", "BadText.__init__", defArgs (inClass (topS 3) 0), defBody (inClass (topS 3) 0), defScope (inClass (topS 3) 0), [], []⟩
def dd_NoSuch_init : He.DefD := ⟨("NoSuch", some "__init__"), "__init__", "NoSuch.__init__", defArgs (inClass (topS 4) 0), defBody (inClass (topS 4) 0), defScope (inClass (topS 4) 0), [], []⟩
def dd_TooMany_init : He.DefD := ⟨("TooMany", some "__init__"), "__init__", "TooMany.__init__", defArgs (inClass (topS 5) 0), defBody (inClass (topS 5) 0), defScope (inClass (topS 5) 0), [], []⟩
def dd_is_whole : He.DefD := ⟨("is_whole", none), "is_whole", "is_whole", defArgs (topS 14), defBody (topS 14), defScope (topS 14), [.int 1000000], []⟩
def dd_is_name : He.DefD := ⟨("is_name", none), "is_name", "is_name", defArgs (topS 15), defBody (topS 15), defScope (topS 15), [], []⟩
def dd_kind_of : He.DefD := ⟨("kind_of", none), "kind_of", "kind_of", defArgs (topS 16), defBody (topS 16), defScope (topS 16), [], []⟩
def dd_is_step : He.DefD := ⟨("is_step", none), "is_step", "is_step", defArgs (topS 17), defBody (topS 17), defScope (topS 17), [], []⟩
def dd_number_of : He.DefD := ⟨("number_of", none), "number_of", "number_of", defArgs (topS 18), defBody (topS 18), defScope (topS 18), [], []⟩
def dd_words_of : He.DefD := ⟨("words_of", none), "words_of", "words_of", defArgs (topS 19), defBody (topS 19), defScope (topS 19), [], []⟩
def dd_are_steps : He.DefD := ⟨("are_steps", none), "are_steps", "are_steps", defArgs (topS 22), defBody (topS 22), defScope (topS 22), [], []⟩
def dd_Style_init : He.DefD := ⟨("Style", some "__init__"), "__init__", "Style.__init__", defArgs (inClass (topS 23) 0), defBody (inClass (topS 23) 0), defScope (inClass (topS 23) 0), [], []⟩
def dd_Style_step : He.DefD := ⟨("Style", some "step"), "step", "Style.step", defArgs (inClass (topS 23) 3), defBody (inClass (topS 23) 3), defScope (inClass (topS 23) 3), [], []⟩
def dd_Style_put_in : He.DefD := ⟨("Style", some "put_in"), "put_in", "Style.put_in", defArgs (inClass (topS 23) 6), defBody (inClass (topS 23) 6), defScope (inClass (topS 23) 6), [.non], []⟩
def dd_Line_init : He.DefD := ⟨("Line", some "__init__"), "__init__", "Line.__init__", defArgs (inClass (topS 25) 0), defBody (inClass (topS 25) 0), defScope (inClass (topS 25) 0), [], []⟩
def dd_Line_ahead : He.DefD := ⟨("Line", some "ahead"), "ahead", "Line.ahead", defArgs (inClass (topS 25) 1), defBody (inClass (topS 25) 1), defScope (inClass (topS 25) 1), [], []⟩
def dd_Line_take : He.DefD := ⟨("Line", some "take"), "take", "Line.take", defArgs (inClass (topS 25) 2), defBody (inClass (topS 25) 2), defScope (inClass (topS 25) 2), [], []⟩
def dd_Line_take_word : He.DefD := ⟨("Line", some "take_word"), "take_word", "Line.take_word", defArgs (inClass (topS 25) 3), defBody (inClass (topS 25) 3), defScope (inClass (topS 25) 3), [], []⟩
def dd_Line_take_name : He.DefD := ⟨("Line", some "take_name"), "take_name", "Line.take_name", defArgs (inClass (topS 25) 4), defBody (inClass (topS 25) 4), defScope (inClass (topS 25) 4), [], []⟩
def dd_Line_take_number : He.DefD := ⟨("Line", some "take_number"), "take_number", "Line.take_number", defArgs (inClass (topS 25) 5), defBody (inClass (topS 25) 5), defScope (inClass (topS 25) 5), [], []⟩
def dd_Line_over : He.DefD := ⟨("Line", some "over"), "over", "Line.over", defArgs (inClass (topS 25) 6), defBody (inClass (topS 25) 6), defScope (inClass (topS 25) 6), [], []⟩
def dd_rows_of : He.DefD := ⟨("rows_of", none), "rows_of", "rows_of", defArgs (topS 26), defBody (topS 26), defScope (topS 26), [], []⟩
def dd_read_style : He.DefD := ⟨("read_style", none), "read_style", "read_style", defArgs (topS 27), defBody (topS 27), defScope (topS 27), [], []⟩
def dd_law_mixed : He.DefD := ⟨("_law_mixed", none), "_law_mixed", "_law_mixed", defArgs (topS 29), defBody (topS 29), defScope (topS 29), [], []⟩
def dd_law_folded : He.DefD := ⟨("_law_folded", none), "_law_folded", "_law_folded", defArgs (topS 30), defBody (topS 30), defScope (topS 30), [], []⟩
def dd_law_draw : He.DefD := ⟨("_law_draw", none), "_law_draw", "_law_draw", defArgs (topS 31), defBody (topS 31), defScope (topS 31), [], []⟩
def dd_law_begun : He.DefD := ⟨("_law_begun", none), "_law_begun", "_law_begun", defArgs (topS 32), defBody (topS 32), defScope (topS 32), [], []⟩
def dd_law_called : He.DefD := ⟨("_law_called", none), "_law_called", "_law_called", defArgs (topS 33), defBody (topS 33), defScope (topS 33), [], []⟩
def dd_law_caught : He.DefD := ⟨("_law_caught", none), "_law_caught", "_law_caught", defArgs (topS 34), defBody (topS 34), defScope (topS 34), [], []⟩
def dd_law_families : He.DefD := ⟨("_law_families", none), "_law_families", "_law_families", defArgs (topS 35), defBody (topS 35), defScope (topS 35), [], []⟩
def dd_law : He.DefD := ⟨("law", none), "law", "law", defArgs (topS 36), defBody (topS 36), defScope (topS 36), [], []⟩
def fnL : List He.DefD := [dd_BadValue_init, dd_BadText_init, dd_NoSuch_init, dd_TooMany_init, dd_is_whole, dd_is_name, dd_kind_of, dd_is_step, dd_number_of, dd_words_of, dd_are_steps, dd_Style_init, dd_Style_step, dd_Style_put_in, dd_Line_init, dd_Line_ahead, dd_Line_take, dd_Line_take_word, dd_Line_take_name, dd_Line_take_number, dd_Line_over, dd_rows_of, dd_read_style, dd_law_mixed, dd_law_folded, dd_law_draw, dd_law_begun, dd_law_called, dd_law_caught, dd_law_families, dd_law]
def faL : List He.Fa := [.int "MOST_LETTERS" 8, .int "MOST_FIGURES" 7, .int "MOST_HOURS" 240, .int "MOST_STEPS" 12, .str "LETTERS" "abcdefghijklmnopqrstuvwxyz", .str "FIGURES" "0123456789", .glo "BARRED_WORDS", .glo "KINDS", .free "IndexError", .free "KeyError", .free "LookupError", .free "OverflowError", .free "RuntimeError", .free "ValueError", .free "ZeroDivisionError", .free "all", .free "bool", .free "enumerate", .free "int", .free "isinstance", .free "len", .free "list", .free "range", .free "repr", .free "str", .free "tuple", .glo "Style", .cls "Style", .mkr "Style", .noat "Style" "called", .noat "Style" "step_rows", .glo "Line", .cls "Line", .mkr "Line", .noat "Line" "left_words", .noat "Line" "on_row", .noat "Line" "taken", .glo "BadValue", .glo "BadText", .glo "NoSuch", .glo "TooMany", .glo "is_whole", .glo "is_name", .glo "kind_of", .glo "is_step", .glo "number_of", .glo "words_of", .glo "are_steps", .meth "Style" "step", .meth "Style" "put_in", .meth "Line" "ahead", .meth "Line" "take", .meth "Line" "take_word", .meth "Line" "take_name", .meth "Line" "take_number", .meth "Line" "over", .glo "rows_of", .glo "read_style", .glo "_law_mixed", .glo "_law_folded", .glo "_law_draw", .glo "_law_begun", .glo "_law_called", .glo "_law_caught", .glo "_law_families", .glo "law"]
def tsL : List He.Tab := [(fun K => He.ga K "KINDS", ["sew", "glue", "cover", "letter", "press"])]
def bsL : List Ask := [fun K => He.tupB K "BARRED_WORDS" [.str "style", .str "job", .str "round", .str "sew", .str "glue", .str "cover", .str "letter", .str "press", .str "hand", .str "haste"], fun K => He.valsB K (He.ga K "KINDS") (([("sew", "hand"), ("glue", "hand"), ("cover", "hand"), ("letter", "hand"), ("press", "press")] : List (Str × Str)).map fun q => (q.1, He.Dv.str q.2)), fun K => errOkB K "BadValue" ["what"], fun K => errOkB K "BadText" ["what", "row", "word"], fun K => errOkB K "NoSuch" ["what", "name"], fun K => errOkB K "TooMany" ["most"], fun K => clsFnB K "BadValue" "__init__", fun K => errKitB K, fun K => decide (([(("law" : Str), (none : Option Str))].map fun p => (He.cT K p).2).Nodup), fun K => errKit2B K]
abbrev RR : PySem.W.OpenRow := PySem.W.OpenLaw.row PySem.Challenge.rw_bindbench_k03_families_of_refusals
def tfL : List He.Defn := [(("law" : Str), (none : Option Str))]
abbrev hkL : PySem.W.Hook := hookBS 5 faL fnL tsL bsL tfL
def obL (s : PySem.W.SharedT) : AlB × Bool := obsBT faL fnL tsL bsL tfL (HandSHeadRun.getT s) (He.frT (HandSHeadRun.getT s) (asS (HandSHeadRun.getT s) 5))
theorem obL_eq (s : PySem.W.SharedT) : obL s = hkL.obs s.abs := obsBS_eq (HandSHeadRun.getT_eq s)
def looseL : List Str := (["_wall", "BadValue", "BadText", "NoSuch", "TooMany", "LETTERS", "FIGURES", "MOST_LETTERS", "MOST_FIGURES", "MOST_HOURS", "KINDS", "BARRED_WORDS", "is_whole", "is_name", "kind_of", "is_step", "number_of", "words_of", "MOST_STEPS", "are_steps", "Style", "Line", "rows_of", "read_style", "_law_mixed", "_law_folded", "_law_draw", "_law_begun", "_law_called", "_law_caught"] : List Str) ++ (["_law_families"] : List Str)
theorem runL_false (w : World) : HandSHeadRun.RunEq RR (PySem.W.view RR.prog [36]) hkL obL 8000 looseL (w.withFollow "special-get-raises" false) := by
  intro os
  kernel_rfl
theorem runL_true (w : World) : HandSHeadRun.RunEq RR (PySem.W.view RR.prog [36]) hkL obL 8000 looseL (w.withFollow "special-get-raises" true) := by
  intro os
  kernel_rfl
theorem runL (w : World) : HandSHeadRun.RunEq RR (PySem.W.view RR.prog [36]) hkL obL 8000 looseL w :=
  PySem.W.byRow2 "special-get-raises" (P := fun w => HandSHeadRun.RunEq RR (PySem.W.view RR.prog [36]) hkL obL 8000 looseL w) runL_false runL_true w
end Bz
namespace Bz
open PySem PySem.Spec PyProof.Rows L2
set_option maxRecDepth 1500
set_option hygiene false
local macro_rules | `(tactic| tm_at "at") => `(tactic| (first | exact At.z | (apply At.s; tm_at "at")))
local macro_rules | `(tactic| tm_at "set") => `(tactic| (first | exact SetAt.z | (apply SetAt.s; tm_at "set")))
local macro_rules | `(tactic| tm_at "wiped") => `(tactic| (first | exact Wiped.nil | (apply Wiped.cons; tm_at "wiped"; tm_at "set")))
local macro_rules | `(tactic| tm_at "mem") => `(tactic| (first | exact List.Mem.head _ | (apply List.Mem.tail; tm_at "mem")))
local macro_rules | `(tactic| tm_at "put") => `(tactic| (first | exact Put.here | (apply Put.there; tm_at "put")))
local macro_rules | `(tactic| tm_at "hp") => `(tactic| (first | assumption | (refine' Is.get ?i1 ?i2; (case i1 => assumption); (case i2 => tm_at "mem")) | (refine' Is.getM ?i1 ?i2; (case i1 => assumption); (case i2 => tm_at "mem")) | (refine' Is.b ?i1 ?i2; (case i1 => assumption); (case i2 => assumption))))
local macro_rules | `(tactic| tm_at "sq") => `(tactic| (first | assumption | (refine' SqL.of ?i1; (case i1 => tm_at "hp")) | (refine' Is.sq ?i1 ?i2; (case i1 => assumption); (case i2 => assumption))))
local macro_rules | `(tactic| tm_at "st") => `(tactic| (first | assumption | (refine' SqT.of ?i1; (case i1 => tm_at "hp")) | (refine' Is.st ?i1 ?i2; (case i1 => assumption); (case i2 => assumption))))
local macro_rules | `(tactic| tm_at "arith") => `(tactic| (first | omega | decide | (simp only [List.length_map]; omega) | (simp only [List.length_cons, List.length_nil, List.length_append, List.length_map, List.length_replicate, List.length_set] <;> omega) | (simp only [List.length_cons, List.length_nil, List.length_append, List.length_map, List.length_replicate, List.length_set] at * <;> omega)))
local macro_rules | `(tactic| tm_at "kne") => `(tactic| (first | assumption | decide +kernel))
local macro_rules | `(tactic| tm_at "kget") => `(tactic| (first | exact KGet.here | (apply KGet.there; tm_at "kne"; tm_at "kget")))
local macro_rules | `(tactic| tm_at "nokey") => `(tactic| (first | exact NoKey.nil | (apply NoKey.cons; tm_at "kne"; tm_at "nokey")))
local macro_rules | `(tactic| tm_at "kput") => `(tactic| (first | (apply KPut.here; tm_at "nokey"; done) | (apply KPut.there; tm_at "kne"; tm_at "kput")))
local macro_rules | `(tactic| tm_at "snoc") => `(tactic| (first | exact Snoc.nil | (apply Snoc.cons; tm_at "snoc")))
local macro_rules | `(tactic| tm_at "mrg") => `(tactic| (first | exact Mrg.nil | (apply Mrg.str; tm_at "nokey"; tm_at "snoc"; tm_at "mrg") | (apply Mrg.int; tm_at "nokey"; tm_at "snoc"; tm_at "mrg")))
local macro_rules | `(tactic| tm_at "del") => `(tactic| (first | exact Del.here | (apply Del.there; tm_at "del")))
local macro_rules | `(tactic| tm_at "slen") => `(tactic| (first | assumption | omega | (apply plainS.len; assumption) | decide +kernel))
local macro_rules | `(tactic| tm_at "fget") => `(tactic| (first | exact FGet.here | (apply FGet.there; (case _ => decide +kernel); tm_at "fget")))
local macro_rules | `(tactic| tm_at "nof") => `(tactic| (first | exact NoF.nil | (apply NoF.cons; (case _ => decide +kernel); tm_at "nof")))
local macro_rules | `(tactic| tm_at "fput") => `(tactic| (first | exact FPut.nil | exact FPut.here | (apply FPut.there; (case _ => decide +kernel); tm_at "fput")))
local macro_rules | `(tactic| tm_at "thing") => `(tactic| first | assumption | exact Thing.same (Is.ex (by assumption)) (by assumption))
local macro_rules | `(tactic| tm_at "go1") => `(tactic| first
  | with_reducible refine' g_seq ?_
  | with_reducible refine' g_op ?_
  | ((with_reducible refine' g_var ?h1 ?_); (case h1 => tm_at "at"))
  | with_reducible refine' g_c ?_
  | with_reducible refine' g_asg ?_
  | ((with_reducible refine' g_name ?h1 ?_); (case h1 => tm_at "set"))
  | with_reducible refine' g_cons ?_
  | with_reducible refine' g_nil ?_
  | with_reducible refine' g_cl ?_
  | with_reducible refine' g_cb ?_
  | with_reducible refine' g_add_i ?_
  | with_reducible refine' g_rI0 ?_
  | with_reducible refine' g_rU ?_
  | ((with_reducible refine' g_mul_i ?h1 ?_); (case h1 => (unfold CMul; omega)))
  | ((with_reducible refine' g_pow ?h1 ?h2 ?_); (case h1 => first | decide | (unfold CPow; omega)); (case h2 => (simp only [Int.reduceToNat, Int.reducePow]; exact rfl)))
  | ((with_reducible refine' g_rI ?h1 ?_); (case h1 => first | omega | (unfold CDiv; omega) | (unfold CPow; omega) | decide | (simp only [List.length_map, List.length_cons, List.length_append]; omega)))
  | with_reducible refine' g_ifS ?_
  | with_reducible refine' g_test ?_
  | with_reducible refine' g_bl ?_
  | with_reducible refine' g_tr ?_
  | with_reducible refine' g_tru_bl ?_
  | with_reducible refine' g_tru_non ?_
  | with_reducible refine' g_true ?_
  | with_reducible refine' g_false ?_
  | with_reducible refine' g_ntrue ?_
  | with_reducible refine' g_nfalse ?_
  | with_reducible refine' g_and ?_
  | with_reducible refine' g_or ?_
  | with_reducible refine' g_not ?_
  | with_reducible refine' g_andV ?_
  | with_reducible refine' g_orV ?_
  | with_reducible refine' g_ifV ?_
  | with_reducible refine' g_notV ?_
  | with_reducible refine' g_aNot ?_
  | with_reducible refine' g_ifE ?_
  | with_reducible refine' g_chain ?_
  | with_reducible refine' g_chain3 ?_
  | with_reducible refine' g_un ?_
  | with_reducible refine' g_ret ?_
  | with_reducible refine' g_retN ?_
  | with_reducible refine' g_drop ?_
  | with_reducible refine' g_next ?_
  | with_reducible refine' g_par ?_
  | ((with_reducible refine' g_par2 ?h1 ?h2 ?_); (case h1 => tm_at "set"); (case h2 => tm_at "set"))
  | with_reducible refine' g_lst ?_
  | with_reducible refine' g_tup ?_
  | with_reducible refine' g_isNo ?_
  | ((with_reducible refine' g_isiT ?h1 ?h2 ?h3 ?_); (case h1 => tm_at "thing"); (case h2 => decide); (case h3 => decide))
  | ((with_reducible refine' g_isiF ?h1 ?h2 ?h3 ?_); (case h1 => tm_at "thing"); (case h2 => decide); (case h3 => decide))
  | ((with_reducible refine' g_isi2T ?h0 ?h1 ?h2 ?h3 ?h4 ?_); (case h0 => tm_at "hp"); (case h1 => tm_at "thing"); (case h2 => decide); (case h3 => decide); (case h4 => decide))
  | ((with_reducible refine' g_isi2F ?h0 ?h1 ?h2 ?h3 ?h4 ?_); (case h0 => tm_at "hp"); (case h1 => tm_at "thing"); (case h2 => decide); (case h3 => decide); (case h4 => decide))
  | with_reducible refine' g_noNo ?_
  | ((with_reducible refine' g_eq_s ?h1 ?_); (case h1 => rfl))
  | ((with_reducible refine' g_ne_s ?h1 ?_); (case h1 => rfl))
  | with_reducible refine' g_in_c ?_
  | with_reducible refine' g_nin_c ?_
  | with_reducible refine' g_dget ?_
  | with_reducible refine' g_dput ?_
  | with_reducible refine' g_pnil ?_
  | with_reducible refine' g_pcons ?_
  | ((with_reducible refine' g_disp ?h1 ?_); (case h1 => assumption); clear hI; intro p H hI)
  | ((with_reducible refine' g_newK ?h1 ?_); (case h1 => assumption); clear hI; intro p H hI)
  | ((with_reducible refine' g_aDisp ?h0 ?h1 ?h2 ?h3 ?h4 ?_); (case h0 => assumption); (case h1 => tm_at "hp"); (case h2 => tm_at "mrg"); (case h3 => tm_at "arith"); (case h4 => tm_at "put"); clear hI; intro H hI)
  | ((with_reducible refine' g_aDGet ?h1 ?h2 ?_); (case h1 => tm_at "hp"); (case h2 => tm_at "kget"))
  | ((with_reducible refine' g_aDPut ?h0 ?h1 ?h2 ?h3 ?h4 ?_); (case h0 => assumption); (case h1 => tm_at "hp"); (case h2 => tm_at "arith"); (case h3 => tm_at "kput"); (case h4 => tm_at "put"); clear hI; intro H hI)
  | ((with_reducible refine' g_aDPutM ?h0 ?h1 ?h2 ?h3 ?h4 ?_); (case h0 => assumption); (case h1 => tm_at "hp"); (case h2 => tm_at "arith"); (case h3 => tm_at "kput"); (case h4 => tm_at "put"); clear hI; intro H hI)
  | ((with_reducible refine' g_setL ?h0 ?h1 ?h2 ?h3 ?h4 ?_); (case h0 => assumption); (case h1 => tm_at "hp"); (case h2 => tm_at "arith"); (case h3 => tm_at "arith"); (case h4 => tm_at "put"); clear hI; intro H hI)
  | ((with_reducible refine' g_setLM ?h0 ?h1 ?h2 ?h3 ?h4 ?_); (case h0 => assumption); (case h1 => tm_at "hp"); (case h2 => tm_at "arith"); (case h3 => tm_at "arith"); (case h4 => tm_at "put"); clear hI; intro H hI)
  | ((with_reducible refine' g_len_s ?h1 ?_); (case h1 => tm_at "slen"))
  | ((with_reducible refine' g_len_l ?h1 ?_); (case h1 => tm_at "sq"))
  | ((with_reducible refine' g_len_t ?h1 ?_); (case h1 => tm_at "st"))
  | ((with_reducible refine' g_app ?h0 ?h1 ?h2 ?h3 ?_); (case h0 => assumption); (case h1 => tm_at "hp"); (case h2 => tm_at "arith"); (case h3 => tm_at "put"); clear hI; intro H hI)
  | with_reducible refine' g_sub ?_
  | with_reducible refine' g_sl ?_
  | with_reducible refine' g_noPart ?_
  | with_reducible refine' g_part ?_
  | with_reducible refine' g_aPart ?_
  | with_reducible refine' g_bm ?_
  | with_reducible refine' g_bm0 ?_
  | with_reducible refine' g_m1 ?_
  | with_reducible refine' g_isStr ?_
  | with_reducible refine' mt_tyS ?_
  | ((with_reducible refine' g_tyL ?h1 ?_); (case h1 => tm_at "hp"))
  | with_reducible refine' g_lc ?_
  | with_reducible refine' g_for ?_
  | with_reducible refine' g_iAny ?_
  | with_reducible refine' g_rng1 ?_
  | with_reducible refine' g_rng2 ?_
  | with_reducible refine' g_enumA ?_
  | ((with_reducible refine' g_aEnumL ?h1 ?_); (case h1 => tm_at "sq"))
  | ((with_reducible refine' g_aEnumT ?h1 ?_); (case h1 => tm_at "st"))
  | with_reducible refine' g_zipA ?_
  | with_reducible refine' g_zip3 ?_
  | ((with_reducible refine' g_aZip3 ?h1 ?h2 ?h3 ?_); (case h1 => tm_at "sq"); (case h2 => tm_at "sq"); (case h3 => tm_at "sq"))
  | ((with_reducible refine' g_aZipL ?h1 ?h2 ?_); (case h1 => tm_at "sq"); (case h2 => tm_at "sq"))
  | ((with_reducible refine' g_aZipT ?h1 ?h2 ?_); (case h1 => tm_at "st"); (case h2 => tm_at "st"))
  | with_reducible refine' g_par3 ?_
  | ((with_reducible refine' g_par3b ?h1 ?h2 ?h3 ?_); (case h1 => tm_at "set"); (case h2 => tm_at "set"); (case h3 => tm_at "set"))
  | with_reducible refine' g_me ?_
  | ((with_reducible refine' g_aMe ?h1 ?h2 ?_); (case h1 => tm_at "hp"); (case h2 => tm_at "nof"))
  | with_reducible refine' g_mk ?_
  | ((with_reducible refine' g_aMk ?h0 ?h1 ?h2 ?_); (case h0 => assumption); (case h1 => exact rfl); (case h2 => exact rfl); clear hI; intro x dx H hI; (dsimp only [pick, nth, List.cons_append, List.nil_append]))
  | with_reducible refine' g_fld ?_
  | ((with_reducible refine' g_aFld ?h1 ?h2 ?h3 ?h4 ?_); (case h1 => tm_at "hp"); (case h2 => assumption); (case h3 => assumption); (case h4 => tm_at "fget"))
  | with_reducible refine' g_setF ?_
  | ((with_reducible refine' g_aSetF ?h0 ?h1 ?h2 ?h3 ?h4 ?h5 ?h6 ?_); (case h0 => assumption); (case h1 => tm_at "hp"); (case h2 => assumption); (case h3 => assumption); (case h4 => tm_at "arith"); (case h5 => tm_at "fput"); (case h6 => tm_at "put"); clear hI; intro H hI)
  | ((with_reducible refine' g_aug ?h1 ?_); (case h1 => tm_at "at"))
  | ((with_reducible refine' g_set ?h1 ?_); (case h1 => tm_at "set"))
  | with_reducible refine' g_ipI ?_
  | with_reducible refine' g_max2 ?_
  | with_reducible refine' g_min2 ?_
  | ((with_reducible refine' g_tupOf ?h1 ?h2 ?_); (case h1 => assumption); (case h2 => tm_at "sq"); clear hI; intro p H hI)
  | ((with_reducible refine' g_listOfL ?h1 ?h2 ?_); (case h1 => assumption); (case h2 => tm_at "sq"); clear hI; intro p H hI)
  | ((with_reducible refine' g_listOfT ?h1 ?h2 ?_); (case h1 => assumption); (case h2 => tm_at "st"); clear hI; intro p H hI)
  | ((with_reducible refine' g_aRng1 ?h1 ?_); (case h1 => tm_at "arith"))
  | ((with_reducible refine' g_aRng2 ?h1 ?_); (case h1 => tm_at "arith"))
  | with_reducible refine' g_it_s ?_
  | ((with_reducible refine' g_it_l ?h1 ?_); (case h1 => tm_at "sq"))
  | ((with_reducible refine' g_it_t ?h1 ?_); (case h1 => tm_at "st"))
  | with_reducible refine' g_yes ?_
  | with_reducible refine' g_gCons ?_
  | ((with_reducible refine' g_gTup ?h1 ?h2 ?_); (case h1 => tm_at "st"); (case h2 => exact rfl))
  | with_reducible refine' g_gNil ?_
  | ((with_reducible refine' g_aLst ?h1 ?h2 ?_); (case h1 => assumption); (case h2 => tm_at "arith"); clear hI; intro p H hI)
  | ((with_reducible refine' g_aTup ?h1 ?h2 ?_); (case h1 => assumption); (case h2 => tm_at "arith"); clear hI; intro p H hI)
  | ((with_reducible refine' g_aCl ?h1 ?h2 ?_); (case h1 => exact rfl); (case h2 => exact rfl); (dsimp only [pick, nth, List.cons_append, List.nil_append]))
)
local macro_rules | `(tactic| tm_at "go") => `(tactic| repeat (tm_at "go1"))
local macro_rules | `(tactic| tm_at "sub") => `(tactic| (first | exact List.Sublist.refl _ | exact List.nil_sublist _ | (apply List.Sublist.cons₂; tm_at "sub") | (apply List.Sublist.cons; tm_at "sub")))
local macro_rules | `(tactic| tm_at "is") => `(tactic| (first | assumption | (refine' Is.forget ?s1 ?s2; (case s1 => assumption); (case s2 => tm_at "sub"))))
local macro_rules | `(tactic| tm_at "next") => `(tactic| (repeat (first | with_reducible refine' g_next ?_ | with_reducible refine' g_bl ?_ | with_reducible refine' g_true ?_ | with_reducible refine' g_false ?_)))
local macro_rules | `(tactic| tm_at "draw") => `(tactic| ((refine' ap_law_draw (K := K) hI hd (by omega) (by tm_at "arith") (by tm_at "arith") ?_); clear hI hd; intro r H M hr0 hr1 hI hd))
local macro_rules | `(tactic| tm_at "stop") => `(tactic| (repeat (first | with_reducible refine' g_asg ?_ | with_reducible refine' g_c ?_ | ((with_reducible refine' g_var ?h1 ?_); (case h1 => tm_at "at")) | ((with_reducible refine' g_name ?h1 ?_); (case h1 => tm_at "set")) | with_reducible refine' g_next ?_)))
local macro_rules | `(tactic| tm_at "prm") => `(tactic| (first | exact List.Perm.refl _ | (apply List.Perm.cons; tm_at "prm") | exact List.Perm.swap _ _ _ | (refine' List.Perm.trans ?p1 (List.Perm.swap _ _ _); (case p1 => apply List.Perm.cons; tm_at "prm"))))
/-! ### things of any kind, as isinstance sees them -/
inductive Kn where
  | non | bl | int | str | lst | tup | dct | obj
  deriving DecidableEq
def Kn.is : Kn → String → Bool
  | .bl, T => T == "bool" || T == "int"
  | .int, T => T == "int"
  | .str, T => T == "str"
  | .lst, T => T == "list"
  | .tup, T => T == "tuple"
  | _, _ => false
abbrev TYS : List String := ["int", "bool", "str", "list", "tuple"]
def Kn.fits (k : Kn) : V → Prop
  | .non => k = .non
  | .bl _ => k = .bl
  | .int _ => k = .int
  | .str z => k = .str ∧ plainS z
  | .ref _ => k = .lst ∨ k = .tup ∨ k = .dct ∨ k = .obj
  | _ => False
structure Thing (K : PySem.W.Frag) (H : Hp) (x : V) (k : Kn) : Prop where
  ty : ∃ t, TyX K H x t ∧ ∀ T ∈ TYS, PySem.W.kitOne K t (.type T) = some (k.is T)
  fit : k.fits x
theorem TyX.same {K : PySem.W.Frag} {H H' : Hp} {x : V} {t : Value} (s : Same H H') (h : TyX K H x t) : TyX K H' x t := by
  cases h with
  | base b =>
    refine .base ?_
    cases b with
    | non => exact .non
    | bl y => exact .bl y
    | int i => exact .int i
    | str y => exact .str y
    | flt y => exact .flt y
    | lst e => exact .lst (s _ _ e)
    | frz e => exact .frz (s _ _ e)
    | tup e => exact .tup (s _ _ e)
    | dK e => exact .dK (s _ _ e)
    | dT e => exact .dT (s _ _ e)
    | ins e a b c d f => exact .ins (s _ _ e) a b c d f
  | byt b => exact .byt b
  | set e => exact .set (s _ _ e)
  | kList e c => exact .kList e c
  | kTuple e c => exact .kTuple e c
  | kDict e c => exact .kDict e c
  | fTuple e => exact .fTuple (s _ _ e)
  | fDict e => exact .fDict (s _ _ e)
theorem Thing.same {K : PySem.W.Frag} {H H' : Hp} {x : V} {k : Kn} (s : Same H H') (h : Thing K H x k) : Thing K H' x k := by
  obtain ⟨⟨t, h1, h2⟩, f⟩ := h
  exact ⟨⟨t, TyX.same s h1, h2⟩, f⟩
theorem tys_mem {p : String → Prop} (h : p "int" ∧ p "bool" ∧ p "str" ∧ p "list" ∧ p "tuple") : ∀ T ∈ TYS, p T := by
  intro T hT
  obtain ⟨h1, h2, h3, h4, h5⟩ := h
  rcases List.mem_cons.mp hT with rfl | hT
  · exact h1
  rcases List.mem_cons.mp hT with rfl | hT
  · exact h2
  rcases List.mem_cons.mp hT with rfl | hT
  · exact h3
  rcases List.mem_cons.mp hT with rfl | hT
  · exact h4
  rcases List.mem_cons.mp hT with rfl | hT
  · exact h5
  cases hT
section
variable {K : PySem.W.Frag} {H : Hp} {a : Addr} {xs : List V}
theorem thing_non : Thing K H .non .non := ⟨⟨_, .base .non, tys_mem ⟨kit_ty (by decide +kernel), kit_ty (by decide +kernel), kit_ty (by decide +kernel), kit_ty (by decide +kernel), kit_ty (by decide +kernel)⟩⟩, rfl⟩
theorem thing_bl (b : Bool) : Thing K H (.bl b) .bl := ⟨⟨_, .base (.bl b), tys_mem ⟨kit_ty (by decide +kernel), kit_ty (by decide +kernel), kit_ty (by decide +kernel), kit_ty (by decide +kernel), kit_ty (by decide +kernel)⟩⟩, rfl⟩
theorem thing_int (i : Int) : Thing K H (.int i) .int := ⟨⟨_, .base (.int i), tys_mem ⟨kit_ty (by decide +kernel), kit_ty (by decide +kernel), kit_ty (by decide +kernel), kit_ty (by decide +kernel), kit_ty (by decide +kernel)⟩⟩, rfl⟩
theorem thing_str {z : Str} (h : plainS z) : Thing K H (.str z) .str := ⟨⟨_, .base (.str z), tys_mem ⟨kit_ty (by decide +kernel), kit_ty (by decide +kernel), kit_ty (by decide +kernel), kit_ty (by decide +kernel), kit_ty (by decide +kernel)⟩⟩, rfl, h⟩
theorem kit_list : ∀ T ∈ TYS, PySem.W.kitOne K (.type "list") (.type T) = some (Kn.lst.is T) := tys_mem ⟨kit_ty (by decide +kernel), kit_ty (by decide +kernel), kit_ty (by decide +kernel), kit_ty (by decide +kernel), kit_ty (by decide +kernel)⟩
theorem kit_tuple : ∀ T ∈ TYS, PySem.W.kitOne K (.type "tuple") (.type T) = some (Kn.tup.is T) := tys_mem ⟨kit_ty (by decide +kernel), kit_ty (by decide +kernel), kit_ty (by decide +kernel), kit_ty (by decide +kernel), kit_ty (by decide +kernel)⟩
theorem kit_dict : ∀ T ∈ TYS, PySem.W.kitOne K (.type "dict") (.type T) = some (Kn.dct.is T) := tys_mem ⟨kit_ty (by decide +kernel), kit_ty (by decide +kernel), kit_ty (by decide +kernel), kit_ty (by decide +kernel), kit_ty (by decide +kernel)⟩
theorem thing_lst (h : H a = some (.lst xs)) : Thing K H (.ref a) .lst := ⟨⟨_, .base (.lst h), kit_list⟩, .inl rfl⟩
theorem thing_tup (h : H a = some (.tup xs)) : Thing K H (.ref a) .tup := ⟨⟨_, .base (.tup h), kit_tuple⟩, .inr (.inl rfl)⟩
theorem thing_dct {kvs : List (Key × V)} (h : H a = some (.dK kvs)) : Thing K H (.ref a) .dct := ⟨⟨_, .base (.dK h), kit_dict⟩, .inr (.inr (.inl rfl))⟩
theorem g_isi {x : V} {k : Kn} {T : String} {Q : VK} (h : Thing K H x k) (hT : T ∈ TYS) (q : Q (.bl (k.is T)) H) : rIsi K [x, .ty T] H Q := by
  obtain ⟨⟨t, h1, h2⟩, _⟩ := h
  exact ⟨x, .ty T, t, _, _, rfl, .ty T, h1, h2 T hT, q⟩
theorem g_isiT {x : V} {k : Kn} {T : String} {Q : VK} (h : Thing K H x k) (hT : T ∈ TYS) (e : k.is T = true) (q : Q (.bl true) H) : rIsi K [x, .ty T] H Q := g_isi h hT (by rw [e]; exact q)
theorem g_isiF {x : V} {k : Kn} {T : String} {Q : VK} (h : Thing K H x k) (hT : T ∈ TYS) (e : k.is T = false) (q : Q (.bl false) H) : rIsi K [x, .ty T] H Q := g_isi h hT (by rw [e]; exact q)
theorem kit_of {t : Value} {k : Kn} {T : String} (h : ∀ T ∈ TYS, PySem.W.kitOne K t (.type T) = some (k.is T)) (hT : T ∈ TYS) : PySem.W.kitOne K t (.type T) = some (k.is T) := h T hT
/-- isinstance of one of two -/
theorem g_isi2 {x : V} {k : Kn} {T1 T2 : String} {tp : Addr} {Q : VK} (ht : H tp = some (.tup [.ty T1, .ty T2])) (h : Thing K H x k) (m1 : T1 ∈ TYS) (m2 : T2 ∈ TYS) (q : Q (.bl (k.is T1 || k.is T2)) H) : rIsiT K [x, .ref tp] H Q := by
  obtain ⟨⟨t, h1, h2⟩, _⟩ := h
  refine ⟨x, tp, _, t, _, k.is T1 || k.is T2, rfl, ht, .cons (.ty T1) (.cons (.ty T2) .nil), h1, ?_, q⟩
  refine kitAny_cons (kit_of h2 m1) (fun e => ?_) (fun e => by rw [e]; rfl)
  rw [e, Bool.false_or]
  exact kitAny_cons (kit_of h2 m2) (fun e => by rw [e]; rfl) (fun e => e)
theorem g_isi2T {x : V} {k : Kn} {T1 T2 : String} {tp : Addr} {Q : VK} (ht : H tp = some (.tup [.ty T1, .ty T2])) (h : Thing K H x k) (m1 : T1 ∈ TYS) (m2 : T2 ∈ TYS) (e : (k.is T1 || k.is T2) = true) (q : Q (.bl true) H) : rIsiT K [x, .ref tp] H Q := g_isi2 ht h m1 m2 (by rw [e]; exact q)
theorem g_isi2F {x : V} {k : Kn} {T1 T2 : String} {tp : Addr} {Q : VK} (ht : H tp = some (.tup [.ty T1, .ty T2])) (h : Thing K H x k) (m1 : T1 ∈ TYS) (m2 : T2 ∈ TYS) (e : (k.is T1 || k.is T2) = false) (q : Q (.bl false) H) : rIsiT K [x, .ref tp] H Q := g_isi2 ht h m1 m2 (by rw [e]; exact q)
theorem Thing.cases {x : V} {k : Kn} (h : Thing K H x k) {G : Prop} (h1 : x = .non → k = .non → G) (h2 : ∀ b, x = .bl b → k = .bl → G) (h3 : ∀ i, x = .int i → k = .int → G) (h4 : ∀ z, x = .str z → k = .str → plainS z → G)
    (h5 : ∀ a, x = .ref a → (k = .lst ∨ k = .tup ∨ k = .dct ∨ k = .obj) → G) : G := by
  have f := h.fit
  cases x with
  | non => exact h1 rfl f
  | bl b => exact h2 b rfl f
  | int i => exact h3 i rfl f
  | str z => exact h4 z rfl f.1 f.2
  | ref a => exact h5 a rfl f
  | _ => exact f.elim
theorem Kn.noInt {k : Kn} (h : k = .lst ∨ k = .tup ∨ k = .dct ∨ k = .obj) : k.is "int" = false ∧ k.is "bool" = false ∧ k.is "str" = false := by
  rcases h with rfl | rfl | rfl | rfl <;> decide
end
/-! ### whole numbers -/
def isWhole (x : V) (lo hi : Int) : Bool := match x with
  | .int n => decide (lo ≤ n) && decide (n ≤ hi)
  | _ => false
def sp_is_whole (K : PySem.W.Frag) : Sp := fun vs H Q _ => vs.length = 3 ∧ ∃ (x : V) (k : Kn) (lo hi : Int), vs = [x, .int lo, .int hi] ∧ Thing K H x k ∧ Q (.bl (isWhole x lo hi)) H
def t_is_whole (K : PySem.W.Frag) : TS := (tRet (tAndV (tCB (rIsi K) (tCons (tVar 0) (tCons (tC (.ty "int")) tNil))) (tAndV (tNotV (tCB (rIsi K) (tCons (tVar 0) (tCons (tC (.ty "bool")) tNil)))) (tChain (rI0 fun i j => .bl (decide (i ≤ j))) (rI0 fun i j => .bl (decide (i ≤ j))) (tVar 1) (tVar 0) (tVar 2)))))
theorem rd_is_whole {K : PySem.W.Frag} (vs : List V) (H : Hp) (Q : VK) (E : XK) (h : sp_is_whole K vs H Q E) : t_is_whole K { nx := fun _ H' => Q .non H', rt := Q } (start ["thing", "least", "most"] vs) H := by
  obtain ⟨_, x, k, lo, hi, rfl, hx, q⟩ := h
  show t_is_whole K ⟨_, _, _, _⟩ [some x, some (.int lo), some (.int hi)] H
  unfold t_is_whole
  tm_at "go"
  refine hx.cases ?_ ?_ ?_ ?_ ?_
  · rintro rfl rfl
    tm_at "go"
    exact q
  · rintro b rfl rfl
    tm_at "go"
    exact q
  · rintro n rfl rfl
    tm_at "go"
    refine g_dec (fun h => ?_) (fun h => ?_)
    · tm_at "go"
      have e : isWhole (.int n) lo hi = decide (n ≤ hi) := by
        show (decide (lo ≤ n) && decide (n ≤ hi)) = _
        rw [decide_eq_true h, Bool.true_and]
      rw [e] at q
      exact q
    · tm_at "go"
      have e : isWhole (.int n) lo hi = false := by
        show (decide (lo ≤ n) && decide (n ≤ hi)) = _
        rw [decide_eq_false h, Bool.false_and]
      rw [e] at q
      exact q
  · rintro z rfl rfl hp
    tm_at "go"
    exact q
  · rintro a rfl hk
    refine g_isiF hx (by decide) (Kn.noInt hk).1 ?_
    tm_at "go"
    exact q
/-! ### names -/
def letS : Str := "abcdefghijklmnopqrstuvwxyz"
def barVs : List V := [.str "style", .str "job", .str "round", .str "sew", .str "glue", .str "cover", .str "letter", .str "press", .str "hand", .str "haste"]
def isName (x : V) : Bool := match x with
  | .str z => decide (1 ≤ (z.length : Int)) && (decide ((z.length : Int) ≤ 8) && (!inV (.str z) barVs && z.cps.toList.all fun c => decide (c ∈ letS.cps.toList)))
  | _ => false
def sp_is_name (K : PySem.W.Frag) : Sp := fun vs H Q _ => vs.length = 1 ∧ ∃ (x : V) (k : Kn) (B : Hp) (M L : List (Addr × HO)), vs = [x] ∧ Is B M L H ∧ Thing K H x k ∧ ∀ H', Is B M L H' → Q (.bl (isName x)) H'
abbrev t_is_name_0 (K : PySem.W.Frag) : TS := (tRet (tCB (rAll K) (tCons (tLc (iAny K (tVar 0)) (gName 1) tYes (tOp (rInA K) (tVar 1) (tC (.str "abcdefghijklmnopqrstuvwxyz"))) [1]) tNil)))
def t_is_name (K : PySem.W.Frag) : TS := (tSeq (tIfS (tOr (tNot (tTr K (tCB (rIsi K) (tCons (tVar 0) (tCons (tC (.ty "str")) tNil))))) (tOr (tNot (tTest (tChain (rI0 fun i j => .bl (decide (i ≤ j))) (rI0 fun i j => .bl (decide (i ≤ j))) (tC (.int 1)) (tCB (rLen K) (tCons (tVar 0) tNil)) (tC (.int 8))))) (tTest (tOp (rInA K) (tVar 0) (tC (.ref (He.ga K "BARRED_WORDS"))))))) (tRet (tC (.bl false))) tNext) (t_is_name_0 K))
theorem rd_is_name {K : PySem.W.Frag} (hbar : ∀ H, SqT K H (He.ga K "BARRED_WORDS") barVs) (vs : List V) (H : Hp) (Q : VK) (E : XK) (h : sp_is_name K vs H Q E) : t_is_name K { nx := fun _ H' => Q .non H', rt := Q } (start ["thing", "sign"] vs) H := by
  obtain ⟨_, x, k, B, M, L, rfl, hI, hx, q⟩ := h
  show t_is_name K ⟨_, _, _, _⟩ [some x, none] H
  unfold t_is_name
  tm_at "go"
  refine hx.cases ?_ ?_ ?_ ?_ ?_
  · rintro rfl rfl
    tm_at "go"
    exact q _ hI
  · rintro b rfl rfl
    tm_at "go"
    exact q _ hI
  · rintro n rfl rfl
    tm_at "go"
    exact q _ hI
  · rintro z rfl rfl hp
    tm_at "go"
    have qq : Q (.bl (decide (1 ≤ (z.length : Int)) && (decide ((z.length : Int) ≤ 8) && (!inV (.str z) barVs && z.cps.toList.all fun c => decide (c ∈ letS.cps.toList))))) = Q (.bl (isName (.str z))) := rfl
    refine g_dec (fun h1 => ?_) (fun h1 => ?_)
    · tm_at "go"
      refine g_ndec (fun h2 => ?_) (fun h2 => ?_)
      · tm_at "go"
        have := q _ hI
        rw [← qq, decide_eq_true h1, decide_eq_false h2] at this
        exact this
      · tm_at "go"
        refine g_in_t (hbar H) rfl (by decide +kernel) ?_
        tm_at "go"
        refine g_b (fun h3 => ?_) (fun h3 => ?_)
        · tm_at "go"
          have := q _ hI
          rw [← qq, decide_eq_true h1, decide_eq_true h2, h3] at this
          exact this
        · tm_at "go"
          refine' g_lcS1 hI (by tm_at "wiped") (Nat.le_trans hp.1 (by decide)) (fun c => .bl (decide (c ∈ letS.cps.toList))) ?_ ?_
          · intro c D acc H' hc hI' PY hY
            tm_at "go"
            refine' g_wiped (by tm_at "wiped") ?_
            tm_at "go"
            exact hY _ hI'
          · intro D H' hI'
            tm_at "go"
            refine g_all (by tm_at "sq") ?_
            have := q _ (hI'.forget (by tm_at "sub"))
            rw [← qq, decide_eq_true h1, decide_eq_true h2, h3] at this
            exact this
    · tm_at "go"
      have := q _ hI
      rw [← qq, decide_eq_false h1] at this
      exact this
  · rintro a rfl hk
    refine g_isiF hx (by decide) (Kn.noInt hk).2.2 ?_
    tm_at "go"
    exact q _ hI
/-! ### errors: BadValue, BadText, NoSuch, TooMany; what _law_class tells of them; _law_told(lambda: ..) -/
def sp_BadValue_init (K : PySem.W.Frag) : Sp := sp_xinit K 1 ["what"] fun ws => [("what", nth .non ws 0)]
def t_BadValue_init (K : PySem.W.Frag) : TS := (tOsg K "what" (tVar 0) (tVar 1))
theorem rd_BadValue_init {K : PySem.W.Frag} (vs : List V) (H : Hp) (Q : VK) (E : XK) (h : sp_BadValue_init K vs H Q E) : t_BadValue_init K { nx := fun _ H' => Q .non H', rt := Q } (start ["self", "what"] vs) H := by
  obtain ⟨hl, a, C, ws, rfl, T, hf, ha, q⟩ := h
  match ws, hl with
  | [x], _ =>
    show t_BadValue_init K ⟨_, _, _, _⟩ [some (.ref a), some x] H
    unfold t_BadValue_init
    exact g_osg1 rfl rfl T (hf _ (by tm_at "mem")) ha q
def sp_NoSuch_init (K : PySem.W.Frag) : Sp := sp_xinit K 2 ["what", "name"] fun ws => [("name", nth .non ws 1), ("what", nth .non ws 0)]
abbrev t_NoSuch_init_0 (K : PySem.W.Frag) : TS := (tOsg K "name" (tVar 0) (tVar 2))
def t_NoSuch_init (K : PySem.W.Frag) : TS := (tSeq (tOsg K "what" (tVar 0) (tVar 1)) (t_NoSuch_init_0 K))
theorem rd_NoSuch_init {K : PySem.W.Frag} (vs : List V) (H : Hp) (Q : VK) (E : XK) (h : sp_NoSuch_init K vs H Q E) : t_NoSuch_init K { nx := fun _ H' => Q .non H', rt := Q } (start ["self", "what", "name"] vs) H := by
  obtain ⟨hl, a, C, ws, rfl, T, hf, ha, q⟩ := h
  match ws, hl with
  | [x, y], _ =>
    show t_NoSuch_init K ⟨_, _, _, _⟩ [some (.ref a), some x, some y] H
    unfold t_NoSuch_init
    refine g_seq ?_
    refine g_osg1 rfl rfl T (hf _ (by tm_at "mem")) ha fun dx hd hne => ?_
    exact g_osg2 rfl rfl T (hf _ (by tm_at "mem")) hne (Nat.le_of_ble_eq_true rfl) (q dx hd hne)
def sp_TooMany_init (K : PySem.W.Frag) : Sp := sp_xinit K 1 ["most"] fun ws => [("most", nth .non ws 0)]
def t_TooMany_init (K : PySem.W.Frag) : TS := (tOsg K "most" (tVar 0) (tVar 1))
theorem rd_TooMany_init {K : PySem.W.Frag} (vs : List V) (H : Hp) (Q : VK) (E : XK) (h : sp_TooMany_init K vs H Q E) : t_TooMany_init K { nx := fun _ H' => Q .non H', rt := Q } (start ["self", "most"] vs) H := by
  obtain ⟨hl, a, C, ws, rfl, T, hf, ha, q⟩ := h
  match ws, hl with
  | [x], _ =>
    show t_TooMany_init K ⟨_, _, _, _⟩ [some (.ref a), some x] H
    unfold t_TooMany_init
    exact g_osg1 rfl rfl T (hf _ (by tm_at "mem")) ha q
def sp_BadText_init (K : PySem.W.Frag) : Sp := sp_xinit K 2 ["what", "row", "word"] fun ws => [("word", nth .non ws 1), ("row", nth .non ws 0), ("what", .str "text")]
abbrev t_BadText_init_0 (K : PySem.W.Frag) : TS := (tOsg K "word" (tVar 0) (tVar 2))
abbrev t_BadText_init_1 (K : PySem.W.Frag) : TS := (tSeq (tOsg K "row" (tVar 0) (tVar 1)) (t_BadText_init_0 K))
def t_BadText_init (K : PySem.W.Frag) : TS := (tSeq (tDrop (tCl 2 0 (sp_BadValue_init K) (fun vs zs => pick .non [0, 1] (vs ++ zs)) E0 (tCons (tVar 0) (tCons (tC (.str "text")) tNil)) tNil)) (t_BadText_init_1 K))
theorem rd_BadText_init {K : PySem.W.Frag} (vs : List V) (H : Hp) (Q : VK) (E : XK) (h : sp_BadText_init K vs H Q E) : t_BadText_init K { nx := fun _ H' => Q .non H', rt := Q } (start ["self", "row", "word"] vs) H := by
  obtain ⟨hl, a, C, ws, rfl, T, hf, ha, q⟩ := h
  match ws, hl with
  | [x, y], _ =>
    show t_BadText_init K ⟨_, _, _, _⟩ [some (.ref a), some x, some y] H
    unfold t_BadText_init
    tm_at "go"
    refine ⟨rfl, a, C, [.str "text"], rfl, T, fun f hf' => hf f (by rw [List.mem_singleton.mp hf']; tm_at "mem"), ha, fun dx hd hne => ?_⟩
    tm_at "go"
    refine g_osg2 rfl rfl T (hf _ (by tm_at "mem")) hne (Nat.le_of_ble_eq_true rfl) ?_
    exact g_osg2 rfl rfl T (hf _ (by tm_at "mem")) hne (Nat.le_of_ble_eq_true rfl) (q dx hd hne)
section
variable {K : PySem.W.Frag} {B H : Hp} {M L : List (Addr × HO)} {Q : XK}
/-- raised ones -/
theorem g_bv {gV : List V → List V → List V} {x : V} (C : ErrC K) (I : Is B M L H) (hg : ∀ a, gV [.ref a, x] [] = [.ref a, x]) (q : ∀ d H', Is B M ((d, .xd [(("what" : Str), x)]) :: L) H' → Q (.ref (He.ga K "BadValue")) (some d) H') : aXmk (He.ga K "BadValue") 1 (sp_xinit K 1 ["what"] fun ws => [("what", nth .non ws 0)]) gV [x] H Q :=
  g_aXmk I C.bv.ox C.bv.nf rfl (by decide) hg q
theorem g_ns {gV : List V → List V → List V} {x y : V} (C : ErrC K) (I : Is B M L H) (hg : ∀ a, gV [.ref a, x, y] [] = [.ref a, x, y]) (q : ∀ d H', Is B M ((d, .xd [(("name" : Str), y), ("what", x)]) :: L) H' → Q (.ref (He.ga K "NoSuch")) (some d) H') : aXmk (He.ga K "NoSuch") 2 (sp_xinit K 2 ["what", "name"] fun ws => [("name", nth .non ws 1), ("what", nth .non ws 0)]) gV [x, y] H Q :=
  g_aXmk I C.ns.ox C.ns.nf rfl (by decide) hg q
theorem g_tm {gV : List V → List V → List V} {x : V} (C : ErrC K) (I : Is B M L H) (hg : ∀ a, gV [.ref a, x] [] = [.ref a, x]) (q : ∀ d H', Is B M ((d, .xd [(("most" : Str), x)]) :: L) H' → Q (.ref (He.ga K "TooMany")) (some d) H') : aXmk (He.ga K "TooMany") 1 (sp_xinit K 1 ["most"] fun ws => [("most", nth .non ws 0)]) gV [x] H Q :=
  g_aXmk I C.tm.ox C.tm.nf rfl (by decide) hg q
theorem g_bt {gV : List V → List V → List V} {x y : V} (C : ErrC K) (I : Is B M L H) (hg : ∀ a, gV [.ref a, x, y] [] = [.ref a, x, y]) (q : ∀ d H', Is B M ((d, .xd [(("word" : Str), y), ("row", x), ("what", .str "text")]) :: L) H' → Q (.ref (He.ga K "BadText")) (some d) H') : aXmk (He.ga K "BadText") 2 (sp_xinit K 2 ["what", "row", "word"] fun ws => [("word", nth .non ws 1), ("row", nth .non ws 0), ("what", .str "text")]) gV [x, y] H Q :=
  g_aXmk I C.bt.ox C.bt.nf rfl (by decide) hg q
end
/-! ### told -/
def tTry3 (K : PySem.W.Frag) (c1 c2 c3 : Value) (i : Nat) (tb : WX → TS) (ts : Addr → Value → Option Addr → TS) : TS := fun D σ H => tb (wAs3 K c1 c2 c3 i ts D) D σ H
def tAct (f c' : Addr) (q : Str) (tl : XK → Hp → VK → Prop) : WX → TE := fun W σZ HZ Q => σZ[0]? = some (some (.ref f)) ∧ HZ c' = some (LamX.CodeO c' q) ∧ ∃ E : XK, (∀ cls d H', E cls d H' → W cls d σZ H') ∧ tl E HZ Q
def sp_law_mixed (K : PySem.W.Frag) : Sp := fun vs H Q _ => vs.length = 2 ∧ ∃ c k : Int, vs = [.int c, .int k] ∧ 0 ≤ k ∧ k < 2 ^ 60 ∧ ∀ r : Int, 0 ≤ r → r < 400000000 → Q (.int r) H
theorem ap_law_mixed {K : PySem.W.Frag} {H : Hp} {Q : VK} {E : XK} {c k : Int} (h0 : 0 ≤ k) (h1 : k < 2 ^ 60) (q : ∀ r : Int, 0 ≤ r → r < 400000000 → Q (.int r) H) : sp_law_mixed K [.int c, .int k] H Q E :=
  ⟨rfl, c, k, rfl, h0, h1, q⟩
/-- the state of the draws at m: at most n draws so far -/
def Dr (m : Addr) (n : Int) (B : Hp) (M : List (Addr × HO)) : Prop := ∃ (c l : Addr) (cs ls : List Int) (k : Int),
  M = [(m, .dK [(Sum.inr "cells", .ref c), (Sum.inr "left", .ref l), (Sum.inr "spot", .int k)]), (l, .lst (ls.map V.int))] ∧
  B c = some (.lst (cs.map V.int)) ∧ cs.length = 64 ∧ (∀ x ∈ cs, 0 ≤ x ∧ x < 2147483647) ∧ 0 ≤ k ∧ k ≤ n
theorem Dr.same {m : Addr} {n : Int} {B B' : Hp} {M : List (Addr × HO)} (s : Same B B') (d : Dr m n B M) : Dr m n B' M := by
  obtain ⟨c, l, cs, ls, k, h1, h2, h3⟩ := d
  exact ⟨c, l, cs, ls, k, h1, s _ _ h2, h3⟩
theorem Dr.mono {m : Addr} {n n' : Int} {B : Hp} {M : List (Addr × HO)} (h : n ≤ n') (d : Dr m n B M) : Dr m n' B M := by
  obtain ⟨c, l, cs, ls, k, h1, h2, h3, h4, h5, h6⟩ := d
  exact ⟨c, l, cs, ls, k, h1, h2, h3, h4, h5, by omega⟩
def sp_law_draw (K : PySem.W.Frag) : Sp := fun vs H Q _ => vs.length = 2 ∧ ∃ (m : Addr) (many n : Int) (B : Hp) (M L : List (Addr × HO)), vs = [.ref m, .int many] ∧ Is B M L H ∧ Dr m n B M ∧ n < 2 ^ 40 ∧ 0 < many ∧ many < 1073741824 ∧
  ∀ (r : Int) (H' : Hp) (M' : List (Addr × HO)), 0 ≤ r → r < many → Is B M' L H' → Dr m (n + 1) B M' → Q (.int r) H'
theorem ap_law_draw {K : PySem.W.Frag} {H : Hp} {Q : VK} {E : XK} {m : Addr} {many n : Int} {B : Hp} {M L : List (Addr × HO)} (I : Is B M L H) (d : Dr m n B M) (h1 : n < 2 ^ 40) (h2 : 0 < many) (h3 : many < 1073741824)
    (q : ∀ (r : Int) (H' : Hp) (M' : List (Addr × HO)), 0 ≤ r → r < many → Is B M' L H' → Dr m (n + 1) B M' → Q (.int r) H') : sp_law_draw K [.ref m, .int many] H Q E :=
  ⟨rfl, m, many, n, B, M, L, rfl, I, d, h1, h2, h3, q⟩
abbrev t_law_mixed_0 (K : PySem.W.Frag) : TS := (tRet (tOp (rI CDiv fun i j => .int (i / j)) (tOp (rI (fun _ j => 0 < j) fun i j => .int (i % j)) (tOp rMulA (tVar 2) (tC (.int 69621))) (tC (.int 2147483629))) (tC (.int 7))))
def t_law_mixed (K : PySem.W.Frag) : TS := (tSeq (tAsg (tOp (rAddA K) (tOp (rAddA K) (tOp (rI (fun _ j => 0 < j) fun i j => .int (i % j)) (tOp rMulA (tOp rMulA (tVar 0) (tOp (rAddA K) (tC (.int 1)) (tOp rMulA (tC (.int 2)) (tVar 1)))) (tC (.int 48271))) (tC (.int 2147483647))) (tOp rMulA (tOp rMulA (tC (.int 7919)) (tVar 1)) (tVar 1))) (tOp rMulA (tC (.int 104729)) (tVar 1))) (gName 2)) (t_law_mixed_0 K))
theorem rd_law_mixed {K : PySem.W.Frag} (vs : List V) (H : Hp) (Q : VK) (E : XK) (h : sp_law_mixed K vs H Q E) : t_law_mixed K { nx := fun _ H' => Q .non H', rt := Q } (start ["cell", "k", "turned"] vs) H := by
  obtain ⟨_, c, k, rfl, h0, h1, q⟩ := h
  show t_law_mixed K ⟨_, _, _, _⟩ [some (.int c), some (.int k), none] H
  unfold t_law_mixed
  tm_at "go"
  exact q _ (by omega) (by omega)
theorem ints_get {ns : List Int} {i : Nat} (h : i < ns.length) : (ns.map V.int)[i]? = some (.int (ns[i])) := by simp [h]
theorem dp_ints {K : PySem.W.Frag} {H : Hp} : ∀ ns : List Int, DpAll K H (ns.map V.int) (ns.map PyData.int)
  | [] => .nil
  | n :: ns => .cons (.int n) (dp_ints ns)
abbrev t_law_draw_0 (K : PySem.W.Frag) : TS := (tRet (tOp (rI (fun _ j => 0 < j) fun i j => .int (i % j)) (tVar 4) (tVar 1)))
abbrev t_law_draw_1 (K : PySem.W.Frag) : TS := (tIfS (tTest (tOp (rI0 fun i j => .bl (decide (j < i))) (tVar 4) (tC (.int 0)))) (tSeq (tAsg (tOp (rI CDiv fun i j => .int (i / j)) (tVar 4) (tVar 1)) (gSub (tDGet (tVar 0) (tC (.str "left"))) (tVar 3) rSetL)) (t_law_draw_0 K)) tNext)
abbrev t_law_draw_2 (K : PySem.W.Frag) : TS := (tSeq (tAsg (tOp (rIx K) (tDGet (tVar 0) (tC (.str "left"))) (tVar 3)) (gName 4)) (t_law_draw_1 K))
abbrev t_law_draw_3 (K : PySem.W.Frag) : TS := (tRet (tOp (rI (fun _ j => 0 < j) fun i j => .int (i % j)) (tCl 2 0 (sp_law_mixed K) (fun vs zs => pick .non [0, 1] (vs ++ zs)) E0 (tCons (tCl 2 0 (sp_law_mixed K) (fun vs zs => pick .non [0, 1] (vs ++ zs)) E0 (tCons (tOp (rAddA K) (tOp (rIx K) (tDGet (tVar 0) (tC (.str "cells"))) (tOp (rI (fun _ j => 0 < j) fun i j => .int (i % j)) (tVar 2) (tC (.int 64)))) (tOp rMulA (tC (.int 31)) (tOp (rI CDiv fun i j => .int (i / j)) (tVar 2) (tC (.int 64))))) (tCons (tVar 2) tNil)) tNil) (tCons (tOp (rAddA K) (tVar 2) (tC (.int 7))) tNil)) tNil) (tVar 1)))
abbrev t_law_draw_4 (K : PySem.W.Frag) : TS := (tSeq (tIfS (tTest (tOp (rNeA K) (tDGet (tVar 0) (tC (.str "left"))) (tLst tNil))) (tSeq (tAsg (tOp (rI (fun _ j => 0 < j) fun i j => .int (i % j)) (tVar 2) (tCB (rLen K) (tCons (tDGet (tVar 0) (tC (.str "left"))) tNil))) (gName 3)) (t_law_draw_2 K)) tNext) (t_law_draw_3 K))
abbrev t_law_draw_5 (K : PySem.W.Frag) : TS := (tSeq (sDPut (tVar 0) (tC (.str "spot")) (tOp (rAddA K) (tVar 2) (tC (.int 1)))) (t_law_draw_4 K))
def t_law_draw (K : PySem.W.Frag) : TS := (tSeq (tAsg (tDGet (tVar 0) (tC (.str "spot"))) (gName 2)) (t_law_draw_5 K))
theorem rd_law_draw {K : PySem.W.Frag} (vs : List V) (H : Hp) (Q : VK) (E : XK) (h : sp_law_draw K vs H Q E) : t_law_draw K { nx := fun _ H' => Q .non H', rt := Q } (start ["m", "many", "k", "spot", "cell"] vs) H := by
  obtain ⟨_, m, many, n, B, M, L, rfl, hI, ⟨c, l, cs, ls, k, rfl, hc, hcs, hb, hk0, hkn⟩, h1, h2, h3, q⟩ := h
  show t_law_draw K ⟨_, _, _, _⟩ [some (.ref m), some (.int many), none, none, none] H
  unfold t_law_draw
  tm_at "go"
  refine g_ne_d (.lst (by tm_at "sq") (dp_ints ls)) (.lst (xs := []) (by tm_at "sq") .nil) (PySem.W.ke_shaped_ints ls) rfl ?_
  tm_at "go"
  -- the last row: by the cells
  have last : ∀ (H : Hp) (x y : Option V), Is B [(m, HO.dK [(Sum.inr "cells", V.ref c), (Sum.inr "left", V.ref l), (Sum.inr "spot", V.int (k + 1))]), (l, HO.lst (List.map V.int ls))] ((p, HO.lst []) :: L) H →
      t_law_draw_3 K ⟨fun _ H' => Q .non H', Q, fun _ _ => False, fun _ _ => False⟩ [some (V.ref m), some (V.int many), some (V.int k), x, y] H := by
    intro H x y hI
    tm_at "go"
    have hk : (k % 64).toNat < cs.length := by omega
    refine g_ix_l (by tm_at "sq") (atI_of (by omega) (ints_get hk)) ?_
    tm_at "go"
    refine' ap_law_mixed (K := K) (by omega) (by omega) ?_
    intro r hr0 hr1
    tm_at "go"
    refine' ap_law_mixed (K := K) (by omega) (by omega) ?_
    intro r2 hr2 hr3
    tm_at "go"
    exact q _ _ _ (Int.emod_nonneg _ (by omega)) (Int.emod_lt_of_pos _ h2) (by tm_at "is") ⟨c, l, cs, ls, k + 1, rfl, hc, hcs, hb, by omega, by omega⟩
  cases ls with
  | nil =>
    refine g_nb (fun e => ?_) (fun e => ?_)
    · simp [PyData.eqv, PyData.eqvAll] at e
    · exact g_next (last _ _ _ hI)
  | cons z zs =>
    refine g_nb (fun e => ?_) (fun e => ?_)
    · tm_at "go"
      have hp : 0 < ((z :: zs).length : Int) := by simp only [List.length_cons]; omega
      have hlt := Int.emod_lt_of_pos k hp
      have hge := Int.emod_nonneg k (by omega : ((z :: zs).length : Int) ≠ 0)
      rw [List.length_map]
      generalize hi : k % ((z :: zs).length : Int) = i at *
      have hk : i.toNat < (z :: zs).length := by omega
      refine g_ix_l (by tm_at "sq") (atI_of hge (ints_get hk)) ?_
      tm_at "go"
      refine g_dec (fun h => ?_) (fun h => ?_)
      · tm_at "go"
        refine q _ _ _ (Int.emod_nonneg _ (by omega)) (Int.emod_lt_of_pos _ h2) (by tm_at "is") ⟨c, l, cs, (z :: zs).set i.toNat ((z :: zs)[i.toNat] / many), k + 1, ?_, hc, hcs, hb, by omega, by omega⟩
        rw [List.map_set]
      · tm_at "next"
        exact last _ _ _ hI
    · simp [PyData.eqv, PyData.eqvAll] at e
/-! the cells that all is drawn by -/
def sp_law_folded (K : PySem.W.Frag) : Sp := fun vs H Q _ => vs.length = 1 ∧ ∃ (a : Addr) (ns : List Int) (B : Hp) (M L : List (Addr × HO)), vs = [.ref a] ∧ Is B M L H ∧ SqL K B a (ns.map V.int) ∧ ns.length ≤ 63 ∧
  ∀ (p : Addr) (cs : List Int) (H' : Hp), cs.length = 64 → (∀ x ∈ cs, 0 ≤ x ∧ x < 2147483647) → Is B M ((p, .lst (cs.map V.int)) :: L) H' → Q (.ref p) H'
abbrev t_law_folded_0 (K : PySem.W.Frag) : TS := (tAsg (tOp (rI (fun _ j => 0 < j) fun i j => .int (i % j)) (tOp (rAddA K) (tOp rMulA (tOp (rIx K) (tVar 1) (tOp (rI (fun _ j => 0 < j) fun i j => .int (i % j)) (tVar 2) (tC (.int 64)))) (tC (.int 48271))) (tVar 3)) (tC (.int 2147483647))) (gSub (tVar 1) (tOp (rI (fun _ j => 0 < j) fun i j => .int (i % j)) (tVar 2) (tC (.int 64))) rSetL))
abbrev t_law_folded_1 (K : PySem.W.Frag) : TS := (tAsg (tOp (rI (fun _ j => 0 < j) fun i j => .int (i % j)) (tOp (rAddA K) (tOp (rIx K) (tVar 1) (tVar 2)) (tOp rMulA (tOp (rIx K) (tVar 1) (tOp (rI0 fun i j => .int (i - j)) (tVar 2) (tC (.int 1)))) (tC (.int 16807)))) (tC (.int 2147483647))) (gSub (tVar 1) (tVar 2) rSetL))
abbrev t_law_folded_2 (K : PySem.W.Frag) : TS := (tRet (tVar 1))
abbrev t_law_folded_3 (K : PySem.W.Frag) : TS := (tSeq (tFor (iRng2 (tCons (tC (.int 1)) (tCons (tC (.int 64)) tNil))) (gName 2) (t_law_folded_1 K)) (t_law_folded_2 K))
abbrev t_law_folded_4 (K : PySem.W.Frag) : TS := (tSeq (tFor (iEnumA K (tCons (tVar 0) tNil)) (gTup K 2 (gCons (gName 2) (gCons (gName 3) gNil))) (t_law_folded_0 K)) (t_law_folded_3 K))
def t_law_folded (K : PySem.W.Frag) : TS := (tSeq (tAsg (tLc (iRng1 (tCons (tC (.int 64)) tNil)) (gName 2) tYes (tOp (rAddA K) (tC (.int 17)) (tVar 2)) [2]) (gName 1)) (t_law_folded_4 K))
theorem rd_law_folded {K : PySem.W.Frag} (vs : List V) (H : Hp) (Q : VK) (E : XK) (h : sp_law_folded K vs H Q E) : t_law_folded K { nx := fun _ H' => Q .non H', rt := Q } (start ["script", "found", "k", "cell"] vs) H := by
  obtain ⟨_, a, ns, B, M, L, rfl, hI, ha, hl, q⟩ := h
  show t_law_folded K ⟨_, _, _, _⟩ [some (.ref a), none, none, none] H
  unfold t_law_folded
  tm_at "go"
  refine' g_aLc walk_range hI (by tm_at "wiped") (by decide) (fun i acc B' M' => B' = B ∧ M' = M ∧ ∃ cs : List Int, acc = cs.map V.int ∧ cs.length = i ∧ ∀ x ∈ cs, 0 ≤ x ∧ x < 2147483647) ⟨rfl, rfl, [], rfl, rfl, fun x hx => by cases hx⟩ (fun _ _ _ _ _ _ _ _ _ _ => trivial) ?_ ?_
  · rintro i x acc B' M' D H' H'' hi s hI' ⟨rfl, rfl, cs, rfl, hl, hb⟩ ⟨rfl, rfl⟩ hz
    tm_at "go"
    refine' g_wiped (by tm_at "wiped") ?_
    tm_at "go"
    refine' lcY s hI' hz ⟨rfl, rfl, cs ++ [17 + (0 + (i : Int))], by simp, by simp [hl], ?_⟩
    intro y hy
    rcases List.mem_append.mp hy with e | e
    · exact hb y e
    · rw [List.mem_singleton.mp e]
      have : i < 64 := hi
      omega
  rintro acc B' M' p H' s hI ⟨rfl, rfl, cs, rfl, hcl, hcb⟩ _
  have hcl : cs.length = 64 := hcl
  tm_at "go"
  -- for k, cell in enumerate(script)
  refine' g_aFor walk_enum (fun i σ H => ∃ (x y : Option V) (cs : List Int), σ = [some (.ref a), some (.ref p), x, y] ∧ Is B' M' ((p, .lst (cs.map V.int)) :: L) H ∧ cs.length = 64 ∧ ∀ x ∈ cs, 0 ≤ x ∧ x < 2147483647)
    ⟨_, _, cs, rfl, hI, hcl, hcb⟩ (fun i σ H _ ⟨_, _, cs, _, hI, _⟩ => Is.sq hI ha) ?_ ?_
  · rintro i x σ H H' hi ⟨x0, y0, cs, rfl, hI, hcl, hcb⟩ ⟨T, y, z, rfl, hT, rfl, e1, e2⟩
    cases e1
    have hin : i < ns.length := by rwa [List.length_map] at hi
    have e2 : (ns.map V.int)[i]? = some z := e2
    rw [ints_get hin] at e2
    cases e2
    have hI := hI.new (o := .tup [V.int (i : Int), V.int ns[i]]) hT
    tm_at "go"
    have hk : ((i : Int) % 64).toNat < cs.length := by omega
    refine g_ix_l (by tm_at "sq") (atI_of (by omega) (ints_get hk)) ?_
    have hv := hcb _ (List.getElem_mem hk)
    tm_at "go"
    refine' ⟨_, _, cs.set ((i : Int) % 64).toNat ((cs[((i : Int) % 64).toNat] * 48271 + ns[i]) % 2147483647), rfl, ?_, by simpa using hcl, ?_⟩
    · rw [List.map_set]
      exact hI.forget (by tm_at "sub")
    · intro x hx
      rcases List.mem_or_eq_of_mem_set hx with e | e
      · exact hcb x e
      · rw [e]
        omega
  rintro σ H ⟨x0, y0, cs, rfl, hI, hcl, hcb⟩
  tm_at "go"
  -- for k in range(1, 64)
  refine' g_aFor walk_range (fun i σ H => ∃ (x y : Option V) (cs : List Int), σ = [some (.ref a), some (.ref p), x, y] ∧ Is B' M' ((p, .lst (cs.map V.int)) :: L) H ∧ cs.length = 64 ∧ ∀ x ∈ cs, 0 ≤ x ∧ x < 2147483647)
    ⟨_, _, cs, rfl, hI, hcl, hcb⟩ (fun _ _ _ _ _ => trivial) ?_ ?_
  · rintro i x σ H H' hi ⟨x0, y0, cs, rfl, hI, hcl, hcb⟩ ⟨rfl, rfl⟩
    have hi : i < 63 := hi
    tm_at "go"
    have hk : (1 + (i : Int)).toNat < cs.length := by omega
    have hk1 : (1 + (i : Int) - 1).toNat < cs.length := by omega
    refine g_ix_l (by tm_at "sq") (atI_of (by omega) (ints_get hk)) ?_
    have hv := hcb _ (List.getElem_mem hk)
    tm_at "go"
    refine g_ix_l (by tm_at "sq") (atI_of (by omega) (ints_get hk1)) ?_
    have hv1 := hcb _ (List.getElem_mem hk1)
    tm_at "go"
    refine' ⟨_, _, cs.set (1 + (i : Int)).toNat ((cs[(1 + (i : Int)).toNat] + cs[(1 + (i : Int) - 1).toNat] * 16807) % 2147483647), rfl, ?_, by simpa using hcl, ?_⟩
    · rw [List.map_set]
      exact hI.forget (by tm_at "sub")
    · intro x hx
      rcases List.mem_or_eq_of_mem_set hx with e | e
      · exact hcb x e
      · rw [e]
        omega
  rintro σ H ⟨x0, y0, cs, rfl, hI, hcl, hcb⟩
  tm_at "go"
  exact q p cs H hcl hcb hI
def sp_law_begun (K : PySem.W.Frag) : Sp := fun vs H Q _ => vs.length = 1 ∧ ∃ (a : Addr) (ns : List Int) (B : Hp) (L : List (Addr × HO)), vs = [.ref a] ∧ Is B [] L H ∧ SqL K B a (ns.map V.int) ∧ ns.length ≤ 63 ∧
  ∀ (m : Addr) (B' : Hp) (M' : List (Addr × HO)) (H' : Hp), Same B B' → Is B' M' L H' → Dr m 0 B' M' → Q (.ref m) H'
abbrev t_law_begun_0 (K : PySem.W.Frag) : TS := (tRet (tVar 1))
abbrev t_law_begun_1 (K : PySem.W.Frag) : TS := (tSeq (sDPut (tVar 1) (tC (.str "left")) (tLc (iAny K (tVar 0)) (gName 2) tYes (tIf (tTest (tOp (rI0 fun i j => .bl (decide (j ≤ i))) (tVar 2) (tOp (rI CPow fun i j => .int (i ^ j.toNat)) (tC (.int 10)) (tC (.int 18))))) (tVar 2) (tC (.int 0))) [2])) (t_law_begun_0 K))
def t_law_begun (K : PySem.W.Frag) : TS := (tSeq (tAsg (tDisp [((tC (.str "cells")), (tCl 1 0 (sp_law_folded K) (fun vs zs => pick .non [0] (vs ++ zs)) E0 (tCons (tVar 0) tNil) tNil)), ((tC (.str "left")), (tLst tNil)), ((tC (.str "spot")), (tC (.int 0)))]) (gName 1)) (t_law_begun_1 K))
theorem rd_law_begun {K : PySem.W.Frag} (vs : List V) (H : Hp) (Q : VK) (E : XK) (h : sp_law_begun K vs H Q E) : t_law_begun K { nx := fun _ H' => Q .non H', rt := Q } (start ["script", "m", "cell"] vs) H := by
  obtain ⟨_, a, ns, B, L, rfl, hI, ha, hl, q⟩ := h
  show t_law_begun K ⟨_, _, _, _⟩ [some (.ref a), none, none] H
  unfold t_law_begun
  tm_at "go"
  revert p
  intro m hI
  refine' ⟨rfl, a, ns, B, [], _, rfl, hI, ha, hl, ?_⟩
  clear hI
  intro c cs H hcs hcb hI
  tm_at "go"
  refine' g_aLc walk_list hI (by tm_at "wiped") (by rw [List.length_map]; omega) (fun i acc B' M' => B' = B ∧ M' = [] ∧ ∃ ls : List Int, acc = ls.map V.int) ⟨rfl, rfl, [], rfl⟩ (fun _ _ _ _ _ _ _ s hI' _ => Is.sq hI' (Same.seq s ha)) ?_ ?_
  · rintro i x acc B' M' D H' H'' hi s hI' ⟨rfl, rfl, ls, rfl⟩ ⟨rfl, hx⟩ hz
    have hin : i < ns.length := by rwa [List.length_map] at hi
    rw [ints_get hin] at hx
    cases hx
    tm_at "go"
    refine' g_wiped (by tm_at "wiped") ?_
    tm_at "go"
    refine g_dec (fun h => ?_) (fun h => ?_)
    · tm_at "go"
      exact lcY s hI' hz ⟨rfl, rfl, ls ++ [ns[i]], by simp⟩
    · tm_at "go"
      exact lcY s hI' hz ⟨rfl, rfl, ls ++ [0], by simp⟩
  rintro acc B' M' l H' s hI ⟨rfl, rfl, ls, rfl⟩ _
  tm_at "go"
  have hI := hI.pull (a := l) (by tm_at "del")
  have hI := hI.pull (a := m) (by tm_at "del")
  refine' hI.give (a := c) (by tm_at "del") ?_
  clear hI
  intro B2 s2 hc hI
  exact q m B2 _ _ s2 (by tm_at "is") ⟨c, l, cs, ls, 0, rfl, hc, hcs, hcb, by omega, by omega⟩
def Ints (lo hi : Int) (xs : List V) : Prop := ∀ x ∈ xs, ∃ w, x = .int w ∧ lo ≤ w ∧ w ≤ hi
theorem Ints.nil {lo hi : Int} : Ints lo hi [] := fun _ h => by cases h
theorem Ints.cons {lo hi w : Int} {xs : List V} (h : lo ≤ w ∧ w ≤ hi) (t : Ints lo hi xs) : Ints lo hi (.int w :: xs) := fun x hx => by
  rcases List.mem_cons.mp hx with e | e
  · exact ⟨w, e, h⟩
  · exact t x e
theorem g_ix_ints {K : PySem.W.Frag} {H : Hp} {Q : VK} {a : Addr} {xs : List V} {i lo hi : Int} (hs : SqL K H a xs) (h : Ints lo hi xs) (h0 : 0 ≤ i) (h1 : i < (xs.length : Int)) (q : ∀ w, lo ≤ w → w ≤ hi → Q (.int w) H) : rIx K (.ref a) (.int i) H Q := by
  have hl : i.toNat < xs.length := by omega
  obtain ⟨w, e, s1, s2⟩ := h _ (List.getElem_mem hl)
  exact g_ix_l hs (atI_of h0 (by rw [List.getElem?_eq_getElem hl, e])) (q w s1 s2)
/-! ### small helps -/
def numT (i : Int) : Str := Str.ofString (toString i)
theorem tlInj {x y : Str} (h : TL.tl x = TL.tl y) : x = y := by
  have e := congrArg (fun l : List Nat => (⟨l.toArray⟩ : Str)) h
  exact (TL.mk_tl x).symm.trans (e.trans (TL.mk_tl y))
theorem tl_numT {i : Int} (h : 0 ≤ i) : TL.tl (numT i) = TL.numL i.toNat := by
  obtain ⟨n, rfl⟩ := Int.eq_ofNat_of_zero_le h
  exact TL.tl_num n
theorem numT_inj {i j : Int} (h0 : 0 ≤ i) (h1 : 0 ≤ j) (e : numT i = numT j) : i = j := by
  have e2 : TL.numL i.toNat = TL.numL j.toNat := by rw [← tl_numT h0, ← tl_numT h1, e]
  have := TL.numL_inj e2
  omega
theorem numT_sign {i : Int} (h : 0 ≤ i) {c : Nat} (hc : c ∈ TL.tl (numT i)) : 48 ≤ c ∧ c ≤ 57 := by
  rw [tl_numT h] at hc
  have := TL.numL_digits _ c hc
  omega
theorem name_len {z : Str} (h : isName (.str z) = true) : z.length ≤ 8 := by
  have h' : (decide (1 ≤ (z.length : Int)) && (decide ((z.length : Int) ≤ 8) && (!inV (.str z) barVs && z.cps.toList.all fun c => decide (c ∈ letS.cps.toList)))) = true := h
  simp only [Bool.and_eq_true] at h'
  have := of_decide_eq_true h'.2.1
  omega
theorem name_sh {z : Str} (h : isName (.str z) = true) (hp : plainS z) : Sh 8 z := ⟨name_len h, hp.2⟩
theorem numT_sh {i : Int} (h0 : 0 ≤ i) (h1 : i < 10 ^ 18) : Sh 18 (numT i) := Sh.num h0 (by decide) (by omega)
theorem sh_bl : Sh 1 (" " : Str) := Sh.lit (by decide +kernel)
theorem len_join (y : Str) : ∀ {zs : List Str} {n : Nat}, (∀ z ∈ zs, z.length ≤ n) → (zs.map (·.length)).sum ≤ n * zs.length
  | [], _, _ => Nat.zero_le _
  | z :: zs, n, h => by
    rw [List.map_cons, List.sum_cons, List.length_cons, Nat.mul_succ]
    have := h z List.mem_cons_self
    have := len_join y (zs := zs) (n := n) fun x hx => h x (List.mem_cons_of_mem _ hx)
    omega
theorem map_str (zs : List Str) (z : Str) : (zs.map V.str) ++ [V.str z] = (zs ++ [z]).map V.str := by simp
theorem all_true {α : Type} {l : List α} : l.all (fun _ => true) = true := List.all_eq_true.mpr fun _ _ => rfl
theorem log2_smallI {n : Int} (h0 : -(2 ^ 200) < n) (h : n < 2 ^ 200) : n.natAbs.log2 < 1920 := by
  by_cases hz : n.natAbs = 0
  · rw [hz]
    decide
  · refine Nat.lt_of_lt_of_le ((Nat.log2_lt hz).mpr (?_ : n.natAbs < 2 ^ 200)) (by decide)
    omega
theorem shn_int {n : Int} {k : Nat} (h0 : -(2 ^ 200) < n) (h : n < 2 ^ 200) : Shn (.int n) 2000 k := .int (log2_smallI h0 h)
theorem Is.thaw {B H : Hp} {M L : List (Addr × HO)} {a : Addr} {o : HO} (I : Is (upd B a o) M L H) (h : B a = none) : Is B M ((a, o) :: L) H := by
  have hne : ∀ q ∈ L ++ M, q.1 ≠ a := fun q hq z => by
    have := (I.own q hq).2
    rw [z, upd_same] at this
    cases this
  refine ⟨fun b x e => I.ex b x (by rw [upd_ne (fun z => by rw [z, h] at e; cases e)]; exact e), fun q hq => ?_, ?_⟩
  · rcases List.mem_cons.mp (show q ∈ (a, o) :: (L ++ M) from hq) with rfl | hq
    · exact ⟨I.ex _ _ upd_same, h⟩
    · have h2 := I.own q hq
      refine ⟨h2.1, ?_⟩
      have := h2.2
      rw [upd_ne (hne q hq)] at this
      exact this
  · show ((((a, o) :: (L ++ M)).map (·.1))).Nodup
    refine List.nodup_cons.mpr ⟨fun z => ?_, I.nd⟩
    obtain ⟨q, hq, e⟩ := List.mem_map.mp z
    exact hne q hq e
theorem ap_is_nameT {K : PySem.W.Frag} {H : Hp} {Q : VK} {E : XK} {x : V} {k : Kn} {B : Hp} {M L : List (Addr × HO)} (I : Is B M L H) (h : Thing K H x k) (q : ∀ H', Is B M L H' → Q (.bl (isName x)) H') : sp_is_name K [x] H Q E := ⟨rfl, x, k, B, M, L, rfl, I, h, q⟩
theorem isWhole_t {n lo hi : Int} (h1 : lo ≤ n) (h2 : n ≤ hi) : isWhole (.int n) lo hi = true := by
  show (decide (lo ≤ n) && decide (n ≤ hi)) = true
  rw [decide_eq_true h1, decide_eq_true h2]
  rfl
theorem ap_is_whole_t {K : PySem.W.Frag} {H : Hp} {Q : VK} {E : XK} {n lo hi : Int} (h1 : lo ≤ n) (h2 : n ≤ hi) (q : Q (.bl true) H) : sp_is_whole K [.int n, .int lo, .int hi] H Q E := ⟨rfl, .int n, .int, lo, hi, rfl, thing_int n, by rw [isWhole_t h1 h2]; exact q⟩
theorem ap_is_whole {K : PySem.W.Frag} {H : Hp} {Q : VK} {E : XK} {x : V} {k : Kn} {lo hi : Int} (h : Thing K H x k) (q : Q (.bl (isWhole x lo hi)) H) : sp_is_whole K [x, .int lo, .int hi] H Q E := ⟨rfl, x, k, lo, hi, rfl, h, q⟩
theorem sqT_same {K : PySem.W.Frag} {B B' : Hp} {a : Addr} {xs : List V} (s : Same B B') (h : SqT K B a xs) : SqT K B' a xs := by
  rcases h with (h | ⟨o, h⟩) | h
  · exact .inl (.inl (s _ _ h))
  · exact .inl (.inr ⟨o, s _ _ h⟩)
  · exact .inr h
theorem thing_sqT {K : PySem.W.Frag} {B : Hp} {a : Addr} {xs : List V} (h : SqT K B a xs) : Thing K B (.ref a) .tup := by
  rcases h with (h | ⟨o, h⟩) | h
  · exact thing_tup h
  · exact ⟨⟨_, .fTuple h, kit_tuple⟩, .inr (.inl rfl)⟩
  · obtain ⟨o, its, n, e, c, _⟩ := h
    exact ⟨⟨_, .kTuple e c, kit_tuple⟩, .inr (.inl rfl)⟩
theorem noTup {k : Kn} (n : k ≠ .tup) : k.is "tuple" = false := by
  cases k <;> first | rfl | exact absurd rfl n
def Things (K : PySem.W.Frag) (B : Hp) (xs : List V) : Prop := ∀ x ∈ xs, ∃ k, Thing K B x k
theorem Things.same {K : PySem.W.Frag} {H H' : Hp} {xs : List V} (s : Same H H') (h : Things K H xs) : Things K H' xs := fun x hx => by
  obtain ⟨k, t⟩ := h x hx
  exact ⟨k, Thing.same s t⟩
theorem Things.nil {K : PySem.W.Frag} {B : Hp} : Things K B [] := fun _ h => by cases h
theorem Things.cons {K : PySem.W.Frag} {B : Hp} {x : V} {k : Kn} {xs : List V} (h : Thing K B x k) (t : Things K B xs) : Things K B (x :: xs) := fun y hy => by
  rcases List.mem_cons.mp hy with e | e
  · rw [e]
    exact ⟨k, h⟩
  · exact t y e
theorem Things.app {K : PySem.W.Frag} {B : Hp} {xs ys : List V} (h : Things K B xs) (t : Things K B ys) : Things K B (xs ++ ys) := fun y hy => by
  rcases List.mem_append.mp hy with e | e
  · exact h y e
  · exact t y e
theorem Txs.things {K : PySem.W.Frag} {B : Hp} {n : Nat} {xs : List V} (h : Txs n xs) (hn : n ≤ 100000) : Things K B xs := fun x hx => by
  obtain ⟨z, rfl, s⟩ := h x hx
  exact ⟨.str, thing_str (s.plain hn)⟩
theorem g_repTT {K : PySem.W.Frag} {B H : Hp} {M L : List (Addr × HO)} {Q : VK} {l : Addr} {xs : List V} {k : Int} (I : Is B M L H) (h : SqT K H l xs) (hne : xs ≠ []) (h1 : 2 ≤ k) (h2 : k ≤ 100000) (hz : xs.length ≤ 10)
    (q : ∀ p H', Is B M ((p, .tup (List.replicate k.toNat xs).flatten) :: L) H' → Q (.ref p) H') : rRepTT K (.ref l) (.int k) H Q :=
  ⟨l, k, xs, rfl, rfl, h, hne, h1, h2, hz, fun p hp => q p _ (I.new hp)⟩
theorem rep_len (x : V) : ∀ n, (List.replicate n [x]).flatten.length = n
  | 0 => rfl
  | n + 1 => by
    have ih := rep_len x n
    rw [List.replicate_succ, List.flatten_cons, List.length_append, ih, List.length_singleton]
    omega
theorem cutV_mem {xs : List V} {lo hi : Option Int} {x : V} (h : x ∈ cutV xs lo hi) : x ∈ xs := List.mem_of_mem_drop (List.mem_of_mem_take h)
theorem cutV_len (xs : List V) (lo hi : Option Int) : (cutV xs lo hi).length ≤ xs.length := by
  unfold cutV
  rw [List.length_take, List.length_drop]
  omega
theorem Things.cut {K : PySem.W.Frag} {B : Hp} {xs : List V} (h : Things K B xs) (lo hi : Option Int) : Things K B (cutV xs lo hi) := fun x hx => h x (cutV_mem hx)
theorem ap_law_begun {K : PySem.W.Frag} {B H : Hp} {L : List (Addr × HO)} {Q : VK} {E : XK} {a : Addr} {ns : List Int} (I : Is B [] L H) (h : SqL K B a (ns.map V.int)) (hl : ns.length ≤ 63) (q : ∀ (m : Addr) (B' : Hp) (M' : List (Addr × HO)) (H' : Hp), Same B B' → Is B' M' L H' → Dr m 0 B' M' → Q (.ref m) H') : sp_law_begun K [.ref a] H Q E :=
  ⟨rfl, a, ns, B, L, rfl, I, h, hl, q⟩
theorem g_ix_tt {K : PySem.W.Frag} {B H : Hp} {Q : VK} {a : Addr} {xs : List V} {i : Int} (hs : SqT K H a xs) (h : Things K B xs) (h0 : 0 ≤ i) (h1 : i < (xs.length : Int)) (q : ∀ x k, Thing K B x k → Q x H) : rIx K (.ref a) (.int i) H Q := by
  have hl : i.toNat < xs.length := by omega
  obtain ⟨k, t⟩ := h _ (List.getElem_mem hl)
  exact g_ix_t hs (atI_of h0 (List.getElem?_eq_getElem hl)) (q _ k t)
theorem g_ix_tl {K : PySem.W.Frag} {B H : Hp} {Q : VK} {a : Addr} {xs : List V} {i : Int} (hs : SqL K H a xs) (h : Things K B xs) (h0 : 0 ≤ i) (h1 : i < (xs.length : Int)) (q : ∀ x k, Thing K B x k → Q x H) : rIx K (.ref a) (.int i) H Q := by
  have hl : i.toNat < xs.length := by omega
  obtain ⟨k, t⟩ := h _ (List.getElem_mem hl)
  exact g_ix_l hs (atI_of h0 (List.getElem?_eq_getElem hl)) (q _ k t)
theorem Is.push {B H : Hp} {M L : List (Addr × HO)} {a : Addr} {o : HO} (I : Is B ((a, o) :: M) L H) : Is B M ((a, o) :: L) H := by
  have pm : (((a, o) :: L) ++ M).Perm (L ++ ((a, o) :: M)) := List.perm_middle.symm
  exact ⟨I.ex, fun q hq => I.own q (pm.mem_iff.mp hq), (pm.map (·.1)).nodup_iff.mpr I.nd⟩
theorem Is.freeze {H : Hp} {M L : List (Addr × HO)} : ∀ {B : Hp} (L2 : List (Addr × HO)), Is B M (L2 ++ L) H → ∃ B', Same B B' ∧ (∀ p ∈ L2, B' p.1 = some p.2) ∧ Is B' M L H
  | B, [], I => ⟨B, fun _ _ e => e, fun _ h => (by cases h), I⟩
  | B, (a, o) :: L2, I => by
    obtain ⟨I1, s1⟩ := Is.frz I .here
    obtain ⟨B', s, h, I2⟩ := Is.freeze L2 I1
    refine ⟨B', s1.trans s, fun p hp => ?_, I2⟩
    rcases List.mem_cons.mp hp with rfl | hp
    · exact s _ _ upd_same
    · exact h p hp
theorem g_allT {K : PySem.W.Frag} {H : Hp} {Q : VK} {D : Addr} {n : Nat} (h : SqL K H D ((List.replicate n true).map V.bl)) (q : Q (.bl true) H) : rAll K [.ref D] H Q := by
  refine g_all (P := fun b => b) h ?_
  rw [show (List.replicate n true).all (fun b => b) = true from List.all_eq_true.mpr fun x hx => (List.mem_replicate.mp hx).2]
  exact q
theorem rep_snoc {i : Nat} {acc : List V} (h : acc = (List.replicate i true).map V.bl) : acc ++ [.bl true] = (List.replicate (i + 1) true).map V.bl := by
  rw [h, List.replicate_succ', List.map_append]
  rfl
/-! ### steps and styles, odd ones too -/
def kndL : List (Str × Str) := [("sew", "hand"), ("glue", "hand"), ("cover", "hand"), ("letter", "hand"), ("press", "press")]
def kindV (x : V) : V := match x with
  | .str z => (match kndL.lookup z with
    | some v => .str v
    | none => .non)
  | _ => .non
theorem lookup_mem {z v : Str} : ∀ {l : List (Str × Str)}, l.lookup z = some v → (z, v) ∈ l
  | [], h => by cases h
  | (a, b) :: l, h => by
    rw [List.lookup_cons] at h
    split at h
    · rename_i e
      have e := eq_of_beq e
      subst e
      cases h
      exact List.mem_cons_self
    · exact List.mem_cons_of_mem _ (lookup_mem h)
theorem lookup_no {z : Str} : ∀ {l : List (Str × Str)}, l.lookup z = none → ∀ q ∈ l, q.1 ≠ z
  | [], _, q, hq => by cases hq
  | (a, b) :: l, h, q, hq => by
    rw [List.lookup_cons] at h
    split at h
    · cases h
    · rename_i e
      rcases List.mem_cons.mp hq with rfl | hq
      · intro z'
        have z'' : a = z := z'
        rw [z''] at e
        simp at e
      · exact lookup_no h q hq
def sp_kind_of (K : PySem.W.Frag) : Sp := fun vs H Q _ => vs.length = 1 ∧ ∃ (x : V) (k : Kn), vs = [x] ∧ Thing K H x k ∧ Q (kindV x) H
theorem ap_kind_of {K : PySem.W.Frag} {H : Hp} {Q : VK} {E : XK} {x : V} {k : Kn} (h : Thing K H x k) (q : Q (kindV x) H) : sp_kind_of K [x] H Q E := ⟨rfl, x, k, rfl, h, q⟩
def t_kind_of (K : PySem.W.Frag) : TS := (tRet (tIf (tTr K (tCB (rIsi K) (tCons (tVar 0) (tCons (tC (.ty "str")) tNil)))) (tKGet (He.ga K "KINDS") [("sew", "hand"), ("glue", "hand"), ("cover", "hand"), ("letter", "hand"), ("press", "press")] (tVar 0)) (tC .non)))
theorem rd_kind_of {K : PySem.W.Frag} (vs : List V) (H : Hp) (Q : VK) (E : XK) (h : sp_kind_of K vs H Q E) : t_kind_of K { nx := fun _ H' => Q .non H', rt := Q } (start ["work"] vs) H := by
  obtain ⟨_, x, k, rfl, hx, q⟩ := h
  show t_kind_of K ⟨_, _, _, _⟩ [some x] H
  unfold t_kind_of
  tm_at "go"
  refine hx.cases ?_ ?_ ?_ ?_ ?_
  · rintro rfl rfl
    tm_at "go"
    exact q
  · rintro b rfl rfl
    tm_at "go"
    exact q
  · rintro i rfl rfl
    tm_at "go"
    exact q
  · rintro z rfl rfl hp
    tm_at "go"
    refine' g_kget ?_
    tm_at "go"
    have q' : Q (match kndL.lookup z with | some v => .str v | none => .non) H := q
    cases e : kndL.lookup z with
    | some v =>
      rw [e] at q'
      exact g_kgot (lookup_mem e) q'
    | none =>
      rw [e] at q'
      exact g_kno (lookup_no e) q'
  · rintro a rfl hk
    refine g_isiF hx (by decide) (Kn.noInt hk).2.2 ?_
    tm_at "go"
    exact q
/-! a step, by its parts -/
def stepB (x y z : V) : Bool := !decide (kindV x = .non) && (isWhole y 1 240 && isWhole z 0 240)
inductive OddS (K : PySem.W.Frag) (B : Hp) : V → Bool → Prop
  | no {x : V} {k : Kn} (h : Thing K B x k) (n : k ≠ .tup) : OddS K B x false
  | len {a : Addr} {vs : List V} (h : SqT K B a vs) (n : vs.length ≠ 3) : OddS K B (.ref a) false
  | row {a : Addr} {x y z : V} {k1 k2 k3 : Kn} (h : SqT K B a [x, y, z]) (h1 : Thing K B x k1) (h2 : Thing K B y k2) (h3 : Thing K B z k3) : OddS K B (.ref a) (stepB x y z)
theorem OddS.same {K : PySem.W.Frag} {B B' : Hp} {x : V} {b : Bool} (h : OddS K B x b) (s : Same B B') : OddS K B' x b := by
  cases h with
  | no h n => exact .no (Thing.same s h) n
  | len h n => exact .len (sqT_same s h) n
  | row h h1 h2 h3 => exact .row (sqT_same s h) (Thing.same s h1) (Thing.same s h2) (Thing.same s h3)
def sp_is_step (K : PySem.W.Frag) : Sp := fun vs H Q _ => vs.length = 1 ∧ ∃ (x : V) (b : Bool) (B : Hp) (M L : List (Addr × HO)), vs = [x] ∧ Is B M L H ∧ OddS K B x b ∧ ∀ H', Is B M L H' → Q (.bl b) H'
theorem ap_is_step {K : PySem.W.Frag} {H : Hp} {Q : VK} {E : XK} {x : V} {b : Bool} {B : Hp} {M L : List (Addr × HO)} (I : Is B M L H) (h : OddS K B x b) (q : ∀ H', Is B M L H' → Q (.bl b) H') : sp_is_step K [x] H Q E := ⟨rfl, x, b, B, M, L, rfl, I, h, q⟩
abbrev t_is_step_0 (K : PySem.W.Frag) : TS := (tRet (tAndV (tCl 2 1 (sp_is_whole K) (fun vs zs => pick .non [0, 1, 2] (vs ++ (zs ++ [.int 1000000]))) E0 (tCons (tOp (rIx K) (tVar 0) (tC (.int 1))) (tCons (tC (.int 1)) tNil)) (tCons (tC (.int 240)) tNil)) (tCl 2 1 (sp_is_whole K) (fun vs zs => pick .non [0, 1, 2] (vs ++ (zs ++ [.int 1000000]))) E0 (tCons (tOp (rIx K) (tVar 0) (tC (.int 2))) (tCons (tC (.int 0)) tNil)) (tCons (tC (.int 240)) tNil))))
def t_is_step (K : PySem.W.Frag) : TS := (tSeq (tIfS (tOr (tNot (tTr K (tCB (rIsi K) (tCons (tVar 0) (tCons (tC (.ty "tuple")) tNil))))) (tOr (tTest (tOp (rNeA K) (tCB (rLen K) (tCons (tVar 0) tNil)) (tC (.int 3)))) (tTest (tOp rIsNo (tCl 1 0 (sp_kind_of K) (fun vs zs => pick .non [0] (vs ++ zs)) E0 (tCons (tOp (rIx K) (tVar 0) (tC (.int 0))) tNil) tNil) (tC .non))))) (tRet (tC (.bl false))) tNext) (t_is_step_0 K))
theorem rd_is_step {K : PySem.W.Frag} (vs : List V) (H : Hp) (Q : VK) (E : XK) (h : sp_is_step K vs H Q E) : t_is_step K { nx := fun _ H' => Q .non H', rt := Q } (start ["thing"] vs) H := by
  obtain ⟨_, x, b, B, M, L, rfl, hI, hx, q⟩ := h
  show t_is_step K ⟨_, _, _, _⟩ [some x] H
  unfold t_is_step
  cases hx with
  | no h n =>
    tm_at "go"
    refine g_isiF (Thing.same hI.ex h) (by decide) (noTup n) ?_
    tm_at "go"
    exact q _ hI
  | len h n =>
    have hT : Thing K B _ .tup := thing_sqT h
    tm_at "go"
    refine g_ndec (fun _ => ?_) (fun e => absurd (by have := V.int.inj e; omega) n)
    tm_at "go"
    exact q _ hI
  | @row a x y z k1 k2 k3 h h1 h2 h3 =>
    have hT : Thing K B _ .tup := thing_sqT h
    tm_at "go"
    refine g_ndec (fun e => absurd rfl e) (fun _ => ?_)
    tm_at "go"
    refine g_ix_t (by tm_at "st") (atI_of (by decide) rfl) ?_
    tm_at "go"
    refine' ap_kind_of (K := K) (Thing.same hI.ex h1) ?_
    tm_at "go"
    refine g_dec (fun e => ?_) (fun e => ?_)
    · tm_at "go"
      have eb : stepB x y z = false := by
        unfold stepB
        rw [decide_eq_true e]
        rfl
      rw [eb] at q
      exact q _ hI
    · tm_at "go"
      have eb : stepB x y z = (isWhole y 1 240 && isWhole z 0 240) := by
        unfold stepB
        rw [decide_eq_false e]
        rfl
      rw [eb] at q
      refine g_ix_t (by tm_at "st") (atI_of (by decide) rfl) ?_
      tm_at "go"
      refine' ap_is_whole (K := K) (Thing.same hI.ex h2) ?_
      tm_at "go"
      refine g_b (fun e1 => ?_) (fun e1 => ?_)
      · rw [e1, Bool.true_and] at q
        tm_at "go"
        refine g_ix_t (by tm_at "st") (atI_of (by decide) rfl) ?_
        tm_at "go"
        exact ap_is_whole (K := K) (Thing.same hI.ex h3) (q _ hI)
      · rw [e1, Bool.false_and] at q
        exact q _ hI
theorem stepB_t {x y z : V} (h : stepB x y z = true) : (∃ w, x = .str w) ∧ (∃ n, y = .int n ∧ 1 ≤ n ∧ n ≤ 240) ∧ ∃ t, z = .int t ∧ 0 ≤ t ∧ t ≤ 240 := by
  unfold stepB at h
  simp only [Bool.and_eq_true, Bool.not_eq_true'] at h
  obtain ⟨h1, h2, h3⟩ := h
  have h1 := of_decide_eq_false h1
  refine ⟨?_, ?_, ?_⟩
  · cases x with
    | str w => exact ⟨w, rfl⟩
    | _ => exact absurd rfl h1
  · cases y with
    | int n =>
      have h2 : (decide (1 ≤ n) && decide (n ≤ 240)) = true := h2
      simp only [Bool.and_eq_true, decide_eq_true_eq] at h2
      exact ⟨n, rfl, h2.1, h2.2⟩
    | _ => cases h2
  · cases z with
    | int n =>
      have h3 : (decide (0 ≤ n) && decide (n ≤ 240)) = true := h3
      simp only [Bool.and_eq_true, decide_eq_true_eq] at h3
      exact ⟨n, rfl, h3.1, h3.2⟩
    | _ => cases h3
theorem odd_true {K : PySem.W.Frag} {B : Hp} {x : V} {b : Bool} (h : OddS K B x b) (hb : b = true) : ∃ (a : Addr) (w : Str) (n t : Int), x = .ref a ∧ SqT K B a [.str w, .int n, .int t] ∧ plainS w ∧ (1 ≤ n ∧ n ≤ 240) ∧ 0 ≤ t ∧ t ≤ 240 := by
  cases h with
  | no h n => cases hb
  | len h n => cases hb
  | row h h1 h2 h3 =>
    obtain ⟨⟨w, rfl⟩, ⟨n, rfl, n1, n2⟩, t, rfl, t1, t2⟩ := stepB_t hb
    exact ⟨_, w, n, t, rfl, h, h1.fit.2, ⟨n1, n2⟩, t1, t2⟩
/-! lists or tuples -/
def SqA (K : PySem.W.Frag) (H : Hp) (a : Addr) (xs : List V) : Prop := SqL K H a xs ∨ SqT K H a xs
theorem thing_sqL {K : PySem.W.Frag} {B : Hp} {a : Addr} {xs : List V} (h : SqL K B a xs) : Thing K B (.ref a) .lst := by
  rcases h with (h | ⟨o, h⟩) | h
  · exact thing_lst h
  · exact ⟨⟨_, .base (.frz h), kit_list⟩, .inl rfl⟩
  · obtain ⟨o, its, n, e, c, _⟩ := h
    exact ⟨⟨_, .kList e c, kit_list⟩, .inl rfl⟩
/-- held by what is known: B for good, L owned -/
def Hold (K : PySem.W.Frag) (B : Hp) (M L : List (Addr × HO)) (a : Addr) (xs : List V) : Prop := (∀ H, Is B M L H → SqL K H a xs) ∨ ∀ H, Is B M L H → SqT K H a xs
theorem Hold.at {K : PySem.W.Frag} {B H : Hp} {M L : List (Addr × HO)} {a : Addr} {xs : List V} (h : Hold K B M L a xs) (I : Is B M L H) : SqA K H a xs := by
  rcases h with h | h
  · exact .inl (h _ I)
  · exact .inr (h _ I)
theorem Hold.sub {K : PySem.W.Frag} {B : Hp} {M L L' : List (Addr × HO)} {a : Addr} {xs : List V} (h : Hold K B M L a xs) (s : L.Sublist L') : Hold K B M L' a xs := by
  rcases h with h | h
  · exact .inl fun H I => h H (I.forget s)
  · exact .inr fun H I => h H (I.forget s)
theorem hold_bl {K : PySem.W.Frag} {B : Hp} {M L : List (Addr × HO)} {a : Addr} {xs : List V} (h : SqL K B a xs) : Hold K B M L a xs := .inl fun _ I => Is.sq I h
theorem hold_bt {K : PySem.W.Frag} {B : Hp} {M L : List (Addr × HO)} {a : Addr} {xs : List V} (h : SqT K B a xs) : Hold K B M L a xs := .inr fun _ I => Is.st I h
theorem hold_l {K : PySem.W.Frag} {B : Hp} {M L : List (Addr × HO)} {a : Addr} {xs : List V} (h : (a, HO.lst xs) ∈ L) : Hold K B M L a xs := .inl fun _ I => SqL.of (I.get h)
theorem hold_t {K : PySem.W.Frag} {B : Hp} {M L : List (Addr × HO)} {a : Addr} {xs : List V} (h : (a, HO.tup xs) ∈ L) : Hold K B M L a xs := .inr fun _ I => SqT.of (I.get h)
abbrev OddL (K : PySem.W.Frag) (B : Hp) (xs : List V) (bs : List Bool) : Prop := All2 (OddS K B) xs bs
theorem OddL.same {K : PySem.W.Frag} {B B' : Hp} {xs : List V} {bs : List Bool} (h : OddL K B xs bs) (s : Same B B') : OddL K B' xs bs := All2.mono (fun _ _ h => OddS.same h s) h
/-- rows as a style wants them, or none -/
inductive OddR (K : PySem.W.Frag) (B : Hp) (M L : List (Addr × HO)) : V → Option (List V) → Prop
  | no {x : V} {k : Kn} (h : Thing K B x k) (n : (k.is "list" || k.is "tuple") = false) : OddR K B M L x none
  | len {a : Addr} {xs : List V} (h : Hold K B M L a xs) (n : ¬ (1 ≤ xs.length ∧ xs.length ≤ 12)) : OddR K B M L (.ref a) none
  | row {a : Addr} {xs : List V} {bs : List Bool} (h : Hold K B M L a xs) (hr : OddL K B xs bs) (n1 : 1 ≤ xs.length) (n2 : xs.length ≤ 12) : OddR K B M L (.ref a) (if (bs.all fun b => b) = true then some xs else none)
theorem OddR.sub {K : PySem.W.Frag} {B : Hp} {M L L' : List (Addr × HO)} {x : V} {o : Option (List V)} (h : OddR K B M L x o) (s : L.Sublist L') : OddR K B M L' x o := by
  cases h with
  | no h n => exact .no h n
  | len h n => exact .len (h.sub s) n
  | row h hr n1 n2 => exact .row (h.sub s) hr n1 n2
theorem OddR.hold {K : PySem.W.Frag} {B : Hp} {M L : List (Addr × HO)} {x : V} {o : Option (List V)} {xs : List V} (h : OddR K B M L x o) (e : o = some xs) : ∃ a, x = .ref a ∧ Hold K B M L a xs := by
  cases h with
  | no h n => cases e
  | len h n => cases e
  | row h hr n1 n2 =>
    split at e
    · cases e
      exact ⟨_, rfl, h⟩
    · cases e
theorem isSome_if {b : Bool} {xs : List V} : (if b = true then some xs else none).isSome = b := by cases b <;> rfl
theorem g_len_a {K : PySem.W.Frag} {H : Hp} {Q : VK} {p : Addr} {xs : List V} (h : SqA K H p xs) (q : Q (.int (xs.length : Int)) H) : rLen K [.ref p] H Q := by
  rcases h with h | h
  · exact g_len_l h q
  · exact g_len_t h q
theorem g_isiA {K : PySem.W.Frag} {H : Hp} {Q : VK} {p tp : Addr} {xs : List V} (ht : H tp = some (.tup [.ty "list", .ty "tuple"])) (h : SqA K H p xs) (q : Q (.bl true) H) : rIsiT K [.ref p, .ref tp] H Q := by
  rcases h with h | h
  · exact g_isi2T ht (thing_sqL h) (by decide) (by decide) (by decide) q
  · exact g_isi2T ht (thing_sqT h) (by decide) (by decide) (by decide) q
def sp_are_steps (K : PySem.W.Frag) : Sp := fun vs H Q _ => vs.length = 1 ∧ ∃ (x : V) (o : Option (List V)) (B : Hp) (M L : List (Addr × HO)), vs = [x] ∧ Is B M L H ∧ OddR K B M L x o ∧ ∀ H', Is B M L H' → Q (.bl o.isSome) H'
theorem ap_are_steps {K : PySem.W.Frag} {H : Hp} {Q : VK} {E : XK} {x : V} {o : Option (List V)} {B : Hp} {M L : List (Addr × HO)} (I : Is B M L H) (h : OddR K B M L x o) (q : ∀ H', Is B M L H' → Q (.bl o.isSome) H') : sp_are_steps K [x] H Q E := ⟨rfl, x, o, B, M, L, rfl, I, h, q⟩
abbrev t_are_steps_0 (K : PySem.W.Frag) : TS := (tRet (tCB (rAll K) (tCons (tLc (iAny K (tVar 0)) (gName 1) tYes (tCl 1 0 (sp_is_step K) (fun vs zs => pick .non [0] (vs ++ zs)) E0 (tCons (tVar 1) tNil) tNil) [1]) tNil)))
def t_are_steps (K : PySem.W.Frag) : TS := (tSeq (tIfS (tOr (tNot (tTr K (tCB (rIsiT K) (tCons (tVar 0) (tCons (tTup (tCons (tC (.ty "list")) (tCons (tC (.ty "tuple")) tNil))) tNil))))) (tNot (tTest (tChain (rI0 fun i j => .bl (decide (i ≤ j))) (rI0 fun i j => .bl (decide (i ≤ j))) (tC (.int 1)) (tCB (rLen K) (tCons (tVar 0) tNil)) (tC (.int 12)))))) (tRet (tC (.bl false))) tNext) (t_are_steps_0 K))
theorem rd_are_steps {K : PySem.W.Frag} (vs : List V) (H : Hp) (Q : VK) (E : XK) (h : sp_are_steps K vs H Q E) : t_are_steps K { nx := fun _ H' => Q .non H', rt := Q } (start ["thing", "step"] vs) H := by
  obtain ⟨_, x, o, B, M, L, rfl, hI, hx, q⟩ := h
  show t_are_steps K ⟨_, _, _, _⟩ [some x, none] H
  unfold t_are_steps
  tm_at "go"
  cases hx with
  | no h n =>
    refine g_isi2F (by tm_at "hp") (Thing.same hI.ex h) (by decide) (by decide) n ?_
    tm_at "go"
    exact q _ (hI.forget (by tm_at "sub"))
  | @len a xs h n =>
    have hA := h.at (hI.forget (by tm_at "sub"))
    refine g_isiA (by tm_at "hp") hA ?_
    tm_at "go"
    refine g_len_a hA ?_
    tm_at "go"
    refine g_dec (fun h1 => ?_) (fun h1 => ?_)
    · tm_at "go"
      refine g_ndec (fun _ => ?_) (fun h2 => absurd ⟨by omega, by omega⟩ n)
      tm_at "go"
      exact q _ (hI.forget (by tm_at "sub"))
    · tm_at "go"
      exact q _ (hI.forget (by tm_at "sub"))
  | @row a xs bs h hr n1 n2 =>
    rw [isSome_if] at q
    have hl := hr.len
    have hA := h.at (hI.forget (by tm_at "sub"))
    refine g_isiA (by tm_at "hp") hA ?_
    tm_at "go"
    refine g_len_a hA ?_
    tm_at "go"
    refine g_dec (fun _ => ?_) (fun h => absurd (by omega) h)
    tm_at "go"
    refine g_ndec (fun h => absurd (by omega) h) (fun _ => ?_)
    tm_at "go"
    replace hI := hI.forget (L' := L) (by tm_at "sub")
    clear hA
    have step : ∀ (i : Nat) (x y : V) (D : Addr) (acc : List V) (H' : Hp), xs[i]? = some x → (bs.map V.bl)[i]? = some y → Is B M ((D, .lst acc) :: L) H' → ∃ b, y = .bl b ∧ OddS K B x b := by
      intro i x y D acc H' hx hy hI
      obtain ⟨b, e, hb⟩ := hr.get hx
      refine ⟨b, ?_, hb⟩
      rw [List.getElem?_map, e] at hy
      exact (Option.some.inj hy).symm
    rcases h with h | h
    · have hs := h _ hI
      tm_at "go"
      refine' g_lcX (xs := xs) (bs.map V.bl) (by rw [List.length_map, hl]) walk_list hI (by tm_at "wiped") (by omega) (fun D acc H' I => h _ (I.forget (by tm_at "sub"))) ?_ ?_
      · intro i x y D acc H' hx hy hI PY q
        obtain ⟨b, rfl, hb⟩ := step i x y D acc H' hx hy hI
        tm_at "go"
        refine' g_wiped (by tm_at "wiped") ?_
        tm_at "go"
        exact ap_is_step (K := K) hI hb fun H4 hI => q _ hI
      · intro D H' hI
        tm_at "go"
        refine g_all (l := bs) (P := fun b => b) (by tm_at "sq") ?_
        exact q _ (hI.forget (by tm_at "sub"))
    · have hs := h _ hI
      tm_at "go"
      refine' g_lcX (xs := xs) (bs.map V.bl) (by rw [List.length_map, hl]) walk_tup hI (by tm_at "wiped") (by omega) (fun D acc H' I => h _ (I.forget (by tm_at "sub"))) ?_ ?_
      · intro i x y D acc H' hx hy hI PY q
        obtain ⟨b, rfl, hb⟩ := step i x y D acc H' hx hy hI
        tm_at "go"
        refine' g_wiped (by tm_at "wiped") ?_
        tm_at "go"
        exact ap_is_step (K := K) hI hb fun H4 hI => q _ hI
      · intro D H' hI
        tm_at "go"
        refine g_all (l := bs) (P := fun b => b) (by tm_at "sq") ?_
        exact q _ (hI.forget (by tm_at "sub"))
/-! ### styles -/
abbrev StepT : Type := Str × Int × Int
def StepR (B : Hp) (x : V) (r : StepT) : Prop := ∃ a, x = .ref a ∧ B a = some (.tup [.str r.1, .int r.2.1, .int r.2.2])
abbrev StepsB (B : Hp) (xs : List V) (rs : List StepT) : Prop := All2 (StepR B) xs rs
theorem StepsB.same {B B' : Hp} {xs : List V} {rs : List StepT} (h : StepsB B xs rs) (s : Same B B') : StepsB B' xs rs := All2.mono (fun _ _ ⟨a, e, h⟩ => ⟨a, e, s _ _ h⟩) h
def WorkOk (z : Str) : Prop := ∃ k, (z, k) ∈ kndL
theorem work_sh {z : Str} (h : WorkOk z) : Sh 6 z := by
  obtain ⟨k, h⟩ := h
  simp only [kndL, List.mem_cons, Prod.mk.injEq, List.not_mem_nil, or_false] at h
  rcases h with ⟨rfl, _⟩ | ⟨rfl, _⟩ | ⟨rfl, _⟩ | ⟨rfl, _⟩ | ⟨rfl, _⟩ <;> exact Sh.lit (by decide +kernel)
def StepG (r : StepT) : Prop := WorkOk r.1 ∧ 1 ≤ r.2.1 ∧ r.2.1 ≤ 240 ∧ 0 ≤ r.2.2 ∧ r.2.2 ≤ 240
structure GoodT (nm : Str) (rs : List StepT) : Prop where
  nm : isName (.str nm) = true ∧ plainS nm
  l0 : 1 ≤ rs.length
  l1 : rs.length ≤ 12
  row : ∀ r ∈ rs, StepG r
structure StyleC (K : PySem.W.Frag) : Prop where
  cl : Cls K (He.ga K "Style")
  n1 : NoAttr K (He.ga K "Style") "called"
  n2 : NoAttr K (He.ga K "Style") "step_rows"
structure StyleAt (K : PySem.W.Frag) (B : Hp) (x : Addr) (nm : Str) (rs : List StepT) : Prop where
  ex : ∃ (dx cr : Addr) (xs : List V), B x = some (.ins (He.ga K "Style") dx [("called", .str nm), ("step_rows", .ref cr)]) ∧ B cr = some (.lst xs) ∧ StepsB B xs rs
  good : GoodT nm rs
theorem StyleAt.same {K : PySem.W.Frag} {B B' : Hp} {x : Addr} {nm : Str} {rs : List StepT} (h : StyleAt K B x nm rs) (e : Same B B') : StyleAt K B' x nm rs := by
  obtain ⟨⟨dx, cr, xs, h1, h2, h3⟩, g⟩ := h
  exact ⟨⟨dx, cr, xs, e _ _ h1, e _ _ h2, h3.same e⟩, g⟩
def spanT (rs : List StepT) : Int := (rs.map fun r => r.2.1 + r.2.2).sum
structure StyleX (K : PySem.W.Frag) (B : Hp) (x : Addr) (nm : Str) (xs : List V) : Prop where
  ex : ∃ (dx cr : Addr), B x = some (.ins (He.ga K "Style") dx [("called", .str nm), ("step_rows", .ref cr)]) ∧ B cr = some (.lst xs)
theorem StyleX.same {K : PySem.W.Frag} {B B' : Hp} {x : Addr} {nm : Str} {xs : List V} (h : StyleX K B x nm xs) (e : Same B B') : StyleX K B' x nm xs := by
  obtain ⟨⟨dx, cr, h1, h2⟩⟩ := h
  exact ⟨⟨dx, cr, e _ _ h1, e _ _ h2⟩⟩
theorem cutV_take {xs : List V} {j : Nat} (h : j ≤ xs.length) : cutV xs none (some (j : Int)) = xs.take j := by
  unfold cutV
  rw [HT.sIx_none, HT.sIx_nat, List.drop_zero, Nat.sub_zero, Nat.min_eq_left h]
theorem cutV_drop {xs : List V} {j : Nat} : cutV xs (some (j : Int)) none = xs.drop j := by
  unfold cutV
  rw [HT.sIx_nat, HT.sIx_none]
  by_cases h : j ≤ xs.length
  · rw [Nat.min_eq_left h]
    exact List.take_of_length_le (by rw [List.length_drop]; omega)
  · rw [Nat.min_eq_right (by omega), List.drop_eq_nil_of_le (by omega), List.drop_eq_nil_of_le (by omega)]
    simp
theorem StyleX.at {K : PySem.W.Frag} {B : Hp} {x : Addr} {nm : Str} {xs : List V} {rs : List StepT} (h : StyleX K B x nm xs) (hr : StepsB B xs rs) (g : GoodT nm rs) : StyleAt K B x nm rs := by
  obtain ⟨⟨dx, cr, h1, h2⟩⟩ := h
  exact ⟨⟨dx, cr, xs, h1, h2, hr⟩, g⟩
theorem work_kind {z : Str} (h : WorkOk z) : kindV (.str z) ≠ .non := by
  obtain ⟨k, h⟩ := h
  simp only [kndL, List.mem_cons, Prod.mk.injEq, List.not_mem_nil, or_false] at h
  rcases h with ⟨rfl, _⟩ | ⟨rfl, _⟩ | ⟨rfl, _⟩ | ⟨rfl, _⟩ | ⟨rfl, _⟩ <;> decide +kernel
theorem stepG_B {r : StepT} (g : StepG r) : stepB (.str r.1) (.int r.2.1) (.int r.2.2) = true := by
  obtain ⟨h0, h1, h2, h3, h4⟩ := g
  show (!decide (kindV (.str r.1) = .non) && ((decide (1 ≤ r.2.1) && decide (r.2.1 ≤ 240)) && (decide (0 ≤ r.2.2) && decide (r.2.2 ≤ 240)))) = true
  rw [decide_eq_false (work_kind h0), decide_eq_true h1, decide_eq_true h2, decide_eq_true h3, decide_eq_true h4]
  rfl
theorem oddS_good {K : PySem.W.Frag} {B : Hp} {x : V} {r : StepT} (h : StepR B x r) (g : StepG r) : OddS K B x true := by
  obtain ⟨a, rfl, h⟩ := h
  rw [← stepG_B g]
  exact .row (SqT.of h) (thing_str ((work_sh g.1).plain (by decide))) (thing_int _) (thing_int _)
theorem oddL_good {K : PySem.W.Frag} {B : Hp} {xs : List V} {rs : List StepT} (h : StepsB B xs rs) (g : ∀ r ∈ rs, StepG r) : OddL K B xs (List.replicate xs.length true) := by
  induction h with
  | nil => exact .nil
  | cons h _ ih => exact .cons (oddS_good h (g _ List.mem_cons_self)) (ih fun r hr => g r (List.mem_cons_of_mem _ hr))
theorem oddR_good {K : PySem.W.Frag} {B : Hp} {M L : List (Addr × HO)} {a : Addr} {xs : List V} {rs : List StepT} (hh : Hold K B M L a xs) (h : StepsB B xs rs) (l0 : 1 ≤ rs.length) (l1 : rs.length ≤ 12) (g : ∀ r ∈ rs, StepG r) : OddR K B M L (.ref a) (some xs) := by
  have hl := h.len
  have := OddR.row hh (oddL_good h g) (by omega) (by omega)
  rwa [show ((List.replicate xs.length true).all fun b => b) = true from List.all_eq_true.mpr fun x hx => (List.mem_replicate.mp hx).2] at this
def sp_Style_init (K : PySem.W.Frag) : Sp := fun vs H Q E => vs.length = 3 ∧ ∃ (x dx : Addr) (n y : V) (k : Kn) (o : Option (List V)) (B : Hp) (M L : List (Addr × HO)), vs = [.ref x, n, y] ∧ Is B M ((x, .ins (He.ga K "Style") dx []) :: (dx, .own x) :: L) H ∧ Thing K B n k ∧ OddR K B M L y o ∧
  (isName n = false → ∀ d H', Is B M ((d, .xd [(("what" : Str), .str "name")]) :: L) H' → E (.ref (He.ga K "BadValue")) (some d) H') ∧
  (isName n = true → o = none → ∀ d H', Is B M ((d, .xd [(("what" : Str), .str "steps")]) :: L) H' → E (.ref (He.ga K "BadValue")) (some d) H') ∧
  (∀ nm xs, n = .str nm → isName n = true → o = some xs → ∀ B' H', Same B B' → Is B' M L H' → StyleX K B' x nm xs → Q .non H')
theorem isName_str {n : V} (h : isName n = true) : ∃ nm, n = .str nm := by
  cases n with
  | str z => exact ⟨z, rfl⟩
  | _ => cases h
abbrev t_Style_init_0 (K : PySem.W.Frag) (E : XK) : TS := (sFld K (tVar 0) (tCB (rListOf K) (tCons (tVar 2) tNil)) "step_rows")
abbrev t_Style_init_1 (K : PySem.W.Frag) (E : XK) : TS := (tSeq (sFld K (tVar 0) (tVar 1) "called") (t_Style_init_0 K E))
abbrev t_Style_init_2 (K : PySem.W.Frag) (E : XK) : TS := (tSeq (tIfS (tNot (tTr K (tCl 1 0 (sp_are_steps K) (fun vs zs => pick .non [0] (vs ++ zs)) E0 (tCons (tVar 2) tNil) tNil))) (tRaise (fun cls d _ H' => E cls d H') (tXMk (He.ga K "BadValue") 1 (sp_BadValue_init K) (fun vs zs => pick .non [0, 1] (vs ++ zs)) (tCons (tC (.str "steps")) tNil))) tNext) (t_Style_init_1 K E))
def t_Style_init (K : PySem.W.Frag) (E : XK) : TS := (tSeq (tIfS (tNot (tTr K (tCl 1 0 (sp_is_name K) (fun vs zs => pick .non [0] (vs ++ zs)) E0 (tCons (tVar 1) tNil) tNil))) (tRaise (fun cls d _ H' => E cls d H') (tXMk (He.ga K "BadValue") 1 (sp_BadValue_init K) (fun vs zs => pick .non [0, 1] (vs ++ zs)) (tCons (tC (.str "name")) tNil))) tNext) (t_Style_init_2 K E))
theorem rd_Style_init {K : PySem.W.Frag} (C : StyleC K) (C2 : ErrC K) (vs : List V) (H : Hp) (Q : VK) (E : XK) (h : sp_Style_init K vs H Q E) : t_Style_init K E { nx := fun _ H' => Q .non H', rt := Q } (start ["self", "name", "steps"] vs) H := by
  obtain ⟨_, x, dx, n, y, k, o, B, M, L, rfl, hI, hn, ho, q1, q2, q3⟩ := h
  show t_Style_init K E ⟨_, _, _, _⟩ [some (.ref x), some n, some y] H
  obtain ⟨cl, n1, n2⟩ := C
  unfold t_Style_init
  tm_at "go"
  refine' ap_is_nameT (K := K) hI (Thing.same hI.ex hn) ?_
  clear hI
  intro H hI
  tm_at "go"
  cases e : isName n with
  | false =>
    refine g_nfalse ?_
    refine g_raise ?_
    refine g_xmk ?_
    tm_at "go"
    refine g_bv C2 hI (fun _ => rfl) fun d H' hI => ?_
    exact q1 e d H' (hI.forget (by tm_at "sub"))
  | true =>
    refine g_ntrue ?_
    tm_at "go"
    refine' ap_are_steps (K := K) hI (ho.sub (by tm_at "sub")) ?_
    clear hI
    intro H hI
    tm_at "go"
    cases ho2 : o with
    | none =>
      refine g_nfalse ?_
      refine g_raise ?_
      refine g_xmk ?_
      tm_at "go"
      refine g_bv C2 hI (fun _ => rfl) fun d H' hI => ?_
      exact q2 e ho2 d H' (hI.forget (by tm_at "sub"))
    | some xs =>
      refine g_ntrue ?_
      obtain ⟨nm, rfl⟩ := isName_str e
      obtain ⟨a, rfl, hh⟩ := ho.hold ho2
      tm_at "go"
      have hA := hh.at (hI.forget (by tm_at "sub"))
      refine (show rListOf K [.ref a] _ _ from ⟨a, xs, rfl, hA, fun p hp => ?_⟩)
      replace hI := hI.new (o := .lst xs) hp
      generalize upd _ p (HO.lst xs) = H at *
      obtain ⟨cr, rfl⟩ : ∃ q, q = p := ⟨_, rfl⟩
      tm_at "go"
      refine' hI.give (a := x) (by tm_at "del") ?_
      clear hI
      intro B1 s1 h1 hI
      refine' hI.give (a := cr) (by tm_at "del") ?_
      clear hI
      intro B2 s2 h2 hI
      exact q3 nm xs rfl e ho2 B2 _ (s1.trans s2) (hI.forget (by tm_at "sub")) ⟨⟨dx, cr, s2 _ _ h1, h2⟩⟩
/-- a good one -/
theorem ap_Style_good {K : PySem.W.Frag} {H : Hp} {Q : VK} {E : XK} {x dx a : Addr} {nm : Str} {xs : List V} {rs : List StepT} {B : Hp} {M L : List (Addr × HO)} (I : Is B M ((x, .ins (He.ga K "Style") dx []) :: (dx, .own x) :: L) H) (hh : Hold K B M L a xs) (hr : StepsB B xs rs) (g : GoodT nm rs)
    (q : ∀ B' H', Same B B' → Is B' M L H' → StyleAt K B' x nm rs → Q .non H') : sp_Style_init K [.ref x, .str nm, .ref a] H Q E := by
  refine ⟨rfl, x, dx, .str nm, .ref a, .str, some xs, B, M, L, rfl, I, thing_str g.nm.2, oddR_good hh hr g.l0 g.l1 g.row, fun e => ?_, fun _ e => (by cases e), fun nm' xs' e1 _ e2 B' H' s I' h => ?_⟩
  · rw [g.nm.1] at e
    cases e
  · cases e1
    cases e2
    exact q B' H' s I' (h.at (hr.same s) g)
/-- refused -/
theorem ap_Style_name {K : PySem.W.Frag} {H : Hp} {Q : VK} {E : XK} {x dx : Addr} {n y : V} {k : Kn} {o : Option (List V)} {B : Hp} {M L : List (Addr × HO)} (I : Is B M ((x, .ins (He.ga K "Style") dx []) :: (dx, .own x) :: L) H) (hn : Thing K B n k) (ho : OddR K B M L y o) (e : isName n = false)
    (q : ∀ d H', Is B M ((d, .xd [(("what" : Str), .str "name")]) :: L) H' → E (.ref (He.ga K "BadValue")) (some d) H') : sp_Style_init K [.ref x, n, y] H Q E :=
  ⟨rfl, x, dx, n, y, k, o, B, M, L, rfl, I, hn, ho, fun _ => q, fun e' => by (rw [e] at e'; cases e'), fun _ _ _ e' => by (rw [e] at e'; cases e')⟩
theorem ap_Style_rows {K : PySem.W.Frag} {H : Hp} {Q : VK} {E : XK} {x dx : Addr} {n y : V} {k : Kn} {B : Hp} {M L : List (Addr × HO)} (I : Is B M ((x, .ins (He.ga K "Style") dx []) :: (dx, .own x) :: L) H) (hn : Thing K B n k) (ho : OddR K B M L y none) (e : isName n = true)
    (q : ∀ d H', Is B M ((d, .xd [(("what" : Str), .str "steps")]) :: L) H' → E (.ref (He.ga K "BadValue")) (some d) H') : sp_Style_init K [.ref x, n, y] H Q E :=
  ⟨rfl, x, dx, n, y, k, none, B, M, L, rfl, I, hn, ho, fun e' => by (rw [e] at e'; cases e'), fun _ _ => q, fun _ _ _ _ e' => by cases e'⟩
def sp_Style_steps (K : PySem.W.Frag) : Sp := fun vs H Q _ => vs.length = 1 ∧ ∃ (x : Addr) (nm : Str) (rs : List StepT) (B : Hp) (M L : List (Addr × HO)), vs = [.ref x] ∧ Is B M L H ∧ StyleAt K B x nm rs ∧ ∀ p xs H', StepsB B xs rs → Is B M ((p, .lst xs) :: L) H' → Q (.ref p) H'
theorem ap_Style_steps {K : PySem.W.Frag} {H : Hp} {Q : VK} {E : XK} {x : Addr} {nm : Str} {rs : List StepT} {B : Hp} {M L : List (Addr × HO)} (I : Is B M L H) (h : StyleAt K B x nm rs) (q : ∀ p xs H', StepsB B xs rs → Is B M ((p, .lst xs) :: L) H' → Q (.ref p) H') : sp_Style_steps K [.ref x] H Q E := ⟨rfl, x, nm, rs, B, M, L, rfl, I, h, q⟩
def t_Style_steps (K : PySem.W.Frag) : TS := (tRet (tCB (rListOf K) (tCons (tFld K (tVar 0) "step_rows") tNil)))
theorem rd_Style_steps {K : PySem.W.Frag} (C : StyleC K) (vs : List V) (H : Hp) (Q : VK) (E : XK) (h : sp_Style_steps K vs H Q E) : t_Style_steps K { nx := fun _ H' => Q .non H', rt := Q } (start ["self"] vs) H := by
  obtain ⟨_, x, nm, rs, B, M, L, rfl, hI, hS, q⟩ := h
  show t_Style_steps K ⟨_, _, _, _⟩ [some (.ref x)] H
  obtain ⟨cl, n1, n2⟩ := C
  obtain ⟨⟨dx, cr, xs, h1, h2, h3⟩, hg⟩ := id hS
  unfold t_Style_steps
  tm_at "go"
  exact q _ _ _ h3 hI
/-! data of steps -/
def stepD (r : StepT) : PyData := .tuple [.str r.1, .int r.2.1, .int r.2.2]
theorem dp_steps {K : PySem.W.Frag} {B H : Hp} (e : Same B H) : ∀ {xs : List V} {rs : List StepT}, StepsB B xs rs → DpAll K H xs (rs.map stepD)
  | _, _, .nil => .nil
  | _, _, .cons ⟨a, rfl, h⟩ t => .cons (.tup (SqT.of (e _ _ h)) (.cons (.str _) (.cons (.int _) (.cons (.int _) .nil)))) (dp_steps e t)
theorem shn_steps : ∀ (rs : List StepT), (∀ r ∈ rs, StepG r) → ∃ n, n ≤ 5000 * rs.length ∧ ShnAll (rs.map stepD) n 2
  | [], _ => ⟨0, by simp, .nil⟩
  | r :: rs, h => by
    obtain ⟨n, hn1, hn⟩ := shn_steps rs fun x hx => h x (List.mem_cons_of_mem _ hx)
    obtain ⟨h0, h1, h2, h3, h4⟩ := h r List.mem_cons_self
    have hs := work_sh h0
    refine ⟨_, ?_, .cons (.tup (.cons (.str hs.2) (.cons (shn_int (by omega) (by omega)) (.cons (shn_int (by omega) (by omega)) .nil)))) hn⟩
    have := hs.1
    rw [List.length_cons]
    omega
theorem eqv_steps : ∀ rs : List StepT, PyData.eqvAll (rs.map stepD) (rs.map stepD) = true
  | [] => by simp [PyData.eqvAll]
  | r :: rs => by
    have ih := eqv_steps rs
    rw [List.map_cons]
    simp [PyData.eqvAll, PyData.eqv, stepD, ih]
theorem eqv_stepsL (rs : List StepT) : PyData.eqv (.list (rs.map stepD)) (.list (rs.map stepD)) = true := by
  have := eqv_steps rs
  simp [PyData.eqv, this]
def stT (r : StepT) : Str := Str.empty ++ r.1 ++ " " ++ numT r.2.1 ++ " " ++ numT r.2.2
def stxt (nm : Str) (rs : List StepT) : Str := Txt.join "\n" (("style " ++ nm) :: rs.map stT)
theorem sh_st : Sh 6 ("style " : Str) := Sh.lit (by decide +kernel)
theorem StepG.sh {r : StepT} (h : StepG r) : Sh 6 r.1 ∧ Sh 18 (numT r.2.1) ∧ Sh 18 (numT r.2.2) := by
  obtain ⟨h0, h1, h2, h3, h4⟩ := h
  exact ⟨work_sh h0, numT_sh (by omega) (by omega), numT_sh h3 (by omega)⟩
theorem StepG.shT {r : StepT} (h : StepG r) : Sh 46 (stT r) := by
  obtain ⟨h1, h2, h3⟩ := h.sh
  exact (((((sh_empty.add h1).add sh_bl).add h2).add sh_bl).add h3).mono (by decide)
theorem GoodT.shHead {nm : Str} {rs : List StepT} (g : GoodT nm rs) : Sh 14 ("style " ++ nm) := sh_st.add (name_sh g.nm.1 g.nm.2)
theorem GoodT.shAll {nm : Str} {rs : List StepT} (g : GoodT nm rs) : ∀ y ∈ ("style " ++ nm) :: rs.map stT, Sh 46 y := by
  intro y hy
  rcases List.mem_cons.mp hy with rfl | hy
  · exact g.shHead.mono (by decide)
  · obtain ⟨r, hr, rfl⟩ := List.mem_map.mp hy
    exact (g.row r hr).shT
theorem GoodT.joins {nm : Str} {rs : List StepT} (g : GoodT nm rs) : ((("style " ++ nm) :: rs.map stT).map (·.length)).sum + (("style " ++ nm) :: rs.map stT).length * ("\n" : Str).length ≤ 16777216 := by
  have h2 := len_join "\n" fun y hy => (g.shAll y hy).1
  have h3 : ("\n" : Str).length = 1 := by decide +kernel
  have h4 : (("style " ++ nm) :: rs.map stT).length ≤ 13 := by
    have := g.l1
    rw [List.length_cons, List.length_map]
    omega
  rw [h3]
  omega
theorem take_stT {rs : List StepT} {i : Nat} {r : StepT} (e : rs[i]? = some r) : (rs.take (i + 1)).map stT = (rs.take i).map stT ++ [stT r] := by
  rw [take_snocI e, List.map_append]
  rfl
def sp_Style_str (K : PySem.W.Frag) : Sp := fun vs H Q _ => vs.length = 1 ∧ ∃ (x : Addr) (nm : Str) (rs : List StepT) (B : Hp) (M L : List (Addr × HO)), vs = [.ref x] ∧ Is B M L H ∧ StyleAt K B x nm rs ∧ ∀ H', Is B M L H' → Q (.str (stxt nm rs)) H'
theorem ap_Style_str {K : PySem.W.Frag} {H : Hp} {Q : VK} {E : XK} {x : Addr} {nm : Str} {rs : List StepT} {B : Hp} {M L : List (Addr × HO)} (I : Is B M L H) (h : StyleAt K B x nm rs) (q : ∀ H', Is B M L H' → Q (.str (stxt nm rs)) H') : sp_Style_str K [.ref x] H Q E := ⟨rfl, x, nm, rs, B, M, L, rfl, I, h, q⟩
abbrev t_Style_str_0 (K : PySem.W.Frag) : TS := (tDrop (tBM K "list" rAppend (tVar 1) (tCons (tFS [(tFmt (tVar 2)), (tC (.str " ")), (tFmt (tVar 3)), (tC (.str " ")), (tFmt (tVar 4))]) tNil)))
abbrev t_Style_str_1 (K : PySem.W.Frag) : TS := (tRet (tM1 (rJoin K) (tC (.str "\n")) (tVar 1)))
abbrev t_Style_str_2 (K : PySem.W.Frag) : TS := (tSeq (tFor (iAny K (tFld K (tVar 0) "step_rows")) (gTup K 3 (gCons (gName 2) (gCons (gName 3) (gCons (gName 4) gNil)))) (t_Style_str_0 K)) (t_Style_str_1 K))
def t_Style_str (K : PySem.W.Frag) : TS := (tSeq (tAsg (tLst (tCons (tOp (rAddA K) (tC (.str "style ")) (tFld K (tVar 0) "called")) tNil)) (gName 1)) (t_Style_str_2 K))
theorem rd_Style_str {K : PySem.W.Frag} (C : StyleC K) (vs : List V) (H : Hp) (Q : VK) (E : XK) (h : sp_Style_str K vs H Q E) : t_Style_str K { nx := fun _ H' => Q .non H', rt := Q } (start ["self", "rows", "work", "hours", "rest"] vs) H := by
  obtain ⟨_, x, nm, rs, B, M, L, rfl, hI, hS, q⟩ := h
  show t_Style_str K ⟨_, _, _, _⟩ [some (.ref x), none, none, none, none] H
  obtain ⟨cl, n1, n2⟩ := C
  obtain ⟨⟨dx, cr, xs, h1, h2, h3⟩, hg⟩ := id hS
  have hl := h3.len
  have hl1 := hg.l1
  unfold t_Style_str
  tm_at "go"
  refine g_add_sh sh_st (name_sh hg.nm.1 hg.nm.2) (by decide) fun _ => ?_
  tm_at "go"
  obtain ⟨rw_, rfl⟩ : ∃ q, q = p := ⟨_, rfl⟩
  refine' g_aFor (walk_list (xs := xs)) (fun i σ H => ∃ (s2 s3 s4 : Option V), σ = [some (.ref x), some (.ref rw_), s2, s3, s4] ∧ Is B M ((rw_, .lst ((("style " ++ nm) :: (rs.take i).map stT).map V.str)) :: L) H)
    ⟨_, _, _, rfl, hI⟩ (fun i σ H _ ⟨_, _, _, _, hI⟩ => SqL.of (hI.b h2)) ?_ ?_
  · rintro i y σ H H' hi ⟨s2, s3, s4, rfl, hI⟩ ⟨rfl, hy⟩
    obtain ⟨⟨z, n, t⟩, e, b, rfl, hb⟩ := h3.get hy
    have hmem := List.mem_of_getElem? e
    have hrow := hg.row _ hmem
    obtain ⟨k1, k2, k3⟩ := hrow.sh
    obtain ⟨_, w1, w2, w3, w4⟩ := hrow
    have w1 : 1 ≤ n := w1
    have w2 : n ≤ 240 := w2
    have w3 : 0 ≤ t := w3
    have w4 : t ≤ 240 := w4
    have hlx : ((("style " ++ nm) :: (rs.take i).map stT).map V.str).length ≤ 13 := by
      rw [List.length_map, List.length_cons, List.length_map, List.length_take]
      omega
    tm_at "go"
    refine' g_fs ?_
    refine' g_jsC ?_
    refine' g_fmt ?_
    tm_at "go"
    refine' g_aFmtS k1 (by decide) ?_
    refine' g_aJs sh_empty k1 (by decide) fun ha => ?_
    refine' g_jsC ?_
    tm_at "go"
    refine' g_aJs ha sh_bl (by decide) fun ha => ?_
    refine' g_jsC ?_
    refine' g_fmt ?_
    tm_at "go"
    refine' g_aFmtI (k := 18) (by omega) (by decide) (by omega) fun _ => ?_
    refine' g_aJs ha k2 (by decide) fun ha => ?_
    refine' g_jsC ?_
    tm_at "go"
    refine' g_aJs ha sh_bl (by decide) fun ha => ?_
    refine' g_jsC ?_
    refine' g_fmt ?_
    tm_at "go"
    refine' g_aFmtI (k := 18) (by omega) (by decide) (by omega) fun _ => ?_
    refine' g_aJs ha k3 (by decide) fun ha => ?_
    refine' g_jsN ?_
    have er : Str.empty ++ z ++ " " ++ Str.ofString (toString n) ++ " " ++ Str.ofString (toString t) = stT (z, n, t) := rfl
    rw [er]
    tm_at "go"
    refine ⟨_, _, _, rfl, ?_⟩
    rw [take_stT e]
    rw [map_str] at hI
    exact hI
  · rintro σ H ⟨s2, s3, s4, rfl, hI⟩
    rw [List.take_of_length_le (by omega)] at hI
    tm_at "go"
    exact ⟨_, _, _, rfl, rfl, .inl (SqL.of (hI.get (List.Mem.head _))), hg.joins, q _ (hI.forget (by tm_at "sub"))⟩
def sp_Style_len (K : PySem.W.Frag) : Sp := fun vs H Q _ => vs.length = 1 ∧ ∃ (x : Addr) (nm : Str) (rs : List StepT) (B : Hp) (M L : List (Addr × HO)), vs = [.ref x] ∧ Is B M L H ∧ StyleAt K B x nm rs ∧ Q (.int (rs.length : Int)) H
theorem ap_Style_len {K : PySem.W.Frag} {H : Hp} {Q : VK} {E : XK} {x : Addr} {nm : Str} {rs : List StepT} {B : Hp} {M L : List (Addr × HO)} (I : Is B M L H) (h : StyleAt K B x nm rs) (q : Q (.int (rs.length : Int)) H) : sp_Style_len K [.ref x] H Q E := ⟨rfl, x, nm, rs, B, M, L, rfl, I, h, q⟩
def t_Style_len (K : PySem.W.Frag) : TS := (tRet (tCB (rLen K) (tCons (tFld K (tVar 0) "step_rows") tNil)))
theorem rd_Style_len {K : PySem.W.Frag} (C : StyleC K) (vs : List V) (H : Hp) (Q : VK) (E : XK) (h : sp_Style_len K vs H Q E) : t_Style_len K { nx := fun _ H' => Q .non H', rt := Q } (start ["self"] vs) H := by
  obtain ⟨_, x, nm, rs, B, M, L, rfl, hI, hS, q⟩ := h
  show t_Style_len K ⟨_, _, _, _⟩ [some (.ref x)] H
  obtain ⟨cl, n1, n2⟩ := C
  obtain ⟨⟨dx, cr, xs, h1, h2, h3⟩, hg⟩ := id hS
  unfold t_Style_len
  tm_at "go"
  rw [h3.len]
  exact q
def sp_Style_step (K : PySem.W.Frag) : Sp := fun vs H Q E => vs.length = 2 ∧ ∃ (x : Addr) (v : V) (k : Kn) (nm : Str) (rs : List StepT) (B : Hp) (M L : List (Addr × HO)), vs = [.ref x, v] ∧ Is B M L H ∧ StyleAt K B x nm rs ∧ Thing K B v k ∧
  (isWhole v 1 (rs.length : Int) = false → ∀ d H', Is B M ((d, .xd [(("name" : Str), v), ("what", .str "step")]) :: L) H' → E (.ref (He.ga K "NoSuch")) (some d) H') ∧
  (∀ (n : Int) (r : StepT) (y : V), v = .int n → isWhole v 1 (rs.length : Int) = true → rs[(n - 1).toNat]? = some r → StepR B y r → Q y H)
theorem isWhole_int {v : V} {lo hi : Int} (h : isWhole v lo hi = true) : ∃ n, v = .int n ∧ lo ≤ n ∧ n ≤ hi := by
  cases v with
  | int n =>
    have h : (decide (lo ≤ n) && decide (n ≤ hi)) = true := h
    simp only [Bool.and_eq_true, decide_eq_true_eq] at h
    exact ⟨n, rfl, h.1, h.2⟩
  | _ => cases h
abbrev t_Style_step_0 (K : PySem.W.Frag) (E : XK) : TS := (tRet (tOp (rIx K) (tFld K (tVar 0) "step_rows") (tOp (rI0 fun i j => .int (i - j)) (tVar 1) (tC (.int 1)))))
def t_Style_step (K : PySem.W.Frag) (E : XK) : TS := (tSeq (tIfS (tNot (tTr K (tCl 2 1 (sp_is_whole K) (fun vs zs => pick .non [0, 1, 2] (vs ++ (zs ++ [.int 1000000]))) E0 (tCons (tVar 1) (tCons (tC (.int 1)) tNil)) (tCons (tCB (rLen K) (tCons (tFld K (tVar 0) "step_rows") tNil)) tNil)))) (tRaise (fun cls d _ H' => E cls d H') (tXMk (He.ga K "NoSuch") 2 (sp_NoSuch_init K) (fun vs zs => pick .non [0, 1, 2] (vs ++ zs)) (tCons (tC (.str "step")) (tCons (tVar 1) tNil)))) tNext) (t_Style_step_0 K E))
theorem rd_Style_step {K : PySem.W.Frag} (C : StyleC K) (C2 : ErrC K) (vs : List V) (H : Hp) (Q : VK) (E : XK) (h : sp_Style_step K vs H Q E) : t_Style_step K E { nx := fun _ H' => Q .non H', rt := Q } (start ["self", "number"] vs) H := by
  obtain ⟨_, x, v, k, nm, rs, B, M, L, rfl, hI, hS, hv, q1, q2⟩ := h
  show t_Style_step K E ⟨_, _, _, _⟩ [some (.ref x), some v] H
  obtain ⟨cl, n1, n2⟩ := C
  obtain ⟨⟨dx, cr, xs, k1, k2, k3⟩, hg⟩ := id hS
  have hl := k3.len
  unfold t_Style_step
  tm_at "go"
  rw [hl]
  refine' ap_is_whole (K := K) (Thing.same hI.ex hv) ?_
  cases e : isWhole v 1 (rs.length : Int) with
  | false =>
    tm_at "go"
    refine g_raise ?_
    refine g_xmk ?_
    tm_at "go"
    refine g_ns C2 hI (fun _ => rfl) fun d H' hI => ?_
    exact q1 e d H' hI
  | true =>
    tm_at "go"
    obtain ⟨n, rfl, h1, h2⟩ := isWhole_int e
    tm_at "go"
    have hlt : (n - 1).toNat < rs.length := by omega
    obtain ⟨y, hy, hr⟩ := k3.get' (List.getElem?_eq_getElem hlt)
    refine g_ix_l (by tm_at "sq") (atI_of (by omega) hy) ?_
    exact q2 n _ y rfl e (List.getElem?_eq_getElem hlt) hr
theorem ap_Style_step {K : PySem.W.Frag} {H : Hp} {Q : VK} {E : XK} {x : Addr} {nm : Str} {rs : List StepT} {B : Hp} {M L : List (Addr × HO)} {n : Int} {r : StepT} (I : Is B M L H) (h : StyleAt K B x nm rs) (h1 : 1 ≤ n) (h2 : n ≤ (rs.length : Int)) (e : rs[(n - 1).toNat]? = some r)
    (q : ∀ y, StepR B y r → Q y H) : sp_Style_step K [.ref x, .int n] H Q E := by
  have hw : isWhole (.int n) 1 (rs.length : Int) = true := isWhole_t h1 h2
  refine ⟨rfl, x, .int n, .int, nm, rs, B, M, L, rfl, I, h, thing_int n, fun e' => by (rw [hw] at e'; cases e'), fun n' r' y e1 _ e2 hy => ?_⟩
  cases e1
  rw [e] at e2
  cases e2
  exact q y hy
theorem ap_Style_noStep {K : PySem.W.Frag} {H : Hp} {Q : VK} {E : XK} {x : Addr} {nm : Str} {rs : List StepT} {B : Hp} {M L : List (Addr × HO)} {v : V} {k : Kn} (I : Is B M L H) (h : StyleAt K B x nm rs) (hv : Thing K B v k) (e : isWhole v 1 (rs.length : Int) = false)
    (q : ∀ d H', Is B M ((d, .xd [(("name" : Str), v), ("what", .str "step")]) :: L) H' → E (.ref (He.ga K "NoSuch")) (some d) H') : sp_Style_step K [.ref x, v] H Q E :=
  ⟨rfl, x, v, k, nm, rs, B, M, L, rfl, I, h, hv, fun _ => q, fun _ _ _ _ e' => by (rw [e] at e'; cases e')⟩
/-! ### numbers and words of texts -/
def digS : Str := "0123456789"
def digB (c : Nat) : Bool := decide (c ∈ digS.cps.toList)
def digV (l : List Nat) : Int := l.foldl (fun (n : Int) (c : Nat) => 10 * n + ((c : Int) - 48)) 0
theorem digB_bd {c : Nat} (h : digB c = true) : 48 ≤ c ∧ c ≤ 57 := by
  have e : digS.cps.toList = [48, 49, 50, 51, 52, 53, 54, 55, 56, 57] := by decide +kernel
  unfold digB at h
  rw [e] at h
  have := of_decide_eq_true h
  simp only [List.mem_cons, List.not_mem_nil, or_false] at this
  omega
theorem digV_nat : ∀ (l : List Nat) (a : Nat), (∀ c ∈ l, 48 ≤ c ∧ c ≤ 57) → l.foldl (fun (n : Int) (c : Nat) => 10 * n + ((c : Int) - 48)) (a : Int) = ((l.foldl (fun acc c => acc * 10 + (c - 48)) a : Nat) : Int)
  | [], _, _ => rfl
  | c :: l, a, h => by
    have hc := h c List.mem_cons_self
    rw [List.foldl_cons, List.foldl_cons, ← digV_nat l _ fun x hx => h x (List.mem_cons_of_mem _ hx)]
    congr 1
    omega
theorem intText_dig {z : Str} (h : z.cps.toList.all digB = true) (h0 : 1 ≤ z.length) (h1 : z.length ≤ 4300) : PySem.intText? z = some (digV z.cps.toList) := by
  have hb : ∀ c ∈ z.cps.toList, 48 ≤ c ∧ c ≤ 57 := fun c hc => digB_bd (List.all_eq_true.mp h c hc)
  have hne : z.cps.toList ≠ [] := fun e => by
    have : z.length = z.cps.toList.length := by simp [Str.length]
    rw [e] at this
    simp at this
    omega
  rw [PySem.intText_digits hb hne h1]
  congr 1
  exact (digV_nat z.cps.toList 0 hb).symm
theorem g_intS {K : PySem.W.Frag} {H : Hp} {Q : VK} {z : Str} (h : z.cps.toList.all digB = true) (h0 : 1 ≤ z.length) (h1 : z.length ≤ 600) (q : Q (.int (digV z.cps.toList)) H) : rIntS [.str z] H Q :=
  ⟨z, _, rfl, intText_dig h h0 (by omega), by omega, q⟩
def numOf (x : V) : V := match x with
  | .str z => if 1 ≤ z.length ∧ z.length ≤ 7 ∧ z.cps.toList.all digB = true ∧ ¬ (z.cps.toList.head? = some 48 ∧ z ≠ "0") then .int (digV z.cps.toList) else .non
  | _ => .non
theorem str_at0 {z : Str} (h : 1 ≤ z.length) : ∃ c, atI z.cps.toList 0 = some c ∧ z.cps.toList.head? = some c ∧ (decide (V.str ⟨#[c]⟩ = V.str "0") = decide (c = 48)) := by
  have e : z.length = z.cps.toList.length := by simp [Str.length]
  cases hz : z.cps.toList with
  | nil =>
    rw [hz] at e
    simp at e
    omega
  | cons c l =>
    refine ⟨c, atI_of (by omega) rfl, rfl, ?_⟩
    have h0 : ("0" : Str) = ⟨#[48]⟩ := by decide +kernel
    rw [h0]
    simp
def sp_number_of (K : PySem.W.Frag) : Sp := fun vs H Q _ => vs.length = 1 ∧ ∃ (x : V) (k : Kn) (B : Hp) (M L : List (Addr × HO)), vs = [x] ∧ Is B M L H ∧ Thing K H x k ∧ ∀ H', Is B M L H' → Q (numOf x) H'
abbrev t_number_of_0 (K : PySem.W.Frag) : TS := (tRet (tCB rIntS (tCons (tVar 0) tNil)))
abbrev t_number_of_1 (K : PySem.W.Frag) : TS := (tSeq (tIfS (tOr (tNot (tTr K (tCB (rAll K) (tCons (tLc (iAny K (tVar 0)) (gName 1) tYes (tOp (rInA K) (tVar 1) (tC (.str "0123456789"))) [1]) tNil)))) (tAnd (tTest (tOp (rEqA K) (tOp (rIx K) (tVar 0) (tC (.int 0))) (tC (.str "0")))) (tTest (tOp (rNeA K) (tVar 0) (tC (.str "0")))))) (tRet (tC .non)) tNext) (t_number_of_0 K))
def t_number_of (K : PySem.W.Frag) : TS := (tSeq (tIfS (tOr (tNot (tTr K (tCB (rIsi K) (tCons (tVar 0) (tCons (tC (.ty "str")) tNil))))) (tNot (tTest (tChain (rI0 fun i j => .bl (decide (i ≤ j))) (rI0 fun i j => .bl (decide (i ≤ j))) (tC (.int 1)) (tCB (rLen K) (tCons (tVar 0) tNil)) (tC (.int 7)))))) (tRet (tC .non)) tNext) (t_number_of_1 K))
theorem rd_number_of {K : PySem.W.Frag} (vs : List V) (H : Hp) (Q : VK) (E : XK) (h : sp_number_of K vs H Q E) : t_number_of K { nx := fun _ H' => Q .non H', rt := Q } (start ["word", "sign"] vs) H := by
  obtain ⟨_, x, k, B, M, L, rfl, hI, hx, q⟩ := h
  show t_number_of K ⟨_, _, _, _⟩ [some x, none] H
  unfold t_number_of
  tm_at "go"
  refine hx.cases ?_ ?_ ?_ ?_ ?_
  · rintro rfl rfl
    tm_at "go"
    exact q _ hI
  · rintro b rfl rfl
    tm_at "go"
    exact q _ hI
  · rintro n rfl rfl
    tm_at "go"
    exact q _ hI
  · rintro z rfl rfl hp
    tm_at "go"
    have no : ¬ (1 ≤ z.length ∧ z.length ≤ 7 ∧ z.cps.toList.all digB = true ∧ ¬ (z.cps.toList.head? = some 48 ∧ z ≠ "0")) → ∀ H', Is B M L H' → Q .non H' := fun hn H' hI' => by
      have := q _ hI'
      rwa [show numOf (.str z) = .non from if_neg hn] at this
    have ye : (1 ≤ z.length ∧ z.length ≤ 7 ∧ z.cps.toList.all digB = true ∧ ¬ (z.cps.toList.head? = some 48 ∧ z ≠ "0")) → ∀ H', Is B M L H' → Q (.int (digV z.cps.toList)) H' := fun hn H' hI' => by
      have := q _ hI'
      rwa [show numOf (.str z) = .int _ from if_pos hn] at this
    refine g_dec (fun h1 => ?_) (fun h1 => ?_)
    · tm_at "go"
      refine g_ndec (fun h2 => ?_) (fun h2 => ?_)
      · tm_at "go"
        exact no (fun hh => by omega) _ hI
      · tm_at "go"
        refine' g_lcS1 hI (by tm_at "wiped") (Nat.le_trans hp.1 (by decide)) (fun c => .bl (digB c)) ?_ ?_
        · intro c D acc H' hc hI' PY hY
          tm_at "go"
          refine' g_wiped (by tm_at "wiped") ?_
          tm_at "go"
          exact hY _ hI'
        · intro D H' hI'
          tm_at "go"
          refine g_all (by tm_at "sq") ?_
          tm_at "go"
          refine g_nb (fun h3 => ?_) (fun h3 => ?_)
          · tm_at "go"
            exact no (fun hh => by rw [hh.2.2.1] at h3; cases h3) _ (hI'.forget (by tm_at "sub"))
          · tm_at "go"
            have hI := hI'.forget (L' := L) (by tm_at "sub")
            obtain ⟨c, e1, e2, e3⟩ := str_at0 (z := z) (by omega)
            refine g_ix_s (hp.len) e1 ?_
            tm_at "go"
            rw [e3]
            refine g_dec (fun h4 => ?_) (fun h4 => ?_)
            · tm_at "go"
              refine g_ndec (fun h5 => ?_) (fun h5 => ?_)
              · tm_at "go"
                refine no (fun hh => hh.2.2.2 ⟨by rw [e2, h4], fun e => h5 (by rw [e])⟩) _ hI
              · tm_at "go"
                exact g_intS (K := K) h3 (by omega) (by omega) (ye ⟨by omega, by omega, h3, fun hh => hh.2 (V.str.inj h5)⟩ _ hI)
            · tm_at "go"
              exact g_intS (K := K) h3 (by omega) (by omega) (ye ⟨by omega, by omega, h3, fun hh => h4 (Option.some.inj (e2.symm.trans hh.1))⟩ _ hI)
    · tm_at "go"
      exact no (fun hh => by omega) _ hI
  · rintro a rfl hk
    refine g_isiF hx (by decide) (Kn.noInt hk).2.2 ?_
    tm_at "go"
    exact q _ hI
/-! words of a row -/
def blkS : Str := " "
def partsL (z : Str) : List (List Nat) := TL.spl [32] 0 [] z.cps.toList
def wordsV (x : V) : Option (List Str) := match x with
  | .str z => if [] ∈ partsL z then none else some ((partsL z).map fun l => ⟨l.toArray⟩)
  | _ => none
theorem split_parts (z : Str) : Txt.split z " " = (partsL z).map fun l => (⟨l.toArray⟩ : Str) := by
  have h := TL.split_spl z " " (by decide +kernel) (TL.kind_ok (by decide +kernel))
  have e : TL.tl (" " : Str) = [32] := by decide +kernel
  rw [e] at h
  refine TL.map_tl_inj ?_
  rw [h, List.map_map]
  have : (TL.tl ∘ fun l : List Nat => (⟨l.toArray⟩ : Str)) = id := by
    funext l
    rfl
  rw [this, List.map_id]
  rfl
theorem inV_parts : ∀ l : List (List Nat), inV (.str "") ((l.map fun l => (⟨l.toArray⟩ : Str)).map V.str) = decide ([] ∈ l)
  | [] => rfl
  | x :: l => by
    have ih := inV_parts l
    have e0 : ("" : Str) = ⟨#[]⟩ := by decide +kernel
    rw [e0] at ih ⊢
    unfold inV at ih ⊢
    rw [List.map_cons, List.map_cons, List.any_cons, ih]
    cases x with
    | nil =>
      show ((⟨#[]⟩ : Str) == ⟨#[]⟩ || decide ([] ∈ l)) = _
      simp
    | cons c r =>
      show ((⟨(c :: r).toArray⟩ : Str) == ⟨#[]⟩ || decide ([] ∈ l)) = _
      have e1 : ((⟨(c :: r).toArray⟩ : Str) == ⟨#[]⟩) = false := beq_eq_false_iff_ne.mpr fun e => by
        have := congrArg (fun z : Str => z.cps.toList) e
        cases this
      rw [e1]
      simp
theorem flat_strs (l : List Str) : (l.map V.str).all flatV = true := by
  rw [List.all_map, List.all_eq_true]
  intro x _
  rfl
def sp_words_of (K : PySem.W.Frag) : Sp := fun vs H Q _ => vs.length = 1 ∧ ∃ (x : V) (k : Kn) (B : Hp) (M L : List (Addr × HO)), vs = [x] ∧ Is B M L H ∧ Thing K H x k ∧
  (wordsV x = none → ∀ H', Is B M L H' → Q .non H') ∧ (∀ ws, wordsV x = some ws → ∀ p H', Is B M ((p, .lst (ws.map V.str)) :: L) H' → Q (.ref p) H')
abbrev t_words_of_0 (K : PySem.W.Frag) : TS := (tRet (tIf (tTest (tOp (rInA K) (tC (.str "")) (tVar 1))) (tC .non) (tVar 1)))
abbrev t_words_of_1 (K : PySem.W.Frag) : TS := (tSeq (tAsg (tM1 rSplit (tVar 0) (tC (.str " "))) (gName 1)) (t_words_of_0 K))
def t_words_of (K : PySem.W.Frag) : TS := (tSeq (tIfS (tNot (tTr K (tCB (rIsi K) (tCons (tVar 0) (tCons (tC (.ty "str")) tNil))))) (tRet (tC .non)) tNext) (t_words_of_1 K))
theorem rd_words_of {K : PySem.W.Frag} (vs : List V) (H : Hp) (Q : VK) (E : XK) (h : sp_words_of K vs H Q E) : t_words_of K { nx := fun _ H' => Q .non H', rt := Q } (start ["row", "found"] vs) H := by
  obtain ⟨_, x, k, B, M, L, rfl, hI, hx, q1, q2⟩ := h
  show t_words_of K ⟨_, _, _, _⟩ [some x, none] H
  unfold t_words_of
  tm_at "go"
  refine hx.cases ?_ ?_ ?_ ?_ ?_
  · rintro rfl rfl
    tm_at "go"
    exact q1 rfl _ hI
  · rintro b rfl rfl
    tm_at "go"
    exact q1 rfl _ hI
  · rintro n rfl rfl
    tm_at "go"
    exact q1 rfl _ hI
  · rintro z rfl rfl hp
    tm_at "go"
    refine ⟨z, " ", rfl, rfl, by decide +kernel, Nat.le_trans (Nat.add_le_add_right hp.1 2) (by decide +kernel), ?_⟩
    rw [split_parts]
    refine g_newS hI ?_
    clear hI
    intro p H hI
    tm_at "go"
    refine g_in_l (by tm_at "sq") rfl (flat_strs _) ?_
    tm_at "go"
    rw [inV_parts]
    refine g_dec (fun h1 => ?_) (fun h1 => ?_)
    · tm_at "go"
      exact q1 (if_pos h1) _ (hI.forget (by tm_at "sub"))
    · tm_at "go"
      exact q2 _ (if_neg h1) _ _ hI
  · rintro a rfl hk
    refine g_isiF hx (by decide) (Kn.noInt hk).2.2 ?_
    tm_at "go"
    exact q1 rfl _ hI
/-! ### texts cut and joined again; numbers read back -/
theorem splAny (S : List Nat) : ∀ (l acc : List Nat) (k : Nat), ∀ p ∈ TL.spl S k acc l, p.length ≤ acc.length + l.length ∧ ∀ c ∈ p, c ∈ acc ∨ c ∈ l
  | [], acc, k, p, hp => by
    rw [TL.spl_nil] at hp
    rw [List.mem_singleton.mp hp]
    exact ⟨Nat.le_add_right _ _, fun c hc => .inl hc⟩
  | c :: r, acc, 0, p, hp => by
    replace hp : p ∈ (if TL.pre S (c :: r) = true then acc :: TL.spl S (S.length - 1) [] r else TL.spl S 0 (acc ++ [c]) r) := hp
    rw [List.length_cons]
    split at hp
    · rcases List.mem_cons.mp hp with rfl | hp
      · exact ⟨Nat.le_add_right _ _, fun c hc => .inl hc⟩
      · obtain ⟨h1, h2⟩ := splAny S r [] _ p hp
        rw [List.length_nil] at h1
        refine ⟨by omega, fun d hd => ?_⟩
        rcases h2 d hd with h | h
        · cases h
        · exact .inr (List.mem_cons_of_mem _ h)
    · obtain ⟨h1, h2⟩ := splAny S r (acc ++ [c]) 0 p hp
      rw [List.length_append, List.length_singleton] at h1
      refine ⟨by omega, fun d hd => ?_⟩
      rcases h2 d hd with h | h
      · rcases List.mem_append.mp h with h | h
        · exact .inl h
        · exact .inr (by rw [List.mem_singleton.mp h]; exact List.mem_cons_self)
      · exact .inr (List.mem_cons_of_mem _ h)
  | c :: r, acc, k + 1, p, hp => by
    obtain ⟨h1, h2⟩ := splAny S r acc k p hp
    rw [List.length_cons]
    refine ⟨by omega, fun d hd => ?_⟩
    rcases h2 d hd with h | h
    · exact .inl h
    · exact .inr (List.mem_cons_of_mem _ h)
theorem spl1 (s : Nat) (acc r : List Nat) (c : Nat) : TL.spl [s] 0 acc (c :: r) = if c = s then acc :: TL.spl [s] 0 [] r else TL.spl [s] 0 (acc ++ [c]) r := by
  by_cases h : c = s
  · subst h
    rw [if_pos rfl]
    exact TL.spl_hit (by show ([c] == [c]) = true; simp)
  · rw [if_neg h]
    exact TL.spl_miss (TL.pre_of_head [] r h)
theorem spl1_ne (s : Nat) : ∀ (l acc : List Nat), TL.spl [s] 0 acc l ≠ []
  | [], acc => by rw [TL.spl_nil]; exact List.cons_ne_nil _ _
  | c :: r, acc => by
    rw [spl1]
    split
    · exact List.cons_ne_nil _ _
    · exact spl1_ne s r _
theorem join_spl1 (s : Nat) : ∀ (l acc : List Nat), TL.joinL [s] (TL.spl [s] 0 acc l) = acc ++ l
  | [], acc => by
    rw [TL.spl_nil, List.append_nil]
    rfl
  | c :: r, acc => by
    rw [spl1]
    split
    · rename_i h
      subst h
      obtain ⟨q, t, e⟩ := List.exists_cons_of_ne_nil (spl1_ne c r [])
      have ih := join_spl1 c r []
      rw [e] at ih ⊢
      show acc ++ ([c] ++ TL.joinL [c] (q :: t)) = _
      rw [ih]
      rfl
    · rw [join_spl1 s r, List.append_assoc]
      rfl
/-- how long the parts are together, each with one sign more -/
def totL (ps : List (List Nat)) : Nat := (ps.map fun p => p.length + 1).sum
theorem tot_spl1 (s : Nat) : ∀ (l acc : List Nat), totL (TL.spl [s] 0 acc l) = acc.length + l.length + 1
  | [], acc => by
    rw [TL.spl_nil]
    rfl
  | c :: r, acc => by
    rw [spl1, List.length_cons]
    split
    · have ih := tot_spl1 s r []
      show acc.length + 1 + totL (TL.spl [s] 0 [] r) = _
      rw [ih, List.length_nil]
      omega
    · rw [tot_spl1 s r, List.length_append, List.length_singleton]
      omega
theorem tl_blk : TL.tl (" " : Str) = [32] := by decide +kernel
theorem tl_nlk : TL.tl ("\n" : Str) = [10] := by decide +kernel
theorem words_join0 {z : Str} {ws : List Str} (e : wordsV (.str z) = some ws) : Txt.join " " ws = z := by
  replace e : (if [] ∈ partsL z then none else some ((partsL z).map fun l => (⟨l.toArray⟩ : Str))) = some ws := e
  split at e
  · cases e
  · cases e
    refine TL.ext_tl ?_
    rw [TL.join_eq, TL.tl_join, tl_blk, List.map_map]
    have : (TL.tl ∘ fun l : List Nat => (⟨l.toArray⟩ : Str)) = id := rfl
    rw [this, List.map_id]
    exact join_spl1 32 z.cps.toList []
theorem split_tl (z : Str) : (Txt.split z "\n").map TL.tl = TL.spl [10] 0 [] (TL.tl z) := by
  have h := TL.split_spl z "\n" (by decide +kernel) (TL.kind_ok (by decide +kernel))
  rwa [tl_nlk] at h
theorem split_tlb (z : Str) : (Txt.split z " ").map TL.tl = TL.spl [32] 0 [] (TL.tl z) := by
  have h := TL.split_spl z " " (by decide +kernel) (TL.kind_ok (by decide +kernel))
  rwa [tl_blk] at h
theorem rows_join0 (z : Str) : Txt.join "\n" (Txt.split z "\n") = z := by
  refine TL.ext_tl ?_
  rw [TL.join_eq, TL.tl_join, tl_nlk, split_tl]
  exact join_spl1 10 _ []
theorem rows_ne (z : Str) : Txt.split z "\n" ≠ [] := fun h => by
  have h2 := split_tl z
  rw [h] at h2
  exact spl1_ne 10 _ [] h2.symm
theorem words_ne {z : Str} {ws : List Str} (e : wordsV (.str z) = some ws) : ws ≠ [] := by
  replace e : (if [] ∈ partsL z then none else some ((partsL z).map fun l => (⟨l.toArray⟩ : Str))) = some ws := e
  split at e
  · cases e
  · cases e
    intro h
    exact spl1_ne 32 z.cps.toList [] (List.map_eq_nil_iff.mp h)
theorem plain_part {z : Str} (h : plainS z) {S l : List Nat} {k : Nat} (hl : l ∈ TL.spl S k [] (TL.tl z)) : plainS ⟨l.toArray⟩ := by
  obtain ⟨a, b⟩ := splAny S _ [] k l hl
  refine ⟨?_, fun c hc => ?_⟩
  · have e : (⟨l.toArray⟩ : Str).length = l.length := rfl
    have e2 : z.length = (TL.tl z).length := TL.len_tl z
    have := h.1
    rw [List.length_nil] at a
    omega
  · rcases b c hc with h3 | h3
    · cases h3
    · exact h.2 c h3
theorem words_plain0 {z : Str} {ws : List Str} (h : plainS z) (e : wordsV (.str z) = some ws) : ∀ p ∈ ws, plainS p := by
  replace e : (if [] ∈ partsL z then none else some ((partsL z).map fun l => (⟨l.toArray⟩ : Str))) = some ws := e
  split at e
  · cases e
  · cases e
    intro p hp
    obtain ⟨l, hl, rfl⟩ := List.mem_map.mp hp
    exact plain_part h hl
theorem split_plain {z : Str} (h : plainS z) {y : Str} (hy : TL.tl y ≠ []) (hk : ¬ Builtin.Str.strKind z < Builtin.Str.strKind y) : ∀ p ∈ Txt.split z y, plainS p := by
  intro p hp
  have hm : TL.tl p ∈ (Txt.split z y).map TL.tl := List.mem_map_of_mem hp
  rw [TL.split_spl z y hy hk] at hm
  have := plain_part h hm
  rwa [TL.mk_tl] at this
theorem rows_plain0 {z : Str} (h : plainS z) : ∀ p ∈ Txt.split z "\n", plainS p := split_plain h (by decide +kernel) (TL.kind_ok (by decide +kernel))
/-! numbers read back -/
def valN (l : List Nat) : Nat := l.foldl (fun acc c => acc * 10 + (c - 48)) 0
theorem valN_snoc (l : List Nat) (c : Nat) : valN (l ++ [c]) = valN l * 10 + (c - 48) := by
  unfold valN
  rw [List.foldl_append]
  rfl
theorem snoc_ind {α : Type} {P : List α → Prop} (h0 : P []) (h1 : ∀ l a, P l → P (l ++ [a])) : ∀ l, P l := fun l => by
  have : ∀ n, ∀ l : List α, l.length = n → P l := by
    intro n
    induction n with
    | zero =>
      intro l h
      rw [List.eq_nil_of_length_eq_zero h]
      exact h0
    | succ n ih =>
      intro l h
      have hne : l ≠ [] := fun z => by rw [z] at h; cases h
      have e := List.dropLast_concat_getLast hne
      rw [← e]
      exact h1 _ _ (ih _ (by rw [List.length_dropLast, h]; rfl))
  exact this _ l rfl
theorem valN_back : ∀ l : List Nat, (∀ c ∈ l, 48 ≤ c ∧ c ≤ 57) → l ≠ [] → (l.head? ≠ some 48 → 1 ≤ valN l ∧ TL.numL (valN l) = l) := by
  refine snoc_ind (fun _ h => absurd rfl h) fun l c ih hd _ hh => ?_
  rw [valN_snoc]
  have hc := hd c (List.mem_append_right _ List.mem_cons_self)
  by_cases hl : l = []
  · subst hl
    have hc2 : c ≠ 48 := fun z => hh (by rw [z]; rfl)
    show 1 ≤ 0 * 10 + (c - 48) ∧ TL.numL (0 * 10 + (c - 48)) = [c]
    rw [TL.numL_lt (by omega)]
    exact ⟨by omega, by congr 1; omega⟩
  · have hh2 : l.head? ≠ some 48 := fun z => hh (by
      cases l with
      | nil => exact absurd rfl hl
      | cons a l => exact z)
    obtain ⟨h1, h2⟩ := ih (fun c hc => hd c (List.mem_append_left _ hc)) hl hh2
    refine ⟨by omega, ?_⟩
    rw [TL.numL_step (by omega), show (valN l * 10 + (c - 48)) / 10 = valN l by omega, h2, show 48 + (valN l * 10 + (c - 48)) % 10 = c by omega]
theorem numOf_back {w : Str} {n : Int} (h : numOf (.str w) = .int n) : 0 ≤ n ∧ n < 10000000 ∧ TL.tl w = TL.numL n.toNat := by
  replace h : (if 1 ≤ w.length ∧ w.length ≤ 7 ∧ w.cps.toList.all digB = true ∧ ¬ (w.cps.toList.head? = some 48 ∧ w ≠ "0") then V.int (digV w.cps.toList) else .non) = .int n := h
  split at h
  · rename_i hc
    obtain ⟨c1, c2, c3, c4⟩ := hc
    cases h
    have hb : ∀ c ∈ w.cps.toList, 48 ≤ c ∧ c ≤ 57 := fun c hc => digB_bd (List.all_eq_true.mp c3 c hc)
    have hne : w.cps.toList ≠ [] := fun e => by
      have : w.length = w.cps.toList.length := len_cps w
      rw [e] at this
      simp at this
      omega
    have hv : digV w.cps.toList = ((valN w.cps.toList : Nat) : Int) := digV_nat w.cps.toList 0 hb
    rw [hv]
    have back : TL.numL (valN w.cps.toList) = w.cps.toList := by
      by_cases h48 : w.cps.toList.head? = some 48
      · have e : w = "0" := Classical.byContradiction fun z => c4 ⟨h48, z⟩
        subst e
        decide +kernel
      · exact (valN_back _ hb hne h48).2
    have hlt : valN w.cps.toList < 10000000 := by
      have hl : w.cps.toList.length ≤ 7 := by rw [← len_cps]; exact c2
      have key : ∀ l : List Nat, (∀ c ∈ l, 48 ≤ c ∧ c ≤ 57) → valN l < 10 ^ l.length := by
        refine snoc_ind (fun _ => by decide) fun l c ih hd => ?_
        have h1 := ih fun c hc => hd c (List.mem_append_left _ hc)
        have hc := hd c (List.mem_append_right _ List.mem_cons_self)
        rw [valN_snoc, List.length_append, List.length_singleton, Nat.pow_succ]
        omega
      exact Nat.lt_of_lt_of_le (key _ hb) (Nat.le_trans (Nat.pow_le_pow_right (by decide) hl) (by decide))
    refine ⟨by omega, by omega, ?_⟩
    show w.cps.toList = _
    rw [show ((valN w.cps.toList : Nat) : Int).toNat = valN w.cps.toList from rfl, back]
  · cases h
/-! ### any line: words taken one by one, or BadText of the row and the word -/
/-- what a BadText leaves -/
def BtE (K : PySem.W.Frag) (B : Hp) (M L : List (Addr × HO)) (r w : Int) (E : XK) : Prop := ∀ B' d H', Same B B' → Is B' M ((d, .xd [(("word" : Str), .int w), ("row", .int r), ("what", .str "text")]) :: L) H' → E (.ref (He.ga K "BadText")) (some d) H'
theorem g_btE {K : PySem.W.Frag} {B H : Hp} {M L : List (Addr × HO)} {E : XK} {gV : List V → List V → List V} {r w : Int} (C : ErrC K) (I : Is B M L H) (hg : ∀ a, gV [.ref a, .int r, .int w] [] = [.ref a, .int r, .int w]) (q : BtE K B M L r w E) :
    aXmk (He.ga K "BadText") 2 (sp_xinit K 2 ["what", "row", "word"] fun ws => [("word", nth .non ws 1), ("row", nth .non ws 0), ("what", .str "text")]) gV [.int r, .int w] H (fun cls d H' => E cls d H') := g_bt C I hg (q B · · (fun _ _ e => e))
theorem BtE.sub {K : PySem.W.Frag} {B : Hp} {M L L' : List (Addr × HO)} {r w : Int} {E : XK} (q : BtE K B M L r w E) (s : L.Sublist L') : BtE K B M L' r w E := fun B' d H' e I => q B' d H' e (I.forget (s.cons₂ _))
theorem BtE.same {K : PySem.W.Frag} {B B2 : Hp} {M L : List (Addr × HO)} {r w : Int} {E : XK} (q : BtE K B M L r w E) (s : Same B B2) : BtE K B2 M L r w E := fun B' d H' e I => q B' d H' (s.trans e) I
structure LineC (K : PySem.W.Frag) : Prop where
  cl : Cls K (He.ga K "Line")
  n1 : NoAttr K (He.ga K "Line") "on_row"
  n2 : NoAttr K (He.ga K "Line") "left_words"
  n3 : NoAttr K (He.ga K "Line") "taken"
abbrev lnO (K : PySem.W.Frag) (x dx lw : Addr) (r t : Int) (ws : List Str) (L : List (Addr × HO)) : List (Addr × HO) :=
  (x, .ins (He.ga K "Line") dx [("on_row", .int r), ("left_words", .ref lw), ("taken", .int t)]) :: (dx, .own x) :: (lw, .lst (ws.map V.str)) :: L
theorem lnO_sub {K : PySem.W.Frag} {x dx lw : Addr} {r t : Int} {ws : List Str} {L : List (Addr × HO)} : L.Sublist (lnO K x dx lw r t ws L) := ((List.Sublist.refl L).cons _).cons _ |>.cons _
theorem eqv_lst_nil (ds : List PyData) : PyData.eqv (.list ds) (.list []) = ds.isEmpty := by
  cases ds with
  | nil => simp [PyData.eqv, PyData.eqvAll]
  | cons c l => simp [PyData.eqv, PyData.eqvAll]
/-- words of a text -/
def Wdp (ws : List Str) : Prop := ∀ p ∈ ws, plainS p
theorem Wdp.tail {p : Str} {ws : List Str} (h : Wdp (p :: ws)) : Wdp ws := fun q hq => h q (List.mem_cons_of_mem _ hq)
theorem dp_strs {K : PySem.W.Frag} {H : Hp} : ∀ ws : List Str, DpAll K H (ws.map V.str) (ws.map PyData.str)
  | [] => .nil
  | w :: ws => .cons (.str w) (dp_strs ws)
theorem shn_strP : ∀ ws : List Str, Wdp ws → ∃ n, ShnAll (ws.map PyData.str) n 1
  | [], _ => ⟨_, .nil⟩
  | w :: ws, h => by
    obtain ⟨n, h2⟩ := shn_strP ws h.tail
    exact ⟨_, .cons (.str (h w List.mem_cons_self).2) h2⟩
theorem words_plain {z : Str} {ws : List Str} (h : plainS z) (e : wordsV (.str z) = some ws) : Wdp ws := words_plain0 h e
/-- the number that the word at a place tells, if it is from so much to so much -/
def numIn (ws : List Str) (i : Nat) (lo hi : Int) : Option Int := match ws[i]? with
  | none => none
  | some w => match numOf (.str w) with
    | .int n => if lo ≤ n ∧ n ≤ hi then some n else none
    | _ => none
def sp_Line_init (K : PySem.W.Frag) : Sp := fun vs H Q E => vs.length = 3 ∧ ∃ (x dx : Addr) (z : Str) (r : Int) (B : Hp) (M L : List (Addr × HO)), vs = [.ref x, .str z, .int r] ∧ Is B M ((x, .ins (He.ga K "Line") dx []) :: (dx, .own x) :: L) H ∧ plainS z ∧
  (wordsV (.str z) = none → BtE K B M L r 0 E) ∧ ∀ ws, wordsV (.str z) = some ws → ∀ lw H', Is B M (lnO K x dx lw r 0 ws L) H' → Q .non H'
theorem ap_Line_init {K : PySem.W.Frag} {H : Hp} {Q : VK} {E : XK} {x dx : Addr} {z : Str} {r : Int} {B : Hp} {M L : List (Addr × HO)} (I : Is B M ((x, .ins (He.ga K "Line") dx []) :: (dx, .own x) :: L) H) (h : plainS z) (q0 : wordsV (.str z) = none → BtE K B M L r 0 E) (q : ∀ ws, wordsV (.str z) = some ws → ∀ lw H', Is B M (lnO K x dx lw r 0 ws L) H' → Q .non H') : sp_Line_init K [.ref x, .str z, .int r] H Q E := ⟨rfl, x, dx, z, r, B, M, L, rfl, I, h, q0, q⟩
abbrev t_Line_init_0 (K : PySem.W.Frag) (E : XK) : TS := (sFld K (tVar 0) (tC (.int 0)) "taken")
abbrev t_Line_init_1 (K : PySem.W.Frag) (E : XK) : TS := (tSeq (sFld K (tVar 0) (tVar 3) "left_words") (t_Line_init_0 K E))
abbrev t_Line_init_2 (K : PySem.W.Frag) (E : XK) : TS := (tSeq (sFld K (tVar 0) (tVar 2) "on_row") (t_Line_init_1 K E))
abbrev t_Line_init_3 (K : PySem.W.Frag) (E : XK) : TS := (tSeq (tIfS (tTest (tOp rIsNo (tVar 3) (tC .non))) (tRaise (fun cls d _ H' => E cls d H') (tXMk (He.ga K "BadText") 2 (sp_BadText_init K) (fun vs zs => pick .non [0, 1, 2] (vs ++ zs)) (tCons (tVar 2) (tCons (tC (.int 0)) tNil)))) tNext) (t_Line_init_2 K E))
def t_Line_init (K : PySem.W.Frag) (E : XK) : TS := (tSeq (tAsg (tCl 1 0 (sp_words_of K) (fun vs zs => pick .non [0] (vs ++ zs)) E0 (tCons (tVar 1) tNil) tNil) (gName 3)) (t_Line_init_3 K E))
theorem rd_Line_init {K : PySem.W.Frag} (C : LineC K) (C2 : ErrC K) (vs : List V) (H : Hp) (Q : VK) (E : XK) (h : sp_Line_init K vs H Q E) : t_Line_init K E { nx := fun _ H' => Q .non H', rt := Q } (start ["self", "text", "row", "found"] vs) H := by
  obtain ⟨_, x, dx, z, r, B, M, L, rfl, hI, hp, q0, q⟩ := h
  show t_Line_init K E ⟨_, _, _, _⟩ [some (.ref x), some (.str z), some (.int r), none] H
  obtain ⟨cl, n1, n2, n3⟩ := C
  unfold t_Line_init
  tm_at "go"
  refine' (show sp_words_of K [.str z] H _ _ from ⟨rfl, .str z, .str, B, M, _, rfl, hI, thing_str hp, fun h => ?_, ?_⟩)
  · clear hI
    intro H hI
    tm_at "go"
    refine g_dec (fun _ => ?_) (fun h => absurd rfl h)
    refine g_raise ?_
    refine g_xmk ?_
    tm_at "go"
    exact g_btE C2 (hI.forget (by tm_at "sub")) (fun _ => rfl) (q0 h)
  · intro ws' h
    clear hI
    intro lw H hI
    tm_at "go"
    refine g_dec (fun h => by cases h) (fun _ => ?_)
    tm_at "go"
    exact q ws' h lw _ (hI.perm (by first | exact List.perm_middle (l₁ := [_, _]) | exact (List.perm_middle (l₁ := [_, _])).symm))
def sp_Line_ahead (K : PySem.W.Frag) : Sp := fun vs H Q _ => vs.length = 1 ∧ ∃ (x dx lw : Addr) (r t : Int) (ws : List Str) (B : Hp) (M L : List (Addr × HO)), vs = [.ref x] ∧ Is B M (lnO K x dx lw r t ws L) H ∧ Wdp ws ∧ ∀ H', Is B M (lnO K x dx lw r t ws L) H' → Q (.str (ws.headD "")) H'
theorem ap_Line_ahead {K : PySem.W.Frag} {H : Hp} {Q : VK} {E : XK} {x dx lw : Addr} {r t : Int} {ws : List Str} {B : Hp} {M L : List (Addr × HO)} (I : Is B M (lnO K x dx lw r t ws L) H) (hw : Wdp ws) (q : ∀ H', Is B M (lnO K x dx lw r t ws L) H' → Q (.str (ws.headD "")) H') : sp_Line_ahead K [.ref x] H Q E := ⟨rfl, x, dx, lw, r, t, ws, B, M, L, rfl, I, hw, q⟩
def t_Line_ahead (K : PySem.W.Frag) : TS := (tRet (tIf (tTest (tOp (rNeA K) (tFld K (tVar 0) "left_words") (tLst tNil))) (tOp (rIx K) (tFld K (tVar 0) "left_words") (tC (.int 0))) (tC (.str ""))))
theorem rd_Line_ahead {K : PySem.W.Frag} (C : LineC K) (vs : List V) (H : Hp) (Q : VK) (E : XK) (h : sp_Line_ahead K vs H Q E) : t_Line_ahead K { nx := fun _ H' => Q .non H', rt := Q } (start ["self"] vs) H := by
  obtain ⟨_, x, dx, lw, r, t, ws, B, M, L, rfl, hI, hws, q⟩ := h
  show t_Line_ahead K ⟨_, _, _, _⟩ [some (.ref x)] H
  obtain ⟨cl, n1, n2, n3⟩ := C
  obtain ⟨nn, hsh⟩ := shn_strP ws hws
  unfold t_Line_ahead
  tm_at "go"
  refine g_ne_d (.lst (by tm_at "sq") (dp_strs ws)) (.lst (xs := []) (by tm_at "sq") .nil) (Shn.shaped (.lst hsh) (by decide)) rfl ?_
  rw [eqv_lst_nil, List.isEmpty_map]
  replace hI := hI.forget (L' := lnO K x dx lw r t ws L) (by tm_at "sub")
  tm_at "go"
  cases ws with
  | nil =>
    refine g_nb (fun h => by cases h) (fun _ => ?_)
    tm_at "go"
    exact q _ hI
  | cons w ws =>
    refine g_nb (fun _ => ?_) (fun h => by cases h)
    tm_at "go"
    refine g_ix_l (by tm_at "sq") (atI_of (by decide) rfl) ?_
    exact q _ hI
def sp_Line_take (K : PySem.W.Frag) : Sp := fun vs H Q E => vs.length = 2 ∧ ∃ (x dx lw : Addr) (r t : Int) (g : Bool) (ws : List Str) (B : Hp) (M L : List (Addr × HO)), vs = [.ref x, .bl g] ∧ Is B M (lnO K x dx lw r t ws L) H ∧ (g = true → ws ≠ []) ∧ (g = false → BtE K B M L r (t + 1) E) ∧ ∀ w ws', g = true → ws = w :: ws' → ∀ H', Is B M (lnO K x dx lw r (t + 1) ws' L) H' → Q (.str w) H'
theorem ap_Line_take {K : PySem.W.Frag} {H : Hp} {Q : VK} {E : XK} {x dx lw : Addr} {r t : Int} {g : Bool} {ws : List Str} {B : Hp} {M L : List (Addr × HO)} (I : Is B M (lnO K x dx lw r t ws L) H) (h : g = true → ws ≠ []) (q0 : g = false → BtE K B M L r (t + 1) E) (q : ∀ w ws', g = true → ws = w :: ws' → ∀ H', Is B M (lnO K x dx lw r (t + 1) ws' L) H' → Q (.str w) H') : sp_Line_take K [.ref x, .bl g] H Q E := ⟨rfl, x, dx, lw, r, t, g, ws, B, M, L, rfl, I, h, q0, q⟩
abbrev t_Line_take_0 (K : PySem.W.Frag) (E : XK) : TS := (tRet (tBM K "list" rPopAt (tFld K (tVar 0) "left_words") (tCons (tC (.int 0)) tNil)))
abbrev t_Line_take_1 (K : PySem.W.Frag) (E : XK) : TS := (tSeq (sFldAug K (tVar 0) (tC (.int 1)) rAdd "taken") (t_Line_take_0 K E))
def t_Line_take (K : PySem.W.Frag) (E : XK) : TS := (tSeq (tIfS (tNot (tTr K (tVar 1))) (tRaise (fun cls d _ H' => E cls d H') (tXMk (He.ga K "BadText") 2 (sp_BadText_init K) (fun vs zs => pick .non [0, 1, 2] (vs ++ zs)) (tCons (tFld K (tVar 0) "on_row") (tCons (tOp (rAddA K) (tFld K (tVar 0) "taken") (tC (.int 1))) tNil)))) tNext) (t_Line_take_1 K E))
theorem rd_Line_take {K : PySem.W.Frag} (C : LineC K) (C2 : ErrC K) (vs : List V) (H : Hp) (Q : VK) (E : XK) (h : sp_Line_take K vs H Q E) : t_Line_take K E { nx := fun _ H' => Q .non H', rt := Q } (start ["self", "good"] vs) H := by
  obtain ⟨_, x, dx, lw, r, t, g, ws, B, M, L, rfl, hI, hne, q0, q⟩ := h
  show t_Line_take K E ⟨_, _, _, _⟩ [some (.ref x), some (.bl g)] H
  obtain ⟨cl, n1, n2, n3⟩ := C
  unfold t_Line_take
  cases g with
  | false =>
    tm_at "go"
    refine g_raise ?_
    refine g_xmk ?_
    tm_at "go"
    exact g_btE C2 (hI.forget lnO_sub) (fun _ => rfl) (q0 rfl)
  | true =>
    cases ws with
    | nil => exact absurd rfl (hne rfl)
    | cons w ws =>
      tm_at "go"
      refine' g_fldAdd (var_mono (i := 0)) ?_
      tm_at "go"
      refine' g_aFAdd hI (by tm_at "hp") cl n3 (by tm_at "fget") (by simp) (by tm_at "fput") (by tm_at "put") ?_
      clear hI
      intro H hI
      tm_at "go"
      refine' g_pop0 hI (by tm_at "hp") (by tm_at "put") ?_
      clear hI
      intro H hI
      exact q w ws rfl rfl _ hI
def sp_Line_take_word (K : PySem.W.Frag) : Sp := fun vs H Q E => vs.length = 2 ∧ ∃ (x dx lw : Addr) (r t : Int) (w : Str) (ws : List Str) (B : Hp) (M L : List (Addr × HO)), vs = [.ref x, .str w] ∧ Is B M (lnO K x dx lw r t ws L) H ∧ Wdp ws ∧ w ≠ "" ∧ ((∀ ws', ws ≠ w :: ws') → BtE K B M L r (t + 1) E) ∧ ∀ ws', ws = w :: ws' → ∀ H', Is B M (lnO K x dx lw r (t + 1) ws' L) H' → Q (.str w) H'
theorem ap_Line_take_word {K : PySem.W.Frag} {H : Hp} {Q : VK} {E : XK} {x dx lw : Addr} {r t : Int} {w : Str} {ws : List Str} {B : Hp} {M L : List (Addr × HO)} (I : Is B M (lnO K x dx lw r t ws L) H) (hw : Wdp ws) (h : w ≠ "") (q0 : (∀ ws', ws ≠ w :: ws') → BtE K B M L r (t + 1) E) (q : ∀ ws', ws = w :: ws' → ∀ H', Is B M (lnO K x dx lw r (t + 1) ws' L) H' → Q (.str w) H') : sp_Line_take_word K [.ref x, .str w] H Q E := ⟨rfl, x, dx, lw, r, t, w, ws, B, M, L, rfl, I, hw, h, q0, q⟩
def t_Line_take_word (K : PySem.W.Frag) (E : XK) : TS := (tRet (tMe (He.ga K "Line") "take" 1 0 (sp_Line_take K) (fun vs zs => pick .non [0, 1] (vs ++ zs)) E (tVar 0) (tCons (tOp (rEqA K) (tMe (He.ga K "Line") "ahead" 0 0 (sp_Line_ahead K) (fun vs zs => pick .non [0] (vs ++ zs)) E0 (tVar 0) tNil tNil) (tVar 1)) tNil) tNil))
theorem rd_Line_take_word {K : PySem.W.Frag} (C : LineC K) (vs : List V) (H : Hp) (Q : VK) (E : XK) (h : sp_Line_take_word K vs H Q E) : t_Line_take_word K E { nx := fun _ H' => Q .non H', rt := Q } (start ["self", "word"] vs) H := by
  obtain ⟨_, x, dx, lw, r, t, w, ws, B, M, L, rfl, hI, hws, hne, q0, q⟩ := h
  show t_Line_take_word K E ⟨_, _, _, _⟩ [some (.ref x), some (.str w)] H
  obtain ⟨cl, n1, n2, n3⟩ := C
  unfold t_Line_take_word
  tm_at "go"
  refine' ap_Line_ahead (K := K) hI hws ?_
  clear hI
  intro H hI
  tm_at "go"
  refine' ap_Line_take (K := K) hI (fun e z => ?_) (fun e => q0 fun ws' z => ?_) (fun w' ws' e z => ?_)
  · subst z
    have e2 : decide (V.str "" = V.str w) = true := e
    exact hne (V.str.inj (of_decide_eq_true e2)).symm
  · subst z
    have e2 : decide (V.str w = V.str w) = false := e
    exact (of_decide_eq_false e2) rfl
  · subst z
    have e3 : decide (V.str w' = V.str w) = true := e
    have e2 : w' = w := V.str.inj (of_decide_eq_true e3)
    subst e2
    exact q ws' rfl
theorem name_ne0 : isName (.str "") = false := by decide +kernel
def sp_Line_take_name (K : PySem.W.Frag) : Sp := fun vs H Q E => vs.length = 1 ∧ ∃ (x dx lw : Addr) (r t : Int) (ws : List Str) (B : Hp) (M L : List (Addr × HO)), vs = [.ref x] ∧ Is B M (lnO K x dx lw r t ws L) H ∧ Wdp ws ∧ ((∀ w ws', ws = w :: ws' → isName (.str w) = false) → BtE K B M L r (t + 1) E) ∧ ∀ w ws', ws = w :: ws' → isName (.str w) = true → ∀ H', Is B M (lnO K x dx lw r (t + 1) ws' L) H' → Q (.str w) H'
theorem ap_Line_take_name {K : PySem.W.Frag} {H : Hp} {Q : VK} {E : XK} {x dx lw : Addr} {r t : Int} {ws : List Str} {B : Hp} {M L : List (Addr × HO)} (I : Is B M (lnO K x dx lw r t ws L) H) (hw : Wdp ws) (q0 : (∀ w ws', ws = w :: ws' → isName (.str w) = false) → BtE K B M L r (t + 1) E) (q : ∀ w ws', ws = w :: ws' → isName (.str w) = true → ∀ H', Is B M (lnO K x dx lw r (t + 1) ws' L) H' → Q (.str w) H') : sp_Line_take_name K [.ref x] H Q E := ⟨rfl, x, dx, lw, r, t, ws, B, M, L, rfl, I, hw, q0, q⟩
theorem plainS_nil : plainS "" := ⟨by decide +kernel, by decide +kernel⟩
theorem Wdp.head {ws : List Str} (h : Wdp ws) : plainS (ws.headD "") := by
  cases ws with
  | nil => exact plainS_nil
  | cons w ws => exact h w List.mem_cons_self
def t_Line_take_name (K : PySem.W.Frag) (E : XK) : TS := (tRet (tMe (He.ga K "Line") "take" 1 0 (sp_Line_take K) (fun vs zs => pick .non [0, 1] (vs ++ zs)) E (tVar 0) (tCons (tCl 1 0 (sp_is_name K) (fun vs zs => pick .non [0] (vs ++ zs)) E0 (tCons (tMe (He.ga K "Line") "ahead" 0 0 (sp_Line_ahead K) (fun vs zs => pick .non [0] (vs ++ zs)) E0 (tVar 0) tNil tNil) tNil) tNil) tNil) tNil))
theorem rd_Line_take_name {K : PySem.W.Frag} (C : LineC K) (vs : List V) (H : Hp) (Q : VK) (E : XK) (h : sp_Line_take_name K vs H Q E) : t_Line_take_name K E { nx := fun _ H' => Q .non H', rt := Q } (start ["self"] vs) H := by
  obtain ⟨_, x, dx, lw, r, t, ws, B, M, L, rfl, hI, hws, q0, q⟩ := h
  show t_Line_take_name K E ⟨_, _, _, _⟩ [some (.ref x)] H
  obtain ⟨cl, n1, n2, n3⟩ := C
  unfold t_Line_take_name
  tm_at "go"
  refine' ap_Line_ahead (K := K) hI hws ?_
  clear hI
  intro H hI
  tm_at "go"
  refine' ap_is_nameT (K := K) hI (thing_str hws.head) ?_
  clear hI
  intro H hI
  tm_at "go"
  refine' ap_Line_take (K := K) hI (fun e z => ?_) (fun e => q0 fun w ws' z => ?_) (fun w' ws' e z => ?_)
  · subst z
    rw [show ([] : List Str).headD "" = "" from rfl, name_ne0] at e
    cases e
  · subst z
    exact e
  · subst z
    exact q w' ws' rfl e
theorem num_ne0 : numOf (.str "") = .non := by decide +kernel
theorem numOf_cases (z : Str) : numOf (.str z) = .non ∨ ∃ n, numOf (.str z) = .int n := by
  by_cases h : 1 ≤ z.length ∧ z.length ≤ 7 ∧ z.cps.toList.all digB = true ∧ ¬ (z.cps.toList.head? = some 48 ∧ z ≠ "0")
  · exact .inr ⟨_, if_pos h⟩
  · exact .inl (if_neg h)
def sp_Line_take_number (K : PySem.W.Frag) : Sp := fun vs H Q E => vs.length = 3 ∧ ∃ (x dx lw : Addr) (r t lo hi : Int) (ws : List Str) (B : Hp) (M L : List (Addr × HO)), vs = [.ref x, .int lo, .int hi] ∧ Is B M (lnO K x dx lw r t ws L) H ∧ Wdp ws ∧ (numIn ws 0 lo hi = none → BtE K B M L r (t + 1) E) ∧ ∀ w ws' n, ws = w :: ws' → numIn ws 0 lo hi = some n → ∀ H', Is B M (lnO K x dx lw r (t + 1) ws' L) H' → Q (.int n) H'
theorem ap_Line_take_number {K : PySem.W.Frag} {H : Hp} {Q : VK} {E : XK} {x dx lw : Addr} {r t lo hi : Int} {ws : List Str} {B : Hp} {M L : List (Addr × HO)} (I : Is B M (lnO K x dx lw r t ws L) H) (hw : Wdp ws) (q0 : numIn ws 0 lo hi = none → BtE K B M L r (t + 1) E) (q : ∀ w ws' n, ws = w :: ws' → numIn ws 0 lo hi = some n → ∀ H', Is B M (lnO K x dx lw r (t + 1) ws' L) H' → Q (.int n) H') : sp_Line_take_number K [.ref x, .int lo, .int hi] H Q E := ⟨rfl, x, dx, lw, r, t, lo, hi, ws, B, M, L, rfl, I, hw, q0, q⟩
abbrev t_Line_take_number_0 (K : PySem.W.Frag) (E : XK) : TS := (tRet (tVar 3))
abbrev t_Line_take_number_1 (K : PySem.W.Frag) (E : XK) : TS := (tSeq (tDrop (tMe (He.ga K "Line") "take" 1 0 (sp_Line_take K) (fun vs zs => pick .non [0, 1] (vs ++ zs)) E (tVar 0) (tCons (tAndV (tOp rNoNo (tVar 3) (tC .non)) (tCl 2 1 (sp_is_whole K) (fun vs zs => pick .non [0, 1, 2] (vs ++ (zs ++ [.int 1000000]))) E0 (tCons (tVar 3) (tCons (tVar 1) tNil)) (tCons (tVar 2) tNil))) tNil) tNil)) (t_Line_take_number_0 K E))
def t_Line_take_number (K : PySem.W.Frag) (E : XK) : TS := (tSeq (tAsg (tCl 1 0 (sp_number_of K) (fun vs zs => pick .non [0] (vs ++ zs)) E0 (tCons (tMe (He.ga K "Line") "ahead" 0 0 (sp_Line_ahead K) (fun vs zs => pick .non [0] (vs ++ zs)) E0 (tVar 0) tNil tNil) tNil) tNil) (gName 3)) (t_Line_take_number_1 K E))
theorem rd_Line_take_number {K : PySem.W.Frag} (C : LineC K) (vs : List V) (H : Hp) (Q : VK) (E : XK) (h : sp_Line_take_number K vs H Q E) : t_Line_take_number K E { nx := fun _ H' => Q .non H', rt := Q } (start ["self", "least", "most", "found"] vs) H := by
  obtain ⟨_, x, dx, lw, r, t, lo, hi, ws, B, M, L, rfl, hI, hws, q0, q⟩ := h
  show t_Line_take_number K E ⟨_, _, _, _⟩ [some (.ref x), some (.int lo), some (.int hi), none] H
  obtain ⟨cl, n1, n2, n3⟩ := C
  unfold t_Line_take_number
  tm_at "go"
  refine' ap_Line_ahead (K := K) hI hws ?_
  clear hI
  intro H hI
  tm_at "go"
  refine' (show sp_number_of K [.str (ws.headD "")] H _ _ from ⟨rfl, .str (ws.headD ""), .str, B, M, _, rfl, hI, thing_str hws.head, ?_⟩)
  clear hI
  intro H hI
  rcases numOf_cases (ws.headD "") with e | ⟨n, e⟩
  · rw [e]
    have en : numIn ws 0 lo hi = none := by
      unfold numIn
      cases ws with
      | nil => rfl
      | cons w ws =>
        show (match numOf (.str w) with | .int n => if lo ≤ n ∧ n ≤ hi then some n else none | _ => none) = none
        rw [show numOf (.str w) = .non from e]
    tm_at "go"
    refine g_ndec (fun h => absurd rfl h) (fun _ => ?_)
    tm_at "go"
    refine' ap_Line_take (K := K) hI (fun e => by cases e) (fun _ => q0 en) (fun _ _ e => by cases e)
  · rw [e]
    have hne : ws ≠ [] := fun z => by
      subst z
      rw [show ([] : List Str).headD "" = "" from rfl, num_ne0] at e
      cases e
    obtain ⟨w, ws', rfl⟩ := List.exists_cons_of_ne_nil hne
    have en : numIn (w :: ws') 0 lo hi = if lo ≤ n ∧ n ≤ hi then some n else none := by
      show (match numOf (.str w) with | .int n => if lo ≤ n ∧ n ≤ hi then some n else none | _ => none) = _
      rw [show numOf (.str w) = .int n from e]
    tm_at "go"
    refine g_ndec (fun _ => ?_) (fun h => by cases h)
    tm_at "go"
    refine' ap_is_whole (K := K) (thing_int n) ?_
    have ew : isWhole (.int n) lo hi = decide (lo ≤ n ∧ n ≤ hi) := by
      show (decide (lo ≤ n) && decide (n ≤ hi)) = _
      rw [Bool.decide_and]
    rw [ew]
    tm_at "go"
    refine' ap_Line_take (K := K) hI (fun _ => hne) (fun e2 => q0 ?_) ?_
    · rw [en, if_neg (of_decide_eq_false e2)]
    · clear hI
      intro w' ws2 e2 z H' hI
      cases z
      tm_at "go"
      exact q w ws' n rfl (by rw [en, if_pos (of_decide_eq_true e2)]) _ hI
def sp_Line_over (K : PySem.W.Frag) : Sp := fun vs H Q E => vs.length = 1 ∧ ∃ (x dx lw : Addr) (r t : Int) (ws : List Str) (B : Hp) (M L : List (Addr × HO)), vs = [.ref x] ∧ Is B M (lnO K x dx lw r t ws L) H ∧ Wdp ws ∧ (ws ≠ [] → BtE K B M L r (t + 1) E) ∧ (ws = [] → ∀ H', Is B M L H' → Q .non H')
theorem ap_Line_over {K : PySem.W.Frag} {H : Hp} {Q : VK} {E : XK} {x dx lw : Addr} {r t : Int} {ws : List Str} {B : Hp} {M L : List (Addr × HO)} (I : Is B M (lnO K x dx lw r t ws L) H) (hw : Wdp ws) (q0 : ws ≠ [] → BtE K B M L r (t + 1) E) (q : ws = [] → ∀ H', Is B M L H' → Q .non H') : sp_Line_over K [.ref x] H Q E := ⟨rfl, x, dx, lw, r, t, ws, B, M, L, rfl, I, hw, q0, q⟩
def t_Line_over (K : PySem.W.Frag) (E : XK) : TS := (tIfS (tTest (tOp (rNeA K) (tFld K (tVar 0) "left_words") (tLst tNil))) (tRaise (fun cls d _ H' => E cls d H') (tXMk (He.ga K "BadText") 2 (sp_BadText_init K) (fun vs zs => pick .non [0, 1, 2] (vs ++ zs)) (tCons (tFld K (tVar 0) "on_row") (tCons (tOp (rAddA K) (tFld K (tVar 0) "taken") (tC (.int 1))) tNil)))) tNext)
theorem rd_Line_over {K : PySem.W.Frag} (C : LineC K) (C2 : ErrC K) (vs : List V) (H : Hp) (Q : VK) (E : XK) (h : sp_Line_over K vs H Q E) : t_Line_over K E { nx := fun _ H' => Q .non H', rt := Q } (start ["self"] vs) H := by
  obtain ⟨_, x, dx, lw, r, t, ws, B, M, L, rfl, hI, hws, q0, q⟩ := h
  show t_Line_over K E ⟨_, _, _, _⟩ [some (.ref x)] H
  obtain ⟨cl, n1, n2, n3⟩ := C
  obtain ⟨nn, hsh⟩ := shn_strP ws hws
  unfold t_Line_over
  tm_at "go"
  refine g_ne_d (.lst (by tm_at "sq") (dp_strs ws)) (.lst (xs := []) (by tm_at "sq") .nil) (Shn.shaped (.lst hsh) (by decide)) rfl ?_
  rw [eqv_lst_nil, List.isEmpty_map]
  replace hI := hI.forget (L' := lnO K x dx lw r t ws L) (by tm_at "sub")
  tm_at "go"
  refine g_nb (fun h => ?_) (fun h => ?_)
  · refine g_raise ?_
    refine g_xmk ?_
    tm_at "go"
    exact g_btE C2 (hI.forget lnO_sub) (fun _ => rfl) (q0 fun z => by subst z; cases h)
  · tm_at "go"
    exact q (List.isEmpty_iff.mp h) _ (hI.forget lnO_sub)
/-! rows of a text -/
def sp_rows_of (K : PySem.W.Frag) : Sp := fun vs H Q E => vs.length = 1 ∧ ∃ (v : V) (k : Kn) (B : Hp) (M L : List (Addr × HO)), vs = [v] ∧ Is B M L H ∧ Thing K B v k ∧ ((∀ z, v ≠ .str z) → BtE K B M L 0 0 E) ∧ ∀ z, v = .str z → plainS z → ∀ p H', Is B M ((p, .lst ((Txt.split z "\n").map V.str)) :: L) H' → Q (.ref p) H'
theorem ap_rows_of {K : PySem.W.Frag} {H : Hp} {Q : VK} {E : XK} {v : V} {k : Kn} {B : Hp} {M L : List (Addr × HO)} (I : Is B M L H) (h : Thing K B v k) (q0 : (∀ z, v ≠ .str z) → BtE K B M L 0 0 E) (q : ∀ z, v = .str z → plainS z → ∀ p H', Is B M ((p, .lst ((Txt.split z "\n").map V.str)) :: L) H' → Q (.ref p) H') : sp_rows_of K [v] H Q E := ⟨rfl, v, k, B, M, L, rfl, I, h, q0, q⟩
abbrev t_rows_of_0 (K : PySem.W.Frag) (E : XK) : TS := (tRet (tM1 rSplit (tVar 0) (tC (.str "\n"))))
def t_rows_of (K : PySem.W.Frag) (E : XK) : TS := (tSeq (tIfS (tNot (tTr K (tCB (rIsi K) (tCons (tVar 0) (tCons (tC (.ty "str")) tNil))))) (tRaise (fun cls d _ H' => E cls d H') (tXMk (He.ga K "BadText") 2 (sp_BadText_init K) (fun vs zs => pick .non [0, 1, 2] (vs ++ zs)) (tCons (tC (.int 0)) (tCons (tC (.int 0)) tNil)))) tNext) (t_rows_of_0 K E))
theorem rd_rows_of {K : PySem.W.Frag} (C2 : ErrC K) (vs : List V) (H : Hp) (Q : VK) (E : XK) (h : sp_rows_of K vs H Q E) : t_rows_of K E { nx := fun _ H' => Q .non H', rt := Q } (start ["text"] vs) H := by
  obtain ⟨_, v, k, B, M, L, rfl, hI, hv, q0, q⟩ := h
  show t_rows_of K E ⟨_, _, _, _⟩ [some v] H
  have bad : (∀ z, v ≠ .str z) → tRaise (fun cls d _ H' => E cls d H') (tXMk (He.ga K "BadText") 2 (sp_BadText_init K) (fun vs zs => pick .non [0, 1, 2] (vs ++ zs)) (tCons (tC (.int 0)) (tCons (tC (.int 0)) tNil))) ⟨fun σ H' => t_rows_of_0 K E { nx := fun _ H' => Q .non H', rt := Q } σ H', Q, fun _ _ => False, fun _ _ => False⟩ [some v] H := fun hn => by
    refine g_raise ?_
    refine g_xmk ?_
    tm_at "go"
    exact g_btE C2 hI (fun _ => rfl) (q0 hn)
  have hx := Thing.same hI.ex hv
  unfold t_rows_of
  tm_at "go"
  refine hx.cases ?_ ?_ ?_ ?_ ?_
  · rintro rfl rfl
    tm_at "go"
    exact bad (fun z e => by cases e)
  · rintro b rfl rfl
    tm_at "go"
    exact bad (fun z e => by cases e)
  · rintro n rfl rfl
    tm_at "go"
    exact bad (fun z e => by cases e)
  · rintro z rfl rfl hp
    tm_at "go"
    refine ⟨z, "\n", rfl, rfl, by decide +kernel, Nat.le_trans (Nat.add_le_add_right hp.1 2) (by decide +kernel), ?_⟩
    refine g_newS hI ?_
    exact q z rfl hp
  · rintro a rfl hk
    refine g_isiF (Thing.same hI.ex hv) (by decide) (Kn.noInt hk).2.2 ?_
    tm_at "go"
    exact bad (fun z e => by cases e)
/-! ### what a text of a style comes to: name and steps, or row and word of what can't stand -/
def rdHead : List Str → Except Int Str
  | [] => .error 1
  | w0 :: t => if w0 = "style" then (match t with
    | [] => .error 2
    | n :: t2 => if isName (.str n) = true then (if t2 = [] then .ok n else .error 3) else .error 2) else .error 1
def rdStep (k : Nat) : List Str → Except Int StepT
  | [] => .error 1
  | w0 :: t => if k < 12 ∧ kindV (.str w0) ≠ .non then (match numIn t 0 1 240 with
    | none => .error 2
    | some h => match numIn (t.drop 1) 0 0 240 with
      | none => .error 3
      | some r => if t.length = 2 then .ok (w0, h, r) else .error 4) else .error 1
def rdRows : Nat → List Str → List StepT → Except (Int × Int) (List StepT)
  | _, [], ss => .ok ss
  | k, z :: zs, ss => match wordsV (.str z) with
    | none => .error ((k : Int) + 2, 0)
    | some ws => match rdStep k ws with
      | .error j => .error ((k : Int) + 2, j)
      | .ok s => rdRows (k + 1) zs (ss ++ [s])
def rdAll : List Str → Except (Int × Int) (Str × List StepT)
  | [] => .error (1, 0)
  | z :: zs => match wordsV (.str z) with
    | none => .error (1, 0)
    | some ws => match rdHead ws with
      | .error j => .error (1, j)
      | .ok nm => match rdRows 0 zs [] with
        | .error e => .error e
        | .ok ss => if ss = [] then .error (2, 1) else .ok (nm, ss)
def rdStyle (z : Str) : Except (Int × Int) (Str × List StepT) := rdAll (Txt.split z "\n")
def rdV (v : V) : Except (Int × Int) (Str × List StepT) := match v with
  | .str z => rdStyle z
  | _ => .error (0, 0)
theorem rdHead_eq (w0 : Str) (t : List Str) : rdHead (w0 :: t) = if w0 = "style" then (match t with
    | [] => .error 2
    | n :: t2 => if isName (.str n) = true then (if t2 = [] then .ok n else .error 3) else .error 2) else .error 1 := rfl
theorem rdHead_no {w0 : Str} {t : List Str} (h : w0 ≠ "style") : rdHead (w0 :: t) = .error 1 := by rw [rdHead_eq, if_neg h]
theorem rdHead_nm {t : List Str} (h : ∀ n t2, t = n :: t2 → isName (.str n) = false) : rdHead ("style" :: t) = .error 2 := by
  rw [rdHead_eq, if_pos rfl]
  cases t with
  | nil => rfl
  | cons n t2 =>
    dsimp only
    rw [h n t2 rfl, if_neg (by decide)]
theorem rdHead_ok {n : Str} {t2 : List Str} (h : isName (.str n) = true) : rdHead ("style" :: n :: t2) = if t2 = [] then .ok n else .error 3 := by
  rw [rdHead_eq, if_pos rfl]
  dsimp only
  rw [if_pos h]
theorem rdRows_cons (k : Nat) (z : Str) (zs : List Str) (ss : List StepT) : rdRows k (z :: zs) ss = match wordsV (.str z) with
    | none => .error ((k : Int) + 2, 0)
    | some ws => match rdStep k ws with
      | .error j => .error ((k : Int) + 2, j)
      | .ok s => rdRows (k + 1) zs (ss ++ [s]) := rfl
theorem rdAll_cons (z : Str) (zs : List Str) : rdAll (z :: zs) = match wordsV (.str z) with
    | none => .error (1, 0)
    | some ws => match rdHead ws with
      | .error j => .error (1, j)
      | .ok nm => match rdRows 0 zs [] with
        | .error e => .error e
        | .ok ss => if ss = [] then .error (2, 1) else .ok (nm, ss) := rfl
theorem numIn_ne {ws : List Str} {lo hi n : Int} (h : numIn ws 0 lo hi = some n) : lo ≤ n ∧ n ≤ hi ∧ ∃ w t, ws = w :: t ∧ numOf (.str w) = .int n := by
  cases ws with
  | nil => cases h
  | cons w t =>
    replace h : (match numOf (.str w) with | .int n => if lo ≤ n ∧ n ≤ hi then some n else none | _ => none) = some n := h
    rcases numOf_cases w with e | ⟨m, e⟩
    · rw [e] at h
      cases h
    · rw [e] at h
      dsimp only at h
      split at h
      · rename_i hc
        cases h
        exact ⟨hc.1, hc.2, w, t, rfl, e⟩
      · cases h
theorem kind_work {w : Str} (h : kindV (.str w) ≠ .non) : WorkOk w := by
  have e : kindV (.str w) = (match kndL.lookup w with | some v => .str v | none => .non) := rfl
  rw [e] at h
  cases hz : kndL.lookup w with
  | none => rw [hz] at h; exact absurd rfl h
  | some v => exact ⟨v, lookup_mem hz⟩
theorem rdStep_cons (k : Nat) (w0 : Str) (t : List Str) : rdStep k (w0 :: t) = if k < 12 ∧ kindV (.str w0) ≠ .non then (match numIn t 0 1 240 with
    | none => .error 2
    | some h => match numIn (t.drop 1) 0 0 240 with
      | none => .error 3
      | some r => if t.length = 2 then .ok (w0, h, r) else .error 4) else .error 1 := rfl
theorem rdStep_good {k : Nat} {ws : List Str} {s : StepT} (h : rdStep k ws = .ok s) : StepG s ∧ k < 12 := by
  cases ws with
  | nil => cases h
  | cons w0 t =>
    rw [rdStep_cons] at h
    split at h
    · rename_i hc
      cases h1 : numIn t 0 1 240 with
      | none => rw [h1] at h; cases h
      | some a =>
        rw [h1] at h
        dsimp only at h
        cases h2 : numIn (t.drop 1) 0 0 240 with
        | none => rw [h2] at h; cases h
        | some b =>
          rw [h2] at h
          dsimp only at h
          split at h
          · cases h
            obtain ⟨a1, a2, _⟩ := numIn_ne h1
            obtain ⟨b1, b2, _⟩ := numIn_ne h2
            exact ⟨⟨kind_work hc.2, a1, a2, b1, b2⟩, hc.1⟩
          · cases h
    · cases h
def sp_read_style (K : PySem.W.Frag) : Sp := fun vs H Q E => vs.length = 1 ∧ ∃ (v : V) (k : Kn) (B : Hp) (M L : List (Addr × HO)), vs = [v] ∧ Is B M L H ∧ Thing K B v k ∧ (∀ r w, rdV v = .error (r, w) → BtE K B M L r w E) ∧ ∀ nm rs, rdV v = .ok (nm, rs) → ∀ x B' H', Same B B' → Is B' M L H' → StyleAt K B' x nm rs → Q (.ref x) H'
theorem ap_read_style {K : PySem.W.Frag} {H : Hp} {Q : VK} {E : XK} {v : V} {k : Kn} {B : Hp} {M L : List (Addr × HO)} (I : Is B M L H) (h : Thing K B v k) (q0 : ∀ r w, rdV v = .error (r, w) → BtE K B M L r w E) (q : ∀ nm rs, rdV v = .ok (nm, rs) → ∀ x B' H', Same B B' → Is B' M L H' → StyleAt K B' x nm rs → Q (.ref x) H') : sp_read_style K [v] H Q E := ⟨rfl, v, k, B, M, L, rfl, I, h, q0, q⟩
abbrev t_read_style_0 (K : PySem.W.Frag) (E : XK) : TS := (tDrop (tMe (He.ga K "Line") "over" 0 0 (sp_Line_over K) (fun vs zs => pick .non [0] (vs ++ zs)) E (tVar 3) tNil tNil))
abbrev t_read_style_1 (K : PySem.W.Frag) (E : XK) : TS := (tSeq (tDrop (tBM K "list" rAppend (tVar 2) (tCons (tTup (tCons (tVar 7) (tCons (tVar 8) (tCons (tMe (He.ga K "Line") "take_number" 2 0 (sp_Line_take_number K) (fun vs zs => pick .non [0, 1, 2] (vs ++ zs)) E (tVar 3) (tCons (tC (.int 0)) (tCons (tC (.int 240)) tNil)) tNil) tNil)))) tNil))) (t_read_style_0 K E))
abbrev t_read_style_2 (K : PySem.W.Frag) (E : XK) : TS := (tSeq (tAsg (tMe (He.ga K "Line") "take_number" 2 0 (sp_Line_take_number K) (fun vs zs => pick .non [0, 1, 2] (vs ++ zs)) E (tVar 3) (tCons (tC (.int 1)) (tCons (tC (.int 240)) tNil)) tNil) (gName 8)) (t_read_style_1 K E))
abbrev t_read_style_3 (K : PySem.W.Frag) (E : XK) : TS := (tSeq (tAsg (tMe (He.ga K "Line") "take" 1 0 (sp_Line_take K) (fun vs zs => pick .non [0, 1] (vs ++ zs)) E (tVar 3) (tCons (tAndV (tOp (rI0 fun i j => .bl (decide (i < j))) (tVar 5) (tC (.int 12))) (tOp rNoNo (tCl 1 0 (sp_kind_of K) (fun vs zs => pick .non [0] (vs ++ zs)) E0 (tCons (tMe (He.ga K "Line") "ahead" 0 0 (sp_Line_ahead K) (fun vs zs => pick .non [0] (vs ++ zs)) E0 (tVar 3) tNil tNil) tNil) tNil) (tC .non))) tNil) tNil) (gName 7)) (t_read_style_2 K E))
abbrev t_read_style_4 (K : PySem.W.Frag) (E : XK) : TS := (tSeq (tAsg (tMk (He.ga K "Line") 2 0 (sp_Line_init K) (fun vs zs => pick .non [0, 1, 2] (vs ++ zs)) E (tCons (tVar 6) (tCons (tOp (rAddA K) (tVar 5) (tC (.int 2))) tNil)) tNil) (gName 3)) (t_read_style_3 K E))
abbrev t_read_style_5 (K : PySem.W.Frag) (E : XK) : TS := (tRet (tMk (He.ga K "Style") 2 0 (sp_Style_init K) (fun vs zs => pick .non [0, 1, 2] (vs ++ zs)) E (tCons (tVar 4) (tCons (tVar 2) tNil)) tNil))
abbrev t_read_style_6 (K : PySem.W.Frag) (E : XK) : TS := (tSeq (tIfS (tTest (tOp (rEqA K) (tVar 2) (tLst tNil))) (tRaise (fun cls d _ H' => E cls d H') (tXMk (He.ga K "BadText") 2 (sp_BadText_init K) (fun vs zs => pick .non [0, 1, 2] (vs ++ zs)) (tCons (tC (.int 2)) (tCons (tC (.int 1)) tNil)))) tNext) (t_read_style_5 K E))
abbrev t_read_style_7 (K : PySem.W.Frag) (E : XK) : TS := (tSeq (tFor (iEnumA K (tCons (tSl (rSlA K) (tVar 1) (tPart (tC (.int 1))) tNoPart) tNil)) (gTup K 2 (gCons (gName 5) (gCons (gName 6) gNil))) (t_read_style_4 K E)) (t_read_style_6 K E))
abbrev t_read_style_8 (K : PySem.W.Frag) (E : XK) : TS := (tSeq (tDrop (tMe (He.ga K "Line") "over" 0 0 (sp_Line_over K) (fun vs zs => pick .non [0] (vs ++ zs)) E (tVar 3) tNil tNil)) (t_read_style_7 K E))
abbrev t_read_style_9 (K : PySem.W.Frag) (E : XK) : TS := (tSeq (tAsg (tMe (He.ga K "Line") "take_name" 0 0 (sp_Line_take_name K) (fun vs zs => pick .non [0] (vs ++ zs)) E (tVar 3) tNil tNil) (gName 4)) (t_read_style_8 K E))
abbrev t_read_style_10 (K : PySem.W.Frag) (E : XK) : TS := (tSeq (tDrop (tMe (He.ga K "Line") "take_word" 1 0 (sp_Line_take_word K) (fun vs zs => pick .non [0, 1] (vs ++ zs)) E (tVar 3) (tCons (tC (.str "style")) tNil) tNil)) (t_read_style_9 K E))
abbrev t_read_style_11 (K : PySem.W.Frag) (E : XK) : TS := (tSeq (tAsg (tMk (He.ga K "Line") 2 0 (sp_Line_init K) (fun vs zs => pick .non [0, 1, 2] (vs ++ zs)) E (tCons (tOp (rIx K) (tVar 1) (tC (.int 0))) (tCons (tC (.int 1)) tNil)) tNil) (gName 3)) (t_read_style_10 K E))
def t_read_style (K : PySem.W.Frag) (E : XK) : TS := (tSeq (tPar 1 2 (tCons (tCl 1 0 (sp_rows_of K) (fun vs zs => pick .non [0] (vs ++ zs)) E (tCons (tVar 0) tNil) tNil) (tCons (tLst tNil) tNil))) (t_read_style_11 K E))
theorem rd_read_style {K : PySem.W.Frag} (C : LineC K) (C2 : ErrC K) (vs : List V) (H : Hp) (Q : VK) (E : XK) (h : sp_read_style K vs H Q E) : t_read_style K E { nx := fun _ H' => Q .non H', rt := Q } (start ["text", "rows", "steps", "line", "name", "k", "row", "work", "hours"] vs) H := by
  obtain ⟨_, v, k, B, M, L, rfl, hI, hv, q0, q⟩ := h
  show t_read_style K E ⟨_, _, _, _⟩ [some v, none, none, none, none, none, none, none, none] H
  unfold t_read_style
  tm_at "go"
  refine' ap_rows_of (K := K) hI hv (fun hn => q0 0 0 ?_) ?_
  · cases v with
    | str z => exact absurd rfl (hn z)
    | _ => rfl
  rintro z rfl hz p H hI
  replace q0 : ∀ r w, rdStyle z = .error (r, w) → BtE K B M L r w E := q0
  replace q : ∀ nm rs, rdStyle z = .ok (nm, rs) → ∀ x B' H', Same B B' → Is B' M L H' → StyleAt K B' x nm rs → Q (.ref x) H' := q
  have hrp := rows_plain0 hz
  have hrl : (Txt.split z "\n").length ≤ 100001 := by
    have h1 := tot_spl1 10 (TL.tl z) []
    rw [← split_tl] at h1
    have h2 : ∀ ps : List (List Nat), ps.length ≤ totL ps := fun ps => by
      induction ps with
      | nil => exact Nat.le_refl _
      | cons a l ih =>
        show l.length + 1 ≤ a.length + 1 + totL l
        omega
    have h3 := h2 ((Txt.split z "\n").map TL.tl)
    rw [List.length_map] at h3
    have h4 : z.length = (TL.tl z).length := TL.len_tl z
    have h5 := hz.1
    rw [List.length_nil] at h1
    omega
  unfold rdStyle at q0 q
  obtain ⟨r0, rows, er⟩ := List.exists_cons_of_ne_nil (rows_ne z)
  rw [er] at hI q0 q hrp hrl
  rw [List.length_cons] at hrl
  have hp0 := hrp r0 List.mem_cons_self
  obtain ⟨rl, rfl⟩ : ∃ q, q = p := ⟨_, rfl⟩
  tm_at "go"
  obtain ⟨st, rfl⟩ : ∃ q, q = p := ⟨_, rfl⟩
  refine g_ix_l (by tm_at "sq") (atI_of (a := V.str r0) (by decide) rfl) ?_
  tm_at "go"
  refine' ap_Line_init (K := K) hI hp0 (fun e => ?_) ?_
  · refine (q0 1 0 ?_).sub (by tm_at "sub")
    rw [rdAll_cons, e]
  clear hI
  intro ws ew lw H hI
  have hwp := words_plain hp0 ew
  have hwn := words_ne ew
  rw [rdAll_cons, ew] at q0 q
  dsimp only at q0 q
  obtain ⟨w0, t, rfl⟩ := List.exists_cons_of_ne_nil hwn
  refine ⟨rfl, ?_⟩
  tm_at "go"
  refine' ap_Line_take_word (K := K) hI hwp (by decide +kernel) (fun hn => ?_) ?_
  · refine (q0 1 1 ?_).sub (by tm_at "sub")
    rw [rdHead_no (fun e => hn t (by rw [e]))]
  clear hI
  intro ws' ee H hI
  cases ee
  have hwt := hwp.tail
  tm_at "go"
  refine' ap_Line_take_name (K := K) hI hwt (fun hn => ?_) ?_
  · refine (q0 1 2 ?_).sub (by tm_at "sub")
    rw [rdHead_nm hn]
  clear hI
  intro nm t2 ee hnm H hI
  subst ee
  have hwt2 := hwt.tail
  have hnp := hwt nm List.mem_cons_self
  tm_at "go"
  refine' ap_Line_over (K := K) hI hwt2 (fun hn => ?_) ?_
  · refine (q0 1 3 ?_).sub (by tm_at "sub")
    rw [rdHead_ok hnm, if_neg hn]
  clear hI
  intro ee H hI
  subst ee
  have hhd : rdHead ["style", nm] = .ok nm := (rdHead_ok hnm).trans (if_pos rfl)
  rw [hhd] at q0 q
  dsimp only at q0 q
  tm_at "go"
  refine g_sl_l hI (by tm_at "sq") ?_
  clear hI
  intro sl H hI
  rw [show (1 : Int) = ((1 : Nat) : Int) from rfl, cutV_drop] at hI
  replace hI := hI.forget (L' := (sl, .lst (rows.map V.str)) :: (st, .lst []) :: L) (by tm_at "sub")
  have hrows : ∀ p ∈ rows, plainS p := fun p hp => hrp p (List.mem_cons_of_mem _ hp)
  tm_at "go"
  refine' g_aFor (walk_enum (xs := rows.map V.str)) (fun i σ H => ∃ (ln : Addr) (c5 c6 c7 c8 : Option V) (B2 : Hp) (sv : List V) (ss : List StepT), σ = [some (.str z), some (.ref rl), some (.ref st), some (.ref ln), some (.str nm), c5, c6, c7, c8] ∧ Same B B2 ∧ Is B2 M ((sl, .lst (rows.map V.str)) :: (st, .lst sv) :: L) H ∧ StepsB B2 sv ss ∧ ss.length = i ∧ i ≤ 12 ∧ (∀ r ∈ ss, StepG r) ∧ rdRows 0 rows [] = rdRows i (rows.drop i) ss)
    ⟨_, _, _, _, _, B, [], [], rfl, fun _ _ e => e, hI, .nil, rfl, by decide, (fun _ h => by cases h), rfl⟩ (fun _ _ _ _ ⟨_, _, _, _, _, _, _, _, _, _, hI, _⟩ => SqL.of (hI.get (.head _))) ?_ ?_
  · clear hI
    rintro i v0 σ H H' hi ⟨ln, c5, c6, c7, c8, B2, sv, ss, rfl, s2, hI, hsv, hsl, hi12, hsg, hrd⟩ ⟨TT, y1, y2, rfl, hTT, rfl, e1, e2⟩
    cases e1
    obtain ⟨r1, er1, rfl⟩ : ∃ r1, rows[i]? = some r1 ∧ V.str r1 = y2 := Option.map_eq_some_iff.mp (by rw [← List.getElem?_map]; exact e2)
    have hp1 := hrows r1 (List.mem_of_getElem? er1)
    have hdr : rows.drop i = r1 :: rows.drop (i + 1) := by
      rw [List.drop_eq_getElem_cons (List.getElem?_eq_some_iff.mp er1).1, (List.getElem?_eq_some_iff.mp er1).2]
    rw [hdr] at hrd
    have hsvl := hsv.len
    have bad : ∀ r w, rdRows i (r1 :: rows.drop (i + 1)) ss = .error (r, w) → BtE K B2 M L r w E := fun r w e => by
      refine (q0 r w ?_).same s2
      rw [hrd, e]
    replace hI := hI.new (o := .tup [V.int (i : Int), V.str r1]) hTT
    generalize upd H TT (.tup [V.int (i : Int), V.str r1]) = H at *
    tm_at "go"
    refine' ap_Line_init (K := K) hI hp1 (fun e => ?_) ?_
    · refine (bad _ _ ?_).sub (by tm_at "sub")
      rw [rdRows_cons, e]
    clear hI
    intro ws ew lw H hI
    have hwp := words_plain hp1 ew
    have hwn := words_ne ew
    obtain ⟨w0, t, rfl⟩ := List.exists_cons_of_ne_nil hwn
    have badS : ∀ j, rdStep i (w0 :: t) = .error j → BtE K B2 M L ((i : Int) + 2) j E := fun j e => by
      refine bad _ _ ?_
      rw [rdRows_cons, ew]
      dsimp only
      rw [e]
    refine ⟨rfl, ?_⟩
    tm_at "go"
    by_cases hc : i < 12 ∧ kindV (.str w0) ≠ .non
    · refine g_dec (fun _ => ?_) (fun k1 => absurd (by have := hc.1; omega) k1)
      tm_at "go"
      refine' ap_Line_ahead (K := K) hI hwp ?_
      clear hI
      intro H hI
      tm_at "go"
      refine' ap_kind_of (K := K) (thing_str (hwp w0 List.mem_cons_self)) ?_
      tm_at "go"
      rw [show decide (kindV (.str ((w0 :: t).headD "")) = .non) = false from decide_eq_false hc.2]
      refine' ap_Line_take (K := K) hI (fun _ => List.cons_ne_nil _ _) (fun e => by cases e) ?_
      clear hI
      intro w ws' e ew2 H hI
      cases ew2
      have hwt := hwp.tail
      tm_at "go"
      refine' ap_Line_take_number (K := K) hI hwt (fun e => ?_) ?_
      · refine (badS 2 ?_).sub (by tm_at "sub")
        rw [rdStep_cons, if_pos hc, e]
      clear hI
      intro w1 t2 h et eh H hI
      subst et
      have hwt2 := hwt.tail
      tm_at "go"
      refine' ap_Line_take_number (K := K) hI hwt2 (fun e => ?_) ?_
      · refine (badS 3 ?_).sub (by tm_at "sub")
        rw [rdStep_cons, if_pos hc, eh]
        dsimp only
        rw [show (w1 :: t2).drop 1 = t2 from rfl, e]
      clear hI
      intro w2 t3 r et er H hI
      subst et
      have hwt3 := hwt2.tail
      have hst : rdStep i (w0 :: w1 :: w2 :: t3) = if t3 = [] then .ok (w0, h, r) else .error 4 := by
        rw [rdStep_cons, if_pos hc, eh]
        dsimp only
        rw [show (w1 :: w2 :: t3).drop 1 = w2 :: t3 from rfl, er]
        dsimp only
        cases t3 with
        | nil => rfl
        | cons a l => rw [if_neg (by rw [List.length_cons, List.length_cons, List.length_cons]; omega), if_neg (List.cons_ne_nil _ _)]
      tm_at "go"
      refine' hI.give (a := p) (by tm_at "del") ?_
      clear hI
      intro B3 s3 hp3 hI
      refine' ap_Line_over (K := K) hI hwt3 (fun hn => ?_) ?_
      · refine ((badS 4 ?_).same s3).sub (by tm_at "sub")
        rw [hst, if_neg hn]
      clear hI
      intro ee H hI
      subst ee
      have hs : rdStep i [w0, w1, w2] = .ok (w0, h, r) := hst
      obtain ⟨hG, hk12⟩ := rdStep_good hs
      refine ⟨x, _, _, _, _, B3, _, ss ++ [(w0, h, r)], rfl, s2.trans s3, hI.forget (by tm_at "sub"), (hsv.same s3).snoc ⟨p, rfl, hp3⟩, by rw [List.length_append, hsl]; rfl, hk12, fun q hq => ?_, ?_⟩
      · rcases List.mem_append.mp hq with hq | hq
        · exact hsg q hq
        · rw [List.mem_singleton.mp hq]
          exact hG
      · rw [hrd, rdRows_cons, ew]
        dsimp only
        rw [hs]
    · have e1 : rdStep i (w0 :: t) = .error 1 := by rw [rdStep_cons, if_neg hc]
      refine g_dec (fun k1 => ?_) (fun k1 => ?_)
      · have hk : kindV (.str w0) = .non := Classical.byContradiction fun z => hc ⟨by omega, z⟩
        tm_at "go"
        refine' ap_Line_ahead (K := K) hI hwp ?_
        clear hI
        intro H hI
        tm_at "go"
        refine' ap_kind_of (K := K) (thing_str (hwp w0 List.mem_cons_self)) ?_
        tm_at "go"
        rw [show decide (kindV (.str ((w0 :: t).headD "")) = .non) = true from decide_eq_true hk]
        exact ap_Line_take (K := K) hI (fun e => by cases e) (fun _ => (badS 1 e1).sub (by tm_at "sub")) (fun _ _ e => by cases e)
      · tm_at "go"
        exact ap_Line_take (K := K) hI (fun e => by cases e) (fun _ => (badS 1 e1).sub (by tm_at "sub")) (fun _ _ e => by cases e)
  · clear hI
    rintro σ H ⟨ln, c5, c6, c7, c8, B2, sv, ss, rfl, s2, hI, hsv, hsl, hi12, hsg, hrd⟩
    have hss : rdRows 0 rows [] = .ok ss := by
      rw [hrd, List.length_map, List.drop_length]
      rfl
    rw [hss] at q0 q
    dsimp only at q0 q
    obtain ⟨nn, _, hsh⟩ := shn_steps ss hsg
    tm_at "go"
    refine g_eq_d (.lst (by tm_at "sq") (dp_steps hI.ex hsv)) (.lst (xs := []) (by tm_at "sq") .nil) (Shn.shaped (.lst hsh) (by decide)) rfl ?_
    rw [eqv_lst_nil, List.isEmpty_map]
    tm_at "go"
    refine g_b (fun he => ?_) (fun he => ?_)
    · refine g_raise ?_
      refine g_xmk ?_
      tm_at "go"
      refine g_btE C2 (hI.forget (by tm_at "sub")) (fun _ => rfl) ((q0 2 1 ?_).same s2)
      rw [if_pos (List.isEmpty_iff.mp he)]
    · have hne : ss ≠ [] := fun z => by rw [z] at he; cases he
      rw [if_neg hne] at q
      have hgt : GoodT nm ss := ⟨⟨hnm, hnp⟩, List.length_pos_iff.mpr hne, by omega, hsg⟩
      replace hI := hI.forget (L' := (st, .lst sv) :: L) (by tm_at "sub")
      tm_at "go"
      obtain ⟨x1, rfl⟩ : ∃ q, q = x := ⟨_, rfl⟩
      refine' ap_Style_good (K := K) hI (hold_l (by tm_at "mem")) hsv hgt ?_
      clear hI
      intro B3 H s3 hI hS
      refine ⟨rfl, ?_⟩
      exact q nm ss rfl x1 B3 H (s2.trans s3) (hI.forget (by tm_at "sub")) hS
/-! ### names that are made -/
def Lets (n : Nat) (z : Str) : Prop := z.length ≤ n ∧ ∀ c ∈ z.cps.toList, c ∈ letS.cps.toList
theorem Lets.mono {n m : Nat} {z : Str} (h : Lets n z) (hn : n ≤ m) : Lets m z := ⟨Nat.le_trans h.1 hn, h.2⟩
theorem Lets.add {n m : Nat} {x y : Str} (h1 : Lets n x) (h2 : Lets m y) : Lets (n + m) (x ++ y) := by
  refine ⟨by rw [len_app]; have := h1.1; have := h2.1; omega, fun c hc => ?_⟩
  rw [cps_app] at hc
  rcases List.mem_append.mp hc with h | h
  · exact h1.2 c h
  · exact h2.2 c h
theorem letS_bd : ∀ c ∈ letS.cps.toList, c < 128 := by decide +kernel
theorem Lets.sh {n : Nat} {z : Str} (h : Lets n z) : Sh n z := ⟨h.1, fun c hc => letS_bd c (h.2 c hc)⟩
theorem Lets.sign {c : Nat} (h : c ∈ letS.cps.toList) : Lets 1 ⟨#[c]⟩ := by
  refine ⟨Nat.le_refl _, fun d hd => ?_⟩
  have : d = c := by simpa using hd
  rw [this]
  exact h
theorem Lets.name {n : Nat} {z : Str} (h : Lets n z) (hn : n ≤ 8) (h1 : 1 ≤ z.length) (hb : inV (.str z) barVs = false) : isName (.str z) = true := by
  show (decide (1 ≤ (z.length : Int)) && (decide ((z.length : Int) ≤ 8) && (!inV (.str z) barVs && z.cps.toList.all fun c => decide (c ∈ letS.cps.toList)))) = true
  have := h.1
  rw [decide_eq_true (by omega), decide_eq_true (by omega), hb, List.all_eq_true.mpr fun c hc => decide_eq_true (h.2 c hc)]
  rfl
/-- a name as a round wants it -/
def IsNm (x : V) : Prop := ∃ z, x = .str z ∧ isName (.str z) = true ∧ plainS z
def STR : List Int := [1, 3, 5, 7, 9, 11, 15, 17, 19, 21, 23, 25]
theorem g_ix_in {K : PySem.W.Frag} {H : Hp} {Q : VK} {a : Addr} {ns : List Int} {i : Int} (hs : SqL K H a (ns.map V.int)) (h0 : 0 ≤ i) (h1 : i < (ns.length : Int)) (q : ∀ n, n ∈ ns → Q (.int n) H) : rIx K (.ref a) (.int i) H Q := by
  have hl : i.toNat < ns.length := by omega
  exact g_ix_l hs (atI_of h0 (by rw [List.getElem?_map, List.getElem?_eq_getElem hl]; rfl)) (q _ (List.getElem_mem hl))
theorem atI_mem {α : Type} {xs : List α} {i : Int} {a : α} (h : atI xs i = some a) : a ∈ xs := by
  unfold atI at h
  obtain ⟨j, _, e⟩ := Option.bind_eq_some_iff.mp h
  exact List.mem_of_getElem? e
theorem atI_back {α : Type} {xs : List α} {a : α} (h0 : 0 < xs.length) (h : xs[xs.length - 1]? = some a) : atI xs (-1) = some a := by
  unfold atI ixN
  rw [if_neg (by decide), if_pos (by omega)]
  show xs[((-1 : Int) + (xs.length : Int)).toNat]? = _
  rw [show ((-1 : Int) + (xs.length : Int)).toNat = xs.length - 1 by omega]
  exact h
theorem last_app {x y : Str} {c : Nat} (h : y.cps.toList.getLast? = some c) : (x ++ y).cps.toList.getLast? = some c := by
  rw [cps_app, List.getLast?_append, h]
  rfl
/-! names of two letters and vowels -/
def VowS (n : Nat) (z : Str) : Prop := Lets (2 + n) z ∧ 2 ≤ z.length ∧ ∀ c ∈ z.cps.toList.drop 2, c ∈ [97, 101, 105, 111, 117]
theorem VowS.add {n : Nat} {z : Str} {c : Nat} (h : VowS n z) (hc : c ∈ [97, 101, 105, 111, 117]) (hl : Lets 1 (⟨#[c]⟩ : Str)) : VowS (n + 1) (z ++ ⟨#[c]⟩) := by
  obtain ⟨h1, h2, h3⟩ := h
  refine ⟨(h1.add hl).mono (by omega), by rw [len_app]; omega, fun d hd => ?_⟩
  have hz : 2 ≤ z.cps.toList.length := by rw [← len_cps]; exact h2
  rw [cps_app, List.drop_append_of_le_length hz] at hd
  rcases List.mem_append.mp hd with h | h
  · exact h3 d h
  · have : d = c := by simpa using h
    rw [this]
    exact hc
theorem VowS.bar {n : Nat} {z : Str} (h : VowS n z) (hg : z ≠ "glue") : inV (.str z) barVs = false := by
  cases hb : inV (.str z) barVs with
  | false => rfl
  | true =>
    exfalso
    unfold inV at hb
    obtain ⟨y, hy, e⟩ := List.any_eq_true.mp hb
    have key : ∀ y ∈ barVs, ∃ w : Str, y = .str w ∧ (w = "glue" ∨ ∃ c ∈ w.cps.toList.drop 2, c ∉ [97, 101, 105, 111, 117]) := by
      intro y hy
      have : y ∈ [V.str "style", .str "job", .str "round", .str "sew", .str "glue", .str "cover", .str "letter", .str "press", .str "hand", .str "haste"] := hy
      simp only [List.mem_cons, List.not_mem_nil, or_false] at this
      rcases this with rfl | rfl | rfl | rfl | rfl | rfl | rfl | rfl | rfl | rfl
      · exact ⟨_, rfl, .inr (by decide +kernel)⟩
      · exact ⟨_, rfl, .inr (by decide +kernel)⟩
      · exact ⟨_, rfl, .inr (by decide +kernel)⟩
      · exact ⟨_, rfl, .inr (by decide +kernel)⟩
      · exact ⟨_, rfl, .inl rfl⟩
      · exact ⟨_, rfl, .inr (by decide +kernel)⟩
      · exact ⟨_, rfl, .inr (by decide +kernel)⟩
      · exact ⟨_, rfl, .inr (by decide +kernel)⟩
      · exact ⟨_, rfl, .inr (by decide +kernel)⟩
      · exact ⟨_, rfl, .inr (by decide +kernel)⟩
    obtain ⟨w, rfl, hw⟩ := key y hy
    have e2 : w = z := eq_of_beq (show (w == z) = true from e)
    subst e2
    rcases hw with hw | ⟨c, h1, h2⟩
    · exact hg hw
    · exact h2 (h.2.2 c h1)
theorem bar_y {z : Str} : inV (.str (z ++ "y")) barVs = false := by
  cases hb : inV (.str (z ++ "y")) barVs with
  | false => rfl
  | true =>
    exfalso
    unfold inV at hb
    obtain ⟨y, hy, e⟩ := List.any_eq_true.mp hb
    have key : ∀ y ∈ barVs, ∃ w : Str, y = .str w ∧ w.cps.toList.getLast? ≠ some 121 := by
      intro y hy
      have : y ∈ [V.str "style", .str "job", .str "round", .str "sew", .str "glue", .str "cover", .str "letter", .str "press", .str "hand", .str "haste"] := hy
      simp only [List.mem_cons, List.not_mem_nil, or_false] at this
      rcases this with rfl | rfl | rfl | rfl | rfl | rfl | rfl | rfl | rfl | rfl <;> exact ⟨_, rfl, by decide +kernel⟩
    obtain ⟨w, rfl, hw⟩ := key y hy
    have e2 : w = z ++ "y" := eq_of_beq (show (w == z ++ "y") = true from e)
    rw [e2] at hw
    exact hw (last_app (by decide +kernel))
def NmY (x : V) : Prop := ∃ z, x = .str z ∧ Lets 8 z ∧ 1 ≤ z.length ∧ inV (.str z) barVs = false
theorem NmY.nm {x : V} (h : NmY x) : IsNm x := by
  obtain ⟨z, rfl, h1, h2, h3⟩ := h
  exact ⟨z, rfl, h1.name (Nat.le_refl _) h2 h3, h1.sh.plain (by decide)⟩
def sp_law_called (K : PySem.W.Frag) : Sp := fun vs H Q _ => vs.length = 2 ∧ ∃ (m : Addr) (many n : Int) (B : Hp) (M L : List (Addr × HO)), vs = [.ref m, .int many] ∧ Is B M L H ∧ Dr m n B M ∧ n < 2 ^ 39 ∧ 0 ≤ many ∧ many < 1000 ∧
  ∀ (p : Addr) (xs : List V) (H' : Hp) (M' : List (Addr × HO)), Is B M' ((p, .lst xs) :: L) H' → Dr m (n + 2 + 8 * many) B M' → (∀ x ∈ xs, IsNm x) → (xs.length : Int) = many → Q (.ref p) H'
theorem ap_law_called {K : PySem.W.Frag} {B H : Hp} {M L : List (Addr × HO)} {Q : VK} {E : XK} {n : Int} {m : Addr} {many : Int} (I : Is B M L H) (d : Dr m n B M) (h : n < 2 ^ 39) (h0 : 0 ≤ many) (h1 : many < 1000) (q : ∀ (p : Addr) (xs : List V) (H' : Hp) (M' : List (Addr × HO)), Is B M' ((p, .lst xs) :: L) H' → Dr m (n + 2 + 8 * many) B M' → (∀ x ∈ xs, IsNm x) → (xs.length : Int) = many → Q (.ref p) H') : sp_law_called K [.ref m, .int many] H Q E :=
  ⟨rfl, m, many, n, B, M, L, rfl, I, d, h, h0, h1, q⟩
abbrev t_law_called_0 (K : PySem.W.Frag) : TS := (tAsg (tOp (rAddA K) (tVar 7) (tOp (rIx K) (tC (.str "aeiou")) (tCl 2 0 (sp_law_draw K) (fun vs zs => pick .non [0, 1] (vs ++ zs)) E0 (tCons (tVar 0) (tCons (tC (.int 5)) tNil)) tNil))) (gName 7))
abbrev t_law_called_1 (K : PySem.W.Frag) : TS := (tDrop (tBM K "list" rAppend (tVar 3) (tCons (tVar 7) tNil)))
abbrev t_law_called_2 (K : PySem.W.Frag) : TS := (tSeq (tIfS (tAnd (tTest (tOp (rEqA K) (tOp (rI (fun _ j => 0 < j) fun i j => .int (i % j)) (tVar 6) (tC (.int 2))) (tC (.int 1)))) (tTest (tOp (rEqA K) (tCl 2 0 (sp_law_draw K) (fun vs zs => pick .non [0, 1] (vs ++ zs)) E0 (tCons (tVar 0) (tCons (tC (.int 5)) tNil)) tNil) (tC (.int 0))))) (tAsg (tOp (rAddA K) (tSl (rSlA K) (tOp (rIx K) (tVar 3) (tUn (rU fun i => .int (-i)) (tC (.int 1)))) tNoPart (tPart (tC (.int 7)))) (tC (.str "y"))) (gName 7)) tNext) (t_law_called_1 K))
abbrev t_law_called_3 (K : PySem.W.Frag) : TS := (tSeq (tIfS (tTest (tOp (rEqA K) (tVar 7) (tC (.str "glue")))) (tAsg (tC (.str "gluea")) (gName 7)) tNext) (t_law_called_2 K))
abbrev t_law_called_4 (K : PySem.W.Frag) : TS := (tSeq (tFor (iRng1 (tCons (tOp (rIx K) (tLst (tCons (tC (.int 0)) (tCons (tC (.int 0)) (tCons (tC (.int 1)) (tCons (tCl 2 0 (sp_law_draw K) (fun vs zs => pick .non [0, 1] (vs ++ zs)) E0 (tCons (tVar 0) (tCons (tC (.int 6)) tNil)) tNil) tNil))))) (tCl 2 0 (sp_law_draw K) (fun vs zs => pick .non [0, 1] (vs ++ zs)) E0 (tCons (tVar 0) (tCons (tC (.int 4)) tNil)) tNil)) tNil)) (gName 8) (t_law_called_0 K)) (t_law_called_3 K))
abbrev t_law_called_5 (K : PySem.W.Frag) : TS := (tSeq (tAsg (tOp (rAddA K) (tVar 7) (tOp (rIx K) (tVar 2) (tOp (rI (fun _ j => 0 < j) fun i j => .int (i % j)) (tOp (rAddA K) (tVar 4) (tOp (rI CDiv fun i j => .int (i / j)) (tVar 6) (tC (.int 26)))) (tC (.int 26))))) (gName 7)) (t_law_called_4 K))
abbrev t_law_called_6 (K : PySem.W.Frag) : TS := (tSeq (tAsg (tOp (rIx K) (tVar 2) (tOp (rI (fun _ j => 0 < j) fun i j => .int (i % j)) (tOp (rAddA K) (tVar 4) (tOp rMulA (tVar 5) (tVar 6))) (tC (.int 26)))) (gName 7)) (t_law_called_5 K))
abbrev t_law_called_7 (K : PySem.W.Frag) : TS := (tRet (tVar 3))
abbrev t_law_called_8 (K : PySem.W.Frag) : TS := (tSeq (tFor (iRng1 (tCons (tVar 1) tNil)) (gName 6) (t_law_called_6 K)) (t_law_called_7 K))
abbrev t_law_called_9 (K : PySem.W.Frag) : TS := (tSeq (tAsg (tOp (rIx K) (tLst (tCons (tC (.int 1)) (tCons (tC (.int 3)) (tCons (tC (.int 5)) (tCons (tC (.int 7)) (tCons (tC (.int 9)) (tCons (tC (.int 11)) (tCons (tC (.int 15)) (tCons (tC (.int 17)) (tCons (tC (.int 19)) (tCons (tC (.int 21)) (tCons (tC (.int 23)) (tCons (tC (.int 25)) tNil))))))))))))) (tCl 2 0 (sp_law_draw K) (fun vs zs => pick .non [0, 1] (vs ++ zs)) E0 (tCons (tVar 0) (tCons (tC (.int 12)) tNil)) tNil)) (gName 5)) (t_law_called_8 K))
abbrev t_law_called_10 (K : PySem.W.Frag) : TS := (tSeq (tAsg (tCl 2 0 (sp_law_draw K) (fun vs zs => pick .non [0, 1] (vs ++ zs)) E0 (tCons (tVar 0) (tCons (tC (.int 26)) tNil)) tNil) (gName 4)) (t_law_called_9 K))
def t_law_called (K : PySem.W.Frag) : TS := (tSeq (tPar 2 3 (tCons (tC (.str "abcdefghijklmnopqrstuvwxyz")) (tCons (tLst tNil) tNil))) (t_law_called_10 K))
def PvC (m : Addr) (many n : Int) (B : Hp) (L : List (Addr × HO)) (found : Addr) (shift stride : Int) (i : Nat) (σ : St) (H : Hp) : Prop :=
  ∃ (a b c : Option V) (M : List (Addr × HO)) (xs : List V), σ = [some (.ref m), some (.int many), some (.str "abcdefghijklmnopqrstuvwxyz"), some (.ref found), some (.int shift), some (.int stride), a, b, c] ∧
    Is B M ((found, .lst xs) :: L) H ∧ Dr m (n + 2 + 8 * (i : Int)) B M ∧ (∀ x ∈ xs, NmY x) ∧ xs.length = i
theorem rd_law_called {K : PySem.W.Frag} (vs : List V) (H : Hp) (Q : VK) (E : XK) (h : sp_law_called K vs H Q E) : t_law_called K { nx := fun _ H' => Q .non H', rt := Q } (start ["m", "many", "letters", "found", "shift", "stride", "k", "said", "j"] vs) H := by
  obtain ⟨_, m, many, n, B, M, L, rfl, hI, hd, h1, h2, h3, q⟩ := h
  show t_law_called K ⟨_, _, _, _⟩ [some (.ref m), some (.int many), none, none, none, none, none, none, none] H
  unfold t_law_called
  have hlet : Sh 26 ("abcdefghijklmnopqrstuvwxyz" : Str) := Sh.lit (by decide +kernel)
  have hlet2 : ("abcdefghijklmnopqrstuvwxyz" : Str).length = 26 := by decide +kernel
  have hlet3 : ∀ c ∈ ("abcdefghijklmnopqrstuvwxyz" : Str).cps.toList, Lets 1 ⟨#[c]⟩ := fun c hc => Lets.sign hc
  have hvow : Sh 5 ("aeiou" : Str) := Sh.lit (by decide +kernel)
  have hvow2 : ("aeiou" : Str).length = 5 := by decide +kernel
  have hvow3 : ∀ c ∈ ("aeiou" : Str).cps.toList, c ∈ [97, 101, 105, 111, 117] ∧ c ∈ letS.cps.toList := by decide +kernel
  have hy : Lets 1 ("y" : Str) := ⟨by decide +kernel, by decide +kernel⟩
  tm_at "go"
  obtain ⟨found, rfl⟩ : ∃ q, q = p := ⟨_, rfl⟩
  tm_at "draw"
  revert r
  intro shift hs0 hs1
  tm_at "go"
  tm_at "draw"
  tm_at "go"
  refine g_ix_in (ns := STR) (by tm_at "sq") hr0 (by simp only [STR, List.length_cons, List.length_nil]; omega) ?_
  intro stride hst
  tm_at "go"
  have hI := hI.forget (L' := (found, .lst []) :: L) (by tm_at "sub")
  refine' g_aFor walk_range (PvC m many n B L found shift stride)
    ⟨_, _, _, _, [], rfl, hI, hd.mono (by omega), (fun _ h => by cases h), rfl⟩ (fun _ _ _ _ _ => trivial) ?_ ?_
  · rintro i x σ H H' hi ⟨a, b, c, M, xs, rfl, hI, hd, hx, hl⟩ ⟨rfl, hy'⟩
    have hi : i < many.toNat := hi
    have hy' : x = .int (i : Int) := by
      rw [hy']
      show V.int (0 + (i : Int)) = _
      rw [Int.zero_add]
    subst hy'
    tm_at "go"
    refine g_ix_sh hlet (by decide) (Int.emod_nonneg _ (by decide)) (by rw [hlet2]; exact Int.emod_lt_of_pos _ (by decide)) ?_
    intro c1 hc1 _
    have hl1 := hlet3 c1 hc1
    tm_at "go"
    refine g_ix_sh hlet (by decide) (Int.emod_nonneg _ (by decide)) (by rw [hlet2]; exact Int.emod_lt_of_pos _ (by decide)) ?_
    intro c2 hc2 _
    have hl2 := hlet3 c2 hc2
    refine g_add_sh hl1.sh hl2.sh (by decide) ?_
    intro _
    have hsaid : VowS 0 ((⟨#[c1]⟩ : Str) ++ ⟨#[c2]⟩) := ⟨hl1.add hl2, Nat.le_refl _, fun d hd => by cases hd⟩
    generalize ((⟨#[c1]⟩ : Str) ++ ⟨#[c2]⟩) = said0 at *
    tm_at "go"
    tm_at "draw"
    revert r
    intro r6 h60 h61
    tm_at "go"
    tm_at "draw"
    refine g_ix_ints (lo := 0) (hi := 5) (by tm_at "sq") (by repeat (first | exact Ints.nil | refine Ints.cons (by omega) ?_)) hr0 (by tm_at "arith") ?_
    intro w hw0 hw1
    tm_at "go"
    have hI := hI.forget (L' := (found, .lst xs) :: L) (by tm_at "sub")
    have hd : Dr m (n + 2 + 8 * (i : Int) + 2 + ((0 : Nat) : Int)) B M := hd.mono (by omega)
    have key1 : ∀ (bk : St → Hp → Prop) (said : Str) (d : Option V) (H : Hp) (M : List (Addr × HO)), Is B M ((found, .lst xs) :: L) H → Dr m (n + 2 + 8 * (i : Int) + 8) B M → NmY (.str said) →
        t_law_called_1 K ⟨PvC m many n B L found shift stride (i + 1), Q, bk, PvC m many n B L found shift stride (i + 1)⟩
          [some (.ref m), some (.int many), some (.str "abcdefghijklmnopqrstuvwxyz"), some (.ref found), some (.int shift), some (.int stride), some (.int (i : Int)), some (.str said), d] H := by
      intro bk said d H M hI hd hs
      tm_at "go"
      refine ⟨_, _, _, M, _, rfl, hI, hd.mono (by omega), (fun x hx' => ?_), by simp [hl]⟩
      rcases List.mem_append.mp hx' with h | h
      · exact hx x h
      · rw [List.mem_singleton.mp h]
        exact hs
    have key2 : ∀ (bk : St → Hp → Prop) (said : Str) (d : Option V) (H : Hp) (M : List (Addr × HO)), Is B M ((found, .lst xs) :: L) H → Dr m (n + 2 + 8 * (i : Int) + 7) B M → NmY (.str said) →
        t_law_called_2 K ⟨PvC m many n B L found shift stride (i + 1), Q, bk, PvC m many n B L found shift stride (i + 1)⟩
          [some (.ref m), some (.int many), some (.str "abcdefghijklmnopqrstuvwxyz"), some (.ref found), some (.int shift), some (.int stride), some (.int (i : Int)), some (.str said), d] H := by
      intro bk said d H M hI hd hs
      tm_at "go"
      refine g_dec (fun h => ?_) (fun h => ?_)
      · have ho : i % 2 = 1 := by
          have : (i : Int) % 2 = 1 := V.int.inj h
          omega
        tm_at "go"
        tm_at "draw"
        tm_at "go"
        refine g_dec (fun h5 => ?_) (fun h5 => ?_)
        · tm_at "go"
          obtain ⟨x, hxx⟩ : ∃ x, xs[xs.length - 1]? = some x := ⟨_, List.getElem?_eq_getElem (by omega)⟩
          obtain ⟨z, rfl, hz, hz1, _⟩ := hx _ (List.mem_of_getElem? hxx)
          refine g_ix_l (by tm_at "sq") (atI_back (by omega) hxx) ?_
          tm_at "go"
          refine g_sl_sh hz.sh (by decide) fun hcut => ?_
          have h7 : Sh 7 (cutS z none (some 7)) := hz.sh.cut_to (k := 7) none
          have hL : Lets 7 (cutS z none (some 7)) := ⟨h7.1, fun c hc => hz.2 c (List.mem_of_mem_drop (List.mem_of_mem_take hc))⟩
          tm_at "go"
          refine g_add_sh h7 hy.sh (by decide) fun _ => ?_
          tm_at "stop"
          exact key1 _ _ _ _ _ hI (hd.mono (by omega)) ⟨_, rfl, (hL.add hy).mono (by decide), by rw [len_app]; exact Nat.le_trans (show 1 ≤ ("y" : Str).length by decide +kernel) (Nat.le_add_left _ _), bar_y⟩
        · tm_at "next"
          exact key1 _ _ _ _ _ hI (hd.mono (by omega)) hs
      · tm_at "next"
        exact key1 _ _ _ _ _ hI (hd.mono (by omega)) hs
    refine' g_aFor walk_range (fun j σ H => ∃ (s : Str) (c : Option V) (M : List (Addr × HO)), σ = [some (.ref m), some (.int many), some (.str "abcdefghijklmnopqrstuvwxyz"), some (.ref found), some (.int shift), some (.int stride), some (.int (i : Int)), some (.str s), c] ∧
      Is B M ((found, .lst xs) :: L) H ∧ Dr m (n + 2 + 8 * (i : Int) + 2 + (j : Int)) B M ∧ VowS j s)
      ⟨_, _, _, rfl, hI, hd, hsaid⟩ (fun _ _ _ _ _ => trivial) ?_ ?_
    · rintro j x σ H H' hj ⟨s, c, M, rfl, hI, hd, hs⟩ ⟨rfl, rfl⟩
      have hj : j < w.toNat := hj
      tm_at "go"
      tm_at "draw"
      refine g_ix_sh hvow (by decide) (by omega) (by rw [hvow2]; omega) ?_
      intro c3 hc3 _
      obtain ⟨hv1, hv2⟩ := hvow3 c3 hc3
      have hs3 := Lets.sign hv2
      refine g_add_sh hs.1.sh hs3.sh (by omega) ?_
      intro _
      tm_at "go"
      exact ⟨_, _, M, rfl, hI, hd.mono (by omega), hs.add hv1 hs3⟩
    · rintro σ H ⟨s, c, M, rfl, hI, hd, hs⟩
      have hw : w.toNat ≤ 5 := by omega
      have hs7 : Lets 7 s := hs.1.mono (by omega)
      tm_at "go"
      refine g_dec (fun h => ?_) (fun h => ?_)
      · tm_at "stop"
        exact key2 _ _ _ _ _ hI (hd.mono (by omega)) ⟨_, rfl, ⟨by decide +kernel, by decide +kernel⟩, by decide +kernel, by decide +kernel⟩
      · tm_at "next"
        exact key2 _ _ _ _ _ hI (hd.mono (by omega)) ⟨_, rfl, hs7.mono (by decide), by have := hs.2.1; omega, hs.bar fun e => h (by rw [e])⟩
  · rintro σ H ⟨a, b, c, M, xs, rfl, hI, hd, hx, hl⟩
    tm_at "go"
    exact q _ _ _ _ hI (hd.mono (by omega)) (fun x hx' => (hx x hx').nm) (by omega)
/-! ### another style: put in, left out; shown -/
theorem joinL_signE {S : List Nat} {c : Nat} : ∀ {ps : List (List Nat)}, c ∈ TL.joinL S ps → c ∈ S ∨ ∃ p ∈ ps, c ∈ p
  | [], h => by cases h
  | [p], h => .inr ⟨p, List.mem_cons_self, h⟩
  | p :: q :: r, h => by
    rcases List.mem_append.mp (show c ∈ p ++ (S ++ TL.joinL S (q :: r)) from h) with h | h
    · exact .inr ⟨p, List.mem_cons_self, h⟩
    · rcases List.mem_append.mp h with h | h
      · exact .inl h
      · rcases joinL_signE h with h | ⟨p', h1, h2⟩
        · exact .inl h
        · exact .inr ⟨p', List.mem_cons_of_mem _ h1, h2⟩
theorem sh_nl : Sh 1 ("\n" : Str) := Sh.lit (by decide +kernel)
theorem sh_joinE {y : Str} (hy : Sh 1 y) {ps : List Str} {k m : Nat} (h : ∀ z ∈ ps, Sh k z) (hl : ps.length ≤ m) (hm : m ≤ 20) : Sh (20 * k + 20) (Txt.join y ps) := by
  rw [TL.join_eq]
  have h2 := len_join y fun z hz => (h z hz).1
  refine ⟨?_, fun c hc => ?_⟩
  · have a := StrLaws.join_length_le y ps
    have b := hy.1
    have e1 : ps.length * y.length ≤ 20 * 1 := Nat.mul_le_mul (by omega) b
    have e2 : k * ps.length ≤ k * 20 := Nat.mul_le_mul_left _ (by omega)
    omega
  · have hc' : c ∈ TL.tl (Str.join y ps) := hc
    rw [TL.tl_join] at hc'
    rcases joinL_signE hc' with h1 | ⟨p, h1, h3⟩
    · exact hy.2 c h1
    · obtain ⟨z, hz, rfl⟩ := List.mem_map.mp h1
      exact (h z hz).2 c h3
theorem GoodT.shText {nm : Str} {rs : List StepT} (g : GoodT nm rs) : Sh 940 (stxt nm rs) := (sh_joinE sh_nl g.shAll (m := 13) (by rw [List.length_cons, List.length_map]; have := g.l1; omega) (by decide)).mono (by decide)
/-- what repr tells of it -/
def srep (nm : Str) (n : Nat) : Str := Str.empty ++ "Style(" ++ nm ++ ", " ++ numT (n : Int) ++ ")"
theorem srep_sh {nm : Str} {n : Nat} (h1 : isName (.str nm) = true) (h2 : plainS nm) (hn : n ≤ 12) : Sh 40 (srep nm n) :=
  (((((sh_empty.add (Sh.lit (n := 6) (by decide +kernel) : Sh 6 ("Style(" : Str))).add (name_sh h1 h2)).add (Sh.lit (n := 2) (by decide +kernel) : Sh 2 (", " : Str))).add (numT_sh (i := (n : Int)) (by omega) (by omega))).add (Sh.lit (n := 1) (by decide +kernel) : Sh 1 (")" : Str))).mono (by decide)
def sp_Style_repr (K : PySem.W.Frag) : Sp := fun vs H Q _ => vs.length = 1 ∧ ∃ (x : Addr) (nm : Str) (rs : List StepT) (B : Hp) (M L : List (Addr × HO)), vs = [.ref x] ∧ Is B M L H ∧ StyleAt K B x nm rs ∧ ∀ H', Is B M L H' → Q (.str (srep nm rs.length)) H'
theorem ap_Style_repr {K : PySem.W.Frag} {H : Hp} {Q : VK} {E : XK} {x : Addr} {nm : Str} {rs : List StepT} {B : Hp} {M L : List (Addr × HO)} (I : Is B M L H) (h : StyleAt K B x nm rs) (q : ∀ H', Is B M L H' → Q (.str (srep nm rs.length)) H') : sp_Style_repr K [.ref x] H Q E := ⟨rfl, x, nm, rs, B, M, L, rfl, I, h, q⟩
def t_Style_repr (K : PySem.W.Frag) : TS := (tRet (tFS [(tC (.str "Style(")), (tFmt (tFld K (tVar 0) "called")), (tC (.str ", ")), (tFmt (tCB (rLen K) (tCons (tFld K (tVar 0) "step_rows") tNil))), (tC (.str ")"))]))
theorem rd_Style_repr {K : PySem.W.Frag} (C : StyleC K) (vs : List V) (H : Hp) (Q : VK) (E : XK) (h : sp_Style_repr K vs H Q E) : t_Style_repr K { nx := fun _ H' => Q .non H', rt := Q } (start ["self"] vs) H := by
  obtain ⟨_, x, nm, rs, B, M, L, rfl, hI, hS, q⟩ := h
  show t_Style_repr K ⟨_, _, _, _⟩ [some (.ref x)] H
  obtain ⟨cl, n1, n2⟩ := C
  obtain ⟨⟨dx, cr, xs, h1, h2, h3⟩, hg⟩ := id hS
  have hl := h3.len
  have hl1 := hg.l1
  have hn := name_sh hg.nm.1 hg.nm.2
  have e6 : Sh 6 ("Style(" : Str) := Sh.lit (by decide +kernel)
  have e2 : Sh 2 (", " : Str) := Sh.lit (by decide +kernel)
  have e1 : Sh 1 (")" : Str) := Sh.lit (by decide +kernel)
  unfold t_Style_repr
  tm_at "go"
  refine' g_fs ?_
  refine' g_jsC ?_
  tm_at "go"
  refine' g_aJs sh_empty e6 (by decide) fun ha => ?_
  refine' g_jsC ?_
  refine' g_fmt ?_
  tm_at "go"
  refine' g_aFmtS hn (by decide) ?_
  refine' g_aJs ha hn (by decide) fun ha => ?_
  refine' g_jsC ?_
  tm_at "go"
  refine' g_aJs ha e2 (by decide) fun ha => ?_
  refine' g_jsC ?_
  refine' g_fmt ?_
  tm_at "go"
  rw [hl]
  refine' g_aFmtI (k := 18) (by omega) (by decide) (by omega) fun hz => ?_
  refine' g_aJs ha hz (by decide) fun ha => ?_
  refine' g_jsC ?_
  tm_at "go"
  refine' g_aJs ha e1 (by decide) fun ha => ?_
  refine' g_jsN ?_
  exact q _ hI
/-! put in, left out -/
def insT (rs : List StepT) (k : Nat) (r : StepT) : List StepT := rs.take k ++ [r] ++ rs.drop k
def placeOf (n : Nat) (v : V) : Nat := match v with
  | .int i => (i - 1).toNat
  | _ => n
theorem All2.take {α β : Type} {F : α → β → Prop} : ∀ {l : List α} {m : List β} (k : Nat), All2 F l m → All2 F (l.take k) (m.take k)
  | _, _, 0, _ => by simp; exact .nil
  | _, _, k + 1, .nil => by simp; exact .nil
  | _, _, k + 1, .cons h t => .cons h (All2.take k t)
theorem All2.drop {α β : Type} {F : α → β → Prop} : ∀ {l : List α} {m : List β} (k : Nat), All2 F l m → All2 F (l.drop k) (m.drop k)
  | _, _, 0, h => h
  | _, _, k + 1, .nil => by simp; exact .nil
  | _, _, k + 1, .cons h t => All2.drop k t
theorem insT_len {rs : List StepT} {k : Nat} {r : StepT} : (insT rs k r).length = rs.length + 1 := by
  unfold insT
  simp only [List.length_append, List.length_take, List.length_drop, List.length_cons, List.length_nil]
  omega
theorem insT_row {rs : List StepT} {k : Nat} {r : StepT} (h : ∀ x ∈ rs, StepG x) (g : StepG r) : ∀ x ∈ insT rs k r, StepG x := by
  intro x hx
  rcases List.mem_append.mp hx with hx | hx
  · rcases List.mem_append.mp hx with hx | hx
    · exact h x (List.mem_of_mem_take hx)
    · rw [List.mem_singleton.mp hx]
      exact g
  · exact h x (List.mem_of_mem_drop hx)
/-- a step handed in, or none -/
inductive ArgS (K : PySem.W.Frag) (B : Hp) (s : V) : Option StepT → Prop
  | bad (h : OddS K B s false) : ArgS K B s none
  | good {r : StepT} (h : StepR B s r) (g : StepG r) : ArgS K B s (some r)
theorem ArgS.odd {K : PySem.W.Frag} {B : Hp} {s : V} {o : Option StepT} (h : ArgS K B s o) : OddS K B s o.isSome := by
  cases h with
  | bad h => exact h
  | good h g => exact oddS_good h g
theorem StepR.same {B B' : Hp} {x : V} {r : StepT} (h : StepR B x r) (s : Same B B') : StepR B' x r := by
  obtain ⟨a, e, h⟩ := h
  exact ⟨a, e, s _ _ h⟩
def sp_Style_put_in (K : PySem.W.Frag) : Sp := fun vs H Q E => vs.length = 3 ∧ ∃ (x : Addr) (s v : V) (k : Kn) (o : Option StepT) (nm : Str) (rs : List StepT) (B : Hp) (M L : List (Addr × HO)), vs = [.ref x, s, v] ∧ Is B M L H ∧ StyleAt K B x nm rs ∧ ArgS K B s o ∧ Thing K B v k ∧
  (o = none → ∀ d H', Is B M ((d, .xd [(("what" : Str), .str "step")]) :: L) H' → E (.ref (He.ga K "BadValue")) (some d) H') ∧
  (o ≠ none → v ≠ .non → isWhole v 1 ((rs.length : Int) + 1) = false → ∀ d H', Is B M ((d, .xd [(("name" : Str), v), ("what", .str "step")]) :: L) H' → E (.ref (He.ga K "NoSuch")) (some d) H') ∧
  (o ≠ none → (v = .non ∨ isWhole v 1 ((rs.length : Int) + 1) = true) → rs.length = 12 → ∀ d H', Is B M ((d, .xd [(("most" : Str), .int 12)]) :: L) H' → E (.ref (He.ga K "TooMany")) (some d) H') ∧
  (∀ r, o = some r → (v = .non ∨ isWhole v 1 ((rs.length : Int) + 1) = true) → rs.length ≠ 12 → ∀ p B' H', Same B B' → Is B' M L H' → StyleAt K B' p nm (insT rs (placeOf rs.length v) r) → Q (.ref p) H')
abbrev t_Style_put_in_0 (K : PySem.W.Frag) (E : XK) : TS := (tRet (tMk (He.ga K "Style") 2 0 (sp_Style_init K) (fun vs zs => pick .non [0, 1, 2] (vs ++ zs)) E (tCons (tFld K (tVar 0) "called") (tCons (tOp (rAddA K) (tOp (rAddA K) (tSl (rSlA K) (tFld K (tVar 0) "step_rows") tNoPart (tPart (tVar 4))) (tLst (tCons (tVar 1) tNil))) (tSl (rSlA K) (tFld K (tVar 0) "step_rows") (tPart (tVar 4)) tNoPart)) tNil)) tNil))
abbrev t_Style_put_in_1 (K : PySem.W.Frag) (E : XK) : TS := (tSeq (tAsg (tIf (tTest (tOp rIsNo (tVar 2) (tC .non))) (tVar 3) (tOp (rI0 fun i j => .int (i - j)) (tVar 2) (tC (.int 1)))) (gName 4)) (t_Style_put_in_0 K E))
abbrev t_Style_put_in_2 (K : PySem.W.Frag) (E : XK) : TS := (tSeq (tIfS (tTest (tOp (rEqA K) (tVar 3) (tC (.int 12)))) (tRaise (fun cls d _ H' => E cls d H') (tXMk (He.ga K "TooMany") 1 (sp_TooMany_init K) (fun vs zs => pick .non [0, 1] (vs ++ zs)) (tCons (tC (.int 12)) tNil))) tNext) (t_Style_put_in_1 K E))
abbrev t_Style_put_in_3 (K : PySem.W.Frag) (E : XK) : TS := (tSeq (tIfS (tAnd (tTest (tOp rNoNo (tVar 2) (tC .non))) (tNot (tTr K (tCl 2 1 (sp_is_whole K) (fun vs zs => pick .non [0, 1, 2] (vs ++ (zs ++ [.int 1000000]))) E0 (tCons (tVar 2) (tCons (tC (.int 1)) tNil)) (tCons (tOp (rAddA K) (tVar 3) (tC (.int 1))) tNil))))) (tRaise (fun cls d _ H' => E cls d H') (tXMk (He.ga K "NoSuch") 2 (sp_NoSuch_init K) (fun vs zs => pick .non [0, 1, 2] (vs ++ zs)) (tCons (tC (.str "step")) (tCons (tVar 2) tNil)))) tNext) (t_Style_put_in_2 K E))
abbrev t_Style_put_in_4 (K : PySem.W.Frag) (E : XK) : TS := (tSeq (tAsg (tCB (rLen K) (tCons (tFld K (tVar 0) "step_rows") tNil)) (gName 3)) (t_Style_put_in_3 K E))
def t_Style_put_in (K : PySem.W.Frag) (E : XK) : TS := (tSeq (tIfS (tNot (tTr K (tCl 1 0 (sp_is_step K) (fun vs zs => pick .non [0] (vs ++ zs)) E0 (tCons (tVar 1) tNil) tNil))) (tRaise (fun cls d _ H' => E cls d H') (tXMk (He.ga K "BadValue") 1 (sp_BadValue_init K) (fun vs zs => pick .non [0, 1] (vs ++ zs)) (tCons (tC (.str "step")) tNil))) tNext) (t_Style_put_in_4 K E))
theorem rd_Style_put_in {K : PySem.W.Frag} (C : StyleC K) (C2 : ErrC K) (vs : List V) (H : Hp) (Q : VK) (E : XK) (h : sp_Style_put_in K vs H Q E) : t_Style_put_in K E { nx := fun _ H' => Q .non H', rt := Q } (start ["self", "step", "at", "many", "place"] vs) H := by
  obtain ⟨_, x, s, v, k, o, nm, rs, B, M, L, rfl, hI, hS, ho, hv, q1, q2, q3, q4⟩ := h
  show t_Style_put_in K E ⟨_, _, _, _⟩ [some (.ref x), some s, some v, none, none] H
  obtain ⟨cl, n1, n2⟩ := C
  obtain ⟨⟨dx, cr, xs, h1, h2, h3⟩, hg⟩ := id hS
  have hl := h3.len
  have hl1 := hg.l1
  unfold t_Style_put_in
  tm_at "go"
  refine' ap_is_step (K := K) hI ho.odd ?_
  clear hI
  intro H hI
  tm_at "go"
  cases o with
  | none =>
    refine g_nfalse ?_
    refine g_raise ?_
    refine g_xmk ?_
    tm_at "go"
    exact g_bv C2 hI (fun _ => rfl) fun d H' hI => q1 rfl d H' hI
  | some r =>
    refine g_ntrue ?_
    obtain ⟨hsr, hsg⟩ : StepR B s r ∧ StepG r := by
      cases ho with
      | good h g => exact ⟨h, g⟩
    have key : ∀ (bk ct : St → Hp → Prop) (H : Hp), Is B M L H → (v = .non ∨ isWhole v 1 ((rs.length : Int) + 1) = true) →
        t_Style_put_in_2 K E ⟨fun _ H' => Q .non H', Q, bk, ct⟩ [some (.ref x), some s, some v, some (.int (rs.length : Int)), none] H := by
      intro bk ct H hI hw
      tm_at "go"
      refine g_dec (fun h12 => ?_) (fun h12 => ?_)
      · have h12 : rs.length = 12 := by have := V.int.inj h12; omega
        refine g_raise ?_
        refine g_xmk ?_
        tm_at "go"
        exact g_tm C2 hI (fun _ => rfl) fun d H' hI => q3 (by simp) hw h12 d H' hI
      · have h12 : rs.length ≠ 12 := fun e => h12 (by rw [e]; rfl)
        have fin : ∀ (j : Nat) (H : Hp), j ≤ rs.length → placeOf rs.length v = j → Is B M L H →
            t_Style_put_in_0 K E ⟨fun _ H' => Q .non H', Q, bk, ct⟩ [some (.ref x), some s, some v, some (.int (rs.length : Int)), some (.int (j : Int))] H := by
          intro j H hj ej hI
          unfold t_Style_put_in_0
          tm_at "go"
          refine g_sl_l hI (SqL.of (hI.b h2)) ?_
          clear hI
          intro p1 H hI
          rw [cutV_take (by omega)] at hI
          tm_at "go"
          refine g_add_l hI (by tm_at "hp") (by tm_at "hp") (by simp only [List.length_take, List.length_cons, List.length_nil]; omega) ?_
          clear hI
          intro p2 H hI
          tm_at "go"
          refine g_sl_l hI (SqL.of (hI.b h2)) ?_
          clear hI
          intro p3 H hI
          rw [cutV_drop] at hI
          refine g_add_l hI (by tm_at "hp") (by tm_at "hp") (by simp only [List.length_append, List.length_take, List.length_drop, List.length_cons, List.length_nil]; omega) ?_
          clear hI
          intro p4 H hI
          replace hI := hI.forget (L' := (p4, .lst _) :: L) (by tm_at "sub")
          tm_at "go"
          have hrr : StepsB B (xs.take j ++ [s] ++ xs.drop j) (insT rs j r) := ((All2.take j h3).app (.cons hsr .nil)).app (All2.drop j h3)
          refine' ap_Style_good (K := K) hI (hold_l (by tm_at "mem")) hrr ⟨hg.nm, by rw [insT_len]; omega, by rw [insT_len]; omega, insT_row hg.row hsg⟩ ?_
          intro B' H' s' hI hS'
          refine ⟨rfl, ?_⟩
          rw [← ej] at hS'
          exact q4 r rfl hw h12 _ B' _ s' (hI.forget (by tm_at "sub")) hS'
        tm_at "next"
        refine g_seq ?_
        refine g_asg ?_
        refine g_ifE ?_
        refine g_test ?_
        refine g_op ?_
        refine' g_var ?v1 ?_
        case v1 => tm_at "at"
        refine g_c ?_
        refine g_isNo ?_
        refine g_bl ?_
        refine g_dec (fun hn => ?_) (fun hn => ?_)
        · refine' g_var ?v1 ?_
          case v1 => tm_at "at"
          refine' g_name ?v2 ?_
          case v2 => tm_at "set"
          exact fin rs.length _ (Nat.le_refl _) (by rw [hn]; rfl) hI
        · rcases hw with hw | hw
          · exact absurd hw hn
          obtain ⟨i, rfl, i1, i2⟩ := isWhole_int hw
          refine g_op ?_
          refine' g_var ?v1 ?_
          case v1 => tm_at "at"
          refine g_c ?_
          refine g_rI0 ?_
          refine' g_name ?v2 ?_
          case v2 => tm_at "set"
          have e : i - 1 = (((i - 1).toNat : Nat) : Int) := by omega
          rw [e]
          exact fin (i - 1).toNat _ (by omega) rfl hI
    tm_at "next"
    refine g_seq ?_
    refine g_asg ?_
    refine g_cb ?_
    refine g_cons ?_
    refine g_fld ?_
    refine' g_var ?v1 ?_
    case v1 => tm_at "at"
    refine g_aFld (hI.b h1) cl n2 (by tm_at "fget") ?_
    refine g_nil ?_
    refine g_len_l (SqL.of (hI.b h2)) ?_
    rw [hl]
    refine' g_name ?v2 ?_
    case v2 => tm_at "set"
    refine g_seq ?_
    refine g_ifS ?_
    refine g_and ?_
    refine g_test ?_
    refine g_op ?_
    refine' g_var ?v1 ?_
    case v1 => tm_at "at"
    refine g_c ?_
    refine g_noNo ?_
    refine g_bl ?_
    refine g_ndec (fun hn => ?_) (fun hn => ?_)
    · tm_at "go"
      refine' ap_is_whole (K := K) (Thing.same hI.ex hv) ?_
      refine g_tru_bl ?_
      cases e : isWhole v 1 ((rs.length : Int) + 1) with
      | false =>
        refine g_nfalse ?_
        refine g_raise ?_
        refine g_xmk ?_
        tm_at "go"
        exact g_ns C2 hI (fun _ => rfl) fun d H' hI => q2 (by simp) hn e d H' hI
      | true =>
        refine g_ntrue ?_
        tm_at "next"
        exact key _ _ _ hI (.inr e)
    · tm_at "next"
      exact key _ _ _ hI (.inl hn)
/-! ### errors kept as values -/
abbrev t_law_caught_0 (K : PySem.W.Frag) (ac : WX → TE) : TS := (tRet (tVar 1))
abbrev t_law_caught_1 (K : PySem.W.Frag) (ac : WX → TE) : TS := (tSeq (tTry3 K (.ref (He.ga K "BadValue")) (.ref (He.ga K "NoSuch")) (.ref (He.ga K "TooMany")) 2 (fun W => (tDrop (ac W))) (fun _ _ _ => (tAsg (tVar 2) (gName 1)))) (t_law_caught_0 K ac))
def t_law_caught (K : PySem.W.Frag) (ac : WX → TE) : TS := (tSeq (tAsg (tC .non) (gName 1)) (t_law_caught_1 K ac))
abbrev sTold (f : Addr) : St := [some (.ref f), some .non, none]
def nTold (K : PySem.W.Frag) (f : Addr) (Q : VK) : VK := fun _ H1 => t_law_caught_0 K (fun _ => tC .non) { nx := fun _ H' => Q .non H', rt := Q } (sTold f) H1
def eTold (K : PySem.W.Frag) (f : Addr) (Q : VK) : XK := fun cls d H' => wAs3 K (.ref (He.ga K "BadValue")) (.ref (He.ga K "NoSuch")) (.ref (He.ga K "TooMany")) 2 (fun _ _ _ => tAsg (tVar 2) (gName 1)) { nx := fun σ' H' => t_law_caught_0 K (fun _ => tC .non) { nx := fun _ H' => Q .non H', rt := Q } σ' H', rt := Q } cls d (sTold f) H'
def TTold (K : PySem.W.Frag) : (XK → Hp → VK → Prop) → Hp → VK → Prop := fun tl H Q => ∀ f, tl (eTold K f Q) H (nTold K f Q)
theorem rd_law_caught {K : PySem.W.Frag} {f c' : Addr} {q : Str} {tl : XK → Hp → VK → Prop} {H : Hp} {Q : VK} (hc : H c' = some (LamX.CodeO c' q)) (h : TTold K tl H Q) :
    t_law_caught K (tAct f c' q tl) { nx := fun _ H' => Q .non H', rt := Q } (L2.start ["deed", "error", "e"] [.ref f]) H := by
  show t_law_caught K (tAct f c' q tl) ⟨_, _, _, _⟩ [some (.ref f), none, none] H
  unfold t_law_caught
  exact ⟨rfl, hc, eTold K f Q, fun _ _ _ h => h, h f⟩
/-- an error kept -/
abbrev errO (K : PySem.W.Frag) (a dd : Addr) (X : Str) (fs : List (Str × V)) (L : List (Addr × HO)) : List (Addr × HO) := (a, exv a (.ref (He.ga K X)) (some dd)) :: (dd, .xd fs) :: L
theorem caught_err {K : PySem.W.Frag} (C : ErrC K) {f dd : Addr} {X : Str} {fs : List (Str × V)} {ws : List V} (hX : ErrT X fs ws) {B H : Hp} {M L : List (Addr × HO)} {Q : VK} (I : Is B M ((dd, .xd fs) :: L) H)
    (q : ∀ a H', Is B M (errO K a dd X fs L) H' → Q (.ref a) H') : eTold K f Q (.ref (He.ga K X)) (some dd) H := by
  refine ⟨hX.mm C, fun a na => ?_⟩
  have hI := I.new (o := exv a (.ref (He.ga K X)) (some dd)) na
  show tAsg (tVar 2) (gName 1) ⟨_, _, _, _⟩ [some (.ref f), some .non, some (.ref a)] _
  tm_at "go"
  exact q a _ hI
/-! ### of which classes an error is: BadValue, BadText, NoSuch, TooMany, ValueError, KeyError, LookupError, OverflowError, IndexError, RuntimeError, ZeroDivisionError -/
inductive Fam : Str → List Bool → Prop
  | val : Fam "BadValue" [true, false, false, false, true, false, false, false, false, false, false]
  | text : Fam "BadText" [true, true, false, false, true, false, false, false, false, false, false]
  | no : Fam "NoSuch" [false, false, true, false, false, true, true, false, false, false, false]
  | many : Fam "TooMany" [false, false, false, true, false, false, false, true, false, false, false]
def sp_law_families (K : PySem.W.Frag) : Sp := fun vs H Q _ => vs.length = 1 ∧ ∃ (a dd : Addr) (X : Str) (fs : List (Str × V)) (ws : List V) (bs : List Bool) (B : Hp) (M L : List (Addr × HO)), vs = [.ref a] ∧ Is B M L H ∧ (a, exv a (.ref (He.ga K X)) (some dd)) ∈ L ∧ (dd, HO.xd fs) ∈ L ∧ ErrT X fs ws ∧ Fam X bs ∧ ∀ p H', Is B M ((p, .lst (bs.map V.bl)) :: L) H' → Q (.ref p) H'
theorem ap_law_families {K : PySem.W.Frag} {H : Hp} {Q : VK} {E : XK} {a dd : Addr} {X : Str} {fs : List (Str × V)} {ws : List V} {bs : List Bool} {B : Hp} {M L : List (Addr × HO)} (I : Is B M L H) (h1 : (a, exv a (.ref (He.ga K X)) (some dd)) ∈ L) (h2 : (dd, HO.xd fs) ∈ L) (hX : ErrT X fs ws) (hF : Fam X bs) (q : ∀ p H', Is B M ((p, .lst (bs.map V.bl)) :: L) H' → Q (.ref p) H') : sp_law_families K [.ref a] H Q E := ⟨rfl, a, dd, X, fs, ws, bs, B, M, L, rfl, I, h1, h2, hX, hF, q⟩
abbrev t_law_families_0 (K : PySem.W.Frag) : TS := (tRet (tOp (rAddA K) (tVar 1) (tLst (tCons (tCB (rIsX K) (tCons (tVar 0) (tCons (tC (.ty "RuntimeError")) tNil))) (tCons (tCB (rIsX K) (tCons (tVar 0) (tCons (tC (.ty "ZeroDivisionError")) tNil))) tNil)))))
abbrev t_law_families_1 (K : PySem.W.Frag) : TS := (tSeq (tAsg (tOp (rAddA K) (tVar 1) (tLst (tCons (tCB (rIsX K) (tCons (tVar 0) (tCons (tC (.ty "LookupError")) tNil))) (tCons (tCB (rIsX K) (tCons (tVar 0) (tCons (tC (.ty "OverflowError")) tNil))) (tCons (tCB (rIsX K) (tCons (tVar 0) (tCons (tC (.ty "IndexError")) tNil))) tNil))))) (gName 1)) (t_law_families_0 K))
abbrev t_law_families_2 (K : PySem.W.Frag) : TS := (tSeq (tAsg (tOp (rAddA K) (tVar 1) (tLst (tCons (tCB (rIsX K) (tCons (tVar 0) (tCons (tC (.ref (He.ga K "TooMany"))) tNil))) (tCons (tCB (rIsX K) (tCons (tVar 0) (tCons (tC (.ty "ValueError")) tNil))) (tCons (tCB (rIsX K) (tCons (tVar 0) (tCons (tC (.ty "KeyError")) tNil))) tNil))))) (gName 1)) (t_law_families_1 K))
def t_law_families (K : PySem.W.Frag) : TS := (tSeq (tAsg (tLst (tCons (tCB (rIsX K) (tCons (tVar 0) (tCons (tC (.ref (He.ga K "BadValue"))) tNil))) (tCons (tCB (rIsX K) (tCons (tVar 0) (tCons (tC (.ref (He.ga K "BadText"))) tNil))) (tCons (tCB (rIsX K) (tCons (tVar 0) (tCons (tC (.ref (He.ga K "NoSuch"))) tNil))) tNil)))) (gName 1)) (t_law_families_2 K))
theorem rd_law_families {K : PySem.W.Frag} (C : ErrC K) (C2 : ErrKit2 K) (vs : List V) (H : Hp) (Q : VK) (E : XK) (h : sp_law_families K vs H Q E) : t_law_families K { nx := fun _ H' => Q .non H', rt := Q } (start ["error", "found"] vs) H := by
  obtain ⟨_, a, dd, X, fs, ws, bs, B, M, L, rfl, hI, h1, h2, hX, hF, q⟩ := h
  show t_law_families K ⟨_, _, _, _⟩ [some (.ref a), none] H
  have ex := hX.ex C
  have ha : ∀ {H' : Hp} {L' : List (Addr × HO)}, Is B M (L' ++ L) H' → H' a = some (exv a (.ref (He.ga K X)) (some dd)) := fun I => I.get (List.mem_append_right _ h1)
  have hd : ∀ {H' : Hp} {L' : List (Addr × HO)}, Is B M (L' ++ L) H' → H' dd = some (.xd fs) := fun I => I.get (List.mem_append_right _ h2)
  unfold t_law_families
  cases hF with
  | val =>
    tm_at "go"
    refine g_isE (ha (L' := []) hI) (hd (L' := []) hI) ex (.own _) (C.kit.kv.o ("BadValue", _) (by tm_at "mem")) ?_
    tm_at "go"
    refine g_isE (ha (L' := []) hI) (hd (L' := []) hI) ex (.own _) (C.kit.kv.o ("BadText", _) (by tm_at "mem")) ?_
    tm_at "go"
    refine g_isE (ha (L' := []) hI) (hd (L' := []) hI) ex (.own _) (C.kit.kv.o ("NoSuch", _) (by tm_at "mem")) ?_
    tm_at "go"
    tm_at "go"
    refine g_isE (ha (L' := [_]) hI) (hd (L' := [_]) hI) ex (.own _) (C.kit.kv.o ("TooMany", _) (by tm_at "mem")) ?_
    tm_at "go"
    refine g_isE (ha (L' := [_]) hI) (hd (L' := [_]) hI) ex (.ty _) (C.kit.kv.t ("ValueError", _) (by tm_at "mem")) ?_
    tm_at "go"
    refine g_isE (ha (L' := [_]) hI) (hd (L' := [_]) hI) ex (.ty _) (C.kit.kv.t ("KeyError", _) (by tm_at "mem")) ?_
    tm_at "go"
    refine g_add_l hI (by tm_at "hp") (by tm_at "hp") (by simp only [List.length_append, List.length_cons, List.length_nil]; omega) ?_
    clear hI
    intro s1 H hI
    replace hI := hI.forget (L' := (s1, _) :: L) (by tm_at "sub")
    tm_at "go"
    refine g_isE (ha (L' := [_]) hI) (hd (L' := [_]) hI) ex (.ty _) (C2.kv.t ("LookupError", _) (by tm_at "mem")) ?_
    tm_at "go"
    refine g_isE (ha (L' := [_]) hI) (hd (L' := [_]) hI) ex (.ty _) (C.kit.kv.t ("OverflowError", _) (by tm_at "mem")) ?_
    tm_at "go"
    refine g_isE (ha (L' := [_]) hI) (hd (L' := [_]) hI) ex (.ty _) (C2.kv.t ("IndexError", _) (by tm_at "mem")) ?_
    tm_at "go"
    refine g_add_l hI (by tm_at "hp") (by tm_at "hp") (by simp only [List.length_append, List.length_cons, List.length_nil]; omega) ?_
    clear hI
    intro s2 H hI
    replace hI := hI.forget (L' := (s2, _) :: L) (by tm_at "sub")
    tm_at "go"
    refine g_isE (ha (L' := [_]) hI) (hd (L' := [_]) hI) ex (.ty _) (C2.kv.t ("RuntimeError", _) (by tm_at "mem")) ?_
    tm_at "go"
    refine g_isE (ha (L' := [_]) hI) (hd (L' := [_]) hI) ex (.ty _) (C2.kv.t ("ZeroDivisionError", _) (by tm_at "mem")) ?_
    tm_at "go"
    refine g_add_l hI (by tm_at "hp") (by tm_at "hp") (by simp only [List.length_append, List.length_cons, List.length_nil]; omega) ?_
    clear hI
    intro s3 H hI
    tm_at "go"
    exact q _ _ (hI.forget (by tm_at "sub"))
  | text =>
    tm_at "go"
    refine g_isE (ha (L' := []) hI) (hd (L' := []) hI) ex (.own _) (C.kit.kt.o ("BadValue", _) (by tm_at "mem")) ?_
    tm_at "go"
    refine g_isE (ha (L' := []) hI) (hd (L' := []) hI) ex (.own _) (C.kit.kt.o ("BadText", _) (by tm_at "mem")) ?_
    tm_at "go"
    refine g_isE (ha (L' := []) hI) (hd (L' := []) hI) ex (.own _) (C.kit.kt.o ("NoSuch", _) (by tm_at "mem")) ?_
    tm_at "go"
    tm_at "go"
    refine g_isE (ha (L' := [_]) hI) (hd (L' := [_]) hI) ex (.own _) (C.kit.kt.o ("TooMany", _) (by tm_at "mem")) ?_
    tm_at "go"
    refine g_isE (ha (L' := [_]) hI) (hd (L' := [_]) hI) ex (.ty _) (C.kit.kt.t ("ValueError", _) (by tm_at "mem")) ?_
    tm_at "go"
    refine g_isE (ha (L' := [_]) hI) (hd (L' := [_]) hI) ex (.ty _) (C.kit.kt.t ("KeyError", _) (by tm_at "mem")) ?_
    tm_at "go"
    refine g_add_l hI (by tm_at "hp") (by tm_at "hp") (by simp only [List.length_append, List.length_cons, List.length_nil]; omega) ?_
    clear hI
    intro s1 H hI
    replace hI := hI.forget (L' := (s1, _) :: L) (by tm_at "sub")
    tm_at "go"
    refine g_isE (ha (L' := [_]) hI) (hd (L' := [_]) hI) ex (.ty _) (C2.kt.t ("LookupError", _) (by tm_at "mem")) ?_
    tm_at "go"
    refine g_isE (ha (L' := [_]) hI) (hd (L' := [_]) hI) ex (.ty _) (C.kit.kt.t ("OverflowError", _) (by tm_at "mem")) ?_
    tm_at "go"
    refine g_isE (ha (L' := [_]) hI) (hd (L' := [_]) hI) ex (.ty _) (C2.kt.t ("IndexError", _) (by tm_at "mem")) ?_
    tm_at "go"
    refine g_add_l hI (by tm_at "hp") (by tm_at "hp") (by simp only [List.length_append, List.length_cons, List.length_nil]; omega) ?_
    clear hI
    intro s2 H hI
    replace hI := hI.forget (L' := (s2, _) :: L) (by tm_at "sub")
    tm_at "go"
    refine g_isE (ha (L' := [_]) hI) (hd (L' := [_]) hI) ex (.ty _) (C2.kt.t ("RuntimeError", _) (by tm_at "mem")) ?_
    tm_at "go"
    refine g_isE (ha (L' := [_]) hI) (hd (L' := [_]) hI) ex (.ty _) (C2.kt.t ("ZeroDivisionError", _) (by tm_at "mem")) ?_
    tm_at "go"
    refine g_add_l hI (by tm_at "hp") (by tm_at "hp") (by simp only [List.length_append, List.length_cons, List.length_nil]; omega) ?_
    clear hI
    intro s3 H hI
    tm_at "go"
    exact q _ _ (hI.forget (by tm_at "sub"))
  | no =>
    tm_at "go"
    refine g_isE (ha (L' := []) hI) (hd (L' := []) hI) ex (.own _) (C.kit.kn.o ("BadValue", _) (by tm_at "mem")) ?_
    tm_at "go"
    refine g_isE (ha (L' := []) hI) (hd (L' := []) hI) ex (.own _) (C.kit.kn.o ("BadText", _) (by tm_at "mem")) ?_
    tm_at "go"
    refine g_isE (ha (L' := []) hI) (hd (L' := []) hI) ex (.own _) (C.kit.kn.o ("NoSuch", _) (by tm_at "mem")) ?_
    tm_at "go"
    tm_at "go"
    refine g_isE (ha (L' := [_]) hI) (hd (L' := [_]) hI) ex (.own _) (C.kit.kn.o ("TooMany", _) (by tm_at "mem")) ?_
    tm_at "go"
    refine g_isE (ha (L' := [_]) hI) (hd (L' := [_]) hI) ex (.ty _) (C.kit.kn.t ("ValueError", _) (by tm_at "mem")) ?_
    tm_at "go"
    refine g_isE (ha (L' := [_]) hI) (hd (L' := [_]) hI) ex (.ty _) (C.kit.kn.t ("KeyError", _) (by tm_at "mem")) ?_
    tm_at "go"
    refine g_add_l hI (by tm_at "hp") (by tm_at "hp") (by simp only [List.length_append, List.length_cons, List.length_nil]; omega) ?_
    clear hI
    intro s1 H hI
    replace hI := hI.forget (L' := (s1, _) :: L) (by tm_at "sub")
    tm_at "go"
    refine g_isE (ha (L' := [_]) hI) (hd (L' := [_]) hI) ex (.ty _) (C2.kn.t ("LookupError", _) (by tm_at "mem")) ?_
    tm_at "go"
    refine g_isE (ha (L' := [_]) hI) (hd (L' := [_]) hI) ex (.ty _) (C.kit.kn.t ("OverflowError", _) (by tm_at "mem")) ?_
    tm_at "go"
    refine g_isE (ha (L' := [_]) hI) (hd (L' := [_]) hI) ex (.ty _) (C2.kn.t ("IndexError", _) (by tm_at "mem")) ?_
    tm_at "go"
    refine g_add_l hI (by tm_at "hp") (by tm_at "hp") (by simp only [List.length_append, List.length_cons, List.length_nil]; omega) ?_
    clear hI
    intro s2 H hI
    replace hI := hI.forget (L' := (s2, _) :: L) (by tm_at "sub")
    tm_at "go"
    refine g_isE (ha (L' := [_]) hI) (hd (L' := [_]) hI) ex (.ty _) (C2.kn.t ("RuntimeError", _) (by tm_at "mem")) ?_
    tm_at "go"
    refine g_isE (ha (L' := [_]) hI) (hd (L' := [_]) hI) ex (.ty _) (C2.kn.t ("ZeroDivisionError", _) (by tm_at "mem")) ?_
    tm_at "go"
    refine g_add_l hI (by tm_at "hp") (by tm_at "hp") (by simp only [List.length_append, List.length_cons, List.length_nil]; omega) ?_
    clear hI
    intro s3 H hI
    tm_at "go"
    exact q _ _ (hI.forget (by tm_at "sub"))
  | many =>
    tm_at "go"
    refine g_isE (ha (L' := []) hI) (hd (L' := []) hI) ex (.own _) (C.kit.km.o ("BadValue", _) (by tm_at "mem")) ?_
    tm_at "go"
    refine g_isE (ha (L' := []) hI) (hd (L' := []) hI) ex (.own _) (C.kit.km.o ("BadText", _) (by tm_at "mem")) ?_
    tm_at "go"
    refine g_isE (ha (L' := []) hI) (hd (L' := []) hI) ex (.own _) (C.kit.km.o ("NoSuch", _) (by tm_at "mem")) ?_
    tm_at "go"
    tm_at "go"
    refine g_isE (ha (L' := [_]) hI) (hd (L' := [_]) hI) ex (.own _) (C.kit.km.o ("TooMany", _) (by tm_at "mem")) ?_
    tm_at "go"
    refine g_isE (ha (L' := [_]) hI) (hd (L' := [_]) hI) ex (.ty _) (C.kit.km.t ("ValueError", _) (by tm_at "mem")) ?_
    tm_at "go"
    refine g_isE (ha (L' := [_]) hI) (hd (L' := [_]) hI) ex (.ty _) (C.kit.km.t ("KeyError", _) (by tm_at "mem")) ?_
    tm_at "go"
    refine g_add_l hI (by tm_at "hp") (by tm_at "hp") (by simp only [List.length_append, List.length_cons, List.length_nil]; omega) ?_
    clear hI
    intro s1 H hI
    replace hI := hI.forget (L' := (s1, _) :: L) (by tm_at "sub")
    tm_at "go"
    refine g_isE (ha (L' := [_]) hI) (hd (L' := [_]) hI) ex (.ty _) (C2.km.t ("LookupError", _) (by tm_at "mem")) ?_
    tm_at "go"
    refine g_isE (ha (L' := [_]) hI) (hd (L' := [_]) hI) ex (.ty _) (C.kit.km.t ("OverflowError", _) (by tm_at "mem")) ?_
    tm_at "go"
    refine g_isE (ha (L' := [_]) hI) (hd (L' := [_]) hI) ex (.ty _) (C2.km.t ("IndexError", _) (by tm_at "mem")) ?_
    tm_at "go"
    refine g_add_l hI (by tm_at "hp") (by tm_at "hp") (by simp only [List.length_append, List.length_cons, List.length_nil]; omega) ?_
    clear hI
    intro s2 H hI
    replace hI := hI.forget (L' := (s2, _) :: L) (by tm_at "sub")
    tm_at "go"
    refine g_isE (ha (L' := [_]) hI) (hd (L' := [_]) hI) ex (.ty _) (C2.km.t ("RuntimeError", _) (by tm_at "mem")) ?_
    tm_at "go"
    refine g_isE (ha (L' := [_]) hI) (hd (L' := [_]) hI) ex (.ty _) (C2.km.t ("ZeroDivisionError", _) (by tm_at "mem")) ?_
    tm_at "go"
    refine g_add_l hI (by tm_at "hp") (by tm_at "hp") (by simp only [List.length_append, List.length_cons, List.length_nil]; omega) ?_
    clear hI
    intro s3 H hI
    tm_at "go"
    exact q _ _ (hI.forget (by tm_at "sub"))
/-! ### the law's spoiled text of a style -/
theorem tl_bl : TL.tl (" " : Str) = [32] := by decide +kernel
theorem tl_nl : TL.tl ("\n" : Str) = [10] := by decide +kernel
theorem words_join {ps : List Str} (hne : ps ≠ []) (h : ∀ p ∈ ps, 32 ∉ TL.tl p ∧ TL.tl p ≠ []) : wordsV (.str (Txt.join " " ps)) = some ps := by
  have e : partsL (Txt.join " " ps) = ps.map TL.tl := by
    unfold partsL
    show TL.spl [32] 0 [] (TL.tl (Txt.join " " ps)) = _
    rw [TL.join_eq, TL.tl_join, tl_bl]
    exact TL.spl_join (by simpa using hne) fun p hp => by
      obtain ⟨q, hq, rfl⟩ := List.mem_map.mp hp
      exact (h q hq).1
  show (if [] ∈ partsL (Txt.join " " ps) then none else some ((partsL (Txt.join " " ps)).map fun l => (⟨l.toArray⟩ : Str))) = some ps
  rw [e, if_neg fun hm => ?_]
  · congr 1
    rw [List.map_map]
    conv => rhs; rw [← List.map_id ps]
    exact List.map_congr_left fun p _ => TL.mk_tl p
  · obtain ⟨q, hq, e2⟩ := List.mem_map.mp hm
    exact (h q hq).2 e2
theorem rows_join {ps : List Str} (hne : ps ≠ []) (h : ∀ p ∈ ps, 10 ∉ TL.tl p) : Txt.split (Txt.join "\n" ps) "\n" = ps := by
  exact TL.split_join tl_nl (by decide +kernel) hne h
theorem join2 (a b : Str) : Txt.join " " [a, b] = a ++ " " ++ b := by
  apply tlInj
  rw [TL.join_eq, TL.tl_join]
  simp only [TL.tl_append, List.map_cons, List.map_nil, TL.joinL, List.append_assoc]
theorem join3 (a b c : Str) : Txt.join " " [a, b, c] = a ++ " " ++ b ++ " " ++ c := by
  apply tlInj
  rw [TL.join_eq, TL.tl_join]
  simp only [TL.tl_append, List.map_cons, List.map_nil, TL.joinL, List.append_assoc]
theorem join4 (a b c d : Str) : Txt.join " " [a, b, c, d] = a ++ " " ++ b ++ " " ++ c ++ " " ++ d := by
  apply tlInj
  rw [TL.join_eq, TL.tl_join]
  simp only [TL.tl_append, List.map_cons, List.map_nil, TL.joinL, List.append_assoc]
theorem letS_97 : ∀ c ∈ letS.cps.toList, 97 ≤ c := by decide +kernel
theorem name_sign {z : Str} (h : isName (.str z) = true) {c : Nat} (hc : c ∈ TL.tl z) : 97 ≤ c := by
  have h' : (decide (1 ≤ (z.length : Int)) && (decide ((z.length : Int) ≤ 8) && (!inV (.str z) barVs && z.cps.toList.all fun c => decide (c ∈ letS.cps.toList)))) = true := h
  simp only [Bool.and_eq_true] at h'
  exact letS_97 c (of_decide_eq_true (List.all_eq_true.mp h'.2.2.2 c hc))
theorem name_ne0' {z : Str} (h : isName (.str z) = true) : TL.tl z ≠ [] := fun e => by
  have : z = "" := tlInj (by rw [e]; rfl)
  rw [this, name_ne0] at h
  cases h
theorem name_no {z : Str} (h : isName (.str z) = true) {c : Nat} (hc : c < 97) : c ∉ TL.tl z := fun hm => by
  have := name_sign h hm
  omega
theorem st_words {z : Str} (h : isName (.str z) = true) : wordsV (.str ("style " ++ z)) = some [("style" : Str), z] := by
  rw [show ("style " : Str) ++ z = Txt.join " " [("style" : Str), z] from by rw [join2]; rfl]
  refine words_join (by simp) fun p hp => ?_
  simp only [List.mem_cons, List.not_mem_nil, or_false] at hp
  rcases hp with rfl | rfl
  · exact ⟨by decide +kernel, by decide +kernel⟩
  · exact ⟨name_no h (by decide), name_ne0' h⟩
theorem st_bent {z y : Str} (h : isName (.str z) = true) (g : isName (.str y) = true) : wordsV (.str ("style " ++ z ++ " " ++ y)) = some [("style" : Str), z, y] := by
  rw [show ("style " : Str) ++ z ++ " " ++ y = Txt.join " " [("style" : Str), z, y] from by rw [join3]; rfl]
  refine words_join (by simp) fun p hp => ?_
  simp only [List.mem_cons, List.not_mem_nil, or_false] at hp
  rcases hp with rfl | rfl | rfl
  · exact ⟨by decide +kernel, by decide +kernel⟩
  · exact ⟨name_no h (by decide), name_ne0' h⟩
  · exact ⟨name_no g (by decide), name_ne0' g⟩
theorem pr_words : ∀ j : Nat, j < 3 → wordsV (.str ("press 2 " ++ numT (j : Int))) = some [("press" : Str), "2", numT (j : Int)]
  | 0, _ => by decide +kernel
  | 1, _ => by decide +kernel
  | 2, _ => by decide +kernel
theorem pr_bent {y : Str} (g : isName (.str y) = true) : ∀ j : Nat, j < 3 → wordsV (.str ("press 2 " ++ numT (j : Int) ++ " " ++ y)) = some [("press" : Str), "2", numT (j : Int), y] := by
  intro j hj
  have hn : ∀ c, (c < 48 ∨ 57 < c) → c ∉ TL.tl (numT (j : Int)) := fun c hc hm => by
    have := numT_sign (by omega) hm
    omega
  have hn0 : TL.tl (numT (j : Int)) ≠ [] := by
    rw [tl_numT (by omega)]
    exact TL.numL_ne _
  rw [show ("press 2 " : Str) ++ numT (j : Int) ++ " " ++ y = Txt.join " " [("press" : Str), "2", numT (j : Int), y] from by rw [join4]; rfl]
  refine words_join (by simp) fun p hp => ?_
  simp only [List.mem_cons, List.not_mem_nil, or_false] at hp
  rcases hp with rfl | rfl | rfl | rfl
  · exact ⟨by decide +kernel, by decide +kernel⟩
  · exact ⟨by decide +kernel, by decide +kernel⟩
  · exact ⟨hn 32 (by decide), hn0⟩
  · exact ⟨name_no g (by decide), name_ne0' g⟩
theorem kind_press : kindV (.str "press") ≠ .non := by decide +kernel
theorem pr_in : numIn [("2" : Str)] 0 1 240 = some 2 := by decide +kernel
theorem pr_in0 : ∀ j : Nat, j < 3 → numIn [numT (j : Int)] 0 0 240 = some (j : Int)
  | 0, _ => by decide +kernel
  | 1, _ => by decide +kernel
  | 2, _ => by decide +kernel
theorem pr_step {k j : Nat} (hk : k < 12) (hj : j < 3) : rdStep k [("press" : Str), "2", numT (j : Int)] = .ok ("press", 2, (j : Int)) := by
  rw [rdStep_cons, if_pos ⟨hk, kind_press⟩]
  rw [show numIn [("2" : Str), numT (j : Int)] 0 1 240 = some 2 from pr_in]
  dsimp only
  rw [show numIn ([("2" : Str), numT (j : Int)].drop 1) 0 0 240 = some (j : Int) from pr_in0 j hj]
  rfl
theorem pr_stepB {k j : Nat} {y : Str} (hk : k < 12) (hj : j < 3) : rdStep k [("press" : Str), "2", numT (j : Int), y] = .error 4 := by
  rw [rdStep_cons, if_pos ⟨hk, kind_press⟩]
  rw [show numIn [("2" : Str), numT (j : Int), y] 0 1 240 = some 2 from pr_in]
  dsimp only
  rw [show numIn ([("2" : Str), numT (j : Int), y].drop 1) 0 0 240 = some (j : Int) from pr_in0 j hj]
  rfl
/-- its rows, the one at s longer by a word -/
def rowsB (z y : Str) (s : Nat) : List Str :=
  [("style " : Str) ++ z ++ (if s = 0 then (" " : Str) ++ y else Str.empty), ("press 2 " : Str) ++ numT ((0 : Nat) : Int) ++ (if s = 1 then (" " : Str) ++ y else Str.empty), ("press 2 " : Str) ++ numT ((1 : Nat) : Int) ++ (if s = 2 then (" " : Str) ++ y else Str.empty), ("press 2 " : Str) ++ numT ((2 : Nat) : Int) ++ (if s = 3 then (" " : Str) ++ y else Str.empty)]
theorem app_empty (x : Str) : x ++ Str.empty = x := tlInj (by rw [TL.tl_append]; exact List.append_nil _)
theorem app_assoc (x y z : Str) : x ++ (y ++ z) = x ++ y ++ z := tlInj (by simp only [TL.tl_append, List.append_assoc])
theorem read_bent {z y : Str} (h : isName (.str z) = true) (g : isName (.str y) = true) : ∀ s : Nat, s < 4 → rdAll (rowsB z y s) = .error ((s : Int) + 1, 3 + if 0 < s then 1 else 0)
  | 0, _ => by
    unfold rowsB
    simp only [if_pos, app_assoc]
    rw [rdAll_cons, st_bent h g]
    dsimp only
    rw [show rdHead [("style" : Str), z, y] = .error 3 from by rw [rdHead_eq, if_pos rfl]; dsimp only; rw [if_pos h, if_neg (by simp)]]
    rfl
  | 1, _ => by
    unfold rowsB
    rw [if_neg (by decide), if_pos rfl, if_neg (by decide), if_neg (by decide), app_empty, app_empty, app_empty, app_assoc]
    rw [rdAll_cons, st_words h]
    dsimp only
    rw [show rdHead [("style" : Str), z] = .ok z from by rw [rdHead_eq, if_pos rfl]; dsimp only; rw [if_pos h, if_pos rfl]]
    dsimp only
    rw [rdRows_cons, pr_bent g 0 (by decide)]
    dsimp only
    rw [pr_stepB (by decide) (by decide)]
    rfl
  | 2, _ => by
    unfold rowsB
    rw [if_neg (by decide), if_neg (by decide), if_pos rfl, if_neg (by decide), app_empty, app_empty, app_empty, app_assoc]
    rw [rdAll_cons, st_words h]
    dsimp only
    rw [show rdHead [("style" : Str), z] = .ok z from by rw [rdHead_eq, if_pos rfl]; dsimp only; rw [if_pos h, if_pos rfl]]
    dsimp only
    rw [rdRows_cons, pr_words 0 (by decide)]
    dsimp only
    rw [pr_step (by decide) (by decide)]
    dsimp only
    rw [rdRows_cons, pr_bent g 1 (by decide)]
    dsimp only
    rw [pr_stepB (by decide) (by decide)]
    rfl
  | 3, _ => by
    unfold rowsB
    rw [if_neg (by decide), if_neg (by decide), if_neg (by decide), if_pos rfl, app_empty, app_empty, app_empty, app_assoc]
    rw [rdAll_cons, st_words h]
    dsimp only
    rw [show rdHead [("style" : Str), z] = .ok z from by rw [rdHead_eq, if_pos rfl]; dsimp only; rw [if_pos h, if_pos rfl]]
    dsimp only
    rw [rdRows_cons, pr_words 0 (by decide)]
    dsimp only
    rw [pr_step (by decide) (by decide)]
    dsimp only
    rw [rdRows_cons, pr_words 1 (by decide)]
    dsimp only
    rw [pr_step (by decide) (by decide)]
    dsimp only
    rw [rdRows_cons, pr_bent g 2 (by decide)]
    dsimp only
    rw [pr_stepB (by decide) (by decide)]
    rfl
/-! law of k03 -/
theorem g_xval {t : St → Hp → XK → Prop} {σ : St} {H : Hp} {Q : VK} (h : t σ H fun cls d H' => ∀ a, H' a = none → Q (.ref a) (upd H' a (exv a cls d))) : tXval t σ H Q := h
structure OddV (K : PySem.W.Frag) (B : Hp) (x : V) : Prop where
  t : ∃ k, Thing K B x k
  w : isWhole x 1 3 = false
  d : ∃ d n, (∀ H, Same B H → Dp K H x d) ∧ Shn d n 2 ∧ n ≤ 100000
theorem g_ix_all {K : PySem.W.Frag} {H : Hp} {Q : VK} {a : Addr} {xs : List V} {i : Int} (P : V → Prop) (hs : SqL K H a xs) (h : ∀ x ∈ xs, P x) (h0 : 0 ≤ i) (h1 : i < (xs.length : Int)) (q : ∀ x, P x → Q x H) : rIx K (.ref a) (.int i) H Q := by
  have hl : i.toNat < xs.length := by omega
  exact g_ix_l hs (atI_of h0 (List.getElem?_eq_getElem hl)) (q _ (h _ (List.getElem_mem hl)))
theorem odd_int {K : PySem.W.Frag} {B : Hp} {n : Int} (h : ¬ (1 ≤ n ∧ n ≤ 3)) (h0 : -(2 ^ 200) < n) (h1 : n < 2 ^ 200) : OddV K B (.int n) :=
  ⟨⟨_, thing_int n⟩, by
    cases e : isWhole (.int n) 1 3 with
    | false => rfl
    | true =>
      obtain ⟨m, e1, e2⟩ := isWhole_int e
      cases e1
      exact absurd e2 h, ⟨_, _, fun _ _ => .int n, .int (log2_smallI h0 h1), by decide⟩⟩
theorem odd_bl {K : PySem.W.Frag} {B : Hp} {b : Bool} : OddV K B (.bl b) := ⟨⟨_, thing_bl b⟩, rfl, ⟨_, _, fun _ _ => .bl b, .bl, by decide⟩⟩
theorem odd_non {K : PySem.W.Frag} {B : Hp} : OddV K B .non := ⟨⟨_, thing_non⟩, rfl, ⟨_, _, fun _ _ => .non, .non, by decide⟩⟩
theorem odd_str {K : PySem.W.Frag} {B : Hp} {z : Str} (h : plainS z) (hl : z.length ≤ 8) : OddV K B (.str z) := ⟨⟨_, thing_str h⟩, rfl, ⟨_, _, fun _ _ => .str z, .str h.2, by omega⟩⟩
theorem odd_tup {K : PySem.W.Frag} {B : Hp} {a : Addr} (h : B a = some (.tup [.int 1])) : OddV K B (.ref a) :=
  ⟨⟨_, thing_tup h⟩, rfl, ⟨_, _, fun H s => .tup (SqT.of (s _ _ h)) (.cons (.int 1) .nil), .tup (.cons (.int (log2_smallI (by decide) (by decide))) .nil), by decide⟩⟩
theorem OddV.same {K : PySem.W.Frag} {B B' : Hp} {x : V} (h : OddV K B x) (e : Same B B') : OddV K B' x := by
  obtain ⟨⟨k, t⟩, w, d, n, h1, h2, h3⟩ := h
  exact ⟨⟨k, Thing.same e t⟩, w, d, n, fun H s => h1 H (e.trans s), h2, h3⟩
def prK (i : Nat) : List V := (List.range i).map fun (k : Nat) => V.str (("press 2 " : Str) ++ numT (0 + (k : Int)))
theorem prK_succ (i : Nat) : prK (i + 1) = prK i ++ [V.str (("press 2 " : Str) ++ numT (0 + (i : Int)))] := by
  unfold prK
  rw [List.range_succ, List.map_append]
  rfl
def rows0 (z : Str) : List Str := [("style " : Str) ++ z, ("press 2 " : Str) ++ numT ((0 : Nat) : Int), ("press 2 " : Str) ++ numT ((1 : Nat) : Int), ("press 2 " : Str) ++ numT ((2 : Nat) : Int)]
theorem rows0_at {z y : Str} (h : isName (.str z) = true) (g : plainS z) : ∀ s : Nat, s < 4 → ∃ x, (rows0 z)[s]? = some x ∧ Sh 30 x ∧ (rows0 z).set s (x ++ (" " : Str) ++ y) = rowsB z y s
  | 0, _ => ⟨_, rfl, (sh_st.add (name_sh h g)).mono (by decide), by simp [rows0, rowsB, app_empty, app_assoc]⟩
  | 1, _ => ⟨_, rfl, Sh.lit (by decide +kernel), by simp [rows0, rowsB, app_empty, app_assoc]⟩
  | 2, _ => ⟨_, rfl, Sh.lit (by decide +kernel), by simp [rows0, rowsB, app_empty, app_assoc]⟩
  | 3, _ => ⟨_, rfl, Sh.lit (by decide +kernel), by simp [rows0, rowsB, app_empty, app_assoc]⟩
theorem rowsB_sh {z y : Str} {s : Nat} (h : Sh 8 z) (g : Sh 8 y) : ∀ r ∈ rowsB z y s, Sh 60 r := by
  have t : ∀ b : Prop, [Decidable b] → Sh 9 (if b then (" " : Str) ++ y else Str.empty) := fun b _ => by
    split
    · exact (sh_bl.add g).mono (by decide)
    · exact sh_empty.mono (by decide)
  have n : ∀ k : Nat, k < 3 → Sh 26 (("press 2 " : Str) ++ numT (k : Int)) := fun k hk => ((Sh.lit (n := 8) (by decide +kernel) : Sh 8 ("press 2 " : Str)).add (numT_sh (by omega) (by omega))).mono (by decide)
  intro r hr
  unfold rowsB at hr
  simp only [List.mem_cons, List.not_mem_nil, or_false] at hr
  rcases hr with rfl | rfl | rfl | rfl
  · exact ((sh_st.add h).add (t _)).mono (by decide)
  · exact ((n 0 (by decide)).add (t _)).mono (by decide)
  · exact ((n 1 (by decide)).add (t _)).mono (by decide)
  · exact ((n 2 (by decide)).add (t _)).mono (by decide)
theorem rowsB_nl {z y : Str} {s : Nat} (h : isName (.str z) = true) (g : isName (.str y) = true) : ∀ r ∈ rowsB z y s, 10 ∉ TL.tl r := by
  have t : ∀ b : Prop, [Decidable b] → 10 ∉ TL.tl (if b then (" " : Str) ++ y else Str.empty) := fun b _ => by
    split
    · rw [TL.tl_append]
      intro hm
      rcases List.mem_append.mp hm with hm | hm
      · exact absurd hm (by decide +kernel)
      · exact name_no g (by decide) hm
    · decide +kernel
  have n : ∀ k : Nat, 10 ∉ TL.tl (("press 2 " : Str) ++ numT (k : Int)) := fun k => by
    rw [TL.tl_append]
    intro hm
    rcases List.mem_append.mp hm with hm | hm
    · exact absurd hm (by decide +kernel)
    · have := numT_sign (by omega) hm
      omega
  intro r hr
  unfold rowsB at hr
  simp only [List.mem_cons, List.not_mem_nil, or_false] at hr
  rcases hr with rfl | rfl | rfl | rfl
  · rw [TL.tl_append, TL.tl_append]
    intro hm
    rcases List.mem_append.mp hm with hm | hm
    · rcases List.mem_append.mp hm with hm | hm
      · exact absurd hm (by decide +kernel)
      · exact name_no h (by decide) hm
    · exact t _ hm
  · rw [TL.tl_append]
    exact fun hm => (List.mem_append.mp hm).elim (n 0) (t _)
  · rw [TL.tl_append]
    exact fun hm => (List.mem_append.mp hm).elim (n 1) (t _)
  · rw [TL.tl_append]
    exact fun hm => (List.mem_append.mp hm).elim (n 2) (t _)
theorem bigA (x : Str) : isName (.str (("A" : Str) ++ x)) = false := by
  cases h : isName (.str (("A" : Str) ++ x)) with
  | false => rfl
  | true =>
    have := name_sign h (c := 65) (by rw [TL.tl_append]; exact List.mem_append_left _ (by decide +kernel))
    omega
theorem dp_bools {K : PySem.W.Frag} {H : Hp} : ∀ bs : List Bool, DpAll K H (bs.map V.bl) (bs.map PyData.bool)
  | [] => .nil
  | b :: bs => .cons (.bl b) (dp_bools bs)
theorem shn_bools : ∀ bs : List Bool, ∃ n, ShnAll (bs.map PyData.bool) n 1
  | [] => ⟨_, .nil⟩
  | b :: bs => by
    obtain ⟨n, h⟩ := shn_bools bs
    exact ⟨_, .cons .bl h⟩
theorem g_ne_bls {K : PySem.W.Frag} {H : Hp} {Q : VK} {a b : Addr} {bs : List Bool} (h1 : SqL K H a (bs.map V.bl)) (h2 : SqL K H b (bs.map V.bl)) (k : Q (.bl false) H) : rNeA K (.ref a) (.ref b) H Q := by
  obtain ⟨n, sh⟩ := shn_bools bs
  refine g_ne_d (.lst h1 (dp_bools bs)) (.lst h2 (dp_bools bs)) (Shn.shaped (.lst sh) (by decide)) (Shn.shaped (.lst sh) (by decide)) ?_
  rw [SeqAt.eqv_refl _ (Shn.lay (.lst sh))]
  exact k
def rsK (i : Nat) : List StepT := (List.range i).map fun (k : Nat) => ((("sew" : Str), 1 + (0 + (k : Int)), (0 : Int)) : StepT)
theorem rsK_succ (i : Nat) : rsK (i + 1) = rsK i ++ [(("sew" : Str), 1 + (0 + (i : Int)), (0 : Int))] := by
  unfold rsK
  rw [List.range_succ, List.map_append]
  rfl
theorem rsK_len (i : Nat) : (rsK i).length = i := by
  unfold rsK
  rw [List.length_map, List.length_range]
theorem rsK_good : ∀ r ∈ rsK 12, StepG r := fun r hr => by
  obtain ⟨k, hk, rfl⟩ := List.mem_map.mp hr
  have := List.mem_range.mp hk
  exact ⟨(⟨"hand", by decide +kernel⟩ : WorkOk "sew"), by show (1 : Int) ≤ 1 + (0 + (k : Int)); omega, by show 1 + (0 + (k : Int)) ≤ (240 : Int); omega, Int.le_refl _, (by decide : (0 : Int) ≤ 240)⟩
abbrev pL (K : PySem.W.Frag) : Addr := (He.cT K ("law", none)).2
abbrev qL : Str := "law.<locals>.<lambda>"
def sp_law (K : PySem.W.Frag) : Sp := fun vs H Q _ => vs.length = 1 ∧ ∃ (a : Addr) (ns : List Int) (B : Hp), vs = [.ref a] ∧ Is B [] [(pL K, .tbl #[])] H ∧ SqL K B a (ns.map V.int) ∧ ns.length ≤ 63 ∧ ∀ H', Q (.bl true) H'
theorem law_asked {K : PySem.W.Frag} (hN : ([(("law" : Str), (none : Option Str))].map fun p => (He.cT K p).2).Nodup) (H : Hp) (a : Addr) (ns : List Int) (hn : ns.length ≤ 63) (ht : ∀ p ∈ [(("law" : Str), (none : Option Str))].map (He.cT K), H p.2 = some (.tbl #[]))
    (na : a ∉ ([(("law" : Str), (none : Option Str))].map (He.cT K)).map (·.2)) (h : SqL K H a (ns.map V.int)) : sp_law K [.ref a] H (fun v _ => v = .bl true) fun _ _ _ => False := by
  obtain ⟨B, hI, hs⟩ := is_tables (K := K) [pL K] (by simp) (fun p hp => by rw [List.mem_singleton.mp hp]; exact ht _ (List.mem_cons_self)) (by simpa using na) h
  exact ⟨rfl, a, ns, B, rfl, hI, hs, hn, fun _ => rfl⟩
abbrev t_law_0 (K : PySem.W.Frag) : TS := (tIfS (tTest (tOp (rNeA K) (tCl 1 0 (sp_law_families K) (fun vs zs => pick .non [0] (vs ++ zs)) E0 (tCons (tVar 16) tNil) tNil) (tVar 17))) (tRet (tC (.bl false))) tNext)
abbrev t_law_1 (K : PySem.W.Frag) : TS := (tSeq (tAsg (tLst (tCons (tOp (rInA K) (tVar 15) (tTup (tCons (tC (.int 0)) (tCons (tC (.int 3)) tNil)))) (tCons (tOp (rEqA K) (tVar 15) (tC (.int 3))) (tCons (tOp (rEqA K) (tVar 15) (tC (.int 1))) (tCons (tOp (rEqA K) (tVar 15) (tC (.int 2))) (tCons (tOp (rInA K) (tVar 15) (tTup (tCons (tC (.int 0)) (tCons (tC (.int 3)) tNil)))) (tCons (tOp (rEqA K) (tVar 15) (tC (.int 1))) (tCons (tOp (rEqA K) (tVar 15) (tC (.int 1))) (tCons (tOp (rEqA K) (tVar 15) (tC (.int 2))) (tCons (tC (.bl false)) (tCons (tC (.bl false)) (tCons (tC (.bl false)) tNil)))))))))))) (gName 17)) (t_law_0 K))
abbrev t_law_2 (K : PySem.W.Frag) : TS := (tRet (tOp (rEqA K) (tTup (tCons (tXv K "what" (tVar 14)) (tCons (tXv K "row" (tVar 14)) (tCons (tXv K "word" (tVar 14)) tNil)))) (tTup (tCons (tC (.str "text")) (tCons (tOp (rAddA K) (tVar 8) (tC (.int 1))) (tCons (tOp (rAddA K) (tC (.int 3)) (tCB rIntB (tCons (tOp (rI0 fun i j => .bl (decide (j < i))) (tVar 8) (tC (.int 0))) tNil))) tNil))))))
abbrev t_law_3 (K : PySem.W.Frag) : TS := (tSeq (tIfS (tTest (tOp (rNeA K) (tCB (rRepr K) (tCons (tTup (tCons (tXv K "what" (tVar 20)) (tCons (tXv K "name" (tVar 20)) (tCons (tXv K "most" (tXval (tXMk (He.ga K "TooMany") 1 (sp_TooMany_init K) (fun vs zs => pick .non [0, 1] (vs ++ zs)) (tCons (tVar 6) tNil)))) tNil)))) tNil)) (tCB (rRepr K) (tCons (tTup (tCons (tOp (rIx K) (tVar 2) (tC (.int 0))) (tCons (tVar 7) (tCons (tVar 6) tNil)))) tNil)))) (tRet (tC (.bl false))) tNext) (t_law_2 K))
abbrev t_law_4 (K : PySem.W.Frag) : TS := (tSeq (tIfS (tOr (tTest (tOp (rNeA K) (tXv K "what" (tVar 18)) (tOp (rAddA K) (tC (.str "a")) (tOp (rIx K) (tVar 2) (tC (.int 0)))))) (tTest (tOp (rNeA K) (tTup (tCons (tXv K "what" (tVar 19)) (tCons (tXv K "row" (tVar 19)) (tCons (tXv K "word" (tVar 19)) tNil)))) (tTup (tCons (tC (.str "text")) (tCons (tVar 8) (tCons (tVar 6) tNil))))))) (tRet (tC (.bl false))) tNext) (t_law_3 K))
abbrev t_law_5 (K : PySem.W.Frag) : TS := (tSeq (tPar3 18 19 20 (tCons (tXval (tXMk (He.ga K "BadValue") 1 (sp_BadValue_init K) (fun vs zs => pick .non [0, 1] (vs ++ zs)) (tCons (tOp (rAddA K) (tC (.str "a")) (tOp (rIx K) (tVar 2) (tC (.int 0)))) tNil))) (tCons (tXval (tXMk (He.ga K "BadText") 2 (sp_BadText_init K) (fun vs zs => pick .non [0, 1, 2] (vs ++ zs)) (tCons (tVar 8) (tCons (tVar 6) tNil)))) (tCons (tXval (tXMk (He.ga K "NoSuch") 2 (sp_NoSuch_init K) (fun vs zs => pick .non [0, 1, 2] (vs ++ zs)) (tCons (tOp (rIx K) (tVar 2) (tC (.int 0))) (tCons (tVar 7) tNil)))) tNil)))) (t_law_4 K))
abbrev t_law_6 (K : PySem.W.Frag) : TS := (tSeq (tIfS (tOr (tTest (tOp (rNeA K) (tXv K "what" (tVar 11)) (tC (.str "name")))) (tOr (tTest (tOp (rNeA K) (tXv K "most" (tVar 13)) (tC (.int 12)))) (tTest (tOp (rNeA K) (tCB (rRepr K) (tCons (tTup (tCons (tXv K "what" (tVar 12)) (tCons (tXv K "name" (tVar 12)) tNil))) tNil)) (tCB (rRepr K) (tCons (tTup (tCons (tC (.str "step")) (tCons (tVar 7) tNil))) tNil)))))) (tRet (tC (.bl false))) tNext) (t_law_5 K))
abbrev t_law_7 (K : PySem.W.Frag) : TS := (tSeq (tFor (iEnumA K (tCons (tLst (tCons (tVar 11) (tCons (tVar 12) (tCons (tVar 13) (tCons (tVar 14) tNil))))) tNil)) (gTup K 2 (gCons (gName 15) (gCons (gName 16) gNil))) (t_law_1 K)) (t_law_6 K))
abbrev t_law_8 (K : PySem.W.Frag) : TS := (tSeq (tAsg (tLamG (He.cT K ("law", none)).2 "law.<locals>.<lambda>" (TTold K) (fun E => (tCl 1 0 (sp_read_style K) (fun vs zs => pick .non [0] (vs ++ zs)) E (tCons (tVar 10) tNil) tNil))) (gName 14)) (t_law_7 K))
abbrev t_law_9 (K : PySem.W.Frag) : TS := (tSeq (tAsg (tLamG (He.cT K ("law", none)).2 "law.<locals>.<lambda>" (TTold K) (fun E => (tMe (He.ga K "Style") "put_in" 1 0 (sp_Style_put_in K) (fun vs zs => pick .non [0, 1, 2] (vs ++ (zs ++ [.non]))) E (tVar 4) (tCons (tOp (rIx K) (tVar 3) (tC (.int 0))) tNil) tNil))) (gName 13)) (t_law_8 K))
abbrev t_law_10 (K : PySem.W.Frag) : TS := (tSeq (tAsg (tLamG (He.cT K ("law", none)).2 "law.<locals>.<lambda>" (TTold K) (fun E => (tMe (He.ga K "Style") "step" 1 0 (sp_Style_step K) (fun vs zs => pick .non [0, 1] (vs ++ zs)) E (tVar 5) (tCons (tVar 7) tNil) tNil))) (gName 12)) (t_law_9 K))
abbrev t_law_11 (K : PySem.W.Frag) : TS := (tSeq (tAsg (tLamG (He.cT K ("law", none)).2 "law.<locals>.<lambda>" (TTold K) (fun E => (tMk (He.ga K "Style") 2 0 (sp_Style_init K) (fun vs zs => pick .non [0, 1, 2] (vs ++ zs)) E (tCons (tOp (rAddA K) (tC (.str "A")) (tSl (rSlA K) (tOp (rIx K) (tVar 2) (tC (.int 0))) tNoPart (tPart (tC (.int 5))))) (tCons (tVar 3) tNil)) tNil))) (gName 11)) (t_law_10 K))
abbrev t_law_12 (K : PySem.W.Frag) : TS := (tSeq (tAsg (tM1 (rJoin K) (tC (.str "\n")) (tVar 9)) (gName 10)) (t_law_11 K))
abbrev t_law_13 (K : PySem.W.Frag) : TS := (tSeq (tAsg (tOp (rAddA K) (tOp (rAddA K) (tOp (rIx K) (tVar 9) (tVar 8)) (tC (.str " "))) (tOp (rIx K) (tVar 2) (tC (.int 2)))) (gSub (tVar 9) (tVar 8) rSetL)) (t_law_12 K))
abbrev t_law_14 (K : PySem.W.Frag) : TS := (tSeq (tAsg (tOp (rAddA K) (tLst (tCons (tOp (rAddA K) (tC (.str "style ")) (tOp (rIx K) (tVar 2) (tC (.int 3)))) tNil)) (tLc (iRng1 (tCons (tC (.int 3)) tNil)) (gName 15) tYes (tOp (rAddA K) (tC (.str "press 2 ")) (tCB rStrI (tCons (tVar 15) tNil))) [15])) (gName 9)) (t_law_13 K))
abbrev t_law_15 (K : PySem.W.Frag) : TS := (tSeq (tAsg (tTup (tCons (tOp (rIx K) (tLst (tCons (tC (.int 0)) (tCons (tVar 6) (tCons (tUn (rU fun i => .int (-i)) (tC (.int 1))) (tCons (tC (.bl true)) (tCons (tC .non) (tCons (tC (.str "1")) (tCons (tOp (rIx K) (tVar 2) (tC (.int 2))) (tCons (tTup (tCons (tC (.int 1)) tNil)) (tCons (tOp (rI CPow fun i j => .int (i ^ j.toNat)) (tC (.int 10)) (tC (.int 30))) tNil)))))))))) (tCl 2 0 (sp_law_draw K) (fun vs zs => pick .non [0, 1] (vs ++ zs)) E0 (tCons (tVar 1) (tCons (tC (.int 9)) tNil)) tNil)) (tCons (tCl 2 0 (sp_law_draw K) (fun vs zs => pick .non [0, 1] (vs ++ zs)) E0 (tCons (tVar 1) (tCons (tC (.int 4)) tNil)) tNil) tNil))) (gTup K 2 (gCons (gName 7) (gCons (gName 8) gNil)))) (t_law_14 K))
abbrev t_law_16 (K : PySem.W.Frag) : TS := (tSeq (tAsg (tTup (tCons (tMk (He.ga K "Style") 2 0 (sp_Style_init K) (fun vs zs => pick .non [0, 1, 2] (vs ++ zs)) E0 (tCons (tOp (rIx K) (tVar 2) (tC (.int 0))) (tCons (tVar 3) tNil)) tNil) (tCons (tMk (He.ga K "Style") 2 0 (sp_Style_init K) (fun vs zs => pick .non [0, 1, 2] (vs ++ zs)) E0 (tCons (tOp (rIx K) (tVar 2) (tC (.int 1))) (tCons (tSl (rSlA K) (tVar 3) tNoPart (tPart (tC (.int 3)))) tNil)) tNil) (tCons (tOp (rAddA K) (tC (.int 4)) (tCl 2 0 (sp_law_draw K) (fun vs zs => pick .non [0, 1] (vs ++ zs)) E0 (tCons (tVar 1) (tCons (tOp (rI CPow fun i j => .int (i ^ j.toNat)) (tC (.int 10)) (tC (.int 6))) tNil)) tNil)) tNil)))) (gTup K 3 (gCons (gName 4) (gCons (gName 5) (gCons (gName 6) gNil))))) (t_law_15 K))
abbrev t_law_17 (K : PySem.W.Frag) : TS := (tSeq (tAsg (tLc (iRng1 (tCons (tC (.int 12)) tNil)) (gName 15) tYes (tTup (tCons (tC (.str "sew")) (tCons (tOp (rAddA K) (tC (.int 1)) (tVar 15)) (tCons (tC (.int 0)) tNil)))) [15]) (gName 3)) (t_law_16 K))
abbrev t_law_18 (K : PySem.W.Frag) : TS := (tSeq (tAsg (tCl 2 0 (sp_law_called K) (fun vs zs => pick .non [0, 1] (vs ++ zs)) E0 (tCons (tVar 1) (tCons (tC (.int 4)) tNil)) tNil) (gName 2)) (t_law_17 K))
def t_law (K : PySem.W.Frag) : TS := (tSeq (tAsg (tCl 1 0 (sp_law_begun K) (fun vs zs => pick .non [0] (vs ++ zs)) E0 (tCons (tVar 0) tNil) tNil) (gName 1)) (t_law_18 K))
theorem law_end {K : PySem.W.Frag} (C2 : ErrC K) {B12 : Hp} {M' LL : List (Addr × HO)} {H : Hp} {Q : VK} {a m wp D x1 x2 e1 e2 e3 e4 d1 d2 d3 d4 rp : Addr} {c15 c16 c17 : Option V} {odd : V} {s : Nat} {r0 : Int} {told z0 : Str} {zs : List V} (hI : Is B12 M' LL H)
    (me1 : (e1, exv e1 (.ref (He.ga K "BadValue")) (some d1)) ∈ LL) (md1 : (d1, HO.xd [("what", .str "name")]) ∈ LL)
    (me2 : (e2, exv e2 (.ref (He.ga K "NoSuch")) (some d2)) ∈ LL) (md2 : (d2, HO.xd [("name", odd), ("what", .str "step")]) ∈ LL)
    (me3 : (e3, exv e3 (.ref (He.ga K "TooMany")) (some d3)) ∈ LL) (md3 : (d3, HO.xd [("most", .int 12)]) ∈ LL)
    (me4 : (e4, exv e4 (.ref (He.ga K "BadText")) (some d4)) ∈ LL) (md4 : (d4, HO.xd [("word", .int (3 + if 0 < s then 1 else 0)), ("row", .int ((s : Int) + 1)), ("what", .str "text")]) ∈ LL)
    (hw : B12 wp = some (.lst (.str z0 :: zs))) (n01 : isName (.str z0) = true) (n02 : plainS z0) (hb0 : 0 ≤ r0) (hb1 : r0 < 10 ^ 6) (hs4 : s < 4) (hodd : OddV K B12 odd) (q : ∀ H', Q (.bl true) H') :
    t_law_6 K { nx := fun _ H' => Q .non H', rt := Q } [some (.ref a), some (.ref m), some (.ref wp), some (.ref D), some (.ref x1), some (.ref x2), some (.int (4 + r0)), some odd, some (.int (s : Int)), some (.ref rp), some (.str told), some (.ref e1), some (.ref e2), some (.ref e3), some (.ref e4), c15, c16, c17, none, none, none] H := by
  tm_at "go"
  refine g_xv ?_
  tm_at "go"
  refine g_aXv (hI.get me1) (hI.get md1) C2.bv.ex (C2.bv.nf _ (by tm_at "mem")) (by tm_at "fget") ?_
  tm_at "go"
  rw [if_neg (by decide +kernel : ¬ ((!decide (V.str "name" = V.str "name")) = true))]
  tm_at "go"
  refine g_xv ?_
  tm_at "go"
  refine g_aXv (hI.get me3) (hI.get md3) C2.tm.ex (C2.tm.nf _ (by tm_at "mem")) (by tm_at "fget") ?_
  tm_at "go"
  rw [if_neg (by decide +kernel : ¬ ((!decide (V.int 12 = V.int 12)) = true))]
  tm_at "go"
  refine g_xv ?_
  tm_at "go"
  refine g_aXv (hI.get me2) (hI.get md2) C2.ns.ex (C2.ns.nf _ (by tm_at "mem")) (by tm_at "fget") ?_
  tm_at "go"
  refine g_xv ?_
  tm_at "go"
  refine g_aXv (hI.get me2) (hI.get md2) C2.ns.ex (C2.ns.nf _ (by tm_at "mem")) (by tm_at "fget") ?_
  tm_at "go"
  obtain ⟨dd, nd, hdp, hsh, hnl⟩ := hodd.d
  have hpS : ∀ c ∈ ("step" : Str).cps.toList, c < 128 := by decide +kernel
  refine g_repr (.tup (SqT.of (hI.get (.head _))) (.cons (.str _) (.cons (hdp _ hI.ex) .nil))) (.tup (.cons (.str hpS) (.cons hsh .nil))) (by rw [show ("step" : Str).length = 4 from rfl]; omega) (by omega) ?_
  tm_at "go"
  refine g_repr (.tup (SqT.of (hI.get (.head _))) (.cons (.str _) (.cons (hdp _ hI.ex) .nil))) (.tup (.cons (.str hpS) (.cons hsh .nil))) (by rw [show ("step" : Str).length = 4 from rfl]; omega) (by omega) ?_
  tm_at "go"
  rw [if_neg (by simp)]
  replace hI := hI.forget (L' := LL) (by tm_at "sub")
  tm_at "go"
  have hz0 := name_sh n01 n02
  refine g_xval ?_
  refine g_xmk ?_
  tm_at "go"
  refine g_ix_l (SqL.of (hI.b hw)) (atI_of (a := V.str z0) (by decide) rfl) ?_
  refine g_add_sh (Sh.lit (n := 1) (by decide +kernel)) hz0 (by decide) fun hA => ?_
  tm_at "go"
  refine g_bv C2 hI (fun _ => rfl) ?_
  clear hI
  intro f1 H hI b1 nb1
  replace hI := hI.new (o := exv b1 (.ref (He.ga K "BadValue")) (some f1)) nb1
  generalize upd H b1 (exv b1 (.ref (He.ga K "BadValue")) (some f1)) = H at *
  tm_at "go"
  refine g_xval ?_
  refine g_xmk ?_
  tm_at "go"
  refine g_bt C2 hI (fun _ => rfl) ?_
  clear hI
  intro f2 H hI b2 nb2
  replace hI := hI.new (o := exv b2 (.ref (He.ga K "BadText")) (some f2)) nb2
  generalize upd H b2 (exv b2 (.ref (He.ga K "BadText")) (some f2)) = H at *
  tm_at "go"
  refine g_xval ?_
  refine g_xmk ?_
  tm_at "go"
  refine g_ix_l (SqL.of (hI.b hw)) (atI_of (a := V.str z0) (by decide) rfl) ?_
  tm_at "go"
  refine g_ns C2 hI (fun _ => rfl) ?_
  clear hI
  intro f3 H hI b3 nb3
  replace hI := hI.new (o := exv b3 (.ref (He.ga K "NoSuch")) (some f3)) nb3
  generalize upd H b3 (exv b3 (.ref (He.ga K "NoSuch")) (some f3)) = H at *
  tm_at "go"
  refine g_xv ?_
  tm_at "go"
  refine g_aXv (hI.get (by tm_at "mem")) (hI.get (by tm_at "mem")) C2.bv.ex (C2.bv.nf _ (by tm_at "mem")) (by tm_at "fget") ?_
  tm_at "go"
  refine g_ix_l (SqL.of (hI.b hw)) (atI_of (a := V.str z0) (by decide) rfl) ?_
  refine g_add_sh (Sh.lit (n := 1) (by decide +kernel)) hz0 (by decide) fun _ => ?_
  tm_at "go"
  rw [if_neg (by simp)]
  tm_at "go"
  refine g_xv ?_
  tm_at "go"
  refine g_aXv (hI.get (by tm_at "mem")) (hI.get (by tm_at "mem")) C2.bt.ex (C2.bt.nf _ (by tm_at "mem")) (by tm_at "fget") ?_
  tm_at "go"
  refine g_xv ?_
  tm_at "go"
  refine g_aXv (hI.get (by tm_at "mem")) (hI.get (by tm_at "mem")) C2.bt.ex (C2.bt.nf _ (by tm_at "mem")) (by tm_at "fget") ?_
  tm_at "go"
  refine g_xv ?_
  tm_at "go"
  refine g_aXv (hI.get (by tm_at "mem")) (hI.get (by tm_at "mem")) C2.bt.ex (C2.bt.nf _ (by tm_at "mem")) (by tm_at "fget") ?_
  tm_at "go"
  refine g_ne_i (SqT.of (hI.get (.tail _ (.head _)))) (SqT.of (hI.get (.head _))) rfl ?_
  tm_at "go"
  refine g_xv ?_
  tm_at "go"
  refine g_aXv (hI.get (by tm_at "mem")) (hI.get (by tm_at "mem")) C2.ns.ex (C2.ns.nf _ (by tm_at "mem")) (by tm_at "fget") ?_
  tm_at "go"
  refine g_xv ?_
  tm_at "go"
  refine g_aXv (hI.get (by tm_at "mem")) (hI.get (by tm_at "mem")) C2.ns.ex (C2.ns.nf _ (by tm_at "mem")) (by tm_at "fget") ?_
  tm_at "go"
  refine g_xv ?_
  tm_at "go"
  refine g_xval ?_
  refine g_xmk ?_
  tm_at "go"
  refine g_tm C2 hI (fun _ => rfl) ?_
  clear hI
  intro f4 H hI b4 nb4
  replace hI := hI.new (o := exv b4 (.ref (He.ga K "TooMany")) (some f4)) nb4
  generalize upd H b4 (exv b4 (.ref (He.ga K "TooMany")) (some f4)) = H at *
  tm_at "go"
  refine g_aXv (hI.get (by tm_at "mem")) (hI.get (by tm_at "mem")) C2.tm.ex (C2.tm.nf _ (by tm_at "mem")) (by tm_at "fget") ?_
  tm_at "go"
  have hz0p : ∀ c ∈ z0.cps.toList, c < 128 := n02.2
  have hz0l := hz0.1
  refine g_repr (.tup (SqT.of (hI.get (.head _))) (.cons (.str _) (.cons (hdp _ hI.ex) (.cons (.int _) .nil)))) (.tup (.cons (.str hz0p) (.cons hsh (.cons (.int (log2_smallI (by omega) (by omega))) .nil)))) (by omega) (by omega) ?_
  tm_at "go"
  refine g_ix_l (SqL.of (hI.b hw)) (atI_of (a := V.str z0) (by decide) rfl) ?_
  tm_at "go"
  refine g_repr (.tup (SqT.of (hI.get (.head _))) (.cons (.str _) (.cons (hdp _ hI.ex) (.cons (.int _) .nil)))) (.tup (.cons (.str hz0p) (.cons hsh (.cons (.int (log2_smallI (by omega) (by omega))) .nil)))) (by omega) (by omega) ?_
  tm_at "go"
  rw [if_neg (by simp)]
  tm_at "go"
  refine g_xv ?_
  tm_at "go"
  replace hI := hI.forget (L' := LL) (by tm_at "sub")
  refine g_aXv (hI.get me4) (hI.get md4) C2.bt.ex (C2.bt.nf _ (by tm_at "mem")) (by tm_at "fget") ?_
  tm_at "go"
  refine g_xv ?_
  tm_at "go"
  refine g_aXv (hI.get me4) (hI.get md4) C2.bt.ex (C2.bt.nf _ (by tm_at "mem")) (by tm_at "fget") ?_
  tm_at "go"
  refine g_xv ?_
  tm_at "go"
  refine g_aXv (hI.get me4) (hI.get md4) C2.bt.ex (C2.bt.nf _ (by tm_at "mem")) (by tm_at "fget") ?_
  tm_at "go"
  refine g_intB ?_
  tm_at "go"
  have ei : (if decide ((0 : Int) < (s : Int)) = true then (1 : Int) else 0) = if 0 < s then 1 else 0 := by
    by_cases h : 0 < s
    · rw [if_pos h, if_pos (by simpa using h)]
    · rw [if_neg h, if_neg (by simpa using h)]
  rw [ei] at hI
  refine g_eq_i (SqT.of (hI.get (.tail _ (.head _)))) (SqT.of (hI.get (.head _))) rfl ?_
  exact q _
theorem rd_law {K : PySem.W.Frag} (C : StyleC K) (C2 : ErrC K) (vs : List V) (H : Hp) (Q : VK) (E : XK) (h : sp_law K vs H Q E) : t_law K { nx := fun _ H' => Q .non H', rt := Q } (start ["script", "m", "w", "steps", "full", "few", "beyond", "odd", "spot", "rows", "told", "bad", "lost", "over", "wrong", "k", "error", "sorts", "made", "text", "gone"] vs) H := by
  obtain ⟨_, a, ns, B, rfl, hI, ha, hl, q⟩ := h
  show t_law K ⟨_, _, _, _⟩ [some (.ref a), none, none, none, none, none, none, none, none, none, none, none, none, none, none, none, none, none, none, none, none] H
  unfold t_law
  tm_at "go"
  refine' ap_law_begun (K := K) hI ha hl ?_
  clear hI
  intro m B1 M H s1 hI hd
  tm_at "go"
  refine' ap_law_called (K := K) hI hd (by omega) (by decide) (by decide) ?_
  clear hI hd
  intro wp ws H M hI hd hnm hwl
  obtain ⟨w0, w1, w2, w3, rfl⟩ : ∃ a b c d, ws = [a, b, c, d] := by
    have hw4 : ws.length = 4 := by omega
    match ws, hw4 with
    | [a, b, c, d], _ => exact ⟨a, b, c, d, rfl⟩
  obtain ⟨z0, rfl, n01, n02⟩ := hnm w0 (by simp)
  obtain ⟨z1, rfl, n11, n12⟩ := hnm w1 (by simp)
  obtain ⟨z2, rfl, n21, n22⟩ := hnm w2 (by simp)
  obtain ⟨z3, rfl, n31, n32⟩ := hnm w3 (by simp)
  clear hnm hwl
  refine' hI.give (a := wp) (by tm_at "del") ?_
  clear hI
  intro B2 s2 hw hI
  replace hd := hd.same s2
  tm_at "go"
  refine' g_aLc walk_range hI (by tm_at "wiped") (by omega) (fun i acc B3 M' => M' = M ∧ StepsB B3 acc (rsK i)) ⟨rfl, .nil⟩ (fun _ _ _ _ _ _ _ _ _ _ => trivial) ?_ ?_
  · clear hI
    rintro i x acc B3 M' D H' H'' hi s3 hI ⟨rfl, hrs⟩ ⟨rfl, rfl⟩ hz
    tm_at "go"
    refine' g_wiped (by tm_at "wiped") ?_
    tm_at "go"
    refine' hI.give (a := p) (by tm_at "del") ?_
    clear hI
    intro B4 s4 hp hI
    exact lcY (s3.trans s4) hI hz ⟨rfl, by rw [rsK_succ]; exact (hrs.same s4).snoc ⟨p, rfl, hp⟩⟩
  clear hI
  rintro steps B3 M' D H s3 hI ⟨rfl, hrs⟩ _
  replace hrs : StepsB B3 steps (rsK 12) := hrs
  have hsl := hrs.len
  rw [rsK_len] at hsl
  replace hd := hd.same s3
  replace hw := s3 _ _ hw
  tm_at "go"
  refine g_ix_l (SqL.of (hI.b hw)) (atI_of (a := V.str z0) (by decide) rfl) ?_
  tm_at "go"
  obtain ⟨x1, rfl⟩ : ∃ q, q = x := ⟨_, rfl⟩
  refine' ap_Style_good (K := K) hI (hold_l (by tm_at "mem")) hrs ⟨⟨n01, n02⟩, by rw [rsK_len]; decide, by rw [rsK_len]; decide, rsK_good⟩ ?_
  clear hI
  intro B4 H s4 hI hS1
  refine ⟨rfl, ?_⟩
  replace hd := hd.same s4
  replace hw := s4 _ _ hw
  replace hrs := hrs.same s4
  tm_at "go"
  refine g_ix_l (SqL.of (hI.b hw)) (atI_of (a := V.str z1) (by decide) rfl) ?_
  tm_at "go"
  refine g_sl_l hI (by tm_at "sq") ?_
  clear hI
  intro sl H hI
  rw [show (3 : Int) = ((3 : Nat) : Int) from rfl, cutV_take (by omega)] at hI
  have hrs3 : StepsB B4 (steps.take 3) ((rsK 12).take 3) := hrs.take 3
  tm_at "go"
  obtain ⟨x2, rfl⟩ : ∃ q, q = x := ⟨_, rfl⟩
  refine' ap_Style_good (K := K) hI (hold_l (by tm_at "mem")) hrs3 ⟨⟨n11, n12⟩, by rw [List.length_take, rsK_len]; decide, by rw [List.length_take, rsK_len]; decide, fun r hr => rsK_good r (List.mem_of_mem_take hr)⟩ ?_
  clear hI
  intro B5 H s5 hI hS2
  refine ⟨rfl, ?_⟩
  replace hd := hd.same s5
  replace hw := s5 _ _ hw
  replace hrs := hrs.same s5
  replace hS1 := hS1.same s5
  tm_at "go"
  tm_at "draw"
  obtain ⟨r0, rfl⟩ : ∃ q, q = r := ⟨_, rfl⟩
  have hb0 := hr0
  have hb1 := hr1
  clear hr0 hr1
  tm_at "go"
  refine g_ix_l (SqL.of (hI.b hw)) (atI_of (a := V.str z2) (by decide) rfl) ?_
  tm_at "go"
  refine' hI.give (.there .here) ?_
  clear hI
  intro B6 s6 ht hI
  replace hd := hd.same s6
  replace hw := s6 _ _ hw
  replace hrs := hrs.same s6
  replace hS1 := hS1.same s6
  replace hS2 := hS2.same s6
  tm_at "draw"
  refine g_ix_all (OddV K B6) (by tm_at "sq") ?_ hr0 (by tm_at "arith") ?_
  · intro x hx
    simp only [List.mem_cons, List.not_mem_nil, or_false] at hx
    rcases hx with rfl | rfl | rfl | rfl | rfl | rfl | rfl | rfl | rfl
    · exact odd_int (by decide) (by decide) (by decide)
    · exact odd_int (by omega) (by omega) (by omega)
    · exact odd_int (by decide) (by decide) (by decide)
    · exact odd_bl
    · exact odd_non
    · exact odd_str ((Sh.lit (n := 1) (by decide +kernel) : Sh 1 ("1" : Str)).plain (by decide)) (by decide +kernel)
    · exact odd_str n22 (name_len n21)
    · exact odd_tup ht
    · exact odd_int (by decide) (by decide) (by decide)
  clear hr0 hr1
  intro odd hodd
  tm_at "go"
  tm_at "draw"
  obtain ⟨s, rfl⟩ : ∃ i : Nat, r = (i : Int) := ⟨r.toNat, by omega⟩
  have hs4 : s < 4 := by omega
  tm_at "go"
  refine g_ix_l (SqL.of (hI.b hw)) (atI_of (a := V.str z3) (by decide) rfl) ?_
  refine g_add_sh sh_st (name_sh n31 n32) (by decide) fun hh0 => ?_
  tm_at "go"
  replace hI := hI.forget (L' := [_, (D, .lst steps), (pL K, .tbl #[])]) (by tm_at "sub")
  refine' g_aLc walk_range hI (by tm_at "wiped") (by omega) (fun i acc B3 M' => M' = M ∧ acc = prK i) ⟨rfl, rfl⟩ (fun _ _ _ _ _ _ _ _ _ _ => trivial) ?_ ?_
  · clear hI
    rintro i x acc B3 M' D2 H' H'' hi s3 hI ⟨rfl, rfl⟩ ⟨rfl, rfl⟩ hz
    replace hi : i < 3 := hi
    tm_at "go"
    refine' g_wiped (by tm_at "wiped") ?_
    tm_at "go"
    refine' g_strI (k := 18) (by omega) (by decide) (by omega) fun k0 => ?_
    refine g_add_sh (Sh.lit (n := 8) (by decide +kernel)) k0 (by decide) fun _ => ?_
    exact lcY s3 hI hz ⟨rfl, by rw [prK_succ]; rfl⟩
  clear hI
  rintro acc B7 M' D2 H s7 hI ⟨rfl, rfl⟩ _
  replace hd := hd.same s7
  replace hw := s7 _ _ hw
  replace hrs := hrs.same s7
  replace hS1 := hS1.same s7
  replace hS2 := hS2.same s7
  replace hodd := hodd.same s7
  tm_at "go"
  refine g_add_l hI (by tm_at "hp") (by tm_at "hp") (by show 1 + 3 ≤ 1000000; decide) ?_
  clear hI
  intro rp H hI
  replace hI : Is _ _ ((rp, .lst ((rows0 z3).map V.str)) :: _) _ := hI
  replace hI := hI.forget (L' := [(rp, .lst ((rows0 z3).map V.str)), (D, .lst steps), (pL K, .tbl #[])]) (by tm_at "sub")
  obtain ⟨row, erow, hrow, eset⟩ := rows0_at (y := z2) n31 n32 s hs4
  have hrl : ((rows0 z3).map V.str).length = 4 := rfl
  tm_at "go"
  refine g_ix_l (by tm_at "sq") (atI_of (a := V.str row) (by omega) (by rw [Int.toNat_natCast, List.getElem?_map, erow]; rfl)) ?_
  tm_at "go"
  refine g_add_sh hrow sh_bl (by decide) fun hr5 => ?_
  tm_at "go"
  refine g_ix_l (SqL.of (hI.b hw)) (atI_of (a := V.str z2) (by decide) rfl) ?_
  refine g_add_sh hr5 (name_sh n21 n22) (by decide) fun _ => ?_
  tm_at "go"
  rw [Int.toNat_natCast, ← List.map_set, eset] at hI
  have hrb := rowsB_sh (s := s) (name_sh n31 n32) (name_sh n21 n22)
  have hrn : (rowsB z3 z2 s).length = 4 := rfl
  have hjs := len_join ("\n" : Str) fun z hz => (hrb z hz).1
  refine ⟨_, rp, rowsB z3 z2 s, rfl, rfl, .inl (SqL.of (hI.get (by tm_at "mem"))), by rw [hrn, show ("\n" : Str).length = 1 from by decide +kernel]; omega, ?_⟩
  have htold := sh_joinE sh_nl hrb (m := 4) (by rw [hrn]; decide) (by decide)
  have hread : rdV (.str (Txt.join "\n" (rowsB z3 z2 s))) = .error ((s : Int) + 1, 3 + if 0 < s then 1 else 0) := by
    show rdAll (Txt.split (Txt.join "\n" (rowsB z3 z2 s)) "\n") = _
    rw [rows_join (by simp [rowsB]) (rowsB_nl n31 n21), read_bent n31 n21 s hs4]
  generalize Txt.join "\n" (rowsB z3 z2 s) = told at *
  replace hI := (hI.forget (L' := [(D, .lst steps), (pL K, .tbl #[])]) (by tm_at "sub")).perm (List.Perm.swap _ _ _)
  tm_at "go"
  refine g_lamG hI TabI.nil ?_
  clear hI
  intro B8 ps8 H s8 hI hT
  intro f
  replace hw := s8 _ _ hw
  replace hrs := hrs.same s8
  replace hS1 := hS1.same s8
  replace hS2 := hS2.same s8
  replace hodd := hodd.same s8
  replace hd := hd.same s8
  tm_at "go"
  refine g_ix_l (SqL.of (hI.b hw)) (atI_of (a := V.str z0) (by decide) rfl) ?_
  tm_at "go"
  refine g_sl_sh (name_sh n01 n02) (by decide) fun hc => ?_
  refine g_add_sh (Sh.lit (n := 1) (by decide +kernel)) hc (by decide) fun hA => ?_
  tm_at "go"
  refine' ap_Style_name (K := K) hI (thing_str (hA.plain (by decide))) (oddR_good (hold_l (by tm_at "mem")) hrs (by rw [rsK_len]; decide) (by rw [rsK_len]; decide) rsK_good) (bigA _) ?_
  clear hI
  intro d1 H hI
  refine caught_err C2 (.val (.str "name")) hI ?_
  clear hI
  intro e1 H hI
  replace hI := hI.perm (L' := (pL K, .tbl ps8) :: _) (List.perm_middle (l₁ := [_, _])).symm
  tm_at "go"
  refine g_lamG hI hT ?_
  clear hI hT
  intro B9 ps9 H s9 hI hT
  intro f2
  replace hw := s9 _ _ hw
  replace hrs := hrs.same s9
  replace hS1 := hS1.same s9
  replace hS2 := hS2.same s9
  replace hodd := hodd.same s9
  replace hd := hd.same s9
  obtain ⟨ko, hko⟩ := hodd.t
  obtain ⟨⟨dy2, cr2, ys2, k2, _, _⟩, _⟩ := id hS2
  tm_at "go"
  refine' ap_Style_noStep (K := K) hI hS2 hko (show isWhole odd 1 3 = false from hodd.w) ?_
  clear hI
  intro d2 H hI
  refine caught_err C2 (.no (.str "step") odd) hI ?_
  clear hI
  intro e2 H hI
  replace hI := hI.perm (L' := (pL K, .tbl ps9) :: _) (List.perm_middle (l₁ := [_, _])).symm
  tm_at "go"
  refine g_lamG hI hT ?_
  clear hI hT
  intro B10 ps10 H s10 hI hT
  intro f3
  replace hw := s10 _ _ hw
  replace hrs := hrs.same s10
  replace hS1 := hS1.same s10
  replace hS2 := hS2.same s10
  replace hodd := hodd.same s10
  replace hd := hd.same s10
  obtain ⟨st0, hst0⟩ : ∃ x, steps[0]? = some x := ⟨_, List.getElem?_eq_getElem (by omega)⟩
  obtain ⟨rt0, ert0, hrt0⟩ := hrs.get hst0
  obtain ⟨⟨dy1, cr1, ys1, k1, _, _⟩, _⟩ := id hS1
  tm_at "go"
  refine g_ix_l (SqL.of (hI.get (by tm_at "mem"))) (atI_of (a := st0) (by decide) hst0) ?_
  tm_at "go"
  refine ⟨rfl, x1, st0, .non, _, some rt0, z0, rsK 12, B10, _, _, rfl, hI, hS1, .good hrt0 (rsK_good _ (List.mem_of_getElem? ert0)), thing_non, (fun e => by cases e), (fun _ h => absurd rfl h), (fun _ _ _ => ?_), (fun _ _ _ h => absurd (rsK_len 12) h)⟩
  clear hI
  intro d3 H hI
  refine caught_err C2 (.many (.int 12)) hI ?_
  clear hI
  intro e3 H hI
  replace hI := hI.perm (L' := (pL K, .tbl ps10) :: _) (List.perm_middle (l₁ := [_, _])).symm
  tm_at "go"
  refine g_lamG hI hT ?_
  clear hI hT
  intro B11 ps11 H s11 hI hT
  intro f4
  replace hw := s11 _ _ hw
  replace hrs := hrs.same s11
  replace hS1 := hS1.same s11
  replace hS2 := hS2.same s11
  replace hodd := hodd.same s11
  replace hd := hd.same s11
  tm_at "go"
  refine' ap_read_style (K := K) hI (thing_str (htold.plain (by decide))) (fun r w er => ?_) (fun nm rs er => by rw [hread] at er; cases er)
  rw [hread] at er
  cases er
  clear hI
  intro B12 d4 H s12 hI
  replace hw := s12 _ _ hw
  replace hrs := hrs.same s12
  replace hS1 := hS1.same s12
  replace hS2 := hS2.same s12
  replace hodd := hodd.same s12
  replace hd := hd.same s12
  refine caught_err C2 (.text (.int _) (.int _)) hI ?_
  clear hI
  intro e4 H hI
  tm_at "go"
  obtain ⟨LL, me1, md1, me2, md2, me3, md3, me4, md4, hI⟩ : ∃ LL : List (Addr × HO), (e1, exv e1 (.ref (He.ga K "BadValue")) (some d1)) ∈ LL ∧ (d1, HO.xd [("what", .str "name")]) ∈ LL ∧ (e2, exv e2 (.ref (He.ga K "NoSuch")) (some d2)) ∈ LL ∧ (d2, HO.xd [("name", odd), ("what", .str "step")]) ∈ LL ∧ (e3, exv e3 (.ref (He.ga K "TooMany")) (some d3)) ∈ LL ∧ (d3, HO.xd [("most", .int 12)]) ∈ LL ∧ (e4, exv e4 (.ref (He.ga K "BadText")) (some d4)) ∈ LL ∧ (d4, HO.xd [("word", .int (3 + if 0 < s then 1 else 0)), ("row", .int ((s : Int) + 1)), ("what", .str "text")]) ∈ LL ∧ Is B12 M' ((p, .lst [V.ref e1, V.ref e2, V.ref e3, V.ref e4]) :: LL) H := ⟨_, by simp [errO], by simp [errO], by simp [errO], by simp [errO], by simp [errO], by simp [errO], by simp [errO], by simp [errO], hI⟩
  obtain ⟨lp, rfl⟩ : ∃ q, q = p := ⟨_, rfl⟩
  refine' g_aFor (walk_enum (xs := [V.ref e1, V.ref e2, V.ref e3, V.ref e4])) (fun i σ H => ∃ (c15 c16 c17 : Option V), σ = [some (.ref a), some (.ref m), some (.ref wp), some (.ref D), some (.ref x1), some (.ref x2), some (.int (4 + r0)), some odd, some (.int (s : Int)), some (.ref rp), some (.str told), some (.ref e1), some (.ref e2), some (.ref e3), some (.ref e4), c15, c16, c17, none, none, none] ∧ Is B12 M' ((lp, .lst [V.ref e1, V.ref e2, V.ref e3, V.ref e4]) :: LL) H)
    ⟨_, _, _, rfl, hI⟩ (fun _ _ _ _ ⟨_, _, _, _, hI⟩ => SqL.of (hI.get (.head _))) ?_ ?_
  · clear hI
    rintro i v0 σ H H' hi ⟨c15, c16, c17, rfl, hI⟩ ⟨TT, y1, y2, rfl, hTT, rfl, q1, q2⟩
    cases q1
    replace hi : i < 4 := hi
    replace hI := hI.new (o := .tup [V.int (i : Int), y2]) hTT
    generalize upd H TT (.tup [V.int (i : Int), y2]) = H at *
    obtain rfl | rfl | rfl | rfl : i = 0 ∨ i = 1 ∨ i = 2 ∨ i = 3 := by omega
    · cases q2
      tm_at "go"
      refine g_in_t (by tm_at "st") rfl (by decide +kernel) ?_
      tm_at "go"
      refine g_in_t (by tm_at "st") rfl (by decide +kernel) ?_
      tm_at "go"
      refine' ap_law_families (K := K) hI (List.mem_append_right [_, _, _, _, _] me1) (List.mem_append_right [_, _, _, _, _] md1) (.val _) .val ?_
      clear hI
      intro fp H hI
      tm_at "go"
      have es : SqL K H p (([true, false, false, false, true, false, false, false, false, false, false] : List Bool).map V.bl) := SqL.of (hI.get (by tm_at "mem"))
      refine g_ne_bls (SqL.of (hI.get (.head _))) es ?_
      tm_at "go"
      exact ⟨_, _, _, rfl, hI.forget (by tm_at "sub")⟩
    · cases q2
      tm_at "go"
      refine g_in_t (by tm_at "st") rfl (by decide +kernel) ?_
      tm_at "go"
      refine g_in_t (by tm_at "st") rfl (by decide +kernel) ?_
      tm_at "go"
      refine' ap_law_families (K := K) hI (List.mem_append_right [_, _, _, _, _] me2) (List.mem_append_right [_, _, _, _, _] md2) (.no _ _) .no ?_
      clear hI
      intro fp H hI
      tm_at "go"
      have es : SqL K H p (([false, false, true, false, false, true, true, false, false, false, false] : List Bool).map V.bl) := SqL.of (hI.get (by tm_at "mem"))
      refine g_ne_bls (SqL.of (hI.get (.head _))) es ?_
      tm_at "go"
      exact ⟨_, _, _, rfl, hI.forget (by tm_at "sub")⟩
    · cases q2
      tm_at "go"
      refine g_in_t (by tm_at "st") rfl (by decide +kernel) ?_
      tm_at "go"
      refine g_in_t (by tm_at "st") rfl (by decide +kernel) ?_
      tm_at "go"
      refine' ap_law_families (K := K) hI (List.mem_append_right [_, _, _, _, _] me3) (List.mem_append_right [_, _, _, _, _] md3) (.many _) .many ?_
      clear hI
      intro fp H hI
      tm_at "go"
      have es : SqL K H p (([false, false, false, true, false, false, false, true, false, false, false] : List Bool).map V.bl) := SqL.of (hI.get (by tm_at "mem"))
      refine g_ne_bls (SqL.of (hI.get (.head _))) es ?_
      tm_at "go"
      exact ⟨_, _, _, rfl, hI.forget (by tm_at "sub")⟩
    · cases q2
      tm_at "go"
      refine g_in_t (by tm_at "st") rfl (by decide +kernel) ?_
      tm_at "go"
      refine g_in_t (by tm_at "st") rfl (by decide +kernel) ?_
      tm_at "go"
      refine' ap_law_families (K := K) hI (List.mem_append_right [_, _, _, _, _] me4) (List.mem_append_right [_, _, _, _, _] md4) (.text _ _) .text ?_
      clear hI
      intro fp H hI
      tm_at "go"
      have es : SqL K H p (([true, true, false, false, true, false, false, false, false, false, false] : List Bool).map V.bl) := SqL.of (hI.get (by tm_at "mem"))
      refine g_ne_bls (SqL.of (hI.get (.head _))) es ?_
      tm_at "go"
      exact ⟨_, _, _, rfl, hI.forget (by tm_at "sub")⟩
  clear hI
  rintro σ H ⟨c15, c16, c17, rfl, hI⟩
  replace hI := hI.forget (L' := LL) (by tm_at "sub")
  exact law_end C2 hI me1 md1 me2 md2 me3 md3 me4 md4 hw n01 n02 hb0 hb1 hs4 hodd q
end Bz
namespace Bz
open PySem PySem.Spec PyProof.Rows L2
/-! ### the text -/
abbrev FnP (K : PySem.W.Frag) (x q : Str) (st : Stmt) (dvs : List V) (f : Addr) (fd : FuncData) : Prop := FunD K x q (defArgs st) (defBody st) (defScope st) dvs [] f fd
structure Txt (K : PySem.W.Frag) (w : World) (mg : Str → Option Value) : Prop where
  c_MOST_LETTERS : ∃ t, mg "MOST_LETTERS" = some (.int 8 t)
  c_MOST_FIGURES : ∃ t, mg "MOST_FIGURES" = some (.int 7 t)
  c_MOST_HOURS : ∃ t, mg "MOST_HOURS" = some (.int 240 t)
  c_MOST_STEPS : ∃ t, mg "MOST_STEPS" = some (.int 12 t)
  c_LETTERS : ∃ t, mg "LETTERS" = some (.str "abcdefghijklmnopqrstuvwxyz" t)
  c_FIGURES : ∃ t, mg "FIGURES" = some (.str "0123456789" t)
  g_BARRED_WORDS : mg "BARRED_WORDS" = some (.ref (He.ga K "BARRED_WORDS"))
  k_BARRED_WORDS : ∀ H, SqT K H (He.ga K "BARRED_WORDS") [.str "style", .str "job", .str "round", .str "sew", .str "glue", .str "cover", .str "letter", .str "press", .str "hand", .str "haste"]
  g_KINDS : mg "KINDS" = some (.ref (He.ga K "KINDS"))
  k_KINDS : KTab K w (He.ga K "KINDS") [("sew", "hand"), ("glue", "hand"), ("cover", "hand"), ("letter", "hand"), ("press", "press")]
  z_IndexError : mg "IndexError" = none
  z_KeyError : mg "KeyError" = none
  z_LookupError : mg "LookupError" = none
  z_OverflowError : mg "OverflowError" = none
  z_RuntimeError : mg "RuntimeError" = none
  z_ValueError : mg "ValueError" = none
  z_ZeroDivisionError : mg "ZeroDivisionError" = none
  z_all : mg "all" = none
  z_bool : mg "bool" = none
  z_enumerate : mg "enumerate" = none
  z_int : mg "int" = none
  z_isinstance : mg "isinstance" = none
  z_len : mg "len" = none
  z_list : mg "list" = none
  z_range : mg "range" = none
  z_repr : mg "repr" = none
  z_str : mg "str" = none
  z_tuple : mg "tuple" = none
  g_Style : mg "Style" = some (.ref (He.ga K "Style"))
  cl_Style : Cls K (He.ga K "Style")
  mk_Style : Mk K (He.ga K "Style") (He.ma K (He.ga K "Style") "__init__")
  n_Style_called : NoAttr K (He.ga K "Style") "called"
  n_Style_step_rows : NoAttr K (He.ga K "Style") "step_rows"
  g_Line : mg "Line" = some (.ref (He.ga K "Line"))
  cl_Line : Cls K (He.ga K "Line")
  mk_Line : Mk K (He.ga K "Line") (He.ma K (He.ga K "Line") "__init__")
  n_Line_left_words : NoAttr K (He.ga K "Line") "left_words"
  n_Line_on_row : NoAttr K (He.ga K "Line") "on_row"
  n_Line_taken : NoAttr K (He.ga K "Line") "taken"
  g_BadValue : mg "BadValue" = some (.ref (He.ga K "BadValue"))
  e_BadValue : ErrOk K "BadValue" ["what"]
  g_BadText : mg "BadText" = some (.ref (He.ga K "BadText"))
  e_BadText : ErrOk K "BadText" ["what", "row", "word"]
  g_NoSuch : mg "NoSuch" = some (.ref (He.ga K "NoSuch"))
  e_NoSuch : ErrOk K "NoSuch" ["what", "name"]
  g_TooMany : mg "TooMany" = some (.ref (He.ga K "TooMany"))
  e_TooMany : ErrOk K "TooMany" ["most"]
  cf_BadValue_init : ClsFnF K "BadValue" "__init__"
  kit : ErrKit K
  kit2 : ErrKit2 K
  tn : ([(("law" : Str), (none : Option Str))].map fun p => (He.cT K p).2).Nodup
  d_BadValue_init : ∃ fd, FnP K "__init__" "BadValue.__init__" (inClass (topS 2) 0) [] (He.ma K (He.ga K "BadValue") "__init__") fd
  d_BadText_init : ∃ fd, FnP K "__init__" "BadText.__init__" (inClass (topS 3) 0) [] (He.ma K (He.ga K "BadText") "__init__") fd
  d_NoSuch_init : ∃ fd, FnP K "__init__" "NoSuch.__init__" (inClass (topS 4) 0) [] (He.ma K (He.ga K "NoSuch") "__init__") fd
  d_TooMany_init : ∃ fd, FnP K "__init__" "TooMany.__init__" (inClass (topS 5) 0) [] (He.ma K (He.ga K "TooMany") "__init__") fd
  g_is_whole : mg "is_whole" = some (.ref (He.ga K "is_whole"))
  d_is_whole : ∃ fd, FnP K "is_whole" "is_whole" (topS 14) [.int 1000000] (He.ga K "is_whole") fd
  g_is_name : mg "is_name" = some (.ref (He.ga K "is_name"))
  d_is_name : ∃ fd, FnP K "is_name" "is_name" (topS 15) [] (He.ga K "is_name") fd
  g_kind_of : mg "kind_of" = some (.ref (He.ga K "kind_of"))
  d_kind_of : ∃ fd, FnP K "kind_of" "kind_of" (topS 16) [] (He.ga K "kind_of") fd
  g_is_step : mg "is_step" = some (.ref (He.ga K "is_step"))
  d_is_step : ∃ fd, FnP K "is_step" "is_step" (topS 17) [] (He.ga K "is_step") fd
  g_number_of : mg "number_of" = some (.ref (He.ga K "number_of"))
  d_number_of : ∃ fd, FnP K "number_of" "number_of" (topS 18) [] (He.ga K "number_of") fd
  g_words_of : mg "words_of" = some (.ref (He.ga K "words_of"))
  d_words_of : ∃ fd, FnP K "words_of" "words_of" (topS 19) [] (He.ga K "words_of") fd
  g_are_steps : mg "are_steps" = some (.ref (He.ga K "are_steps"))
  d_are_steps : ∃ fd, FnP K "are_steps" "are_steps" (topS 22) [] (He.ga K "are_steps") fd
  d_Style_init : ∃ fd, FnP K "__init__" "Style.__init__" (inClass (topS 23) 0) [] (He.ma K (He.ga K "Style") "__init__") fd
  m_Style_step : Meth K (He.ga K "Style") "step" (He.ma K (He.ga K "Style") "step")
  d_Style_step : ∃ fd, FnP K "step" "Style.step" (inClass (topS 23) 3) [] (He.ma K (He.ga K "Style") "step") fd
  m_Style_put_in : Meth K (He.ga K "Style") "put_in" (He.ma K (He.ga K "Style") "put_in")
  d_Style_put_in : ∃ fd, FnP K "put_in" "Style.put_in" (inClass (topS 23) 6) [.non] (He.ma K (He.ga K "Style") "put_in") fd
  d_Line_init : ∃ fd, FnP K "__init__" "Line.__init__" (inClass (topS 25) 0) [] (He.ma K (He.ga K "Line") "__init__") fd
  m_Line_ahead : Meth K (He.ga K "Line") "ahead" (He.ma K (He.ga K "Line") "ahead")
  d_Line_ahead : ∃ fd, FnP K "ahead" "Line.ahead" (inClass (topS 25) 1) [] (He.ma K (He.ga K "Line") "ahead") fd
  m_Line_take : Meth K (He.ga K "Line") "take" (He.ma K (He.ga K "Line") "take")
  d_Line_take : ∃ fd, FnP K "take" "Line.take" (inClass (topS 25) 2) [] (He.ma K (He.ga K "Line") "take") fd
  m_Line_take_word : Meth K (He.ga K "Line") "take_word" (He.ma K (He.ga K "Line") "take_word")
  d_Line_take_word : ∃ fd, FnP K "take_word" "Line.take_word" (inClass (topS 25) 3) [] (He.ma K (He.ga K "Line") "take_word") fd
  m_Line_take_name : Meth K (He.ga K "Line") "take_name" (He.ma K (He.ga K "Line") "take_name")
  d_Line_take_name : ∃ fd, FnP K "take_name" "Line.take_name" (inClass (topS 25) 4) [] (He.ma K (He.ga K "Line") "take_name") fd
  m_Line_take_number : Meth K (He.ga K "Line") "take_number" (He.ma K (He.ga K "Line") "take_number")
  d_Line_take_number : ∃ fd, FnP K "take_number" "Line.take_number" (inClass (topS 25) 5) [] (He.ma K (He.ga K "Line") "take_number") fd
  m_Line_over : Meth K (He.ga K "Line") "over" (He.ma K (He.ga K "Line") "over")
  d_Line_over : ∃ fd, FnP K "over" "Line.over" (inClass (topS 25) 6) [] (He.ma K (He.ga K "Line") "over") fd
  g_rows_of : mg "rows_of" = some (.ref (He.ga K "rows_of"))
  d_rows_of : ∃ fd, FnP K "rows_of" "rows_of" (topS 26) [] (He.ga K "rows_of") fd
  g_read_style : mg "read_style" = some (.ref (He.ga K "read_style"))
  d_read_style : ∃ fd, FnP K "read_style" "read_style" (topS 27) [] (He.ga K "read_style") fd
  g_law_mixed : mg "_law_mixed" = some (.ref (He.ga K "_law_mixed"))
  d_law_mixed : ∃ fd, FnP K "_law_mixed" "_law_mixed" (topS 29) [] (He.ga K "_law_mixed") fd
  g_law_folded : mg "_law_folded" = some (.ref (He.ga K "_law_folded"))
  d_law_folded : ∃ fd, FnP K "_law_folded" "_law_folded" (topS 30) [] (He.ga K "_law_folded") fd
  g_law_draw : mg "_law_draw" = some (.ref (He.ga K "_law_draw"))
  d_law_draw : ∃ fd, FnP K "_law_draw" "_law_draw" (topS 31) [] (He.ga K "_law_draw") fd
  g_law_begun : mg "_law_begun" = some (.ref (He.ga K "_law_begun"))
  d_law_begun : ∃ fd, FnP K "_law_begun" "_law_begun" (topS 32) [] (He.ga K "_law_begun") fd
  g_law_called : mg "_law_called" = some (.ref (He.ga K "_law_called"))
  d_law_called : ∃ fd, FnP K "_law_called" "_law_called" (topS 33) [] (He.ga K "_law_called") fd
  g_law_caught : mg "_law_caught" = some (.ref (He.ga K "_law_caught"))
  d_law_caught : ∃ fd, FnP K "_law_caught" "_law_caught" (topS 34) [] (He.ga K "_law_caught") fd
  g_law_families : mg "_law_families" = some (.ref (He.ga K "_law_families"))
  d_law_families : ∃ fd, FnP K "_law_families" "_law_families" (topS 35) [] (He.ga K "_law_families") fd
  g_law : mg "law" = some (.ref (He.ga K "law"))
  d_law : ∃ fd, FnP K "law" "law" (topS 36) [] (He.ga K "law") fd
structure TxtT (K : PySem.W.Frag) (w : World) (mg : Str → Option Value) (base : Heap) : Prop extends Txt K w mg where
  t_law : LamX.TabB base mg (He.cT K (("law" : Str), (none : Option Str))).1 (He.cT K (("law" : Str), (none : Option Str))).2
theorem lineC {K : PySem.W.Frag} {w : World} {mg : Str → Option Value} {base : Heap} (T : TxtT K w mg base) : LineC K := ⟨T.cl_Line, T.n_Line_on_row, T.n_Line_left_words, T.n_Line_taken⟩
theorem styleC {K : PySem.W.Frag} {w : World} {mg : Str → Option Value} {base : Heap} (T : TxtT K w mg base) : StyleC K := ⟨T.cl_Style, T.n_Style_called, T.n_Style_step_rows⟩
theorem errC {K : PySem.W.Frag} {w : World} {mg : Str → Option Value} {base : Heap} (T : TxtT K w mg base) : ErrC K := ⟨T.e_BadValue, T.e_BadText, T.e_NoSuch, T.e_TooMany, T.kit⟩
section
variable {P : Program} {w : World} {K : PySem.W.Frag} {mg : Str → Option Value} {base : Heap}
theorem sc_BadValue_init : FnScope ["self", "what"] ["self", "what"] (defScope (inClass (topS 2) 0)) := ⟨rfl, rfl, rfl, by decide +kernel, rfl, by decide +kernel, by decide +kernel⟩
theorem ok_BadValue_init (T : TxtT K w mg base) : ∃ fd, FnP K "__init__" "BadValue.__init__" (inClass (topS 2) 0) [] (He.ma K (He.ga K "BadValue") "__init__") fd ∧ FnG P w K mg base CX0 1 (He.ma K (He.ga K "BadValue") "__init__") fd ["self", "what"] (sp_BadValue_init K) := by
  obtain ⟨fd, F⟩ := T.d_BadValue_init
  refine ⟨fd, F, fnG_of (sp := sp_BadValue_init K) F sc_BadValue_init (fun vs H Q E h => h.1) fun cdv A outer s H vs Q E hr hg h => ?_⟩
  have hu := hu_of hr
  have nd := sc_BadValue_init.nd
  exact ⟨t_BadValue_init K, PSs.nox ((pss_one (ps_osg (pv 0) (pv 1) rfl))), rd_BadValue_init vs H Q E h⟩
theorem xm_BadValue_1 (T : TxtT K w mg base) : XMakeOk P w K mg base CX0 1 "BadValue" 1 (sp_BadValue_init K) (fun vs zs => pick .non [0, 1] (vs ++ zs)) := by
  obtain ⟨fd, F, G⟩ := ok_BadValue_init (P := P) (w := w) (base := base) T
  obtain ⟨g, kb⟩ := kb0 (ps := ["self", "what"]) F 2 [] [0, 1] fun kV doc pm an cdv ct us ws h1 h2 => match us, ws, h1, h2 with | [_, _], [], _, _ => rfl
  exact ⟨T.e_BadValue.ox, ⟨_, fd, _, g, T.e_BadValue.ini, T.e_BadValue.ty, G, kb⟩, T.g_BadValue⟩
theorem cf_BadValue_init_2 (T : TxtT K w mg base) : ClsFnOk P w K mg base CX0 1 "BadValue" "__init__" 2 (sp_BadValue_init K) (fun vs zs => pick .non [0, 1] (vs ++ zs)) := by
  obtain ⟨fd, F, G⟩ := ok_BadValue_init (P := P) (w := w) (base := base) T
  obtain ⟨g, kb⟩ := kb0 (ps := ["self", "what"]) F 2 [] [0, 1] fun kV doc pm an cdv ct us ws h1 h2 => match us, ws, h1, h2 with | [_, _], [], _, _ => rfl
  exact ⟨⟨_, fd, _, g, T.cf_BadValue_init.f, T.cf_BadValue_init.h, T.cf_BadValue_init.k, G, kb⟩, T.cf_BadValue_init.rd, T.cf_BadValue_init.sp_, T.g_BadValue⟩
theorem sc_NoSuch_init : FnScope ["self", "what", "name"] ["self", "what", "name"] (defScope (inClass (topS 4) 0)) := ⟨rfl, rfl, rfl, by decide +kernel, rfl, by decide +kernel, by decide +kernel⟩
theorem ok_NoSuch_init (T : TxtT K w mg base) : ∃ fd, FnP K "__init__" "NoSuch.__init__" (inClass (topS 4) 0) [] (He.ma K (He.ga K "NoSuch") "__init__") fd ∧ FnG P w K mg base CX0 1 (He.ma K (He.ga K "NoSuch") "__init__") fd ["self", "what", "name"] (sp_NoSuch_init K) := by
  obtain ⟨fd, F⟩ := T.d_NoSuch_init
  refine ⟨fd, F, fnG_of (sp := sp_NoSuch_init K) F sc_NoSuch_init (fun vs H Q E h => h.1) fun cdv A outer s H vs Q E hr hg h => ?_⟩
  have hu := hu_of hr
  have nd := sc_NoSuch_init.nd
  exact ⟨t_NoSuch_init K, PSs.nox ((pss_cons (ps_osg (pv 0) (pv 1) rfl)
    (pss_one (ps_osg (pv 0) (pv 2) rfl)))), rd_NoSuch_init vs H Q E h⟩
theorem xm_NoSuch_2 (T : TxtT K w mg base) : XMakeOk P w K mg base CX0 1 "NoSuch" 2 (sp_NoSuch_init K) (fun vs zs => pick .non [0, 1, 2] (vs ++ zs)) := by
  obtain ⟨fd, F, G⟩ := ok_NoSuch_init (P := P) (w := w) (base := base) T
  obtain ⟨g, kb⟩ := kb0 (ps := ["self", "what", "name"]) F 3 [] [0, 1, 2] fun kV doc pm an cdv ct us ws h1 h2 => match us, ws, h1, h2 with | [_, _, _], [], _, _ => rfl
  exact ⟨T.e_NoSuch.ox, ⟨_, fd, _, g, T.e_NoSuch.ini, T.e_NoSuch.ty, G, kb⟩, T.g_NoSuch⟩
theorem sc_TooMany_init : FnScope ["self", "most"] ["self", "most"] (defScope (inClass (topS 5) 0)) := ⟨rfl, rfl, rfl, by decide +kernel, rfl, by decide +kernel, by decide +kernel⟩
theorem ok_TooMany_init (T : TxtT K w mg base) : ∃ fd, FnP K "__init__" "TooMany.__init__" (inClass (topS 5) 0) [] (He.ma K (He.ga K "TooMany") "__init__") fd ∧ FnG P w K mg base CX0 1 (He.ma K (He.ga K "TooMany") "__init__") fd ["self", "most"] (sp_TooMany_init K) := by
  obtain ⟨fd, F⟩ := T.d_TooMany_init
  refine ⟨fd, F, fnG_of (sp := sp_TooMany_init K) F sc_TooMany_init (fun vs H Q E h => h.1) fun cdv A outer s H vs Q E hr hg h => ?_⟩
  have hu := hu_of hr
  have nd := sc_TooMany_init.nd
  exact ⟨t_TooMany_init K, PSs.nox ((pss_one (ps_osg (pv 0) (pv 1) rfl))), rd_TooMany_init vs H Q E h⟩
theorem xm_TooMany_1 (T : TxtT K w mg base) : XMakeOk P w K mg base CX0 1 "TooMany" 1 (sp_TooMany_init K) (fun vs zs => pick .non [0, 1] (vs ++ zs)) := by
  obtain ⟨fd, F, G⟩ := ok_TooMany_init (P := P) (w := w) (base := base) T
  obtain ⟨g, kb⟩ := kb0 (ps := ["self", "most"]) F 2 [] [0, 1] fun kV doc pm an cdv ct us ws h1 h2 => match us, ws, h1, h2 with | [_, _], [], _, _ => rfl
  exact ⟨T.e_TooMany.ox, ⟨_, fd, _, g, T.e_TooMany.ini, T.e_TooMany.ty, G, kb⟩, T.g_TooMany⟩
theorem sc_is_whole : FnScope ["thing", "least", "most"] ["thing", "least", "most"] (defScope (topS 14)) := ⟨rfl, rfl, rfl, by decide +kernel, rfl, by decide +kernel, by decide +kernel⟩
theorem ok_is_whole (T : TxtT K w mg base) : ∃ fd, FnP K "is_whole" "is_whole" (topS 14) [.int 1000000] (He.ga K "is_whole") fd ∧ FnG P w K mg base CX0 1 (He.ga K "is_whole") fd ["thing", "least", "most"] (sp_is_whole K) := by
  obtain ⟨fd, F⟩ := T.d_is_whole
  refine ⟨fd, F, fnG_of (sp := sp_is_whole K) F sc_is_whole (fun vs H Q E h => h.1) fun cdv A outer s H vs Q E hr hg h => ?_⟩
  have hu := hu_of hr
  have nd := sc_is_whole.nd
  exact ⟨t_is_whole K, PSs.nox ((pss_one (ps_ret (pe_and (pe_callB call_isi (by rfl) T.z_isinstance (by decide +kernel) (pa_cons (pv 0) (pa_cons (pe_bltn (v := .ty "int") (by rfl) T.z_int (by decide +kernel) rfl) pa_nil))) (pe_and (pe_not (pe_callB call_isi (by rfl) T.z_isinstance (by decide +kernel) (pa_cons (pv 0) (pa_cons (pe_bltn (v := .ty "bool") (by rfl) T.z_bool (by decide +kernel) rfl) pa_nil)))) (pe_one (pe_chain op_le op_le (pv 1) (pv 0) (pv 2)))))))), rd_is_whole vs H Q E h⟩
theorem cs_is_whole_2_most (T : TxtT K w mg base) : CallOk P w K mg base CX0 1 "is_whole" 2 ["most"] (sp_is_whole K) (fun vs zs => pick .non [0, 1, 2] (vs ++ (zs ++ [.int 1000000]))) := by
  obtain ⟨fd, F, G⟩ := ok_is_whole (P := P) (w := w) (base := base) T
  obtain ⟨g, kb⟩ := kb1 (ps := ["thing", "least", "most"]) F (by simp) 2 ["most"] [0, 1, 2] fun T kV doc pm an cdv ct us ws its h1 h2 h3 => match us, ws, its, h1, h2, h3 with | [_, _], [_], [_], _, _, _ => ⟨_, rfl, rfl⟩
  exact ⟨⟨fd, _, g, G, kb⟩, T.g_is_whole, F.kp⟩
theorem sc_is_name : FnScope ["thing", "sign"] ["thing"] (defScope (topS 15)) := ⟨rfl, rfl, rfl, by decide +kernel, rfl, by decide +kernel, by decide +kernel⟩
theorem ok_is_name (T : TxtT K w mg base) : ∃ fd, FnP K "is_name" "is_name" (topS 15) [] (He.ga K "is_name") fd ∧ FnG P w K mg base CX0 1 (He.ga K "is_name") fd ["thing"] (sp_is_name K) := by
  obtain ⟨fd, F⟩ := T.d_is_name
  refine ⟨fd, F, fnG_of (sp := sp_is_name K) F sc_is_name (fun vs H Q E h => h.1) fun cdv A outer s H vs Q E hr hg h => ?_⟩
  have hu := hu_of hr
  have nd := sc_is_name.nd
  exact ⟨t_is_name K, PSs.nox ((pss_cons (ps_if (PW.pt (pw_or (pt_not (pt_tr (pe_callB call_isi (by rfl) T.z_isinstance (by decide +kernel) (pa_cons (pv 0) (pa_cons (pe_bltn (v := .ty "str") (by rfl) T.z_str (by decide +kernel) rfl) pa_nil))))) (pw_or (pt_not (pt_chain op_le op_le pe_int (pe_callB cl_len (by rfl) T.z_len PySem.boot_len (pa_cons (pv 0) pa_nil)) (pe_gI T.c_MOST_LETTERS))) (pw_or1 (pt_cmpR op_inA (pv 0) (pe_gR T.g_BARRED_WORDS) rfl))))) (pss_one (ps_ret pe_bl)) pss_nil)
    (pss_one (ps_ret (pe_callB (cr_all rfl) (by rfl) T.z_all (by decide +kernel) (pa_cons (pe_lc (own := [("sign", 1)]) rfl nd (pi_any (pv 0)) (blkOk_by (by first | decide +kernel | kernel_rfl)) (fun _ _ _ _ _ => (pg_name (i := 1) nd rfl (Or.inl rfl))) (fun _ _ _ _ _ => pts_nil) (fun _ _ _ _ _ => (pe_cmpR op_inA (pv 1) (pe_gS T.c_LETTERS) rfl))) pa_nil)))))), rd_is_name T.k_BARRED_WORDS vs H Q E h⟩
theorem cs_is_name_1 (T : TxtT K w mg base) : CallOk P w K mg base CX0 1 "is_name" 1 [] (sp_is_name K) (fun vs zs => pick .non [0] (vs ++ zs)) := by
  obtain ⟨fd, F, G⟩ := ok_is_name (P := P) (w := w) (base := base) T
  obtain ⟨g, kb⟩ := kb0 (ps := ["thing"]) F 1 [] [0] fun kV doc pm an cdv ct us ws h1 h2 => match us, ws, h1, h2 with | [_], [], _, _ => rfl
  exact ⟨⟨fd, _, g, G, kb⟩, T.g_is_name, F.kp⟩
theorem sc_kind_of : FnScope ["work"] ["work"] (defScope (topS 16)) := ⟨rfl, rfl, rfl, by decide +kernel, rfl, by decide +kernel, by decide +kernel⟩
theorem ok_kind_of (T : TxtT K w mg base) : ∃ fd, FnP K "kind_of" "kind_of" (topS 16) [] (He.ga K "kind_of") fd ∧ FnG P w K mg base CX0 1 (He.ga K "kind_of") fd ["work"] (sp_kind_of K) := by
  obtain ⟨fd, F⟩ := T.d_kind_of
  refine ⟨fd, F, fnG_of (sp := sp_kind_of K) F sc_kind_of (fun vs H Q E h => h.1) fun cdv A outer s H vs Q E hr hg h => ?_⟩
  have hu := hu_of hr
  have nd := sc_kind_of.nd
  exact ⟨t_kind_of K, PSs.nox ((pss_one (ps_ret (pe_ifExp (pt_tr (pe_callB call_isi (by rfl) T.z_isinstance (by decide +kernel) (pa_cons (pv 0) (pa_cons (pe_bltn (v := .ty "str") (by rfl) T.z_str (by decide +kernel) rfl) pa_nil)))) (pe_kget T.k_KINDS (pe_gR T.g_KINDS) (pv 0) ⟨rfl, rfl, rfl, rfl⟩) pe_non)))), rd_kind_of vs H Q E h⟩
theorem cs_kind_of_1 (T : TxtT K w mg base) : CallOk P w K mg base CX0 1 "kind_of" 1 [] (sp_kind_of K) (fun vs zs => pick .non [0] (vs ++ zs)) := by
  obtain ⟨fd, F, G⟩ := ok_kind_of (P := P) (w := w) (base := base) T
  obtain ⟨g, kb⟩ := kb0 (ps := ["work"]) F 1 [] [0] fun kV doc pm an cdv ct us ws h1 h2 => match us, ws, h1, h2 with | [_], [], _, _ => rfl
  exact ⟨⟨fd, _, g, G, kb⟩, T.g_kind_of, F.kp⟩
theorem sc_number_of : FnScope ["word", "sign"] ["word"] (defScope (topS 18)) := ⟨rfl, rfl, rfl, by decide +kernel, rfl, by decide +kernel, by decide +kernel⟩
theorem ok_number_of (T : TxtT K w mg base) : ∃ fd, FnP K "number_of" "number_of" (topS 18) [] (He.ga K "number_of") fd ∧ FnG P w K mg base CX0 1 (He.ga K "number_of") fd ["word"] (sp_number_of K) := by
  obtain ⟨fd, F⟩ := T.d_number_of
  refine ⟨fd, F, fnG_of (sp := sp_number_of K) F sc_number_of (fun vs H Q E h => h.1) fun cdv A outer s H vs Q E hr hg h => ?_⟩
  have hu := hu_of hr
  have nd := sc_number_of.nd
  exact ⟨t_number_of K, PSs.nox ((pss_cons (ps_if (PW.pt (pw_or (pt_not (pt_tr (pe_callB call_isi (by rfl) T.z_isinstance (by decide +kernel) (pa_cons (pv 0) (pa_cons (pe_bltn (v := .ty "str") (by rfl) T.z_str (by decide +kernel) rfl) pa_nil))))) (pw_or1 (pt_not (pt_chain op_le op_le pe_int (pe_callB cl_len (by rfl) T.z_len PySem.boot_len (pa_cons (pv 0) pa_nil)) (pe_gI T.c_MOST_FIGURES)))))) (pss_one (ps_ret pe_non)) pss_nil)
    (pss_cons (ps_if (PW.pt (pw_or (pt_not (pt_tr (pe_callB (cr_all rfl) (by rfl) T.z_all (by decide +kernel) (pa_cons (pe_lc (own := [("sign", 1)]) rfl nd (pi_any (pv 0)) (blkOk_by (by first | decide +kernel | kernel_rfl)) (fun _ _ _ _ _ => (pg_name (i := 1) nd rfl (Or.inl rfl))) (fun _ _ _ _ _ => pts_nil) (fun _ _ _ _ _ => (pe_cmpR op_inA (pv 1) (pe_gS T.c_FIGURES) rfl))) pa_nil)))) (pw_or1 (PW.pt (pw_and (pt_cmpR (op_eqA hr) (pe_ix ix_seq (pv 0) pe_int (fun _ _ => rfl)) pe_str (nobehind _ (by decide) (by decide))) (pw_and1 (pt_cmpR (op_neA hr) (pv 0) pe_str (nobehind _ (by decide) (by decide))))))))) (pss_one (ps_ret pe_non)) pss_nil)
    (pss_one (ps_ret (pe_callTy cl_intS (by rfl) T.z_int (by decide +kernel) (pa_cons (pv 0) pa_nil))))))), rd_number_of vs H Q E h⟩
theorem cs_number_of_1 (T : TxtT K w mg base) : CallOk P w K mg base CX0 1 "number_of" 1 [] (sp_number_of K) (fun vs zs => pick .non [0] (vs ++ zs)) := by
  obtain ⟨fd, F, G⟩ := ok_number_of (P := P) (w := w) (base := base) T
  obtain ⟨g, kb⟩ := kb0 (ps := ["word"]) F 1 [] [0] fun kV doc pm an cdv ct us ws h1 h2 => match us, ws, h1, h2 with | [_], [], _, _ => rfl
  exact ⟨⟨fd, _, g, G, kb⟩, T.g_number_of, F.kp⟩
theorem sc_words_of : FnScope ["row", "found"] ["row"] (defScope (topS 19)) := ⟨rfl, rfl, rfl, by decide +kernel, rfl, by decide +kernel, by decide +kernel⟩
theorem ok_words_of (T : TxtT K w mg base) : ∃ fd, FnP K "words_of" "words_of" (topS 19) [] (He.ga K "words_of") fd ∧ FnG P w K mg base CX0 1 (He.ga K "words_of") fd ["row"] (sp_words_of K) := by
  obtain ⟨fd, F⟩ := T.d_words_of
  refine ⟨fd, F, fnG_of (sp := sp_words_of K) F sc_words_of (fun vs H Q E h => h.1) fun cdv A outer s H vs Q E hr hg h => ?_⟩
  have hu := hu_of hr
  have nd := sc_words_of.nd
  exact ⟨t_words_of K, PSs.nox ((pss_cons (ps_if (pt_not (pt_tr (pe_callB call_isi (by rfl) T.z_isinstance (by decide +kernel) (pa_cons (pv 0) (pa_cons (pe_bltn (v := .ty "str") (by rfl) T.z_str (by decide +kernel) rfl) pa_nil))))) (pss_one (ps_ret pe_non)) pss_nil)
    (pss_cons (ps_set (i := 1) nd rfl (Or.inl rfl) (pe_split (pv 0) pe_str))
    (pss_one (ps_ret (pe_ifExp (pt_cmpR op_inA pe_str (pv 1) rfl) pe_non (pv 1))))))), rd_words_of vs H Q E h⟩
theorem cs_words_of_1 (T : TxtT K w mg base) : CallOk P w K mg base CX0 1 "words_of" 1 [] (sp_words_of K) (fun vs zs => pick .non [0] (vs ++ zs)) := by
  obtain ⟨fd, F, G⟩ := ok_words_of (P := P) (w := w) (base := base) T
  obtain ⟨g, kb⟩ := kb0 (ps := ["row"]) F 1 [] [0] fun kV doc pm an cdv ct us ws h1 h2 => match us, ws, h1, h2 with | [_], [], _, _ => rfl
  exact ⟨⟨fd, _, g, G, kb⟩, T.g_words_of, F.kp⟩
theorem sc_Line_ahead : FnScope ["self"] ["self"] (defScope (inClass (topS 25) 1)) := ⟨rfl, rfl, rfl, by decide +kernel, rfl, by decide +kernel, by decide +kernel⟩
theorem ok_Line_ahead (T : TxtT K w mg base) : ∃ fd, FnP K "ahead" "Line.ahead" (inClass (topS 25) 1) [] (He.ma K (He.ga K "Line") "ahead") fd ∧ FnG P w K mg base CX0 1 (He.ma K (He.ga K "Line") "ahead") fd ["self"] (sp_Line_ahead K) := by
  obtain ⟨fd, F⟩ := T.d_Line_ahead
  refine ⟨fd, F, fnG_of (sp := sp_Line_ahead K) F sc_Line_ahead (fun vs H Q E h => h.1) fun cdv A outer s H vs Q E hr hg h => ?_⟩
  have hu := hu_of hr
  have nd := sc_Line_ahead.nd
  exact ⟨t_Line_ahead K, PSs.nox ((pss_one (ps_ret (pe_ifExp (pt_cmpR (op_neA hr) (pe_fld (pv 0) rfl) (pe_lst pa_nil) (nobehind _ (by decide) (by decide))) (pe_ix ix_seq (pe_fld (pv 0) rfl) pe_int (fun _ _ => rfl)) pe_str)))), rd_Line_ahead (lineC T) vs H Q E h⟩
theorem cs_Line_ahead_0 (T : TxtT K w mg base) : MethOk P w K mg base CX0 1 (He.ga K "Line") "ahead" 0 [] (sp_Line_ahead K) (fun vs zs => pick .non [0] (vs ++ zs)) := by
  obtain ⟨fd, F, G⟩ := ok_Line_ahead (P := P) (w := w) (base := base) T
  obtain ⟨g, kb⟩ := kb0 (ps := ["self"]) F 1 [] [0] fun kV doc pm an cdv ct us ws h1 h2 => match us, ws, h1, h2 with | [_], [], _, _ => rfl
  exact ⟨⟨_, fd, _, g, T.m_Line_ahead, G, kb⟩, T.cl_Line⟩
theorem sc_law_mixed : FnScope ["cell", "k", "turned"] ["cell", "k"] (defScope (topS 29)) := ⟨rfl, rfl, rfl, by decide +kernel, rfl, by decide +kernel, by decide +kernel⟩
theorem ok_law_mixed (T : TxtT K w mg base) : ∃ fd, FnP K "_law_mixed" "_law_mixed" (topS 29) [] (He.ga K "_law_mixed") fd ∧ FnG P w K mg base CX0 1 (He.ga K "_law_mixed") fd ["cell", "k"] (sp_law_mixed K) := by
  obtain ⟨fd, F⟩ := T.d_law_mixed
  refine ⟨fd, F, fnG_of (sp := sp_law_mixed K) F sc_law_mixed (fun vs H Q E h => h.1) fun cdv A outer s H vs Q E hr hg h => ?_⟩
  have hu := hu_of hr
  have nd := sc_law_mixed.nd
  exact ⟨t_law_mixed K, PSs.nox ((pss_cons (ps_set (i := 2) nd rfl (Or.inl rfl) (pe_op op_addA (pe_op op_addA (pe_op op_mod (pe_op op_mulA (pe_op op_mulA (pv 0) (pe_op op_addA pe_int (pe_op op_mulA pe_int (pv 1)))) pe_int) pe_int) (pe_op op_mulA (pe_op op_mulA pe_int (pv 1)) (pv 1))) (pe_op op_mulA pe_int (pv 1))))
    (pss_one (ps_ret (pe_op op_fdiv (pe_op op_mod (pe_op op_mulA (pv 2) pe_int) pe_int) pe_int))))), rd_law_mixed vs H Q E h⟩
theorem cs_law_mixed_2 (T : TxtT K w mg base) : CallOk P w K mg base CX0 1 "_law_mixed" 2 [] (sp_law_mixed K) (fun vs zs => pick .non [0, 1] (vs ++ zs)) := by
  obtain ⟨fd, F, G⟩ := ok_law_mixed (P := P) (w := w) (base := base) T
  obtain ⟨g, kb⟩ := kb0 (ps := ["cell", "k"]) F 2 [] [0, 1] fun kV doc pm an cdv ct us ws h1 h2 => match us, ws, h1, h2 with | [_, _], [], _, _ => rfl
  exact ⟨⟨fd, _, g, G, kb⟩, T.g_law_mixed, F.kp⟩
theorem sc_law_folded : FnScope ["script", "found", "k", "cell"] ["script"] (defScope (topS 30)) := ⟨rfl, rfl, rfl, by decide +kernel, rfl, by decide +kernel, by decide +kernel⟩
theorem ok_law_folded (T : TxtT K w mg base) : ∃ fd, FnP K "_law_folded" "_law_folded" (topS 30) [] (He.ga K "_law_folded") fd ∧ FnG P w K mg base CX0 1 (He.ga K "_law_folded") fd ["script"] (sp_law_folded K) := by
  obtain ⟨fd, F⟩ := T.d_law_folded
  refine ⟨fd, F, fnG_of (sp := sp_law_folded K) F sc_law_folded (fun vs H Q E h => h.1) fun cdv A outer s H vs Q E hr hg h => ?_⟩
  have hu := hu_of hr
  have nd := sc_law_folded.nd
  exact ⟨t_law_folded K, PSs.nox ((pss_cons (ps_setLc (i := 1) (own := [("k", 2)]) rfl nd rfl rfl (sw_true rfl rfl rfl (by decide +kernel)) (pi_range1 (by rfl) T.z_range (pa_cons pe_int pa_nil)) (blkOk_by (by first | decide +kernel | kernel_rfl)) (fun _ _ _ _ _ => (pg_name (i := 2) nd rfl (Or.inl rfl))) (fun _ _ _ _ _ => pts_nil) (fun _ _ _ _ _ => (pe_op op_addA pe_int (pv 2))))
    (pss_cons (ps_for PassesOwn.never rfl (pi_enumA (by rfl) T.z_enumerate (pa_cons (pv 0) pa_nil)) (pg_tup rfl (pgs_cons (pg_name (i := 2) nd rfl (Or.inl rfl)) (pgs_cons (pg_name (i := 3) nd rfl (Or.inl rfl)) pgs_nil)))
    (pss_one (ps_asg (pe_op op_mod (pe_op op_addA (pe_op op_mulA (pe_ix ix_seq (pv 1) (pe_op op_mod (pv 2) pe_int) (fun _ _ => rfl)) pe_int) (pv 3)) pe_int) (pg_sub (pv 1) (pe_op op_mod (pv 2) pe_int) set_list))))
    (pss_cons (ps_for PassesOwn.never rfl (pi_range2 (by rfl) T.z_range (pa_cons pe_int (pa_cons pe_int pa_nil))) (pg_name (i := 2) nd rfl (Or.inl rfl))
    (pss_one (ps_asg (pe_op op_mod (pe_op op_addA (pe_ix ix_seq (pv 1) (pv 2) (fun _ _ => rfl)) (pe_op op_mulA (pe_ix ix_seq (pv 1) (pe_op op_sub (pv 2) pe_int) (fun _ _ => rfl)) pe_int)) pe_int) (pg_sub (pv 1) (pv 2) set_list))))
    (pss_one (ps_ret (pv 1))))))), rd_law_folded vs H Q E h⟩
theorem cs_law_folded_1 (T : TxtT K w mg base) : CallOk P w K mg base CX0 1 "_law_folded" 1 [] (sp_law_folded K) (fun vs zs => pick .non [0] (vs ++ zs)) := by
  obtain ⟨fd, F, G⟩ := ok_law_folded (P := P) (w := w) (base := base) T
  obtain ⟨g, kb⟩ := kb0 (ps := ["script"]) F 1 [] [0] fun kV doc pm an cdv ct us ws h1 h2 => match us, ws, h1, h2 with | [_], [], _, _ => rfl
  exact ⟨⟨fd, _, g, G, kb⟩, T.g_law_folded, F.kp⟩
theorem sc_law_caught : FnScope ["deed", "error", "e"] ["deed"] (defScope (topS 34)) := ⟨rfl, rfl, rfl, by decide +kernel, rfl, by decide +kernel, by decide +kernel⟩
theorem told_binds (T : TxtT K w mg base) : L2.Binds K (T.d_law_caught).choose ["deed"] [] := L2.FunD.bindsN (ps := ["deed"]) (T.d_law_caught).choose_spec (fun _ _ _ _ _ _ us hl => match us, hl with | [_], _ => rfl)
theorem gives0_law_caught {A : Around} {stack : List Env} {k : Nat} {q : Str} (T : TxtT K w mg base) (hg : A.guards = some []) (hk : 0 ≤ k) (cdg : Value) (f c' : Addr) (s : Shared) (H : Hp) (Q : VK) (tl : XK → Hp → VK → Prop) (hr : Room k (A.deeper (envOfC "_law_caught" (defScope (topS 34)) s.heap.objs.size (He.ga K "_law_caught") cdg)))
    (act : ∀ (W : WX) (pn : List (Addr × Obj)) (xe : Value → Shared → Prop) (p1 p2 : Pos), Takes ((cxOf CX0 P w K mg base ["deed", "error", "e"] "_law_caught" (defScope (topS 34)) (He.ga K "_law_caught") cdg A stack s H E0).tr pn xe) W → PE ((cxOf CX0 P w K mg base ["deed", "error", "e"] "_law_caught" (defScope (topS 34)) (He.ga K "_law_caught") cdg A stack s H E0).tr pn xe) (.Call (.Name "deed" p1) [] [] p2) (tAct f c' q tl W)) (hc : H c' = some (LamX.CodeO c' q)) (hTT : TTold K tl H Q) :
    ∃ t, PSs (cxOf CX0 P w K mg base ["deed", "error", "e"] "_law_caught" (defScope (topS 34)) (He.ga K "_law_caught") cdg A stack s H E0) (defBody (topS 34)) t ∧ t { nx := fun _ H' => Q .non H', rt := Q } (L2.start ["deed", "error", "e"] [.ref f]) H := by
  have nd := sc_law_caught.nd
  have hg : (A.deeper (envOfC "_law_caught" (defScope (topS 34)) s.heap.objs.size (He.ga K "_law_caught") cdg)).guards = some [] := guards_deeper hg
  exact ⟨t_law_caught K (tAct f c' q tl), (pss_cons (ps_set (i := 1) nd rfl (Or.inl rfl) pe_non)
    (pss_cons (ps_try_as3 (i := 2) rfl rfl rfl nd rfl rfl ⟨by rfl, by decide, .inl T.g_BadValue⟩ ⟨by rfl, by decide, .inl T.g_NoSuch⟩ ⟨by rfl, by decide, .inl T.g_TooMany⟩ (fun W pn xe tk _ => (pss_one (ps_expr (act W pn xe _ _ tk)))) (fun a oe cls d pn _ _ => (pss_one (ps_set (i := 1) nd rfl (Or.inl rfl) (pv 2)))))
    (pss_one (ps_ret (pv 1))))), rd_law_caught hc hTT⟩
theorem gives_law_caught {X : Cx} {k : Nat} {q : Str} (T : TxtT X.K X.w X.mg X.base) (hg : X.A.guards = some []) (hk : 0 ≤ k) (cdg : Value) : GivesG X k ["deed", "error", "e"] "_law_caught" (defScope (topS 34)) (He.ga X.K "_law_caught") cdg (defBody (topS 34)) "deed" q (TTold X.K) :=
  fun f c' s H Q tl hr act hc hTT => gives0_law_caught T hg hk cdg f c' s H Q tl hr act hc hTT
theorem sc_law_families : FnScope ["error", "found"] ["error"] (defScope (topS 35)) := ⟨rfl, rfl, rfl, by decide +kernel, rfl, by decide +kernel, by decide +kernel⟩
theorem ok_law_families (T : TxtT K w mg base) : ∃ fd, FnP K "_law_families" "_law_families" (topS 35) [] (He.ga K "_law_families") fd ∧ FnG P w K mg base CX0 1 (He.ga K "_law_families") fd ["error"] (sp_law_families K) := by
  obtain ⟨fd, F⟩ := T.d_law_families
  refine ⟨fd, F, fnG_of (sp := sp_law_families K) F sc_law_families (fun vs H Q E h => h.1) fun cdv A outer s H vs Q E hr hg h => ?_⟩
  have hu := hu_of hr
  have nd := sc_law_families.nd
  exact ⟨t_law_families K, PSs.nox ((pss_cons (ps_set (i := 1) nd rfl (Or.inl rfl) (pe_lst (pa_cons (pe_callB call_isX (by rfl) T.z_isinstance (by decide +kernel) (pa_cons (pv 0) (pa_cons (pe_gR T.g_BadValue) pa_nil))) (pa_cons (pe_callB call_isX (by rfl) T.z_isinstance (by decide +kernel) (pa_cons (pv 0) (pa_cons (pe_gR T.g_BadText) pa_nil))) (pa_cons (pe_callB call_isX (by rfl) T.z_isinstance (by decide +kernel) (pa_cons (pv 0) (pa_cons (pe_gR T.g_NoSuch) pa_nil))) pa_nil)))))
    (pss_cons (ps_set (i := 1) nd rfl (Or.inl rfl) (pe_op op_addA (pv 1) (pe_lst (pa_cons (pe_callB call_isX (by rfl) T.z_isinstance (by decide +kernel) (pa_cons (pv 0) (pa_cons (pe_gR T.g_TooMany) pa_nil))) (pa_cons (pe_callB call_isX (by rfl) T.z_isinstance (by decide +kernel) (pa_cons (pv 0) (pa_cons (pe_bltn (v := .ty "ValueError") (by rfl) T.z_ValueError (by decide +kernel) rfl) pa_nil))) (pa_cons (pe_callB call_isX (by rfl) T.z_isinstance (by decide +kernel) (pa_cons (pv 0) (pa_cons (pe_bltn (v := .ty "KeyError") (by rfl) T.z_KeyError (by decide +kernel) rfl) pa_nil))) pa_nil))))))
    (pss_cons (ps_set (i := 1) nd rfl (Or.inl rfl) (pe_op op_addA (pv 1) (pe_lst (pa_cons (pe_callB call_isX (by rfl) T.z_isinstance (by decide +kernel) (pa_cons (pv 0) (pa_cons (pe_bltn (v := .ty "LookupError") (by rfl) T.z_LookupError (by decide +kernel) rfl) pa_nil))) (pa_cons (pe_callB call_isX (by rfl) T.z_isinstance (by decide +kernel) (pa_cons (pv 0) (pa_cons (pe_bltn (v := .ty "OverflowError") (by rfl) T.z_OverflowError (by decide +kernel) rfl) pa_nil))) (pa_cons (pe_callB call_isX (by rfl) T.z_isinstance (by decide +kernel) (pa_cons (pv 0) (pa_cons (pe_bltn (v := .ty "IndexError") (by rfl) T.z_IndexError (by decide +kernel) rfl) pa_nil))) pa_nil))))))
    (pss_one (ps_ret (pe_op op_addA (pv 1) (pe_lst (pa_cons (pe_callB call_isX (by rfl) T.z_isinstance (by decide +kernel) (pa_cons (pv 0) (pa_cons (pe_bltn (v := .ty "RuntimeError") (by rfl) T.z_RuntimeError (by decide +kernel) rfl) pa_nil))) (pa_cons (pe_callB call_isX (by rfl) T.z_isinstance (by decide +kernel) (pa_cons (pv 0) (pa_cons (pe_bltn (v := .ty "ZeroDivisionError") (by rfl) T.z_ZeroDivisionError (by decide +kernel) rfl) pa_nil))) pa_nil)))))))))), rd_law_families (errC T) T.kit2 vs H Q E h⟩
theorem cs_law_families_1 (T : TxtT K w mg base) : CallOk P w K mg base CX0 1 "_law_families" 1 [] (sp_law_families K) (fun vs zs => pick .non [0] (vs ++ zs)) := by
  obtain ⟨fd, F, G⟩ := ok_law_families (P := P) (w := w) (base := base) T
  obtain ⟨g, kb⟩ := kb0 (ps := ["error"]) F 1 [] [0] fun kV doc pm an cdv ct us ws h1 h2 => match us, ws, h1, h2 with | [_], [], _, _ => rfl
  exact ⟨⟨fd, _, g, G, kb⟩, T.g_law_families, F.kp⟩
theorem sc_BadText_init : FnScope ["self", "row", "word"] ["self", "row", "word"] (defScope (inClass (topS 3) 0)) := ⟨rfl, rfl, rfl, by decide +kernel, rfl, by decide +kernel, by decide +kernel⟩
theorem ok_BadText_init (T : TxtT K w mg base) : ∃ fd, FnP K "__init__" "BadText.__init__" (inClass (topS 3) 0) [] (He.ma K (He.ga K "BadText") "__init__") fd ∧ FnG P w K mg base CX0 2 (He.ma K (He.ga K "BadText") "__init__") fd ["self", "row", "word"] (sp_BadText_init K) := by
  obtain ⟨fd, F⟩ := T.d_BadText_init
  refine ⟨fd, F, fnG_of (sp := sp_BadText_init K) F sc_BadText_init (fun vs H Q E h => h.1) fun cdv A outer s H vs Q E hr hg h => ?_⟩
  have hu := hu_of hr
  have nd := sc_BadText_init.nd
  exact ⟨t_BadText_init K, PSs.nox ((pss_cons (ps_expr (pe_clsfn (cf_BadValue_init_2 T) hr (by decide) hg pass0 rfl (pa_cons (pv 0) (pa_cons pe_str pa_nil))))
    (pss_cons (ps_osg (pv 0) (pv 1) rfl)
    (pss_one (ps_osg (pv 0) (pv 2) rfl))))), rd_BadText_init vs H Q E h⟩
theorem xm_BadText_2 (T : TxtT K w mg base) : XMakeOk P w K mg base CX0 2 "BadText" 2 (sp_BadText_init K) (fun vs zs => pick .non [0, 1, 2] (vs ++ zs)) := by
  obtain ⟨fd, F, G⟩ := ok_BadText_init (P := P) (w := w) (base := base) T
  obtain ⟨g, kb⟩ := kb0 (ps := ["self", "row", "word"]) F 3 [] [0, 1, 2] fun kV doc pm an cdv ct us ws h1 h2 => match us, ws, h1, h2 with | [_, _, _], [], _, _ => rfl
  exact ⟨T.e_BadText.ox, ⟨_, fd, _, g, T.e_BadText.ini, T.e_BadText.ty, G, kb⟩, T.g_BadText⟩
theorem sc_is_step : FnScope ["thing"] ["thing"] (defScope (topS 17)) := ⟨rfl, rfl, rfl, by decide +kernel, rfl, by decide +kernel, by decide +kernel⟩
theorem ok_is_step (T : TxtT K w mg base) : ∃ fd, FnP K "is_step" "is_step" (topS 17) [] (He.ga K "is_step") fd ∧ FnG P w K mg base CX0 2 (He.ga K "is_step") fd ["thing"] (sp_is_step K) := by
  obtain ⟨fd, F⟩ := T.d_is_step
  refine ⟨fd, F, fnG_of (sp := sp_is_step K) F sc_is_step (fun vs H Q E h => h.1) fun cdv A outer s H vs Q E hr hg h => ?_⟩
  have hu := hu_of hr
  have nd := sc_is_step.nd
  exact ⟨t_is_step K, PSs.nox ((pss_cons (ps_if (PW.pt (pw_or (pt_not (pt_tr (pe_callB call_isi (by rfl) T.z_isinstance (by decide +kernel) (pa_cons (pv 0) (pa_cons (pe_bltn (v := .ty "tuple") (by rfl) T.z_tuple (by decide +kernel) rfl) pa_nil))))) (pw_or (pt_cmpR (op_neA hr) (pe_callB cl_len (by rfl) T.z_len PySem.boot_len (pa_cons (pv 0) pa_nil)) pe_int (nobehind _ (by decide) (by decide))) (pw_or1 (pt_cmpR op_isNo (pe_ca (cs_kind_of_1 T) hr (by decide) hg rfl pass0 (pa_cons (pe_ix ix_seq (pv 0) pe_int (fun _ _ => rfl)) pa_nil) pk_nil) pe_non (nobehind _ (by decide) (by decide))))))) (pss_one (ps_ret pe_bl)) pss_nil)
    (pss_one (ps_ret (pe_and (pe_ca (cs_is_whole_2_most T) hr (by decide) hg rfl pass0 (pa_cons (pe_ix ix_seq (pv 0) pe_int (fun _ _ => rfl)) (pa_cons pe_int pa_nil)) (pk_cons (pe_gI T.c_MOST_HOURS) pk_nil)) (pe_one (pe_ca (cs_is_whole_2_most T) hr (by decide) hg rfl pass0 (pa_cons (pe_ix ix_seq (pv 0) pe_int (fun _ _ => rfl)) (pa_cons pe_int pa_nil)) (pk_cons (pe_gI T.c_MOST_HOURS) pk_nil)))))))), rd_is_step vs H Q E h⟩
theorem cs_is_step_1 (T : TxtT K w mg base) : CallOk P w K mg base CX0 2 "is_step" 1 [] (sp_is_step K) (fun vs zs => pick .non [0] (vs ++ zs)) := by
  obtain ⟨fd, F, G⟩ := ok_is_step (P := P) (w := w) (base := base) T
  obtain ⟨g, kb⟩ := kb0 (ps := ["thing"]) F 1 [] [0] fun kV doc pm an cdv ct us ws h1 h2 => match us, ws, h1, h2 with | [_], [], _, _ => rfl
  exact ⟨⟨fd, _, g, G, kb⟩, T.g_is_step, F.kp⟩
theorem sc_law_draw : FnScope ["m", "many", "k", "spot", "cell"] ["m", "many"] (defScope (topS 31)) := ⟨rfl, rfl, rfl, by decide +kernel, rfl, by decide +kernel, by decide +kernel⟩
theorem ok_law_draw (T : TxtT K w mg base) : ∃ fd, FnP K "_law_draw" "_law_draw" (topS 31) [] (He.ga K "_law_draw") fd ∧ FnG P w K mg base CX0 2 (He.ga K "_law_draw") fd ["m", "many"] (sp_law_draw K) := by
  obtain ⟨fd, F⟩ := T.d_law_draw
  refine ⟨fd, F, fnG_of (sp := sp_law_draw K) F sc_law_draw (fun vs H Q E h => h.1) fun cdv A outer s H vs Q E hr hg h => ?_⟩
  have hu := hu_of hr
  have nd := sc_law_draw.nd
  exact ⟨t_law_draw K, PSs.nox ((pss_cons (ps_set (i := 2) nd rfl (Or.inl rfl) (pe_dget hu (pv 0) pe_str (fun _ _ => rfl)))
    (pss_cons (ps_dput hu (pv 0) pe_str (pe_op op_addA (pv 2) pe_int) rfl)
    (pss_cons (ps_if (pt_cmpR (op_neA hr) (pe_dget hu (pv 0) pe_str (fun _ _ => rfl)) (pe_lst pa_nil) (nobehind _ (by decide) (by decide))) (pss_cons (ps_set (i := 3) nd rfl (Or.inl rfl) (pe_op op_mod (pv 2) (pe_callB cl_len (by rfl) T.z_len PySem.boot_len (pa_cons (pe_dget hu (pv 0) pe_str (fun _ _ => rfl)) pa_nil))))
    (pss_cons (ps_set (i := 4) nd rfl (Or.inl rfl) (pe_ix ix_seq (pe_dget hu (pv 0) pe_str (fun _ _ => rfl)) (pv 3) (fun _ _ => rfl)))
    (pss_one (ps_if (pt_cmpR op_gt (pv 4) pe_int (nobehind _ (by decide) (by decide))) (pss_cons (ps_asg (pe_op op_fdiv (pv 4) (pv 1)) (pg_sub (pe_dget hu (pv 0) pe_str (fun _ _ => rfl)) (pv 3) set_list))
    (pss_one (ps_ret (pe_op op_mod (pv 4) (pv 1))))) pss_nil)))) pss_nil)
    (pss_one (ps_ret (pe_op op_mod (pe_ca (cs_law_mixed_2 T) hr (by decide) hg rfl pass0 (pa_cons (pe_ca (cs_law_mixed_2 T) hr (by decide) hg rfl pass0 (pa_cons (pe_op op_addA (pe_ix ix_seq (pe_dget hu (pv 0) pe_str (fun _ _ => rfl)) (pe_op op_mod (pv 2) pe_int) (fun _ _ => rfl)) (pe_op op_mulA pe_int (pe_op op_fdiv (pv 2) pe_int))) (pa_cons (pv 2) pa_nil)) pk_nil) (pa_cons (pe_op op_addA (pv 2) pe_int) pa_nil)) pk_nil) (pv 1)))))))), rd_law_draw vs H Q E h⟩
theorem cs_law_draw_2 (T : TxtT K w mg base) : CallOk P w K mg base CX0 2 "_law_draw" 2 [] (sp_law_draw K) (fun vs zs => pick .non [0, 1] (vs ++ zs)) := by
  obtain ⟨fd, F, G⟩ := ok_law_draw (P := P) (w := w) (base := base) T
  obtain ⟨g, kb⟩ := kb0 (ps := ["m", "many"]) F 2 [] [0, 1] fun kV doc pm an cdv ct us ws h1 h2 => match us, ws, h1, h2 with | [_, _], [], _, _ => rfl
  exact ⟨⟨fd, _, g, G, kb⟩, T.g_law_draw, F.kp⟩
theorem sc_law_begun : FnScope ["script", "m", "cell"] ["script"] (defScope (topS 32)) := ⟨rfl, rfl, rfl, by decide +kernel, rfl, by decide +kernel, by decide +kernel⟩
theorem ok_law_begun (T : TxtT K w mg base) : ∃ fd, FnP K "_law_begun" "_law_begun" (topS 32) [] (He.ga K "_law_begun") fd ∧ FnG P w K mg base CX0 2 (He.ga K "_law_begun") fd ["script"] (sp_law_begun K) := by
  obtain ⟨fd, F⟩ := T.d_law_begun
  refine ⟨fd, F, fnG_of (sp := sp_law_begun K) F sc_law_begun (fun vs H Q E h => h.1) fun cdv A outer s H vs Q E hr hg h => ?_⟩
  have hu := hu_of hr
  have nd := sc_law_begun.nd
  exact ⟨t_law_begun K, PSs.nox ((pss_cons (ps_set (i := 1) nd rfl (Or.inl rfl) (pe_disp (pps_cons pe_str (pe_ca (cs_law_folded_1 T) hr (by decide) hg rfl pass0 (pa_cons (pv 0) pa_nil) pk_nil) (pps_cons pe_str (pe_lst pa_nil) (pps_cons pe_str pe_int pps_nil))) (by rfl) (by rfl) (fun z => by cases z) (by decide)))
    (pss_cons (ps_dput hu (pv 1) pe_str (pe_lc (own := [("cell", 2)]) rfl nd (pi_any (pv 0)) (blkOk_by (by first | decide +kernel | kernel_rfl)) (fun _ _ _ _ _ => (pg_name (i := 2) nd rfl (Or.inl rfl))) (fun _ _ _ _ _ => pts_nil) (fun _ _ _ _ _ => (pe_ifExp (pt_cmpR op_ge (pv 2) (pe_op op_pow pe_int pe_int) (nobehind _ (by decide) (by decide))) (pv 2) pe_int))) rfl)
    (pss_one (ps_ret (pv 1)))))), rd_law_begun vs H Q E h⟩
theorem cs_law_begun_1 (T : TxtT K w mg base) : CallOk P w K mg base CX0 2 "_law_begun" 1 [] (sp_law_begun K) (fun vs zs => pick .non [0] (vs ++ zs)) := by
  obtain ⟨fd, F, G⟩ := ok_law_begun (P := P) (w := w) (base := base) T
  obtain ⟨g, kb⟩ := kb0 (ps := ["script"]) F 1 [] [0] fun kV doc pm an cdv ct us ws h1 h2 => match us, ws, h1, h2 with | [_], [], _, _ => rfl
  exact ⟨⟨fd, _, g, G, kb⟩, T.g_law_begun, F.kp⟩
theorem sc_are_steps : FnScope ["thing", "step"] ["thing"] (defScope (topS 22)) := ⟨rfl, rfl, rfl, by decide +kernel, rfl, by decide +kernel, by decide +kernel⟩
theorem ok_are_steps (T : TxtT K w mg base) : ∃ fd, FnP K "are_steps" "are_steps" (topS 22) [] (He.ga K "are_steps") fd ∧ FnG P w K mg base CX0 3 (He.ga K "are_steps") fd ["thing"] (sp_are_steps K) := by
  obtain ⟨fd, F⟩ := T.d_are_steps
  refine ⟨fd, F, fnG_of (sp := sp_are_steps K) F sc_are_steps (fun vs H Q E h => h.1) fun cdv A outer s H vs Q E hr hg h => ?_⟩
  have hu := hu_of hr
  have nd := sc_are_steps.nd
  exact ⟨t_are_steps K, PSs.nox ((pss_cons (ps_if (PW.pt (pw_or (pt_not (pt_tr (pe_callB call_isiT (by rfl) T.z_isinstance (by decide +kernel) (pa_cons (pv 0) (pa_cons (pe_tup (pa_cons (pe_bltn (v := .ty "list") (by rfl) T.z_list (by decide +kernel) rfl) (pa_cons (pe_bltn (v := .ty "tuple") (by rfl) T.z_tuple (by decide +kernel) rfl) pa_nil))) pa_nil))))) (pw_or1 (pt_not (pt_chain op_le op_le pe_int (pe_callB cl_len (by rfl) T.z_len PySem.boot_len (pa_cons (pv 0) pa_nil)) (pe_gI T.c_MOST_STEPS)))))) (pss_one (ps_ret pe_bl)) pss_nil)
    (pss_one (ps_ret (pe_callB (cr_all rfl) (by rfl) T.z_all (by decide +kernel) (pa_cons (pe_lc (own := [("step", 1)]) rfl nd (pi_any (pv 0)) (blkOk_by (by first | decide +kernel | kernel_rfl)) (fun _ _ _ _ _ => (pg_name (i := 1) nd rfl (Or.inl rfl))) (fun _ _ _ _ _ => pts_nil) (fun _ _ _ _ _ => (pe_ca (cs_is_step_1 T) hr (by decide) hg rfl pass0 (pa_cons (pv 1) pa_nil) pk_nil))) pa_nil)))))), rd_are_steps vs H Q E h⟩
theorem cs_are_steps_1 (T : TxtT K w mg base) : CallOk P w K mg base CX0 3 "are_steps" 1 [] (sp_are_steps K) (fun vs zs => pick .non [0] (vs ++ zs)) := by
  obtain ⟨fd, F, G⟩ := ok_are_steps (P := P) (w := w) (base := base) T
  obtain ⟨g, kb⟩ := kb0 (ps := ["thing"]) F 1 [] [0] fun kV doc pm an cdv ct us ws h1 h2 => match us, ws, h1, h2 with | [_], [], _, _ => rfl
  exact ⟨⟨fd, _, g, G, kb⟩, T.g_are_steps, F.kp⟩
theorem sc_Style_step : FnScope ["self", "number"] ["self", "number"] (defScope (inClass (topS 23) 3)) := ⟨rfl, rfl, rfl, by decide +kernel, rfl, by decide +kernel, by decide +kernel⟩
theorem ok_Style_step (T : TxtT K w mg base) : ∃ fd, FnP K "step" "Style.step" (inClass (topS 23) 3) [] (He.ma K (He.ga K "Style") "step") fd ∧ FnG P w K mg base (L2.CX P w) 3 (He.ma K (He.ga K "Style") "step") fd ["self", "number"] (sp_Style_step K) := by
  obtain ⟨fd, F⟩ := T.d_Style_step
  refine ⟨fd, F, fnG_of (sp := sp_Style_step K) F sc_Style_step (fun vs H Q E h => h.1) fun cdv A outer s H vs Q E hr hg h => ?_⟩
  have hu := hu_of hr
  have nd := sc_Style_step.nd
  exact ⟨t_Style_step K E, (pss_cons (ps_if (pt_not (pt_tr (pe_ca (cs_is_whole_2_most T) hr (by decide) hg rfl pass0 (pa_cons (pv 1) (pa_cons pe_int pa_nil)) (pk_cons (pe_callB cl_len (by rfl) T.z_len PySem.boot_len (pa_cons (pe_fld (pv 0) rfl) pa_nil)) pk_nil)))) (pss_one (ps_raise rfl (takes_of rfl rfl rfl rfl) (pmk_xg (xm_NoSuch_2 T) hr (by decide) hg pass0 rfl (pa_cons pe_str (pa_cons (pv 1) pa_nil))))) pss_nil)
    (pss_one (ps_ret (pe_ix ix_seq (pe_fld (pv 0) rfl) (pe_op op_sub (pv 1) pe_int) (fun _ _ => rfl))))), rd_Style_step (styleC T) (errC T) vs H Q E h⟩
theorem cs_Style_step_1 (T : TxtT K w mg base) : MethOk P w K mg base (L2.CX P w) 3 (He.ga K "Style") "step" 1 [] (sp_Style_step K) (fun vs zs => pick .non [0, 1] (vs ++ zs)) := by
  obtain ⟨fd, F, G⟩ := ok_Style_step (P := P) (w := w) (base := base) T
  obtain ⟨g, kb⟩ := kb0 (ps := ["self", "number"]) F 2 [] [0, 1] fun kV doc pm an cdv ct us ws h1 h2 => match us, ws, h1, h2 with | [_, _], [], _, _ => rfl
  exact ⟨⟨_, fd, _, g, T.m_Style_step, G, kb⟩, T.cl_Style⟩
theorem sc_law_called : FnScope ["m", "many", "letters", "found", "shift", "stride", "k", "said", "j"] ["m", "many"] (defScope (topS 33)) := ⟨rfl, rfl, rfl, by decide +kernel, rfl, by decide +kernel, by decide +kernel⟩
theorem ok_law_called (T : TxtT K w mg base) : ∃ fd, FnP K "_law_called" "_law_called" (topS 33) [] (He.ga K "_law_called") fd ∧ FnG P w K mg base CX0 3 (He.ga K "_law_called") fd ["m", "many"] (sp_law_called K) := by
  obtain ⟨fd, F⟩ := T.d_law_called
  refine ⟨fd, F, fnG_of (sp := sp_law_called K) F sc_law_called (fun vs H Q E h => h.1) fun cdv A outer s H vs Q E hr hg h => ?_⟩
  have hu := hu_of hr
  have nd := sc_law_called.nd
  exact ⟨t_law_called K, PSs.nox ((pss_cons (ps_par rfl nd (i := 2) (j := 3) rfl rfl (by decide) rfl rfl (pa_cons pe_str (pa_cons (pe_lst pa_nil) pa_nil)) (by rfl))
    (pss_cons (ps_set (i := 4) nd rfl (Or.inl rfl) (pe_ca (cs_law_draw_2 T) hr (by decide) hg rfl pass0 (pa_cons (pv 0) (pa_cons pe_int pa_nil)) pk_nil))
    (pss_cons (ps_set (i := 5) nd rfl (Or.inl rfl) (pe_ix ix_seq (pe_lst (pa_cons pe_int (pa_cons pe_int (pa_cons pe_int (pa_cons pe_int (pa_cons pe_int (pa_cons pe_int (pa_cons pe_int (pa_cons pe_int (pa_cons pe_int (pa_cons pe_int (pa_cons pe_int (pa_cons pe_int pa_nil))))))))))))) (pe_ca (cs_law_draw_2 T) hr (by decide) hg rfl pass0 (pa_cons (pv 0) (pa_cons pe_int pa_nil)) pk_nil) (fun _ _ => rfl)))
    (pss_cons (ps_for PassesOwn.never rfl (pi_range1 (by rfl) T.z_range (pa_cons (pv 1) pa_nil)) (pg_name (i := 6) nd rfl (Or.inl rfl))
    (pss_cons (ps_set (i := 7) nd rfl (Or.inl rfl) (pe_ix ix_seq (pv 2) (pe_op op_mod (pe_op op_addA (pv 4) (pe_op op_mulA (pv 5) (pv 6))) pe_int) (fun _ _ => rfl)))
    (pss_cons (ps_set (i := 7) nd rfl (Or.inl rfl) (pe_op op_addA (pv 7) (pe_ix ix_seq (pv 2) (pe_op op_mod (pe_op op_addA (pv 4) (pe_op op_fdiv (pv 6) pe_int)) pe_int) (fun _ _ => rfl))))
    (pss_cons (ps_for PassesOwn.never rfl (pi_range1 (by rfl) T.z_range (pa_cons (pe_ix ix_seq (pe_lst (pa_cons pe_int (pa_cons pe_int (pa_cons pe_int (pa_cons (pe_ca (cs_law_draw_2 T) hr (by decide) hg rfl pass0 (pa_cons (pv 0) (pa_cons pe_int pa_nil)) pk_nil) pa_nil))))) (pe_ca (cs_law_draw_2 T) hr (by decide) hg rfl pass0 (pa_cons (pv 0) (pa_cons pe_int pa_nil)) pk_nil) (fun _ _ => rfl)) pa_nil)) (pg_name (i := 8) nd rfl (Or.inl rfl))
    (pss_one (ps_set (i := 7) nd rfl (Or.inl rfl) (pe_op op_addA (pv 7) (pe_ix ix_seq pe_str (pe_ca (cs_law_draw_2 T) hr (by decide) hg rfl pass0 (pa_cons (pv 0) (pa_cons pe_int pa_nil)) pk_nil) (fun _ _ => rfl))))))
    (pss_cons (ps_if (pt_cmpR (op_eqA hr) (pv 7) pe_str (nobehind _ (by decide) (by decide))) (pss_one (ps_set (i := 7) nd rfl (Or.inl rfl) pe_str)) pss_nil)
    (pss_cons (ps_if (PW.pt (pw_and (pt_cmpR (op_eqA hr) (pe_op op_mod (pv 6) pe_int) pe_int (nobehind _ (by decide) (by decide))) (pw_and1 (pt_cmpR (op_eqA hr) (pe_ca (cs_law_draw_2 T) hr (by decide) hg rfl pass0 (pa_cons (pv 0) (pa_cons pe_int pa_nil)) pk_nil) pe_int (nobehind _ (by decide) (by decide)))))) (pss_one (ps_set (i := 7) nd rfl (Or.inl rfl) (pe_op op_addA (pe_slice sl_any (pe_ix ix_seq (pv 3) (pe_un un_neg pe_int) (fun _ _ => rfl)) po_none (po_some pe_int)) pe_str))) pss_nil)
    (pss_one (ps_expr (pe_bm PySem.F.plainAttrs_list PySem.F.slot_list_append PySem.F.type_list_append mt_append (pv 3) (pa_cons (pv 7) pa_nil))))))))))
    (pss_one (ps_ret (pv 3)))))))), rd_law_called vs H Q E h⟩
theorem cs_law_called_2 (T : TxtT K w mg base) : CallOk P w K mg base CX0 3 "_law_called" 2 [] (sp_law_called K) (fun vs zs => pick .non [0, 1] (vs ++ zs)) := by
  obtain ⟨fd, F, G⟩ := ok_law_called (P := P) (w := w) (base := base) T
  obtain ⟨g, kb⟩ := kb0 (ps := ["m", "many"]) F 2 [] [0, 1] fun kV doc pm an cdv ct us ws h1 h2 => match us, ws, h1, h2 with | [_, _], [], _, _ => rfl
  exact ⟨⟨fd, _, g, G, kb⟩, T.g_law_called, F.kp⟩
theorem sc_Style_init : FnScope ["self", "name", "steps"] ["self", "name", "steps"] (defScope (inClass (topS 23) 0)) := ⟨rfl, rfl, rfl, by decide +kernel, rfl, by decide +kernel, by decide +kernel⟩
theorem ok_Style_init (T : TxtT K w mg base) : ∃ fd, FnP K "__init__" "Style.__init__" (inClass (topS 23) 0) [] (He.ma K (He.ga K "Style") "__init__") fd ∧ FnG P w K mg base (L2.CX P w) 4 (He.ma K (He.ga K "Style") "__init__") fd ["self", "name", "steps"] (sp_Style_init K) := by
  obtain ⟨fd, F⟩ := T.d_Style_init
  refine ⟨fd, F, fnG_of (sp := sp_Style_init K) F sc_Style_init (fun vs H Q E h => h.1) fun cdv A outer s H vs Q E hr hg h => ?_⟩
  have hu := hu_of hr
  have nd := sc_Style_init.nd
  exact ⟨t_Style_init K E, (pss_cons (ps_if (pt_not (pt_tr (pe_ca (cs_is_name_1 T) hr (by decide) hg rfl pass0 (pa_cons (pv 1) pa_nil) pk_nil))) (pss_one (ps_raise rfl (takes_of rfl rfl rfl rfl) (pmk_xg (xm_BadValue_1 T) hr (by decide) hg pass0 rfl (pa_cons pe_str pa_nil)))) pss_nil)
    (pss_cons (ps_if (pt_not (pt_tr (pe_ca (cs_are_steps_1 T) hr (by decide) hg rfl pass0 (pa_cons (pv 2) pa_nil) pk_nil))) (pss_one (ps_raise rfl (takes_of rfl rfl rfl rfl) (pmk_xg (xm_BadValue_1 T) hr (by decide) hg pass0 rfl (pa_cons pe_str pa_nil)))) pss_nil)
    (pss_cons (ps_fld (pv 0) (pv 1) rfl)
    (pss_one (ps_fld (pv 0) (pe_callTy cl_listOf (by rfl) T.z_list (by decide +kernel) (pa_cons (pv 2) pa_nil)) rfl))))), rd_Style_init (styleC T) (errC T) vs H Q E h⟩
theorem cs_Style_init_2 (T : TxtT K w mg base) : MakeOk P w K mg base (L2.CX P w) 4 "Style" 2 [] (sp_Style_init K) (fun vs zs => pick .non [0, 1, 2] (vs ++ zs)) := by
  obtain ⟨fd, F, G⟩ := ok_Style_init (P := P) (w := w) (base := base) T
  obtain ⟨g, kb⟩ := kb0 (ps := ["self", "name", "steps"]) F 3 [] [0, 1, 2] fun kV doc pm an cdv ct us ws h1 h2 => match us, ws, h1, h2 with | [_, _, _], [], _, _ => rfl
  exact ⟨⟨_, fd, _, g, T.mk_Style, G, kb⟩, T.g_Style⟩
theorem sc_Line_init : FnScope ["self", "text", "row", "found"] ["self", "text", "row"] (defScope (inClass (topS 25) 0)) := ⟨rfl, rfl, rfl, by decide +kernel, rfl, by decide +kernel, by decide +kernel⟩
theorem ok_Line_init (T : TxtT K w mg base) : ∃ fd, FnP K "__init__" "Line.__init__" (inClass (topS 25) 0) [] (He.ma K (He.ga K "Line") "__init__") fd ∧ FnG P w K mg base (L2.CX P w) 4 (He.ma K (He.ga K "Line") "__init__") fd ["self", "text", "row"] (sp_Line_init K) := by
  obtain ⟨fd, F⟩ := T.d_Line_init
  refine ⟨fd, F, fnG_of (sp := sp_Line_init K) F sc_Line_init (fun vs H Q E h => h.1) fun cdv A outer s H vs Q E hr hg h => ?_⟩
  have hu := hu_of hr
  have nd := sc_Line_init.nd
  exact ⟨t_Line_init K E, (pss_cons (ps_set (i := 3) nd rfl (Or.inl rfl) (pe_ca (cs_words_of_1 T) hr (by decide) hg rfl pass0 (pa_cons (pv 1) pa_nil) pk_nil))
    (pss_cons (ps_if (pt_cmpR op_isNo (pv 3) pe_non (nobehind _ (by decide) (by decide))) (pss_one (ps_raise rfl (takes_of rfl rfl rfl rfl) (pmk_xg (xm_BadText_2 T) hr (by decide) hg pass0 rfl (pa_cons (pv 2) (pa_cons pe_int pa_nil))))) pss_nil)
    (pss_cons (ps_fld (pv 0) (pv 2) rfl)
    (pss_cons (ps_fld (pv 0) (pv 3) rfl)
    (pss_one (ps_fld (pv 0) pe_int rfl)))))), rd_Line_init (lineC T) (errC T) vs H Q E h⟩
theorem cs_Line_init_2 (T : TxtT K w mg base) : MakeOk P w K mg base (L2.CX P w) 4 "Line" 2 [] (sp_Line_init K) (fun vs zs => pick .non [0, 1, 2] (vs ++ zs)) := by
  obtain ⟨fd, F, G⟩ := ok_Line_init (P := P) (w := w) (base := base) T
  obtain ⟨g, kb⟩ := kb0 (ps := ["self", "text", "row"]) F 3 [] [0, 1, 2] fun kV doc pm an cdv ct us ws h1 h2 => match us, ws, h1, h2 with | [_, _, _], [], _, _ => rfl
  exact ⟨⟨_, fd, _, g, T.mk_Line, G, kb⟩, T.g_Line⟩
theorem sc_Line_take : FnScope ["self", "good"] ["self", "good"] (defScope (inClass (topS 25) 2)) := ⟨rfl, rfl, rfl, by decide +kernel, rfl, by decide +kernel, by decide +kernel⟩
theorem ok_Line_take (T : TxtT K w mg base) : ∃ fd, FnP K "take" "Line.take" (inClass (topS 25) 2) [] (He.ma K (He.ga K "Line") "take") fd ∧ FnG P w K mg base (L2.CX P w) 4 (He.ma K (He.ga K "Line") "take") fd ["self", "good"] (sp_Line_take K) := by
  obtain ⟨fd, F⟩ := T.d_Line_take
  refine ⟨fd, F, fnG_of (sp := sp_Line_take K) F sc_Line_take (fun vs H Q E h => h.1) fun cdv A outer s H vs Q E hr hg h => ?_⟩
  have hu := hu_of hr
  have nd := sc_Line_take.nd
  exact ⟨t_Line_take K E, (pss_cons (ps_if (pt_not (pt_tr (pv 1))) (pss_one (ps_raise rfl (takes_of rfl rfl rfl rfl) (pmk_xg (xm_BadText_2 T) hr (by decide) hg pass0 rfl (pa_cons (pe_fld (pv 0) rfl) (pa_cons (pe_op op_addA (pe_fld (pv 0) rfl) pe_int) pa_nil))))) pss_nil)
    (pss_cons (ps_fldaug (pv 0) pe_int in_add)
    (pss_one (ps_ret (pe_bm PySem.F.plainAttrs_list PySem.F.slot_list_pop PySem.F.type_list_pop mt_popAt (pe_fld (pv 0) rfl) (pa_cons pe_int pa_nil)))))), rd_Line_take (lineC T) (errC T) vs H Q E h⟩
theorem cs_Line_take_1 (T : TxtT K w mg base) : MethOk P w K mg base (L2.CX P w) 4 (He.ga K "Line") "take" 1 [] (sp_Line_take K) (fun vs zs => pick .non [0, 1] (vs ++ zs)) := by
  obtain ⟨fd, F, G⟩ := ok_Line_take (P := P) (w := w) (base := base) T
  obtain ⟨g, kb⟩ := kb0 (ps := ["self", "good"]) F 2 [] [0, 1] fun kV doc pm an cdv ct us ws h1 h2 => match us, ws, h1, h2 with | [_, _], [], _, _ => rfl
  exact ⟨⟨_, fd, _, g, T.m_Line_take, G, kb⟩, T.cl_Line⟩
theorem sc_Line_over : FnScope ["self"] ["self"] (defScope (inClass (topS 25) 6)) := ⟨rfl, rfl, rfl, by decide +kernel, rfl, by decide +kernel, by decide +kernel⟩
theorem ok_Line_over (T : TxtT K w mg base) : ∃ fd, FnP K "over" "Line.over" (inClass (topS 25) 6) [] (He.ma K (He.ga K "Line") "over") fd ∧ FnG P w K mg base (L2.CX P w) 4 (He.ma K (He.ga K "Line") "over") fd ["self"] (sp_Line_over K) := by
  obtain ⟨fd, F⟩ := T.d_Line_over
  refine ⟨fd, F, fnG_of (sp := sp_Line_over K) F sc_Line_over (fun vs H Q E h => h.1) fun cdv A outer s H vs Q E hr hg h => ?_⟩
  have hu := hu_of hr
  have nd := sc_Line_over.nd
  exact ⟨t_Line_over K E, (pss_one (ps_if (pt_cmpR (op_neA hr) (pe_fld (pv 0) rfl) (pe_lst pa_nil) (nobehind _ (by decide) (by decide))) (pss_one (ps_raise rfl (takes_of rfl rfl rfl rfl) (pmk_xg (xm_BadText_2 T) hr (by decide) hg pass0 rfl (pa_cons (pe_fld (pv 0) rfl) (pa_cons (pe_op op_addA (pe_fld (pv 0) rfl) pe_int) pa_nil))))) pss_nil)), rd_Line_over (lineC T) (errC T) vs H Q E h⟩
theorem cs_Line_over_0 (T : TxtT K w mg base) : MethOk P w K mg base (L2.CX P w) 4 (He.ga K "Line") "over" 0 [] (sp_Line_over K) (fun vs zs => pick .non [0] (vs ++ zs)) := by
  obtain ⟨fd, F, G⟩ := ok_Line_over (P := P) (w := w) (base := base) T
  obtain ⟨g, kb⟩ := kb0 (ps := ["self"]) F 1 [] [0] fun kV doc pm an cdv ct us ws h1 h2 => match us, ws, h1, h2 with | [_], [], _, _ => rfl
  exact ⟨⟨_, fd, _, g, T.m_Line_over, G, kb⟩, T.cl_Line⟩
theorem sc_rows_of : FnScope ["text"] ["text"] (defScope (topS 26)) := ⟨rfl, rfl, rfl, by decide +kernel, rfl, by decide +kernel, by decide +kernel⟩
theorem ok_rows_of (T : TxtT K w mg base) : ∃ fd, FnP K "rows_of" "rows_of" (topS 26) [] (He.ga K "rows_of") fd ∧ FnG P w K mg base (L2.CX P w) 4 (He.ga K "rows_of") fd ["text"] (sp_rows_of K) := by
  obtain ⟨fd, F⟩ := T.d_rows_of
  refine ⟨fd, F, fnG_of (sp := sp_rows_of K) F sc_rows_of (fun vs H Q E h => h.1) fun cdv A outer s H vs Q E hr hg h => ?_⟩
  have hu := hu_of hr
  have nd := sc_rows_of.nd
  exact ⟨t_rows_of K E, (pss_cons (ps_if (pt_not (pt_tr (pe_callB call_isi (by rfl) T.z_isinstance (by decide +kernel) (pa_cons (pv 0) (pa_cons (pe_bltn (v := .ty "str") (by rfl) T.z_str (by decide +kernel) rfl) pa_nil))))) (pss_one (ps_raise rfl (takes_of rfl rfl rfl rfl) (pmk_xg (xm_BadText_2 T) hr (by decide) hg pass0 rfl (pa_cons pe_int (pa_cons pe_int pa_nil))))) pss_nil)
    (pss_one (ps_ret (pe_split (pv 0) pe_str)))), rd_rows_of (errC T) vs H Q E h⟩
theorem cs_rows_of_1 (T : TxtT K w mg base) : CallOk P w K mg base (L2.CX P w) 4 "rows_of" 1 [] (sp_rows_of K) (fun vs zs => pick .non [0] (vs ++ zs)) := by
  obtain ⟨fd, F, G⟩ := ok_rows_of (P := P) (w := w) (base := base) T
  obtain ⟨g, kb⟩ := kb0 (ps := ["text"]) F 1 [] [0] fun kV doc pm an cdv ct us ws h1 h2 => match us, ws, h1, h2 with | [_], [], _, _ => rfl
  exact ⟨⟨fd, _, g, G, kb⟩, T.g_rows_of, F.kp⟩
theorem sc_Line_take_word : FnScope ["self", "word"] ["self", "word"] (defScope (inClass (topS 25) 3)) := ⟨rfl, rfl, rfl, by decide +kernel, rfl, by decide +kernel, by decide +kernel⟩
theorem ok_Line_take_word (T : TxtT K w mg base) : ∃ fd, FnP K "take_word" "Line.take_word" (inClass (topS 25) 3) [] (He.ma K (He.ga K "Line") "take_word") fd ∧ FnG P w K mg base (L2.CX P w) 5 (He.ma K (He.ga K "Line") "take_word") fd ["self", "word"] (sp_Line_take_word K) := by
  obtain ⟨fd, F⟩ := T.d_Line_take_word
  refine ⟨fd, F, fnG_of (sp := sp_Line_take_word K) F sc_Line_take_word (fun vs H Q E h => h.1) fun cdv A outer s H vs Q E hr hg h => ?_⟩
  have hu := hu_of hr
  have nd := sc_Line_take_word.nd
  exact ⟨t_Line_take_word K E, (pss_one (ps_ret (pe_me (cs_Line_take_1 T) hr (by decide) hg (passes_call (takes_of rfl rfl rfl rfl) fun _ _ _ _ h => h) (pv 0) (pa_cons (pe_cmpR (op_eqA hr) (pe_me0 (cs_Line_ahead_0 T) hr (by decide) hg pass0 (pv 0) pk_nil) (pv 1) (nobehind _ (by decide) (by decide))) pa_nil) pk_nil))), rd_Line_take_word (lineC T) vs H Q E h⟩
theorem cs_Line_take_word_1 (T : TxtT K w mg base) : MethOk P w K mg base (L2.CX P w) 5 (He.ga K "Line") "take_word" 1 [] (sp_Line_take_word K) (fun vs zs => pick .non [0, 1] (vs ++ zs)) := by
  obtain ⟨fd, F, G⟩ := ok_Line_take_word (P := P) (w := w) (base := base) T
  obtain ⟨g, kb⟩ := kb0 (ps := ["self", "word"]) F 2 [] [0, 1] fun kV doc pm an cdv ct us ws h1 h2 => match us, ws, h1, h2 with | [_, _], [], _, _ => rfl
  exact ⟨⟨_, fd, _, g, T.m_Line_take_word, G, kb⟩, T.cl_Line⟩
theorem sc_Line_take_name : FnScope ["self"] ["self"] (defScope (inClass (topS 25) 4)) := ⟨rfl, rfl, rfl, by decide +kernel, rfl, by decide +kernel, by decide +kernel⟩
theorem ok_Line_take_name (T : TxtT K w mg base) : ∃ fd, FnP K "take_name" "Line.take_name" (inClass (topS 25) 4) [] (He.ma K (He.ga K "Line") "take_name") fd ∧ FnG P w K mg base (L2.CX P w) 5 (He.ma K (He.ga K "Line") "take_name") fd ["self"] (sp_Line_take_name K) := by
  obtain ⟨fd, F⟩ := T.d_Line_take_name
  refine ⟨fd, F, fnG_of (sp := sp_Line_take_name K) F sc_Line_take_name (fun vs H Q E h => h.1) fun cdv A outer s H vs Q E hr hg h => ?_⟩
  have hu := hu_of hr
  have nd := sc_Line_take_name.nd
  exact ⟨t_Line_take_name K E, (pss_one (ps_ret (pe_me (cs_Line_take_1 T) hr (by decide) hg (passes_call (takes_of rfl rfl rfl rfl) fun _ _ _ _ h => h) (pv 0) (pa_cons (pe_ca (cs_is_name_1 T) hr (by decide) hg rfl pass0 (pa_cons (pe_me0 (cs_Line_ahead_0 T) hr (by decide) hg pass0 (pv 0) pk_nil) pa_nil) pk_nil) pa_nil) pk_nil))), rd_Line_take_name (lineC T) vs H Q E h⟩
theorem cs_Line_take_name_0 (T : TxtT K w mg base) : MethOk P w K mg base (L2.CX P w) 5 (He.ga K "Line") "take_name" 0 [] (sp_Line_take_name K) (fun vs zs => pick .non [0] (vs ++ zs)) := by
  obtain ⟨fd, F, G⟩ := ok_Line_take_name (P := P) (w := w) (base := base) T
  obtain ⟨g, kb⟩ := kb0 (ps := ["self"]) F 1 [] [0] fun kV doc pm an cdv ct us ws h1 h2 => match us, ws, h1, h2 with | [_], [], _, _ => rfl
  exact ⟨⟨_, fd, _, g, T.m_Line_take_name, G, kb⟩, T.cl_Line⟩
theorem sc_Line_take_number : FnScope ["self", "least", "most", "found"] ["self", "least", "most"] (defScope (inClass (topS 25) 5)) := ⟨rfl, rfl, rfl, by decide +kernel, rfl, by decide +kernel, by decide +kernel⟩
theorem ok_Line_take_number (T : TxtT K w mg base) : ∃ fd, FnP K "take_number" "Line.take_number" (inClass (topS 25) 5) [] (He.ma K (He.ga K "Line") "take_number") fd ∧ FnG P w K mg base (L2.CX P w) 5 (He.ma K (He.ga K "Line") "take_number") fd ["self", "least", "most"] (sp_Line_take_number K) := by
  obtain ⟨fd, F⟩ := T.d_Line_take_number
  refine ⟨fd, F, fnG_of (sp := sp_Line_take_number K) F sc_Line_take_number (fun vs H Q E h => h.1) fun cdv A outer s H vs Q E hr hg h => ?_⟩
  have hu := hu_of hr
  have nd := sc_Line_take_number.nd
  exact ⟨t_Line_take_number K E, (pss_cons (ps_set (i := 3) nd rfl (Or.inl rfl) (pe_ca (cs_number_of_1 T) hr (by decide) hg rfl pass0 (pa_cons (pe_me0 (cs_Line_ahead_0 T) hr (by decide) hg pass0 (pv 0) pk_nil) pa_nil) pk_nil))
    (pss_cons (ps_expr (pe_me (cs_Line_take_1 T) hr (by decide) hg (passes_call (takes_of rfl rfl rfl rfl) fun _ _ _ _ h => h) (pv 0) (pa_cons (pe_and (pe_cmpR op_noNo (pv 3) pe_non (nobehind _ (by decide) (by decide))) (pe_one (pe_ca (cs_is_whole_2_most T) hr (by decide) hg rfl pass0 (pa_cons (pv 3) (pa_cons (pv 1) pa_nil)) (pk_cons (pv 2) pk_nil)))) pa_nil) pk_nil))
    (pss_one (ps_ret (pv 3))))), rd_Line_take_number (lineC T) vs H Q E h⟩
theorem cs_Line_take_number_2 (T : TxtT K w mg base) : MethOk P w K mg base (L2.CX P w) 5 (He.ga K "Line") "take_number" 2 [] (sp_Line_take_number K) (fun vs zs => pick .non [0, 1, 2] (vs ++ zs)) := by
  obtain ⟨fd, F, G⟩ := ok_Line_take_number (P := P) (w := w) (base := base) T
  obtain ⟨g, kb⟩ := kb0 (ps := ["self", "least", "most"]) F 3 [] [0, 1, 2] fun kV doc pm an cdv ct us ws h1 h2 => match us, ws, h1, h2 with | [_, _, _], [], _, _ => rfl
  exact ⟨⟨_, fd, _, g, T.m_Line_take_number, G, kb⟩, T.cl_Line⟩
theorem sc_Style_put_in : FnScope ["self", "step", "at", "many", "place"] ["self", "step", "at"] (defScope (inClass (topS 23) 6)) := ⟨rfl, rfl, rfl, by decide +kernel, rfl, by decide +kernel, by decide +kernel⟩
theorem ok_Style_put_in (T : TxtT K w mg base) : ∃ fd, FnP K "put_in" "Style.put_in" (inClass (topS 23) 6) [.non] (He.ma K (He.ga K "Style") "put_in") fd ∧ FnG P w K mg base (L2.CX P w) 6 (He.ma K (He.ga K "Style") "put_in") fd ["self", "step", "at"] (sp_Style_put_in K) := by
  obtain ⟨fd, F⟩ := T.d_Style_put_in
  refine ⟨fd, F, fnG_of (sp := sp_Style_put_in K) F sc_Style_put_in (fun vs H Q E h => h.1) fun cdv A outer s H vs Q E hr hg h => ?_⟩
  have hu := hu_of hr
  have nd := sc_Style_put_in.nd
  exact ⟨t_Style_put_in K E, (pss_cons (ps_if (pt_not (pt_tr (pe_ca (cs_is_step_1 T) hr (by decide) hg rfl pass0 (pa_cons (pv 1) pa_nil) pk_nil))) (pss_one (ps_raise rfl (takes_of rfl rfl rfl rfl) (pmk_xg (xm_BadValue_1 T) hr (by decide) hg pass0 rfl (pa_cons pe_str pa_nil)))) pss_nil)
    (pss_cons (ps_set (i := 3) nd rfl (Or.inl rfl) (pe_callB cl_len (by rfl) T.z_len PySem.boot_len (pa_cons (pe_fld (pv 0) rfl) pa_nil)))
    (pss_cons (ps_if (PW.pt (pw_and (pt_cmpR op_noNo (pv 2) pe_non (nobehind _ (by decide) (by decide))) (pw_and1 (pt_not (pt_tr (pe_ca (cs_is_whole_2_most T) hr (by decide) hg rfl pass0 (pa_cons (pv 2) (pa_cons pe_int pa_nil)) (pk_cons (pe_op op_addA (pv 3) pe_int) pk_nil))))))) (pss_one (ps_raise rfl (takes_of rfl rfl rfl rfl) (pmk_xg (xm_NoSuch_2 T) hr (by decide) hg pass0 rfl (pa_cons pe_str (pa_cons (pv 2) pa_nil))))) pss_nil)
    (pss_cons (ps_if (pt_cmpR (op_eqA hr) (pv 3) (pe_gI T.c_MOST_STEPS) (nobehind _ (by decide) (by decide))) (pss_one (ps_raise rfl (takes_of rfl rfl rfl rfl) (pmk_xg (xm_TooMany_1 T) hr (by decide) hg pass0 rfl (pa_cons (pe_gI T.c_MOST_STEPS) pa_nil)))) pss_nil)
    (pss_cons (ps_set (i := 4) nd rfl (Or.inl rfl) (pe_ifExp (pt_cmpR op_isNo (pv 2) pe_non (nobehind _ (by decide) (by decide))) (pv 3) (pe_op op_sub (pv 2) pe_int)))
    (pss_one (ps_ret (pe_mk (cs_Style_init_2 T) hr (by decide) hg rfl (passes_call (takes_of rfl rfl rfl rfl) fun _ _ _ _ h => h) (pa_cons (pe_fld (pv 0) rfl) (pa_cons (pe_op op_addA (pe_op op_addA (pe_slice sl_any (pe_fld (pv 0) rfl) po_none (po_some (pv 4))) (pe_lst (pa_cons (pv 1) pa_nil))) (pe_slice sl_any (pe_fld (pv 0) rfl) (po_some (pv 4)) po_none)) pa_nil)) pk_nil)))))))), rd_Style_put_in (styleC T) (errC T) vs H Q E h⟩
theorem cs_Style_put_in_1 (T : TxtT K w mg base) : MethOk P w K mg base (L2.CX P w) 6 (He.ga K "Style") "put_in" 1 [] (sp_Style_put_in K) (fun vs zs => pick .non [0, 1, 2] (vs ++ (zs ++ [.non]))) := by
  obtain ⟨fd, F, G⟩ := ok_Style_put_in (P := P) (w := w) (base := base) T
  obtain ⟨g, kb⟩ := kb1 (ps := ["self", "step", "at"]) F (by simp) 2 [] [0, 1, 2] fun T kV doc pm an cdv ct us ws its h1 h2 h3 => match us, ws, its, h1, h2, h3 with | [_, _], [], [_], _, _, _ => ⟨_, rfl, rfl⟩
  exact ⟨⟨_, fd, _, g, T.m_Style_put_in, G, kb⟩, T.cl_Style⟩
theorem sc_read_style : FnScope ["text", "rows", "steps", "line", "name", "k", "row", "work", "hours"] ["text"] (defScope (topS 27)) := ⟨rfl, rfl, rfl, by decide +kernel, rfl, by decide +kernel, by decide +kernel⟩
theorem ok_read_style (T : TxtT K w mg base) : ∃ fd, FnP K "read_style" "read_style" (topS 27) [] (He.ga K "read_style") fd ∧ FnG P w K mg base (L2.CX P w) 6 (He.ga K "read_style") fd ["text"] (sp_read_style K) := by
  obtain ⟨fd, F⟩ := T.d_read_style
  refine ⟨fd, F, fnG_of (sp := sp_read_style K) F sc_read_style (fun vs H Q E h => h.1) fun cdv A outer s H vs Q E hr hg h => ?_⟩
  have hu := hu_of hr
  have nd := sc_read_style.nd
  exact ⟨t_read_style K E, (pss_cons (ps_par rfl nd (i := 1) (j := 2) rfl rfl (by decide) rfl rfl (pa_cons (pe_ca (cs_rows_of_1 T) hr (by decide) hg rfl (passes_call (takes_of rfl rfl rfl rfl) fun _ _ _ _ h => h) (pa_cons (pv 0) pa_nil) pk_nil) (pa_cons (pe_lst pa_nil) pa_nil)) (by rfl))
    (pss_cons (ps_set (i := 3) nd rfl (Or.inl rfl) (pe_mk (cs_Line_init_2 T) hr (by decide) hg rfl (passes_call (takes_of rfl rfl rfl rfl) fun _ _ _ _ h => h) (pa_cons (pe_ix ix_seq (pv 1) pe_int (fun _ _ => rfl)) (pa_cons pe_int pa_nil)) pk_nil))
    (pss_cons (ps_expr (pe_me (cs_Line_take_word_1 T) hr (by decide) hg (passes_call (takes_of rfl rfl rfl rfl) fun _ _ _ _ h => h) (pv 3) (pa_cons pe_str pa_nil) pk_nil))
    (pss_cons (ps_set (i := 4) nd rfl (Or.inl rfl) (pe_me0 (cs_Line_take_name_0 T) hr (by decide) hg (passes_call (takes_of rfl rfl rfl rfl) fun _ _ _ _ h => h) (pv 3) pk_nil))
    (pss_cons (ps_expr (pe_me0 (cs_Line_over_0 T) hr (by decide) hg (passes_call (takes_of rfl rfl rfl rfl) fun _ _ _ _ h => h) (pv 3) pk_nil))
    (pss_cons (ps_for (passes_of rfl) rfl (pi_enumA (by rfl) T.z_enumerate (pa_cons (pe_slice sl_any (pv 1) (po_some pe_int) po_none) pa_nil)) (pg_tup rfl (pgs_cons (pg_name (i := 5) nd rfl (Or.inl rfl)) (pgs_cons (pg_name (i := 6) nd rfl (Or.inl rfl)) pgs_nil)))
    (pss_cons (ps_set (i := 3) nd rfl (Or.inl rfl) (pe_mk (cs_Line_init_2 T) hr (by decide) hg rfl (passes_call (takes_of rfl rfl rfl rfl) fun _ _ _ _ h => h) (pa_cons (pv 6) (pa_cons (pe_op op_addA (pv 5) pe_int) pa_nil)) pk_nil))
    (pss_cons (ps_set (i := 7) nd rfl (Or.inl rfl) (pe_me (cs_Line_take_1 T) hr (by decide) hg (passes_call (takes_of rfl rfl rfl rfl) fun _ _ _ _ h => h) (pv 3) (pa_cons (pe_and (pe_cmpR op_lt (pv 5) (pe_gI T.c_MOST_STEPS) (nobehind _ (by decide) (by decide))) (pe_one (pe_cmpR op_noNo (pe_ca (cs_kind_of_1 T) hr (by decide) hg rfl pass0 (pa_cons (pe_me0 (cs_Line_ahead_0 T) hr (by decide) hg pass0 (pv 3) pk_nil) pa_nil) pk_nil) pe_non (nobehind _ (by decide) (by decide))))) pa_nil) pk_nil))
    (pss_cons (ps_set (i := 8) nd rfl (Or.inl rfl) (pe_me (cs_Line_take_number_2 T) hr (by decide) hg (passes_call (takes_of rfl rfl rfl rfl) fun _ _ _ _ h => h) (pv 3) (pa_cons pe_int (pa_cons (pe_gI T.c_MOST_HOURS) pa_nil)) pk_nil))
    (pss_cons (ps_expr (pe_bm PySem.F.plainAttrs_list PySem.F.slot_list_append PySem.F.type_list_append mt_append (pv 2) (pa_cons (pe_tup (pa_cons (pv 7) (pa_cons (pv 8) (pa_cons (pe_me (cs_Line_take_number_2 T) hr (by decide) hg (passes_call (takes_of rfl rfl rfl rfl) fun _ _ _ _ h => h) (pv 3) (pa_cons pe_int (pa_cons (pe_gI T.c_MOST_HOURS) pa_nil)) pk_nil) pa_nil)))) pa_nil)))
    (pss_one (ps_expr (pe_me0 (cs_Line_over_0 T) hr (by decide) hg (passes_call (takes_of rfl rfl rfl rfl) fun _ _ _ _ h => h) (pv 3) pk_nil))))))))
    (pss_cons (ps_if (pt_cmpR (op_eqA hr) (pv 2) (pe_lst pa_nil) (nobehind _ (by decide) (by decide))) (pss_one (ps_raise rfl (takes_of rfl rfl rfl rfl) (pmk_xg (xm_BadText_2 T) hr (by decide) hg pass0 rfl (pa_cons pe_int (pa_cons pe_int pa_nil))))) pss_nil)
    (pss_one (ps_ret (pe_mk (cs_Style_init_2 T) hr (by decide) hg rfl (passes_call (takes_of rfl rfl rfl rfl) fun _ _ _ _ h => h) (pa_cons (pv 4) (pa_cons (pv 2) pa_nil)) pk_nil)))))))))), rd_read_style (lineC T) (errC T) vs H Q E h⟩
theorem cs_read_style_1 (T : TxtT K w mg base) : CallOk P w K mg base (L2.CX P w) 6 "read_style" 1 [] (sp_read_style K) (fun vs zs => pick .non [0] (vs ++ zs)) := by
  obtain ⟨fd, F, G⟩ := ok_read_style (P := P) (w := w) (base := base) T
  obtain ⟨g, kb⟩ := kb0 (ps := ["text"]) F 1 [] [0] fun kV doc pm an cdv ct us ws h1 h2 => match us, ws, h1, h2 with | [_], [], _, _ => rfl
  exact ⟨⟨fd, _, g, G, kb⟩, T.g_read_style, F.kp⟩
theorem sc_law : FnScope ["script", "m", "w", "steps", "full", "few", "beyond", "odd", "spot", "rows", "told", "bad", "lost", "over", "wrong", "k", "error", "sorts", "made", "text", "gone"] ["script"] (defScope (topS 36)) := ⟨rfl, rfl, rfl, by decide +kernel, rfl, by decide +kernel, by decide +kernel⟩
theorem ok_law (T : TxtT K w mg base) : ∃ fd, FnP K "law" "law" (topS 36) [] (He.ga K "law") fd ∧ FnG P w K mg base CX0 9 (He.ga K "law") fd ["script"] (sp_law K) := by
  obtain ⟨fd, F⟩ := T.d_law
  refine ⟨fd, F, fnG_ofC (p := (("law" : Str), (none : Option Str))) (sp := sp_law K) F sc_law (fun vs H Q E h => h.1) fun A outer s H vs Q E hr hg h => ?_⟩
  have hu := hu_of hr
  have nd := sc_law.nd
  exact ⟨t_law K, PSs.nox ((pss_cons (ps_set (i := 1) nd rfl (Or.inl rfl) (pe_ca (cs_law_begun_1 T) hr (by decide) hg rfl pass0 (pa_cons (pv 0) pa_nil) pk_nil))
    (pss_cons (ps_set (i := 2) nd rfl (Or.inr rfl) (pe_ca (cs_law_called_2 T) hr (by decide) hg rfl pass0 (pa_cons (pv 1) (pa_cons pe_int pa_nil)) pk_nil))
    (pss_cons (ps_set (i := 3) nd rfl (Or.inr rfl) (pe_lc (own := [("k", 15)]) rfl nd (pi_range1 (by rfl) T.z_range (pa_cons pe_int pa_nil)) (blkOk_by (by first | decide +kernel | kernel_rfl)) (fun _ _ _ _ _ => (pg_name (i := 15) nd rfl (Or.inl rfl))) (fun _ _ _ _ _ => pts_nil) (fun _ _ _ _ _ => (pe_tup (pa_cons pe_str (pa_cons (pe_op op_addA pe_int (pv 15)) (pa_cons pe_int pa_nil)))))))
    (pss_cons (ps_asg (pe_tup (pa_cons (pe_mk (cs_Style_init_2 T) hr (by decide) hg rfl passN (pa_cons (pe_ix ix_seq (pv 2) pe_int (fun _ _ => rfl)) (pa_cons (pv 3) pa_nil)) pk_nil) (pa_cons (pe_mk (cs_Style_init_2 T) hr (by decide) hg rfl passN (pa_cons (pe_ix ix_seq (pv 2) pe_int (fun _ _ => rfl)) (pa_cons (pe_slice sl_any (pv 3) po_none (po_some pe_int)) pa_nil)) pk_nil) (pa_cons (pe_op op_addA pe_int (pe_ca (cs_law_draw_2 T) hr (by decide) hg rfl pass0 (pa_cons (pv 1) (pa_cons (pe_op op_pow pe_int pe_int) pa_nil)) pk_nil)) pa_nil)))) (pg_tup rfl (pgs_cons (pg_name (i := 4) nd rfl (Or.inr rfl)) (pgs_cons (pg_name (i := 5) nd rfl (Or.inr rfl)) (pgs_cons (pg_name (i := 6) nd rfl (Or.inl rfl)) pgs_nil)))))
    (pss_cons (ps_asg (pe_tup (pa_cons (pe_ix ix_seq (pe_lst (pa_cons pe_int (pa_cons (pv 6) (pa_cons (pe_un un_neg pe_int) (pa_cons pe_bl (pa_cons pe_non (pa_cons pe_str (pa_cons (pe_ix ix_seq (pv 2) pe_int (fun _ _ => rfl)) (pa_cons (pe_tup (pa_cons pe_int pa_nil)) (pa_cons (pe_op op_pow pe_int pe_int) pa_nil)))))))))) (pe_ca (cs_law_draw_2 T) hr (by decide) hg rfl pass0 (pa_cons (pv 1) (pa_cons pe_int pa_nil)) pk_nil) (fun _ _ => rfl)) (pa_cons (pe_ca (cs_law_draw_2 T) hr (by decide) hg rfl pass0 (pa_cons (pv 1) (pa_cons pe_int pa_nil)) pk_nil) pa_nil))) (pg_tup rfl (pgs_cons (pg_name (i := 7) nd rfl (Or.inr rfl)) (pgs_cons (pg_name (i := 8) nd rfl (Or.inl rfl)) pgs_nil))))
    (pss_cons (ps_set (i := 9) nd rfl (Or.inl rfl) (pe_op op_addA (pe_lst (pa_cons (pe_op op_addA pe_str (pe_ix ix_seq (pv 2) pe_int (fun _ _ => rfl))) pa_nil)) (pe_lc (own := [("k", 15)]) rfl nd (pi_range1 (by rfl) T.z_range (pa_cons pe_int pa_nil)) (blkOk_by (by first | decide +kernel | kernel_rfl)) (fun _ _ _ _ _ => (pg_name (i := 15) nd rfl (Or.inl rfl))) (fun _ _ _ _ _ => pts_nil) (fun _ _ _ _ _ => (pe_op op_addA pe_str (pe_callTy cl_strI (by rfl) T.z_str (by decide +kernel) (pa_cons (pv 15) pa_nil)))))))
    (pss_cons (ps_asg (pe_op op_addA (pe_op op_addA (pe_ix ix_seq (pv 9) (pv 8) (fun _ _ => rfl)) pe_str) (pe_ix ix_seq (pv 2) pe_int (fun _ _ => rfl))) (pg_sub (pv 9) (pv 8) set_list))
    (pss_cons (ps_set (i := 10) nd rfl (Or.inr rfl) (pe_join pe_str (pv 9)))
    (pss_cons (ps_set (i := 11) nd rfl (Or.inl rfl) (pe_lamG rfl T.g_law_caught (T.d_law_caught).choose_spec (told_binds T) sc_law_caught rfl (Or.inl rfl) hg (fun cdg => gives_law_caught T hg (by decide) cdg) (T.t_law) rfl hr (LamX.lamS_by (by first | decide +kernel | kernel_rfl | rfl)) rfl (fun _ _ _ _ _ => rfl) (fun A outer s H E f c' hr hg => (pe_mk (cs_Style_init_2 T) hr (by decide) hg rfl (passes_call (takes_of rfl rfl rfl rfl) fun _ _ _ _ h => h) (pa_cons (pe_op op_addA pe_str (pe_slice sl_any (pe_ix ix_seq (pv 2) pe_int (fun _ _ => rfl)) po_none (po_some pe_int))) (pa_cons (pv 3) pa_nil)) pk_nil))))
    (pss_cons (ps_set (i := 12) nd rfl (Or.inl rfl) (pe_lamG rfl T.g_law_caught (T.d_law_caught).choose_spec (told_binds T) sc_law_caught rfl (Or.inl rfl) hg (fun cdg => gives_law_caught T hg (by decide) cdg) (T.t_law) rfl hr (LamX.lamS_by (by first | decide +kernel | kernel_rfl | rfl)) rfl (fun _ _ _ _ _ => rfl) (fun A outer s H E f c' hr hg => (pe_me (cs_Style_step_1 T) hr (by decide) hg (passes_call (takes_of rfl rfl rfl rfl) fun _ _ _ _ h => h) (pv 5) (pa_cons (pv 7) pa_nil) pk_nil))))
    (pss_cons (ps_set (i := 13) nd rfl (Or.inl rfl) (pe_lamG rfl T.g_law_caught (T.d_law_caught).choose_spec (told_binds T) sc_law_caught rfl (Or.inl rfl) hg (fun cdg => gives_law_caught T hg (by decide) cdg) (T.t_law) rfl hr (LamX.lamS_by (by first | decide +kernel | kernel_rfl | rfl)) rfl (fun _ _ _ _ _ => rfl) (fun A outer s H E f c' hr hg => (pe_me (cs_Style_put_in_1 T) hr (by decide) hg (passes_call (takes_of rfl rfl rfl rfl) fun _ _ _ _ h => h) (pv 4) (pa_cons (pe_ix ix_seq (pv 3) pe_int (fun _ _ => rfl)) pa_nil) pk_nil))))
    (pss_cons (ps_set (i := 14) nd rfl (Or.inl rfl) (pe_lamG rfl T.g_law_caught (T.d_law_caught).choose_spec (told_binds T) sc_law_caught rfl (Or.inl rfl) hg (fun cdg => gives_law_caught T hg (by decide) cdg) (T.t_law) rfl hr (LamX.lamS_by (by first | decide +kernel | kernel_rfl | rfl)) rfl (fun _ _ _ _ _ => rfl) (fun A outer s H E f c' hr hg => (pe_ca (cs_read_style_1 T) hr (by decide) hg rfl (passes_call (takes_of rfl rfl rfl rfl) fun _ _ _ _ h => h) (pa_cons (pv 10) pa_nil) pk_nil))))
    (pss_cons (ps_for PassesOwn.never rfl (pi_enumA (by rfl) T.z_enumerate (pa_cons (pe_lst (pa_cons (pv 11) (pa_cons (pv 12) (pa_cons (pv 13) (pa_cons (pv 14) pa_nil))))) pa_nil)) (pg_tup rfl (pgs_cons (pg_name (i := 15) nd rfl (Or.inl rfl)) (pgs_cons (pg_name (i := 16) nd rfl (Or.inl rfl)) pgs_nil)))
    (pss_cons (ps_set (i := 17) nd rfl (Or.inl rfl) (pe_lst (pa_cons (pe_cmpR op_inA (pv 15) (pe_tup (pa_cons pe_int (pa_cons pe_int pa_nil))) rfl) (pa_cons (pe_cmpR (op_eqA hr) (pv 15) pe_int (nobehind _ (by decide) (by decide))) (pa_cons (pe_cmpR (op_eqA hr) (pv 15) pe_int (nobehind _ (by decide) (by decide))) (pa_cons (pe_cmpR (op_eqA hr) (pv 15) pe_int (nobehind _ (by decide) (by decide))) (pa_cons (pe_cmpR op_inA (pv 15) (pe_tup (pa_cons pe_int (pa_cons pe_int pa_nil))) rfl) (pa_cons (pe_cmpR (op_eqA hr) (pv 15) pe_int (nobehind _ (by decide) (by decide))) (pa_cons (pe_cmpR (op_eqA hr) (pv 15) pe_int (nobehind _ (by decide) (by decide))) (pa_cons (pe_cmpR (op_eqA hr) (pv 15) pe_int (nobehind _ (by decide) (by decide))) (pa_cons pe_bl (pa_cons pe_bl (pa_cons pe_bl pa_nil)))))))))))))
    (pss_one (ps_if (pt_cmpR (op_neA hr) (pe_ca (cs_law_families_1 T) hr (by decide) hg rfl pass0 (pa_cons (pv 16) pa_nil) pk_nil) (pv 17) (nobehind _ (by decide) (by decide))) (pss_one (ps_ret pe_bl)) pss_nil))))
    (pss_cons (ps_if (PW.pt (pw_or (pt_cmpR (op_neA hr) (pe_xv (pv 11)) pe_str (nobehind _ (by decide) (by decide))) (pw_or (pt_cmpR (op_neA hr) (pe_xv (pv 13)) pe_int (nobehind _ (by decide) (by decide))) (pw_or1 (pt_cmpR (op_neA hr) (pe_callB (call_repr hr hg) (by rfl) T.z_repr (by decide +kernel) (pa_cons (pe_tup (pa_cons (pe_xv (pv 12)) (pa_cons (pe_xv (pv 12)) pa_nil))) pa_nil)) (pe_callB (call_repr hr hg) (by rfl) T.z_repr (by decide +kernel) (pa_cons (pe_tup (pa_cons pe_str (pa_cons (pv 7) pa_nil))) pa_nil)) (nobehind _ (by decide) (by decide))))))) (pss_one (ps_ret pe_bl)) pss_nil)
    (pss_cons (ps_par3 rfl nd (i := 18) (j := 19) (l := 20) rfl rfl rfl (by decide) (by decide) (by decide) rfl rfl rfl (pa_cons (pe_xval (pmk_xg (xm_BadValue_1 T) hr (by decide) hg pass0 rfl (pa_cons (pe_op op_addA pe_str (pe_ix ix_seq (pv 2) pe_int (fun _ _ => rfl))) pa_nil))) (pa_cons (pe_xval (pmk_xg (xm_BadText_2 T) hr (by decide) hg pass0 rfl (pa_cons (pv 8) (pa_cons (pv 6) pa_nil)))) (pa_cons (pe_xval (pmk_xg (xm_NoSuch_2 T) hr (by decide) hg pass0 rfl (pa_cons (pe_ix ix_seq (pv 2) pe_int (fun _ _ => rfl)) (pa_cons (pv 7) pa_nil)))) pa_nil))) (by rfl))
    (pss_cons (ps_if (PW.pt (pw_or (pt_cmpR (op_neA hr) (pe_xv (pv 18)) (pe_op op_addA pe_str (pe_ix ix_seq (pv 2) pe_int (fun _ _ => rfl))) (nobehind _ (by decide) (by decide))) (pw_or1 (pt_cmpR (op_neA hr) (pe_tup (pa_cons (pe_xv (pv 19)) (pa_cons (pe_xv (pv 19)) (pa_cons (pe_xv (pv 19)) pa_nil)))) (pe_tup (pa_cons pe_str (pa_cons (pv 8) (pa_cons (pv 6) pa_nil)))) (nobehind _ (by decide) (by decide)))))) (pss_one (ps_ret pe_bl)) pss_nil)
    (pss_cons (ps_if (pt_cmpR (op_neA hr) (pe_callB (call_repr hr hg) (by rfl) T.z_repr (by decide +kernel) (pa_cons (pe_tup (pa_cons (pe_xv (pv 20)) (pa_cons (pe_xv (pv 20)) (pa_cons (pe_xv (pe_xval (pmk_xg (xm_TooMany_1 T) hr (by decide) hg pass0 rfl (pa_cons (pv 6) pa_nil)))) pa_nil)))) pa_nil)) (pe_callB (call_repr hr hg) (by rfl) T.z_repr (by decide +kernel) (pa_cons (pe_tup (pa_cons (pe_ix ix_seq (pv 2) pe_int (fun _ _ => rfl)) (pa_cons (pv 7) (pa_cons (pv 6) pa_nil)))) pa_nil)) (nobehind _ (by decide) (by decide))) (pss_one (ps_ret pe_bl)) pss_nil)
    (pss_one (ps_ret (pe_cmpR (op_eqA hr) (pe_tup (pa_cons (pe_xv (pv 14)) (pa_cons (pe_xv (pv 14)) (pa_cons (pe_xv (pv 14)) pa_nil)))) (pe_tup (pa_cons pe_str (pa_cons (pe_op op_addA (pv 8) pe_int) (pa_cons (pe_op op_addA pe_int (pe_callTy cl_intB (by rfl) T.z_int (by decide +kernel) (pa_cons (pe_cmpR op_gt (pv 8) pe_int (nobehind _ (by decide) (by decide))) pa_nil))) pa_nil)))) (nobehind _ (by decide) (by decide))))))))))))))))))))))), rd_law (styleC T) (errC T) vs H Q E h⟩
end
/-! ### the head -/
theorem txt_of {w : World} {K : PySem.W.Frag} {h : Heap} {mg : Str → Option Value} (X : K.In h) (G : h.Ns mainGlobals mg) (c : SaysB faL fnL tsL bsL w K) : Txt K w mg where
  c_MOST_LETTERS := He.int_ok X G (c.d.fact 0 (f := .int "MOST_LETTERS" 8) rfl)
  c_MOST_FIGURES := He.int_ok X G (c.d.fact 1 (f := .int "MOST_FIGURES" 7) rfl)
  c_MOST_HOURS := He.int_ok X G (c.d.fact 2 (f := .int "MOST_HOURS" 240) rfl)
  c_MOST_STEPS := He.int_ok X G (c.d.fact 3 (f := .int "MOST_STEPS" 12) rfl)
  c_LETTERS := He.str_ok X G (c.d.fact 4 (f := .str "LETTERS" "abcdefghijklmnopqrstuvwxyz") rfl)
  c_FIGURES := He.str_ok X G (c.d.fact 5 (f := .str "FIGURES" "0123456789") rfl)
  g_BARRED_WORDS := He.glo_ok X G (c.d.fact 6 (f := .glo "BARRED_WORDS") rfl)
  g_KINDS := He.glo_ok X G (c.d.fact 7 (f := .glo "KINDS") rfl)
  z_IndexError := He.free_ok X G (c.d.fact 8 (f := .free "IndexError") rfl)
  z_KeyError := He.free_ok X G (c.d.fact 9 (f := .free "KeyError") rfl)
  z_LookupError := He.free_ok X G (c.d.fact 10 (f := .free "LookupError") rfl)
  z_OverflowError := He.free_ok X G (c.d.fact 11 (f := .free "OverflowError") rfl)
  z_RuntimeError := He.free_ok X G (c.d.fact 12 (f := .free "RuntimeError") rfl)
  z_ValueError := He.free_ok X G (c.d.fact 13 (f := .free "ValueError") rfl)
  z_ZeroDivisionError := He.free_ok X G (c.d.fact 14 (f := .free "ZeroDivisionError") rfl)
  z_all := He.free_ok X G (c.d.fact 15 (f := .free "all") rfl)
  z_bool := He.free_ok X G (c.d.fact 16 (f := .free "bool") rfl)
  z_enumerate := He.free_ok X G (c.d.fact 17 (f := .free "enumerate") rfl)
  z_int := He.free_ok X G (c.d.fact 18 (f := .free "int") rfl)
  z_isinstance := He.free_ok X G (c.d.fact 19 (f := .free "isinstance") rfl)
  z_len := He.free_ok X G (c.d.fact 20 (f := .free "len") rfl)
  z_list := He.free_ok X G (c.d.fact 21 (f := .free "list") rfl)
  z_range := He.free_ok X G (c.d.fact 22 (f := .free "range") rfl)
  z_repr := He.free_ok X G (c.d.fact 23 (f := .free "repr") rfl)
  z_str := He.free_ok X G (c.d.fact 24 (f := .free "str") rfl)
  z_tuple := He.free_ok X G (c.d.fact 25 (f := .free "tuple") rfl)
  g_Style := He.glo_ok X G (c.d.fact 26 (f := .glo "Style") rfl)
  cl_Style := He.cls_ok (c.d.fact 27 (f := .cls "Style") rfl)
  mk_Style := He.mkr_ok (c.d.fact 28 (f := .mkr "Style") rfl)
  n_Style_called := He.noat_ok (c.d.fact 29 (f := .noat "Style" "called") rfl)
  n_Style_step_rows := He.noat_ok (c.d.fact 30 (f := .noat "Style" "step_rows") rfl)
  g_Line := He.glo_ok X G (c.d.fact 31 (f := .glo "Line") rfl)
  cl_Line := He.cls_ok (c.d.fact 32 (f := .cls "Line") rfl)
  mk_Line := He.mkr_ok (c.d.fact 33 (f := .mkr "Line") rfl)
  n_Line_left_words := He.noat_ok (c.d.fact 34 (f := .noat "Line" "left_words") rfl)
  n_Line_on_row := He.noat_ok (c.d.fact 35 (f := .noat "Line" "on_row") rfl)
  n_Line_taken := He.noat_ok (c.d.fact 36 (f := .noat "Line" "taken") rfl)
  g_BadValue := He.glo_ok X G (c.d.fact 37 (f := .glo "BadValue") rfl)
  g_BadText := He.glo_ok X G (c.d.fact 38 (f := .glo "BadText") rfl)
  g_NoSuch := He.glo_ok X G (c.d.fact 39 (f := .glo "NoSuch") rfl)
  g_TooMany := He.glo_ok X G (c.d.fact 40 (f := .glo "TooMany") rfl)
  g_is_whole := He.glo_ok X G (c.d.fact 41 (f := .glo "is_whole") rfl)
  g_is_name := He.glo_ok X G (c.d.fact 42 (f := .glo "is_name") rfl)
  g_kind_of := He.glo_ok X G (c.d.fact 43 (f := .glo "kind_of") rfl)
  g_is_step := He.glo_ok X G (c.d.fact 44 (f := .glo "is_step") rfl)
  g_number_of := He.glo_ok X G (c.d.fact 45 (f := .glo "number_of") rfl)
  g_words_of := He.glo_ok X G (c.d.fact 46 (f := .glo "words_of") rfl)
  g_are_steps := He.glo_ok X G (c.d.fact 47 (f := .glo "are_steps") rfl)
  m_Style_step := He.meth_ok (c.d.fact 48 (f := .meth "Style" "step") rfl)
  m_Style_put_in := He.meth_ok (c.d.fact 49 (f := .meth "Style" "put_in") rfl)
  m_Line_ahead := He.meth_ok (c.d.fact 50 (f := .meth "Line" "ahead") rfl)
  m_Line_take := He.meth_ok (c.d.fact 51 (f := .meth "Line" "take") rfl)
  m_Line_take_word := He.meth_ok (c.d.fact 52 (f := .meth "Line" "take_word") rfl)
  m_Line_take_name := He.meth_ok (c.d.fact 53 (f := .meth "Line" "take_name") rfl)
  m_Line_take_number := He.meth_ok (c.d.fact 54 (f := .meth "Line" "take_number") rfl)
  m_Line_over := He.meth_ok (c.d.fact 55 (f := .meth "Line" "over") rfl)
  g_rows_of := He.glo_ok X G (c.d.fact 56 (f := .glo "rows_of") rfl)
  g_read_style := He.glo_ok X G (c.d.fact 57 (f := .glo "read_style") rfl)
  g_law_mixed := He.glo_ok X G (c.d.fact 58 (f := .glo "_law_mixed") rfl)
  g_law_folded := He.glo_ok X G (c.d.fact 59 (f := .glo "_law_folded") rfl)
  g_law_draw := He.glo_ok X G (c.d.fact 60 (f := .glo "_law_draw") rfl)
  g_law_begun := He.glo_ok X G (c.d.fact 61 (f := .glo "_law_begun") rfl)
  g_law_called := He.glo_ok X G (c.d.fact 62 (f := .glo "_law_called") rfl)
  g_law_caught := He.glo_ok X G (c.d.fact 63 (f := .glo "_law_caught") rfl)
  g_law_families := He.glo_ok X G (c.d.fact 64 (f := .glo "_law_families") rfl)
  g_law := He.glo_ok X G (c.d.fact 65 (f := .glo "law") rfl)
  k_BARRED_WORDS := fun H => He.tupB_ok (c.ask 0 rfl) H
  k_KINDS := ktab_of (dk := fun K => He.ga K "KINDS") (kvs := [("sew", "hand"), ("glue", "hand"), ("cover", "hand"), ("letter", "hand"), ("press", "press")]) c.t 0 rfl (c.ask 1 rfl)
  e_BadValue := errOkB_ok (c.ask 2 rfl)
  e_BadText := errOkB_ok (c.ask 3 rfl)
  e_NoSuch := errOkB_ok (c.ask 4 rfl)
  e_TooMany := errOkB_ok (c.ask 5 rfl)
  cf_BadValue_init := clsFnB_ok (c.ask 6 rfl)
  kit := errKitB_ok (c.ask 7 rfl)
  kit2 := errKit2B_ok (c.ask 9 rfl)
  tn := of_decide_eq_true (c.ask 8 rfl)
  d_BadValue_init := c.d.def_ 0 (d := dd_BadValue_init) rfl
  d_BadText_init := c.d.def_ 1 (d := dd_BadText_init) rfl
  d_NoSuch_init := c.d.def_ 2 (d := dd_NoSuch_init) rfl
  d_TooMany_init := c.d.def_ 3 (d := dd_TooMany_init) rfl
  d_is_whole := c.d.def_ 4 (d := dd_is_whole) rfl
  d_is_name := c.d.def_ 5 (d := dd_is_name) rfl
  d_kind_of := c.d.def_ 6 (d := dd_kind_of) rfl
  d_is_step := c.d.def_ 7 (d := dd_is_step) rfl
  d_number_of := c.d.def_ 8 (d := dd_number_of) rfl
  d_words_of := c.d.def_ 9 (d := dd_words_of) rfl
  d_are_steps := c.d.def_ 10 (d := dd_are_steps) rfl
  d_Style_init := c.d.def_ 11 (d := dd_Style_init) rfl
  d_Style_step := c.d.def_ 12 (d := dd_Style_step) rfl
  d_Style_put_in := c.d.def_ 13 (d := dd_Style_put_in) rfl
  d_Line_init := c.d.def_ 14 (d := dd_Line_init) rfl
  d_Line_ahead := c.d.def_ 15 (d := dd_Line_ahead) rfl
  d_Line_take := c.d.def_ 16 (d := dd_Line_take) rfl
  d_Line_take_word := c.d.def_ 17 (d := dd_Line_take_word) rfl
  d_Line_take_name := c.d.def_ 18 (d := dd_Line_take_name) rfl
  d_Line_take_number := c.d.def_ 19 (d := dd_Line_take_number) rfl
  d_Line_over := c.d.def_ 20 (d := dd_Line_over) rfl
  d_rows_of := c.d.def_ 21 (d := dd_rows_of) rfl
  d_read_style := c.d.def_ 22 (d := dd_read_style) rfl
  d_law_mixed := c.d.def_ 23 (d := dd_law_mixed) rfl
  d_law_folded := c.d.def_ 24 (d := dd_law_folded) rfl
  d_law_draw := c.d.def_ 25 (d := dd_law_draw) rfl
  d_law_begun := c.d.def_ 26 (d := dd_law_begun) rfl
  d_law_called := c.d.def_ 27 (d := dd_law_called) rfl
  d_law_caught := c.d.def_ 28 (d := dd_law_caught) rfl
  d_law_families := c.d.def_ 29 (d := dd_law_families) rfl
  d_law := c.d.def_ 30 (d := dd_law) rfl
end Bz
open PySem PySem.W PySem.Calls PyProof.Rows
theorem PySem.Challenge.cw_bindbench_k03_families_of_refusals_holds : PySem.Challenge.rw_bindbench_k03_families_of_refusals.Holds := by
  w_on; o_law
  refine HandSHeadRun.head_any (r := Bz.RR) (q := view Bz.RR.prog [36]) (H := Bz.hkL) (ob := Bz.obL) (M := 8000) (loose := Bz.looseL) (d := HandSHeadRun.topDef Bz.RR.prog 36) (kwd := []) Bz.obL_eq
    (by kernel_rfl) (fun s => by kernel_rfl) Bz.runL (by kernel_rfl) (by kernel_rfl) (by kernel_rfl) (by rfl) (by first | assumption | decide +kernel) (by decide +kernel) ⟨rfl, rfl, rfl, rfl, rfl, by decide +kernel⟩ ?hw ?hc
  case hw => w_witness2
  case hc =>
    refine Bz.walk_ofGT (l := PySem.Challenge.rw_bindbench_k03_families_of_refusals) (n := 63) (k := 9) (x := "script") (CX := L2.CX0) rfl (by decide) (by kernel_rfl) ⟨rfl, by decide, by decide⟩ ?F (fun _ _ _ _ z => z)
    intro w mg fa h Y G hmg0
    obtain ⟨K, KX, c, q1, q2, q3⟩ := Y
    have T := Bz.txt_of KX G c
    have hmg : mg ("law" : PySem.Str) = some (.ref fa) := by
      have e : (HandSHeadRun.topDef Bz.RR.prog 36).name = ("law" : PySem.Str) := by kernel_rfl
      rw [← e]
      exact hmg0
    have e := hmg.symm.trans T.g_law
    cases e
    obtain ⟨fd0, F0⟩ := T.d_law
    refine ⟨K, fd0, Bz.sp_law K, Bz.tfL.map (He.cT K), KX, fun p hp => by obtain ⟨q, hq, e⟩ := List.mem_map.mp hp; rw [← e]; exact q3 q hq, fun p hp => by obtain ⟨q, hq, e⟩ := List.mem_map.mp hp; rw [← e]; exact q2 q hq, fun p hp => ?_, fun s u => L2.FunD.bindsA (ps := ["script"]) F0 (fun _ _ _ _ _ _ us hl => match us, hl with | [_], _ => rfl) s [u] rfl, Bz.law_asked T.tn, fun base KB _ TBs => ?_⟩
    · obtain ⟨q, hq, e⟩ := List.mem_map.mp hp
      rw [← e]
      exact PySem.W.codeHd_of_K KX (q1 q hq)
    have T : Bz.TxtT K w mg base := { toTxt := T, t_law := TBs _ (List.mem_map.mpr ⟨_, List.Mem.head _, rfl⟩) }
    obtain ⟨fd, F, g⟩ := Bz.ok_law (P := (PySem.Challenge.rw_bindbench_k03_families_of_refusals).prog) (w := w) (base := base) T
    obtain ⟨_, _, _, _, _, _, _, _, _, _, e1, l1, _⟩ := F0.ex
    obtain ⟨_, _, _, _, _, _, _, _, _, _, e2, l2, _⟩ := F.ex
    have e3 := l1.symm.trans l2
    cases e3
    exact g
