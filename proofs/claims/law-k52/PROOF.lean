import PyProof.Rows.All
import HandS.ForMost
import HandS.Defaults
import HandS.IsInst
import HandS.StrMore
import HandS.Wide
import HandS.WideBits
import HandS.HeadHook3
import HandS.HeadEnd
import HandS.Head2
import PyProof.ReprNest
import HandS.TupAny
import HandS.Style
import PyProof.NeKinds
import HandS.Walk
import HandS.TupMul
import HandS.Text
import KE.IntTextLaws
import PyProof.ReprLen
import HandS.MakeKw
import HandS.Zip
import HandS.SortInts
import KE.GoesMore
import HandS.SortKw
import HandS.SlotsOwn
import PyProof.Rows.Range3
import PyProof.CallStr
import OpenK.KOps
import PyProof.FactsAll.dict
import PyProof.MeetsIn
import PyProof.EqAt
import HandS.OwnEq
import HandS.FStr
import HandS.HeadHook1
import HandS.TryOnly
import HandS.More
import HandS.Exc
import HandS.ExcInit
import KE.KTryMore
import HandS.ExcIs
import HandS.ExcField
import KE.KExcIs
import HandS.Lambda
import HandS.Ends
import HandS.HeadHook4
import HandS.HeadWalk
import HandS.EndTab
import PyProof.ExcBaseAll.LookupError
import PyProof.ExcBaseAll.OverflowError
import PyProof.ExcBaseAll.RuntimeError
import PyProof.ExcBaseAll.Exception
import PyProof.ExcBaseAll.ValueError
import KE.KDictDisplayH
import HandS.Conv
import KE.SortKeyHeap
import HandS.Keys
import HandS.ExcValue
import HandS.Deep
import KE.KMinKey
import KE.KRevSl
import KE.DatumOrd
import HandS.SetFor
import HandS.TupSets
import HandS.SetKeys
import KE.SortCalls
import KE.DataCmp
import KE.DataMinKey
import KE.KDictPairs
import PySem.Challenge.RW_bindbench_k52_slots_that_fit
set_option Elab.async false
set_option linter.all false
set_option maxRecDepth 100000
set_option maxHeartbeats 4000000
namespace Bz
open PySem PySem.Spec PyProof.Rows L2
structure FnG (P : Program) (w : World) (K : PySem.W.Frag) (mg : Str → Option Value) (base : Heap) (CX : CXT)
    (k : Nat) (f : Addr) (fd : FuncData) (ps : List Str) (sp : Sp) : Prop where
  len : ∀ vs H Q E, sp vs H Q E → vs.length = ps.length
  go : ∀ (A : Around) (outer : List Env) (s : Shared) (H : Hp) (args : Args) (us : List Value) (vs : List V) (Q : VK) (E : XK),
    Room k A → A.guards = some [] → Env0 P w K mg base A outer s H → BindsTo s fd args (ps.zip us) → Vals vs us →
    sp vs H Q E → codeAny (model P w) A (.call (.ref f) args) (CR CX outer P w H s Q E) s
section
variable {P : Program} {w : World} {K : PySem.W.Frag} {mg : Str → Option Value} {base : Heap} {CX : CXT}
variable {k : Nat} {f : Addr} {fd : FuncData} {ps : List Str} {sp : Sp}
theorem FnG.of (F : FnOk P w K mg base CX k f fd ps sp) : FnG P w K mg base CX k f fd ps sp :=
  ⟨F.len, fun A o s H a us vs Q E r _ e b v q => F.run A o s H a us vs Q E r e b v q⟩
theorem FnG.mono {j : Nat} (F : FnG P w K mg base CX j f fd ps sp) (h : j ≤ k) : FnG P w K mg base CX k f fd ps sp :=
  ⟨F.len, fun A o s H a us vs Q E r g e b v q => F.go A o s H a us vs Q E (r.mono h) g e b v q⟩
theorem guards_deeper {A : Around} {env : Env} (h : A.guards = some []) : (A.deeper env).guards = some [] := h
theorem guards_make {A : Around} {a : Args} (h : A.guards = some []) : (A.under (.builtin "type.__call__" a)).guards = some [] := by
  have e : (Code.builtin "type.__call__" a).isGuard = false := by
    show guardIds.contains "type.__call__" = false
    decide +kernel
  simp [Around.under, Code.guards, e, h, pushGuards]
/-- a def by its body -/
theorem fnG_of {N : List Str} {x qual : Str} {params : Arguments} {body : List Stmt} {scope : Scope} {dvs : List V} {kws : List (Str × V)}
    (F : FunD K x qual params body scope dvs kws f fd) (S : FnScope N ps scope) (len : ∀ vs H Q E, sp vs H Q E → vs.length = ps.length)
    (hb : ∀ (cdv : Value) (A : Around) (outer : List Env) (s : Shared) (H : Hp) (vs : List V) (Q : VK) (E : XK),
      Room k (A.deeper (envOfC qual scope s.heap.objs.size f cdv)) → (A.deeper (envOfC qual scope s.heap.objs.size f cdv)).guards = some [] → sp vs H Q E →
      ∃ t, PSs (cxOf CX P w K mg base N qual scope f cdv A outer s H E) body t ∧ t { nx := fun _ H' => Q .non H', rt := Q } (start N vs) H) :
    FnG P w K mg base CX (k + 1) f fd ps sp := by
  obtain ⟨oc, od, dV, kV, doc, pm, an, cdv, ct, osl, rfl, lk, hcd, _, _⟩ := F.ex
  refine ⟨len, fun A outer s H args us vs Q E hr hg e0 bnd rv hq => ?_⟩
  have KX : K.In s.heap := e0.mod.kin.keeps fun b o e => (e0.bs b o e).1
  refine codeAny_call_function hr.depth (KX _ _ lk) rfl S.co S.gen rfl (PySem.W.codeRec_of KX hcd) (bnd _ _ _ _ ?_)
  refine wpAny_newFunctionEnv_cells S.kind ?_ ?_
  · rintro ⟨n, v⟩ hy
    rcases S.par n (List.of_mem_zip hy).1 with q | q
    · exact Or.inl q
    · exact Or.inr ⟨q, PySem.W.cellsFrom_some _ _ _ (Or.inl q)⟩
  · intro env he s1 x
    subst he
    have lim : s.heap.NoLimit := e0.mod.nolimit.keeps fun b o e => (e0.bs b o e).1
    refine ⟨lim.keeps x.toInCall.keep, codeAny_func ?_⟩
    obtain ⟨t, ht, q⟩ := hb cdv A outer s H vs Q E (hr.deeper _) (guards_deeper hg) hq
    have I := inv_start (CX := CX) (E := E) S hr.hd e0 (len _ _ _ _ hq) rv x
    refine wpAny_mono (ht.run [] s1 (start N vs) H _ I q) ?_ (fun _ _ z => z)
    intro fl s' z
    cases fl with
    | ret u =>
      obtain ⟨v, σ', H', J, r, q'⟩ := z
      exact ⟨v, H', J.os, J.bare, J.base, J.hok, r, q'⟩
    | next =>
      obtain ⟨σ', H', J, q'⟩ := z
      exact ⟨V.non, H', J.os, J.bare, J.base, J.hok, rfl, q'⟩
    | brk => exact z.elim fun _ z => z.elim fun _ z => z.2.elim
    | cont => exact z.elim fun _ z => z.elim fun _ z => z.2.elim
end
section
variable {X : Cx} {CX : CXT} {k : Nat} {f C : Addr} {fd : FuncData} {ps : List Str} {sp : Sp} {dvs : List V} {ds : List Value} {E : XK}
theorem run_g {pins : List (Addr × Obj)} {σ : L2.St} {H : Hp} {s : Shared} {Q : VK} {args : Args} {us : List Value} {vs : List V}
    (F : FnG X.prog X.w X.K X.mg X.base CX k f fd ps sp) (hr : Room k X.A) (hg : X.A.guards = some []) (hx : Passes CX X E)
    (I : Inv X pins σ H s) (b : BindsTo s fd args (ps.zip us)) (r : Vals vs us) (h : sp vs H Q E) :
    wpAny (model X.prog X.w) X.A (call (.ref f) args.pos args.kw) (EP X pins σ Q) X.xe s := by
  refine wpAny_call (codeAny_mono (F.go X.A X.stack s H args us vs Q E hr hg I.env0 b r h) ?_)
  intro r s' z
  cases r with
  | error e => exact hx pins σ H s e s' I z
  | ok fl =>
    cases fl with
    | ret u => exact I.after z
    | next => exact False.elim z
    | brk => exact False.elim z
    | cont => exact False.elim z
end
def nth {α : Type} (d : α) : List α → Nat → α
  | [], _ => d
  | a :: _, 0 => a
  | _ :: l, n + 1 => nth d l n
def pick {α : Type} (d : α) : List Nat → List α → List α
  | [], _ => []
  | i :: r, l => nth d l i :: pick d r l
theorem nth_rel : ∀ {l : List V} {u : List Value} (i : Nat), Vals l u → RelV (nth .non l i) (nth .none u i)
  | _, _, _, .nil => rfl
  | _, _, 0, .cons r _ => r
  | _, _, i + 1, .cons _ t => nth_rel i t
theorem pick_rel {l : List V} {u : List Value} (r : Vals l u) : ∀ ix : List Nat, Vals (pick .non ix l) (pick .none ix u)
  | [] => .nil
  | i :: ix => .cons (nth_rel i r) (pick_rel r ix)
section
variable {K : PySem.W.Frag} {x qual : Str} {params : Arguments} {body : List Stmt} {scope : Scope} {dvs : List V} {kws : List (Str × V)} {f : Addr} {fd : FuncData} {ps : List Str}
/-- how a call binds: n places, keywords ks, no defaults -/
theorem kb0 (F : FunD K x qual params body scope [] kws f fd) (n : Nat) (ks : List Str) (ix : List Nat)
    (h : ∀ (kV doc pm : Value) (an : Option Addr) (cdv ct : Value) (us ws : List Value), us.length = n → ws.length = ks.length →
      bindArgs (PySem.W.fnOf x qual params body scope .none kV doc pm an cdv ct) ⟨us, ks.zip ws⟩ = pure (ps.zip (pick .none ix (us ++ ws)))) :
    ∃ g, KBn K fd ps n ks g (fun vs zs => pick .non ix (vs ++ zs)) := by
  obtain ⟨oc, od, dV, kV, doc, pm, an, cdv, ct, osl, rfl, lk, hcd, hD, hK⟩ := F.ex
  rcases hD with ⟨_, rfl⟩ | ⟨e, _⟩
  · exact ⟨fun us ws => pick .none ix (us ++ ws), fun s us ws _ l1 l2 => .of_eq (h kV doc pm an cdv ct us ws l1 l2), fun r1 r2 => pick_rel (r1.append r2) ix⟩
  · exact absurd rfl e
theorem kb1 (F : FunD K x qual params body scope dvs kws f fd) (hd : dvs ≠ []) (n : Nat) (ks : List Str) (ix : List Nat)
    (h : ∀ (T : Addr) (kV doc pm : Value) (an : Option Addr) (cdv ct : Value) (us ws its : List Value), us.length = n → ws.length = ks.length → its.length = dvs.length →
      ∃ k, bindArgs (PySem.W.fnOf x qual params body scope (.ref T) kV doc pm an cdv ct) ⟨us, ks.zip ws⟩ = seqItems? (.ref T) >>= k ∧ k (some its.toArray) = pure (ps.zip (pick .none ix (us ++ (ws ++ its))))) :
    ∃ g, KBn K fd ps n ks g (fun vs zs => pick .non ix (vs ++ (zs ++ dvs))) := by
  obtain ⟨oc, od, dV, kV, doc, pm, an, cdv, ct, osl, rfl, lk, hcd, hD, hK⟩ := F.ex
  rcases hD with ⟨e, _⟩ | ⟨_, T, o, its, m, rfl, lT, oT, rT⟩
  · exact absurd e hd
  · refine ⟨fun us ws => pick .none ix (us ++ (ws ++ its)), fun s us ws X l1 l2 => ?_, fun r1 r2 => pick_rel (r1.append (r2.append rT)) ix⟩
    obtain ⟨k, e1, e2⟩ := h T kV doc pm an cdv ct us ws its l1 l2 rT.length.symm
    refine L2.BindsTo.of_looks fun M => ?_
    rw [e1]
    exact looks_items X lT oT (.of_pure e2)
end
def tCl (n m : Nat) (sp : Sp) (gV : List V → List V → List V) (E : XK) (t tk : TA) : TE :=
  fun σ H Q => t σ H fun vs H1 => tk σ H1 fun zs H2 => vs.length = n ∧ zs.length = m ∧ sp (gV vs zs) H2 Q E
section
variable {X : Cx} {CX : CXT} {k n : Nat} {f C : Addr} {fd : FuncData} {ps ks : List Str} {sp : Sp} {E : XK} {x : Str} {p pos : Pos} {e : Expr} {es : List Expr} {kws : List Keyword} {t tk : TA}
variable {g : List Value → List Value → List Value} {gV : List V → List V → List V}
theorem run_gn {pins : List (Addr × Obj)} {σ : L2.St} {H : Hp} {s : Shared} {Q : VK} {us ws : List Value} {vs zs : List V}
    (F : FnG X.prog X.w X.K X.mg X.base CX k f fd ps sp) (hr : Room k X.A) (hg : X.A.guards = some []) (hb : KBn X.K fd ps n ks g gV) (hx : Passes CX X E)
    (I : Inv X pins σ H s) (r : Vals vs us) (rz : Vals zs ws) (l1 : vs.length = n) (l2 : zs.length = ks.length) (h : sp (gV vs zs) H Q E) :
    wpAny (model X.prog X.w) X.A (call (.ref f) us (ks.zip ws)) (EP X pins σ Q) X.xe s :=
  run_g (args := ⟨us, ks.zip ws⟩) F hr hg hx I (hb.to s us ws I.kIn (r.length.symm.trans l1) (rz.length.symm.trans l2)) (hb.rel r rz) h
/-- f(e, .., k = v, ..) with a place at least -/
theorem pe_cl (F : FnG X.prog X.w X.K X.mg X.base CX k f fd ps sp) (hr : Room k X.A) (hg : X.A.guards = some []) (gl : Gl X x) (hm : X.mg x = some (.ref f))
    (hk : PySem.W.keepIn X.K (.ref f) = true) (hb : KBn X.K fd ps n ks g gV) (hx : Passes CX X E) (ha : PA X (e :: es) t) (hkw : PK X kws tk)
    (h1 : (backToKw pos (keywordEach kws X.env)).all (·.1.isSome) = true := by rfl) (h2 : (backToKw pos (keywordEach kws X.env)).filterMap (·.1) = ks := by rfl)
    (h3 : (x == ("__debug__" : Str)) = false := by decide) (h4 : starEach (e :: es) X.env = (false, eval e X.env) :: starEach es X.env := by rfl)
    (h5 : ((backTo pos (starEach (e :: es) X.env)).any (·.1) || (backToKw pos (keywordEach kws X.env)).any (·.1.isNone)) = false := by rfl) :
    PE X (.Call (.Name x p) (e :: es) kws pos) (tCl n ks.length sp gV E t tk) := ⟨fun pins s σ H Q I h => by
  refine wpAny_Call_Name_kw (ld_glob I gl hm ?_ h3)
  refine PySem.W.callWith_KW (h₀ := X.base) I.ok.mod.kin hk h1 (thn (ha.run pos pins s σ H _ I h) ?_) h5 h4
  rintro us s1 ⟨vs, H1, I1, r, q⟩
  refine thn (hkw.run pos pins s1 σ H1 _ I1 q) ?_
  rintro ws s2 ⟨zs, H2, I2, rz, l1, l2, q2⟩
  refine ⟨I2.kIn, ?_⟩
  rw [h2]
  exact run_gn F hr hg hb hx I2 r rz l1 l2 q2⟩
end
section
variable {X : Cx}
abbrev rAddI : R2 := rI0 fun i j => .int (i + j)
def rAddS : R2 := fun x y H Q => ∃ i j, x = .str i ∧ y = .str j ∧ i.length + j.length ≤ sizeLine ∧ Q (.str (i ++ j)) H
def rAddA (K : PySem.W.Frag) : R2 := fun x y H Q => rAddI x y H Q ∨ rAddS x y H Q ∨ rCat x y H Q ∨ L2.rCatA K x y H Q
theorem op_addA : OpR X (binaryOp .Add) (rAddA X.K) := OpR.or op_add (OpR.or op_add_str (OpR.or op_cat op_catA))
/-- text * number, the number 0 or more -/
def repS (x : Str) (n : Nat) : Str := ⟨(List.replicate n x.cps.toList).flatten.toArray⟩
theorem repS_fold (a : Array Nat) : ∀ (n : Nat) (acc : Array Nat), (List.replicate n a).foldl (· ++ ·) acc = acc ++ (List.replicate n a.toList).flatten.toArray
  | 0, acc => by simp
  | n + 1, acc => by
    rw [List.replicate_succ, List.foldl_cons, repS_fold a n, List.replicate_succ, List.flatten_cons]
    apply Array.ext'
    simp
def rMulS : R2 := fun x y H Q => ∃ (z : Str) (n : Nat), x = .str z ∧ y = .int n ∧ z.length * n ≤ 16777216 ∧ 1 < n ∧ 0 < z.length ∧ Q (.str (repS z n)) H
theorem op_mulS : OpR X (binaryOp .Mult) rMulS := by
  intro pins s σ H x y v u Q I rx ry h
  obtain ⟨z, n, rfl, rfl, hz, h1, h0, q⟩ := h
  obtain ⟨t, rfl⟩ := rx
  obtain ⟨t', rfl⟩ := ry
  have hn : n ≤ 16777216 := Nat.le_trans (Nat.le_mul_of_pos_left n h0) hz
  have e1 : ((n : Int) == 1 || z.length == 0) = false := by
    have a : ((n : Int) == 1) = false := beq_eq_false_iff_ne.mpr (by omega)
    have b : (z.length == 0) = false := beq_eq_false_iff_ne.mpr (by omega)
    rw [a, b]
    rfl
  have hl : z.length ≤ 16777216 := Nat.le_trans (Nat.le_mul_of_pos_right _ (by omega)) hz
  refine PySem.P.mul_str (by rw [decide_eq_false (by omega), decide_eq_false (by omega)]; rfl) (fun _ _ hc => ?_) (fun _ _ => ?_) ?_
  · have h2 : (2 ^ 63 - 1 : Int) / (n : Int) ≥ (2 ^ 63 - 1) / 16777216 := by
      rw [ge_iff_le, Int.le_ediv_iff_mul_le (by omega)]
      have : ((2 ^ 63 - 1 : Int) / 16777216) * (n : Int) ≤ (2 ^ 63 - 1) / 16777216 * 16777216 := Int.mul_le_mul_of_nonneg_left (by omega) (by decide)
      omega
    have h3 : ((2 ^ 63 - 1 : Int) / 16777216) = 549755813887 := by decide
    omega
  · show decide _ = false
    rw [Int.toNat_natCast]
    refine decide_eq_false ?_
    have e := sizeLine_eq
    omega
  · rw [if_neg (by omega), if_neg (by rw [e1]; exact Bool.false_ne_true), Int.toNat_natCast]
    have e2 : (⟨(List.replicate n z.cps).foldl (· ++ ·) #[]⟩ : Str) = repS z n := by
      unfold repS
      rw [repS_fold]
      simp
    rw [e2]
    refine ⟨?_, ⟨.str (repS z n), H, I.tok _, ⟨_, rfl⟩, q⟩⟩
    show (repS z n).cps.size ≤ sizeLine
    unfold repS
    rw [List.size_toArray, PyProof.Rows.lm_len_rep_flat, sizeLine_eq]
    have : z.cps.toList.length = z.length := by simp [Str.length]
    rw [this, Nat.mul_comm]
    exact hz
def rMulA : R2 := fun x y H Q => rI CMul (fun i j => .int (i * j)) x y H Q ∨ rMulS x y H Q ∨ rRep x y H Q
theorem op_mulA : OpR X (binaryOp .Mult) rMulA := OpR.or op_mul (OpR.or op_mulS op_rep)
/-- what is the very same at two places, or a scalar -/
def plainV : V → Bool
  | .ref _ => true
  | .int _ => true
  | .str _ => true
  | .bl _ => true
  | .non => true
  | _ => false
theorem eqAt_same {A : Around} {s : Shared} {v : V} {u u' : Value} (h : plainV v = true) (r : RelV v u) (r' : RelV v u') : SeqAt.EqAt A s u u' true := by
  cases v with
  | ref a =>
    cases r
    cases r'
    exact SeqAt.EqAt.same _
  | int i =>
    obtain ⟨t, rfl⟩ := r
    obtain ⟨t', rfl⟩ := r'
    have := SeqAt.EqAt.int_int (A := A) (s := s) i t i t'
    rwa [beq_self_eq_true] at this
  | str z =>
    obtain ⟨t, rfl⟩ := r
    obtain ⟨t', rfl⟩ := r'
    have := SeqAt.EqAt.str_str (A := A) (s := s) z t z t'
    rwa [beq_self_eq_true] at this
  | bl b =>
    cases r
    cases r'
    exact SeqAt.EqAt.same _
  | non =>
    cases r
    cases r'
    exact SeqAt.EqAt.same _
  | _ => cases h
theorem nth_arr {d : Value} : ∀ {l : List Value} {j : Nat} (h : j < l.toArray.size), l.toArray[j] = nth d l j
  | [], j, h => absurd h (by simp)
  | a :: l, 0, _ => rfl
  | a :: l, j + 1, h => by
    have h' : j < l.toArray.size := by simpa using h
    have := nth_arr (d := d) h'
    simpa [nth] using this
theorem plain_nth : ∀ {xs : List V} (j : Nat), xs.all plainV = true → plainV (nth .non xs j) = true
  | [], _, _ => rfl
  | x :: xs, 0, h => by
    rw [List.all_cons, Bool.and_eq_true] at h
    exact h.1
  | x :: xs, j + 1, h => by
    rw [List.all_cons, Bool.and_eq_true] at h
    exact plain_nth j h.2
def rEqI (K : PySem.W.Frag) : R2 := fun x y H Q => ∃ a b xs, x = .ref a ∧ y = .ref b ∧ SqT K H a xs ∧ SqT K H b xs ∧ xs.all plainV = true ∧ Q (.bl true) H
def rNeI (K : PySem.W.Frag) : R2 := fun x y H Q => ∃ a b xs, x = .ref a ∧ y = .ref b ∧ SqT K H a xs ∧ SqT K H b xs ∧ xs.all plainV = true ∧ Q (.bl false) H
theorem eqI_items {A : Around} {s : Shared} {xs : List V} {ia ib : List Value} (ra : Vals xs ia) (rb : Vals xs ib) (hp : xs.all plainV = true) : ∀ j (h1 : j < ia.toArray.size) (h2 : j < ib.toArray.size), SeqAt.EqAt A s ia.toArray[j] ib.toArray[j] true := by
  intro j h1 h2
  rw [nth_arr (d := .none) h1, nth_arr (d := .none) h2]
  exact eqAt_same (plain_nth j hp) (nth_rel j ra) (nth_rel j rb)
theorem eqI_all {xs : List V} {ia ib : List Value} (ra : Vals xs ia) (rb : Vals xs ib) : ((List.range (min ia.toArray.size ib.toArray.size)).all (fun _ => true) && ia.toArray.size == ib.toArray.size) = true := by
  rw [Bool.and_eq_true]
  refine ⟨List.all_eq_true.mpr fun _ _ => rfl, ?_⟩
  rw [List.size_toArray, List.size_toArray, ← ra.length, ← rb.length]
  exact beq_self_eq_true _
theorem op_eqI {k : Nat} (hr : Room k X.A) : OpR X (compareOp .Eq) (rEqI X.K) := by
  intro pins s σ H x y v u Q I rx ry h
  obtain ⟨a, b, xs, rfl, rfl, ha, hb, hp, q⟩ := h
  cases rx
  cases ry
  obtain ⟨ia, ra, ta, _⟩ := I.tuple ha
  obtain ⟨ib, rb, tb, _⟩ := I.tuple hb
  have hu := hr.units
  refine SeqAt.eq_tupleAt (e := fun _ => true) ta tb (by omega) (eqI_items ra rb hp) ?_
  rw [eqI_all ra rb]
  exact ⟨.bl true, H, I, rfl, q⟩
theorem op_neI {k : Nat} (hr : Room k X.A) : OpR X (compareOp .NotEq) (rNeI X.K) := by
  intro pins s σ H x y v u Q I rx ry h
  obtain ⟨a, b, xs, rfl, rfl, ha, hb, hp, q⟩ := h
  cases rx
  cases ry
  obtain ⟨ia, ra, ta, _⟩ := I.tuple ha
  obtain ⟨ib, rb, tb, _⟩ := I.tuple hb
  have hu := hr.units
  refine SeqAt.RcNeAt.tuples (e := fun _ => true) ta tb (by omega) (eqI_items ra rb hp) X.prog X.w _ _ ?_
  rw [eqI_all ra rb]
  exact ⟨.bl false, H, I, rfl, q⟩
def rEqA (K : PySem.W.Frag) : R2 := fun x y H Q => rEq x y H Q ∨ rEqD K x y H Q ∨ rEqI K x y H Q
def rNeA (K : PySem.W.Frag) : R2 := fun x y H Q => rNe x y H Q ∨ rNeD K x y H Q ∨ rNeI K x y H Q
theorem op_eqA {k : Nat} (hr : Room k X.A) : OpR X (compareOp .Eq) (rEqA X.K) := OpR.or op_eq (OpR.or (op_eqD hr.units) (op_eqI hr))
theorem op_neA {k : Nat} (hr : Room k X.A) : OpR X (compareOp .NotEq) (rNeA X.K) := OpR.or op_ne (OpR.or (op_neD hr.units) (op_neI hr))
def rInSg : R2 := fun x y H Q => ∃ (c : Nat) (z : Str), x = .str ⟨#[c]⟩ ∧ y = .str z ∧ Q (.bl (decide (c ∈ z.cps.toList))) H
def rNotInSg : R2 := fun x y H Q => ∃ (c : Nat) (z : Str), x = .str ⟨#[c]⟩ ∧ y = .str z ∧ Q (.bl (!decide (c ∈ z.cps.toList))) H
def rInA (K : PySem.W.Frag) : R2 := fun x y H Q => rIn K false x y H Q ∨ rInSg x y H Q
def rNotInA (K : PySem.W.Frag) : R2 := fun x y H Q => rIn K true x y H Q ∨ rNotInSg x y H Q
theorem op_inA : OpR X (compareOp .In) (rInA X.K) := OpR.or op_in_seq op_in_sign
def rRepr (K : PySem.W.Frag) : List V → Hp → VK → Prop := fun xs H Q => ∃ a d, xs = [a] ∧ Dp K H a d ∧ d.showable = true ∧ d.hasDict = false ∧ d.shown.length ≤ sizeLine ∧ d.depth ≤ 60 ∧ Q (.str d.shown) H
theorem call_repr {k : Nat} (hr : Room k X.A) (hg : X.A.guards = some []) : CallR X (.builtin "repr") (rRepr X.K) := by
  intro pins s σ H xs us Q I r h
  obtain ⟨a, d, rfl, hd, hs, hn, hz, hw, q⟩ := h
  obtain ⟨u, rfl, ru⟩ := vals1 r
  obtain ⟨as, rd⟩ := Dp.reads I d a u hd ru
  have := hr.units
  cases hd with
  | non =>
    cases ru
    refine PySem.P.repr_of_none ⟨.str _, H, I.tok _, ⟨_, rfl⟩, ?_⟩
    simpa only [PyData.shown] using q
  | bl b =>
    cases ru
    refine PySem.P.repr_of_bool ⟨.str _, H, I.tok _, ⟨_, rfl⟩, ?_⟩
    simpa only [PyData.shown] using q
  | int i =>
    obtain ⟨t, rfl⟩ := ru
    refine PySem.P.repr_of_int (by simpa [PyData.showable] using hs) ⟨.str _, H, I.tok _, ⟨_, rfl⟩, ?_⟩
    simpa only [PyData.shown] using q
  | str x =>
    obtain ⟨t, rfl⟩ := ru
    refine PySem.P.repr_of_str ⟨.str _, H, I.tok _, ⟨_, rfl⟩, ?_⟩ (by simpa only [PyData.shown] using hz)
    simpa only [PyData.shown] using q
  | lst h1 h2 =>
    cases ru
    exact repr_of_reads' rd hs (PyData.noDict_hsm hn) hg (by omega) (fun _ _ e => e) (fun h' u tk kp => ⟨.str _, H, I.kept kp, ⟨_, rfl⟩, q⟩) hz
  | tup h1 h2 =>
    cases ru
    exact repr_of_reads' rd hs (PyData.noDict_hsm hn) hg (by omega) (fun _ _ e => e) (fun h' u tk kp => ⟨.str _, H, I.kept kp, ⟨_, rfl⟩, q⟩) hz
end
end Bz
namespace Bz
open PySem PySem.Spec PyProof.Rows L2
structure Is (B : Hp) (M L : List (Addr × HO)) (H : Hp) : Prop where
  ex : Same B H
  own : ∀ p ∈ L ++ M, H p.1 = some p.2 ∧ B p.1 = none
  nd : ((L ++ M).map (·.1)).Nodup
inductive Put (a : Addr) (o : HO) : List (Addr × HO) → List (Addr × HO) → Prop
  | here {u : HO} {L : List (Addr × HO)} : Put a o ((a, u) :: L) ((a, o) :: L)
  | there {x : Addr × HO} {L L' : List (Addr × HO)} : Put a o L L' → Put a o (x :: L) (x :: L')
inductive Del (a : Addr) (o : HO) : List (Addr × HO) → List (Addr × HO) → Prop
  | here {L : List (Addr × HO)} : Del a o ((a, o) :: L) L
  | there {x : Addr × HO} {L L' : List (Addr × HO)} : Del a o L L' → Del a o (x :: L) (x :: L')
section
variable {a : Addr} {o : HO} {L L' : List (Addr × HO)}
theorem Put.keys : ∀ {L L'}, Put a o L L' → L'.map (·.1) = L.map (·.1)
  | _, _, .here => rfl
  | _, _, .there h => by rw [List.map_cons, List.map_cons, h.keys]
theorem Put.mem : ∀ {L L'}, Put a o L L' → ∀ p ∈ L', p ∈ L ∨ p = (a, o)
  | _, _, .here, p, hp => by
    rcases List.mem_cons.mp hp with e | e
    · exact .inr e
    · exact .inl (List.mem_cons_of_mem _ e)
  | _, _, .there h, p, hp => by
    rcases List.mem_cons.mp hp with e | e
    · exact .inl (by rw [e]; exact List.mem_cons_self)
    · rcases h.mem p e with q | q
      · exact .inl (List.mem_cons_of_mem _ q)
      · exact .inr q
theorem Put.has : ∀ {L L'}, Put a o L L' → a ∈ L.map (·.1)
  | _, _, .here => List.mem_cons_self
  | _, _, .there h => List.mem_cons_of_mem _ h.has
theorem Put.app {M : List (Addr × HO)} : ∀ {L L'}, Put a o L L' → Put a o (L ++ M) (L' ++ M)
  | _, _, .here => .here
  | _, _, .there h => .there h.app
theorem Put.app2 (h : Put a o L L') : ∀ M : List (Addr × HO), Put a o (M ++ L) (M ++ L')
  | [] => h
  | _ :: M => .there (Put.app2 h M)
theorem Del.mem : ∀ {L L'}, Del a o L L' → (a, o) ∈ L
  | _, _, .here => List.mem_cons_self
  | _, _, .there h => List.mem_cons_of_mem _ h.mem
theorem Del.perm : ∀ {L L'}, Del a o L L' → L.Perm ((a, o) :: L')
  | _, _, .here => .refl _
  | _, _, .there h => (List.Perm.cons _ h.perm).trans (.swap _ _ _)
end
section
variable {B B' H H' : Hp} {M M' L L' : List (Addr × HO)} {a p : Addr} {o u : HO} {K : PySem.W.Frag} {xs : List V}
theorem Is.get (I : Is B M L H) (h : (a, o) ∈ L) : H a = some o := (I.own (a, o) (List.mem_append_left _ h)).1
theorem Is.getM (I : Is B M L H) (h : (a, o) ∈ M) : H a = some o := (I.own (a, o) (List.mem_append_right _ h)).1
theorem Is.free (I : Is B M L H) (h : H p = none) : B p = none := I.ex.free h
theorem Is.notin (I : Is B M L H) (h : H p = none) : p ∉ (L ++ M).map (·.1) := fun z => by
  obtain ⟨q, hq, e⟩ := List.mem_map.mp z
  have := (I.own q hq).1
  rw [e, h] at this
  cases this
/-- a new object -/
theorem Is.new (I : Is B M L H) (h : H p = none) : Is B M ((p, o) :: L) (upd H p o) := by
  refine ⟨fun b x e => ?_, fun q hq => ?_, ?_⟩
  · have := I.ex b x e
    rw [upd_ne (ne_of_none this h)]
    exact this
  · rcases List.mem_cons.mp hq with e | e
    · rw [e]
      exact ⟨upd_same, I.free h⟩
    · obtain ⟨h1, h2⟩ := I.own q e
      exact ⟨by rw [upd_ne (ne_of_none h1 h)]; exact h1, h2⟩
  · exact List.nodup_cons.mpr ⟨I.notin h, I.nd⟩
theorem Is.same (I : Is B M L H) (s : Same H H') : Is B M L H' := ⟨I.ex.trans s, fun q hq => ⟨s _ _ (I.own q hq).1, (I.own q hq).2⟩, I.nd⟩
theorem Is.put0 {l l' : List (Addr × HO)} (hl : Put a o l l') (ex : Same B H) (own : ∀ p ∈ l, H p.1 = some p.2 ∧ B p.1 = none) (nd : (l.map (·.1)).Nodup) :
    Same B (upd H a o) ∧ (∀ p ∈ l', (upd H a o) p.1 = some p.2 ∧ B p.1 = none) ∧ (l'.map (·.1)).Nodup := by
  have ha : B a = none := by
    obtain ⟨q, hq, e⟩ := List.mem_map.mp hl.has
    rw [← e]
    exact (own q hq).2
  refine ⟨fun b x e => ?_, fun q hq => ?_, by rw [hl.keys]; exact nd⟩
  · have hb : b ≠ a := fun z => by rw [z, ha] at e; cases e
    rw [upd_ne hb]
    exact ex b x e
  · by_cases hqa : q.1 = a
    · refine ⟨?_, by rw [hqa]; exact ha⟩
      -- the only entry at a is the new one
      have key : ∀ {l l'}, Put a o l l' → (l.map (·.1)).Nodup → ∀ q ∈ l', q.1 = a → q = (a, o) := by
        intro l l' h
        induction h with
        | here =>
          intro n q hq e
          rcases List.mem_cons.mp hq with z | z
          · exact z
          · have n1 := (List.nodup_cons.mp n).1
            exact absurd (show a ∈ _ from by rw [← e]; exact List.mem_map_of_mem z) n1
        | there h ih =>
          intro n q hq e
          obtain ⟨n1, n2⟩ := List.nodup_cons.mp n
          rcases List.mem_cons.mp hq with z | z
          · rw [z] at e
            have n1' : ¬ _ ∈ _ := n1
            exact absurd (by rw [← e] at h; exact h.has) n1'
          · exact ih n2 q z e
      rw [key hl nd q hq hqa]
      exact upd_same
    · rw [upd_ne hqa]
      rcases hl.mem q hq with z | z
      · exact own q z
      · rw [z] at hqa
        exact absurd rfl hqa
theorem Is.put (I : Is B M L H) (h : Put a o L L') : Is B M L' (upd H a o) := by
  obtain ⟨h1, h2, h3⟩ := Is.put0 (h.app (M := M)) I.ex I.own I.nd
  exact ⟨h1, h2, h3⟩
theorem Is.putM (I : Is B M L H) (h : Put a o M M') : Is B M' L (upd H a o) := by
  obtain ⟨h1, h2, h3⟩ := Is.put0 (h.app2 L) I.ex I.own I.nd
  exact ⟨h1, h2, h3⟩
/-- a thing is given away: it will not change any more -/
theorem Is.frz (I : Is B M L H) (d : Del a o L L') : Is (upd B a o) M L' H ∧ Same B (upd B a o) := by
  have pm : (L ++ M).Perm ((a, o) :: (L' ++ M)) := (d.perm.append_right M)
  have ha := I.own (a, o) (List.mem_append_left _ d.mem)
  have nd := (pm.map (·.1)).nodup_iff.mp I.nd
  obtain ⟨n1, n2⟩ := List.nodup_cons.mp nd
  refine ⟨⟨fun b x e => ?_, fun q hq => ?_, n2⟩, fun b x e => ?_⟩
  · by_cases hb : b = a
    · rw [hb, upd_same] at e
      rw [hb, ← e]
      exact ha.1
    · rw [upd_ne hb] at e
      exact I.ex b x e
  · have h2 := I.own q (pm.mem_iff.mpr (List.mem_cons_of_mem _ hq))
    refine ⟨h2.1, ?_⟩
    have hb : q.1 ≠ a := fun z => n1 (by rw [← z]; exact List.mem_map.mpr ⟨q, hq, rfl⟩)
    rw [upd_ne hb]
    exact h2.2
  · have hb : b ≠ a := fun z => by
      have := ha.2
      rw [z, this] at e
      cases e
    rw [upd_ne hb]
    exact e
theorem Is.forget (I : Is B M L H) (h : L'.Sublist L) : Is B M L' H :=
  ⟨I.ex, fun q hq => I.own q ((h.append (.refl M)).subset hq), I.nd.sublist ((h.append (.refl M)).map _)⟩
theorem Is.perm (I : Is B M L H) (h : L'.Perm L) : Is B M L' H :=
  ⟨I.ex, fun q hq => I.own q ((h.append_right M).mem_iff.mp hq), ((h.append_right M).map _).nodup_iff.mpr I.nd⟩
theorem Same.sqT (e : Same H H') (h : SqT K H a xs) : SqT K H' a xs := by
  rcases h with (h | ⟨o, h⟩) | h
  · exact .inl (.inl (e _ _ h))
  · exact .inl (.inr ⟨o, e _ _ h⟩)
  · exact .inr h
theorem Is.sq (I : Is B M L H) (h : SqL K B a xs) : SqL K H a xs := Same.seq I.ex h
theorem Is.st (I : Is B M L H) (h : SqT K B a xs) : SqT K H a xs := Same.sqT I.ex h
theorem Is.b (I : Is B M L H) (h : B a = some o) : H a = some o := I.ex _ _ h
mutual
theorem Dp.same (e : Same H H') : ∀ {v : V} {d : PyData}, Dp K H v d → Dp K H' v d
  | _, _, .non => .non
  | _, _, .bl b => .bl b
  | _, _, .int i => .int i
  | _, _, .str x => .str x
  | _, _, .lst h1 h2 => .lst (Same.seq e h1) (DpAll.same e h2)
  | _, _, .tup h1 h2 => .tup (Same.sqT e h1) (DpAll.same e h2)
theorem DpAll.same (e : Same H H') : ∀ {v : List V} {d : List PyData}, DpAll K H v d → DpAll K H' v d
  | _, _, .nil => .nil
  | _, _, .cons h1 h2 => .cons (Dp.same e h1) (DpAll.same e h2)
end
end
end Bz
namespace Bz
open PySem PySem.Spec PyProof.Rows L2
abbrev St := L2.St
inductive At : St → Nat → V → Prop
  | z {v : V} {l : St} : At (some v :: l) 0 v
  | s {x : Option V} {l : St} {n : Nat} {v : V} : At l n v → At (x :: l) (n + 1) v
inductive SetAt : St → Nat → Option V → St → Prop
  | z {x v : Option V} {l : St} : SetAt (x :: l) 0 v (v :: l)
  | s {x v : Option V} {l l' : St} {n : Nat} : SetAt l n v l' → SetAt (x :: l) (n + 1) v (x :: l')
inductive Wiped : St → List Nat → St → Prop
  | nil {σ : St} : Wiped σ [] σ
  | cons {σ σ1 σ2 : St} {v : Nat} {vs : List Nat} : Wiped σ vs σ1 → SetAt σ1 v none σ2 → Wiped σ (v :: vs) σ2
theorem At.eq : ∀ {σ : St} {n : Nat} {v : V}, At σ n v → σ[n]? = some (some v)
  | _, _, _, .z => rfl
  | _, _, _, .s h => by
    rw [List.getElem?_cons_succ]
    exact h.eq
theorem SetAt.eq : ∀ {σ σ' : St} {n : Nat} {v : Option V}, SetAt σ n v σ' → σ.set n v = σ'
  | _, _, _, _, .z => rfl
  | _, _, _, _, .s h => by rw [List.set_cons_succ, h.eq]
theorem Wiped.eq : ∀ {σ σ' : St} {vs : List Nat}, Wiped σ vs σ' → wipe σ vs = σ'
  | _, _, _, .nil => rfl
  | _, _, _, .cons h s => by
    unfold wipe
    rw [h.eq, s.eq]
section
variable {σ σ' : St} {H : Hp} {Q : VK} {v x y : V} {i : Nat} {ta tb tc te : TE} {D : Ends} {t u : TS} {c c' : TT} {K : PySem.W.Frag} {R : It → Hp → Prop}
variable {nx bk ct : St → Hp → Prop} {rt : VK} {QB : Bool → Hp → Prop} {QL : List V → Hp → Prop} {QS : St → Hp → Prop} {tl tr : TA} {r r' : R2}
theorem g_seq (h : t ⟨fun σ H => u ⟨nx, rt, bk, ct⟩ σ H, rt, bk, ct⟩ σ H) : tSeq t u ⟨nx, rt, bk, ct⟩ σ H := h
theorem g_next (h : nx σ H) : tNext ⟨nx, rt, bk, ct⟩ σ H := h
theorem g_drop (h : te σ H fun _ H1 => nx σ H1) : tDrop te ⟨nx, rt, bk, ct⟩ σ H := h
theorem g_ret (h : te σ H rt) : tRet te ⟨nx, rt, bk, ct⟩ σ H := h
theorem g_retN (h : rt .non H) : tRetN ⟨nx, rt, bk, ct⟩ σ H := h
theorem g_ifS (h : c σ H fun b H1 => if b = true then t ⟨nx, rt, bk, ct⟩ σ H1 else u ⟨nx, rt, bk, ct⟩ σ H1) : tIfS c t u ⟨nx, rt, bk, ct⟩ σ H := h
theorem g_asg {g : TG} (h : te σ H fun x H1 => g x σ H1 nx) : tAsg te g ⟨nx, rt, bk, ct⟩ σ H := h
theorem g_name (s : SetAt σ i (some v) σ') (q : QS σ' H) : gName i v σ H QS := by
  show QS (σ.set i (some v)) H
  rw [s.eq]
  exact q
theorem g_par {j : Nat} (h : tl σ H fun vs H1 => ∃ v w, vs = [v, w] ∧ nx ((σ.set i (some v)).set j (some w)) H1) : tPar i j tl ⟨nx, rt, bk, ct⟩ σ H := h
theorem g_par2 {j : Nat} {w : V} {σ2 : St} (s : SetAt σ i (some v) σ') (s2 : SetAt σ' j (some w) σ2) (q : nx σ2 H) :
    ∃ v' w', [v, w] = [v', w'] ∧ nx ((σ.set i (some v')).set j (some w')) H := by
  refine ⟨v, w, rfl, ?_⟩
  rw [s.eq, s2.eq]
  exact q
theorem g_var (h : At σ i v) (q : Q v H) : tVar i σ H Q := ⟨v, h.eq, q⟩
theorem g_c (q : Q v H) : tC v σ H Q := q
theorem g_op (h : ta σ H fun x H1 => tb σ H1 fun y H2 => r x y H2 Q) : tOp r ta tb σ H Q := h
theorem g_un {r : V → Hp → VK → Prop} (h : ta σ H fun x H1 => r x H1 Q) : tUn r ta σ H Q := h
theorem g_nil (q : QL [] H) : tNil σ H QL := q
theorem g_cons (h : te σ H fun x H1 => tr σ H1 fun xs H2 => QL (x :: xs) H2) : tCons te tr σ H QL := h
theorem g_cb {r : List V → Hp → VK → Prop} (h : tl σ H fun vs H1 => r vs H1 Q) : tCB r tl σ H Q := h
def aBl (x : V) (H : Hp) (Q : Bool → Hp → Prop) : Prop := ∃ k, x = .bl k ∧ Q k H
theorem g_test (h : te σ H fun x H1 => aBl x H1 QB) : tTest te σ H QB := h
theorem g_tB (h : te σ H fun x H1 => aBl x H1 QB) : tB te σ H QB := h
theorem g_bl {b : Bool} (q : QB b H) : aBl (.bl b) H QB := ⟨b, rfl, q⟩
theorem g_and (h : c σ H fun b H1 => if b = true then c' σ H1 QB else QB false H1) : tAnd c c' σ H QB := h
theorem g_or (h : c σ H fun b H1 => if b = true then QB true H1 else c' σ H1 QB) : tOr c c' σ H QB := h
theorem g_not (h : c σ H fun b H1 => QB (!b) H1) : tNot c σ H QB := h
def aIfV (x : V) (H : Hp) (A B : Hp → Prop) : Prop := ∃ c, x = .bl c ∧ if c = true then A H else B H
theorem g_andV (h : ta σ H fun x H1 => aIfV x H1 (fun H1 => tb σ H1 Q) fun H1 => Q (.bl false) H1) : tAndV ta tb σ H Q := h
theorem g_orV (h : ta σ H fun x H1 => aIfV x H1 (fun H1 => Q (.bl true) H1) fun H1 => tb σ H1 Q) : tOrV ta tb σ H Q := h
theorem g_ifV {A B : Hp → Prop} {b : Bool} (h : if b = true then A H else B H) : aIfV (.bl b) H A B := ⟨b, rfl, h⟩
def aNot (x : V) (H : Hp) (Q : VK) : Prop := ∃ c, x = .bl c ∧ Q (.bl (!c)) H
theorem g_notV (h : ta σ H fun x H1 => aNot x H1 Q) : tNotV ta σ H Q := h
theorem g_aNot {b : Bool} (q : Q (.bl (!b)) H) : aNot (.bl b) H Q := ⟨b, rfl, q⟩
theorem g_ifE (h : c σ H fun b H1 => if b = true then ta σ H1 Q else tb σ H1 Q) : tIf c ta tb σ H Q := h
theorem g_chain (h : ta σ H fun x H1 => tb σ H1 fun y H2 => r x y H2 fun z H3 => aIfV z H3 (fun H3 => tc σ H3 fun w H4 => r' y w H4 Q) fun H3 => Q (.bl false) H3) : tChain r r' ta tb tc σ H Q := h
def tTr (K : PySem.W.Frag) (ta : TE) : TT := fun σ H Q => ta σ H fun x H' => ∃ k, TruV K x H' k ∧ Q k H'
def aTru (K : PySem.W.Frag) (x : V) (H : Hp) (Q : Bool → Hp → Prop) : Prop := ∃ k, TruV K x H k ∧ Q k H
theorem pt_tr {X : Cx} {a : Expr} {ta : TE} (ha : PE X a ta) (he : ∀ whole, isTrue a X.env whole = (do let v ← whole; standAt a.pos; holding [v] (truthy v)) := by intro _; rfl) : PT X a (tTr X.K ta) := pt_truth ha he
theorem g_tr (h : ta σ H fun x H' => aTru K x H' QB) : tTr K ta σ H QB := h
theorem g_tru_bl {b : Bool} (q : QB b H) : aTru K (.bl b) H QB := ⟨b, rfl, q⟩
theorem g_tru_non (q : QB false H) : aTru K .non H QB := ⟨false, rfl, q⟩
theorem g_rI0 {g : Int → Int → V} {a b : Int} (q : Q (g a b) H) : rI0 g (.int a) (.int b) H Q := ⟨a, b, rfl, rfl, q⟩
theorem g_rI {C : Int → Int → Prop} {g : Int → Int → V} {a b : Int} (h : C a b) (q : Q (g a b) H) : rI C g (.int a) (.int b) H Q := ⟨a, b, rfl, rfl, h, q⟩
theorem g_rU {g : Int → V} {a : Int} (q : Q (g a) H) : rU g (.int a) H Q := ⟨a, rfl, q⟩
theorem g_add_i {a b : Int} (q : Q (.int (a + b)) H) : rAddA K (.int a) (.int b) H Q := .inl ⟨a, b, rfl, rfl, q⟩
theorem g_mul_i {a b : Int} (h : CMul a b) (q : Q (.int (a * b)) H) : rMulA (.int a) (.int b) H Q := .inl ⟨a, b, rfl, rfl, h, q⟩
theorem g_eq_s (h : scal x y = true) (q : Q (.bl (decide (x = y))) H) : rEqA K x y H Q := .inl ⟨h, q⟩
theorem g_ne_s (h : scal x y = true) (q : Q (.bl (!decide (x = y))) H) : rNeA K x y H Q := .inl ⟨h, q⟩
theorem g_eq_d {d e : PyData} (h1 : Dp K H x d) (h2 : Dp K H y e) (s1 : SeqAt.shaped d = true) (s2 : SeqAt.shaped e = true) (q : Q (.bl (PyData.eqv d e)) H) : rEqA K x y H Q := .inr (.inl ⟨d, e, h1, h2, s1, s2, q⟩)
theorem g_ne_d {d e : PyData} (h1 : Dp K H x d) (h2 : Dp K H y e) (s1 : SeqAt.shaped d = true) (s2 : SeqAt.shaped e = true) (q : Q (.bl (!PyData.eqv d e)) H) : rNeA K x y H Q := .inr (.inl ⟨d, e, h1, h2, s1, s2, q⟩)
theorem g_in_t {p : Addr} {xs : List V} (h : SqT K H p xs) (f : flatV x = true) (fs : xs.all flatV = true) (q : Q (.bl (inV x xs)) H) : rInA K x (.ref p) H Q := .inl ⟨p, xs, rfl, .inr h, f, fs, q⟩
theorem g_in_c {n : Nat} {z : Str} (q : Q (.bl (decide (n ∈ z.cps.toList))) H) : rInA K (.str ⟨#[n]⟩) (.str z) H Q := .inr ⟨n, z, rfl, rfl, q⟩
theorem g_nin_c {n : Nat} {z : Str} (q : Q (.bl (!decide (n ∈ z.cps.toList))) H) : rNotInA K (.str ⟨#[n]⟩) (.str z) H Q := .inr ⟨n, z, rfl, rfl, q⟩
def rIsNo : R2 := fun x y H Q => y = .non ∧ Q (.bl (decide (x = .non))) H
def rNoNo : R2 := fun x y H Q => y = .non ∧ Q (.bl (!decide (x = .non))) H
theorem op_isNo {X : Cx} : OpR X (compareOp .Is) rIsNo := op_isN
theorem op_noNo {X : Cx} : OpR X (compareOp .IsNot) rNoNo := op_notN
theorem g_isNo (q : Q (.bl (decide (x = .non))) H) : rIsNo x .non H Q := ⟨rfl, q⟩
theorem g_noNo (q : Q (.bl (!decide (x = .non))) H) : rNoNo x .non H Q := ⟨rfl, q⟩
def rLen (K : PySem.W.Frag) : List V → Hp → VK → Prop := fun xs H Q => ∃ x n, xs = [x] ∧ LenV K x H n ∧ Q (.int n) H
theorem cl_len {X : Cx} : CallR X (.builtin "len") (rLen X.K) := call_len
theorem g_len_s {z : Str} (h : z.length ≤ 1000000) (q : Q (.int (z.length : Int)) H) : rLen K [.str z] H Q := ⟨_, z.length, rfl, ⟨Nat.le_trans h (by decide), rfl⟩, q⟩
theorem g_len_l {p : Addr} {xs : List V} (h : SqL K H p xs) (q : Q (.int (xs.length : Int)) H) : rLen K [.ref p] H Q := ⟨_, xs.length, rfl, .inl ⟨xs, h, rfl⟩, q⟩
theorem g_len_t {p : Addr} {xs : List V} (h : SqT K H p xs) (q : Q (.int (xs.length : Int)) H) : rLen K [.ref p] H Q := ⟨_, xs.length, rfl, .inr ⟨xs, h, rfl⟩, q⟩
theorem g_ix_l {p : Addr} {xs : List V} {n : Int} (h : SqL K H p xs) (e : atI xs n = some v) (q : Q v H) : rIx K (.ref p) (.int n) H Q := .inl ⟨p, xs, n, v, rfl, rfl, h, e, q⟩
theorem g_ix_t {p : Addr} {xs : List V} {n : Int} (h : SqT K H p xs) (e : atI xs n = some v) (q : Q v H) : rIx K (.ref p) (.int n) H Q := .inr (.inl ⟨p, xs, n, v, rfl, rfl, h, e, q⟩)
theorem atI_of {α : Type} {xs : List α} {n : Int} {a : α} (h0 : 0 ≤ n) (h : xs[n.toNat]? = some a) : atI xs n = some a := by
  have hl := (List.getElem?_eq_some_iff.mp h).1
  unfold atI ixN
  rw [if_pos h0, if_pos (by omega)]
  exact h
theorem ixN_of {m : Nat} {n : Int} (h0 : 0 ≤ n) (h : n < m) : ixN m n = some n.toNat := by
  unfold ixN
  rw [if_pos h0, if_pos h]
def rSlA (K : PySem.W.Frag) : V → Option Int → Option Int → Hp → VK → Prop := fun x lo hi H Q => rSlL K x lo hi H Q ∨ rSlS x lo hi H Q ∨ L2.rSlA K x lo hi H Q
theorem sl_any {X : Cx} : SlR X (rSlA X.K) := SlR.or sl_list (SlR.or sl_str sl_tupA)
theorem g_sl {tl th : TO} {r : V → Option Int → Option Int → Hp → VK → Prop} (h : te σ H fun x H1 => tl σ H1 fun l H2 => th σ H2 fun u H3 => r x l u H3 Q) : tSl r te tl th σ H Q := h
theorem g_noPart {QO : Option Int → Hp → Prop} (q : QO none H) : tNoPart σ H QO := q
def aPart (x : V) (H : Hp) (Q : Option Int → Hp → Prop) : Prop := ∃ i, x = .int i ∧ Q (some i) H
theorem g_part {QO : Option Int → Hp → Prop} (h : te σ H fun x H1 => aPart x H1 QO) : tPart te σ H QO := h
theorem g_aPart {QO : Option Int → Hp → Prop} {n : Int} (q : QO (some n) H) : aPart (.int n) H QO := ⟨n, rfl, q⟩
theorem g_bm {T : String} {r : V → List V → Hp → VK → Prop} (h : te σ H fun x H1 => tyV K T x H1 ∧ tl σ H1 fun xs H2 => r x xs H2 Q) : tBM K T r te tl σ H Q := h
theorem g_bm0 {T : String} {r : V → List V → Hp → VK → Prop} (h : te σ H fun x H1 => tyV K T x H1 ∧ r x [] H1 Q) : tBM0 K T r te σ H Q := h
theorem g_m1 {r : V → List V → Hp → VK → Prop} (h : te σ H fun x H1 => (∃ a, x = .str a) ∧ tb σ H1 fun y H2 => r x [y] H2 Q) : tM1 r te tb σ H Q := h
theorem g_isStr {z : Str} {A : Prop} (h : A) : (∃ a, V.str z = .str a) ∧ A := ⟨⟨z, rfl⟩, h⟩
def aCl (n m : Nat) (sp : Sp) (gV : List V → List V → List V) (E : XK) (vs zs : List V) (H : Hp) (Q : VK) : Prop := vs.length = n ∧ zs.length = m ∧ sp (gV vs zs) H Q E
theorem g_cl {n m : Nat} {sp : Sp} {gV : List V → List V → List V} {E : XK} (h : tl σ H fun vs H1 => tr σ H1 fun zs H2 => aCl n m sp gV E vs zs H2 Q) : tCl n m sp gV E tl tr σ H Q := h
theorem g_aCl {n m : Nat} {sp : Sp} {gV : List V → List V → List V} {E : XK} {vs zs : List V} (h1 : vs.length = n) (h2 : zs.length = m) (q : sp (gV vs zs) H Q E) : aCl n m sp gV E vs zs H Q := ⟨h1, h2, q⟩
def aFor (J : It) (g : TG) (tb : TS) (D : Ends) (σ : St) (H : Hp) : Prop := ∃ W : Nat → Nat → St → Hp → Prop, (∃ m, W 0 m σ H) ∧ ∀ i m σ H, W i m σ H →
  (J.stop i H ∧ D.nx σ H) ∨ (J.go i H ∧ ∃ N : St → Hp → Prop, (∀ σ' H', N σ' H' → ∃ m', m' < m ∧ W (i + 1) m' σ' H') ∧ ∀ x H', J.yld i H x H' → g x σ H' fun σ2 H2 => tb { D with nx := N, ct := N, bk := D.nx } σ2 H2)
theorem g_for {wi : TI} {g : TG} (h : wi σ H fun J H1 => aFor J g t ⟨nx, rt, bk, ct⟩ σ H1) : tFor wi g t ⟨nx, rt, bk, ct⟩ σ H := h
theorem g_aFor {J : It} {n : Nat} {G : Hp → Prop} {Y : Nat → Hp → V → Hp → Prop} {g : TG} (w : Walk J n G Y) (Pv : Nat → St → Hp → Prop) (h0 : Pv 0 σ H) (hG : ∀ i σ H, i ≤ n → Pv i σ H → G H)
    (hs : ∀ i x σ H H', i < n → Pv i σ H → Y i H x H' → g x σ H' fun σ2 H2 => t ⟨Pv (i + 1), rt, nx, Pv (i + 1)⟩ σ2 H2) (hd : ∀ σ H, Pv n σ H → nx σ H) : aFor J g t ⟨nx, rt, bk, ct⟩ σ H :=
  for_it w (D := ⟨nx, rt, bk, ct⟩) Pv h0 hG hs hd
def iAny (K : PySem.W.Frag) (te : TE) : TI := fun σ H R => te σ H fun x H1 => (∃ a, x = .ref a ∧ (∃ xs, SqL K H1 a xs) ∧ R (Itl K a) H1) ∨ (∃ a, x = .ref a ∧ (∃ xs, SqT K H1 a xs) ∧ R (Itt K a) H1) ∨ ∃ z, x = .str z ∧ R (Its z) H1
def aIter (K : PySem.W.Frag) (x : V) (H : Hp) (R : It → Hp → Prop) : Prop := (∃ a, x = .ref a ∧ (∃ xs, SqL K H a xs) ∧ R (Itl K a) H) ∨ (∃ a, x = .ref a ∧ (∃ xs, SqT K H a xs) ∧ R (Itt K a) H) ∨ ∃ z, x = .str z ∧ R (Its z) H
theorem g_iAny (h : te σ H fun x H1 => aIter K x H1 R) : iAny K te σ H R := h
theorem g_it_l {a : Addr} {xs : List V} (h : SqL K H a xs) (q : R (Itl K a) H) : aIter K (.ref a) H R := .inl ⟨a, rfl, ⟨xs, h⟩, q⟩
theorem g_it_t {a : Addr} {xs : List V} (h : SqT K H a xs) (q : R (Itt K a) H) : aIter K (.ref a) H R := .inr (.inl ⟨a, rfl, ⟨xs, h⟩, q⟩)
theorem g_it_s {z : Str} (q : R (Its z) H) : aIter K (.str z) H R := .inr (.inr ⟨z, rfl, q⟩)
theorem pi_any {X : Cx} {tg e : Expr} (he : PE X e te) : PI X tg e (iAny X.K te) := by
  refine ⟨fun pins s σ H R I h => ?_⟩
  refine thn (he.run pins s σ H _ I h) fun v s1 ⟨x, H1, I1, r1, q1⟩ => ?_
  rcases q1 with ⟨a, rfl, ⟨xs, hx⟩, q⟩ | ⟨a, rfl, ⟨xs, hx⟩, q⟩ | ⟨z, rfl, q⟩
  · cases r1
    obtain ⟨its, rv, p, hz⟩ := I1.list hx
    refine wpAny_pyIter_list p.isList ?_
    refine ⟨s1.heap.objs.size, [s1.heap.objs.size], _, _, H1, rfl, I1.kept (t' := s1.toks) fun b o e => Heap.get?_push_of_some _ e, turn_list a _, ⟨_, Heap.get?_push_size _ rfl, rfl, rfl⟩, fun b hb => ?_, q⟩
    obtain rfl : b = s1.heap.objs.size := by simpa using hb
    exact I1.fpOk (Nat.le_refl _) (I1.hok.fresh (Nat.le_refl _))
  · cases r1
    obtain ⟨its, rv, p, hz⟩ := I1.tuple hx
    refine wpAny_pyIter_tuple (show s1.heap.IsTuple a its.toArray from p) ?_
    refine ⟨s1.heap.objs.size, [s1.heap.objs.size], _, _, H1, rfl, I1.kept (t' := s1.toks) fun b o e => Heap.get?_push_of_some _ e, turn_tuple a _, ⟨_, Heap.get?_push_size _ rfl, rfl, rfl⟩, fun b hb => ?_, q⟩
    obtain rfl : b = s1.heap.objs.size := by simpa using hb
    exact I1.fpOk (Nat.le_refl _) (I1.hok.fresh (Nat.le_refl _))
  · obtain ⟨t, rfl⟩ := r1
    cases ha : z.cps.all (· < 128)
    · exact wpAny_pyIter_wide ha (pi_one (tk := s1.toks) I1 _ (turn_str _ z t "str_iterator" (.inr rfl)) ⟨_, Heap.get?_push_size _ rfl, rfl, rfl⟩ q)
    · exact wpAny_pyIter_ascii ha (pi_one (tk := s1.toks) I1 _ (turn_str _ z t "str_ascii_iterator" (.inl rfl)) ⟨_, Heap.get?_push_size _ rfl, rfl, rfl⟩ q)
def aRng1 (vs : List V) (H : Hp) (R : It → Hp → Prop) : Prop := ∃ j : Int, vs = [.int j] ∧ -(2 ^ 62) ≤ j ∧ j < 2 ^ 62 ∧ R (Itr 0 j.toNat) H
theorem g_rng1 (h : tl σ H fun vs H1 => aRng1 vs H1 R) : iRng1 tl σ H R := h
theorem g_aRng1 {j : Int} (h : 0 ≤ j ∧ j < 4000000000) (q : R (Itr 0 j.toNat) H) : aRng1 [.int j] H R := ⟨j, rfl, by omega, by omega, q⟩
def aRng2 (vs : List V) (H : Hp) (R : It → Hp → Prop) : Prop := ∃ i j : Int, vs = [.int i, .int j] ∧ (-(2 ^ 62) ≤ i ∧ i < 2 ^ 62 ∧ -(2 ^ 62) ≤ j ∧ j < 2 ^ 62) ∧ R (Itr i (j - i).toNat) H
theorem g_rng2 (h : tl σ H fun vs H1 => aRng2 vs H1 R) : iRng2 tl σ H R := h
theorem g_aRng2 {i j : Int} (h : -4000000000 ≤ i ∧ i < 4000000000 ∧ -4000000000 ≤ j ∧ j < 4000000000) (q : R (Itr i (j - i).toNat) H) : aRng2 [.int i, .int j] H R := ⟨i, j, rfl, by omega, q⟩
end
end Bz
namespace Bz
open PySem PySem.Spec PyProof.Rows L2
/-- texts as they are handed in: short enough, plain signs -/
def plainS (z : Str) : Prop := z.length ≤ 100000 ∧ ∀ c ∈ z.cps.toList, c < 128
theorem plainS.len {z : Str} (h : plainS z) : z.length ≤ 1000000 := Nat.le_trans h.1 (by decide)
section
variable {B B' : Hp} {M M' L L' : List (Addr × HO)}
variable {σ σ' : St} {H : Hp} {Q : VK} {v x y : V} {i : Nat} {ta tb tc te : TE} {D : Ends} {t u : TS} {c c' : TT} {K : PySem.W.Frag} {R : It → Hp → Prop}
variable {nx bk ct : St → Hp → Prop} {rt : VK} {QB : Bool → Hp → Prop} {QL : List V → Hp → Prop} {QS : St → Hp → Prop} {tl tr : TA} {r r' : R2}
theorem sz6 {n : Nat} (h : n ≤ 1000000) : n ≤ sizeLine := Nat.le_trans h (by decide)
theorem sz6' {n : Nat} (h : n < 1000000) : n < sizeLine := Nat.lt_of_lt_of_le h (by decide)
def aLst (xs : List V) (H : Hp) (Q : VK) : Prop := xs.length ≤ sizeLine ∧ ∀ p, H p = none → Q (.ref p) (upd H p (.lst xs))
def aTup (xs : List V) (H : Hp) (Q : VK) : Prop := xs.length ≤ sizeLine ∧ ∀ p, H p = none → Q (.ref p) (upd H p (.tup xs))
theorem g_lst (h : tl σ H fun xs H1 => aLst xs H1 Q) : tLst tl σ H Q := h
theorem g_tup (h : tl σ H fun xs H1 => aTup xs H1 Q) : tTup tl σ H Q := h
theorem g_aLst {xs : List V} (I : Is B M L H) (h : xs.length ≤ 1000000) (q : ∀ p H', Is B M ((p, .lst xs) :: L) H' → Q (.ref p) H') : aLst xs H Q :=
  ⟨sz6 h, fun p hp => q p _ (I.new hp)⟩
theorem g_aTup {xs : List V} (I : Is B M L H) (h : xs.length ≤ 1000000) (q : ∀ p H', Is B M ((p, .tup xs) :: L) H' → Q (.ref p) H') : aTup xs H Q :=
  ⟨sz6 h, fun p hp => q p _ (I.new hp)⟩
/-- list + list -/
theorem g_add_l {a b : Addr} {xs ys : List V} (I : Is B M L H) (ha : H a = some (.lst xs)) (hb : H b = some (.lst ys)) (h : xs.length + ys.length ≤ 1000000)
    (q : ∀ p H', Is B M ((p, .lst (xs ++ ys)) :: L) H' → Q (.ref p) H') : rAddA K (.ref a) (.ref b) H Q :=
  .inr (.inr (.inl ⟨a, b, xs, ys, rfl, rfl, ha, hb, sz6 h, fun p hp => q p _ (I.new hp)⟩))
theorem g_mul_l {a : Addr} {xs : List V} {n : Nat} (I : Is B M L H) (ha : H a = some (.lst xs)) (h : xs.length * n ≤ 1000000) (hn : n ≤ 1000000)
    (q : ∀ p H', Is B M ((p, .lst (List.replicate n xs).flatten) :: L) H' → Q (.ref p) H') : rMulA (.ref a) (.int (n : Int)) H Q :=
  .inr (.inr ⟨a, n, xs, rfl, rfl, ha, by omega, by omega, by rw [Int.toNat_natCast]; exact sz6 h, fun p hp => by rw [Int.toNat_natCast]; exact q p _ (I.new hp)⟩)
theorem g_sl_l {a : Addr} {xs : List V} {lo hi : Option Int} (I : Is B M L H) (ha : SqL K H a xs) (q : ∀ p H', Is B M ((p, .lst (cutV xs lo hi)) :: L) H' → Q (.ref p) H') : rSlA K (.ref a) lo hi H Q :=
  .inl ⟨a, xs, rfl, ha, fun p hp => q p _ (I.new hp)⟩
/-- append -/
theorem g_app {l : Addr} {xs : List V} (I : Is B M L H) (hl : H l = some (.lst xs)) (h : xs.length < 1000000) (u : Put l (.lst (xs ++ [v])) L L') (q : ∀ H', Is B M L' H' → Q .non H') : rAppend (.ref l) [v] H Q :=
  ⟨l, xs, v, rfl, rfl, hl, sz6' h, q _ (I.put u)⟩
theorem g_tyL {l : Addr} {xs : List V} {A : Prop} (hl : H l = some (.lst xs)) (h : A) : tyV K "list" (.ref l) H ∧ A := ⟨.inl ⟨rfl, xs, SqL.of hl⟩, h⟩
theorem g_sub {to ti : TE} {ts : TSet} (h : to σ H fun o H1 => ti σ H1 fun i H2 => ts o i v H2 fun H3 => QS σ H3) : gSub to ti ts v σ H QS := h
theorem g_setL {l : Addr} {xs : List V} {n : Int} {QH : Hp → Prop} (I : Is B M L H) (hl : H l = some (.lst xs)) (h0 : 0 ≤ n) (h1 : n < xs.length) (u : Put l (.lst (xs.set n.toNat v)) L L') (q : ∀ H', Is B M L' H' → QH H') : rSetL (.ref l) (.int n) v H QH :=
  ⟨l, xs, n, n.toNat, rfl, rfl, hl, ixN_of h0 h1, q _ (I.put u)⟩
theorem g_setLM {l : Addr} {xs : List V} {n : Int} {QH : Hp → Prop} (I : Is B M L H) (hl : H l = some (.lst xs)) (h0 : 0 ≤ n) (h1 : n < xs.length) (u : Put l (.lst (xs.set n.toNat v)) M M') (q : ∀ H', Is B M' L H' → QH H') : rSetL (.ref l) (.int n) v H QH :=
  ⟨l, xs, n, n.toNat, rfl, rfl, hl, ixN_of h0 h1, q _ (I.putM u)⟩
/-- unpacking a tuple -/
theorem g_gTup {a : Addr} {xs : List V} {n : Nat} {ts : TGs} (h : SqT K H a xs) (hl : xs.length = n) (q : ts xs σ H QS) : gTup K n ts (.ref a) σ H QS := ⟨a, xs, rfl, h, hl, q⟩
theorem g_gCons {g : TG} {ts : TGs} {rest : List V} (q : g v σ H fun σ' H' => ts rest σ' H' QS) : gCons g ts (v :: rest) σ H QS := ⟨v, rest, rfl, q⟩
theorem g_gNil (q : QS σ H) : gNil [] σ H QS := ⟨rfl, q⟩
inductive KGet : List (Key × V) → Key → V → Prop
  | here {k : Key} {v : V} {l : List (Key × V)} : KGet ((k, v) :: l) k v
  | there {k k' : Key} {v v' : V} {l : List (Key × V)} : ¬ k' = k → KGet l k v → KGet ((k', v') :: l) k v
inductive NoKey (k : Key) : List (Key × V) → Prop
  | nil : NoKey k []
  | cons {k' : Key} {v' : V} {l : List (Key × V)} : ¬ k' = k → NoKey k l → NoKey k ((k', v') :: l)
inductive KPut (k : Key) (v : V) : List (Key × V) → List (Key × V) → Prop
  | here {u : V} {l : List (Key × V)} : NoKey k l → KPut k v ((k, u) :: l) ((k, v) :: l)
  | there {k' : Key} {u : V} {l l' : List (Key × V)} : ¬ k' = k → KPut k v l l' → KPut k v ((k', u) :: l) ((k', u) :: l')
theorem KGet.eq {kvs : List (Key × V)} {k : Key} (h : KGet kvs k v) : valV kvs k = some v := by
  induction h with
  | here => exact valV_pos rfl
  | there hne _ ih =>
    rw [valV_neg (show ¬ _ = _ from hne)]
    exact ih
theorem NoKey.map {k : Key} {kvs : List (Key × V)} (h : NoKey k kvs) : kvs.map (fun kv => if kv.1 = k then (kv.1, v) else kv) = kvs := by
  induction h with
  | nil => rfl
  | cons hne _ ih => rw [List.map_cons, if_neg hne, ih]
theorem KPut.any {k : Key} {kvs kvs' : List (Key × V)} (h : KPut k v kvs kvs') : (kvs.any fun kv => decide (kv.1 = k)) = true ∧ kvs.map (fun kv => if kv.1 = k then (kv.1, v) else kv) = kvs' := by
  induction h with
  | here hn =>
    refine ⟨by simp, ?_⟩
    rw [List.map_cons, if_pos rfl, hn.map]
  | there hne _ ih =>
    refine ⟨by rw [List.any_cons, ih.1, Bool.or_true], ?_⟩
    rw [List.map_cons, if_neg hne, ih.2]
theorem KPut.eq {k : Key} {kvs kvs' : List (Key × V)} (h : KPut k v kvs kvs') : putK kvs k v = kvs' := by
  unfold putK
  rw [if_pos h.any.1]
  exact h.any.2
def aDGet (x y : V) (H : Hp) (Q : VK) : Prop := ∃ a v, x = .ref a ∧ DGet H a y (some v) ∧ Q v H
theorem g_dget {td ty : TE} (h : td σ H fun x H1 => ty σ H1 fun y H2 => aDGet x y H2 Q) : tDGet td ty σ H Q := h
theorem g_aDGet {a : Addr} {kvs : List (Key × V)} {z : Str} (h : H a = some (.dK kvs)) (e : KGet kvs (Sum.inr z) v) (q : Q v H) : aDGet (.ref a) (.str z) H Q :=
  ⟨a, v, rfl, .inl ⟨kvs, .inr z, .inl h, rfl, e.eq.symm⟩, q⟩
def aDPut (v x y : V) (H : Hp) (Q : Hp → Prop) : Prop := ∃ a H4, x = .ref a ∧ DPut H a y v H4 ∧ Q H4
theorem g_dput {td ty tv : TE} (h : tv σ H fun v H1 => td σ H1 fun x H2 => ty σ H2 fun y H3 => aDPut v x y H3 fun H4 => nx σ H4) : sDPut td ty tv ⟨nx, rt, bk, ct⟩ σ H := by
  exact h
theorem g_aDPut {a : Addr} {kvs kvs' : List (Key × V)} {z : Str} {QH : Hp → Prop} (I : Is B M L H) (h : H a = some (.dK kvs)) (hz : kvs.length < 100000) (kp : KPut (Sum.inr z) v kvs kvs') (u : Put a (.dK kvs') L L') (q : ∀ H', Is B M L' H' → QH H') : aDPut v (.ref a) (.str z) H QH :=
  ⟨a, _, rfl, .inl ⟨kvs, .inr z, h, rfl, sz6' (by omega), rfl⟩, q _ (by rw [kp.eq]; exact I.put u)⟩
theorem g_aDPutM {a : Addr} {kvs kvs' : List (Key × V)} {z : Str} {QH : Hp → Prop} (I : Is B M L H) (h : H a = some (.dK kvs)) (hz : kvs.length < 100000) (kp : KPut (Sum.inr z) v kvs kvs') (u : Put a (.dK kvs') M M') (q : ∀ H', Is B M' L H' → QH H') : aDPut v (.ref a) (.str z) H QH :=
  ⟨a, _, rfl, .inl ⟨kvs, .inr z, h, rfl, sz6' (by omega), rfl⟩, q _ (by rw [kp.eq]; exact I.putM u)⟩
inductive Snoc {α : Type} (x : α) : List α → List α → Prop
  | nil : Snoc x [] [x]
  | cons {a : α} {l l' : List α} : Snoc x l l' → Snoc x (a :: l) (a :: l')
theorem Snoc.eq {α : Type} {x : α} : ∀ {l l' : List α}, Snoc x l l' → l ++ [x] = l'
  | _, _, .nil => rfl
  | _, _, .cons h => by rw [List.cons_append, h.eq]
inductive Mrg : List (Key × V) → List (V × V) → List (Key × V) → Prop
  | nil {l : List (Key × V)} : Mrg l [] l
  | str {l l' r : List (Key × V)} {z : Str} {v : V} {more : List (V × V)} : NoKey (Sum.inr z) l → Snoc (Sum.inr z, v) l l' → Mrg l' more r → Mrg l ((.str z, v) :: more) r
  | int {l l' r : List (Key × V)} {n : Int} {v : V} {more : List (V × V)} : NoKey (Sum.inl n) l → Snoc (Sum.inl n, v) l l' → Mrg l' more r → Mrg l ((.int n, v) :: more) r
theorem NoKey.any {k : Key} {kvs : List (Key × V)} (h : NoKey k kvs) : (kvs.any fun kv => decide (kv.1 = k)) = false := by
  induction h with
  | nil => rfl
  | cons hne _ ih => rw [List.any_cons, decide_eq_false hne, ih]; rfl
theorem NoKey.put {k : Key} {kvs : List (Key × V)} (h : NoKey k kvs) : putK kvs k v = kvs ++ [(k, v)] := by
  unfold putK
  rw [h.any]
  rfl
theorem Mrg.eq {l : List (Key × V)} {ps : List (V × V)} {r : List (Key × V)} (h : Mrg l ps r) : ∃ kvs : List (Key × V), ps = kvs.map (fun kv => (kV kv.1, kv.2)) ∧ mergeK l kvs = r ∧ kvs.length = ps.length := by
  induction h with
  | nil => exact ⟨[], rfl, rfl, rfl⟩
  | @str l l' r z v more hn hs _ ih =>
    obtain ⟨kvs, e1, e2, e3⟩ := ih
    refine ⟨(Sum.inr z, v) :: kvs, by rw [e1]; rfl, ?_, by simp [e3]⟩
    show mergeK (putK l (Sum.inr z) v) kvs = r
    rw [hn.put, hs.eq]
    exact e2
  | @int l l' r n v more hn hs _ ih =>
    obtain ⟨kvs, e1, e2, e3⟩ := ih
    refine ⟨(Sum.inl n, v) :: kvs, by rw [e1]; rfl, ?_, by simp [e3]⟩
    show mergeK (putK l (Sum.inl n) v) kvs = r
    rw [hn.put, hs.eq]
    exact e2
def aDisp (p : Addr) (ps : List (V × V)) (H : Hp) (Q : VK) : Prop := H p = some (.dK []) ∧ ∃ kvs : List (Key × V), ps = kvs.map (fun kv => (kV kv.1, kv.2)) ∧ kvs.length ≤ 15 ∧ Q (.ref p) (upd H p (.dK (mergeK [] kvs)))
theorem g_disp {trs : List (TE × TE)} (I : Is B M L H) (q : ∀ p H', Is B M ((p, .dK []) :: L) H' → tPairs trs σ H' fun ps H2 => aDisp p ps H2 Q) : tDisp trs σ H Q := fun p hp => q p _ (I.new hp)
theorem g_pnil {QP : List (V × V) → Hp → Prop} (q : QP [] H) : tPairs [] σ H QP := q
theorem g_pcons {tk tv : TE} {r : List (TE × TE)} {QP : List (V × V) → Hp → Prop} (q : tk σ H fun x H1 => tv σ H1 fun y H2 => tPairs r σ H2 fun ps H3 => QP ((x, y) :: ps) H3) : tPairs ((tk, tv) :: r) σ H QP := q
theorem g_aDisp {p : Addr} {ps : List (V × V)} {kvs : List (Key × V)} (I : Is B M L H) (h : H p = some (.dK [])) (m : Mrg [] ps kvs) (hz : ps.length ≤ 15) (u : Put p (.dK kvs) L L') (q : ∀ H', Is B M L' H' → Q (.ref p) H') : aDisp p ps H Q := by
  obtain ⟨k, e1, e2, e3⟩ := m.eq
  refine ⟨h, k, e1, by omega, ?_⟩
  rw [e2]
  exact q _ (I.put u)
theorem g_newK (I : Is B M L H) (q : ∀ p H', Is B M ((p, .dK []) :: L) H' → Q (.ref p) H') : tDNewK σ H Q := fun p hp => q p _ (I.new hp)
/-- an owned thing told as M -/
theorem Is.pull {a : Addr} {o : HO} (I : Is B M L H) (d : Del a o L L') : Is B ((a, o) :: M) L' H := by
  have pm : (L ++ M).Perm (L' ++ ((a, o) :: M)) := (d.perm.append_right M).trans List.perm_middle.symm
  exact ⟨I.ex, fun q hq => I.own q (pm.mem_iff.mpr hq), (pm.map (·.1)).nodup_iff.mp I.nd⟩
/-- given away, as one asks it -/
theorem Is.give {a : Addr} {o : HO} {G : Prop} (I : Is B M L H) (d : Del a o L L') (k : ∀ B', Same B B' → B' a = some o → Is B' M L' H → G) : G := by
  obtain ⟨h1, h2⟩ := I.frz d
  exact k _ h2 upd_same h1
def aLc (J : It) (g : TG) (tt : TT) (te : TE) (vs : List Nat) (σ : St) (H1 : Hp) (Q : VK) : Prop :=
  ∀ D, H1 D = none → ∃ W : Nat → Nat → Hp → Prop, (∃ m, W 0 m (upd H1 D (.lst []))) ∧ ∀ i m H, W i m H →
    (J.stop i H ∧ Q (.ref D) H) ∨ (J.go i H ∧ ∃ Nx : Hp → Prop, (∀ H', Nx H' → ∃ m', m' < m ∧ W (i + 1) m' H') ∧ ∀ x H', J.yld i H x H' → g x (wipe σ vs) H' fun σ2 H2 => wipe σ2 vs = wipe σ vs ∧ tt σ2 H2 fun b H3 =>
      if b = true then te σ2 H3 fun y H4 => ∃ acc, H4 D = some (.lst acc) ∧ acc.length < sizeLine ∧ Nx (upd H4 D (.lst (acc ++ [y]))) else Nx H3)
theorem g_lc {wi : TI} {g : TG} {tt : TT} {vs : List Nat} (h : wi σ H fun J H1 => aLc J g tt te vs σ H1 Q) : tLc wi g tt te vs σ H Q := h
/-- between two turns; at a turn's end with an item, without one -/
def LcI (P : Nat → List V → Hp → List (Addr × HO) → Prop) (B : Hp) (L : List (Addr × HO)) (D : Addr) (i : Nat) (H : Hp) : Prop :=
  ∃ acc B' M', Same B B' ∧ acc.length ≤ i ∧ i ≤ 900000 ∧ Is B' M' ((D, .lst acc) :: L) H ∧ P i acc B' M'
def LcY (P : Nat → List V → Hp → List (Addr × HO) → Prop) (B : Hp) (L : List (Addr × HO)) (D : Addr) (i : Nat) (y : V) (H : Hp) : Prop :=
  ∃ acc, H D = some (.lst acc) ∧ acc.length < sizeLine ∧ LcI P B L D (i + 1) (upd H D (.lst (acc ++ [y])))
theorem lcY {P : Nat → List V → Hp → List (Addr × HO) → Prop} {D : Addr} {acc : List V} (s : Same B B') (I : Is B' M' ((D, .lst acc) :: L) H) (hl : acc.length ≤ i ∧ i < 900000) (p : P (i + 1) (acc ++ [y]) B' M') : LcY P B L D i y H :=
  ⟨acc, I.get List.mem_cons_self, sz6' (by omega), acc ++ [y], B', M', s, by rw [List.length_append]; simpa using hl.1, by omega, I.put .here, p⟩
theorem lcN {P : Nat → List V → Hp → List (Addr × HO) → Prop} {D : Addr} {acc : List V} (s : Same B B') (I : Is B' M' ((D, .lst acc) :: L) H) (hl : acc.length ≤ i ∧ i < 900000) (p : P (i + 1) acc B' M') : LcI P B L D (i + 1) H :=
  ⟨acc, B', M', s, by omega, by omega, I, p⟩
theorem g_aLc {J : It} {n : Nat} {G : Hp → Prop} {Y : Nat → Hp → V → Hp → Prop} {g : TG} {tt : TT} {vs : List Nat} {σ0 : St} (w : Walk J n G Y) (I : Is B M L H) (hw : Wiped σ vs σ0) (hz : n ≤ 900000)
    (P : Nat → List V → Hp → List (Addr × HO) → Prop) (h0 : P 0 [] B M)
    (hG : ∀ i acc B' M' D H', i ≤ n → Same B B' → Is B' M' ((D, .lst acc) :: L) H' → P i acc B' M' → G H')
    (hs : ∀ i x acc B' M' D H' H'', i < n → Same B B' → Is B' M' ((D, .lst acc) :: L) H' → P i acc B' M' → Y i H' x H'' → (acc.length ≤ i ∧ i < 900000) →
      g x σ0 H'' fun σ2 H2 => wipe σ2 vs = σ0 ∧ tt σ2 H2 fun b H3 => if b = true then te σ2 H3 fun y H4 => LcY P B L D i y H4 else LcI P B L D (i + 1) H3)
    (hd : ∀ acc B' M' D H', Same B B' → Is B' M' ((D, .lst acc) :: L) H' → P n acc B' M' → acc.length ≤ n → Q (.ref D) H') : aLc J g tt te vs σ H Q := by
  intro D hD
  refine lc_it w (fun i H' => LcI P B L D i H') ⟨[], B, M, Same.refl B, Nat.le_refl _, by omega, I.new hD, h0⟩ ?_ ?_ ?_
  · rintro i H' hi ⟨acc, B', M', s, hl, _, I', p⟩
    exact hG i acc B' M' D H' hi s I' p
  · rintro i x H' H'' hi ⟨acc, B', M', s, hl, _, I', p⟩ yy
    rw [hw.eq]
    exact hs i x acc B' M' D H' H'' hi s I' p yy ⟨hl, by omega⟩
  · rintro H' ⟨acc, B', M', s, hl, _, I', p⟩
    exact hd acc B' M' D H' s I' p hl
/-- a comprehension that neither draws nor changes: (xs.filter p).map f -/
theorem g_lcM {J : It} {xs : List V} {G : Hp → Prop} {g : TG} {tt : TT} {vs : List Nat} {σ0 : St} (w : Walk J xs.length G (YAt xs)) (I : Is B M L H) (hw : Wiped σ vs σ0) (hz : xs.length ≤ 900000) (p : V → Bool) (f : V → V)
    (hG : ∀ D acc H', Is B M ((D, .lst acc) :: L) H' → G H')
    (hs : ∀ (i : Nat) (x : V) (D : Addr) (acc : List V) (H' : Hp), xs[i]? = some x → Is B M ((D, .lst acc) :: L) H' → ∀ (PY : V → Hp → Prop) (PN : Hp → Prop), (∀ H4, p x = true → Is B M ((D, .lst acc) :: L) H4 → PY (f x) H4) → (∀ H3, p x = false → Is B M ((D, .lst acc) :: L) H3 → PN H3) →
      g x σ0 H' fun σ2 H2 => wipe σ2 vs = σ0 ∧ tt σ2 H2 fun b H3 => if b = true then te σ2 H3 fun y H4 => PY y H4 else PN H3)
    (hd : ∀ D H', Is B M ((D, .lst ((xs.filter p).map f)) :: L) H' → Q (.ref D) H') : aLc J g tt te vs σ H Q := by
  refine g_aLc w I hw hz (fun i acc B' M' => B' = B ∧ M' = M ∧ acc = ((xs.take i).filter p).map f) ⟨rfl, rfl, rfl⟩ ?_ ?_ ?_
  · rintro i acc B' M' D H' _ s I' ⟨rfl, rfl, rfl⟩
    exact hG D _ H' I'
  · rintro i x acc B' M' D H' H'' hi s I' ⟨rfl, rfl, e⟩ ⟨rfl, hx⟩ hl
    refine hs i x D acc H'' hx I' _ _ (fun H4 hp I4 => lcY s I4 hl ⟨rfl, rfl, ?_⟩) fun H3 hp I3 => lcN s I3 hl ⟨rfl, rfl, ?_⟩
    · rw [List.take_add_one, hx, e]
      show _ = List.map f (List.filter p (xs.take i ++ [x]))
      rw [List.filter_append, List.map_append, List.filter_cons, if_pos hp]
      rfl
    · rw [List.take_add_one, hx, e]
      show _ = List.map f (List.filter p (xs.take i ++ [x]))
      rw [List.filter_append, List.map_append, List.filter_cons, if_neg (by rw [hp]; exact Bool.false_ne_true)]
      simp
  · rintro acc B' M' D H' s I' ⟨rfl, rfl, rfl⟩ _
    rw [List.take_length] at I'
    exact hd D H' I'
/-- signs of a text -/
def sg (c : Nat) : V := .str ⟨#[c]⟩
def signs (z : Str) : List V := z.cps.toList.map sg
theorem signs_len (z : Str) : (signs z).length = z.length := by unfold signs; rw [List.length_map]; rfl
theorem walkS {z : Str} : Walk (Its z) (signs z).length (fun _ => True) (YAt (signs z)) := by
  have w := walk_str (z := z)
  have e : z.cps.size = (signs z).length := by unfold signs; simp
  rw [e] at w
  refine w.mono (fun _ _ => trivial) fun i H x H' hi _ y => ?_
  obtain ⟨h1, c, h2, h3⟩ := y
  refine ⟨h1, ?_⟩
  unfold signs
  rw [List.getElem?_map, ← Array.getElem?_toList] at *
  rw [h2, h3]
  rfl
theorem signs_mem {z : Str} {x : V} {i : Nat} (h : (signs z)[i]? = some x) : ∃ c, c ∈ z.cps.toList ∧ x = .str ⟨#[c]⟩ := by
  unfold signs at h
  rw [List.getElem?_map] at h
  cases e : z.cps.toList[i]? with
  | none => rw [e] at h; cases h
  | some c => rw [e] at h; exact ⟨c, List.mem_of_getElem? e, (Option.some.inj h).symm⟩
def unsg (f : Nat → V) (v : V) : V := match v with
  | .str y => f (y.cps.getD 0 0)
  | _ => .non
def unsgB (f : Nat → Bool) (v : V) : Bool := match v with
  | .str y => f (y.cps.getD 0 0)
  | _ => false
theorem map_unsg (f : Nat → V) : ∀ l : List Nat, (l.map sg).map (unsg f) = l.map f
  | [] => rfl
  | c :: l => by rw [List.map_cons, List.map_cons, List.map_cons, map_unsg f l]; rfl
theorem filter_unsg (p : Nat → Bool) : ∀ l : List Nat, (l.map sg).filter (unsgB p) = (l.filter p).map sg
  | [] => rfl
  | c :: l => by
    have e : unsgB p (sg c) = p c := rfl
    rw [List.map_cons, List.filter_cons, List.filter_cons, e, filter_unsg p l]
    cases p c <;> simp
/-- over a text's signs, with a test -/
theorem g_lcS {z : Str} {g : TG} {tt : TT} {vs : List Nat} {σ0 : St} (I : Is B M L H) (hw : Wiped σ vs σ0) (hz : z.length ≤ 900000) (p : Nat → Bool) (f : Nat → V)
    (hs : ∀ (c : Nat) (D : Addr) (acc : List V) (H' : Hp), c ∈ z.cps.toList → Is B M ((D, .lst acc) :: L) H' → ∀ (PY : V → Hp → Prop) (PN : Hp → Prop), (∀ H4, p c = true → Is B M ((D, .lst acc) :: L) H4 → PY (f c) H4) → (∀ H3, p c = false → Is B M ((D, .lst acc) :: L) H3 → PN H3) →
      g (.str ⟨#[c]⟩) σ0 H' fun σ2 H2 => wipe σ2 vs = σ0 ∧ tt σ2 H2 fun b H3 => if b = true then te σ2 H3 fun y H4 => PY y H4 else PN H3)
    (hd : ∀ D H', Is B M ((D, .lst ((z.cps.toList.filter p).map f)) :: L) H' → Q (.ref D) H') : aLc (Its z) g tt te vs σ H Q := by
  refine g_lcM walkS I hw (by rw [signs_len]; exact hz) (unsgB p) (unsg f) (fun _ _ _ _ => trivial) ?_ ?_
  · intro i x D acc H' hx hI' PY PN hY hN
    obtain ⟨c, hc, rfl⟩ := signs_mem hx
    exact hs c D acc H' hc hI' PY PN hY hN
  · intro D H' hI'
    have e : (List.filter (unsgB p) (signs z)).map (unsg f) = (z.cps.toList.filter p).map f := by
      unfold signs
      rw [filter_unsg, map_unsg]
    rw [e] at hI'
    exact hd D H' hI'
/-- .. without one -/
theorem g_lcS1 {z : Str} {g : TG} {vs : List Nat} {σ0 : St} (I : Is B M L H) (hw : Wiped σ vs σ0) (hz : z.length ≤ 900000) (f : Nat → V)
    (hs : ∀ (c : Nat) (D : Addr) (acc : List V) (H' : Hp), c ∈ z.cps.toList → Is B M ((D, .lst acc) :: L) H' → ∀ (PY : V → Hp → Prop), (∀ H4, Is B M ((D, .lst acc) :: L) H4 → PY (f c) H4) →
      g (.str ⟨#[c]⟩) σ0 H' fun σ2 H2 => wipe σ2 vs = σ0 ∧ te σ2 H2 fun y H4 => PY y H4)
    (hd : ∀ D H', Is B M ((D, .lst (z.cps.toList.map f)) :: L) H' → Q (.ref D) H') : aLc (Its z) g tYes te vs σ H Q := by
  refine g_lcS I hw hz (fun _ => true) f ?_ ?_
  · intro c D acc H' hc hI' PY PN hY hN
    exact hs c D acc H' hc hI' PY fun H4 => hY H4 rfl
  · intro D H' hI'
    have e : z.cps.toList.filter (fun _ => true) = z.cps.toList := List.filter_eq_self.mpr fun _ _ => rfl
    rw [e] at hI'
    exact hd D H' hI'
theorem g_all {α : Type} {D : Addr} {l : List α} {P : α → Bool} (h : SqL K H D (l.map fun c => V.bl (P c))) (q : Q (.bl (l.all P)) H) : rAll K [.ref D] H Q := by
  refine ⟨D, l.map P, rfl, ?_, ?_⟩
  · rw [List.map_map]
    exact h
  · rw [List.all_map]
    exact q
theorem g_wiped {σ1 : St} {vs : List Nat} {A : Prop} (w : Wiped σ vs σ1) (h : A) : wipe σ vs = σ1 ∧ A := ⟨w.eq, h⟩
theorem g_yes (h : QB true H) : tYes σ H QB := h
theorem g_true {A E : Prop} (h : A) : if true = true then A else E := by rw [if_pos rfl]; exact h
theorem g_false {A E : Prop} (h : E) : if false = true then A else E := by rw [if_neg Bool.false_ne_true]; exact h
theorem g_ntrue {A E : Prop} (h : E) : if (!true) = true then A else E := g_false h
theorem g_nfalse {A E : Prop} (h : A) : if (!false) = true then A else E := g_true h
theorem g_dec {p : Prop} [Decidable p] {A E : Prop} (h1 : p → A) (h2 : ¬ p → E) : if decide p = true then A else E := by
  by_cases h : p
  · rw [decide_eq_true h]
    exact g_true (h1 h)
  · rw [decide_eq_false h]
    exact g_false (h2 h)
theorem g_ndec {p : Prop} [Decidable p] {A E : Prop} (h1 : ¬ p → A) (h2 : p → E) : if (!decide p) = true then A else E := by
  by_cases h : p
  · rw [decide_eq_true h]
    exact g_false (h2 h)
  · rw [decide_eq_false h]
    exact g_true (h1 h)
theorem g_b {b : Bool} {A E : Prop} (h1 : b = true → A) (h2 : b = false → E) : if b = true then A else E := by
  cases b with
  | true => exact g_true (h1 rfl)
  | false => exact g_false (h2 rfl)
theorem g_nb {b : Bool} {A E : Prop} (h1 : b = false → A) (h2 : b = true → E) : if (!b) = true then A else E := by
  cases b with
  | true => exact g_false (h2 rfl)
  | false => exact g_true (h1 rfl)
end
end Bz
namespace Bz
open PySem PySem.Spec PyProof.Rows L2
def rListOf (K : PySem.W.Frag) : List V → Hp → VK → Prop := fun xs H Q => ∃ p ys, xs = [.ref p] ∧ (SqL K H p ys ∨ SqT K H p ys) ∧ ∀ l, H l = none → Q (.ref l) (upd H l (.lst ys))
section
variable {X : Cx}
theorem cl_listOf : CallR X (.type "list") (rListOf X.K) := call_list_of
theorem pe_gI {x : Str} {i : Int} {pos : Pos} (h : ∃ t, X.mg x = some (.int i t)) (gl : Gl X x := by rfl) (hd : (x == ("__debug__" : Str)) = false := by decide) : PE X (.Name x pos) (tC (.int i)) := by
  obtain ⟨t, h⟩ := h
  exact pe_glob gl h ⟨_, rfl⟩ hd
theorem pe_gS {x z : Str} {pos : Pos} (h : ∃ t, X.mg x = some (.str z t)) (gl : Gl X x := by rfl) (hd : (x == ("__debug__" : Str)) = false := by decide) : PE X (.Name x pos) (tC (.str z)) := by
  obtain ⟨t, h⟩ := h
  exact pe_glob gl h ⟨_, rfl⟩ hd
theorem pe_gR {x : Str} {a : Addr} {pos : Pos} (h : X.mg x = some (.ref a)) (gl : Gl X x := by rfl) (hd : (x == ("__debug__" : Str)) = false := by decide) : PE X (.Name x pos) (tC (.ref a)) := pe_glob gl h rfl hd
end
structure CallOk (P : Program) (w : World) (K : PySem.W.Frag) (mg : Str → Option Value) (base : Heap) (CX : CXT) (k : Nat) (x : Str) (n : Nat) (ks : List Str) (sp : Sp) (gV : List V → List V → List V) : Prop where
  ok : ∃ fd ps g, FnG P w K mg base CX k (He.ga K x) fd ps sp ∧ KBn K fd ps n ks g gV
  at_ : mg x = some (.ref (He.ga K x))
  kp : PySem.W.keepIn K (.ref (He.ga K x)) = true
section
variable {X : Cx} {CX : CXT} {k k' n : Nat} {ks : List Str} {sp : Sp} {E : XK} {x : Str} {p pos : Pos} {e : Expr} {es : List Expr} {kws : List Keyword} {t tk : TA} {gV : List V → List V → List V}
theorem pe_ca (c : CallOk X.prog X.w X.K X.mg X.base CX k x n ks sp gV) (hr : Room k' X.A) (hk : k ≤ k') (hg : X.A.guards = some []) (gl : Gl X x) (hx : Passes CX X E) (ha : PA X (e :: es) t) (hkw : PK X kws tk)
    (h1 : (backToKw pos (keywordEach kws X.env)).all (·.1.isSome) = true := by rfl) (h2 : (backToKw pos (keywordEach kws X.env)).filterMap (·.1) = ks := by rfl)
    (h3 : (x == ("__debug__" : Str)) = false := by decide) (h4 : starEach (e :: es) X.env = (false, eval e X.env) :: starEach es X.env := by rfl)
    (h5 : ((backTo pos (starEach (e :: es) X.env)).any (·.1) || (backToKw pos (keywordEach kws X.env)).any (·.1.isNone)) = false := by rfl) :
    PE X (.Call (.Name x p) (e :: es) kws pos) (tCl n ks.length sp gV E t tk) := by
  obtain ⟨⟨fd, ps, g, F, kb⟩, a, kp⟩ := c
  exact pe_cl F (hr.mono hk) hg gl a kp kb hx ha hkw h1 h2 h3 h4 h5
end
end Bz
namespace Bz
open PySem PySem.Spec PyProof.Rows L2
def Sh (n : Nat) (z : Str) : Prop := z.length ≤ n ∧ ∀ c ∈ z.cps.toList, c < 128
theorem Sh.plain {n : Nat} {z : Str} (h : Sh n z) (hn : n ≤ 100000) : plainS z := ⟨Nat.le_trans h.1 hn, h.2⟩
theorem Sh.mono {n m : Nat} {z : Str} (h : Sh n z) (hn : n ≤ m) : Sh m z := ⟨Nat.le_trans h.1 hn, h.2⟩
theorem len_cps (z : Str) : z.length = z.cps.toList.length := by simp [Str.length]
theorem cps_app (x y : Str) : (x ++ y).cps.toList = x.cps.toList ++ y.cps.toList := TL.tl_append x y
theorem len_app (x y : Str) : (x ++ y).length = x.length + y.length := by rw [len_cps, len_cps, len_cps, cps_app, List.length_append]
theorem Sh.add {n m : Nat} {x y : Str} (h1 : Sh n x) (h2 : Sh m y) : Sh (n + m) (x ++ y) := by
  refine ⟨by rw [len_app]; have := h1.1; have := h2.1; omega, fun c hc => ?_⟩
  rw [cps_app] at hc
  rcases List.mem_append.mp hc with h | h
  · exact h1.2 c h
  · exact h2.2 c h
theorem Sh.sign {c : Nat} (h : c < 128) : Sh 1 ⟨#[c]⟩ := by
  refine ⟨Nat.le_refl _, fun d hd => ?_⟩
  have : d = c := by simpa using hd
  omega
def shB (n : Nat) (z : Str) : Bool := decide (z.length ≤ n) && z.cps.toList.all fun c => decide (c < 128)
theorem Sh.lit {n : Nat} {z : Str} (h : shB n z = true) : Sh n z := by
  unfold shB at h
  rw [Bool.and_eq_true] at h
  exact ⟨of_decide_eq_true h.1, fun c hc => of_decide_eq_true (List.all_eq_true.mp h.2 c hc)⟩
theorem Sh.at {n : Nat} {z : Str} {i : Int} (h : Sh n z) (h0 : 0 ≤ i) (h1 : i < (z.length : Int)) : ∃ c, atI z.cps.toList i = some c ∧ c ∈ z.cps.toList ∧ Sh 1 ⟨#[c]⟩ := by
  have hl : i.toNat < z.cps.toList.length := by rw [← len_cps]; omega
  exact ⟨_, atI_of h0 (List.getElem?_eq_getElem hl), List.getElem_mem hl, Sh.sign (h.2 _ (List.getElem_mem hl))⟩
/-- a list of such texts -/
def Txs (n : Nat) (xs : List V) : Prop := ∀ x ∈ xs, ∃ z, x = .str z ∧ Sh n z
theorem Txs.nil {n : Nat} : Txs n [] := fun _ h => by cases h
theorem Txs.cons {n : Nat} {z : Str} {xs : List V} (h : Sh n z) (t : Txs n xs) : Txs n (.str z :: xs) := fun x hx => by
  rcases List.mem_cons.mp hx with e | e
  · exact ⟨z, e, h⟩
  · exact t x e
theorem Txs.app {n : Nat} {xs ys : List V} (h : Txs n xs) (t : Txs n ys) : Txs n (xs ++ ys) := fun x hx => by
  rcases List.mem_append.mp hx with e | e
  · exact h x e
  · exact t x e
theorem Txs.mono {n m : Nat} {xs : List V} (h : Txs n xs) (hn : n ≤ m) : Txs m xs := fun x hx => by
  obtain ⟨z, e, s⟩ := h x hx
  exact ⟨z, e, s.mono hn⟩
def txB (n : Nat) : List V → Bool
  | [] => true
  | .str z :: xs => shB n z && txB n xs
  | _ :: _ => false
theorem Txs.lit {n : Nat} : ∀ {xs : List V}, txB n xs = true → Txs n xs
  | [], _ => .nil
  | .str z :: xs, h => by
    have h : (shB n z && txB n xs) = true := h
    rw [Bool.and_eq_true] at h
    exact .cons (Sh.lit h.1) (Txs.lit h.2)
theorem Txs.get {n : Nat} {xs : List V} {i : Int} (h : Txs n xs) (h0 : 0 ≤ i) (h1 : i < (xs.length : Int)) : ∃ z, atI xs i = some (.str z) ∧ Sh n z := by
  have hl : i.toNat < xs.length := by omega
  obtain ⟨z, e, s⟩ := h _ (List.getElem_mem hl)
  exact ⟨z, atI_of h0 (by rw [List.getElem?_eq_getElem hl, e]), s⟩
mutual
inductive Shn : PyData → Nat → Nat → Prop
  | non {k : Nat} : Shn .none 5 k
  | bl {b : Bool} {k : Nat} : Shn (.bool b) 5 k
  | int {i : Int} {k : Nat} : i.natAbs.log2 < 1920 → Shn (.int i) 2000 k
  | str {z : Str} {k : Nat} : (∀ c ∈ z.cps.toList, c < 128) → Shn (.str z) (10 * z.length + 2) k
  | lst {xs : List PyData} {n k : Nat} : ShnAll xs n k → Shn (.list xs) (n + 3) (k + 1)
  | tup {xs : List PyData} {n k : Nat} : ShnAll xs n k → Shn (.tuple xs) (n + 3) (k + 1)
inductive ShnAll : List PyData → Nat → Nat → Prop
  | nil {k : Nat} : ShnAll [] 0 k
  | cons {x : PyData} {xs : List PyData} {n m k : Nat} : Shn x n k → ShnAll xs m k → ShnAll (x :: xs) (n + m + 2) k
end
mutual
theorem Shn.ok : ∀ {d : PyData} {n k : Nat}, Shn d n k → d.showable = true ∧ d.hasDict = false ∧ d.shown.length ≤ n ∧ d.depth ≤ k
  | _, _, _, .non => ⟨rfl, rfl, by decide, Nat.zero_le _⟩
  | _, _, _, .bl (b := b) => ⟨rfl, rfl, by cases b <;> decide, Nat.zero_le _⟩
  | _, _, _, .int (i := i) h => by
    refine ⟨by simpa only [PyData.showable, decide_eq_true_eq] using h, by simp only [PyData.hasDict], ?_, by simp only [PyData.depth]; omega⟩
    have e := int_text_length_le (a := i) (k := 1920) (by decide) h
    simp only [PyData.shown]
    rw [PySem.ofString_length]
    omega
  | _, _, _, .str (z := z) h => by
    refine ⟨by simp only [PyData.showable], by simp only [PyData.hasDict], ?_, by simp only [PyData.depth]; omega⟩
    have e := PySem.StrLaws.reprText_len z fun c hc => Nat.lt_of_lt_of_le (h c hc) (by decide)
    simp only [PyData.shown]
    have e2 : z.length = z.cps.size := rfl
    omega
  | _, _, _, .lst (xs := xs) h => by
    obtain ⟨h1, h2, h3, h4⟩ := ShnAll.ok h
    refine ⟨by simpa only [PyData.showable] using h1, by simpa only [PyData.hasDict] using h2, ?_, by simp only [PyData.depth]; omega⟩
    have := listText_len_le (PyData.shownAll xs)
    have h5 := PyData.shownAll_length xs
    simp only [PyData.shown]
    omega
  | _, _, _, .tup (xs := xs) h => by
    obtain ⟨h1, h2, h3, h4⟩ := ShnAll.ok h
    refine ⟨by simpa only [PyData.showable] using h1, by simpa only [PyData.hasDict] using h2, ?_, by simp only [PyData.depth]; omega⟩
    have := tupleText_len_le (PyData.shownAll xs)
    have h5 := PyData.shownAll_length xs
    simp only [PyData.shown]
    omega
theorem ShnAll.ok : ∀ {d : List PyData} {n k : Nat}, ShnAll d n k → PyData.showableAll d = true ∧ PyData.hasDictAll d = false ∧ ((PyData.shownAll d).map (·.length)).sum + 2 * d.length ≤ n ∧ PyData.depthAll d ≤ k
  | _, _, _, .nil => ⟨by simp only [PyData.showableAll], by simp only [PyData.hasDictAll], by simp [PyData.shownAll], by simp only [PyData.depthAll]; omega⟩
  | _, _, _, .cons h t => by
    obtain ⟨h1, h2, h3, h4⟩ := Shn.ok h
    obtain ⟨t1, t2, t3, t4⟩ := ShnAll.ok t
    refine ⟨by simp only [PyData.showableAll, h1, t1, Bool.and_true], by simp only [PyData.hasDictAll, h2, t2, Bool.or_false], ?_, by simp only [PyData.depthAll]; omega⟩
    simp only [PyData.shownAll, List.map_cons, List.sum_cons, List.length_cons]
    omega
end
mutual
theorem Shn.lay : ∀ {d : PyData} {n k : Nat}, Shn d n k → d.canLay0 = true
  | _, _, _, .non => rfl
  | _, _, _, .bl => rfl
  | _, _, _, .int _ => rfl
  | _, _, _, .str (z := z) h => by
    simp only [PyData.canLay0]
    unfold PyData.strOk
    rw [← Array.all_toList, List.all_eq_true]
    intro c hc
    exact decide_eq_true (Nat.lt_of_lt_of_le (h c hc) (by decide))
  | _, _, _, .lst h => by simp only [PyData.canLay0, ShnAll.lay h]
  | _, _, _, .tup h => by simp only [PyData.canLay0, ShnAll.lay h]
theorem ShnAll.lay : ∀ {d : List PyData} {n k : Nat}, ShnAll d n k → PyData.canLayAll0 d = true
  | _, _, _, .nil => by simp only [PyData.canLayAll0]
  | _, _, _, .cons h t => by simp only [PyData.canLayAll0, Shn.lay h, ShnAll.lay t, Bool.and_true]
end
theorem Shn.shaped {d : PyData} {n k : Nat} (h : Shn d n k) (hk : k ≤ 60) : SeqAt.shaped d = true := by
  unfold SeqAt.shaped
  rw [h.lay, decide_eq_true (by have := h.ok.2.2.2; omega)]
  rfl
theorem g_repr {K : PySem.W.Frag} {H : Hp} {Q : VK} {x : V} {d : PyData} {n k : Nat} (h : Dp K H x d) (s : Shn d n k) (hn : n ≤ 16000000) (hk : k ≤ 60) (q : Q (.str d.shown) H) : rRepr K [x] H Q := by
  obtain ⟨h1, h2, h3, h4⟩ := s.ok
  exact ⟨x, d, rfl, h, h1, h2, by rw [sizeLine_eq]; omega, by omega, q⟩
section
variable {K : PySem.W.Frag} {H : Hp} {Q : VK} {n m : Nat}
end
theorem mt_tyS {K : PySem.W.Frag} {H : Hp} {z : Str} {A : Prop} (h : A) : tyV K "str" (.str z) H ∧ A := ⟨rfl, h⟩
end Bz
namespace Bz
open PySem PySem.Spec PyProof.Rows L2
def tNoS : TS := fun _ _ _ => False
theorem ps_no {X : Cx} {st : Stmt} : PS X st tNoS := ⟨fun _ _ _ _ _ _ h => h.elim⟩
structure MethOk (P : Program) (w : World) (K : PySem.W.Frag) (mg : Str → Option Value) (base : Heap) (CX : CXT) (k : Nat) (C : Addr) (m : Str) (n : Nat) (ks : List Str) (sp : Sp) (gV : List V → List V → List V) : Prop where
  ok : ∃ f fd ps g, Meth K C m f ∧ FnG P w K mg base CX k f fd ps sp ∧ KBn K fd ps (n + 1) ks g gV
  cl : Cls K C
structure MakeOk (P : Program) (w : World) (K : PySem.W.Frag) (mg : Str → Option Value) (base : Heap) (CX : CXT) (k : Nat) (x : Str) (n : Nat) (ks : List Str) (sp : Sp) (gV : List V → List V → List V) : Prop where
  ok : ∃ f fd ps g, Mk K (He.ga K x) f ∧ FnG P w K mg base CX k f fd ps sp ∧ KBn K fd ps (n + 1) ks g gV
  at_ : mg x = some (.ref (He.ga K x))
def tMe (C : Addr) (m : Str) (n j : Nat) (sp : Sp) (gV : List V → List V → List V) (E : XK) (to : TE) (t tk : TA) : TE := fun σ H Q => to σ H fun x H1 => ∃ a dx fs, x = .ref a ∧ H1 a = some (.ins C dx fs) ∧ fs.lookup m = none ∧
  t σ H1 fun vs H2 => tk σ H2 fun zs H3 => vs.length = n ∧ zs.length = j ∧ sp (gV (x :: vs) zs) H3 Q E
def tMk (C : Addr) (n j : Nat) (sp : Sp) (gV : List V → List V → List V) (E : XK) (t tk : TA) : TE := fun σ H Q => t σ H fun vs H1 => tk σ H1 fun zs H2 => vs.length = n ∧ zs.length = j ∧
  ∀ x dx, H2 x = none → H2 dx = none → dx ≠ x → sp (gV (.ref x :: vs) zs) (upd (upd H2 dx (.own x)) x (.ins C dx [])) (fun v H3 => v = .non ∧ Q (.ref x) H3) E
section
variable {X : Cx} {CX : CXT} {k k' n : Nat} {C : Addr} {ks : List Str} {sp : Sp} {E : XK} {x m : Str} {p pos apos : Pos} {e o : Expr} {es : List Expr} {kws : List Keyword} {to : TE} {t tk : TA} {gV : List V → List V → List V}
theorem pe_me {pl : Sem Bool} (c : MethOk X.prog X.w X.K X.mg X.base CX k C m n ks sp gV) (hr : Room k' X.A) (hk : k ≤ k') (hg : X.A.guards = some []) (hx : Passes CX X E) (ho : PE X o to) (ha : PA X (e :: es) t) (hkw : PK X kws tk)
    (h1 : (backToKw pos (keywordEach kws X.env)).all (·.1.isSome) = true := by rfl) (h2 : (backToKw pos (keywordEach kws X.env)).filterMap (·.1) = ks := by rfl)
    (h4 : starEach (e :: es) X.env = (false, eval e X.env) :: starEach es X.env := by rfl)
    (h5 : ((backTo pos (starEach (e :: es) X.env)).any (·.1) || (backToKw pos (keywordEach kws X.env)).any (·.1.isNone)) = false := by rfl)
    (ht : eval (.Call (.Attribute o m apos) (e :: es) kws pos) X.env = (do
      let ov ← eval o X.env
      standAt apos.atName
      let (f, first) ← holding [ov] (getMethod ov m pl)
      callWith pos f first (backTo pos (starEach (e :: es) X.env)) (backToKw pos (keywordEach kws X.env))) := by rfl) :
    PE X (.Call (.Attribute o m apos) (e :: es) kws pos) (tMe C m n ks.length sp gV E to t tk) := by
  obtain ⟨⟨f, fd, ps, g, hm, F, kb⟩, cl⟩ := c
  refine ⟨fun pins s σ H Q I h => ?_⟩
  refine PySem.W.methodCall_KW (pl := pl) (thn (ho.run pins s σ H _ I h) fun u s1 ⟨x, H1, I1, rx, a, dx, fs, ex, ea, l, q⟩ => ?_) ht
  subst ex
  obtain rfl : u = Value.ref a := rx
  refine getmeth_ok I1 ea cl hm l ?_
  refine PySem.W.callWith_KW (first := [.ref a]) (h₀ := X.base) I.ok.mod.kin hm.kp h1 (thn (ha.run pos pins s1 σ H1 _ I1 q) ?_) h5 h4
  rintro us s2 ⟨vs, H2, I2, r, q2⟩
  refine thn (hkw.run pos pins s2 σ H2 _ I2 q2) ?_
  rintro ws s3 ⟨zs, H3, I3, rz, l1, l2, q3⟩
  refine ⟨I3.kIn, ?_⟩
  rw [h2]
  exact run_gn (us := .ref a :: us) (vs := .ref a :: vs) F (hr.mono hk) hg kb hx I3 (.cons rfl r) rz (congrArg Nat.succ l1) l2 q3
theorem pe_me0 {pl : Sem Bool} (c : MethOk X.prog X.w X.K X.mg X.base CX k C m n ks sp gV) (hr : Room k' X.A) (hk : k ≤ k') (hg : X.A.guards = some []) (hx : Passes CX X E) (ho : PE X o to) (hkw : PK X kws tk)
    (h1 : (backToKw pos (keywordEach kws X.env)).all (·.1.isSome) = true := by rfl) (h2 : (backToKw pos (keywordEach kws X.env)).filterMap (·.1) = ks := by rfl)
    (h5 : ((backTo pos (starEach [] X.env)).any (·.1) || (backToKw pos (keywordEach kws X.env)).any (·.1.isNone)) = false := by rfl)
    (ht : eval (.Call (.Attribute o m apos) [] kws pos) X.env = (do
      let ov ← eval o X.env
      standAt apos.atName
      let (f, first) ← holding [ov] (getMethod ov m pl)
      callWith pos f first (backTo pos (starEach [] X.env)) (backToKw pos (keywordEach kws X.env))) := by rfl) :
    PE X (.Call (.Attribute o m apos) [] kws pos) (tMe C m n ks.length sp gV E to tNil tk) := by
  obtain ⟨⟨f, fd, ps, g, hm, F, kb⟩, cl⟩ := c
  refine ⟨fun pins s σ H Q I h => ?_⟩
  refine PySem.W.methodCall_KW (pl := pl) (thn (ho.run pins s σ H _ I h) fun u s1 ⟨x, H1, I1, rx, a, dx, fs, ex, ea, l, q⟩ => ?_) ht
  subst ex
  obtain rfl : u = Value.ref a := rx
  refine getmeth_ok I1 ea cl hm l ?_
  refine PySem.W.callWith_KW0 (first := [.ref a]) (h₀ := X.base) I.ok.mod.kin hm.kp h1 (thn (hkw.run pos pins s1 σ H1 _ I1 q) ?_) h5
  rintro ws s3 ⟨zs, H3, I3, rz, l1, l2, q3⟩
  refine ⟨I3.kIn, ?_⟩
  rw [h2]
  exact run_gn (us := .ref a :: []) (vs := .ref a :: []) F (hr.mono hk) hg kb hx I3 (.cons rfl .nil) rz (congrArg Nat.succ l1) l2 q3
/-- a make runs __init__ -/
theorem run_mk {f : Addr} {fd : FuncData} {ps : List Str} {g : List Value → List Value → List Value} {pins : List (Addr × Obj)} {σ : L2.St} {H : Hp} {s : Shared} {Q : VK} {us ws : List Value} {vs zs : List V}
    (M : Mk X.K C f) (F : FnG X.prog X.w X.K X.mg X.base CX k f fd ps sp) (hr : Room (k + 1) X.A) (hg : X.A.guards = some []) (hb : KBn X.K fd ps (n + 1) ks g gV)
    (hx : Passes CX X E) (I : Inv X pins σ H s) (r : Vals vs us) (rz : Vals zs ws) (l1 : vs.length = n) (l2 : zs.length = ks.length)
    (h : ∀ x dx, H x = none → H dx = none → dx ≠ x → sp (gV (.ref x :: vs) zs) (upd (upd H dx (.own x)) x (.ins C dx [])) (fun v H2 => v = .non ∧ Q (.ref x) H2) E) :
    wpAny (model X.prog X.w) X.A (call (.ref C) us (ks.zip ws)) (EP X pins σ Q) X.xe s := by
  have hq := h (s.heap.objs.size + 1) s.heap.objs.size (I.hok.fresh (Nat.le_succ _)) (I.hok.fresh (Nat.le_refl _)) (Nat.ne_of_lt (Nat.lt_succ_self _))
  have I2 := Inv.made (C := C) I
  have r1 : Vals (V.ref (s.heap.objs.size + 1) :: vs) (Value.ref (s.heap.objs.size + 1) :: us) := .cons rfl r
  refine wpAny_call (make_map (f := f) I.kIn M.makes M.init (beq_iff_eq.mp M.fn) (codeAny_mono (F.go _ X.stack _ _ ⟨Value.ref (s.heap.objs.size + 1) :: us, ks.zip ws⟩ (g (Value.ref (s.heap.objs.size + 1) :: us) ws) _ _ E (hr.make C us (ks.zip ws)) (guards_make hg)
    (I2.env0.make C us (ks.zip ws)) (hb.to _ (Value.ref (s.heap.objs.size + 1) :: us) ws I2.kIn (r1.length.symm.trans (congrArg Nat.succ l1)) (rz.length.symm.trans l2)) (hb.rel r1 rz) hq) ?_))
  rintro (e | fl) s' z
  · exact hx pins σ _ _ e s' I2 z
  · cases fl with
    | ret u =>
      obtain ⟨v, H', I3, rv, ev, q3⟩ := I2.after z
      subst ev
      exact ⟨rv, ⟨V.ref (s.heap.objs.size + 1), H', I3, rfl, q3⟩⟩
    | _ => exact False.elim z
theorem pe_mk (c : MakeOk X.prog X.w X.K X.mg X.base CX k x n ks sp gV) (hr : Room k' X.A) (hk : k + 1 ≤ k') (hg : X.A.guards = some []) (gl : Gl X x) (hx : Passes CX X E) (ha : PA X (e :: es) t) (hkw : PK X kws tk)
    (h1 : (backToKw pos (keywordEach kws X.env)).all (·.1.isSome) = true := by rfl) (h2 : (backToKw pos (keywordEach kws X.env)).filterMap (·.1) = ks := by rfl)
    (h3 : (x == ("__debug__" : Str)) = false := by decide) (h4 : starEach (e :: es) X.env = (false, eval e X.env) :: starEach es X.env := by rfl)
    (h5 : ((backTo pos (starEach (e :: es) X.env)).any (·.1) || (backToKw pos (keywordEach kws X.env)).any (·.1.isNone)) = false := by rfl) :
    PE X (.Call (.Name x p) (e :: es) kws pos) (tMk (He.ga X.K x) n ks.length sp gV E t tk) := by
  obtain ⟨⟨f, fd, ps, g, M, F, kb⟩, hm⟩ := c
  refine ⟨fun pins s σ H Q I h => ?_⟩
  refine wpAny_Call_Name_kw (ld_glob I gl hm ?_ h3)
  refine PySem.W.callWith_KW (h₀ := X.base) I.ok.mod.kin M.kp h1 (thn (ha.run pos pins s σ H _ I h) ?_) h5 h4
  rintro us s1 ⟨vs, H1, I1, r, q⟩
  refine thn (hkw.run pos pins s1 σ H1 _ I1 q) ?_
  rintro ws s2 ⟨zs, H2, I2, rz, l1, l2, q2⟩
  refine ⟨I2.kIn, ?_⟩
  rw [h2]
  exact run_mk M F (hr.mono hk) hg kb hx I2 r rz l1 l2 q2
end
section
variable {B : Hp} {M M' L L' : List (Addr × HO)} {σ : St} {H : Hp} {Q : VK} {K : PySem.W.Frag} {to te tv : TE} {tl tk : TA} {C a dx : Addr} {fs fs' : List (Str × V)} {m f : Str} {v y : V}
variable {nx bk ct : St → Hp → Prop} {rt : VK}
/-- fields -/
inductive FGet : List (Str × V) → Str → V → Prop
  | here {f : Str} {v : V} {l : List (Str × V)} : FGet ((f, v) :: l) f v
  | there {f g : Str} {v u : V} {l : List (Str × V)} : (f == g) = false → FGet l f v → FGet ((g, u) :: l) f v
inductive NoF (f : Str) : List (Str × V) → Prop
  | nil : NoF f []
  | cons {g : Str} {u : V} {l : List (Str × V)} : (f == g) = false → NoF f l → NoF f ((g, u) :: l)
theorem FGet.eq (h : FGet fs f v) : fs.lookup f = some v := by
  induction h with
  | here => simp [List.lookup]
  | there hne _ ih =>
    rw [List.lookup_cons, hne]
    exact ih
theorem NoF.eq (h : NoF f fs) : fs.lookup f = none := by
  induction h with
  | nil => rfl
  | cons hne _ ih =>
    rw [List.lookup_cons, hne]
    exact ih
def aMe (C : Addr) (m : Str) (x : V) (H : Hp) (A : Prop) : Prop := ∃ a dx fs, x = .ref a ∧ H a = some (.ins C dx fs) ∧ fs.lookup m = none ∧ A
theorem g_me {n j : Nat} {sp : Sp} {gV : List V → List V → List V} {E : XK} (h : to σ H fun x H1 => aMe C m x H1 (tl σ H1 fun vs H2 => tk σ H2 fun zs H3 => aCl n j sp (fun vs zs => gV (x :: vs) zs) E vs zs H3 Q)) : tMe C m n j sp gV E to tl tk σ H Q := by
  exact h
theorem g_aMe {A : Prop} (h : H a = some (.ins C dx fs)) (n : NoF m fs) (q : A) : aMe C m (.ref a) H A := ⟨a, dx, fs, rfl, h, n.eq, q⟩
def aMk (C : Addr) (n j : Nat) (sp : Sp) (gV : List V → List V → List V) (E : XK) (vs zs : List V) (H2 : Hp) (Q : VK) : Prop := vs.length = n ∧ zs.length = j ∧
  ∀ x dx, H2 x = none → H2 dx = none → dx ≠ x → sp (gV (.ref x :: vs) zs) (upd (upd H2 dx (.own x)) x (.ins C dx [])) (fun v H3 => v = .non ∧ Q (.ref x) H3) E
theorem g_mk {n j : Nat} {sp : Sp} {gV : List V → List V → List V} {E : XK} (h : tl σ H fun vs H1 => tk σ H1 fun zs H2 => aMk C n j sp gV E vs zs H2 Q) : tMk C n j sp gV E tl tk σ H Q := h
theorem g_aMk {n j : Nat} {sp : Sp} {gV : List V → List V → List V} {E : XK} {vs zs : List V} (I : Is B M L H) (h1 : vs.length = n) (h2 : zs.length = j)
    (q : ∀ x dx H', Is B M ((x, .ins C dx []) :: (dx, .own x) :: L) H' → sp (gV (.ref x :: vs) zs) H' (fun v H3 => v = .non ∧ Q (.ref x) H3) E) : aMk C n j sp gV E vs zs H Q :=
  ⟨h1, h2, fun x dx hx hd hne => q x dx _ ((I.new hd).new (by rw [upd_ne (Ne.symm hne)]; exact hx))⟩
/-- o.f -/
def aFld (K : PySem.W.Frag) (f : Str) (x : V) (H1 : Hp) (Q : VK) : Prop := ∃ a C dx fs v, x = .ref a ∧ H1 a = some (.ins C dx fs) ∧ Cls K C ∧ NoAttr K C f ∧ fs.lookup f = some v ∧ Q v H1
theorem g_fld (h : to σ H fun x H1 => aFld K f x H1 Q) : tFld K to f σ H Q := h
theorem g_aFld (h : H a = some (.ins C dx fs)) (c : Cls K C) (n : NoAttr K C f) (g : FGet fs f v) (q : Q v H) : aFld K f (.ref a) H Q := ⟨a, C, dx, fs, v, rfl, h, c, n, g.eq, q⟩
/-- o.f = v -/
def aSetF (K : PySem.W.Frag) (f : Str) (y x : V) (H2 : Hp) (QH : Hp → Prop) : Prop := ∃ a C dx fs, x = .ref a ∧ H2 a = some (.ins C dx fs) ∧ Cls K C ∧ NoAttr K C f ∧ fs.length < 1000 ∧ QH (upd H2 a (.ins C dx (putF f y fs)))
theorem g_setF (h : tv σ H fun y H1 => to σ H1 fun x H2 => aSetF K f y x H2 fun H3 => nx σ H3) : sFld K to tv f ⟨nx, rt, bk, ct⟩ σ H := h
/-- a field is put -/
inductive FPut (f : Str) (v : V) : List (Str × V) → List (Str × V) → Prop
  | nil : FPut f v [] [(f, v)]
  | here {u : V} {l : List (Str × V)} : FPut f v ((f, u) :: l) ((f, v) :: l)
  | there {g : Str} {u : V} {l l' : List (Str × V)} : ¬ g = f → FPut f v l l' → FPut f v ((g, u) :: l) ((g, u) :: l')
theorem FPut.eq (h : FPut f v fs fs') : putF f v fs = fs' := by
  induction h with
  | nil => rfl
  | here => exact if_pos rfl
  | there hne _ ih =>
    show (if _ = _ then _ else _) = _
    rw [if_neg hne, ih]
theorem g_aSetF {QH : Hp → Prop} (I : Is B M L H) (h : H a = some (.ins C dx fs)) (c : Cls K C) (n : NoAttr K C f) (hz : fs.length < 100) (fp : FPut f y fs fs') (u : Put a (.ins C dx fs') L L') (q : ∀ H', Is B M L' H' → QH H') : aSetF K f y (.ref a) H QH :=
  ⟨a, C, dx, fs, rfl, h, c, n, by omega, q _ (by rw [fp.eq]; exact I.put u)⟩
theorem g_par3 {i j l : Nat} (h : tl σ H fun vs H1 => ∃ u v w, vs = [u, v, w] ∧ nx (((σ.set i (some u)).set j (some v)).set l (some w)) H1) : tPar3 i j l tl ⟨nx, rt, bk, ct⟩ σ H := h
theorem g_par3b {i j l : Nat} {σ1 σ2 σ3 : St} {u v w : V} (s1 : SetAt σ i (some u) σ1) (s2 : SetAt σ1 j (some v) σ2) (s3 : SetAt σ2 l (some w) σ3) (q : nx σ3 H) :
    ∃ u' v' w', [u, v, w] = [u', v', w'] ∧ nx (((σ.set i (some u')).set j (some v')).set l (some w')) H := by
  refine ⟨u, v, w, rfl, ?_⟩
  rw [s1.eq, s2.eq, s3.eq]
  exact q
/-- a power of written numbers -/
theorem g_pow {a b c : Int} (h : CPow a b) (e : a ^ b.toNat = c) (q : Q (.int c) H) : rI CPow (fun i j => .int (i ^ j.toNat)) (.int a) (.int b) H Q := ⟨a, b, rfl, rfl, h, by subst e; exact q⟩
/-- x op= e -/
theorem g_aug {i : Nat} {ti : TIp} {x : V} (h : At σ i x) (q : te σ H fun y H1 => ti x y H1 fun z H2 => nx (σ.set i (some z)) H2) : tAug i te ti ⟨nx, rt, bk, ct⟩ σ H := ⟨x, h.eq, q⟩
theorem g_set {σ' : St} {i : Nat} (s : SetAt σ i (some v) σ') (q : nx σ' H) : nx (σ.set i (some v)) H := by
  rw [s.eq]
  exact q
end
end Bz
namespace Bz
open PySem PySem.Spec PyProof.Rows L2
open AutoSeq1 (wpAny_loadPart')
theorem enum_newT (l : Addr) (items : Array Value) (n : Nat) (dct : Option Addr) (sl : Array (Option Value)) :
    Meets (Builtin.«enumerate.__new__» ⟨[.type "enumerate", .ref l], []⟩) (fun _ R s => s.heap.get? l = some { cls := .type "tuple", dict := dct, data := .seq items n, slots := sl } ∧
      R (.ok (.ret (.ref (s.heap.push { cls := .type "tuple_iterator", data := .fields #[.ref l, .int 0 0] }).objs.size)))
        { s with heap := (s.heap.push { cls := .type "tuple_iterator", data := .fields #[.ref l, .int 0 0] }).push { cls := .type "enumerate", data := .fields #[.none, .bool false, .ref s.heap.objs.size, rawInt 0, .none, .none] } }) :=
  .of_wp fun prog w A R s h => by
    obtain ⟨hp, g, d, tk, os⟩ := s
    obtain ⟨hl, h⟩ := h
    have hsub := sub_enumerate
    have hT : Heap.IsTuple (Shared.heap ⟨hp, g, d, tk, os⟩) l items := ⟨_, hl, rfl, n, rfl⟩
    wp_walk using wpAny_loadPart' hl
    refine wpAny_stack_any fun st => wpAny_pure ?_
    split
    · rename_i c _ _ _ _ _
      cases (c == Value.type "enumerate")
      · wp_walk using wpAny_loadPart' hl, wpAny_pyIter_tuple hT
        exact ⟨_, rfl, h⟩
      · wp_walk using wpAny_loadPart' hl, wpAny_pyIter_tuple hT
        exact ⟨_, rfl, h⟩
    · wp_walk using wpAny_loadPart' hl, wpAny_pyIter_tuple hT
      exact ⟨_, rfl, h⟩
theorem call_enumT {prog : Program} {w : World} {A : Around} {E : Value → Shared → Prop} {s : Shared} {l : Addr} {items : Array Value} {Q : Value → Shared → Prop} (hL : s.heap.IsTuple l items)
    (h : ∀ h', IsEnum h' (s.heap.objs.size + 1) s.heap.objs.size 0 .none → h'.IsTupleIter s.heap.objs.size l 0 → h'.objs.size = s.heap.objs.size + 2 →
      (∀ b o, s.heap.get? b = some o → h'.get? b = some o) → Q (.ref (s.heap.objs.size + 1)) { s with heap := h' }) :
    wpAny (model prog w) A (call (.type "enumerate") [.ref l]) Q E s := by
  obtain ⟨⟨c, dct, dt, sl⟩, hl, hc, n, hd⟩ := hL
  replace hc : c = .type "tuple" := hc
  replace hd : dt = .seq items n := hd
  subst hc hd
  refine callType_new F.called_enumerate (by decide) (F.typeCall_enumerate_1 _) (F.newCall_enumerate_1 _) (fun obj => F.args_object_init_2 obj _) F.entry_enumerate_new
    (enum_newT l items n dct sl) ⟨hl, ?_⟩
  have hz : (s.heap.push { cls := .type "tuple_iterator", data := .fields #[.ref l, .int 0 0] }).objs.size = s.heap.objs.size + 1 := Heap.size_push ..
  show _ ∧ _
  rw [hz]
  have he : IsEnum ((s.heap.push { cls := .type "tuple_iterator", data := .fields #[.ref l, .int 0 0] }).push
      { cls := .type "enumerate", data := .fields #[.none, .bool false, .ref s.heap.objs.size, rawInt 0, .none, .none] }) (s.heap.objs.size + 1) s.heap.objs.size 0 .none := by
    have z := Heap.get?_push_size (s.heap.push { cls := .type "tuple_iterator", data := .fields #[.ref l, .int 0 0] })
      (o := { cls := .type "enumerate", data := .fields #[.none, .bool false, .ref s.heap.objs.size, rawInt 0, .none, .none] }) rfl
    rw [hz] at z
    exact z
  exact ⟨⟨_, he, rfl⟩, h _ he ⟨_, Heap.get?_push_of_some _ (Heap.get?_push_size _ rfl), rfl, rfl⟩ (by rw [Heap.size_push, hz]) fun b o x => Heap.get?_push_of_some _ (Heap.get?_push_of_some _ x)⟩
/-- the tuple at a, each item in a new pair -/
def IteT (K : PySem.W.Frag) (a : Addr) : It :=
  ⟨fun i H => ∃ (xs : List V) (x : V), SqT K H a xs ∧ xs[i]? = some x, fun i H v H' => ∃ T x, v = .ref T ∧ H T = none ∧ H' = upd H T (.tup [.int (i : Nat), x]) ∧ ∀ xs, SqT K H a xs → xs[i]? = some x, fun i H => ∃ xs : List V, SqT K H a xs ∧ xs.length ≤ i⟩
theorem turn_enumT {P : Program} {w : World} {K : PySem.W.Frag} {elts : List Expr} {kk : Nat} {tpos : Pos} (a e it : Addr) :
    Turn P w K (.Tuple elts kk tpos) (IteT K a) [e, it] e (fun i h => (∃ old, IsEnum h e it ((i : Nat) : Int) old) ∧ h.IsTupleIter it a i ∧ e ≠ it ∧ a ≠ it ∧ e ≠ a) where
  mem := by simp
  obj := fun i h st b hb => by
    obtain ⟨⟨old, he⟩, ⟨o, ho, hc, hd⟩, _⟩ := st
    have e' : b = e ∨ b = it := by simpa using hb
    rcases e' with z | z
    · rw [z]
      exact ⟨_, he, fun v q => nomatch q⟩
    · rw [z]
      exact ⟨o, ho, fun v q => by rw [hd] at q; cases q⟩
  keep := fun i h h' st k => let ⟨⟨old, he⟩, hi, hne⟩ := st; ⟨⟨old, k e (by simp) _ he⟩, hi.at fun o q => k it (by simp) o q, hne⟩
  item := by
    intro X hP hw hK hc i pins s σ H E I hf st hg
    subst hP hw hK
    obtain ⟨⟨old, he⟩, hit, hne, hai, hea⟩ := st
    obtain ⟨xs, x, hq, hx⟩ := hg
    obtain ⟨its, rv, p, hz⟩ := I.tuple hq
    obtain ⟨u, hu, ru⟩ := rv.get hx
    have hel : e < s.heap.objs.size := Heap.lt_size he
    have hil : it < s.heap.objs.size := by obtain ⟨_, q, _⟩ := hit; exact Heap.lt_size q
    have hu2 : its.toArray[i]? = some u := by simpa using hu
    have hlt : i < its.toArray.size := by
      rcases Nat.lt_or_ge i its.toArray.size with z | z
      · exact z
      · rw [Array.getElem?_eq_none z] at hu2
        cases hu2
    refine wpAny_pyNext_enum_itemD (Draws.tuple (show X.A.in1.handled = none from I.ok.hd hc) it a hai its.toArray) he ⟨hit, p⟩ hlt hne (by simpa using ⟨hne, hea⟩) fun y h' tk' hy ho hst hT hsz hk => ?_
    have hyu : y = u := by
      have := hy.symm.trans hu2
      exact Option.some.inj this
    subst hyu
    refine ⟨_, rfl, wpAny_letOwnedTupleGo_enum (s := { s with heap := h', toks := tk' + 1 }) ho fun h'' he' sb => ?_⟩
    have hT2 : h''.get? s.heap.objs.size = some { cls := .type "tuple", data := .seq #[.int i tk', y] } := (sb.2 _ (Nat.ne_of_gt hel)).trans hT
    have new : ObjOk X.prog X.w (upd H s.heap.objs.size (.tup [.int (i : Nat), x])) h'' s.heap.objs.size (.tup [.int (i : Nat), x]) :=
      ⟨by show 2 ≤ sizeLine; decide, [.int i tk', y], .cons ⟨_, rfl⟩ (.cons ru .nil), ⟨_, hT2, rfl, _, rfl⟩⟩
    have I1 : Inv X pins σ (upd H s.heap.objs.size (.tup [.int (i : Nat), x])) { s with heap := h'', toks := tk' + 1 } :=
      I.turnedNew (ch := [e, it]) (fun b ob hb q => (sb.2 b (fun z => hb (by simp [z]))).trans (hk b ob (fun z => hb (by simp [z])) (fun z => hb (by simp [z])) q)) hf (Nat.le_refl _) new
    refine ⟨.ref s.heap.objs.size, _, I1, rfl, ⟨_, x, rfl, I.hok.fresh (Nat.le_refl _), rfl, fun ys hy => by rw [I.tuple_inj hy hq]; exact hx⟩, ⟨⟨y, ?_⟩, hst.1.at fun o q => (sb.2 it (Ne.symm hne)).trans q, hne, hai, hea⟩, fun b hb => ?_⟩
    · have e1 : ((i + 1 : Nat) : Int) = (i : Int) + 1 := by omega
      rw [e1]
      exact he'
    · have hb' : b < s.heap.objs.size := by
        have e' : b = e ∨ b = it := by simpa using hb
        rcases e' with z | z
        · rw [z]
          exact hel
        · rw [z]
          exact hil
      rw [upd_ne (Nat.ne_of_lt hb')]
      exact (hf b hb).1
  done := by
    intro X hP hw hK hc i pins s σ H E I hf st hg
    subst hP hw hK
    obtain ⟨⟨old, he⟩, hit, hne, hai, hea⟩ := st
    obtain ⟨xs, hq, hx⟩ := hg
    obtain ⟨its, rv, p, hz⟩ := I.tuple hq
    obtain ⟨f0, f1, f2, f3, f4, f5⟩ := hf it (by simp)
    have hl := rv.length
    have hd : X.A.in1.handled = none := I.ok.hd hc
    unfold pyNext
    have hTy : s.TypeIs (.ref e) "enumerate" := ⟨_, he, rfl⟩
    refine wpAny_bind (wpAny_attempt (wpAny_callSpecial?_slot (name := Str.ofString "__next__") hTy F.slot_enumerate_next
      (wpAny_call_entry F.slot_enumerate_next hTy F.entry_enumerate_next ?_ (F.args_enumerate_next_1 _))))
    show wpAny _ _ (field (.ref e) 2 >>= _) _ _ _
    refine wpAny_bind (wpAny_field he rfl (x := .ref it) rfl ?_)
    refine wpAny_bind (wpAny_nextOf_tuple_end hd hit p (by simp; omega) fun h' x eb hx' => ?_)
    obtain ⟨o, ho, hc2⟩ := hx'
    refine wpAny_bind (wpAny_isInstance (T := "StopIteration") (b := true) ⟨o, ho, hc2⟩ isSubtype_stop ?_)
    exact wpAny_pure ⟨rfl, I.turned (t' := s.toks) (fun b o hb q => eb b o hb q) f0 f1 f3 f4 f5⟩
  self := fun A i s Q E st h => let ⟨⟨_, he⟩, _⟩ := st; wpAny_pyIter_enum he h
/-- enumerate of a list or of a tuple -/
def iEnumA (K : PySem.W.Frag) (ta : TA) : TI := fun σ H R => ta σ H fun vs H1 => ∃ a xs, vs = [.ref a] ∧ ((SqL K H1 a xs ∧ R (Ite K a) H1) ∨ (SqT K H1 a xs ∧ R (IteT K a) H1))
theorem pi_enumA {X : Cx} {e : Expr} {ta : TA} {p pos tpos : Pos} {elts : List Expr} {kk : Nat} (hg : Gl X "enumerate") (hm : X.mg "enumerate" = none) (ha : PA X [e] ta) (hs : starEach [e] X.env = [(false, eval e X.env)] := by rfl) :
    PI X (.Tuple elts kk tpos) (.Call (.Name "enumerate" p) [e] [] pos) (iEnumA X.K ta) := by
  refine ⟨fun pins s σ H R I h => ?_⟩
  refine Call_ (ld_blt I hg hm boot_enumerate (PyProof.Rows.callWith_type1 (thn (ha.run pos pins s σ H _ I h) fun us s1 ⟨vs, H1, I1, r1, q1⟩ => ?_) hs rfl))
  obtain ⟨a, xs, ex, q⟩ := q1
  subst ex
  cases r1 with
  | cons r rr =>
    cases rr
    cases r
    have hb : ∀ {b : Addr}, b = s1.heap.objs.size + 1 ∨ b = s1.heap.objs.size → s1.heap.objs.size ≤ b := fun {b} e' => by
      rcases e' with z | z
      · rw [z]
        exact Nat.le_add_right _ _
      · rw [z]
        exact Nat.le_refl _
    rcases q with ⟨hq, q⟩ | ⟨hq, q⟩
    · obtain ⟨its, rv, p', hz⟩ := I1.list hq
      refine call_enumerate_list p'.isList fun h' he hit hsz hk => wpAny_pyIter_enum he ?_
      have I2 : Inv X pins σ H1 { s1 with heap := h' } := I1.kept (t' := s1.toks) hk
      refine ⟨s1.heap.objs.size + 1, [s1.heap.objs.size + 1, s1.heap.objs.size], _, _, H1, rfl, I2, turn_enum a (s1.heap.objs.size + 1) s1.heap.objs.size, ⟨⟨.none, he⟩, hit, Nat.succ_ne_self _⟩, fun b hbm => ?_, q⟩
      have hle := hb (by simpa using hbm)
      exact I1.fpOk hle (I1.hok.fresh hle)
    · obtain ⟨its, rv, p', hz⟩ := I1.tuple hq
      have hal : a < s1.heap.objs.size := by
        obtain ⟨o, ho, _⟩ := p'
        exact Heap.lt_size ho
      refine call_enumT p' fun h' he hit hsz hk => wpAny_pyIter_enum he ?_
      have I2 : Inv X pins σ H1 { s1 with heap := h' } := I1.kept (t' := s1.toks) hk
      refine ⟨s1.heap.objs.size + 1, [s1.heap.objs.size + 1, s1.heap.objs.size], _, _, H1, rfl, I2, turn_enumT a (s1.heap.objs.size + 1) s1.heap.objs.size, ⟨⟨.none, he⟩, hit, Nat.succ_ne_self _, Nat.ne_of_lt hal, fun z => absurd hal (by rw [← z]; exact Nat.not_lt_of_le (Nat.le_add_right _ _))⟩, fun b hbm => ?_, q⟩
      have hle := hb (by simpa using hbm)
      exact I1.fpOk hle (I1.hok.fresh hle)
end Bz
namespace Bz
open PySem PySem.Spec PyProof.Rows L2
def rMax2 : List V → Hp → VK → Prop := fun xs H Q => ∃ i j, xs = [.int i, .int j] ∧ Q (.int (if j > i then j else i)) H
def rMin2 : List V → Hp → VK → Prop := fun xs H Q => ∃ i j, xs = [.int i, .int j] ∧ Q (.int (if j < i then j else i)) H
def rTupOf (K : PySem.W.Frag) : List V → Hp → VK → Prop := fun xs H Q => ∃ p ys, xs = [.ref p] ∧ ((SqL K H p ys ∧ ∀ l, H l = none → Q (.ref l) (upd H l (.tup ys))) ∨ (SqT K H p ys ∧ Q (.ref p) H))
section
variable {X : Cx}
theorem cl_max2 (hc : X.calm = true) : CallR X (.builtin "max") rMax2 := call_max2 hc
theorem cl_min2 (hc : X.calm = true) : CallR X (.builtin "min") rMin2 := call_min2 hc
end
section
variable {B : Hp} {M M' L L' : List (Addr × HO)} {σ : St} {H : Hp} {Q : VK} {K : PySem.W.Frag} {tl : TA} {R : It → Hp → Prop} {a b p : Addr} {xs ys : List V} {i j : Int}
theorem imax (i j : Int) : (if j > i then j else i) = max i j := by
  by_cases h : j > i
  · rw [if_pos h]
    omega
  · rw [if_neg h]
    omega
theorem imin (i j : Int) : (if j < i then j else i) = min i j := by
  by_cases h : j < i
  · rw [if_pos h]
    omega
  · rw [if_neg h]
    omega
theorem g_max2 (q : Q (.int (max i j)) H) : rMax2 [.int i, .int j] H Q := ⟨i, j, rfl, by rw [imax]; exact q⟩
theorem g_min2 (q : Q (.int (min i j)) H) : rMin2 [.int i, .int j] H Q := ⟨i, j, rfl, by rw [imin]; exact q⟩
theorem g_tupOf (I : Is B M L H) (h : SqL K H a xs) (q : ∀ p H', Is B M ((p, .tup xs) :: L) H' → Q (.ref p) H') : rTupOf K [.ref a] H Q := ⟨a, xs, rfl, .inl ⟨h, fun p hp => q p _ (I.new hp)⟩⟩
theorem g_listOfL (I : Is B M L H) (h : SqL K H a xs) (q : ∀ p H', Is B M ((p, .lst xs) :: L) H' → Q (.ref p) H') : rListOf K [.ref a] H Q := ⟨a, xs, rfl, .inl h, fun p hp => q p _ (I.new hp)⟩
theorem g_listOfT (I : Is B M L H) (h : SqT K H a xs) (q : ∀ p H', Is B M ((p, .lst xs) :: L) H' → Q (.ref p) H') : rListOf K [.ref a] H Q := ⟨a, xs, rfl, .inr h, fun p hp => q p _ (I.new hp)⟩
theorem g_sum {ns : List Int} (h : SqL K H a (ns.map V.int)) (q : Q (.int ns.sum) H) : rSum K [.ref a] H Q := ⟨a, ns, rfl, h, q⟩
def aEnumA (K : PySem.W.Frag) (vs : List V) (H : Hp) (R : It → Hp → Prop) : Prop := ∃ a xs, vs = [.ref a] ∧ ((SqL K H a xs ∧ R (Ite K a) H) ∨ (SqT K H a xs ∧ R (IteT K a) H))
theorem g_enumA (h : tl σ H fun vs H1 => aEnumA K vs H1 R) : iEnumA K tl σ H R := h
theorem g_aEnumL (h : SqL K H a xs) (q : R (Ite K a) H) : aEnumA K [.ref a] H R := ⟨a, xs, rfl, .inl ⟨h, q⟩⟩
theorem g_aEnumT (h : SqT K H a xs) (q : R (IteT K a) H) : aEnumA K [.ref a] H R := ⟨a, xs, rfl, .inr ⟨h, q⟩⟩
def aZipA (K : PySem.W.Frag) (vs : List V) (H : Hp) (R : It → Hp → Prop) : Prop := ∃ a b xs ys, vs = [.ref a, .ref b] ∧ ((SqL K H a xs ∧ SqL K H b ys ∧ R (Itz K a b) H) ∨ (SqT K H a xs ∧ SqT K H b ys ∧ R (RZ.ItzT K a b) H))
theorem g_zipA (h : tl σ H fun vs H1 => aZipA K vs H1 R) : RZ.iZipA K tl σ H R := h
theorem g_aZipL (h : SqL K H a xs) (h2 : SqL K H b ys) (q : R (Itz K a b) H) : aZipA K [.ref a, .ref b] H R := ⟨a, b, xs, ys, rfl, .inl ⟨h, h2, q⟩⟩
theorem g_aZipT (h : SqT K H a xs) (h2 : SqT K H b ys) (q : R (RZ.ItzT K a b) H) : aZipA K [.ref a, .ref b] H R := ⟨a, b, xs, ys, rfl, .inr ⟨h, h2, q⟩⟩
theorem g_ipI {f : Int → Int → Int} (q : Q (.int (f i j)) H) : ipI f (.int i) (.int j) H Q := ⟨i, j, rfl, rfl, q⟩
end
end Bz
namespace Bz
open PySem PySem.Spec PyProof.Rows L2
section
variable {B : Hp} {M L : List (Addr × HO)} {σ σ0 : St} {H : Hp} {Q : VK} {te : TE} {g : TG} {J : It} {vs : List Nat} {xs : List V}
theorem take_snocI {α : Type} {l : List α} {i : Nat} {a : α} (h : l[i]? = some a) : l.take (i + 1) = l.take i ++ [a] := by
  rw [List.take_add_one, h]
  rfl
/-- a comprehension without a test whose items ys are known one by one -/
theorem g_lcI {G : Hp → Prop} {n : Nat} (ys : List V) (hn : ys.length = n) {Y : Nat → Hp → V → Hp → Prop} (w : Walk J n G Y) (I : Is B M L H) (hw : Wiped σ vs σ0) (hz : n ≤ 900000)
    (hG : ∀ D acc H', Is B M ((D, .lst acc) :: L) H' → G H')
    (hs : ∀ (i : Nat) (x y : V) (D : Addr) (acc : List V) (H' H'' : Hp), i < n → Y i H' x H'' → ys[i]? = some y → Is B M ((D, .lst acc) :: L) H' → ∀ (PY : V → Hp → Prop), (∀ H4, Is B M ((D, .lst acc) :: L) H4 → PY y H4) →
      g x σ0 H'' fun σ2 H2 => wipe σ2 vs = σ0 ∧ te σ2 H2 fun z H4 => PY z H4)
    (hd : ∀ D H', Is B M ((D, .lst ys) :: L) H' → Q (.ref D) H') : aLc J g tYes te vs σ H Q := by
  refine g_aLc w I hw hz (fun i acc B' M' => B = B' ∧ M = M' ∧ acc = ys.take i) ⟨rfl, rfl, rfl⟩ ?_ ?_ ?_
  · rintro i acc B' M' D H' _ s I' ⟨rfl, rfl, rfl⟩
    exact hG D _ H' I'
  · rintro i x acc B' M' D H' H'' hi s I' ⟨rfl, rfl, e⟩ y hl
    obtain ⟨z, hz⟩ : ∃ z, ys[i]? = some z := ⟨_, List.getElem?_eq_getElem (by omega)⟩
    have := hs i x z D acc H' H'' hi y hz I' (LcY (fun i acc B' M' => B = B' ∧ M = M' ∧ acc = ys.take i) B L D i) fun H4 I4 => lcY s I4 hl ⟨rfl, rfl, by rw [take_snocI hz, e]⟩
    exact this
  · rintro acc B' M' D H' s I' ⟨rfl, rfl, rfl⟩ _
    rw [List.take_of_length_le (by omega)] at I'
    exact hd D H' I'
/-- the same, over a list or a tuple -/
theorem g_lcX {G : Hp → Prop} (ys : List V) (hn : ys.length = xs.length) (w : Walk J xs.length G (YAt xs)) (I : Is B M L H) (hw : Wiped σ vs σ0) (hz : xs.length ≤ 900000)
    (hG : ∀ D acc H', Is B M ((D, .lst acc) :: L) H' → G H')
    (hs : ∀ (i : Nat) (x y : V) (D : Addr) (acc : List V) (H' : Hp), xs[i]? = some x → ys[i]? = some y → Is B M ((D, .lst acc) :: L) H' → ∀ (PY : V → Hp → Prop), (∀ H4, Is B M ((D, .lst acc) :: L) H4 → PY y H4) →
      g x σ0 H' fun σ2 H2 => wipe σ2 vs = σ0 ∧ te σ2 H2 fun z H4 => PY z H4)
    (hd : ∀ D H', Is B M ((D, .lst ys) :: L) H' → Q (.ref D) H') : aLc J g tYes te vs σ H Q := by
  refine g_lcI ys hn w I hw hz hG ?_ hd
  rintro i x y D acc H' H'' hi ⟨rfl, hx⟩ hy I' PY q
  exact hs i x y D acc _ hx hy I' PY q
end
inductive All2 {α β : Type} (F : α → β → Prop) : List α → List β → Prop
  | nil : All2 F [] []
  | cons {a : α} {b : β} {l : List α} {m : List β} : F a b → All2 F l m → All2 F (a :: l) (b :: m)
section
variable {α β : Type} {F G : α → β → Prop}
theorem All2.mono (h : ∀ a b, F a b → G a b) : ∀ {l : List α} {m : List β}, All2 F l m → All2 G l m
  | _, _, .nil => .nil
  | _, _, .cons h1 t => .cons (h _ _ h1) (t.mono h)
theorem All2.len : ∀ {l : List α} {m : List β}, All2 F l m → l.length = m.length
  | _, _, .nil => rfl
  | _, _, .cons _ t => by rw [List.length_cons, List.length_cons, t.len]
theorem All2.get : ∀ {l : List α} {m : List β} {i : Nat} {x : α}, All2 F l m → l[i]? = some x → ∃ y, m[i]? = some y ∧ F x y
  | _, _, 0, _, .cons h _, e => by
    cases e
    exact ⟨_, rfl, h⟩
  | _, _, i + 1, _, .cons _ t, e => t.get (i := i) e
theorem All2.get' : ∀ {l : List α} {m : List β} {i : Nat} {y : β}, All2 F l m → m[i]? = some y → ∃ x, l[i]? = some x ∧ F x y
  | _, _, 0, _, .cons h _, e => by
    cases e
    exact ⟨_, rfl, h⟩
  | _, _, i + 1, _, .cons _ t, e => t.get' (i := i) e
theorem All2.mem {l : List α} {m : List β} {x : α} (h : All2 F l m) (hx : x ∈ l) : ∃ y ∈ m, F x y := by
  obtain ⟨i, e⟩ := List.getElem?_of_mem hx
  obtain ⟨y, e2, f⟩ := h.get e
  exact ⟨y, List.mem_of_getElem? e2, f⟩
theorem All2.app : ∀ {l l' : List α} {m m' : List β}, All2 F l m → All2 F l' m' → All2 F (l ++ l') (m ++ m')
  | _, _, _, _, .nil, h => h
  | _, _, _, _, .cons h t, h2 => .cons h (t.app h2)
theorem All2.snoc {l : List α} {m : List β} {x : α} {y : β} (h : All2 F l m) (h2 : F x y) : All2 F (l ++ [x]) (m ++ [y]) := h.app (.cons h2 .nil)
end
end Bz
namespace Bz
open PySem PySem.Spec PyProof.Rows L2
/-- a op1 b op2 c op3 d -/
def tChain3 (r r' r3 : R2) (ta tb tc td : TE) : TE := fun σ H Q => ta σ H fun x H1 => tb σ H1 fun y H2 => r x y H2 fun z H3 => aIfV z H3
  (fun H3 => tc σ H3 fun w H4 => r' y w H4 fun z2 H5 => aIfV z2 H5 (fun H5 => td σ H5 fun v H6 => r3 w v H6 Q) fun H5 => Q (.bl false) H5) fun H3 => Q (.bl false) H3
theorem g_chain3 {σ : St} {H : Hp} {Q : VK} {ta tb tc td : TE} {r r' r3 : R2} (h : ta σ H fun x H1 => tb σ H1 fun y H2 => r x y H2 fun z H3 => aIfV z H3
  (fun H3 => tc σ H3 fun w H4 => r' y w H4 fun z2 H5 => aIfV z2 H5 (fun H5 => td σ H5 fun v H6 => r3 w v H6 Q) fun H5 => Q (.bl false) H5) fun H3 => Q (.bl false) H3) : tChain3 r r' r3 ta tb tc td σ H Q := h
end Bz
namespace Bz
open PySem PySem.Spec PyProof.Rows L2
abbrev IsTri (h : Heap) (T : Addr) (a b c : Value) : Prop := h.get? T = some { cls := .type "tuple", data := .seq #[a, b, c] }
section
variable {prog : Program} {w : World} {A : Around} {E : Value → Shared → Prop} {s : Shared} {n l1 l2 l3 : Nat}
/-- a zip of three lists that has given k threes: its parts lie one behind the other from n on -/
structure Z3 (h : Heap) (n l1 l2 l3 k : Nat) : Prop where
  z : IsZip h (n + 5) (n + 3) (n + 4) .none
  ti : IsTri h (n + 3) (.ref n) (.ref (n + 1)) (.ref (n + 2))
  to : ∃ a b c, IsTri h (n + 4) a b c
  i1 : h.IsListIter n l1 k
  i2 : h.IsListIter (n + 1) l2 k
  i3 : h.IsListIter (n + 2) l3 k
  h1 : l1 < n
  h2 : l2 < n
  h3 : l3 < n
end
section
variable {prog : Program} {w : World} {A : Around} {E : Value → Shared → Prop} {s : Shared}
end
/-- the lists at a, b, c as they stand at each turn, the items in new tuples of three -/
def Itz3 (K : PySem.W.Frag) (a b c : Addr) : It :=
  ⟨fun i H => ∃ (xs ys zs : List V) (x y z : V), SqL K H a xs ∧ SqL K H b ys ∧ SqL K H c zs ∧ xs[i]? = some x ∧ ys[i]? = some y ∧ zs[i]? = some z,
    fun i H v H' => ∃ T x y z, v = .ref T ∧ H T = none ∧ H' = upd H T (.tup [x, y, z]) ∧ (∀ xs, SqL K H a xs → xs[i]? = some x) ∧ (∀ ys, SqL K H b ys → ys[i]? = some y) ∧ ∀ zs, SqL K H c zs → zs[i]? = some z,
    fun i H => ∃ xs : List V, SqL K H a xs ∧ xs.length ≤ i⟩
def aZip3 (K : PySem.W.Frag) (vs : List V) (H : Hp) (R : It → Hp → Prop) : Prop := ∃ a b c xs ys zs, vs = [.ref a, .ref b, .ref c] ∧ SqL K H a xs ∧ SqL K H b ys ∧ SqL K H c zs ∧ R (Itz3 K a b c) H
def iZip3 (K : PySem.W.Frag) (ta : TA) : TI := fun σ H R => ta σ H fun vs H1 => aZip3 K vs H1 R
section
variable {K : PySem.W.Frag} {a b c : Addr} {xs ys zs : List V} {tl : TA} {σ : St} {H : Hp} {R : It → Hp → Prop}
theorem g_zip3 (h : tl σ H fun vs H1 => aZip3 K vs H1 R) : iZip3 K tl σ H R := h
theorem g_aZip3 (h : SqL K H a xs) (h2 : SqL K H b ys) (h3 : SqL K H c zs) (q : R (Itz3 K a b c) H) : aZip3 K [.ref a, .ref b, .ref c] H R := ⟨a, b, c, xs, ys, zs, rfl, h, h2, h3, q⟩
end
end Bz
namespace Bz
open PySem PySem.Spec PyProof.Rows L2
section
variable {prog : Program} {w : World} {A : Around} {E : Value → Shared → Prop} {s : Shared}
end
section
variable {K : PySem.W.Frag} {H : Hp} {Q : VK} {a : Addr} {ns : List Int} {i : Int} {σ : St} {r : List V → List V → Hp → VK → Prop} {t tk : TA}
end
end Bz
namespace Bz
open PySem PySem.Spec PyProof.Rows L2
section
variable {B : Hp} {M L : List (Addr × HO)} {σ σ0 : St} {H : Hp} {Q : VK} {te : TE} {g : TG} {J : It} {vs : List Nat} {xs : List V}
end
end Bz
namespace Bz
open PySem PySem.Spec PyProof.Rows L2
section
variable {X : Cx} {CX : CXT} {pins : List (Addr × Obj)} {σ : L2.St} {H : Hp} {s : Shared} {a C dx f : Addr} {fs : List (Str × V)} {k : Nat} {sp : Sp} {E : XK} {fd : FuncData} {ps : List Str} {gV : List V → List V → List V} {g : List Value → List Value → List Value} {ks : List Str}
/-- the callee runs below the running body -/
theorem run_gA {A : Around} {Q : VK} {us : List Value} {vs : List V} {n : Nat} (F : FnG X.prog X.w X.K X.mg X.base CX k f fd ps sp) (hr : Room k A) (hg : A.guards = some []) (e0 : Env0 X.prog X.w X.K X.mg X.base A X.stack s H) (hb : KBn X.K fd ps n [] g gV) (hx : Passes CX X E)
    (I : Inv X pins σ H s) (r : Vals vs us) (l1 : vs.length = n) (h : sp (gV vs []) H Q E) : wpAny (model X.prog X.w) A (call (.ref f) us) (EP X pins σ Q) X.xe s := by
  refine wpAny_call (codeAny_mono (F.go A X.stack s H ⟨us, []⟩ (g us []) (gV vs []) Q E hr hg e0 (hb.to s us [] I.kIn (r.length.symm.trans l1) rfl) (hb.rel r .nil) h) ?_)
  intro r s' z
  cases r with
  | error e => exact hx pins σ H s e s' I z
  | ok fl =>
    cases fl with
    | ret u => exact I.after z
    | next => exact False.elim z
    | brk => exact False.elim z
    | cont => exact False.elim z
theorem looks_ty {x : V} {u t : Value} (I : Inv X pins σ H s) (rx : RelV x u) (ty : TyOf X.K H x t) {M : Model} : PySem.W.Looks M s.heap (typeOf u) t := by
  cases ty with
  | non => cases (show u = Value.none from rx); exact PySem.W.kitx_none.ty _ _ I.kIn True.intro
  | bl y => cases (show u = Value.bool y from rx); exact PySem.W.kitx_bool.ty _ _ I.kIn True.intro
  | int i => obtain ⟨t, q⟩ := (show ∃ t, u = Value.int i t from rx); cases q; exact PySem.W.kitx_int.ty _ _ I.kIn True.intro
  | str y => obtain ⟨t, q⟩ := (show ∃ t, u = Value.str y t from rx); cases q; exact PySem.W.kitx_str.ty _ _ I.kIn True.intro
  | flt y => obtain ⟨t, q⟩ := (show ∃ t, u = Value.float y t from rx); cases q; exact PySem.W.kitx_float.ty _ _ I.kIn True.intro
  | @lst a xs ea =>
    cases (show u = Value.ref a from rx)
    obtain ⟨_, _, n, _, h1⟩ := (show ObjOk X.prog X.w H s.heap a (.lst xs) from I.hok a _ ea)
    exact PySem.W.kitx_list.ty _ _ I.kIn ⟨_, h1, rfl⟩
  | @frz a ob xs ea =>
    cases (show u = Value.ref a from rx)
    obtain ⟨_, _, _, n, _, h1⟩ := (show ObjOk X.prog X.w H s.heap a (.frz ob (.lst xs)) from I.hok a _ ea)
    exact PySem.W.kitx_list.ty _ _ I.kIn ⟨_, h1, rfl⟩
  | @tup a xs ea =>
    cases (show u = Value.ref a from rx)
    obtain ⟨_, _, _, p⟩ := (show ObjOk X.prog X.w H s.heap a (.tup xs) from I.hok a _ ea)
    obtain ⟨o, h1, h2, _⟩ := p
    exact PySem.W.kitx_tuple.ty _ _ I.kIn ⟨o, h1, h2⟩
  | @dK a kvs ea =>
    cases (show u = Value.ref a from rx)
    obtain ⟨_, _, vs, _, p⟩ := (show ObjOk X.prog X.w H s.heap a (.dK kvs) from I.hok a _ ea)
    obtain ⟨o, es, ep, h1, h2, _⟩ := p
    exact PySem.W.kitx_dict.ty _ _ I.kIn ⟨o, h1, h2.1⟩
  | @dT a kvs ea =>
    cases (show u = Value.ref a from rx)
    obtain ⟨_, _, xs, _, o, es, ep, h1, h2, _⟩ := (show ObjOk X.prog X.w H s.heap a (.dT kvs) from I.hok a _ ea)
    exact PySem.W.kitx_dict.ty _ _ I.kIn ⟨o, h1, h2.1⟩
  | @ins a C dx fs ea cl ha hn htk hm =>
    cases (show u = Value.ref a from rx)
    obtain ⟨mA, O, _⟩ := ins_get I.hok ea
    obtain ⟨od, J, _⟩ := O.look
    exact (PySem.W.kitx_own (cl.get _) cl.hd ha hn htk hm).ty _ _ I.kIn J
/-- what == of the class's instances asks: one of them at x, y of the type t that is not looked at first -/
def rOwnEq (K : PySem.W.Frag) (C : Addr) (sp : Sp) (gV : List V → List V → List V) (E : XK) : R2 := fun x y H Q => ∃ a dx fs t, x = .ref a ∧ H a = some (.ins C dx fs) ∧ TyOf K H y t ∧ PySem.W.notFirst K C t = true ∧ sp (gV [x, y] []) H Q E
theorem op_ownEq (c : MethOk X.prog X.w X.K X.mg X.base CX k C "__eq__" 1 [] sp gV) {k' : Nat} (hr : Room k' X.A) (hk : k ≤ k') (hg : X.A.guards = some []) (hx : Passes CX X E) : OpR X (compareOp .Eq) (rOwnEq X.K C sp gV E) := by
  obtain ⟨⟨f, fd, ps, g, hm, F, kb⟩, cl⟩ := c
  intro pins s σ H x y v u Q I rx ry h
  obtain ⟨a, dx, fs, t, rfl, ha, ty, hn, q⟩ := h
  cases (show v = Value.ref a from rx)
  obtain ⟨mA, O, _⟩ := ins_get I.hok ha
  obtain ⟨od, J, _⟩ := O.look
  obtain ⟨m, hF⟩ := I.fr
  show wpAny _ _ (richCompare .Eq (.ref a) u) _ _ _
  refine PySem.W.cmp_K (op := .Eq) (tb := t) hr.units0 hF I.ok.mod.kin J (looks_ty I ry ty) hn hm.at_ hm.fn ?_
  refine wpAny_mono (run_gA (us := [.ref a, u]) (vs := [.ref a, y]) F (hr.mono hk) hg I.env0 kb hx I (.cons rfl (.cons ry .nil)) rfl q) (fun w s' z => ?_) fun _ _ x => x
  obtain ⟨z', H', I', rz, qz⟩ := z
  exact SlX.cmpback rz ⟨z', H', I', rz, qz⟩
theorem ifBound_B {M : Model} {A : Around} {E : Value → Shared → Prop} {x : Addr} {ox : Obj} {od : Option Obj} {name : Str} {id B : String} {args : List Value} {Q : Option Value → Shared → Prop} {K : PySem.W.Frag} (XK : K.In s.heap) (I : PySem.W.InstAt s.heap x ox C od)
    (hs : PySem.W.findIn K (.ref C) name = some (some (.builtin id))) (S : Slot B name id) (h : wpAny M A (call (.builtin id) (.ref x :: args)) (fun v => Q (some v)) E s) : wpAny M A (callSpecialIfBound? (.ref x) name args) Q E s := by
  simp only [callSpecialIfBound?, bindSpecialIfBound?]
  refine wpAny_holding (wpAny_bind (wpAny_bind (wpAny_bind (I.type.here ((PySem.W.looks_findIn XK hs).here ?_)))))
  simp only [S.bind]
  refine wpAny_bind (wpAny_askSetting (wpAny_ite ?_))
  have fin : wpAny M A (call (.builtin id) ([.ref x] ++ args) >>= fun v => pure (some v)) Q E s := wpAny_bind (wpAny_mono h (fun v s' h' => wpAny_pure h') fun _ _ h' => h')
  split
  · exact wpAny_bind (wpAny_pure (wpAny_pure fin))
  · exact wpAny_tryCatch (wpAny_bind (wpAny_pure (wpAny_pure fin)))
/-- what != asks of the class: object's -/
structure OwnC (K : PySem.W.Frag) (C : Addr) : Prop where
  ne : PySem.W.findIn K (.ref C) "__ne__" = some (some (.builtin "object.__ne__"))
  ob : PySem.W.subIn K (.ref C) (.type "object") = some true
def rOwnNe (K : PySem.W.Frag) (C : Addr) (sp : Sp) (gV : List V → List V → List V) (E : XK) : R2 := fun x y H Q => ∃ a dx fs t, x = .ref a ∧ H a = some (.ins C dx fs) ∧ TyOf K H y t ∧ PySem.W.notFirst K C t = true ∧ sp (gV [x, y] []) H (fun v H' => ∃ b, v = .bl b ∧ Q (.bl (!b)) H') E
theorem op_ownNe (c : MethOk X.prog X.w X.K X.mg X.base CX k C "__eq__" 1 [] sp gV) (oc : OwnC X.K C) {k' : Nat} (hr : Room (k' + 1) X.A) (hk : k ≤ k') (hg : X.A.guards = some []) (hx : Passes CX X E) : OpR X (compareOp .NotEq) (rOwnNe X.K C sp gV E) := by
  obtain ⟨⟨f, fd, ps, g, hm, G, kb⟩, cl⟩ := c
  intro pins s σ H x y v u Q I rx ry h
  obtain ⟨a, dx, fs, t, rfl, ha, ty, hn, q⟩ := h
  cases (show v = Value.ref a from rx)
  obtain ⟨mA, O, _⟩ := ins_get I.hok ha
  obtain ⟨od, J, _⟩ := O.look
  have KX := I.kIn
  -- the call of object.__ne__
  have one : wpAny (model X.prog X.w) X.A (tryCompare (.ref a) "__ne__" u) (fun r s' => ∃ b H', r = some (Value.bool b) ∧ Inv X pins σ H' s' ∧ Q (.bl b) H') X.xe s := by
    unfold tryCompare
    refine wpAny_bind (ifBound_B KX J oc.ne F.cmp_object.ne (wpAny_call (codeAny_call_builtin F.cmp_object.ne.plain F.cmpEntry_ne ?_)))
    refine PySem.W.check_slot F.cmpKind_ne F.cmpSplit_ne (J.type.andThen (PySem.W.looks_subIn KX oc.ob)) (F.cmpArgs_ne _ _) ?_
    unfold Builtin.«object.__ne__»
    refine wpAny_bind (wpAny_of_eq (a := ((Value.ref a : Value), [u])) (by first | rfl | (simp only [slotArgs]; rfl)) ?_)
    refine wpAny_bind (wpAny_cRoomFor (Room.in1 hr).units0 ?_)
    refine wpAny_bind (PySem.W.ifBound_K KX J hm.at_ hm.fn (wpAny_mono (run_gA (A := X.A.in1) (us := [.ref a, u]) (vs := [.ref a, y]) G ((Room.in1 hr).mono hk) hg I.env0.in1 kb hx I (.cons rfl (.cons ry .nil)) rfl q) (fun w s' z => ?_) fun e s' z => z))
    obtain ⟨z', H', I', rz, b, eb, qz⟩ := z
    subst eb
    cases (show w = Value.bool b from rz)
    refine wpAny_bind (wpAny_truthy_bool ?_)
    exact wpAny_pure (wpAny_pure ⟨!b, H', rfl, I', qz⟩)
  show wpAny _ _ (richCompare .NotEq (.ref a) u) _ _ _
  unfold richCompare
  simp only [oneThing_ref]
  refine wpAny_holding (wpAny_bind (wpAny_cRoomFor hr.units0 ?_))
  refine wpAny_bind (J.type.here (wpAny_bind ((looks_ty I ry ty).here ?_)))
  split
  · rename_i q
    have e : PySem.W.subIn X.K t (.ref C) = some false := by
      rcases Bool.or_eq_true_iff.mp hn with e | e
      · rw [beq_iff_eq.mp e] at q; simp at q
      · exact beq_iff_eq.mp e
    refine wpAny_bind ((PySem.W.looks_subIn KX e).here ?_)
    simp only [Bool.false_eq_true, if_false]
    refine wpAny_bind (wpAny_mono one (fun r s' z => ?_) fun _ _ e => e)
    obtain ⟨b, H', rfl, I', qz⟩ := z
    exact wpAny_pure ⟨.bl b, H', I', rfl, qz⟩
  · refine wpAny_bind (wpAny_pure ?_)
    simp only [Bool.false_eq_true, if_false]
    refine wpAny_bind (wpAny_mono one (fun r s' z => ?_) fun _ _ e => e)
    obtain ⟨b, H', rfl, I', qz⟩ := z
    exact wpAny_pure ⟨.bl b, H', I', rfl, qz⟩
end
end Bz
namespace Bz
open PySem PySem.Spec PyProof.Rows L2
section
variable {prog : Program} {w : World} {A : Around} {E : Value → Shared → Prop} {s : Shared} {K : PySem.W.Frag} {a C : Addr} {ox : Obj} {od : Option Obj} {Q : Value → Shared → Prop}
end
section
variable {X : Cx} {CX : CXT} {pins : List (Addr × Obj)} {σ : L2.St} {H : Hp} {s : Shared} {a C dx f : Addr} {fs : List (Str × V)} {k : Nat} {sp : Sp} {E : XK} {gV : List V → List V → List V}
/-- what stands at the left: none, a number, a text, a list, a tuple, a dict -/
inductive Odd (K : PySem.W.Frag) (H : Hp) : V → String → Prop
  | non : Odd K H .non "NoneType"
  | int (i : Int) : Odd K H (.int i) "int"
  | str (z : Str) : Odd K H (.str z) "str"
  | lst {l : Addr} {xs : List V} (e : SqL K H l xs) : Odd K H (.ref l) "list"
  | tup {l : Addr} {xs : List V} (e : SqT K H l xs) : Odd K H (.ref l) "tuple"
  | dK {l : Addr} {kvs : List (Key × V)} (e : H l = some (.dK kvs)) : Odd K H (.ref l) "dict"
/-- the class is none of the built-in ones -/
structure NoB (K : PySem.W.Frag) (C : Addr) : Prop where
  no : PySem.W.subIn K (.ref C) (.type "NoneType") = some false
  i : PySem.W.subIn K (.ref C) (.type "int") = some false
  s : PySem.W.subIn K (.ref C) (.type "str") = some false
  l : PySem.W.subIn K (.ref C) (.type "list") = some false
  t : PySem.W.subIn K (.ref C) (.type "tuple") = some false
  d : PySem.W.subIn K (.ref C) (.type "dict") = some false
end
end Bz
namespace Bz
open PySem PySem.Spec PyProof.Rows L2
section
variable {prog : Program} {w : World} {A : Around} {E : Value → Shared → Prop} {s : Shared}
end
section
variable {X : Cx} {CX : CXT} {pins : List (Addr × Obj)} {σ : L2.St} {H : Hp} {s : Shared} {k : Nat} {sp : Sp} {E : XK} {C : Addr} {gV : List V → List V → List V}
end
end Bz
namespace Bz
open PySem PySem.Spec PyProof.Rows L2
section
variable {B : Hp} {M L L' : List (Addr × HO)} {σ : St} {H : Hp} {Q : VK} {te : TE} {QS : Str → Hp → Prop} {acc y : Str} {ts : List TE}
end
def OTY : List String := ["NoneType", "int", "str", "list", "tuple", "dict"]
/-- all that is asked of an own class here -/
structure OwnD (K : PySem.W.Frag) (C : Addr) : Prop where
  own : OwnC K C
  nb : NoB K C
  nob : PySem.W.findIn K (.ref C) "__bool__" = some none
  c1 : PySem.W.findIn K (.ref C) "__class__" = some (some (.builtin "object.__class__"))
  c2 : PySem.W.specialIn K (.builtin "object.__class__") "__get__" = some (some (.builtin "getset_descriptor.__get__"))
  c3 : PySem.W.takesIn K (.builtin "object.__class__") = some true
  c4 : PySem.W.mroIn K C (.type "object") = some true
  k0 : PySem.W.kitOne K (.ref C) (.ref C) = some true
  k1 : ∀ T ∈ OTY, PySem.W.kitOne K (.type T) (.ref C) = some false
  n1 : ∀ T ∈ OTY, PySem.W.notFirst K C (.type T) = true
  k2 : ∀ T ∈ (["int", "bool", "str", "list", "tuple"] : List String), PySem.W.kitOne K (.ref C) (.type T) = some false
def ownB (K : PySem.W.Frag) (C : Addr) : Bool :=
  He.eqO (PySem.W.findIn K (.ref C) "__ne__") (some (some (.builtin "object.__ne__"))) && (decide (PySem.W.subIn K (.ref C) (.type "object") = some true) &&
  ((OTY.all fun T => decide (PySem.W.subIn K (.ref C) (.type T) = some false)) &&
  (He.eqO (PySem.W.findIn K (.ref C) "__bool__") (some none) &&
  (He.eqO (PySem.W.findIn K (.ref C) "__class__") (some (some (.builtin "object.__class__"))) &&
  (decide (PySem.W.specialIn K (.builtin "object.__class__") "__get__" = some (some (.builtin "getset_descriptor.__get__"))) &&
  (decide (PySem.W.takesIn K (.builtin "object.__class__") = some true) && (decide (PySem.W.mroIn K C (.type "object") = some true) &&
  (decide (PySem.W.kitOne K (.ref C) (.ref C) = some true) && ((OTY.all fun T => decide (PySem.W.kitOne K (.type T) (.ref C) = some false)) && ((OTY.all fun T => PySem.W.notFirst K C (.type T)) && (["int", "bool", "str", "list", "tuple"] : List String).all fun T => decide (PySem.W.kitOne K (.ref C) (.type T) = some false)))))))))))
theorem ownB_ok {K : PySem.W.Frag} {C : Addr} (h : ownB K C = true) : OwnD K C := by
  unfold ownB at h
  simp only [Bool.and_eq_true] at h
  obtain ⟨a1, a2, a3, a4, a5, a6, a7, a8, a9, a10, a11, a12⟩ := h
  have s := fun T hT => of_decide_eq_true (List.all_eq_true.mp a3 T hT)
  exact ⟨⟨He.eqO_ok a1, of_decide_eq_true a2⟩, ⟨s "NoneType" (by decide), s "int" (by decide), s "str" (by decide), s "list" (by decide), s "tuple" (by decide), s "dict" (by decide)⟩, He.eqO_ok a4, He.eqO_ok a5, of_decide_eq_true a6, of_decide_eq_true a7, of_decide_eq_true a8, of_decide_eq_true a9,
    fun T hT => of_decide_eq_true (List.all_eq_true.mp a10 T hT), fun T hT => List.all_eq_true.mp a11 T hT, fun T hT => of_decide_eq_true (List.all_eq_true.mp a12 T hT)⟩
/-- a thing of a built-in kind -/
inductive Oth (K : PySem.W.Frag) (H : Hp) : V → String → Prop
  | non : Oth K H .non "NoneType"
  | int (i : Int) : Oth K H (.int i) "int"
  | str (z : Str) : Oth K H (.str z) "str"
  | lst {l : Addr} {xs : List V} (e : H l = some (.lst xs)) : Oth K H (.ref l) "list"
  | tup {l : Addr} {xs : List V} (e : H l = some (.tup xs)) : Oth K H (.ref l) "tuple"
  | dK {l : Addr} {kvs : List (Key × V)} (e : H l = some (.dK kvs)) : Oth K H (.ref l) "dict"
section
variable {K : PySem.W.Frag} {H H' : Hp} {x y : V} {T : String} {C a b dx dy : Addr} {fs gs : List (Str × V)} {Q : VK} {sp : Sp} {gV : List V → List V → List V} {E : XK}
theorem Oth.same (s : Same H H') (o : Oth K H x T) : Oth K H' x T := by
  cases o with
  | non => exact .non
  | int i => exact .int i
  | str z => exact .str z
  | lst e => exact .lst (s _ _ e)
  | tup e => exact .tup (s _ _ e)
  | dK e => exact .dK (s _ _ e)
theorem Oth.mem (o : Oth K H x T) : T ∈ OTY := by cases o <;> decide
theorem Oth.ty (o : Oth K H x T) : TyOf K H x (.type T) := by
  cases o with
  | non => exact .non
  | int i => exact .int i
  | str z => exact .str z
  | lst e => exact .lst e
  | tup e => exact .tup e
  | dK e => exact .dK e
theorem OwnD.ty (D : OwnD K C) (c : Cls K C) (h : H a = some (.ins C dx fs)) : TyOf K H (.ref a) (.ref C) := .ins h c D.c1 D.c2 D.c3 D.c4
theorem g_isiO (D : OwnD K C) (c : Cls K C) (h : H a = some (.ins C dx fs)) (q : Q (.bl true) H) : rIsi K [.ref a, .ref C] H Q := ⟨_, _, _, _, true, rfl, .own C, .base (D.ty c h), D.k0, q⟩
theorem self_first : PySem.W.notFirst K C (.ref C) = true := by simp [PySem.W.notFirst]
theorem g_ownEqI (D : OwnD K C) (c : Cls K C) (h : H a = some (.ins C dx fs)) (h2 : H b = some (.ins C dy gs)) (q : sp (gV [.ref a, .ref b] []) H Q E) : rOwnEq K C sp gV E (.ref a) (.ref b) H Q := ⟨a, dx, fs, _, rfl, h, D.ty c h2, self_first, q⟩
def aNeg (v : V) (H : Hp) (Q : VK) : Prop := ∃ b, v = .bl b ∧ Q (.bl (!b)) H
theorem g_aNeg {b : Bool} (q : Q (.bl (!b)) H) : aNeg (.bl b) H Q := ⟨b, rfl, q⟩
theorem g_ownNeI (D : OwnD K C) (c : Cls K C) (h : H a = some (.ins C dx fs)) (h2 : H b = some (.ins C dy gs)) (q : sp (gV [.ref a, .ref b] []) H (fun v H' => aNeg v H' Q) E) : rOwnNe K C sp gV E (.ref a) (.ref b) H Q := ⟨a, dx, fs, _, rfl, h, D.ty c h2, self_first, q⟩
end
end Bz
namespace Bz
open PySem PySem.Spec PyProof.Rows L2
section
variable {σ : St} {H : Hp} {Q : VK} {nx bk ct : St → Hp → Prop} {rt : VK}
end
end Bz
namespace Bz
open PySem PySem.Spec PyProof.Rows L2
end Bz
namespace Bz
open PySem PySem.Spec PyProof.Rows L2
structure KTab (K : PySem.W.Frag) (w : World) (d : Addr) (kvs : List (Str × Str)) : Prop where
  ex : ∃ es n, KDict K w d es n ∧ (∀ q ∈ kvs, ∃ u, PySem.W.nsIn K d q.1 = some (some u) ∧ RelV (.str q.2) u) ∧ ∀ z, (∀ q ∈ kvs, q.1 ≠ z) → PySem.W.nsIn K d z = some none
theorem nsIn_no {K : PySem.W.Frag} {P : Params} {d : Addr} {es : Array DictEntry} {n : Nat} {keys : List Str} {z : Str} (h : K.lookup d = some ⟨.type "dict", none, .dict es n, #[]⟩) (hk : es.toList.map He.keyOf = He.keysIn P keys) (hz : ∀ k ∈ keys, k ≠ z) : PySem.W.nsIn K d z = some none := by
  have key : ∀ e ∈ es.toList, ∃ k t, e.key = .str k t ∧ k ∈ keys := fun e he => by
    have h1 : He.keyOf e ∈ es.toList.map He.keyOf := List.mem_map.mpr ⟨e, he, rfl⟩
    rw [hk] at h1
    obtain ⟨k, hk1, hk2⟩ := List.mem_map.mp h1
    unfold He.keyOf at hk2
    split at hk2
    · rename_i x t q
      have h2 := Option.some.inj hk2
      have h3 := (Prod.mk.inj h2).1
      exact ⟨x, t, q, by rw [← h3]; exact hk1⟩
    · cases hk2
  have f1 : es.toList.find? (·.key.isStr z) = none := List.find?_eq_none.mpr fun e he hc => by
    obtain ⟨k, t, h1, h2⟩ := key e he
    rw [h1] at hc
    exact hz k h2 (eq_of_beq hc)
  have f2 : es.toList.any (·.refKey) = false := List.any_eq_false.mpr fun e he hc => by
    obtain ⟨k, t, h1, h2⟩ := key e he
    unfold DictEntry.refKey at hc
    rw [h1] at hc
    cases hc
  unfold PySem.W.nsIn
  rw [h]
  show (match es.toList.find? (·.key.isStr z) with
    | some e => some (some e.val)
    | none => if es.toList.any (·.refKey) then none else some none) = some none
  rw [f1]
  show (if es.toList.any (·.refKey) = true then none else some none) = some none
  rw [f2]
  rfl
theorem ktab_of {fa : List He.Fa} {fn : List He.DefD} {ts : List He.Tab} {w : World} {K : PySem.W.Frag} {kvs : List (Str × Str)} {dk : PySem.W.Frag → Addr} (c : He.SaysT fa fn ts w K) (i : Nat) (h : ts[i]? = some (dk, kvs.map (·.1))) (hv : He.valsB K (dk K) (kvs.map fun q => (q.1, He.Dv.str q.2)) = true) : KTab K w (dk K) kvs := by
  have e : ts.map (fun t => He.dicW K (t.1 K)) = ts.map fun t => some (He.keysIn w.params t.2) := congrArg (fun z : He.AlT => z.2) c
  have e2 : (ts.map fun t => He.dicW K (t.1 K))[i]? = (ts.map fun t => some (He.keysIn w.params t.2))[i]? := by rw [e]
  rw [List.getElem?_map, List.getElem?_map, h] at e2
  have e3 : He.dicW K (dk K) = some (He.keysIn w.params (kvs.map (·.1))) := Option.some.inj e2
  obtain ⟨es, n, D⟩ := He.dicW_ok e3
  refine ⟨es, n, D, fun q hq => He.valsB_ok hv (q := (q.1, He.Dv.str q.2)) (List.mem_map_of_mem (f := fun q : Str × Str => (q.1, He.Dv.str q.2)) hq), fun z hz => ?_⟩
  have e4 : es.toList.map He.keyOf = He.keysIn w.params (kvs.map (·.1)) := by
    unfold He.dicW at e3
    rw [D.at_] at e3
    have e5 : (match decide (("dict" : String) = "dict") && ((#[] : Array (Option Value)).isEmpty && !(dk K == sysModules)) with
      | true => some (es.toList.map He.keyOf)
      | false => none) = some (He.keysIn w.params (kvs.map (·.1))) := e3
    rw [D.low] at e5
    exact Option.some.inj e5
  exact nsIn_no D.at_ e4 fun k hk => by
    obtain ⟨q, hq, rfl⟩ := List.mem_map.mp hk
    exact hz q hq
def tKGet (d : Addr) (kvs : List (Str × Str)) (te : TE) : TE := fun σ H Q => te σ H fun y H1 => ∃ z, y = .str z ∧ ((∃ v, (z, v) ∈ kvs ∧ Q (.str v) H1) ∨ ((∀ q ∈ kvs, q.1 ≠ z) ∧ Q .non H1))
section
variable {X : Cx} {o e : Expr} {apos cpos : Pos} {ty : TE} {d : Addr} {kvs : List (Str × Str)}
theorem pe_kget (D : KTab X.K X.w d kvs) (ho : PE X o (tC (.ref d))) (he : PE X e ty) (m : M1 X o "get" apos e cpos) : PE X (.Call (.Attribute o "get" apos) [e] [] cpos) (tKGet d kvs ty) := by
  obtain ⟨es, n, D, hv, hno⟩ := D.ex
  refine ⟨fun pins s σ H Q I h => ?_⟩
  refine wpAny_Call_method m.base m.few m.line PySem.F.plainAttrs_dict PySem.F.slot_dict_get PySem.F.type_dict_get (thn (ho.run pins s σ H (fun x H1 => x = .ref d ∧ tKGet d kvs ty σ H1 Q) I ⟨rfl, h⟩) fun u s1 ⟨x, H1, I1, rx, ex, q1⟩ => ?_)
  subst ex
  obtain rfl : u = Value.ref d := rx
  refine ⟨kd_type D I1, fun b q => ?_, ?_⟩
  · cases q
    exact ⟨_, I1.kIn _ _ D.at_, rfl⟩
  · rw [m.trees]
    refine Calls.callWith_builtin rfl (Calls.evalArgs_plain (Calls.spliced_cons (thn (he.run pins s1 σ H1 _ I1 q1) fun iv s2 ⟨y, H2, I2, ry, z, ey, hz⟩ => Calls.spliced_nil ?_)))
    subst ey
    obtain ⟨t, rfl⟩ := ry
    rcases hz with ⟨v, hz, q2⟩ | ⟨hz, q2⟩
    · obtain ⟨u, hu, ru⟩ := hv _ hz
      refine call_meetsIn PySem.F.slot_dict_get (kd_type D I2) PySem.F.entry_dict_get (PySem.F.args_dict_get_2 _ _) (meets_dict_get (PySem.strKind X.prog X.w) d (PySem.strKind_is X.prog X.w z t) D.low) ⟨_, PySem.W.mapOf_K (prog := X.prog) I2.kIn D.at_ D.lit, ?_⟩
      refine ⟨.str v, H2, I2.tok _, ?_, q2⟩
      rw [PySem.W.find_K D.at_ hu]
      exact ru
    · refine call_meetsIn PySem.F.slot_dict_get (kd_type D I2) PySem.F.entry_dict_get (PySem.F.args_dict_get_2 _ _) (meets_dict_get (PySem.strKind X.prog X.w) d (PySem.strKind_is X.prog X.w z t) D.low) ⟨_, PySem.W.mapOf_K (prog := X.prog) I2.kIn D.at_ D.lit, ?_⟩
      refine ⟨.non, H2, I2.tok _, ?_, q2⟩
      rw [PySem.W.find_K D.at_ (hno z hz)]
      rfl
end
theorem g_kget {d : Addr} {kvs : List (Str × Str)} {te : TE} {σ : St} {H : Hp} {Q : VK} (h : te σ H fun y H1 => ∃ z, y = .str z ∧ ((∃ v, (z, v) ∈ kvs ∧ Q (.str v) H1) ∨ ((∀ q ∈ kvs, q.1 ≠ z) ∧ Q .non H1))) : tKGet d kvs te σ H Q := h
theorem g_kgot {kvs : List (Str × Str)} {H : Hp} {Q : VK} {z v : Str} (h : (z, v) ∈ kvs) (q : Q (.str v) H) : ∃ z', V.str z = .str z' ∧ ((∃ v', (z', v') ∈ kvs ∧ Q (.str v') H) ∨ ((∀ q ∈ kvs, q.1 ≠ z') ∧ Q .non H)) := ⟨z, rfl, .inl ⟨v, h, q⟩⟩
end Bz
namespace Bz
open PySem PySem.Spec PyProof.Rows L2
section
variable {X : Cx} {pins : List (Addr × Obj)} {σ : L2.St} {H : Hp} {s : Shared}
end
section
variable {X : Cx} {x1 x2 x3 n : Str} {c1 c2 c3 : Value} {i : Nat} {body suite : List Stmt} {b₀ : Stmt} {p1 p2 p3 pos tp pos' : Pos} {st : Nat} {tb : WX → TS} {ts : Addr → Value → Option Addr → TS}
end
end Bz
namespace Bz
open PySem PySem.Spec PyProof.Rows L2
section
variable {X : Cx} {pins : List (Addr × Obj)} {σ : L2.St} {H : Hp} {s : Shared}
end
section
variable {K : PySem.W.Frag} {H : Hp} {Q : VK} {a D dd : Addr} {fs : List (Str × V)}
end
def sp_xone (C : Addr) (f : Str) : Sp := fun vs H Q _ => vs.length = 2 ∧ ∃ (a : Addr) (x : V), vs = [.ref a, x] ∧ H a = some (exo a C none) ∧ ∀ dx, H dx = none → dx ≠ a → Q .non (upd (upd H dx (exd dx [(f, x)])) a (exo a C (some dx)))
section
variable {X : Cx} {CX : CXT} {k : Nat}
/-- the class C of the name x, its __init__ fI -/
structure XOneOk (P : Program) (w : World) (K : PySem.W.Frag) (mg : Str → Option Value) (base : Heap) (CX : CXT) (k : Nat) (x f : Str) : Prop where
  T : OexC K (He.ga K x)
  ok : ∃ (fI : Addr) (fd : FuncData) (ps : List Str), PySem.W.findIn K (.ref (He.ga K x)) "__init__" = some (some (.ref fI)) ∧ PySem.W.typeIn K (.ref fI) = some (.type "function") ∧ FnOk P w K mg base CX k fI fd ps (sp_xone (He.ga K x) f) ∧ Binds K fd ps []
  at_ : mg x = some (.ref (He.ga K x))
end
section
variable {B : Hp} {M L : List (Addr × HO)} {H : Hp}
end
end Bz
namespace Bz
open PySem PySem.Spec PyProof.Rows L2
section
variable {X : Cx} {pins : List (Addr × Obj)} {σ : L2.St} {H : Hp} {s : Shared}
end
/-- the table at P tells code objects of the name q alone -/
def TabI (B : Hp) (q : Str) (ps : Array Value) : Prop := TriplesOk ps.toList ∧ ∀ (pos : Pos) (cv : Value), codeAmong pos ps.toList = some cv → ∃ c, cv = .ref c ∧ B c = some (LamX.CodeO c q)
section
variable {X : Cx}
end
section
variable {B H : Hp} {M L : List (Addr × HO)} {Q : VK} {P : Addr} {q : Str} {ps : Array Value} {TT : (XK → Hp → VK → Prop) → Hp → VK → Prop} {t : XK → TE} {σ : L2.St}
theorem TabI.same {B' : Hp} (h : TabI B q ps) (s : Same B B') : TabI B' q ps := ⟨h.1, fun pos cv e => by
  obtain ⟨c, e1, e2⟩ := h.2 pos cv e
  exact ⟨c, e1, s _ _ e2⟩⟩
theorem TabI.nil : TabI B q #[] := ⟨True.intro, fun pos cv hc => by
  have z : codeAmong pos [] = some cv := hc
  simp [codeAmong] at z⟩
end
end Bz
namespace Bz
open PySem PySem.Spec PyProof.Rows L2
/-- the script as the law sees it: told by itself, unless it is one of the module's own objects -/
def scr (K : PySem.W.Frag) (a : Addr) (o : Obj) (xs : List V) : Hp := fun b => if b = a ∧ K.lookup a = none then some (.frz o (.lst xs)) else none
section
variable {K : PySem.W.Frag} {a b : Addr} {o : Obj} {xs : List V} {u : HO}
theorem scr_at (h : scr K a o xs b = some u) : b = a ∧ K.lookup a = none ∧ u = .frz o (.lst xs) := by
  unfold scr at h
  split at h
  · rename_i c
    exact ⟨c.1, c.2, (Option.some.inj h).symm⟩
  · cases h
theorem scr_else (h : ∀ u, ¬ scr K a o xs b = some u) : scr K a o xs b = none := by
  cases e : scr K a o xs b with
  | none => rfl
  | some u => exact absurd e (h u)
end
/-- a law's promise, kept where no repr is under way, is kept at the head -/
theorem walk_ofG {l : PySem.W.OpenLaw} {n k : Nat} {q : Program} {loose : List Str} {XP : (Str → Option Value) → Heap → Prop} {YP : World → Heap → Prop} {d : DefRec} {CX : CXT} {x : Str}
    (hn : l.most = some n) (hn2 : n ≤ sizeLine) (hdf : d.params.defaults = []) (hr : Room k callerA)
    (F : ∀ (w : World) (mg : Str → Option Value) (fa : Addr) (h : Heap), YP w h → h.Ns mainGlobals mg → mg d.name = some (.ref fa) →
      ∃ (K : PySem.W.Frag) (fd : FuncData) (sp : Sp), K.In h ∧ (∀ (s : Shared) (u : Value), BindsTo s fd ⟨[u], []⟩ [(x, u)]) ∧
        (∀ (H : Hp) (a : Addr) (ns : List Int), ns.length ≤ n → SqL K H a (ns.map V.int) → sp [.ref a] H (fun v _ => v = .bl true) fun _ _ _ => False) ∧
        ∀ base : Heap, K.In base → base.Ns mainGlobals mg → FnG l.prog w K mg base CX k fa fd [x] sp)
    (hCX : ∀ (H : Hp) (s : Shared) (e : Value) (s' : Shared), CX [] H s (fun _ _ _ => False) e s' → False) :
    PySem.W.WalkO q loose XP YP l.row.toRowW d [] (fun f vs => PySem.call f vs) := by
  refine Att.attach_call hn hdf fun w s₀ s₁ mg mb fa o pm cd doc a vs ns G Y ho hd hcd hmg hobj hints hlen hg => ?_
  obtain ⟨K, fd, sp, KX, hb, hsp, hF⟩ := F w mg fa _ Y G.T.g hmg
  have hv := vals_ints hints
  have hlv := hints.length
  have hsz : ns.length ≤ sizeLine := Nat.le_trans hlen hn2
  generalize hH : scr K a { cls := .type "list", data := .seq vs.toArray } (ns.map V.int) = H
  have told : ∀ {b : Addr} {u : HO}, H b = some u → b = a ∧ K.lookup a = none ∧ u = .frz { cls := .type "list", data := .seq vs.toArray } (.lst (ns.map V.int)) := fun {b u} e => by
    rw [← hH] at e
    exact scr_at e
  have free : ∀ {b : Addr}, (∀ u, ¬ H b = some u) → H b = none := fun {b} e => by
    rw [← hH] at e ⊢
    exact scr_else e
  have seen : ∀ {b : Addr} {ob : Obj}, s₁.heap.get? b = some ob → (∀ u, ¬ H b = some u) → (hidT s₁.heap H).get? b = some ob := fun e z => hidT_get e (free z)
  have names : ∀ {b : Addr} {m : Str → Option Value}, s₁.heap.Ns b m → (hidT s₁.heap H).Ns b m := by
    rintro b m ⟨ob, es, ep, e, hdd, r⟩
    refine ⟨ob, es, ep, seen e fun u z => ?_, hdd, r⟩
    rw [(told z).1, hobj] at e
    cases e
    cases hdd
  have own : K.In (hidT s₁.heap H) := fun b ob e => seen (KX b ob e) fun u z => by
    obtain ⟨h1, h2, _⟩ := told z
    rw [h1, h2] at e
    cases e
  have seq : SqL K H a (ns.map V.int) := by
    cases hk : K.lookup a with
    | none => exact .inl (.inr ⟨{ cls := .type "list", data := .seq vs.toArray }, by rw [← hH]; exact if_pos ⟨rfl, hk⟩⟩)
    | some ob =>
      have e := KX a ob hk
      rw [hobj] at e
      cases e
      exact .inr ⟨_, vs.toArray, _, hk, rfl, rfl, rfl, by rw [List.size_toArray, hlv]; exact hsz, by simpa using hv⟩
  have good : HOk l.prog w H s₁.heap := fun b u e => by
    obtain ⟨h1, _, h3⟩ := told e
    subst h1 h3
    exact ⟨hobj, by rw [List.length_map]; exact hsz, vs, _, hv, hobj⟩
  obtain ⟨mc, l1, l2⟩ := G.T.nolimit
  have env : Env0 l.prog w K mg (hidT s₁.heap H) callerA [] s₁ H :=
    ⟨rfl, ⟨own, names G.T.g, ⟨mb, names G.T.b, G.T.builtins⟩, ⟨mc, names l1, l2⟩⟩, fun b ob e => of_hidT e, Nat.le_of_eq (hidT_size _ _), trivial, fun b z => List.not_mem_nil (show b ∈ ([] : List Addr) from z) |>.elim, good, .of_eq hg⟩
  refine codeAny_mono ((hF _ own (names G.T.g)).go callerA [] s₁ H ⟨[.ref a], []⟩ [.ref a] [.ref a] _ _ hr rfl env (hb s₁ (.ref a)) (.cons rfl .nil) (hsp H a ns hlen seq)) ?_
  rintro (e | fl) s' z
  · exact (hCX H s₁ e s' z).elim
  · cases fl with
    | ret v =>
      obtain ⟨y, H', hos, hbare, keep, ok', rv, hy⟩ := z
      have hy : y = .bl true := hy
      rw [hy] at rv
      have ev : v = Value.bool true := rv
      rw [ev]
      refine ⟨rfl, OldK.of_keep fun b ob e => ?_, hos, hbare⟩
      cases hq : H b with
      | none => exact keep.keep b ob e hq (fun z => (List.not_mem_nil (show b ∈ ([] : List Addr) from z)).elim) (by simp)
      | some u =>
        obtain ⟨_, _, h3⟩ := told hq
        rw [h3] at hq
        have e1 := (good b _ hq).1
        rw [e1] at e
        cases e
        exact (ok' b _ (keep.frzs b _ _ hq)).1
    | _ => exact False.elim z
end Bz
namespace Bz
open PySem PySem.Spec PyProof.Rows L2
/-- the addresses that hang on the top's names, by levels; those seen are kept as a number's bits -/
def forceN {α : Type} (n : Nat) (k : Nat → α) : α := match n with
  | 0 => k 0
  | m + 1 => k (m + 1)
def addE {α : Type} : List Addr → Nat → List Addr → (Nat → List Addr → α) → α
  | [], seen, new, k => k seen new
  | a :: r, seen, new, k => forceN a fun a => match Nat.beq (Nat.land (Nat.shiftRight seen a) 1) 1 with
    | true => addE r seen new k
    | false => forceN (Nat.lor seen (Nat.shiftLeft 1 a)) fun seen => addE r seen (a :: new) k
def levE {α : Type} (g : Addr → Option Obj) : List Addr → Nat → List Addr → (Nat → List Addr → α) → α
  | [], seen, new, k => k seen new
  | a :: r, seen, new, k => match g a with
    | some o => addE (He.refsD o) seen new fun seen new => levE g r seen new k
    | none => levE g r seen new k
def growE (g : Addr → Option Obj) : Nat → List Addr → Nat → List Addr → List Addr
  | 0, _, _, all => all
  | n + 1, front, seen, all => levE g front seen [] fun seen new => growE g n new seen (all ++ new)
def asE (g : Addr → Option Obj) (n : Nat) : List Addr := growE g n [mainGlobals] (Nat.shiftLeft 1 mainGlobals) [mainGlobals]
abbrev Ask : Type := PySem.W.Frag → Bool
abbrev AlB : Type := Bool × He.AlT
def obsB (fa : List He.Fa) (fn : List He.DefD) (ts : List He.Tab) (bs : List Ask) (K : PySem.W.Frag) : AlB := (bs.all fun b => b K, He.obsT fa fn ts K)
def valB (fn : List He.DefD) (ts : List He.Tab) (w : World) : AlB := (true, He.valT fn ts w)
def obsBG (n : Nat) (fa : List He.Fa) (fn : List He.DefD) (ts : List He.Tab) (bs : List Ask) (g : Addr → Option Obj) : AlB := obsB fa fn ts bs (He.frG g (asE g n))
def SaysB (fa : List He.Fa) (fn : List He.DefD) (ts : List He.Tab) (bs : List Ask) (w : World) (K : PySem.W.Frag) : Prop := obsB fa fn ts bs K = valB fn ts w
def hookB (n : Nat) (fa : List He.Fa) (fn : List He.DefD) (ts : List He.Tab) (bs : List Ask) : PySem.W.Hook where
  α := AlB
  obs := fun s => obsBG n fa fn ts bs s.heap.get?
  val := fun w => valB fn ts w
  says := fun w h => ∃ K : PySem.W.Frag, K.In h ∧ SaysB fa fn ts bs w K
  of := fun _ _ e => ⟨_, He.frG_in, e⟩
  keeps := fun _ _ _ ⟨K, hK, c⟩ k => ⟨K, PySem.W.Frag.In.keeps hK k, c⟩
theorem obsBG_eq {n : Nat} {fa : List He.Fa} {fn : List He.DefD} {ts : List He.Tab} {bs : List Ask} {g : Addr → Option Obj} {s : Shared} (h : ∀ a, g a = s.heap.get? a) : obsBG n fa fn ts bs g = (hookB n fa fn ts bs).obs s := by
  have e : g = s.heap.get? := funext h
  rw [e] <;> rfl
section
variable {fa : List He.Fa} {fn : List He.DefD} {ts : List He.Tab} {bs : List Ask} {w : World} {K : PySem.W.Frag}
theorem SaysB.t (c : SaysB fa fn ts bs w K) : He.SaysT fa fn ts w K := congrArg (fun z : AlB => z.2) c
theorem SaysB.d (c : SaysB fa fn ts bs w K) : He.SaysD fa fn K := c.t.d
theorem SaysB.ask (c : SaysB fa fn ts bs w K) (i : Nat) {b : Ask} (h : bs[i]? = some b := by rfl) : b K = true := by
  have c1 : (bs.all fun b => b K) = true := congrArg (fun z : AlB => z.1) c
  exact List.all_eq_true.mp c1 b (List.mem_of_getElem? h)
end
end Bz
namespace Bz
open PySem PySem.Spec PyProof.Rows L2
structure XoneF (K : PySem.W.Frag) (C : Addr) (f : Str) : Prop where
  T : OexC K C
  i : PySem.W.findIn K (.ref C) "__init__" = some (some (.ref (He.ma K C "__init__")))
  t : PySem.W.typeIn K (.ref (He.ma K C "__init__")) = some (.type "function")
  n : PySem.W.findIn K (.ref C) f = some none
end Bz
namespace Bz
open PySem PySem.Spec PyProof.Rows L2
section
variable {K : PySem.W.Frag} {a b : Addr} {o : Obj} {xs : List V} {u : HO} {Ts : List Addr}
end
end Bz
namespace Bz
open PySem PySem.Spec PyProof.Rows L2
def dropRefs : List Value → List Value
  | .ref _ :: r => dropRefs r
  | l => l
/-- what is asked of the built-in class at the end: newId makes its instances, tl are its classes -/
structure XBase (newId : String) (tl : List Value) : Prop where
  F : ∃ (B initId : String) (bmB : List Value), ExcBaseFacts B newId initId bmB ∧ tl.contains (.type B) = true
  nA : tl.contains (.type "AttributeError") = false
  nN : tl.contains (.type "NameError") = false
  ob : tl.contains (.type "object") = true
  ps : ∀ v : Value, refuseLoop v "__setattr__" tl = pure ()
section
variable {M : Model} {prog : Program} {w : World} {A : Around} {E : Value → Shared → Prop} {R : Result → Shared → Prop} {hp : Heap} {g : Array GenState} {d : Drawn} {t : Nat} {os : OsState}
variable {nm q : Str} {C N : Addr} {bs bm bmB : List Value} {sn : List Str} {sub : List Value} {ab : Bool} {col : Option Bool} {dd : Option Addr} {k0 k1 k2 k3 k5 : Option Value} {B newId initId : String}
end
end Bz
namespace Bz
open PySem PySem.Spec PyProof.Rows L2
section
open Builtin Builtin.ObjectAttr
variable {prog : Program} {w : World} {R : Result → Shared → Prop} {A : Around} {hp : Heap} {g : Array GenState} {d : Drawn} {t : Nat} {os : OsState}
variable {K : PySem.W.Frag} {name : Str} {tk : Tok} {v : Value} {x C : Addr} {fv : Array Value} {cd : ClassData}
end
/-- what the head tells of such a class -/
structure OexG (K : PySem.W.Frag) (C : Addr) : Prop where
  cls : ∃ newId tl nm q N bs bm sn sub ab col dd k0 k1 k2 k3 k5, XBase newId tl ∧ K.lookup C = some (excClassObj nm q C N bs bm true sn sub ab col dd k0 k1 k2 k3 k5 newId) ∧ dropRefs bm = tl
  sa : PySem.W.findIn K (.ref C) "__setattr__" = some (some (.builtin "object.__setattr__"))
  exC : PySem.W.subIn K (.ref C) (.type "BaseException") = some true
  tyC : PySem.W.typeIn K (.ref C) = some (.type "type")
  kC : PySem.W.keepIn K (.ref C) = true
section
variable {X : Cx} {pins : List (Addr × Obj)} {σ : L2.St} {H : Hp} {s : Shared} {a C dx : Addr} {f : Str} {y : V} {u : Value} {fs : List (Str × V)} {Q : Unit → Shared → Prop} {E : Value → Shared → Prop} {A : Around}
end
end Bz
namespace Bz
open PySem PySem.Spec PyProof.Rows L2
structure XMakeOk (P : Program) (w : World) (K : PySem.W.Frag) (mg : Str → Option Value) (base : Heap) (CX : CXT) (k : Nat) (x : Str) (n : Nat) (sp : Sp) (gV : List V → List V → List V) : Prop where
  T : OexG K (He.ga K x)
  ok : ∃ (fI : Addr) (fd : FuncData) (ps : List Str) (g : List Value → List Value → List Value), PySem.W.findIn K (.ref (He.ga K x)) "__init__" = some (some (.ref fI)) ∧ PySem.W.typeIn K (.ref fI) = some (.type "function") ∧ FnG P w K mg base CX k fI fd ps sp ∧ KBn K fd ps (n + 1) [] g gV
  at_ : mg x = some (.ref (He.ga K x))
section
variable {X : Cx} {CX : CXT} {k k' n : Nat} {sp : Sp} {gV : List V → List V → List V} {x : Str} {e : Expr} {es : List Expr} {ta : TA} {p pos : Pos}
end
section
variable {K : PySem.W.Frag} {B H : Hp} {M L : List (Addr × HO)} {C : Addr} {n : Nat} {fl : List Str} {F : List V → List (Str × V)} {gV : List V → List V → List V} {vs : List V} {Q : XK}
end
structure ClsFnOk (P : Program) (w : World) (K : PySem.W.Frag) (mg : Str → Option Value) (base : Heap) (CX : CXT) (k : Nat) (x m : Str) (n : Nat) (sp : Sp) (gV : List V → List V → List V) : Prop where
  ok : ∃ (f : Addr) (fd : FuncData) (ps : List Str) (g : List Value → List Value → List Value), PySem.W.findCls K (.ref (He.ga K x)) (.type "type") m = some (.val (.ref f)) ∧ PySem.W.handedIn (.ref f) = true ∧ PySem.W.keepIn K (.ref f) = true ∧ FnG P w K mg base CX k f fd ps sp ∧ KBn K fd ps n [] g gV
  rd : PySem.W.readsIn K (He.ga K x) (.type "type") = true
  sp_ : PySem.W.specialIn K (.ref (He.ga K x)) "__getattribute__" = some (some (.builtin "type.__getattribute__"))
  at_ : mg x = some (.ref (He.ga K x))
end Bz
namespace Bz
open PySem PySem.Spec PyProof.Rows L2
structure ErrOk (K : PySem.W.Frag) (C : Str) (fl : List Str) : Prop where
  ox : OexG K (He.ga K C)
  ex : ExcC K (He.ga K C)
  nf : ∀ f ∈ fl, PySem.W.findIn K (.ref (He.ga K C)) f = some none
  ini : PySem.W.findIn K (.ref (He.ga K C)) "__init__" = some (some (.ref (He.ma K (He.ga K C) "__init__")))
  ty : PySem.W.typeIn K (.ref (He.ma K (He.ga K C) "__init__")) = some (.type "function")
/-- an own class's plain def, told by the class -/
structure ClsFnF (K : PySem.W.Frag) (x m : Str) : Prop where
  f : PySem.W.findCls K (.ref (He.ga K x)) (.type "type") m = some (.val (.ref (He.ma K (He.ga K x) m)))
  h : PySem.W.handedIn (.ref (He.ma K (He.ga K x) m)) = true
  k : PySem.W.keepIn K (.ref (He.ma K (He.ga K x) m)) = true
  rd : PySem.W.readsIn K (He.ga K x) (.type "type") = true
  sp_ : PySem.W.specialIn K (.ref (He.ga K x)) "__getattribute__" = some (some (.builtin "type.__getattribute__"))
/-- of which classes an error is -/
structure KitOk (K : PySem.W.Frag) (C : Str) (own : List (Str × Bool)) (tys : List (String × Bool)) : Prop where
  o : ∀ p ∈ own, PySem.W.kitOne K (.ref (He.ga K C)) (.ref (He.ga K p.1)) = some p.2
  t : ∀ p ∈ tys, PySem.W.kitOne K (.ref (He.ga K C)) (.type p.1) = some p.2
end Bz
namespace Bz
open PySem PySem.Spec PyProof.Rows L2
end Bz
namespace Bz
open PySem PySem.Spec PyProof.Rows L2
structure ErrKit (K : PySem.W.Frag) : Prop where
  kv : KitOk K "BadValue" [("BadText", false), ("BadValue", true), ("NoSuch", false), ("TooMany", false)] [("ValueError", true), ("KeyError", false), ("OverflowError", false)]
  kt : KitOk K "BadText" [("BadText", true), ("BadValue", true), ("NoSuch", false), ("TooMany", false)] [("ValueError", true), ("KeyError", false), ("OverflowError", false)]
  kn : KitOk K "NoSuch" [("BadText", false), ("BadValue", false), ("NoSuch", true), ("TooMany", false)] [("ValueError", false), ("KeyError", true), ("OverflowError", false)]
  km : KitOk K "TooMany" [("BadText", false), ("BadValue", false), ("NoSuch", false), ("TooMany", true)] [("ValueError", false), ("KeyError", false), ("OverflowError", true)]
  mm : ∀ c ∈ ([("BadValue" : Str), "BadText", "NoSuch", "TooMany"] : List Str), PySem.W.exmAny K (.ref (He.ga K c)) [.ref (He.ga K "BadValue"), .ref (He.ga K "NoSuch"), .ref (He.ga K "TooMany")] = some true
structure ErrC (K : PySem.W.Frag) : Prop where
  bv : ErrOk K "BadValue" ["what"]
  bt : ErrOk K "BadText" ["what", "row", "word"]
  ns : ErrOk K "NoSuch" ["what", "name"]
  tm : ErrOk K "TooMany" ["most"]
  kit : ErrKit K
/-- an error's class, its fields, what is told of it -/
inductive ErrT : Str → List (Str × V) → List V → Prop
  | val (x : V) : ErrT "BadValue" [("what", x)] [.str "value", x]
  | text (r w : V) : ErrT "BadText" [("word", w), ("row", r), ("what", .str "text")] [.str "text", r, w]
  | no (x y : V) : ErrT "NoSuch" [("name", y), ("what", x)] [.str "no", x, y]
  | many (x : V) : ErrT "TooMany" [("most", x)] [.str "many", x]
theorem ErrT.len {X : Str} {fs : List (Str × V)} {ws : List V} (h : ErrT X fs ws) : ws.length ≤ 3 := by
  cases h <;> simp
theorem ErrT.ex {K : PySem.W.Frag} (C : ErrC K) {X : Str} {fs : List (Str × V)} {ws : List V} (h : ErrT X fs ws) : ExcC K (He.ga K X) := by
  cases h
  · exact C.bv.ex
  · exact C.bt.ex
  · exact C.ns.ex
  · exact C.tm.ex
theorem ErrT.mm {K : PySem.W.Frag} (C : ErrC K) {X : Str} {fs : List (Str × V)} {ws : List V} (h : ErrT X fs ws) : PySem.W.exmAny K (.ref (He.ga K X)) [.ref (He.ga K "BadValue"), .ref (He.ga K "NoSuch"), .ref (He.ga K "TooMany")] = some true := by
  refine C.kit.mm X ?_
  simp only [List.mem_cons]
  cases h <;> simp
end Bz
namespace Bz
open PySem PySem.Spec PyProof.Rows L2
section
variable {X : Cx} {CX : CXT} {C : Addr} {k : Nat} {sp : Sp} {E : XK} {gV : List V → List V → List V}
end
end Bz
namespace Bz
open PySem PySem.Spec PyProof.Rows L2
end Bz
namespace Bz
open PySem PySem.Spec PyProof.Rows L2
def BTY : List String := ["NoneType", "int", "str", "list", "tuple", "dict", "bool"]
structure NotK (K : PySem.W.Frag) (C D : Str) : Prop where
  b : ∀ T ∈ BTY, PySem.W.kitOne K (.type T) (.ref (He.ga K C)) = some false
  o : PySem.W.kitOne K (.ref (He.ga K D)) (.ref (He.ga K C)) = some false
def NotI (K : PySem.W.Frag) (H : Hp) (x : V) (C : Addr) : Prop := ∃ t, TyX K H x t ∧ PySem.W.kitOne K t (.ref C) = some false
section
variable {K : PySem.W.Frag} {H : Hp} {x : V} {C D : Str} {Q : VK} {a : Addr} {xs : List V}
theorem g_isiNI {C : Addr} (h : NotI K H x C) (q : Q (.bl false) H) : rIsi K [x, .ref C] H Q := by
  obtain ⟨t, h1, h2⟩ := h
  exact ⟨_, _, _, _, false, rfl, .own C, h1, h2, q⟩
end
end Bz
namespace Bz
open PySem PySem.Spec PyProof.Rows L2
section
variable {B H : Hp} {M L : List (Addr × HO)} {σ : St} {Q : VK} {tk tv : TE}
end
end Bz
namespace Bz
open PySem PySem.Spec PyProof.Rows L2
section
variable {B H : Hp} {M L : List (Addr × HO)} {σ : St} {Q : VK} {te : TE}
end
end Bz
namespace Bz
open PySem PySem.Spec PyProof.Rows L2
/-- what a value is, told as data: whole numbers, texts, truths -/
inductive KeyS : V → PyData → Prop
  | int (i : Int) : KeyS (.int i) (.int i)
  | str (z : Str) : KeyS (.str z) (.str z)
  | bl (b : Bool) : KeyS (.bl b) (.bool b)
/-- .. and tuples of these -/
inductive KeyV (H : Hp) : V → PyData → Prop
  | one {y : V} {k : PyData} : KeyS y k → KeyV H y k
  | tup {p : Addr} {xs : List V} {ks : List PyData} : H p = some (.tup xs) → All2 KeyS xs ks → KeyV H (.ref p) (.tuple ks)
theorem KeyV.mono {H H' : Hp} {y : V} {k : PyData} (h : ∀ b xs, H b = some (.tup xs) → H' b = some (.tup xs)) : KeyV H y k → KeyV H' y k
  | .one e => .one e
  | .tup e a => .tup (h _ _ e) a
theorem KeyS.reads {h : Heap} {y : V} {k : PyData} {u : Value} (e : KeyS y k) (r : RelV y u) : Reads h u k [] := by
  cases e with
  | int i =>
    obtain ⟨t, rfl⟩ := r
    exact .int i t
  | str z =>
    obtain ⟨t, rfl⟩ := r
    exact .str z t
  | bl b =>
    cases (show u = .bool b from r)
    exact .bool b
theorem KeyS.readsAll {h : Heap} : ∀ {ys : List V} {ks : List PyData} {us : List Value}, All2 KeyS ys ks → Vals ys us → ReadsAll h us ks []
  | _, _, _, .nil, .nil => .nil
  | _, _, _, .cons a t, .cons r q => .cons (as := []) (bs := []) (a.reads r) (KeyS.readsAll t q)
theorem KeyV.reads {P : Program} {w : World} {H : Hp} {h : Heap} {y : V} {k : PyData} {u : Value} (ok : HOk P w H h) (e : KeyV H y k) (r : RelV y u) : Reads h u k [] := by
  cases e with
  | one e => exact e.reads r
  | @tup p xs ks e a =>
    cases (show u = Value.ref p from r)
    obtain ⟨hz, its, rv, ⟨⟨cls, dd, data, sl⟩, ho, hc, n, hd⟩⟩ := ok p _ e
    exact .tuple ho hc hd (KeyS.readsAll a (by simpa using rv))
/-- a heap without the object at a -/
def without (h : Heap) (a : Addr) : Heap := { h with objs := h.objs.setIfInBounds a { cls := .none, data := .freed } }
section
variable {X : Cx} {pins : List (Addr × Obj)} {σ : L2.St} {H : Hp} {s : Shared} {a kS : Addr} {f : Value} {xs : List V} {vs : List Value} {kz : List PyData} {e1 : Nat} {J : Nat → Hp → Prop} {P : PySem.Fin → Shared → Prop} {E : Value → Shared → Prop} {A : Around}
theorem FpOk.other {H' : Hp} {b : Addr} (h : FpOk X pins H b) (n : H' b = none) : FpOk X pins H' b := ⟨n, h.2⟩
end
section
variable {prog : Program} {w : World} {A : Around} {E : Value → Shared → Prop} {s : Shared}
end
section
variable {X : Cx} {CX : CXT} {k k' : Nat} {sp : Sp} {f : Str} {gV : List V → List V → List V}
end
end Bz
namespace Bz
open PySem PySem.Spec PyProof.Rows L2
end Bz
namespace Bz
open PySem PySem.Spec PyProof.Rows L2
end Bz
namespace Bz
open PySem PySem.Spec PyProof.Rows L2
/-- of which further classes they are -/
structure ErrKit2 (K : PySem.W.Frag) : Prop where
  kv : KitOk K "BadValue" [] [("LookupError", false), ("IndexError", false), ("RuntimeError", false), ("ZeroDivisionError", false)]
  kt : KitOk K "BadText" [] [("LookupError", false), ("IndexError", false), ("RuntimeError", false), ("ZeroDivisionError", false)]
  kn : KitOk K "NoSuch" [] [("LookupError", true), ("IndexError", false), ("RuntimeError", false), ("ZeroDivisionError", false)]
  km : KitOk K "TooMany" [] [("LookupError", false), ("IndexError", false), ("RuntimeError", false), ("ZeroDivisionError", false)]
end Bz
namespace Bz
open PySem PySem.Spec PyProof.Rows L2
section
variable {K : PySem.W.Frag} {B H : Hp} {M L L' : List (Addr × HO)} {Q : VK} {v : V}
theorem g_newT {σ : St} (I : Is B M L H) (q : ∀ p H', Is B M ((p, .dT []) :: L) H' → Q (.ref p) H') : tDNewT σ H Q := fun p hp => q p _ (I.new hp)
theorem g_aDPutT {a b : Addr} {kvs : List (List Key × V)} {k : List Key} {QH : Hp → Prop} (I : Is B M L H) (h : H a = some (.dT kvs)) (hb : H b = some (.tup (k.map kV))) (hz : kvs.length < 100000) (u : Put a (.dT (putK kvs k v)) L L') (q : ∀ H', Is B M L' H' → QH H') : aDPut v (.ref a) (.ref b) H QH :=
  ⟨a, _, rfl, DPut.t h hb (sz6' (by omega)), q _ (I.put u)⟩
theorem g_dNotInI {ty td : TE} {σ : St} (h : ty σ H fun y H1 => td σ H1 fun x H2 => ∃ a o, x = .ref a ∧ DGet H2 a y o ∧ Q (.bl (!o.isSome)) H2) : tDNotIn ty td σ H Q := h
end
end Bz
namespace Bz
open PySem PySem.Spec PyProof.Rows L2
section
variable {K : PySem.W.Frag} {H : Hp} {Q : VK} {x y : V}
end
end Bz
namespace Bz
open PySem PySem.Spec PyProof.Rows L2
section
variable {X : Cx} {pins : List (Addr × Obj)} {σ : L2.St} {A : Around} {J : Hp → Prop} {as : List Addr} {kf : Nat → Int} {l q : Addr} {R : Result → Shared → Prop}
end
section
variable {X : Cx} {CX : CXT} {k k' : Nat} {sp : Sp} {f : Str} {gV : List V → List V → List V}
end
end Bz
namespace Bz
open PySem PySem.Spec PyProof.Rows L2
section
variable {X : Cx} {e a1 : Expr} {te : TE} {tk : TO} {pos p2 p3 : Pos} {op : UnaryOp}
end
end Bz
namespace Bz
open PySem PySem.Spec PyProof.Rows L2
section
variable {K : PySem.W.Frag} {H : Hp} {Q : VK} {a : Addr} {ns : List Int} {d : V}
end
end Bz
namespace Bz
open PySem PySem.Spec PyProof.Rows L2
section
variable {X : Cx} {pins : List (Addr × Obj)} {σ : L2.St} {H : Hp} {s : Shared}
end
section
variable {X : Cx} {k k' : Nat} {q : Str} {params : Arguments} {body : Expr} {scope : Scope} {N : List Str} {tb : TE} {b : Str}
end
section
variable {X : Cx} {k : Nat} {params : Arguments} {body : Expr} {scope : Scope} {N : List Str} {tb te : TE} {b : Str} {c P : Addr} {e : Expr} {pos p kp lpos : Pos}
end
section
variable {K : PySem.W.Frag} {B H : Hp} {M L : List (Addr × HO)} {Q : VK} {P : Addr} {q : Str} {N : List Str} {ps : Array Value} {te tb : TE} {σ : L2.St} {x : V}
end
end Bz
namespace Bz
open PySem PySem.Spec PyProof.Rows L2
section
variable {B H : Hp} {M L : List (Addr × HO)} {Q : VK} {i j : Int}
end
end Bz
namespace Bz
open PySem PySem.Spec PyProof.Rows L2
instance memK (k : Key) (ks : List Key) : Decidable (k ∈ ks) := @List.instDecidableMemOfLawfulBEq Key instBEqOfDecidableEq inferInstance k ks
def kOf (e : Int × Value) : Key := match e.2 with
  | .int k _ => .inl k
  | .str x _ => .inr x
  | _ => .inl 0
def GoodM (P : Program) (w : World) (e : Int × Value) : Prop := ∃ k, RelV (kV k) e.2 ∧ e.1 = (mixKind P w).hash k
def SetM (P : Program) (w : World) (h : Heap) (a : Addr) (S : Key → Bool) (n : Nat) : Prop :=
  ∃ o es ep t, h.get? a = some o ∧ o.ExactSet ∧ o.data = .set es ep t ∧ (∀ e ∈ es.toList, GoodM P w e) ∧ (es.toList.map kOf).Nodup ∧ (∀ k, S k = true ↔ k ∈ es.toList.map kOf) ∧
    es.size < scanBound ∧ t.fits es.size = true ∧ es.size = n ∧ Ris t.place.toList ∧ (w.params.followText "set-order" = true ∨ t.led = true)
section
variable {P : Program} {w : World} {h h' : Heap} {a : Addr} {S : Key → Bool} {n : Nat}
theorem SetM.at (R : SetM P w h a S n) (k : ∀ o, h.get? a = some o → h'.get? a = some o) : SetM P w h' a S n := by
  obtain ⟨o, es, ep, t, ho, r⟩ := R
  exact ⟨o, es, ep, t, k o ho, r⟩
end
section
variable {P : Program} {w : World} {A : Around} {E : Value → Shared → Prop} {s : Shared} {a : Addr} {S : Key → Bool} {n : Nat}
end
end Bz
namespace Bz
open PySem PySem.Spec PyProof.Rows L2
section
variable {P : Program} {w : World} {A : Around} {E : Value → Shared → Prop} {s : Shared} {a : Addr} {β : Type}
end
end Bz
namespace Bz
open PySem PySem.Spec PyProof.Rows L2
section
variable {X : Cx} {k : Nat} {e : Expr} {te : TE} {p p2 pos pos2 : Pos}
end
section
variable {K : PySem.W.Frag} {B H : Hp} {M L : List (Addr × HO)} {Q : VK} {te : TE} {σ : L2.St} {a : Addr}
end
end Bz
namespace Bz
open PySem PySem.Spec PyProof.Rows L2
/-- what is walked: the iterator at I stands at i -/
structure NextS (X : Cx) (xs : List V) (Sq : Hp → Prop) (I : Addr) (It : Heap → Nat → Prop) : Prop where
  item : ∀ {A : Around} {E : Value → Shared → Prop} {Q : Option Value → Shared → Prop} {pins : List (Addr × Obj)} {σ : L2.St} {H : Hp} {s : Shared} {i : Nat} {x : V}, Inv X pins σ H s → Sq H → It s.heap i → xs[i]? = some x →
    (∀ v h', RelV x v → It h' (i + 1) → Heap.SameBut I s.heap h' → Q (some v) { s with heap := h' }) → wpAny (model X.prog X.w) A (pyNext (.ref I)) Q E s
  done : ∀ {A : Around} {E : Value → Shared → Prop} {Q : Option Value → Shared → Prop} {pins : List (Addr × Obj)} {σ : L2.St} {H : Hp} {s : Shared}, A.handled = none → Inv X pins σ H s → Sq H → It s.heap xs.length →
    (∀ h', Heap.ExtBut I s.heap h' → Q none { s with heap := h' }) → wpAny (model X.prog X.w) A (pyNext (.ref I)) Q E s
  keep : ∀ {h h' : Heap} {i : Nat}, It h i → (∀ o, h.get? I = some o → h'.get? I = some o) → It h' i
  obj : ∀ {h : Heap} {i : Nat}, It h i → ∃ o, h.get? I = some o ∧ ∀ v, o.data ≠ .cell v
section
variable {X : Cx} {pins : List (Addr × Obj)} {σ : L2.St} {A : Around} {J : Nat → Hp → Prop} {xs : List V} {kz : List PyData} {Sq : Hp → Prop} {I S f : Addr} {It : Heap → Nat → Prop} {R : Result → Shared → Prop}
end
end Bz
namespace Bz
open PySem PySem.Spec PyProof.Rows L2
section
variable {X : Cx} {pins : List (Addr × Obj)} {σ : L2.St} {J : Nat → Hp → Prop} {xs : List V} {kz : List PyData} {Sq : Hp → Prop} {f a : Addr} {It : Heap → Nat → Prop}
end
section
variable {X : Cx} {CX : CXT} {k k' : Nat} {sp : Sp} {f : Str} {gV : List V → List V → List V}
end
end Bz
namespace Bz
open PySem PySem.Spec PyProof.Rows L2
section
variable {K : PySem.W.Frag} {B H : Hp} {M L L' : List (Addr × HO)} {Q : VK} {a : Addr} {σ : L2.St}
end
section
variable {K : PySem.W.Frag} {B H : Hp} {M L : List (Addr × HO)} {Q : VK}
end
end Bz
namespace Bz
open PySem PySem.Spec PyProof.Rows L2
section
variable {β : Type} (le : β → β → Bool)
variable {le}
end
section
variable {β : Type} {key : β → PyData}
end
end Bz
namespace Bz
open PySem PySem.Spec PyProof.Rows L2
section
variable {X : Cx} {k : Nat}
end
section
variable {K : PySem.W.Frag} {H : Hp} {Q : VK}
end
end Bz
namespace Bz
open PySem PySem.Spec PyProof.Rows L2
section
variable {K : PySem.W.Frag} {H : Hp} {Q : VK} {a b : Addr} {xs : List V}
end
end Bz
namespace Bz
open PySem PySem.Spec PyProof.Rows L2
section
variable {K : PySem.W.Frag} {H : Hp} {Q : VK} {x y : V} {r r' : R2}
end
end Bz
namespace Bz
open PySem PySem.Spec PyProof.Rows L2
/-- one pair as it stands: where, where its key stands, the key, the value -/
structure PrT where
  t : Addr
  a : Addr
  k : List Key
  v : V
def PrAt (K : PySem.W.Frag) (H : Hp) (r : PrT) : Prop := SqT K H r.t [.ref r.a, r.v] ∧ H r.a = some (.tup (r.k.map kV))
def rDictT (K : PySem.W.Frag) : List V → Hp → VK → Prop := fun xs H Q => ∃ (a : Addr) (rs : List PrT), xs = [.ref a] ∧ SqL K H a (rs.map fun r => V.ref r.t) ∧ (∀ r ∈ rs, PrAt K H r) ∧ (rs.map (·.k)).Nodup ∧
  ∀ p, H p = none → Q (.ref p) (upd H p (.dT (rs.map fun r => (r.k, r.v))))
theorem pairsT_of {X : Cx} {pins : List (Addr × Obj)} {σ : L2.St} {H : Hp} {s : Shared} (I : Inv X pins σ H s) : ∀ {rs : List PrT}, (∀ r ∈ rs, PrAt X.K H r) →
    ∃ prs : List (List Key × Addr × Value), KT H (rs.map fun r => (r.k, r.v)) prs ∧ prs.map (·.1) = rs.map (·.k) ∧ ∀ (j : Nat) (q : List Key × Addr × Value), prs[j]? = some q → ∃ r, rs[j]? = some r ∧ IsTup s.heap r.t #[.ref q.2.1, q.2.2]
  | [], _ => ⟨[], .nil, rfl, fun j q e => by simp at e⟩
  | r :: rs, h => by
    obtain ⟨prs, r1, r2, r3⟩ := pairsT_of I fun x hx => h x (List.mem_cons_of_mem _ hx)
    obtain ⟨h1, h2⟩ := h r List.mem_cons_self
    obtain ⟨its, rv, ht, _⟩ := I.tuple h1
    obtain ⟨u, y, ei, ru, ry⟩ := vals2 rv
    subst ei
    cases ru
    refine ⟨(r.k, r.a, y) :: prs, .cons ⟨rfl, h2, ry⟩ r1, by rw [List.map_cons, List.map_cons, r2], fun j q e => ?_⟩
    cases j with
    | zero =>
      have e' : (r.k, r.a, y) = q := Option.some.inj e
      subst e'
      exact ⟨r, rfl, ht⟩
    | succ j => exact r3 j q (by simpa using e)
theorem kt_upd {H : Hp} {p : Addr} {o : HO} (hp : H p = none) : ∀ {l : List (List Key × V)} {m : List (List Key × Addr × Value)}, KT H l m → KT (upd H p o) l m
  | _, _, .nil => .nil
  | _, _, .cons h t => .cons ⟨h.1, by
      rw [upd_ne (fun z => by
        have h2 := h.2.1
        rw [z, hp] at h2
        cases h2)]
      exact h.2.1, h.2.2⟩ (kt_upd hp t)
theorem storedAllH_nodup {K : Type} [DecidableEq K] : ∀ {ps acc : List (K × Addr × Value)}, ((acc ++ ps).map (·.1)).Nodup → storedAllH acc ps = acc ++ ps
  | [], acc, _ => by
    rw [List.append_nil]
    rfl
  | x :: ps, acc, h => by
    have e : storedH acc x.1 x.2.1 x.2.2 = acc ++ [x] := by
      have hn : atKey acc x.1 = none := by
        rw [List.map_append] at h
        have h2 := (List.nodup_append.mp h).2.2
        unfold atKey
        rw [List.find?_eq_none.mpr fun y hy e => h2 y.1 (List.mem_map.mpr ⟨y, hy, rfl⟩) x.1 (List.mem_map.mpr ⟨x, List.mem_cons_self, rfl⟩) (of_decide_eq_true e)]
        rfl
      exact storedH_new hn _ _
    show storedAllH (storedH acc x.1 x.2.1 x.2.2) ps = _
    rw [e, storedAllH_nodup (by rw [List.append_assoc]; exact h), List.append_assoc]
    rfl
theorem cl_dictT {X : Cx} (hcalm : X.calm = true) (hu : X.A.units + 3 < cLine) : CallR X (.type "dict") (rDictT X.K) := by
  intro pins s σ H xs us Q I r q
  obtain ⟨a, rs, rfl, hq, hr, nd, q⟩ := q
  obtain ⟨u, rfl, rx⟩ := vals1 r
  cases rx
  obtain ⟨its, rv, pl, hz⟩ := I.list hq
  have ei : its = (rs.map (·.t)).map Value.ref := refs_at (by rw [List.map_map]; exact rv)
  subst ei
  rw [List.length_map] at hz
  obtain ⟨prs, kt, r2, r3⟩ := pairsT_of I hr
  have hl : prs.length = rs.length := by
    have := congrArg List.length r2
    rwa [List.length_map, List.length_map] at this
  obtain ⟨ps, hps⟩ : ∃ ps : List (Value × Value), ps = prs.map fun q => (Value.ref q.2.1, q.2.2) := ⟨_, rfl⟩
  have hpl : ps.length = prs.length := by rw [hps, List.length_map]
  obtain ⟨o, n, ho, hc, hd, hdat⟩ := pl
  have hm : (s.heap.objs.size == sysModules) = false := beq_eq_false_iff_ne.mpr (Nat.ne_of_gt I.big)
  refine call_dict_pairsH (knd := tupleKind (mixKind X.prog X.w)) (ps := prs) (PairArg.list a ((rs.map (·.t)).map Value.ref).toArray (fun j => (rs.map (·.t)).getD j 0) ps) (I.ok.hd hcalm) (show X.A.units + 1 + 1 < cLine from by omega) ⟨⟨o, n, ho, hc, hd, hdat⟩, ?_⟩ ?_ ?_ (by omega) fun h' tk hd' hk => ?_
  · refine ⟨by rw [List.size_toArray, List.length_map, List.length_map]; omega, fun j k v e => ?_⟩
    rw [hps, List.getElem?_map] at e
    obtain ⟨qq, eq, e2⟩ := Option.map_eq_some_iff.mp e
    cases e2
    obtain ⟨r, er, ht⟩ := r3 j qq eq
    have e1 : (rs.map (·.t))[j]? = some r.t := by rw [List.getElem?_map, er]; rfl
    have e3 : (rs.map (·.t)).getD j 0 = r.t := by rw [List.getD_eq_getElem?_getD, e1]; rfl
    refine ⟨?_, ?_⟩
    · rw [List.getElem?_toArray, List.getElem?_map, e1]
      show some (Value.ref r.t) = some (.ref ((rs.map (·.t)).getD j 0))
      rw [e3]
    · show PairAt s.heap ((rs.map (·.t)).getD j 0) _ _
      rw [e3]
      exact .inl ht
  · refine ⟨by omega, fun i key v e => ?_⟩
    have e : ps[i]? = some (key, v) := e
    rw [hps, List.getElem?_map] at e
    obtain ⟨qq, eq, e2⟩ := Option.map_eq_some_iff.mp e
    cases e2
    exact ⟨qq.1, qq.2.1, eq, rfl⟩
  · intro h' hk x hx
    have key : ∀ {l : List (List Key × V)} {m : List (List Key × Addr × Value)}, KT H l m → ∀ x ∈ m, H x.2.1 = some (.tup (x.1.map kV)) := by
      intro l m q
      induction q with
      | nil => intro x hx; exact nomatch hx
      | @cons p q ps qs hq t ih =>
        intro x hx
        rcases List.mem_cons.mp hx with e | hx
        · subst e
          rw [← hq.1]
          exact hq.2.1
        · exact ih x hx
    obtain ⟨o2, items, n2, g1, g2, g3, g4⟩ := key_of (P := X.prog) (w := X.w) I.hok (key kt x hx)
    exact ⟨o2, items, n2, hk _ _ (Nat.ne_of_lt (Heap.lt_size g1)) (fun z => nomatch z) g1, g2, g3, g4⟩
  · rw [storedAllH_nodup (by rw [List.nil_append, r2]; exact nd), List.nil_append] at hd'
    obtain ⟨o2, es, ep, g1, g2, g3, g4, g5, g6⟩ := hd'
    have hp := I.hok.fresh (Nat.le_refl s.heap.objs.size)
    refine ⟨.ref s.heap.objs.size, _, I.laid (t' := tk) (o := .dT (rs.map fun r => (r.k, r.v))) (fun b o e => hk b o (fun z => nomatch z) e) (Nat.le_refl _) ?_, rfl, q _ hp⟩
    exact ⟨by rw [List.length_map]; exact hz, hm, prs, kt_upd hp kt, o2, es, ep, g1, g2, g3, g4, g6⟩
def tLenSetT (K : PySem.W.Frag) (ta : TE) : TE := fun σ H Q => ta σ H fun x H1 => ∃ (l : Addr) (ks : List (Addr × List Int)), x = .ref l ∧ SqL K H1 l (ks.map fun p => V.ref p.1) ∧ (∀ p ∈ ks, SqT K H1 p.1 (p.2.map V.int)) ∧ ks.length < 64 ∧ (ks.map (·.2)).Nodup ∧ Q (.int (ks.length : Nat)) H1
theorem pe_lenSetT {X : Cx} {k : Nat} {a : Expr} {ta : TE} {p p2 q pos : Pos} (hc : X.calm = true) (hr : Room k X.A) (hg : Gl X "len") (hm : X.mg "len" = none) (hg2 : Gl X "set") (hm2 : X.mg "set" = none) (ha : PE X a ta)
    (na : starEach [a] X.env = (false, eval a X.env) :: starEach [] X.env := by rfl) : PE X (.Call (.Name "len" p) [.Call (.Name "set" p2) [a] [] q] [] pos) (tLenSetT X.K ta) := by
  have hu := hr.units
  refine ⟨fun pins s σ H Q I h => ?_⟩
  refine Call_ (ld_blt I hg hm PySem.boot_len ?_)
  refine PyProof.Rows.callWith_builtin1 (PyProof.Rows.args_cons ?_ rfl) rfl rfl
  refine Call_ (ld_blt I hg2 hm2 PyProof.Rows.boot_set ?_)
  refine PyProof.Rows.callWith_type1 (PyProof.Rows.args_cons (thn (ha.run pins s σ H _ I h) fun v s1 ⟨x, H1, I1, r1, q1⟩ => PyProof.Rows.args_nil ?_) na) na rfl
  obtain ⟨l, ks, rfl, hq, hk, h64, hnd, q1⟩ := q1
  cases r1
  obtain ⟨its, r, pl, hz⟩ := I1.list hq
  refine call_set_tups (P := X.prog) (w := X.w) ks (I1.ok.hd hc) pl.isList (by simpa using refs_of_vals r) (fun p hp => I1.isT (hk p hp)) h64 (by omega) fun h' tk L es ep t R G keep => ?_
  have hL : L.length = ks.length := by
    have pm : (L.map (·.2)).Perm (ks.map (·.2)) := (List.perm_ext_iff_of_nodup R.nd hnd).mpr fun z => by
      constructor
      · intro hz
        obtain ⟨y, hy, rfl⟩ := List.mem_map.mp hz
        exact List.mem_map.mpr ⟨y, List.mem_of_mem_take (G.sub y hy), rfl⟩
      · intro hz
        obtain ⟨y, hy, rfl⟩ := List.mem_map.mp hz
        exact G.all y (by rw [List.take_length]; exact hy)
    have := pm.length_eq
    rwa [List.length_map, List.length_map] at this
  refine PyProof.Rows.args_nil ?_
  obtain ⟨o, ho, hex, hd⟩ := R.ob
  have I2 : Inv X pins σ H1 { s1 with heap := h', toks := tk } := I1.kept fun b o e => keep b o e
  have hes : es.size = L.length := SetTR.size (s := { s1 with heap := h', toks := tk }) R
  have hft := SetTR.fits (s := { s1 with heap := h', toks := tk }) R
  refine call_len_set ho hex hd hft (by rw [hes, hL]; omega) ⟨.int (ks.length : Nat), H1, I2.tok _, ⟨_, by rw [hes, hL]⟩, q1⟩
theorem g_lenSetT {K : PySem.W.Frag} {ta : TE} {σ : L2.St} {H : Hp} {Q : VK} (h : ta σ H fun x H1 => ∃ (l : Addr) (ks : List (Addr × List Int)), x = .ref l ∧ SqL K H1 l (ks.map fun p => V.ref p.1) ∧ (∀ p ∈ ks, SqT K H1 p.1 (p.2.map V.int)) ∧ ks.length < 64 ∧ (ks.map (·.2)).Nodup ∧ Q (.int (ks.length : Nat)) H1) : tLenSetT K ta σ H Q := h
abbrev SltT : Type := Int × Int
abbrev keyS (s : SltT) : List Key := [Sum.inl s.1, Sum.inl s.2]
abbrev codS (s : SltT) : Int := TS.code 100000 [s.1, s.2]
def SltG (s : SltT) : Prop := (0 ≤ s.1 ∧ s.1 < 100000) ∧ 0 ≤ s.2 ∧ s.2 < 100000
theorem SltG.bd {s : SltT} (h : SltG s) : TS.Bd 100000 [s.1, s.2] := fun m hm => by
  rcases List.mem_cons.mp hm with rfl | hm
  · exact h.1
  · rw [List.mem_singleton.mp hm]
    exact h.2
theorem codS_eq (s : SltT) : codS s = s.1 * 100000 + s.2 := by
  have e1 : (100000 : Int) ^ 1 = 100000 := by decide
  have e0 : (100000 : Int) ^ 0 = 1 := by decide
  show s.1 * 100000 ^ 1 + (s.2 * 100000 ^ 0 + 0) = s.1 * 100000 + s.2
  rw [e1, e0, Int.mul_one, Int.add_zero]
theorem codS_inj {s t : SltT} (hs : SltG s) (ht : SltG t) (h : codS s = codS t) : s = t := by
  rw [codS_eq, codS_eq] at h
  obtain ⟨⟨a, b⟩, c, d⟩ := hs
  obtain ⟨⟨a', b'⟩, c', d'⟩ := ht
  exact Prod.ext (by omega) (by omega)
theorem perm_map_inv {α β : Type} {f : α → β} : ∀ {l : List β} {m : List β}, l.Perm m → ∀ {xs : List α}, m = xs.map f → ∃ ys : List α, l = ys.map f ∧ ys.Perm xs := by
  intro l m h
  induction h with
  | nil =>
    intro xs e
    cases xs with
    | nil => exact ⟨[], rfl, .nil⟩
    | cons _ _ => cases e
  | cons x p ih =>
    intro xs e
    cases xs with
    | nil => cases e
    | cons y ys =>
      rw [List.map_cons] at e
      injection e with e1 e2
      obtain ⟨zs, h1, h2⟩ := ih e2
      exact ⟨y :: zs, by rw [List.map_cons, e1, h1], h2.cons _⟩
  | swap x y l =>
    intro xs e
    match xs, e with
    | a :: b :: r, e =>
      rw [List.map_cons, List.map_cons] at e
      injection e with e1 e2
      injection e2 with e2 e3
      exact ⟨b :: a :: r, by rw [List.map_cons, List.map_cons, e1, e2, e3], List.Perm.swap _ _ _⟩
  | trans p q ih1 ih2 =>
    intro xs e
    obtain ⟨ys, h1, h2⟩ := ih2 e
    obtain ⟨zs, h3, h4⟩ := ih1 h1
    exact ⟨zs, h3, h4.trans h2⟩
def rSortedDT : List V → Hp → VK → Prop := fun xs H Q => ∃ (d : Addr) (kvs : List (List Key × V)) (ss : List SltT), xs = [.ref d] ∧ Rd H d (.dT kvs) ∧ kvs.map (·.1) = ss.map keyS ∧ kvs.length < 64 ∧ (∀ s ∈ ss, SltG s) ∧
  ∀ (ts : List (Addr × SltT)) (p : Addr), (ts.map (·.2)).Perm ss → ts.Pairwise (fun a b => codS a.2 ≤ codS b.2) → (∀ t ∈ ts, H t.1 = some (.tup [.int t.2.1, .int t.2.2])) → H p = none → Q (.ref p) (upd H p (.lst (ts.map fun t => V.ref t.1)))
theorem keysT_of {H : Hp} : ∀ {kvs : List (List Key × V)} {xs : List (List Key × Addr × Value)} {ss : List SltT}, KT H kvs xs → kvs.map (·.1) = ss.map keyS →
    ∃ L0 : List (Addr × SltT), xs.map (fun x => x.2.1) = L0.map (·.1) ∧ L0.map (·.2) = ss ∧ ∀ t ∈ L0, H t.1 = some (.tup [.int t.2.1, .int t.2.2])
  | _, _, [], .nil, _ => ⟨[], rfl, rfl, fun _ h => by cases h⟩
  | _, _, _ :: _, .nil, e => by cases e
  | _, _, [], .cons _ _, e => by cases e
  | _, _, s :: ss, .cons (a := p) (b := q) h t, e => by
    rw [List.map_cons, List.map_cons] at e
    injection e with e1 e2
    obtain ⟨L0, h1, h2, h3⟩ := keysT_of t e2
    refine ⟨(q.2.1, s) :: L0, by rw [List.map_cons, List.map_cons, h1], by rw [List.map_cons, h2], fun z hz => ?_⟩
    rcases List.mem_cons.mp hz with rfl | hz
    · have := h.2.1
      rw [e1] at this
      exact this
    · exact h3 z hz
theorem cl_sortedDT {X : Cx} (hcalm : X.calm = true) : CallR X (.builtin "sorted") rSortedDT := by
  intro pins s σ H xs us Q I r q
  obtain ⟨d, kvs, ss, rfl, hd, hks, h64, hg, q⟩ := q
  obtain ⟨u, rfl, rx⟩ := vals1 r
  cases rx
  obtain ⟨z, hs, ks, pr, o, es, ep, ho, hx, hdt, he, hn⟩ := (show ObjOk X.prog X.w H s.heap d (.dT kvs) from hd.ok I.hok)
  have l1 : es.size = ks.length := size_of_entries he
  have l2 : kvs.length = ks.length := Paired.length pr
  obtain ⟨L0, k1, k2, k3⟩ := keysT_of pr hks
  refine Calls.call_function_entry PyProof.Rows.kind_sorted PyProof.Rows.plain_sorted PyProof.Rows.entry_sorted (PyProof.Rows.args_sorted1 _) ?_
  unfold Builtin.«sorted»
  refine wpAny_bind (m := checkCount "sorted" 1 1 _) (wpAny_pure ?_)
  refine wpAny_bind (PySem.W.kdu_collect (A := X.A.in1) (kdl_raw hs hx hdt) (I.ok.hd hcalm) ho (by omega) fun h' tk acc kp it => ?_)
  have ea : acc.toList = ks.map fun x => Value.ref x.2.1 := by
    have hl : acc.toList.length = ks.length := by rw [Array.length_toList, it.1]; exact l1
    apply List.ext_getElem?
    intro j
    rw [List.getElem?_map]
    cases hj : acc.toList[j]? with
    | none =>
      have h1 := List.getElem?_eq_none_iff.mp hj
      rw [List.getElem?_eq_none (by omega)]
      all_goals rfl
    | some v =>
      obtain ⟨en, hen, hv⟩ := it.2 j v (by rw [← Array.getElem?_toList]; exact hj)
      have qe := entry_at he j
      rw [hen] at qe
      cases hb : ks[j]? with
      | none =>
        rw [hb] at qe
        exact nomatch (show some en = none from qe)
      | some b =>
        rw [hb] at qe
        have e2 : en = entryOfKey (tupleKind (mixKind X.prog X.w)) b := Option.some.inj qe
        rw [hv, e2]
        all_goals rfl
  have eb : acc.toList = L0.map fun t => Value.ref t.1 := by
    rw [ea]
    have := congrArg (List.map Value.ref) k1
    rw [List.map_map, List.map_map] at this
    exact this
  have hl0 : L0.length = ks.length := by
    have := congrArg List.length k1
    rw [List.length_map, List.length_map] at this
    exact this.symm
  have hvl : acc.toList.length < 64 := by
    rw [eb, List.length_map]
    omega
  have I1 : Inv X pins σ H { s with heap := h', toks := tk } := I.kept kp
  refine wpAny_bind (wpAny_newList ?_ (by rw [sizeLine_eq]; omega))
  have hoL : (h'.push (seqObj "list" acc.toList.toArray 0)).get? h'.objs.size = some (seqObj "list" acc.toList.toArray 0) := Heap.get?_push_size _ rfl
  have tk2 : ∀ t ∈ L0, TS.TupInts (h'.push (seqObj "list" acc.toList.toArray 0)) (.ref t.1) [t.2.1, t.2.2] := fun t ht => by
    have := tupI_raw I1 (t := t.1) (ns := [t.2.1, t.2.2]) (SqT.of (k3 t ht))
    exact this.keeps fun b o e _ => Heap.get?_push_of_some _ e
  have hg0 : ∀ t ∈ L0, SltG t.2 := fun t ht => hg t.2 (by rw [← k2]; exact List.mem_map.mpr ⟨t, ht, rfl⟩)
  have x : TS.TupsOk (h'.push (seqObj "list" acc.toList.toArray 0)) 2 100000 acc.toList := fun v hv => by
    rw [eb] at hv
    obtain ⟨t, ht, rfl⟩ := List.mem_map.mp hv
    exact ⟨_, tk2 t ht, rfl, (hg0 t ht).bd⟩
  show wpAny _ _ _ _ _ { s with heap := h'.push (seqObj "list" acc.toList.toArray 0), toks := tk }
  refine wpAny_bind (wpAny_holding (TS.call_sort_tups (s := { s with heap := h'.push (seqObj "list" acc.toList.toArray 0), toks := tk }) hoL hvl (by decide) x fun out a1 a2 => ?_))
  obtain ⟨c, hc⟩ := PyProof.Rows.sortedHeap_at (vs := acc.toList) (out := out) hoL
  obtain ⟨ts, e', pm⟩ := perm_map_inv a1 eb
  have hmem : ∀ t ∈ ts, t ∈ L0 := fun t ht => pm.mem_iff.mp ht
  have pw : ts.Pairwise (fun a b => codS a.2 ≤ codS b.2) := by
    rw [e'] at a2
    refine List.Pairwise.imp_of_mem (fun {a b} ha hb hle => ?_) (List.pairwise_map.mp a2)
    have f1 := (tk2 a (hmem a ha)).ints
    have f2 := (tk2 b (hmem b hb)).ints
    have hle : TS.code 100000 (TS.intsOf (h'.push (seqObj "list" acc.toList.toArray 0)) (.ref a.1)) ≤ TS.code 100000 (TS.intsOf (h'.push (seqObj "list" acc.toList.toArray 0)) (.ref b.1)) := hle
    rw [f1, f2] at hle
    exact hle
  have hp := I1.hok.fresh (Nat.le_refl h'.objs.size)
  have hz : (ts.map fun t => V.ref t.1).length ≤ sizeLine := by
    rw [List.length_map, pm.length_eq, sizeLine_eq]
    omega
  have rv : Vals (ts.map fun t => V.ref t.1) out.toList := by
    rw [e']
    have : ∀ l : List (Addr × SltT), Vals (l.map fun t => V.ref t.1) (l.map fun t => Value.ref t.1) := fun l => by
      induction l with
      | nil => exact .nil
      | cons a l ih => exact .cons rfl ih
    exact this ts
  refine wpAny_pure ⟨_, rfl, .ref h'.objs.size, _, I1.laid (t' := tk) (o := .lst (ts.map fun t => V.ref t.1)) (fun b u e => ?_) (Nat.le_refl _) ⟨hz, out.toList, c, rv, by rw [Array.toArray_toList]; exact hc⟩, rfl,
    q ts _ (by rw [← k2]; exact pm.map _) pw (fun t ht => k3 t (hmem t ht)) hp⟩
  have hb : b < h'.objs.size := Heap.lt_size e
  rw [PyProof.Rows.sortedHeap_old (Nat.ne_of_lt hb) (by rw [size_push']; exact Nat.lt_succ_of_lt hb)]
  exact Heap.get?_push_of_some _ e
end Bz
namespace Bz
open PySem PySem.Spec PyProof.Rows L2
theorem hu3 {k : Nat} {A : Around} (h : Room k A) : A.units + 3 < cLine := by
  have := h.un
  omega
def SlotR (B : Hp) (x : V) (s : SltT) : Prop := ∃ a, x = .ref a ∧ B a = some (.tup [.int s.1, .int s.2])
abbrev SlotsB (B : Hp) (xs : List V) (ss : List SltT) : Prop := All2 (SlotR B) xs ss
theorem SlotsB.same {B B' : Hp} {xs : List V} {ss : List SltT} (h : SlotsB B xs ss) (s : Same B B') : SlotsB B' xs ss := All2.mono (fun _ _ ⟨a, e, h⟩ => ⟨a, e, s _ _ h⟩) h
theorem All2.permL {α β : Type} {R : α → β → Prop} : ∀ {ys xs : List α}, ys.Perm xs → ∀ {ss : List β}, All2 R xs ss → ∃ ts, All2 R ys ts ∧ ts.Perm ss := by
  intro ys xs h
  induction h with
  | nil =>
    intro ss h
    exact ⟨ss, h, .refl _⟩
  | cons x p ih =>
    intro ss h
    cases h with
    | cons h t =>
      obtain ⟨ts, h1, h2⟩ := ih t
      exact ⟨_ :: ts, .cons h h1, h2.cons _⟩
  | swap x y l =>
    intro ss h
    cases h with
    | cons h t =>
      cases t with
      | cons h2 t => exact ⟨_, .cons h2 (.cons h t), List.Perm.swap _ _ _⟩
  | trans p q ih1 ih2 =>
    intro ss h
    obtain ⟨ts, h1, h2⟩ := ih2 h
    obtain ⟨us, h3, h4⟩ := ih1 h1
    exact ⟨us, h3, h4.trans h2⟩
theorem All2.pw {α β : Type} {R : α → β → Prop} {P : α → α → Prop} {P' : β → β → Prop} (hh : ∀ x s y t, R x s → R y t → P x y → P' s t) : ∀ {xs : List α} {ss : List β}, All2 R xs ss → xs.Pairwise P → ss.Pairwise P'
  | _, _, .nil, _ => .nil
  | _, _, .cons (l := l) (m := m) h t, p => by
    obtain ⟨p1, p2⟩ := List.pairwise_cons.mp p
    refine List.pairwise_cons.mpr ⟨fun z hz => ?_, All2.pw hh t p2⟩
    obtain ⟨i, hi⟩ := List.getElem?_of_mem hz
    obtain ⟨y, hy, hr⟩ := t.get' hi
    exact hh _ _ _ _ h hr (p1 y (List.mem_of_getElem? hy))
theorem Is.add {B H : Hp} {M L : List (Addr × HO)} {a : Addr} {o : HO} (I : Is B M L H) (h : H a = some o) (hn : ∀ p ∈ L ++ M, p.2 ≠ o) : Is (upd B a o) M L H ∧ Same B (upd B a o) := by
  refine ⟨⟨fun b x e => ?_, fun q hq => ⟨(I.own q hq).1, ?_⟩, I.nd⟩, fun b x e => ?_⟩
  · by_cases hb : b = a
    · subst hb
      rw [upd_same] at e
      rw [← e]
      exact h
    · rw [upd_ne hb] at e
      exact I.ex _ _ e
  · rw [upd_ne (fun z => hn q hq (by
      have h2 := (I.own q hq).1
      rw [z, h] at h2
      exact (Option.some.inj h2).symm))]
    exact (I.own q hq).2
  · by_cases hb : b = a
    · subst hb
      rw [upd_same, ← I.ex _ _ e, h]
    · rw [upd_ne hb]
      exact e
/-- slots that the heap knows, taken among what stays -/
theorem Is.adds {H : Hp} {M L : List (Addr × HO)} (hn : ∀ p ∈ L ++ M, ∀ u v, p.2 ≠ .tup [.int u, .int v]) : ∀ {B : Hp} (ts : List (Addr × SltT)), Is B M L H → (∀ t ∈ ts, H t.1 = some (.tup [.int t.2.1, .int t.2.2])) →
    ∃ B', Same B B' ∧ Is B' M L H ∧ SlotsB B' (ts.map fun t => V.ref t.1) (ts.map (·.2))
  | B, [], I, _ => ⟨B, fun _ _ e => e, I, .nil⟩
  | B, t :: ts, I, h => by
    obtain ⟨I1, s1⟩ := I.add (h t List.mem_cons_self) fun p hp => hn p hp _ _
    obtain ⟨B', s, I2, h2⟩ := Is.adds hn ts I1 fun x hx => h x (List.mem_cons_of_mem _ hx)
    exact ⟨B', s1.trans s, I2, .cons ⟨_, rfl, s _ _ upd_same⟩ h2⟩
section
variable {K : PySem.W.Frag} {B H : Hp} {M L L' : List (Addr × HO)} {Q : VK} {v : V}
theorem g_sortSlots {a : Addr} {xs : List V} {ss : List SltT} (I : Is B M L H) (h : SqL K H a xs) (hx : SlotsB B xs ss) (hg : ∀ s ∈ ss, SltG s) (h64 : xs.length < 64)
    (q : ∀ p ys ts H', SlotsB B ys ts → ts.Perm ss → ts.Pairwise (fun a b => codS a ≤ codS b) → Is B M ((p, .lst ys) :: L) H' → Q (.ref p) H') : rSortU K 2 100000 [.ref a] H Q := by
  refine ⟨a, xs, rfl, h, h64, fun x m => ?_, fun ys p pm pw hp => ?_⟩
  · obtain ⟨i, hi⟩ := List.getElem?_of_mem m
    obtain ⟨s, hs, b, rfl, hb⟩ := hx.get hi
    exact ⟨[s.1, s.2], ⟨b, rfl, SqT.of (I.b hb)⟩, rfl, (hg s (List.mem_of_getElem? hs)).bd⟩
  · obtain ⟨ts, h1, h2⟩ := All2.permL pm hx
    refine q p ys ts _ h1 h2 (All2.pw ?_ h1 pw) (I.new hp)
    rintro x s y t ⟨b, rfl, hb⟩ ⟨c, rfl, hc⟩ hle
    exact hle _ _ ⟨b, rfl, SqT.of (I.b hb)⟩ ⟨c, rfl, SqT.of (I.b hc)⟩
theorem g_sortedDT {d : Addr} {kvs : List (List Key × V)} {ss : List SltT} (I : Is B M L H) (hd : H d = some (.dT kvs)) (hks : kvs.map (·.1) = ss.map keyS) (hg : ∀ s ∈ ss, SltG s) (h64 : kvs.length < 64) (hn : ∀ p ∈ L ++ M, ∀ u v, p.2 ≠ .tup [.int u, .int v])
    (q : ∀ B' p ys ts H', Same B B' → SlotsB B' ys ts → ts.Perm ss → ts.Pairwise (fun a b => codS a ≤ codS b) → Is B' M ((p, .lst ys) :: L) H' → Q (.ref p) H') : rSortedDT [.ref d] H Q := by
  refine ⟨d, kvs, ss, rfl, .inl hd, hks, h64, hg, fun ts p pm pw hk hp => ?_⟩
  obtain ⟨B', s, I2, h2⟩ := I.adds hn ts hk
  exact q B' p _ _ _ s h2 pm (List.pairwise_map.mpr pw) (I2.new hp)
/-- pairs of a slot and True -/
def PairR (B : Hp) (x : V) (s : SltT) : Prop := ∃ t a, x = .ref t ∧ B t = some (.tup [.ref a, .bl true]) ∧ B a = some (.tup [.int s.1, .int s.2])
abbrev goneD (gs : List SltT) : List (List Key × V) := gs.map fun s => (keyS s, .bl true)
theorem keyS_inj {s t : SltT} (h : keyS s = keyS t) : s = t := by
  injection h with h1 h2
  injection h2 with h2 _
  injection h1 with h1
  injection h2 with h2
  exact Prod.ext h1 h2
theorem goneD_at : ∀ (gs : List SltT) (s : SltT), (valV (goneD gs) (keyS s)).isSome = decide (s ∈ gs)
  | [], s => by simp [valV]
  | g :: gs, s => by
    by_cases h : g = s
    · subst h
      rw [show goneD (g :: gs) = (keyS g, V.bl true) :: goneD gs from rfl, valV_pos rfl, decide_eq_true List.mem_cons_self]
      rfl
    · rw [show goneD (g :: gs) = (keyS g, V.bl true) :: goneD gs from rfl, valV_neg (fun e => h (keyS_inj e)), goneD_at gs s]
      refine decide_eq_decide.mpr ⟨fun m => List.mem_cons_of_mem _ m, fun m => ?_⟩
      rcases List.mem_cons.mp m with e | m
      · exact absurd e.symm h
      · exact m
theorem goneD_get {a b : Addr} {gs : List SltT} {s : SltT} (h : H a = some (.dT (goneD gs))) (hb : H b = some (.tup [.int s.1, .int s.2])) : ∃ o, DGet H a (.ref b) o ∧ o.isSome = decide (s ∈ gs) := ⟨_, DGet.t (k := keyS s) h hb, goneD_at gs s⟩
theorem goneD_put {gs : List SltT} {s : SltT} : putK (goneD gs) (keyS s) (V.bl true) = goneD (if s ∈ gs then gs else gs ++ [s]) := by
  have e := goneD_at gs s
  by_cases h : s ∈ gs
  · rw [if_pos h]
    rw [decide_eq_true h] at e
    unfold putK
    rw [if_pos (by rw [valV_any]; exact e)]
    rw [List.map_map]
    refine List.map_congr_left fun x _ => ?_
    show (if keyS x = keyS s then (keyS x, V.bl true) else (keyS x, V.bl true)) = _
    split <;> rfl
  · rw [if_neg h]
    rw [decide_eq_false h] at e
    rw [putK_new _ (by cases hv : valV (goneD gs) (keyS s) with | none => rfl | some _ => rw [hv] at e; cases e), goneD, goneD, List.map_append]
    rfl
theorem pairs_all {B : Hp} : ∀ {xs : List V} {ss : List SltT}, All2 (PairR B) xs ss → ∃ rs : List PrT, xs = rs.map (fun r => V.ref r.t) ∧ (rs.map (fun r => (r.k, r.v))) = goneD ss ∧ rs.map (·.k) = ss.map keyS ∧ ∀ r ∈ rs, B r.t = some (.tup [.ref r.a, r.v]) ∧ B r.a = some (.tup (r.k.map kV))
  | _, _, .nil => ⟨[], rfl, rfl, rfl, fun _ h => by cases h⟩
  | _, _, .cons (b := s) ⟨t, a, e, h1, h2⟩ tl => by
    obtain ⟨rs, r1, r2, r3, r4⟩ := pairs_all tl
    refine ⟨⟨t, a, keyS s, .bl true⟩ :: rs, by rw [e, r1]; rfl, by rw [List.map_cons, r2]; rfl, by rw [List.map_cons, r3]; rfl, fun r hr => ?_⟩
    rcases List.mem_cons.mp hr with rfl | hr
    · exact ⟨h1, h2⟩
    · exact r4 r hr
theorem g_dictT {l : Addr} {xs : List V} {ss : List SltT} (I : Is B M L H) (h : SqL K H l xs) (hx : All2 (PairR B) xs ss) (nd : ss.Nodup) (q : ∀ p H', Is B M ((p, .dT (goneD ss)) :: L) H' → Q (.ref p) H') : rDictT K [.ref l] H Q := by
  obtain ⟨rs, r1, r2, r3, r4⟩ := pairs_all hx
  refine ⟨l, rs, rfl, by rw [← r1]; exact h, fun r hr => ⟨SqT.of (I.b (r4 r hr).1), I.b (r4 r hr).2⟩, ?_, fun p hp => ?_⟩
  · rw [r3]
    exact List.pairwise_map.mpr (nd.imp fun h e => h (keyS_inj e))
  · rw [r2]
    exact q p _ (I.new hp)
theorem g_lenSlots {σ : St} {ta : TE} (h : ta σ H fun x H1 => ∃ (l : Addr) (xs : List V) (ss : List SltT), x = .ref l ∧ SqL K H1 l xs ∧ SlotsB H1 xs ss ∧ xs.length < 64 ∧ ss.Nodup ∧ Q (.int (ss.length : Nat)) H1) : ∀ (w : ∀ {P P' : VK}, (∀ v H', P v H' → P' v H') → ta σ H P → ta σ H P'), tLenSetT K ta σ H Q := by
  intro w
  refine w (fun x H1 h => ?_) h
  obtain ⟨l, xs, ss, rfl, h1, h2, h3, h4, q⟩ := h
  have key : ∀ {xs : List V} {ss : List SltT}, SlotsB H1 xs ss → ∃ ks : List (Addr × List Int), xs = ks.map (fun p => V.ref p.1) ∧ ks.map (·.2) = ss.map (fun s => [s.1, s.2]) ∧ ∀ p ∈ ks, SqT K H1 p.1 (p.2.map V.int) := by
    intro xs ss h
    induction h with
    | nil => exact ⟨[], rfl, rfl, fun _ h => by cases h⟩
    | cons hh t ih =>
      obtain ⟨ks, k1, k2, k3⟩ := ih
      obtain ⟨a, rfl, ha⟩ := hh
      refine ⟨(a, [_, _]) :: ks, by rw [k1]; rfl, by rw [List.map_cons, k2]; rfl, fun p hp => ?_⟩
      rcases List.mem_cons.mp hp with rfl | hp
      · exact SqT.of ha
      · exact k3 p hp
  obtain ⟨ks, k1, k2, k3⟩ := key h2
  subst k1
  have hl : ks.length = ss.length := by
    have := congrArg List.length k2
    rwa [List.length_map, List.length_map] at this
  rw [List.length_map] at h3
  refine ⟨l, ks, rfl, h1, k3, h3, ?_, by rw [hl]; exact q⟩
  rw [k2]
  refine List.pairwise_map.mpr (h4.imp fun h e => h ?_)
  injection e with e1 e2
  injection e2 with e2 _
  exact Prod.ext e1 e2
theorem g_lenSetV {σ : St} {i : Nat} {l : Addr} {xs : List V} {ss : List SltT} (hv : At σ i (.ref l)) (h1 : SqL K H l xs) (h2 : SlotsB H xs ss) (h3 : xs.length < 64) (h4 : ss.Nodup) (q : Q (.int (ss.length : Nat)) H) : tLenSetT K (tVar i) σ H Q := by
  have := g_lenSlots (K := K) (H := H) (Q := Q) (σ := σ) (ta := fun _ H P => P (.ref l) H) ⟨l, xs, ss, rfl, h1, h2, h3, h4, q⟩ (fun hh h => hh _ _ h)
  exact g_lenSetT (g_var hv this)
theorem g_extend {l b : Addr} {xs zs : List V} (I : Is B M L H) (hl : H l = some (.lst xs)) (hb : H b = some (.lst zs)) (h : xs.length + zs.length ≤ 900000) (u : Put l (.lst (xs ++ zs)) L L') (q : ∀ H', Is B M L' H' → Q .non H') : rExtend (.ref l) [.ref b] H Q :=
  ⟨l, b, xs, zs, rfl, rfl, hl, hb, by rw [sizeLine_eq]; omega, q _ (I.put u)⟩
end
theorem sortS_uniq {xs ys ss : List SltT} (hg : ∀ s ∈ ss, SltG s) (h1 : xs.Perm ss) (h2 : ys.Perm ss) (p1 : xs.Pairwise fun a b => codS a ≤ codS b) (p2 : ys.Pairwise fun a b => codS a ≤ codS b) : xs = ys :=
  List.Perm.eq_of_pairwise (le := fun a b => codS a ≤ codS b) (fun a b ha hb h h' => codS_inj (hg a (h1.mem_iff.mp ha)) (hg b (h2.mem_iff.mp hb)) (Int.le_antisymm h h')) p1 p2 (h1.trans h2.symm)
end Bz
namespace Bz
open PySem PySem.Spec PyProof.Rows L2
def topS (i : Nat) : Stmt := PySem.Challenge.pw_bindbench_k52_slots_that_fit.main.body.getD i (.Pass ⟨0, 0, 0, 0⟩)
def dd_is_whole : He.DefD := ⟨("is_whole", none), "is_whole", "is_whole", defArgs (topS 13), defBody (topS 13), defScope (topS 13), [.int 1000000], []⟩
def dd_is_name : He.DefD := ⟨("is_name", none), "is_name", "is_name", defArgs (topS 14), defBody (topS 14), defScope (topS 14), [], []⟩
def dd_kind_of : He.DefD := ⟨("kind_of", none), "kind_of", "kind_of", defArgs (topS 15), defBody (topS 15), defScope (topS 15), [], []⟩
def dd_is_step : He.DefD := ⟨("is_step", none), "is_step", "is_step", defArgs (topS 16), defBody (topS 16), defScope (topS 16), [], []⟩
def dd_are_steps : He.DefD := ⟨("are_steps", none), "are_steps", "are_steps", defArgs (topS 19), defBody (topS 19), defScope (topS 19), [], []⟩
def dd_Style_init : He.DefD := ⟨("Style", some "__init__"), "__init__", "Style.__init__", defArgs (inClass (topS 20) 0), defBody (inClass (topS 20) 0), defScope (inClass (topS 20) 0), [], []⟩
def dd_Style_span : He.DefD := ⟨("Style", some "span"), "span", "Style.span", defArgs (inClass (topS 20) 4), defBody (inClass (topS 20) 4), defScope (inClass (topS 20) 4), [], []⟩
def dd_Style_eq : He.DefD := ⟨("Style", some "__eq__"), "__eq__", "Style.__eq__", defArgs (inClass (topS 20) 8), defBody (inClass (topS 20) 8), defScope (inClass (topS 20) 8), [], []⟩
def dd_Job_init : He.DefD := ⟨("Job", some "__init__"), "__init__", "Job.__init__", defArgs (inClass (topS 21) 0), defBody (inClass (topS 21) 0), defScope (inClass (topS 21) 0), [.int 0, .non, .bl false], []⟩
def dd_Job_rank : He.DefD := ⟨("Job", some "rank"), "rank", "Job.rank", defArgs (inClass (topS 21) 6), defBody (inClass (topS 21) 6), defScope (inClass (topS 21) 6), [], []⟩
def dd_Job_eq : He.DefD := ⟨("Job", some "__eq__"), "__eq__", "Job.__eq__", defArgs (inClass (topS 21) 9), defBody (inClass (topS 21) 9), defScope (inClass (topS 21) 9), [], []⟩
def dd_is_night : He.DefD := ⟨("is_night", none), "is_night", "is_night", defArgs (topS 29), defBody (topS 29), defScope (topS 29), [], []⟩
def dd_is_slot_of : He.DefD := ⟨("is_slot_of", none), "is_slot_of", "is_slot_of", defArgs (topS 30), defBody (topS 30), defScope (topS 30), [], []⟩
def dd_are_sizes : He.DefD := ⟨("are_sizes", none), "are_sizes", "are_sizes", defArgs (topS 31), defBody (topS 31), defScope (topS 31), [], []⟩
def dd_are_lost : He.DefD := ⟨("are_lost", none), "are_lost", "are_lost", defArgs (topS 32), defBody (topS 32), defScope (topS 32), [], []⟩
def dd_Order_init : He.DefD := ⟨("Order", some "__init__"), "__init__", "Order.__init__", defArgs (inClass (topS 33) 0), defBody (inClass (topS 33) 0), defScope (inClass (topS 33) 0), [.int 1, .int 0, .non], []⟩
def dd_Order_wants : He.DefD := ⟨("Order", some "wants"), "wants", "Order.wants", defArgs (inClass (topS 33) 3), defBody (inClass (topS 33) 3), defScope (inClass (topS 33) 3), [], []⟩
def dd_Order_eq : He.DefD := ⟨("Order", some "__eq__"), "__eq__", "Order.__eq__", defArgs (inClass (topS 33) 6), defBody (inClass (topS 33) 6), defScope (inClass (topS 33) 6), [], []⟩
def dd_Hall_init : He.DefD := ⟨("Hall", some "__init__"), "__init__", "Hall.__init__", defArgs (inClass (topS 34) 0), defBody (inClass (topS 34) 0), defScope (inClass (topS 34) 0), [.non], []⟩
def dd_Hall_lost : He.DefD := ⟨("Hall", some "lost"), "lost", "Hall.lost", defArgs (inClass (topS 34) 2), defBody (inClass (topS 34) 2), defScope (inClass (topS 34) 2), [], []⟩
def dd_Hall_has_frame_of : He.DefD := ⟨("Hall", some "has_frame_of"), "has_frame_of", "Hall.has_frame_of", defArgs (inClass (topS 34) 3), defBody (inClass (topS 34) 3), defScope (inClass (topS 34) 3), [], []⟩
def dd_Hall_is_slot : He.DefD := ⟨("Hall", some "is_slot"), "is_slot", "Hall.is_slot", defArgs (inClass (topS 34) 4), defBody (inClass (topS 34) 4), defScope (inClass (topS 34) 4), [], []⟩
def dd_Hall_with_lost : He.DefD := ⟨("Hall", some "with_lost"), "with_lost", "Hall.with_lost", defArgs (inClass (topS 34) 5), defBody (inClass (topS 34) 5), defScope (inClass (topS 34) 5), [], []⟩
def dd_Hall_with_found : He.DefD := ⟨("Hall", some "with_found"), "with_found", "Hall.with_found", defArgs (inClass (topS 34) 6), defBody (inClass (topS 34) 6), defScope (inClass (topS 34) 6), [], []⟩
def dd_Hall_fitting : He.DefD := ⟨("Hall", some "fitting"), "fitting", "Hall.fitting", defArgs (inClass (topS 34) 7), defBody (inClass (topS 34) 7), defScope (inClass (topS 34) 7), [], []⟩
def dd_Hall_slots_of : He.DefD := ⟨("Hall", some "slots_of"), "slots_of", "Hall.slots_of", defArgs (inClass (topS 34) 10), defBody (inClass (topS 34) 10), defScope (inClass (topS 34) 10), [.int 40], []⟩
def dd_Hall_how_many : He.DefD := ⟨("Hall", some "how_many"), "how_many", "Hall.how_many", defArgs (inClass (topS 34) 11), defBody (inClass (topS 34) 11), defScope (inClass (topS 34) 11), [], []⟩
def dd_Hall_eq : He.DefD := ⟨("Hall", some "__eq__"), "__eq__", "Hall.__eq__", defArgs (inClass (topS 34) 12), defBody (inClass (topS 34) 12), defScope (inClass (topS 34) 12), [], []⟩
def dd_law_mixed : He.DefD := ⟨("_law_mixed", none), "_law_mixed", "_law_mixed", defArgs (topS 36), defBody (topS 36), defScope (topS 36), [], []⟩
def dd_law_folded : He.DefD := ⟨("_law_folded", none), "_law_folded", "_law_folded", defArgs (topS 37), defBody (topS 37), defScope (topS 37), [], []⟩
def dd_law_draw : He.DefD := ⟨("_law_draw", none), "_law_draw", "_law_draw", defArgs (topS 38), defBody (topS 38), defScope (topS 38), [], []⟩
def dd_law_begun : He.DefD := ⟨("_law_begun", none), "_law_begun", "_law_begun", defArgs (topS 39), defBody (topS 39), defScope (topS 39), [], []⟩
def dd_law_numbers : He.DefD := ⟨("_law_numbers", none), "_law_numbers", "_law_numbers", defArgs (topS 40), defBody (topS 40), defScope (topS 40), [], []⟩
def dd_law_near : He.DefD := ⟨("_law_near", none), "_law_near", "_law_near", defArgs (topS 41), defBody (topS 41), defScope (topS 41), [], []⟩
def dd_law_plain_hall : He.DefD := ⟨("_law_plain_hall", none), "_law_plain_hall", "_law_plain_hall", defArgs (topS 42), defBody (topS 42), defScope (topS 42), [], []⟩
def dd_law_plain_order : He.DefD := ⟨("_law_plain_order", none), "_law_plain_order", "_law_plain_order", defArgs (topS 43), defBody (topS 43), defScope (topS 43), [], []⟩
def dd_law_order : He.DefD := ⟨("_law_order", none), "_law_order", "_law_order", defArgs (topS 44), defBody (topS 44), defScope (topS 44), [], []⟩
def dd_law_fits : He.DefD := ⟨("_law_fits", none), "_law_fits", "_law_fits", defArgs (topS 45), defBody (topS 45), defScope (topS 45), [], []⟩
def dd_law_slots_right : He.DefD := ⟨("_law_slots_right", none), "_law_slots_right", "_law_slots_right", defArgs (topS 46), defBody (topS 46), defScope (topS 46), [], []⟩
def dd_law_lost_right : He.DefD := ⟨("_law_lost_right", none), "_law_lost_right", "_law_lost_right", defArgs (topS 47), defBody (topS 47), defScope (topS 47), [], []⟩
def dd_law_hand_right : He.DefD := ⟨("_law_hand_right", none), "_law_hand_right", "_law_hand_right", defArgs (topS 48), defBody (topS 48), defScope (topS 48), [], []⟩
def dd_law : He.DefD := ⟨("law", none), "law", "law", defArgs (topS 49), defBody (topS 49), defScope (topS 49), [], []⟩
def fnL : List He.DefD := [dd_is_whole, dd_is_name, dd_kind_of, dd_is_step, dd_are_steps, dd_Style_init, dd_Style_span, dd_Style_eq, dd_Job_init, dd_Job_rank, dd_Job_eq, dd_is_night, dd_is_slot_of, dd_are_sizes, dd_are_lost, dd_Order_init, dd_Order_wants, dd_Order_eq, dd_Hall_init, dd_Hall_lost, dd_Hall_has_frame_of, dd_Hall_is_slot, dd_Hall_with_lost, dd_Hall_with_found, dd_Hall_fitting, dd_Hall_slots_of, dd_Hall_how_many, dd_Hall_eq, dd_law_mixed, dd_law_folded, dd_law_draw, dd_law_begun, dd_law_numbers, dd_law_near, dd_law_plain_hall, dd_law_plain_order, dd_law_order, dd_law_fits, dd_law_slots_right, dd_law_lost_right, dd_law_hand_right, dd_law]
def faL : List He.Fa := [.int "MOST_LETTERS" 8, .int "MOST_NUMBER" 99999, .int "MOST_HOUR" 1000000, .int "MOST_HOURS" 240, .int "MOST_STEPS" 12, .int "MOST_FRAMES" 9, .int "MOST_SIZE" 60, .int "MOST_NIGHT" 99999, .int "MOST_NIGHTS_MORE" 30, .int "MOST_LOST" 100, .int "MOST_SLOTS" 1000, .str "LETTERS" "abcdefghijklmnopqrstuvwxyz", .glo "BARRED_WORDS", .glo "KINDS", .free "all", .free "bool", .free "dict", .free "enumerate", .free "int", .free "isinstance", .free "len", .free "list", .free "max", .free "min", .free "range", .free "repr", .free "set", .free "sorted", .free "str", .free "sum", .free "tuple", .glo "Style", .cls "Style", .mkr "Style", .noat "Style" "called", .noat "Style" "step_rows", .glo "Job", .cls "Job", .mkr "Job", .noat "Job" "came", .noat "Job" "has_number", .noat "Job" "has_style", .noat "Job" "hasty", .noat "Job" "wanted", .glo "Order", .cls "Order", .mkr "Order", .noat "Order" "at_least", .noat "Order" "for_job", .noat "Order" "from_night", .noat "Order" "to_night", .glo "Hall", .cls "Hall", .mkr "Hall", .noat "Hall" "frame_sizes", .noat "Hall" "gone_at", .noat "Hall" "gone_slots", .glo "is_whole", .glo "is_name", .glo "kind_of", .glo "is_step", .glo "are_steps", .meth "Style" "span", .meth "Style" "__eq__", .meth "Job" "rank", .meth "Job" "__eq__", .glo "is_night", .glo "is_slot_of", .glo "are_sizes", .glo "are_lost", .meth "Order" "wants", .meth "Order" "__eq__", .meth "Hall" "lost", .meth "Hall" "has_frame_of", .meth "Hall" "is_slot", .meth "Hall" "with_lost", .meth "Hall" "with_found", .meth "Hall" "fitting", .meth "Hall" "slots_of", .meth "Hall" "how_many", .meth "Hall" "__eq__", .glo "_law_mixed", .glo "_law_folded", .glo "_law_draw", .glo "_law_begun", .glo "_law_numbers", .glo "_law_near", .glo "_law_plain_hall", .glo "_law_plain_order", .glo "_law_order", .glo "_law_fits", .glo "_law_slots_right", .glo "_law_lost_right", .glo "_law_hand_right", .glo "law"]
def tsL : List He.Tab := [(fun K => He.ga K "KINDS", ["sew", "glue", "cover", "letter", "press"])]
def bsL : List Ask := [fun K => He.tupB K "BARRED_WORDS" [.str "style", .str "job", .str "round", .str "sew", .str "glue", .str "cover", .str "letter", .str "press", .str "hand", .str "haste"], fun K => He.valsB K (He.ga K "KINDS") (([("sew", "hand"), ("glue", "hand"), ("cover", "hand"), ("letter", "hand"), ("press", "press")] : List (Str × Str)).map fun q => (q.1, He.Dv.str q.2)), fun K => ownB K (He.ga K "Style"), fun K => ownB K (He.ga K "Job"), fun K => ownB K (He.ga K "Order"), fun K => ownB K (He.ga K "Hall")]
abbrev RR : PySem.W.OpenRow := PySem.W.OpenLaw.row PySem.Challenge.rw_bindbench_k52_slots_that_fit
abbrev hkL : PySem.W.Hook := hookB 5 faL fnL tsL bsL
def obL (s : PySem.W.SharedT) : AlB := obsBG 5 faL fnL tsL bsL (HandSHeadRun.getT s)
theorem obL_eq (s : PySem.W.SharedT) : obL s = hkL.obs s.abs := obsBG_eq (HandSHeadRun.getT_eq s)
def looseL : List Str := (["_wall", "BadValue", "NoSuch", "TooMany", "LETTERS", "MOST_LETTERS", "MOST_NUMBER", "MOST_HOUR", "MOST_HOURS", "KINDS", "BARRED_WORDS", "is_whole", "is_name", "kind_of", "is_step", "MOST_STEPS", "are_steps", "Style", "Job", "MOST_FRAMES", "MOST_SIZE", "MOST_NIGHT", "MOST_NIGHTS_MORE", "MOST_LOST", "MOST_SLOTS", "is_night", "is_slot_of", "are_sizes", "are_lost", "Order"] : List Str) ++ (["Hall", "_law_mixed", "_law_folded", "_law_draw", "_law_begun", "_law_numbers", "_law_near", "_law_plain_hall", "_law_plain_order", "_law_order", "_law_fits", "_law_slots_right", "_law_lost_right", "_law_hand_right"] : List Str)
theorem runL_false (w : World) : HandSHeadRun.RunEq RR (PySem.W.view RR.prog [49]) hkL obL 8000 looseL (w.withFollow "special-get-raises" false) := by
  intro os
  kernel_rfl
theorem runL_true (w : World) : HandSHeadRun.RunEq RR (PySem.W.view RR.prog [49]) hkL obL 8000 looseL (w.withFollow "special-get-raises" true) := by
  intro os
  kernel_rfl
theorem runL (w : World) : HandSHeadRun.RunEq RR (PySem.W.view RR.prog [49]) hkL obL 8000 looseL w :=
  PySem.W.byRow2 "special-get-raises" (P := fun w => HandSHeadRun.RunEq RR (PySem.W.view RR.prog [49]) hkL obL 8000 looseL w) runL_false runL_true w
end Bz
section
open PySem PySem.W PySem.Calls PyProof.Rows
theorem Bz.startL (call : WalkO (view Bz.RR.prog [49]) Bz.looseL (XL (view Bz.RR.prog [49]) []) Bz.hkL.says Bz.RR.toRowW (HandSHeadRun.topDef Bz.RR.prog 49) [] fun f vs => PySem.call f vs) : PySem.Challenge.rw_bindbench_k52_slots_that_fit.Holds := by
  w_on; o_law
  refine HandSHeadRun.head_any (r := Bz.RR) (q := view Bz.RR.prog [49]) (H := Bz.hkL) (ob := Bz.obL) (M := 8000) (loose := Bz.looseL) (d := HandSHeadRun.topDef Bz.RR.prog 49) (kwd := []) Bz.obL_eq
    (by kernel_rfl) (fun s => by kernel_rfl) Bz.runL (by kernel_rfl) (by kernel_rfl) (by kernel_rfl) (by rfl) (by first | assumption | decide +kernel) (by decide +kernel) ⟨rfl, rfl, rfl, rfl, rfl, by decide +kernel⟩ ?hw ?hc
  case hw => w_witness2
  case hc => exact call
end
namespace Bz
open PySem PySem.Spec PyProof.Rows L2
set_option maxRecDepth 1500
set_option hygiene false
local macro_rules | `(tactic| tm_at "at") => `(tactic| (first | exact At.z | (apply At.s; tm_at "at")))
local macro_rules | `(tactic| tm_at "set") => `(tactic| (first | exact SetAt.z | (apply SetAt.s; tm_at "set")))
local macro_rules | `(tactic| tm_at "wiped") => `(tactic| (first | exact Wiped.nil | (apply Wiped.cons; tm_at "wiped"; tm_at "set")))
local macro_rules | `(tactic| tm_at "mem") => `(tactic| (first | exact List.Mem.head _ | (apply List.Mem.tail; tm_at "mem")))
local macro_rules | `(tactic| tm_at "put") => `(tactic| (first | exact Put.here | (apply Put.there; tm_at "put")))
local macro_rules | `(tactic| tm_at "hp") => `(tactic| (first | assumption | (refine' Is.get ?i1 ?i2; (case i1 => assumption); (case i2 => tm_at "mem")) | (refine' Is.getM ?i1 ?i2; (case i1 => assumption); (case i2 => tm_at "mem")) | (refine' Is.b ?i1 ?i2; (case i1 => assumption); (case i2 => assumption))))
local macro_rules | `(tactic| tm_at "sq") => `(tactic| (first | assumption | (refine' SqL.of ?i1; (case i1 => tm_at "hp")) | (refine' Is.sq ?i1 ?i2; (case i1 => assumption); (case i2 => assumption))))
local macro_rules | `(tactic| tm_at "st") => `(tactic| (first | assumption | (refine' SqT.of ?i1; (case i1 => tm_at "hp")) | (refine' Is.st ?i1 ?i2; (case i1 => assumption); (case i2 => assumption))))
local macro_rules | `(tactic| tm_at "arith") => `(tactic| (first | omega | decide | (simp only [List.length_map]; omega) | (simp only [List.length_cons, List.length_nil, List.length_append, List.length_map, List.length_replicate, List.length_set] <;> omega) | (simp only [List.length_cons, List.length_nil, List.length_append, List.length_map, List.length_replicate, List.length_set] at * <;> omega)))
local macro_rules | `(tactic| tm_at "kne") => `(tactic| (first | assumption | decide +kernel))
local macro_rules | `(tactic| tm_at "kget") => `(tactic| (first | exact KGet.here | (apply KGet.there; tm_at "kne"; tm_at "kget")))
local macro_rules | `(tactic| tm_at "nokey") => `(tactic| (first | exact NoKey.nil | (apply NoKey.cons; tm_at "kne"; tm_at "nokey")))
local macro_rules | `(tactic| tm_at "kput") => `(tactic| (first | (apply KPut.here; tm_at "nokey"; done) | (apply KPut.there; tm_at "kne"; tm_at "kput")))
local macro_rules | `(tactic| tm_at "snoc") => `(tactic| (first | exact Snoc.nil | (apply Snoc.cons; tm_at "snoc")))
local macro_rules | `(tactic| tm_at "mrg") => `(tactic| (first | exact Mrg.nil | (apply Mrg.str; tm_at "nokey"; tm_at "snoc"; tm_at "mrg") | (apply Mrg.int; tm_at "nokey"; tm_at "snoc"; tm_at "mrg")))
local macro_rules | `(tactic| tm_at "del") => `(tactic| (first | exact Del.here | (apply Del.there; tm_at "del")))
local macro_rules | `(tactic| tm_at "slen") => `(tactic| (first | assumption | omega | (apply plainS.len; assumption) | decide +kernel))
local macro_rules | `(tactic| tm_at "fget") => `(tactic| (first | exact FGet.here | (apply FGet.there; (case _ => decide +kernel); tm_at "fget")))
local macro_rules | `(tactic| tm_at "nof") => `(tactic| (first | exact NoF.nil | (apply NoF.cons; (case _ => decide +kernel); tm_at "nof")))
local macro_rules | `(tactic| tm_at "fput") => `(tactic| (first | exact FPut.nil | exact FPut.here | (apply FPut.there; (case _ => decide +kernel); tm_at "fput")))
local macro_rules | `(tactic| tm_at "thing") => `(tactic| first | assumption | exact Thing.same (Is.ex (by assumption)) (by assumption))
local macro_rules | `(tactic| tm_at "go1") => `(tactic| first
  | with_reducible refine' g_seq ?_
  | with_reducible refine' g_op ?_
  | ((with_reducible refine' g_var ?h1 ?_); (case h1 => tm_at "at"))
  | with_reducible refine' g_c ?_
  | with_reducible refine' g_asg ?_
  | ((with_reducible refine' g_name ?h1 ?_); (case h1 => tm_at "set"))
  | with_reducible refine' g_cons ?_
  | with_reducible refine' g_nil ?_
  | with_reducible refine' g_cl ?_
  | with_reducible refine' g_cb ?_
  | with_reducible refine' g_add_i ?_
  | with_reducible refine' g_rI0 ?_
  | with_reducible refine' g_rU ?_
  | ((with_reducible refine' g_mul_i ?h1 ?_); (case h1 => (unfold CMul; omega)))
  | ((with_reducible refine' g_pow ?h1 ?h2 ?_); (case h1 => first | decide | (unfold CPow; omega)); (case h2 => (simp only [Int.reduceToNat, Int.reducePow]; exact rfl)))
  | ((with_reducible refine' g_rI ?h1 ?_); (case h1 => first | omega | (unfold CDiv; omega) | (unfold CPow; omega) | decide | (simp only [List.length_map, List.length_cons, List.length_append]; omega)))
  | with_reducible refine' g_ifS ?_
  | with_reducible refine' g_test ?_
  | with_reducible refine' g_bl ?_
  | with_reducible refine' g_tr ?_
  | with_reducible refine' g_tru_bl ?_
  | with_reducible refine' g_tru_non ?_
  | with_reducible refine' g_true ?_
  | with_reducible refine' g_false ?_
  | with_reducible refine' g_ntrue ?_
  | with_reducible refine' g_nfalse ?_
  | with_reducible refine' g_and ?_
  | with_reducible refine' g_or ?_
  | with_reducible refine' g_not ?_
  | with_reducible refine' g_andV ?_
  | with_reducible refine' g_orV ?_
  | with_reducible refine' g_ifV ?_
  | with_reducible refine' g_notV ?_
  | with_reducible refine' g_aNot ?_
  | with_reducible refine' g_ifE ?_
  | with_reducible refine' g_chain ?_
  | with_reducible refine' g_chain3 ?_
  | with_reducible refine' g_un ?_
  | with_reducible refine' g_ret ?_
  | with_reducible refine' g_retN ?_
  | with_reducible refine' g_drop ?_
  | with_reducible refine' g_next ?_
  | with_reducible refine' g_par ?_
  | ((with_reducible refine' g_par2 ?h1 ?h2 ?_); (case h1 => tm_at "set"); (case h2 => tm_at "set"))
  | with_reducible refine' g_lst ?_
  | with_reducible refine' g_tup ?_
  | with_reducible refine' g_isNo ?_
  | ((with_reducible refine' g_isiT ?h1 ?h2 ?h3 ?_); (case h1 => tm_at "thing"); (case h2 => decide); (case h3 => decide))
  | ((with_reducible refine' g_isiF ?h1 ?h2 ?h3 ?_); (case h1 => tm_at "thing"); (case h2 => decide); (case h3 => decide))
  | ((with_reducible refine' g_isi2T ?h0 ?h1 ?h2 ?h3 ?h4 ?_); (case h0 => tm_at "hp"); (case h1 => tm_at "thing"); (case h2 => decide); (case h3 => decide); (case h4 => decide))
  | ((with_reducible refine' g_isi2F ?h0 ?h1 ?h2 ?h3 ?h4 ?_); (case h0 => tm_at "hp"); (case h1 => tm_at "thing"); (case h2 => decide); (case h3 => decide); (case h4 => decide))
  | with_reducible refine' g_noNo ?_
  | ((with_reducible refine' g_eq_s ?h1 ?_); (case h1 => rfl))
  | ((with_reducible refine' g_ne_s ?h1 ?_); (case h1 => rfl))
  | with_reducible refine' g_in_c ?_
  | with_reducible refine' g_nin_c ?_
  | with_reducible refine' g_dget ?_
  | with_reducible refine' g_dput ?_
  | with_reducible refine' g_pnil ?_
  | with_reducible refine' g_pcons ?_
  | ((with_reducible refine' g_disp ?h1 ?_); (case h1 => assumption); clear hI; intro p H hI)
  | ((with_reducible refine' g_newK ?h1 ?_); (case h1 => assumption); clear hI; intro p H hI)
  | ((with_reducible refine' g_aDisp ?h0 ?h1 ?h2 ?h3 ?h4 ?_); (case h0 => assumption); (case h1 => tm_at "hp"); (case h2 => tm_at "mrg"); (case h3 => tm_at "arith"); (case h4 => tm_at "put"); clear hI; intro H hI)
  | ((with_reducible refine' g_aDGet ?h1 ?h2 ?_); (case h1 => tm_at "hp"); (case h2 => tm_at "kget"))
  | ((with_reducible refine' g_aDPut ?h0 ?h1 ?h2 ?h3 ?h4 ?_); (case h0 => assumption); (case h1 => tm_at "hp"); (case h2 => tm_at "arith"); (case h3 => tm_at "kput"); (case h4 => tm_at "put"); clear hI; intro H hI)
  | ((with_reducible refine' g_aDPutM ?h0 ?h1 ?h2 ?h3 ?h4 ?_); (case h0 => assumption); (case h1 => tm_at "hp"); (case h2 => tm_at "arith"); (case h3 => tm_at "kput"); (case h4 => tm_at "put"); clear hI; intro H hI)
  | ((with_reducible refine' g_setL ?h0 ?h1 ?h2 ?h3 ?h4 ?_); (case h0 => assumption); (case h1 => tm_at "hp"); (case h2 => tm_at "arith"); (case h3 => tm_at "arith"); (case h4 => tm_at "put"); clear hI; intro H hI)
  | ((with_reducible refine' g_setLM ?h0 ?h1 ?h2 ?h3 ?h4 ?_); (case h0 => assumption); (case h1 => tm_at "hp"); (case h2 => tm_at "arith"); (case h3 => tm_at "arith"); (case h4 => tm_at "put"); clear hI; intro H hI)
  | ((with_reducible refine' g_len_s ?h1 ?_); (case h1 => tm_at "slen"))
  | ((with_reducible refine' g_len_l ?h1 ?_); (case h1 => tm_at "sq"))
  | ((with_reducible refine' g_len_t ?h1 ?_); (case h1 => tm_at "st"))
  | ((with_reducible refine' g_app ?h0 ?h1 ?h2 ?h3 ?_); (case h0 => assumption); (case h1 => tm_at "hp"); (case h2 => tm_at "arith"); (case h3 => tm_at "put"); clear hI; intro H hI)
  | with_reducible refine' g_sub ?_
  | with_reducible refine' g_sl ?_
  | with_reducible refine' g_noPart ?_
  | with_reducible refine' g_part ?_
  | with_reducible refine' g_aPart ?_
  | with_reducible refine' g_bm ?_
  | with_reducible refine' g_bm0 ?_
  | with_reducible refine' g_m1 ?_
  | with_reducible refine' g_isStr ?_
  | with_reducible refine' mt_tyS ?_
  | ((with_reducible refine' g_tyL ?h1 ?_); (case h1 => tm_at "hp"))
  | with_reducible refine' g_lc ?_
  | with_reducible refine' g_for ?_
  | with_reducible refine' g_iAny ?_
  | with_reducible refine' g_rng1 ?_
  | with_reducible refine' g_rng2 ?_
  | with_reducible refine' g_enumA ?_
  | ((with_reducible refine' g_aEnumL ?h1 ?_); (case h1 => tm_at "sq"))
  | ((with_reducible refine' g_aEnumT ?h1 ?_); (case h1 => tm_at "st"))
  | with_reducible refine' g_zipA ?_
  | with_reducible refine' g_zip3 ?_
  | ((with_reducible refine' g_aZip3 ?h1 ?h2 ?h3 ?_); (case h1 => tm_at "sq"); (case h2 => tm_at "sq"); (case h3 => tm_at "sq"))
  | ((with_reducible refine' g_aZipL ?h1 ?h2 ?_); (case h1 => tm_at "sq"); (case h2 => tm_at "sq"))
  | ((with_reducible refine' g_aZipT ?h1 ?h2 ?_); (case h1 => tm_at "st"); (case h2 => tm_at "st"))
  | with_reducible refine' g_par3 ?_
  | ((with_reducible refine' g_par3b ?h1 ?h2 ?h3 ?_); (case h1 => tm_at "set"); (case h2 => tm_at "set"); (case h3 => tm_at "set"))
  | with_reducible refine' g_me ?_
  | ((with_reducible refine' g_aMe ?h1 ?h2 ?_); (case h1 => tm_at "hp"); (case h2 => tm_at "nof"))
  | with_reducible refine' g_mk ?_
  | ((with_reducible refine' g_aMk ?h0 ?h1 ?h2 ?_); (case h0 => assumption); (case h1 => exact rfl); (case h2 => exact rfl); clear hI; intro x dx H hI; (dsimp only [pick, nth, List.cons_append, List.nil_append]))
  | with_reducible refine' g_fld ?_
  | ((with_reducible refine' g_aFld ?h1 ?h2 ?h3 ?h4 ?_); (case h1 => tm_at "hp"); (case h2 => assumption); (case h3 => assumption); (case h4 => tm_at "fget"))
  | with_reducible refine' g_setF ?_
  | ((with_reducible refine' g_aSetF ?h0 ?h1 ?h2 ?h3 ?h4 ?h5 ?h6 ?_); (case h0 => assumption); (case h1 => tm_at "hp"); (case h2 => assumption); (case h3 => assumption); (case h4 => tm_at "arith"); (case h5 => tm_at "fput"); (case h6 => tm_at "put"); clear hI; intro H hI)
  | ((with_reducible refine' g_aug ?h1 ?_); (case h1 => tm_at "at"))
  | ((with_reducible refine' g_set ?h1 ?_); (case h1 => tm_at "set"))
  | with_reducible refine' g_ipI ?_
  | with_reducible refine' g_max2 ?_
  | with_reducible refine' g_min2 ?_
  | ((with_reducible refine' g_tupOf ?h1 ?h2 ?_); (case h1 => assumption); (case h2 => tm_at "sq"); clear hI; intro p H hI)
  | ((with_reducible refine' g_listOfL ?h1 ?h2 ?_); (case h1 => assumption); (case h2 => tm_at "sq"); clear hI; intro p H hI)
  | ((with_reducible refine' g_listOfT ?h1 ?h2 ?_); (case h1 => assumption); (case h2 => tm_at "st"); clear hI; intro p H hI)
  | ((with_reducible refine' g_aRng1 ?h1 ?_); (case h1 => tm_at "arith"))
  | ((with_reducible refine' g_aRng2 ?h1 ?_); (case h1 => tm_at "arith"))
  | with_reducible refine' g_it_s ?_
  | ((with_reducible refine' g_it_l ?h1 ?_); (case h1 => tm_at "sq"))
  | ((with_reducible refine' g_it_t ?h1 ?_); (case h1 => tm_at "st"))
  | with_reducible refine' g_yes ?_
  | with_reducible refine' g_gCons ?_
  | ((with_reducible refine' g_gTup ?h1 ?h2 ?_); (case h1 => tm_at "st"); (case h2 => exact rfl))
  | with_reducible refine' g_gNil ?_
  | ((with_reducible refine' g_aLst ?h1 ?h2 ?_); (case h1 => assumption); (case h2 => tm_at "arith"); clear hI; intro p H hI)
  | ((with_reducible refine' g_aTup ?h1 ?h2 ?_); (case h1 => assumption); (case h2 => tm_at "arith"); clear hI; intro p H hI)
  | ((with_reducible refine' g_aCl ?h1 ?h2 ?_); (case h1 => exact rfl); (case h2 => exact rfl); (dsimp only [pick, nth, List.cons_append, List.nil_append]))
)
local macro_rules | `(tactic| tm_at "go") => `(tactic| repeat (tm_at "go1"))
local macro_rules | `(tactic| tm_at "sub") => `(tactic| (first | exact List.Sublist.refl _ | exact List.nil_sublist _ | (apply List.Sublist.cons₂; tm_at "sub") | (apply List.Sublist.cons; tm_at "sub")))
local macro_rules | `(tactic| tm_at "is") => `(tactic| (first | assumption | (refine' Is.forget ?s1 ?s2; (case s1 => assumption); (case s2 => tm_at "sub"))))
local macro_rules | `(tactic| tm_at "next") => `(tactic| (repeat (first | with_reducible refine' g_next ?_ | with_reducible refine' g_bl ?_ | with_reducible refine' g_true ?_ | with_reducible refine' g_false ?_)))
local macro_rules | `(tactic| tm_at "draw") => `(tactic| ((refine' ap_law_draw (K := K) hI hd (by omega) (by tm_at "arith") (by tm_at "arith") ?_); clear hI hd; intro r H M hr0 hr1 hI hd))
local macro_rules | `(tactic| tm_at "stop") => `(tactic| (repeat (first | with_reducible refine' g_asg ?_ | with_reducible refine' g_c ?_ | ((with_reducible refine' g_var ?h1 ?_); (case h1 => tm_at "at")) | ((with_reducible refine' g_name ?h1 ?_); (case h1 => tm_at "set")) | with_reducible refine' g_next ?_)))
local macro_rules | `(tactic| tm_at "prm") => `(tactic| (first | exact List.Perm.refl _ | (apply List.Perm.cons; tm_at "prm") | exact List.Perm.swap _ _ _ | (refine' List.Perm.trans ?p1 (List.Perm.swap _ _ _); (case p1 => apply List.Perm.cons; tm_at "prm"))))
def sp_law_mixed (K : PySem.W.Frag) : Sp := fun vs H Q _ => vs.length = 2 ∧ ∃ c k : Int, vs = [.int c, .int k] ∧ 0 ≤ k ∧ k < 2 ^ 60 ∧ ∀ r : Int, 0 ≤ r → r < 400000000 → Q (.int r) H
theorem ap_law_mixed {K : PySem.W.Frag} {H : Hp} {Q : VK} {E : XK} {c k : Int} (h0 : 0 ≤ k) (h1 : k < 2 ^ 60) (q : ∀ r : Int, 0 ≤ r → r < 400000000 → Q (.int r) H) : sp_law_mixed K [.int c, .int k] H Q E :=
  ⟨rfl, c, k, rfl, h0, h1, q⟩
/-- the state of the draws at m: at most n draws so far -/
def Dr (m : Addr) (n : Int) (B : Hp) (M : List (Addr × HO)) : Prop := ∃ (c l : Addr) (cs ls : List Int) (k : Int),
  M = [(m, .dK [(Sum.inr "cells", .ref c), (Sum.inr "left", .ref l), (Sum.inr "spot", .int k)]), (l, .lst (ls.map V.int))] ∧
  B c = some (.lst (cs.map V.int)) ∧ cs.length = 64 ∧ (∀ x ∈ cs, 0 ≤ x ∧ x < 2147483647) ∧ 0 ≤ k ∧ k ≤ n
theorem Dr.same {m : Addr} {n : Int} {B B' : Hp} {M : List (Addr × HO)} (s : Same B B') (d : Dr m n B M) : Dr m n B' M := by
  obtain ⟨c, l, cs, ls, k, h1, h2, h3⟩ := d
  exact ⟨c, l, cs, ls, k, h1, s _ _ h2, h3⟩
theorem Dr.mono {m : Addr} {n n' : Int} {B : Hp} {M : List (Addr × HO)} (h : n ≤ n') (d : Dr m n B M) : Dr m n' B M := by
  obtain ⟨c, l, cs, ls, k, h1, h2, h3, h4, h5, h6⟩ := d
  exact ⟨c, l, cs, ls, k, h1, h2, h3, h4, h5, by omega⟩
def sp_law_draw (K : PySem.W.Frag) : Sp := fun vs H Q _ => vs.length = 2 ∧ ∃ (m : Addr) (many n : Int) (B : Hp) (M L : List (Addr × HO)), vs = [.ref m, .int many] ∧ Is B M L H ∧ Dr m n B M ∧ n < 2 ^ 40 ∧ 0 < many ∧ many < 1073741824 ∧
  ∀ (r : Int) (H' : Hp) (M' : List (Addr × HO)), 0 ≤ r → r < many → Is B M' L H' → Dr m (n + 1) B M' → Q (.int r) H'
theorem ap_law_draw {K : PySem.W.Frag} {H : Hp} {Q : VK} {E : XK} {m : Addr} {many n : Int} {B : Hp} {M L : List (Addr × HO)} (I : Is B M L H) (d : Dr m n B M) (h1 : n < 2 ^ 40) (h2 : 0 < many) (h3 : many < 1073741824)
    (q : ∀ (r : Int) (H' : Hp) (M' : List (Addr × HO)), 0 ≤ r → r < many → Is B M' L H' → Dr m (n + 1) B M' → Q (.int r) H') : sp_law_draw K [.ref m, .int many] H Q E :=
  ⟨rfl, m, many, n, B, M, L, rfl, I, d, h1, h2, h3, q⟩
abbrev t_law_mixed_0 (K : PySem.W.Frag) : TS := (tRet (tOp (rI CDiv fun i j => .int (i / j)) (tOp (rI (fun _ j => 0 < j) fun i j => .int (i % j)) (tOp rMulA (tVar 2) (tC (.int 69621))) (tC (.int 2147483629))) (tC (.int 7))))
def t_law_mixed (K : PySem.W.Frag) : TS := (tSeq (tAsg (tOp (rAddA K) (tOp (rAddA K) (tOp (rI (fun _ j => 0 < j) fun i j => .int (i % j)) (tOp rMulA (tOp rMulA (tVar 0) (tOp (rAddA K) (tC (.int 1)) (tOp rMulA (tC (.int 2)) (tVar 1)))) (tC (.int 48271))) (tC (.int 2147483647))) (tOp rMulA (tOp rMulA (tC (.int 7919)) (tVar 1)) (tVar 1))) (tOp rMulA (tC (.int 104729)) (tVar 1))) (gName 2)) (t_law_mixed_0 K))
theorem rd_law_mixed {K : PySem.W.Frag} (vs : List V) (H : Hp) (Q : VK) (E : XK) (h : sp_law_mixed K vs H Q E) : t_law_mixed K { nx := fun _ H' => Q .non H', rt := Q } (start ["cell", "k", "turned"] vs) H := by
  obtain ⟨_, c, k, rfl, h0, h1, q⟩ := h
  show t_law_mixed K ⟨_, _, _, _⟩ [some (.int c), some (.int k), none] H
  unfold t_law_mixed
  tm_at "go"
  exact q _ (by omega) (by omega)
theorem ints_get {ns : List Int} {i : Nat} (h : i < ns.length) : (ns.map V.int)[i]? = some (.int (ns[i])) := by simp [h]
theorem dp_ints {K : PySem.W.Frag} {H : Hp} : ∀ ns : List Int, DpAll K H (ns.map V.int) (ns.map PyData.int)
  | [] => .nil
  | n :: ns => .cons (.int n) (dp_ints ns)
abbrev t_law_draw_0 (K : PySem.W.Frag) : TS := (tRet (tOp (rI (fun _ j => 0 < j) fun i j => .int (i % j)) (tVar 4) (tVar 1)))
abbrev t_law_draw_1 (K : PySem.W.Frag) : TS := (tIfS (tTest (tOp (rI0 fun i j => .bl (decide (j < i))) (tVar 4) (tC (.int 0)))) (tSeq (tAsg (tOp (rI CDiv fun i j => .int (i / j)) (tVar 4) (tVar 1)) (gSub (tDGet (tVar 0) (tC (.str "left"))) (tVar 3) rSetL)) (t_law_draw_0 K)) tNext)
abbrev t_law_draw_2 (K : PySem.W.Frag) : TS := (tSeq (tAsg (tOp (rIx K) (tDGet (tVar 0) (tC (.str "left"))) (tVar 3)) (gName 4)) (t_law_draw_1 K))
abbrev t_law_draw_3 (K : PySem.W.Frag) : TS := (tRet (tOp (rI (fun _ j => 0 < j) fun i j => .int (i % j)) (tCl 2 0 (sp_law_mixed K) (fun vs zs => pick .non [0, 1] (vs ++ zs)) E0 (tCons (tCl 2 0 (sp_law_mixed K) (fun vs zs => pick .non [0, 1] (vs ++ zs)) E0 (tCons (tOp (rAddA K) (tOp (rIx K) (tDGet (tVar 0) (tC (.str "cells"))) (tOp (rI (fun _ j => 0 < j) fun i j => .int (i % j)) (tVar 2) (tC (.int 64)))) (tOp rMulA (tC (.int 31)) (tOp (rI CDiv fun i j => .int (i / j)) (tVar 2) (tC (.int 64))))) (tCons (tVar 2) tNil)) tNil) (tCons (tOp (rAddA K) (tVar 2) (tC (.int 7))) tNil)) tNil) (tVar 1)))
abbrev t_law_draw_4 (K : PySem.W.Frag) : TS := (tSeq (tIfS (tTest (tOp (rNeA K) (tDGet (tVar 0) (tC (.str "left"))) (tLst tNil))) (tSeq (tAsg (tOp (rI (fun _ j => 0 < j) fun i j => .int (i % j)) (tVar 2) (tCB (rLen K) (tCons (tDGet (tVar 0) (tC (.str "left"))) tNil))) (gName 3)) (t_law_draw_2 K)) tNext) (t_law_draw_3 K))
abbrev t_law_draw_5 (K : PySem.W.Frag) : TS := (tSeq (sDPut (tVar 0) (tC (.str "spot")) (tOp (rAddA K) (tVar 2) (tC (.int 1)))) (t_law_draw_4 K))
def t_law_draw (K : PySem.W.Frag) : TS := (tSeq (tAsg (tDGet (tVar 0) (tC (.str "spot"))) (gName 2)) (t_law_draw_5 K))
theorem rd_law_draw {K : PySem.W.Frag} (vs : List V) (H : Hp) (Q : VK) (E : XK) (h : sp_law_draw K vs H Q E) : t_law_draw K { nx := fun _ H' => Q .non H', rt := Q } (start ["m", "many", "k", "spot", "cell"] vs) H := by
  obtain ⟨_, m, many, n, B, M, L, rfl, hI, ⟨c, l, cs, ls, k, rfl, hc, hcs, hb, hk0, hkn⟩, h1, h2, h3, q⟩ := h
  show t_law_draw K ⟨_, _, _, _⟩ [some (.ref m), some (.int many), none, none, none] H
  unfold t_law_draw
  tm_at "go"
  refine g_ne_d (.lst (by tm_at "sq") (dp_ints ls)) (.lst (xs := []) (by tm_at "sq") .nil) (PySem.W.ke_shaped_ints ls) rfl ?_
  tm_at "go"
  -- the last row: by the cells
  have last : ∀ (H : Hp) (x y : Option V), Is B [(m, HO.dK [(Sum.inr "cells", V.ref c), (Sum.inr "left", V.ref l), (Sum.inr "spot", V.int (k + 1))]), (l, HO.lst (List.map V.int ls))] ((p, HO.lst []) :: L) H →
      t_law_draw_3 K ⟨fun _ H' => Q .non H', Q, fun _ _ => False, fun _ _ => False⟩ [some (V.ref m), some (V.int many), some (V.int k), x, y] H := by
    intro H x y hI
    tm_at "go"
    have hk : (k % 64).toNat < cs.length := by omega
    refine g_ix_l (by tm_at "sq") (atI_of (by omega) (ints_get hk)) ?_
    tm_at "go"
    refine' ap_law_mixed (K := K) (by omega) (by omega) ?_
    intro r hr0 hr1
    tm_at "go"
    refine' ap_law_mixed (K := K) (by omega) (by omega) ?_
    intro r2 hr2 hr3
    tm_at "go"
    exact q _ _ _ (Int.emod_nonneg _ (by omega)) (Int.emod_lt_of_pos _ h2) (by tm_at "is") ⟨c, l, cs, ls, k + 1, rfl, hc, hcs, hb, by omega, by omega⟩
  cases ls with
  | nil =>
    refine g_nb (fun e => ?_) (fun e => ?_)
    · simp [PyData.eqv, PyData.eqvAll] at e
    · exact g_next (last _ _ _ hI)
  | cons z zs =>
    refine g_nb (fun e => ?_) (fun e => ?_)
    · tm_at "go"
      have hp : 0 < ((z :: zs).length : Int) := by simp only [List.length_cons]; omega
      have hlt := Int.emod_lt_of_pos k hp
      have hge := Int.emod_nonneg k (by omega : ((z :: zs).length : Int) ≠ 0)
      rw [List.length_map]
      generalize hi : k % ((z :: zs).length : Int) = i at *
      have hk : i.toNat < (z :: zs).length := by omega
      refine g_ix_l (by tm_at "sq") (atI_of hge (ints_get hk)) ?_
      tm_at "go"
      refine g_dec (fun h => ?_) (fun h => ?_)
      · tm_at "go"
        refine q _ _ _ (Int.emod_nonneg _ (by omega)) (Int.emod_lt_of_pos _ h2) (by tm_at "is") ⟨c, l, cs, (z :: zs).set i.toNat ((z :: zs)[i.toNat] / many), k + 1, ?_, hc, hcs, hb, by omega, by omega⟩
        rw [List.map_set]
      · tm_at "next"
        exact last _ _ _ hI
    · simp [PyData.eqv, PyData.eqvAll] at e
def sp_law_folded (K : PySem.W.Frag) : Sp := fun vs H Q _ => vs.length = 1 ∧ ∃ (a : Addr) (ns : List Int) (B : Hp) (M L : List (Addr × HO)), vs = [.ref a] ∧ Is B M L H ∧ SqL K B a (ns.map V.int) ∧ ns.length ≤ 63 ∧
  ∀ (p : Addr) (cs : List Int) (H' : Hp), cs.length = 64 → (∀ x ∈ cs, 0 ≤ x ∧ x < 2147483647) → Is B M ((p, .lst (cs.map V.int)) :: L) H' → Q (.ref p) H'
abbrev t_law_folded_0 (K : PySem.W.Frag) : TS := (tAsg (tOp (rI (fun _ j => 0 < j) fun i j => .int (i % j)) (tOp (rAddA K) (tOp rMulA (tOp (rIx K) (tVar 1) (tOp (rI (fun _ j => 0 < j) fun i j => .int (i % j)) (tVar 2) (tC (.int 64)))) (tC (.int 48271))) (tVar 3)) (tC (.int 2147483647))) (gSub (tVar 1) (tOp (rI (fun _ j => 0 < j) fun i j => .int (i % j)) (tVar 2) (tC (.int 64))) rSetL))
abbrev t_law_folded_1 (K : PySem.W.Frag) : TS := (tAsg (tOp (rI (fun _ j => 0 < j) fun i j => .int (i % j)) (tOp (rAddA K) (tOp (rIx K) (tVar 1) (tVar 2)) (tOp rMulA (tOp (rIx K) (tVar 1) (tOp (rI0 fun i j => .int (i - j)) (tVar 2) (tC (.int 1)))) (tC (.int 16807)))) (tC (.int 2147483647))) (gSub (tVar 1) (tVar 2) rSetL))
abbrev t_law_folded_2 (K : PySem.W.Frag) : TS := (tRet (tVar 1))
abbrev t_law_folded_3 (K : PySem.W.Frag) : TS := (tSeq (tFor (iRng2 (tCons (tC (.int 1)) (tCons (tC (.int 64)) tNil))) (gName 2) (t_law_folded_1 K)) (t_law_folded_2 K))
abbrev t_law_folded_4 (K : PySem.W.Frag) : TS := (tSeq (tFor (iEnumA K (tCons (tVar 0) tNil)) (gTup K 2 (gCons (gName 2) (gCons (gName 3) gNil))) (t_law_folded_0 K)) (t_law_folded_3 K))
def t_law_folded (K : PySem.W.Frag) : TS := (tSeq (tAsg (tLc (iRng1 (tCons (tC (.int 64)) tNil)) (gName 2) tYes (tOp (rAddA K) (tC (.int 17)) (tVar 2)) [2]) (gName 1)) (t_law_folded_4 K))
theorem rd_law_folded {K : PySem.W.Frag} (vs : List V) (H : Hp) (Q : VK) (E : XK) (h : sp_law_folded K vs H Q E) : t_law_folded K { nx := fun _ H' => Q .non H', rt := Q } (start ["script", "found", "k", "cell"] vs) H := by
  obtain ⟨_, a, ns, B, M, L, rfl, hI, ha, hl, q⟩ := h
  show t_law_folded K ⟨_, _, _, _⟩ [some (.ref a), none, none, none] H
  unfold t_law_folded
  tm_at "go"
  refine' g_aLc walk_range hI (by tm_at "wiped") (by decide) (fun i acc B' M' => B' = B ∧ M' = M ∧ ∃ cs : List Int, acc = cs.map V.int ∧ cs.length = i ∧ ∀ x ∈ cs, 0 ≤ x ∧ x < 2147483647) ⟨rfl, rfl, [], rfl, rfl, fun x hx => by cases hx⟩ (fun _ _ _ _ _ _ _ _ _ _ => trivial) ?_ ?_
  · rintro i x acc B' M' D H' H'' hi s hI' ⟨rfl, rfl, cs, rfl, hl, hb⟩ ⟨rfl, rfl⟩ hz
    tm_at "go"
    refine' g_wiped (by tm_at "wiped") ?_
    tm_at "go"
    refine' lcY s hI' hz ⟨rfl, rfl, cs ++ [17 + (0 + (i : Int))], by simp, by simp [hl], ?_⟩
    intro y hy
    rcases List.mem_append.mp hy with e | e
    · exact hb y e
    · rw [List.mem_singleton.mp e]
      have : i < 64 := hi
      omega
  rintro acc B' M' p H' s hI ⟨rfl, rfl, cs, rfl, hcl, hcb⟩ _
  have hcl : cs.length = 64 := hcl
  tm_at "go"
  -- for k, cell in enumerate(script)
  refine' g_aFor walk_enum (fun i σ H => ∃ (x y : Option V) (cs : List Int), σ = [some (.ref a), some (.ref p), x, y] ∧ Is B' M' ((p, .lst (cs.map V.int)) :: L) H ∧ cs.length = 64 ∧ ∀ x ∈ cs, 0 ≤ x ∧ x < 2147483647)
    ⟨_, _, cs, rfl, hI, hcl, hcb⟩ (fun i σ H _ ⟨_, _, cs, _, hI, _⟩ => Is.sq hI ha) ?_ ?_
  · rintro i x σ H H' hi ⟨x0, y0, cs, rfl, hI, hcl, hcb⟩ ⟨T, y, z, rfl, hT, rfl, e1, e2⟩
    cases e1
    have hin : i < ns.length := by rwa [List.length_map] at hi
    have e2 : (ns.map V.int)[i]? = some z := e2
    rw [ints_get hin] at e2
    cases e2
    have hI := hI.new (o := .tup [V.int (i : Int), V.int ns[i]]) hT
    tm_at "go"
    have hk : ((i : Int) % 64).toNat < cs.length := by omega
    refine g_ix_l (by tm_at "sq") (atI_of (by omega) (ints_get hk)) ?_
    have hv := hcb _ (List.getElem_mem hk)
    tm_at "go"
    refine' ⟨_, _, cs.set ((i : Int) % 64).toNat ((cs[((i : Int) % 64).toNat] * 48271 + ns[i]) % 2147483647), rfl, ?_, by simpa using hcl, ?_⟩
    · rw [List.map_set]
      exact hI.forget (by tm_at "sub")
    · intro x hx
      rcases List.mem_or_eq_of_mem_set hx with e | e
      · exact hcb x e
      · rw [e]
        omega
  rintro σ H ⟨x0, y0, cs, rfl, hI, hcl, hcb⟩
  tm_at "go"
  -- for k in range(1, 64)
  refine' g_aFor walk_range (fun i σ H => ∃ (x y : Option V) (cs : List Int), σ = [some (.ref a), some (.ref p), x, y] ∧ Is B' M' ((p, .lst (cs.map V.int)) :: L) H ∧ cs.length = 64 ∧ ∀ x ∈ cs, 0 ≤ x ∧ x < 2147483647)
    ⟨_, _, cs, rfl, hI, hcl, hcb⟩ (fun _ _ _ _ _ => trivial) ?_ ?_
  · rintro i x σ H H' hi ⟨x0, y0, cs, rfl, hI, hcl, hcb⟩ ⟨rfl, rfl⟩
    have hi : i < 63 := hi
    tm_at "go"
    have hk : (1 + (i : Int)).toNat < cs.length := by omega
    have hk1 : (1 + (i : Int) - 1).toNat < cs.length := by omega
    refine g_ix_l (by tm_at "sq") (atI_of (by omega) (ints_get hk)) ?_
    have hv := hcb _ (List.getElem_mem hk)
    tm_at "go"
    refine g_ix_l (by tm_at "sq") (atI_of (by omega) (ints_get hk1)) ?_
    have hv1 := hcb _ (List.getElem_mem hk1)
    tm_at "go"
    refine' ⟨_, _, cs.set (1 + (i : Int)).toNat ((cs[(1 + (i : Int)).toNat] + cs[(1 + (i : Int) - 1).toNat] * 16807) % 2147483647), rfl, ?_, by simpa using hcl, ?_⟩
    · rw [List.map_set]
      exact hI.forget (by tm_at "sub")
    · intro x hx
      rcases List.mem_or_eq_of_mem_set hx with e | e
      · exact hcb x e
      · rw [e]
        omega
  rintro σ H ⟨x0, y0, cs, rfl, hI, hcl, hcb⟩
  tm_at "go"
  exact q p cs H hcl hcb hI
def sp_law_begun (K : PySem.W.Frag) : Sp := fun vs H Q _ => vs.length = 1 ∧ ∃ (a : Addr) (ns : List Int) (B : Hp) (L : List (Addr × HO)), vs = [.ref a] ∧ Is B [] L H ∧ SqL K B a (ns.map V.int) ∧ ns.length ≤ 63 ∧
  ∀ (m : Addr) (B' : Hp) (M' : List (Addr × HO)) (H' : Hp), Same B B' → Is B' M' L H' → Dr m 0 B' M' → Q (.ref m) H'
abbrev t_law_begun_0 (K : PySem.W.Frag) : TS := (tRet (tVar 1))
abbrev t_law_begun_1 (K : PySem.W.Frag) : TS := (tSeq (sDPut (tVar 1) (tC (.str "left")) (tLc (iAny K (tVar 0)) (gName 2) tYes (tIf (tTest (tOp (rI0 fun i j => .bl (decide (j ≤ i))) (tVar 2) (tOp (rI CPow fun i j => .int (i ^ j.toNat)) (tC (.int 10)) (tC (.int 18))))) (tVar 2) (tC (.int 0))) [2])) (t_law_begun_0 K))
def t_law_begun (K : PySem.W.Frag) : TS := (tSeq (tAsg (tDisp [((tC (.str "cells")), (tCl 1 0 (sp_law_folded K) (fun vs zs => pick .non [0] (vs ++ zs)) E0 (tCons (tVar 0) tNil) tNil)), ((tC (.str "left")), (tLst tNil)), ((tC (.str "spot")), (tC (.int 0)))]) (gName 1)) (t_law_begun_1 K))
theorem rd_law_begun {K : PySem.W.Frag} (vs : List V) (H : Hp) (Q : VK) (E : XK) (h : sp_law_begun K vs H Q E) : t_law_begun K { nx := fun _ H' => Q .non H', rt := Q } (start ["script", "m", "cell"] vs) H := by
  obtain ⟨_, a, ns, B, L, rfl, hI, ha, hl, q⟩ := h
  show t_law_begun K ⟨_, _, _, _⟩ [some (.ref a), none, none] H
  unfold t_law_begun
  tm_at "go"
  revert p
  intro m hI
  refine' ⟨rfl, a, ns, B, [], _, rfl, hI, ha, hl, ?_⟩
  clear hI
  intro c cs H hcs hcb hI
  tm_at "go"
  refine' g_aLc walk_list hI (by tm_at "wiped") (by rw [List.length_map]; omega) (fun i acc B' M' => B' = B ∧ M' = [] ∧ ∃ ls : List Int, acc = ls.map V.int) ⟨rfl, rfl, [], rfl⟩ (fun _ _ _ _ _ _ _ s hI' _ => Is.sq hI' (Same.seq s ha)) ?_ ?_
  · rintro i x acc B' M' D H' H'' hi s hI' ⟨rfl, rfl, ls, rfl⟩ ⟨rfl, hx⟩ hz
    have hin : i < ns.length := by rwa [List.length_map] at hi
    rw [ints_get hin] at hx
    cases hx
    tm_at "go"
    refine' g_wiped (by tm_at "wiped") ?_
    tm_at "go"
    refine g_dec (fun h => ?_) (fun h => ?_)
    · tm_at "go"
      exact lcY s hI' hz ⟨rfl, rfl, ls ++ [ns[i]], by simp⟩
    · tm_at "go"
      exact lcY s hI' hz ⟨rfl, rfl, ls ++ [0], by simp⟩
  rintro acc B' M' l H' s hI ⟨rfl, rfl, ls, rfl⟩ _
  tm_at "go"
  have hI := hI.pull (a := l) (by tm_at "del")
  have hI := hI.pull (a := m) (by tm_at "del")
  refine' hI.give (a := c) (by tm_at "del") ?_
  clear hI
  intro B2 s2 hc hI
  exact q m B2 _ _ s2 (by tm_at "is") ⟨c, l, cs, ls, 0, rfl, hc, hcs, hcb, by omega, by omega⟩
def Ints (lo hi : Int) (xs : List V) : Prop := ∀ x ∈ xs, ∃ w, x = .int w ∧ lo ≤ w ∧ w ≤ hi
theorem Ints.nil {lo hi : Int} : Ints lo hi [] := fun _ h => by cases h
theorem Ints.cons {lo hi w : Int} {xs : List V} (h : lo ≤ w ∧ w ≤ hi) (t : Ints lo hi xs) : Ints lo hi (.int w :: xs) := fun x hx => by
  rcases List.mem_cons.mp hx with e | e
  · exact ⟨w, e, h⟩
  · exact t x e
theorem g_ix_ints {K : PySem.W.Frag} {H : Hp} {Q : VK} {a : Addr} {xs : List V} {i lo hi : Int} (hs : SqL K H a xs) (h : Ints lo hi xs) (h0 : 0 ≤ i) (h1 : i < (xs.length : Int)) (q : ∀ w, lo ≤ w → w ≤ hi → Q (.int w) H) : rIx K (.ref a) (.int i) H Q := by
  have hl : i.toNat < xs.length := by omega
  obtain ⟨w, e, s1, s2⟩ := h _ (List.getElem_mem hl)
  exact g_ix_l hs (atI_of h0 (by rw [List.getElem?_eq_getElem hl, e])) (q w s1 s2)
inductive Kn where
  | non | bl | int | str | lst | tup | dct | obj
  deriving DecidableEq
def Kn.is : Kn → String → Bool
  | .bl, T => T == "bool" || T == "int"
  | .int, T => T == "int"
  | .str, T => T == "str"
  | .lst, T => T == "list"
  | .tup, T => T == "tuple"
  | _, _ => false
abbrev TYS : List String := ["int", "bool", "str", "list", "tuple"]
def Kn.fits (k : Kn) : V → Prop
  | .non => k = .non
  | .bl _ => k = .bl
  | .int _ => k = .int
  | .str z => k = .str ∧ plainS z
  | .ref _ => k = .lst ∨ k = .tup ∨ k = .dct ∨ k = .obj
  | _ => False
structure Thing (K : PySem.W.Frag) (H : Hp) (x : V) (k : Kn) : Prop where
  ty : ∃ t, TyX K H x t ∧ ∀ T ∈ TYS, PySem.W.kitOne K t (.type T) = some (k.is T)
  fit : k.fits x
theorem TyX.same {K : PySem.W.Frag} {H H' : Hp} {x : V} {t : Value} (s : Same H H') (h : TyX K H x t) : TyX K H' x t := by
  cases h with
  | base b =>
    refine .base ?_
    cases b with
    | non => exact .non
    | bl y => exact .bl y
    | int i => exact .int i
    | str y => exact .str y
    | flt y => exact .flt y
    | lst e => exact .lst (s _ _ e)
    | frz e => exact .frz (s _ _ e)
    | tup e => exact .tup (s _ _ e)
    | dK e => exact .dK (s _ _ e)
    | dT e => exact .dT (s _ _ e)
    | ins e a b c d f => exact .ins (s _ _ e) a b c d f
  | byt b => exact .byt b
  | set e => exact .set (s _ _ e)
  | kList e c => exact .kList e c
  | kTuple e c => exact .kTuple e c
  | kDict e c => exact .kDict e c
  | fTuple e => exact .fTuple (s _ _ e)
  | fDict e => exact .fDict (s _ _ e)
theorem Thing.same {K : PySem.W.Frag} {H H' : Hp} {x : V} {k : Kn} (s : Same H H') (h : Thing K H x k) : Thing K H' x k := by
  obtain ⟨⟨t, h1, h2⟩, f⟩ := h
  exact ⟨⟨t, TyX.same s h1, h2⟩, f⟩
theorem tys_mem {p : String → Prop} (h : p "int" ∧ p "bool" ∧ p "str" ∧ p "list" ∧ p "tuple") : ∀ T ∈ TYS, p T := by
  intro T hT
  obtain ⟨h1, h2, h3, h4, h5⟩ := h
  rcases List.mem_cons.mp hT with rfl | hT
  · exact h1
  rcases List.mem_cons.mp hT with rfl | hT
  · exact h2
  rcases List.mem_cons.mp hT with rfl | hT
  · exact h3
  rcases List.mem_cons.mp hT with rfl | hT
  · exact h4
  rcases List.mem_cons.mp hT with rfl | hT
  · exact h5
  cases hT
section
variable {K : PySem.W.Frag} {H : Hp} {a : Addr} {xs : List V}
theorem thing_bl (b : Bool) : Thing K H (.bl b) .bl := ⟨⟨_, .base (.bl b), tys_mem ⟨kit_ty (by decide +kernel), kit_ty (by decide +kernel), kit_ty (by decide +kernel), kit_ty (by decide +kernel), kit_ty (by decide +kernel)⟩⟩, rfl⟩
theorem thing_int (i : Int) : Thing K H (.int i) .int := ⟨⟨_, .base (.int i), tys_mem ⟨kit_ty (by decide +kernel), kit_ty (by decide +kernel), kit_ty (by decide +kernel), kit_ty (by decide +kernel), kit_ty (by decide +kernel)⟩⟩, rfl⟩
theorem thing_str {z : Str} (h : plainS z) : Thing K H (.str z) .str := ⟨⟨_, .base (.str z), tys_mem ⟨kit_ty (by decide +kernel), kit_ty (by decide +kernel), kit_ty (by decide +kernel), kit_ty (by decide +kernel), kit_ty (by decide +kernel)⟩⟩, rfl, h⟩
theorem kit_list : ∀ T ∈ TYS, PySem.W.kitOne K (.type "list") (.type T) = some (Kn.lst.is T) := tys_mem ⟨kit_ty (by decide +kernel), kit_ty (by decide +kernel), kit_ty (by decide +kernel), kit_ty (by decide +kernel), kit_ty (by decide +kernel)⟩
theorem kit_tuple : ∀ T ∈ TYS, PySem.W.kitOne K (.type "tuple") (.type T) = some (Kn.tup.is T) := tys_mem ⟨kit_ty (by decide +kernel), kit_ty (by decide +kernel), kit_ty (by decide +kernel), kit_ty (by decide +kernel), kit_ty (by decide +kernel)⟩
theorem thing_lst (h : H a = some (.lst xs)) : Thing K H (.ref a) .lst := ⟨⟨_, .base (.lst h), kit_list⟩, .inl rfl⟩
theorem thing_tup (h : H a = some (.tup xs)) : Thing K H (.ref a) .tup := ⟨⟨_, .base (.tup h), kit_tuple⟩, .inr (.inl rfl)⟩
theorem g_isi {x : V} {k : Kn} {T : String} {Q : VK} (h : Thing K H x k) (hT : T ∈ TYS) (q : Q (.bl (k.is T)) H) : rIsi K [x, .ty T] H Q := by
  obtain ⟨⟨t, h1, h2⟩, _⟩ := h
  exact ⟨x, .ty T, t, _, _, rfl, .ty T, h1, h2 T hT, q⟩
theorem g_isiT {x : V} {k : Kn} {T : String} {Q : VK} (h : Thing K H x k) (hT : T ∈ TYS) (e : k.is T = true) (q : Q (.bl true) H) : rIsi K [x, .ty T] H Q := g_isi h hT (by rw [e]; exact q)
theorem g_isiF {x : V} {k : Kn} {T : String} {Q : VK} (h : Thing K H x k) (hT : T ∈ TYS) (e : k.is T = false) (q : Q (.bl false) H) : rIsi K [x, .ty T] H Q := g_isi h hT (by rw [e]; exact q)
theorem kit_of {t : Value} {k : Kn} {T : String} (h : ∀ T ∈ TYS, PySem.W.kitOne K t (.type T) = some (k.is T)) (hT : T ∈ TYS) : PySem.W.kitOne K t (.type T) = some (k.is T) := h T hT
/-- isinstance of one of two -/
theorem g_isi2 {x : V} {k : Kn} {T1 T2 : String} {tp : Addr} {Q : VK} (ht : H tp = some (.tup [.ty T1, .ty T2])) (h : Thing K H x k) (m1 : T1 ∈ TYS) (m2 : T2 ∈ TYS) (q : Q (.bl (k.is T1 || k.is T2)) H) : rIsiT K [x, .ref tp] H Q := by
  obtain ⟨⟨t, h1, h2⟩, _⟩ := h
  refine ⟨x, tp, _, t, _, k.is T1 || k.is T2, rfl, ht, .cons (.ty T1) (.cons (.ty T2) .nil), h1, ?_, q⟩
  refine kitAny_cons (kit_of h2 m1) (fun e => ?_) (fun e => by rw [e]; rfl)
  rw [e, Bool.false_or]
  exact kitAny_cons (kit_of h2 m2) (fun e => by rw [e]; rfl) (fun e => e)
theorem g_isi2T {x : V} {k : Kn} {T1 T2 : String} {tp : Addr} {Q : VK} (ht : H tp = some (.tup [.ty T1, .ty T2])) (h : Thing K H x k) (m1 : T1 ∈ TYS) (m2 : T2 ∈ TYS) (e : (k.is T1 || k.is T2) = true) (q : Q (.bl true) H) : rIsiT K [x, .ref tp] H Q := g_isi2 ht h m1 m2 (by rw [e]; exact q)
theorem g_isi2F {x : V} {k : Kn} {T1 T2 : String} {tp : Addr} {Q : VK} (ht : H tp = some (.tup [.ty T1, .ty T2])) (h : Thing K H x k) (m1 : T1 ∈ TYS) (m2 : T2 ∈ TYS) (e : (k.is T1 || k.is T2) = false) (q : Q (.bl false) H) : rIsiT K [x, .ref tp] H Q := g_isi2 ht h m1 m2 (by rw [e]; exact q)
theorem Thing.cases {x : V} {k : Kn} (h : Thing K H x k) {G : Prop} (h1 : x = .non → k = .non → G) (h2 : ∀ b, x = .bl b → k = .bl → G) (h3 : ∀ i, x = .int i → k = .int → G) (h4 : ∀ z, x = .str z → k = .str → plainS z → G)
    (h5 : ∀ a, x = .ref a → (k = .lst ∨ k = .tup ∨ k = .dct ∨ k = .obj) → G) : G := by
  have f := h.fit
  cases x with
  | non => exact h1 rfl f
  | bl b => exact h2 b rfl f
  | int i => exact h3 i rfl f
  | str z => exact h4 z rfl f.1 f.2
  | ref a => exact h5 a rfl f
  | _ => exact f.elim
theorem Kn.noInt {k : Kn} (h : k = .lst ∨ k = .tup ∨ k = .dct ∨ k = .obj) : k.is "int" = false ∧ k.is "bool" = false ∧ k.is "str" = false := by
  rcases h with rfl | rfl | rfl | rfl <;> decide
end
def isWhole (x : V) (lo hi : Int) : Bool := match x with
  | .int n => decide (lo ≤ n) && decide (n ≤ hi)
  | _ => false
def sp_is_whole (K : PySem.W.Frag) : Sp := fun vs H Q _ => vs.length = 3 ∧ ∃ (x : V) (k : Kn) (lo hi : Int), vs = [x, .int lo, .int hi] ∧ Thing K H x k ∧ Q (.bl (isWhole x lo hi)) H
def t_is_whole (K : PySem.W.Frag) : TS := (tRet (tAndV (tCB (rIsi K) (tCons (tVar 0) (tCons (tC (.ty "int")) tNil))) (tAndV (tNotV (tCB (rIsi K) (tCons (tVar 0) (tCons (tC (.ty "bool")) tNil)))) (tChain (rI0 fun i j => .bl (decide (i ≤ j))) (rI0 fun i j => .bl (decide (i ≤ j))) (tVar 1) (tVar 0) (tVar 2)))))
theorem rd_is_whole {K : PySem.W.Frag} (vs : List V) (H : Hp) (Q : VK) (E : XK) (h : sp_is_whole K vs H Q E) : t_is_whole K { nx := fun _ H' => Q .non H', rt := Q } (start ["thing", "least", "most"] vs) H := by
  obtain ⟨_, x, k, lo, hi, rfl, hx, q⟩ := h
  show t_is_whole K ⟨_, _, _, _⟩ [some x, some (.int lo), some (.int hi)] H
  unfold t_is_whole
  tm_at "go"
  refine hx.cases ?_ ?_ ?_ ?_ ?_
  · rintro rfl rfl
    tm_at "go"
    exact q
  · rintro b rfl rfl
    tm_at "go"
    exact q
  · rintro n rfl rfl
    tm_at "go"
    refine g_dec (fun h => ?_) (fun h => ?_)
    · tm_at "go"
      have e : isWhole (.int n) lo hi = decide (n ≤ hi) := by
        show (decide (lo ≤ n) && decide (n ≤ hi)) = _
        rw [decide_eq_true h, Bool.true_and]
      rw [e] at q
      exact q
    · tm_at "go"
      have e : isWhole (.int n) lo hi = false := by
        show (decide (lo ≤ n) && decide (n ≤ hi)) = _
        rw [decide_eq_false h, Bool.false_and]
      rw [e] at q
      exact q
  · rintro z rfl rfl hp
    tm_at "go"
    exact q
  · rintro a rfl hk
    refine g_isiF hx (by decide) (Kn.noInt hk).1 ?_
    tm_at "go"
    exact q
def letS : Str := "abcdefghijklmnopqrstuvwxyz"
def barVs : List V := [.str "style", .str "job", .str "round", .str "sew", .str "glue", .str "cover", .str "letter", .str "press", .str "hand", .str "haste"]
def isName (x : V) : Bool := match x with
  | .str z => decide (1 ≤ (z.length : Int)) && (decide ((z.length : Int) ≤ 8) && (!inV (.str z) barVs && z.cps.toList.all fun c => decide (c ∈ letS.cps.toList)))
  | _ => false
def sp_is_name (K : PySem.W.Frag) : Sp := fun vs H Q _ => vs.length = 1 ∧ ∃ (x : V) (k : Kn) (B : Hp) (M L : List (Addr × HO)), vs = [x] ∧ Is B M L H ∧ Thing K H x k ∧ ∀ H', Is B M L H' → Q (.bl (isName x)) H'
abbrev t_is_name_0 (K : PySem.W.Frag) : TS := (tRet (tCB (rAll K) (tCons (tLc (iAny K (tVar 0)) (gName 1) tYes (tOp (rInA K) (tVar 1) (tC (.str "abcdefghijklmnopqrstuvwxyz"))) [1]) tNil)))
def t_is_name (K : PySem.W.Frag) : TS := (tSeq (tIfS (tOr (tNot (tTr K (tCB (rIsi K) (tCons (tVar 0) (tCons (tC (.ty "str")) tNil))))) (tOr (tNot (tTest (tChain (rI0 fun i j => .bl (decide (i ≤ j))) (rI0 fun i j => .bl (decide (i ≤ j))) (tC (.int 1)) (tCB (rLen K) (tCons (tVar 0) tNil)) (tC (.int 8))))) (tTest (tOp (rInA K) (tVar 0) (tC (.ref (He.ga K "BARRED_WORDS"))))))) (tRet (tC (.bl false))) tNext) (t_is_name_0 K))
theorem rd_is_name {K : PySem.W.Frag} (hbar : ∀ H, SqT K H (He.ga K "BARRED_WORDS") barVs) (vs : List V) (H : Hp) (Q : VK) (E : XK) (h : sp_is_name K vs H Q E) : t_is_name K { nx := fun _ H' => Q .non H', rt := Q } (start ["thing", "sign"] vs) H := by
  obtain ⟨_, x, k, B, M, L, rfl, hI, hx, q⟩ := h
  show t_is_name K ⟨_, _, _, _⟩ [some x, none] H
  unfold t_is_name
  tm_at "go"
  refine hx.cases ?_ ?_ ?_ ?_ ?_
  · rintro rfl rfl
    tm_at "go"
    exact q _ hI
  · rintro b rfl rfl
    tm_at "go"
    exact q _ hI
  · rintro n rfl rfl
    tm_at "go"
    exact q _ hI
  · rintro z rfl rfl hp
    tm_at "go"
    have qq : Q (.bl (decide (1 ≤ (z.length : Int)) && (decide ((z.length : Int) ≤ 8) && (!inV (.str z) barVs && z.cps.toList.all fun c => decide (c ∈ letS.cps.toList))))) = Q (.bl (isName (.str z))) := rfl
    refine g_dec (fun h1 => ?_) (fun h1 => ?_)
    · tm_at "go"
      refine g_ndec (fun h2 => ?_) (fun h2 => ?_)
      · tm_at "go"
        have := q _ hI
        rw [← qq, decide_eq_true h1, decide_eq_false h2] at this
        exact this
      · tm_at "go"
        refine g_in_t (hbar H) rfl (by decide +kernel) ?_
        tm_at "go"
        refine g_b (fun h3 => ?_) (fun h3 => ?_)
        · tm_at "go"
          have := q _ hI
          rw [← qq, decide_eq_true h1, decide_eq_true h2, h3] at this
          exact this
        · tm_at "go"
          refine' g_lcS1 hI (by tm_at "wiped") (Nat.le_trans hp.1 (by decide)) (fun c => .bl (decide (c ∈ letS.cps.toList))) ?_ ?_
          · intro c D acc H' hc hI' PY hY
            tm_at "go"
            refine' g_wiped (by tm_at "wiped") ?_
            tm_at "go"
            exact hY _ hI'
          · intro D H' hI'
            tm_at "go"
            refine g_all (by tm_at "sq") ?_
            have := q _ (hI'.forget (by tm_at "sub"))
            rw [← qq, decide_eq_true h1, decide_eq_true h2, h3] at this
            exact this
    · tm_at "go"
      have := q _ hI
      rw [← qq, decide_eq_false h1] at this
      exact this
  · rintro a rfl hk
    refine g_isiF hx (by decide) (Kn.noInt hk).2.2 ?_
    tm_at "go"
    exact q _ hI
def Lets (n : Nat) (z : Str) : Prop := z.length ≤ n ∧ ∀ c ∈ z.cps.toList, c ∈ letS.cps.toList
theorem Lets.mono {n m : Nat} {z : Str} (h : Lets n z) (hn : n ≤ m) : Lets m z := ⟨Nat.le_trans h.1 hn, h.2⟩
theorem Lets.add {n m : Nat} {x y : Str} (h1 : Lets n x) (h2 : Lets m y) : Lets (n + m) (x ++ y) := by
  refine ⟨by rw [len_app]; have := h1.1; have := h2.1; omega, fun c hc => ?_⟩
  rw [cps_app] at hc
  rcases List.mem_append.mp hc with h | h
  · exact h1.2 c h
  · exact h2.2 c h
theorem letS_bd : ∀ c ∈ letS.cps.toList, c < 128 := by decide +kernel
theorem Lets.sh {n : Nat} {z : Str} (h : Lets n z) : Sh n z := ⟨h.1, fun c hc => letS_bd c (h.2 c hc)⟩
theorem Lets.sign {c : Nat} (h : c ∈ letS.cps.toList) : Lets 1 ⟨#[c]⟩ := by
  refine ⟨Nat.le_refl _, fun d hd => ?_⟩
  have : d = c := by simpa using hd
  rw [this]
  exact h
theorem Lets.name {n : Nat} {z : Str} (h : Lets n z) (hn : n ≤ 8) (h1 : 1 ≤ z.length) (hb : inV (.str z) barVs = false) : isName (.str z) = true := by
  show (decide (1 ≤ (z.length : Int)) && (decide ((z.length : Int) ≤ 8) && (!inV (.str z) barVs && z.cps.toList.all fun c => decide (c ∈ letS.cps.toList)))) = true
  have := h.1
  rw [decide_eq_true (by omega), decide_eq_true (by omega), hb, List.all_eq_true.mpr fun c hc => decide_eq_true (h.2 c hc)]
  rfl
/-- a name as a round wants it -/
def IsNm (x : V) : Prop := ∃ z, x = .str z ∧ isName (.str z) = true ∧ plainS z
/-- the first two, as they come -/
structure Two (shift : Int) (xs : List V) : Prop where
  fst : ∀ x, xs[0]? = some x → ∃ (z : Str) (c : Nat), x = .str z ∧ z.length ≤ 7 ∧ z.cps.toList.head? = some c ∧ (c : Int) = 97 + shift % 26
  ne : ∀ x y, xs[0]? = some x → xs[1]? = some y → x ≠ y
def VowS (n : Nat) (z : Str) : Prop := Lets (2 + n) z ∧ 2 ≤ z.length ∧ ∀ c ∈ z.cps.toList.drop 2, c ∈ [97, 101, 105, 111, 117]
theorem VowS.add {n : Nat} {z : Str} {c : Nat} (h : VowS n z) (hc : c ∈ [97, 101, 105, 111, 117]) (hl : Lets 1 (⟨#[c]⟩ : Str)) : VowS (n + 1) (z ++ ⟨#[c]⟩) := by
  obtain ⟨h1, h2, h3⟩ := h
  refine ⟨(h1.add hl).mono (by omega), by rw [len_app]; omega, fun d hd => ?_⟩
  have hz : 2 ≤ z.cps.toList.length := by rw [← len_cps]; exact h2
  rw [cps_app, List.drop_append_of_le_length hz] at hd
  rcases List.mem_append.mp hd with h | h
  · exact h3 d h
  · have : d = c := by simpa using h
    rw [this]
    exact hc
def NmY (x : V) : Prop := ∃ z, x = .str z ∧ Lets 8 z ∧ 1 ≤ z.length ∧ inV (.str z) barVs = false
theorem NmY.nm {x : V} (h : NmY x) : IsNm x := by
  obtain ⟨z, rfl, h1, h2, h3⟩ := h
  exact ⟨z, rfl, h1.name (Nat.le_refl _) h2 h3, h1.sh.plain (by decide)⟩
theorem all_true {α : Type} {l : List α} : l.all (fun _ => true) = true := List.all_eq_true.mpr fun _ _ => rfl
theorem Is.thaw {B H : Hp} {M L : List (Addr × HO)} {a : Addr} {o : HO} (I : Is (upd B a o) M L H) (h : B a = none) : Is B M ((a, o) :: L) H := by
  have hne : ∀ q ∈ L ++ M, q.1 ≠ a := fun q hq z => by
    have := (I.own q hq).2
    rw [z, upd_same] at this
    cases this
  refine ⟨fun b x e => I.ex b x (by rw [upd_ne (fun z => by rw [z, h] at e; cases e)]; exact e), fun q hq => ?_, ?_⟩
  · rcases List.mem_cons.mp (show q ∈ (a, o) :: (L ++ M) from hq) with rfl | hq
    · exact ⟨I.ex _ _ upd_same, h⟩
    · have h2 := I.own q hq
      refine ⟨h2.1, ?_⟩
      have := h2.2
      rw [upd_ne (hne q hq)] at this
      exact this
  · show ((((a, o) :: (L ++ M)).map (·.1))).Nodup
    refine List.nodup_cons.mpr ⟨fun z => ?_, I.nd⟩
    obtain ⟨q, hq, e⟩ := List.mem_map.mp z
    exact hne q hq e
theorem isWhole_t {n lo hi : Int} (h1 : lo ≤ n) (h2 : n ≤ hi) : isWhole (.int n) lo hi = true := by
  show (decide (lo ≤ n) && decide (n ≤ hi)) = true
  rw [decide_eq_true h1, decide_eq_true h2]
  rfl
theorem ap_is_whole_t {K : PySem.W.Frag} {H : Hp} {Q : VK} {E : XK} {n lo hi : Int} (h1 : lo ≤ n) (h2 : n ≤ hi) (q : Q (.bl true) H) : sp_is_whole K [.int n, .int lo, .int hi] H Q E := ⟨rfl, .int n, .int, lo, hi, rfl, thing_int n, by rw [isWhole_t h1 h2]; exact q⟩
theorem ap_is_name {K : PySem.W.Frag} {H : Hp} {Q : VK} {E : XK} {x : V} {k : Kn} {B : Hp} {M L : List (Addr × HO)} (I : Is B M L H) (hx : Thing K B x k) (q : ∀ H', Is B M L H' → Q (.bl (isName x)) H') : sp_is_name K [x] H Q E := ⟨rfl, x, k, B, M, L, rfl, I, hx.same I.ex, q⟩
abbrev StepT : Type := Str × Int × Int
def kndL : List (Str × Str) := [("sew", "hand"), ("glue", "hand"), ("cover", "hand"), ("letter", "hand"), ("press", "press")]
def StepR (B : Hp) (x : V) (r : StepT) : Prop := ∃ a, x = .ref a ∧ B a = some (.tup [.str r.1, .int r.2.1, .int r.2.2])
abbrev StepsB (B : Hp) (xs : List V) (rs : List StepT) : Prop := All2 (StepR B) xs rs
theorem StepsB.same {B B' : Hp} {xs : List V} {rs : List StepT} (h : StepsB B xs rs) (s : Same B B') : StepsB B' xs rs := All2.mono (fun _ _ ⟨a, e, h⟩ => ⟨a, e, s _ _ h⟩) h
def WorkOk (z : Str) : Prop := ∃ k, (z, k) ∈ kndL
theorem work_sh {z : Str} (h : WorkOk z) : Sh 6 z := by
  obtain ⟨k, h⟩ := h
  simp only [kndL, List.mem_cons, Prod.mk.injEq, List.not_mem_nil, or_false] at h
  rcases h with ⟨rfl, _⟩ | ⟨rfl, _⟩ | ⟨rfl, _⟩ | ⟨rfl, _⟩ | ⟨rfl, _⟩ <;> exact Sh.lit (by decide +kernel)
def StepG (r : StepT) : Prop := WorkOk r.1 ∧ 1 ≤ r.2.1 ∧ r.2.1 ≤ 240 ∧ 0 ≤ r.2.2 ∧ r.2.2 ≤ 240
structure GoodT (nm : Str) (rs : List StepT) : Prop where
  nm : isName (.str nm) = true ∧ plainS nm
  l0 : 1 ≤ rs.length
  l1 : rs.length ≤ 12
  row : ∀ r ∈ rs, StepG r
def sp_kind_of (K : PySem.W.Frag) : Sp := fun vs H Q _ => vs.length = 1 ∧ ∃ z k, vs = [.str z] ∧ (z, k) ∈ kndL ∧ Q (.str k) H
theorem ap_kind_of {K : PySem.W.Frag} {H : Hp} {Q : VK} {E : XK} {z k : Str} (h : (z, k) ∈ kndL) (q : Q (.str k) H) : sp_kind_of K [.str z] H Q E := ⟨rfl, z, k, rfl, h, q⟩
def t_kind_of (K : PySem.W.Frag) : TS := (tRet (tIf (tTr K (tCB (rIsi K) (tCons (tVar 0) (tCons (tC (.ty "str")) tNil)))) (tKGet (He.ga K "KINDS") [("sew", "hand"), ("glue", "hand"), ("cover", "hand"), ("letter", "hand"), ("press", "press")] (tVar 0)) (tC .non)))
theorem rd_kind_of {K : PySem.W.Frag} (vs : List V) (H : Hp) (Q : VK) (E : XK) (h : sp_kind_of K vs H Q E) : t_kind_of K { nx := fun _ H' => Q .non H', rt := Q } (start ["work"] vs) H := by
  obtain ⟨_, z, k, rfl, h, q⟩ := h
  show t_kind_of K ⟨_, _, _, _⟩ [some (.str z)] H
  have hx : Thing K H (.str z) .str := thing_str ((work_sh ⟨k, h⟩).plain (by decide))
  unfold t_kind_of
  tm_at "go"
  refine' g_kget ?_
  tm_at "go"
  exact g_kgot h q
def sp_is_step (K : PySem.W.Frag) : Sp := fun vs H Q _ => vs.length = 1 ∧ ∃ (a : Addr) (r : StepT) (B : Hp) (M L : List (Addr × HO)), vs = [.ref a] ∧ Is B M L H ∧ B a = some (.tup [.str r.1, .int r.2.1, .int r.2.2]) ∧ StepG r ∧ ∀ H', Is B M L H' → Q (.bl true) H'
theorem ap_is_step {K : PySem.W.Frag} {H : Hp} {Q : VK} {E : XK} {a : Addr} {r : StepT} {B : Hp} {M L : List (Addr × HO)} (I : Is B M L H) (ha : B a = some (.tup [.str r.1, .int r.2.1, .int r.2.2])) (h : StepG r) (q : ∀ H', Is B M L H' → Q (.bl true) H') : sp_is_step K [.ref a] H Q E := ⟨rfl, a, r, B, M, L, rfl, I, ha, h, q⟩
abbrev t_is_step_0 (K : PySem.W.Frag) : TS := (tRet (tAndV (tCl 2 1 (sp_is_whole K) (fun vs zs => pick .non [0, 1, 2] (vs ++ (zs ++ [.int 1000000]))) E0 (tCons (tOp (rIx K) (tVar 0) (tC (.int 1))) (tCons (tC (.int 1)) tNil)) (tCons (tC (.int 240)) tNil)) (tCl 2 1 (sp_is_whole K) (fun vs zs => pick .non [0, 1, 2] (vs ++ (zs ++ [.int 1000000]))) E0 (tCons (tOp (rIx K) (tVar 0) (tC (.int 2))) (tCons (tC (.int 0)) tNil)) (tCons (tC (.int 240)) tNil))))
def t_is_step (K : PySem.W.Frag) : TS := (tSeq (tIfS (tOr (tNot (tTr K (tCB (rIsi K) (tCons (tVar 0) (tCons (tC (.ty "tuple")) tNil))))) (tOr (tTest (tOp (rNeA K) (tCB (rLen K) (tCons (tVar 0) tNil)) (tC (.int 3)))) (tTest (tOp rIsNo (tCl 1 0 (sp_kind_of K) (fun vs zs => pick .non [0] (vs ++ zs)) E0 (tCons (tOp (rIx K) (tVar 0) (tC (.int 0))) tNil) tNil) (tC .non))))) (tRet (tC (.bl false))) tNext) (t_is_step_0 K))
theorem rd_is_step {K : PySem.W.Frag} (vs : List V) (H : Hp) (Q : VK) (E : XK) (h : sp_is_step K vs H Q E) : t_is_step K { nx := fun _ H' => Q .non H', rt := Q } (start ["thing"] vs) H := by
  obtain ⟨_, a, ⟨z, n, t⟩, B, M, L, rfl, hI, ha, ⟨⟨k, hk⟩, h1, h2, h3, h4⟩, q⟩ := h
  show t_is_step K ⟨_, _, _, _⟩ [some (.ref a)] H
  have hT : Thing K B (.ref a) .tup := thing_tup ha
  unfold t_is_step
  tm_at "go"
  refine g_ndec (fun h => absurd rfl h) (fun _ => ?_)
  tm_at "go"
  refine g_ix_t (by tm_at "st") (atI_of (by decide) rfl) ?_
  tm_at "go"
  refine' ap_kind_of (K := K) hk ?_
  tm_at "go"
  refine g_dec (fun h => by cases h) (fun _ => ?_)
  tm_at "go"
  refine g_ix_t (by tm_at "st") (atI_of (by decide) rfl) ?_
  tm_at "go"
  refine' ap_is_whole_t (K := K) h1 h2 ?_
  tm_at "go"
  refine g_ix_t (by tm_at "st") (atI_of (by decide) rfl) ?_
  tm_at "go"
  refine' ap_is_whole_t (K := K) h3 h4 ?_
  exact q _ hI
def sp_are_steps (K : PySem.W.Frag) : Sp := fun vs H Q _ => vs.length = 1 ∧ ∃ (a : Addr) (xs : List V) (rs : List StepT) (B : Hp) (M L : List (Addr × HO)), vs = [.ref a] ∧ Is B M L H ∧ B a = some (.lst xs) ∧ StepsB B xs rs ∧ 1 ≤ rs.length ∧ rs.length ≤ 12 ∧ (∀ r ∈ rs, StepG r) ∧ ∀ H', Is B M L H' → Q (.bl true) H'
theorem ap_are_stepsL {K : PySem.W.Frag} {H : Hp} {Q : VK} {E : XK} {a : Addr} {xs : List V} {rs : List StepT} {B : Hp} {M L : List (Addr × HO)} (I : Is B M ((a, .lst xs) :: L) H) (hr : StepsB B xs rs) (h0 : 1 ≤ rs.length) (h1 : rs.length ≤ 12) (hg : ∀ r ∈ rs, StepG r) (q : ∀ H', Is B M ((a, .lst xs) :: L) H' → Q (.bl true) H') : sp_are_steps K [.ref a] H Q E := by
  have hb : B a = none := (I.own (a, .lst xs) (List.mem_append_left _ List.mem_cons_self)).2
  obtain ⟨I1, s⟩ := I.frz .here
  exact ⟨rfl, a, xs, rs, _, M, L, rfl, I1, upd_same, hr.same s, h0, h1, hg, fun H' I2 => q H' (I2.thaw hb)⟩
abbrev t_are_steps_0 (K : PySem.W.Frag) : TS := (tRet (tCB (rAll K) (tCons (tLc (iAny K (tVar 0)) (gName 1) tYes (tCl 1 0 (sp_is_step K) (fun vs zs => pick .non [0] (vs ++ zs)) E0 (tCons (tVar 1) tNil) tNil) [1]) tNil)))
def t_are_steps (K : PySem.W.Frag) : TS := (tSeq (tIfS (tOr (tNot (tTr K (tCB (rIsiT K) (tCons (tVar 0) (tCons (tTup (tCons (tC (.ty "list")) (tCons (tC (.ty "tuple")) tNil))) tNil))))) (tNot (tTest (tChain (rI0 fun i j => .bl (decide (i ≤ j))) (rI0 fun i j => .bl (decide (i ≤ j))) (tC (.int 1)) (tCB (rLen K) (tCons (tVar 0) tNil)) (tC (.int 12)))))) (tRet (tC (.bl false))) tNext) (t_are_steps_0 K))
theorem rd_are_steps {K : PySem.W.Frag} (vs : List V) (H : Hp) (Q : VK) (E : XK) (h : sp_are_steps K vs H Q E) : t_are_steps K { nx := fun _ H' => Q .non H', rt := Q } (start ["thing", "step"] vs) H := by
  obtain ⟨_, a, xs, rs, B, M, L, rfl, hI, ha, hr, h0, h1, hg, q⟩ := h
  show t_are_steps K ⟨_, _, _, _⟩ [some (.ref a), none] H
  have hl := hr.len
  have hT : Thing K B (.ref a) .lst := thing_lst ha
  unfold t_are_steps
  tm_at "go"
  refine g_dec (fun _ => ?_) (fun h => absurd (by omega) h)
  tm_at "go"
  refine g_ndec (fun h => absurd (by omega) h) (fun _ => ?_)
  tm_at "go"
  refine' g_lcX (xs := xs) (rs.map fun _ => V.bl true) (by rw [List.length_map, hl]) walk_list hI (by tm_at "wiped") (by omega) (fun D acc H' I => Is.sq I (SqL.of ha)) ?_ ?_
  · intro i x y D acc H' hx hy hI PY q
    obtain ⟨r, e, b, rfl, hb⟩ := hr.get hx
    have hy : y = .bl true := by
      rw [List.getElem?_map, e] at hy
      exact (Option.some.inj hy).symm
    tm_at "go"
    refine' g_wiped (by tm_at "wiped") ?_
    tm_at "go"
    refine' ap_is_step (K := K) hI hb (hg _ (List.mem_of_getElem? e)) ?_
    intro H4 hI
    rw [← hy]
    exact q _ hI
  · intro D H' hI
    tm_at "go"
    refine g_all (l := rs) (P := fun _ => true) (by tm_at "sq") ?_
    rw [all_true]
    exact q _ (hI.forget (by tm_at "sub"))
structure StyleC (K : PySem.W.Frag) : Prop where
  cl : Cls K (He.ga K "Style")
  n1 : NoAttr K (He.ga K "Style") "called"
  n2 : NoAttr K (He.ga K "Style") "step_rows"
structure StyleAt (K : PySem.W.Frag) (B : Hp) (x : Addr) (nm : Str) (rs : List StepT) : Prop where
  ex : ∃ (dx cr : Addr) (xs : List V), B x = some (.ins (He.ga K "Style") dx [("called", .str nm), ("step_rows", .ref cr)]) ∧ B cr = some (.lst xs) ∧ StepsB B xs rs
  good : GoodT nm rs
theorem StyleAt.same {K : PySem.W.Frag} {B B' : Hp} {x : Addr} {nm : Str} {rs : List StepT} (h : StyleAt K B x nm rs) (e : Same B B') : StyleAt K B' x nm rs := by
  obtain ⟨⟨dx, cr, xs, h1, h2, h3⟩, g⟩ := h
  exact ⟨⟨dx, cr, xs, e _ _ h1, e _ _ h2, h3.same e⟩, g⟩
def sp_Style_init (K : PySem.W.Frag) : Sp := fun vs H Q _ => vs.length = 3 ∧ ∃ (x dx a : Addr) (nm : Str) (xs : List V) (rs : List StepT) (B : Hp) (M L : List (Addr × HO)), vs = [.ref x, .str nm, .ref a] ∧ Is B M ((x, .ins (He.ga K "Style") dx []) :: (dx, .own x) :: (a, .lst xs) :: L) H ∧ StepsB B xs rs ∧ GoodT nm rs ∧
  ∀ (B' H' : Hp), Same B B' → Is B' M ((a, .lst xs) :: L) H' → StyleAt K B' x nm rs → Q .non H'
theorem ap_Style_init {K : PySem.W.Frag} {H : Hp} {Q : VK} {E : XK} {x dx a : Addr} {nm : Str} {xs : List V} {rs : List StepT} {B : Hp} {M L : List (Addr × HO)} (I : Is B M ((x, .ins (He.ga K "Style") dx []) :: (dx, .own x) :: (a, .lst xs) :: L) H) (hr : StepsB B xs rs) (hg : GoodT nm rs)
    (q : ∀ (B' H' : Hp), Same B B' → Is B' M ((a, .lst xs) :: L) H' → StyleAt K B' x nm rs → Q .non H') : sp_Style_init K [.ref x, .str nm, .ref a] H Q E := ⟨rfl, x, dx, a, nm, xs, rs, B, M, L, rfl, I, hr, hg, q⟩
abbrev t_Style_init_0 (K : PySem.W.Frag) : TS := (sFld K (tVar 0) (tCB (rListOf K) (tCons (tVar 2) tNil)) "step_rows")
abbrev t_Style_init_1 (K : PySem.W.Frag) : TS := (tSeq (sFld K (tVar 0) (tVar 1) "called") (t_Style_init_0 K))
abbrev t_Style_init_2 (K : PySem.W.Frag) : TS := (tSeq (tIfS (tNot (tTr K (tCl 1 0 (sp_are_steps K) (fun vs zs => pick .non [0] (vs ++ zs)) E0 (tCons (tVar 2) tNil) tNil))) tNoS tNext) (t_Style_init_1 K))
def t_Style_init (K : PySem.W.Frag) : TS := (tSeq (tIfS (tNot (tTr K (tCl 1 0 (sp_is_name K) (fun vs zs => pick .non [0] (vs ++ zs)) E0 (tCons (tVar 1) tNil) tNil))) tNoS tNext) (t_Style_init_2 K))
theorem rd_Style_init {K : PySem.W.Frag} (C : StyleC K) (vs : List V) (H : Hp) (Q : VK) (E : XK) (h : sp_Style_init K vs H Q E) : t_Style_init K { nx := fun _ H' => Q .non H', rt := Q } (start ["self", "name", "steps"] vs) H := by
  obtain ⟨_, x, dx, a, nm, xs, rs, B, M, L, rfl, hI, hr, hg, q⟩ := h
  show t_Style_init K ⟨_, _, _, _⟩ [some (.ref x), some (.str nm), some (.ref a)] H
  obtain ⟨cl, n1, n2⟩ := C
  have hl := hr.len
  have hl1 := hg.l1
  unfold t_Style_init
  tm_at "go"
  refine' ap_is_name (K := K) hI (thing_str hg.nm.2) ?_
  clear hI
  intro H hI
  rw [hg.nm.1]
  tm_at "go"
  have hI := hI.perm (L' := (a, .lst xs) :: (x, .ins (He.ga K "Style") dx []) :: (dx, .own x) :: L) (by first | exact List.perm_middle (l₁ := [_, _]) | exact (List.perm_middle (l₁ := [_, _])).symm)
  refine' ap_are_stepsL (K := K) hI hr hg.l0 hg.l1 hg.row ?_
  clear hI
  intro H hI
  tm_at "go"
  obtain ⟨cr, rfl⟩ : ∃ q, q = p := ⟨_, rfl⟩
  refine' hI.give (a := x) (by tm_at "del") ?_
  clear hI
  intro B1 s1 h1 hI
  refine' hI.give (a := cr) (by tm_at "del") ?_
  clear hI
  intro B2 s2 h2 hI
  exact q B2 _ (s1.trans s2) (hI.forget (by tm_at "sub")) ⟨⟨dx, cr, xs, s2 _ _ h1, h2, hr.same (s1.trans s2)⟩, hg⟩
/-- all hours and rests -/
def spanT (rs : List StepT) : Int := (rs.map fun r => r.2.1 + r.2.2).sum
def sp_Style_span (K : PySem.W.Frag) : Sp := fun vs H Q _ => vs.length = 1 ∧ ∃ (x : Addr) (nm : Str) (rs : List StepT) (B : Hp) (M L : List (Addr × HO)), vs = [.ref x] ∧ Is B M L H ∧ StyleAt K B x nm rs ∧ ∀ H', Is B M L H' → Q (.int (spanT rs)) H'
def t_Style_span (K : PySem.W.Frag) : TS := (tRet (tCB (rSum K) (tCons (tLc (iAny K (tFld K (tVar 0) "step_rows")) (gName 1) tYes (tOp (rAddA K) (tOp (rIx K) (tVar 1) (tC (.int 1))) (tOp (rIx K) (tVar 1) (tC (.int 2)))) [1]) tNil)))
theorem rd_Style_span {K : PySem.W.Frag} (C : StyleC K) (vs : List V) (H : Hp) (Q : VK) (E : XK) (h : sp_Style_span K vs H Q E) : t_Style_span K { nx := fun _ H' => Q .non H', rt := Q } (start ["self", "row"] vs) H := by
  obtain ⟨_, x, nm, rs, B, M, L, rfl, hI, hS, q⟩ := h
  show t_Style_span K ⟨_, _, _, _⟩ [some (.ref x), none] H
  obtain ⟨cl, n1, n2⟩ := C
  obtain ⟨⟨dx, cr, xs, h1, h2, h3⟩, hg⟩ := id hS
  have hl := h3.len
  have hl1 := hg.l1
  unfold t_Style_span
  tm_at "go"
  refine' g_lcX ((rs.map fun r => r.2.1 + r.2.2).map V.int) (by simp [hl]) walk_list hI (by tm_at "wiped") (by omega) (fun D acc H' I => SqL.of (I.b h2)) ?_ ?_
  · intro i x y D acc H' hx hy hI PY q
    obtain ⟨r, e, a, rfl, ha⟩ := h3.get hx
    tm_at "go"
    refine' g_wiped (by tm_at "wiped") ?_
    tm_at "go"
    refine g_ix_t (by tm_at "st") (atI_of (by decide) rfl) ?_
    tm_at "go"
    refine g_ix_t (by tm_at "st") (atI_of (by decide) rfl) ?_
    tm_at "go"
    have ey : y = .int (r.2.1 + r.2.2) := by
      rw [List.getElem?_map, List.getElem?_map, e] at hy
      exact (Option.some.inj hy).symm
    rw [ey] at q
    exact q _ hI
  · intro D H' hI
    tm_at "go"
    refine g_sum (by tm_at "sq") ?_
    exact q _ (hI.forget (by tm_at "sub"))
structure JobC (K : PySem.W.Frag) : Prop where
  cl : Cls K (He.ga K "Job")
  n1 : NoAttr K (He.ga K "Job") "has_number"
  n2 : NoAttr K (He.ga K "Job") "has_style"
  n3 : NoAttr K (He.ga K "Job") "came"
  n4 : NoAttr K (He.ga K "Job") "wanted"
  n5 : NoAttr K (He.ga K "Job") "hasty"
/-- a job, plain: number, style, brought, due, haste -/
structure JobT where
  n : Int
  nm : Str
  rs : List StepT
  c : Int
  w : Int
  q : Bool
structure GoodJ (j : JobT) : Prop where
  t : GoodT j.nm j.rs
  n0 : 1 ≤ j.n
  n1 : j.n ≤ 99999
  c0 : 0 ≤ j.c
  c1 : j.c ≤ 1000000
  w0 : j.c ≤ j.w
  w1 : j.w ≤ 1000000
structure JobAt (K : PySem.W.Frag) (B : Hp) (x : Addr) (j : JobT) : Prop where
  ex : ∃ (dx st : Addr), B x = some (.ins (He.ga K "Job") dx [("has_number", .int j.n), ("has_style", .ref st), ("came", .int j.c), ("wanted", .int j.w), ("hasty", .bl j.q)]) ∧ StyleAt K B st j.nm j.rs
  good : GoodJ j
theorem JobAt.same {K : PySem.W.Frag} {B B' : Hp} {x : Addr} {j : JobT} (h : JobAt K B x j) (e : Same B B') : JobAt K B' x j := by
  obtain ⟨⟨dx, st, h1, h2⟩, g⟩ := h
  exact ⟨⟨dx, st, e _ _ h1, h2.same e⟩, g⟩
def sp_Job_init (K : PySem.W.Frag) : Sp := fun vs H Q _ => vs.length = 6 ∧ ∃ (x dx st : Addr) (j : JobT) (B : Hp) (M L : List (Addr × HO)), vs = [.ref x, .int j.n, .ref st, .int j.c, .int j.w, .bl j.q] ∧ Is B M ((x, .ins (He.ga K "Job") dx []) :: (dx, .own x) :: L) H ∧ StyleAt K B st j.nm j.rs ∧ GoodJ j ∧
  ∀ (B' H' : Hp), Same B B' → Is B' M L H' → JobAt K B' x j → Q .non H'
theorem ap_Job_init {K : PySem.W.Frag} {H : Hp} {Q : VK} {E : XK} {x dx st : Addr} (j : JobT) {B : Hp} {M L : List (Addr × HO)} (I : Is B M ((x, .ins (He.ga K "Job") dx []) :: (dx, .own x) :: L) H) (h : StyleAt K B st j.nm j.rs) (hg : GoodJ j)
    (q : ∀ (B' H' : Hp), Same B B' → Is B' M L H' → JobAt K B' x j → Q .non H') : sp_Job_init K [.ref x, .int j.n, .ref st, .int j.c, .int j.w, .bl j.q] H Q E := ⟨rfl, x, dx, st, j, B, M, L, rfl, I, h, hg, q⟩
abbrev t_Job_init_0 (K : PySem.W.Frag) : TS := (sFld K (tVar 0) (tVar 5) "hasty")
abbrev t_Job_init_1 (K : PySem.W.Frag) : TS := (tSeq (sFld K (tVar 0) (tVar 6) "wanted") (t_Job_init_0 K))
abbrev t_Job_init_2 (K : PySem.W.Frag) : TS := (tSeq (sFld K (tVar 0) (tVar 3) "came") (t_Job_init_1 K))
abbrev t_Job_init_3 (K : PySem.W.Frag) : TS := (tSeq (sFld K (tVar 0) (tVar 2) "has_style") (t_Job_init_2 K))
abbrev t_Job_init_4 (K : PySem.W.Frag) : TS := (tSeq (sFld K (tVar 0) (tVar 1) "has_number") (t_Job_init_3 K))
abbrev t_Job_init_5 (K : PySem.W.Frag) : TS := (tSeq (tIfS (tNot (tTr K (tCB (rIsi K) (tCons (tVar 5) (tCons (tC (.ty "bool")) tNil))))) tNoS tNext) (t_Job_init_4 K))
abbrev t_Job_init_6 (K : PySem.W.Frag) : TS := (tSeq (tIfS (tNot (tTr K (tCl 2 1 (sp_is_whole K) (fun vs zs => pick .non [0, 1, 2] (vs ++ (zs ++ [.int 1000000]))) E0 (tCons (tVar 6) (tCons (tVar 3) tNil)) (tCons (tC (.int 1000000)) tNil)))) tNoS tNext) (t_Job_init_5 K))
abbrev t_Job_init_7 (K : PySem.W.Frag) : TS := (tSeq (tAsg (tIf (tTest (tOp rIsNo (tVar 4) (tC .non))) (tOp (rAddA K) (tVar 3) (tMe (He.ga K "Style") "span" 0 0 (sp_Style_span K) (fun vs zs => pick .non [0] (vs ++ zs)) E0 (tVar 2) tNil tNil)) (tVar 4)) (gName 6)) (t_Job_init_6 K))
abbrev t_Job_init_8 (K : PySem.W.Frag) : TS := (tSeq (tIfS (tNot (tTr K (tCl 2 1 (sp_is_whole K) (fun vs zs => pick .non [0, 1, 2] (vs ++ (zs ++ [.int 1000000]))) E0 (tCons (tVar 3) (tCons (tC (.int 0)) tNil)) (tCons (tC (.int 1000000)) tNil)))) tNoS tNext) (t_Job_init_7 K))
abbrev t_Job_init_9 (K : PySem.W.Frag) : TS := (tSeq (tIfS (tNot (tTr K (tCB (rIsi K) (tCons (tVar 2) (tCons (tC (.ref (He.ga K "Style"))) tNil))))) tNoS tNext) (t_Job_init_8 K))
def t_Job_init (K : PySem.W.Frag) : TS := (tSeq (tIfS (tNot (tTr K (tCl 2 1 (sp_is_whole K) (fun vs zs => pick .non [0, 1, 2] (vs ++ (zs ++ [.int 1000000]))) E0 (tCons (tVar 1) (tCons (tC (.int 1)) tNil)) (tCons (tC (.int 99999)) tNil)))) tNoS tNext) (t_Job_init_9 K))
theorem rd_Job_init {K : PySem.W.Frag} (C : JobC K) (C2 : StyleC K) (D : OwnD K (He.ga K "Style")) (vs : List V) (H : Hp) (Q : VK) (E : XK) (h : sp_Job_init K vs H Q E) : t_Job_init K { nx := fun _ H' => Q .non H', rt := Q } (start ["self", "number", "style", "brought", "due", "haste", "wanted"] vs) H := by
  obtain ⟨_, x, dx, st, ⟨n, nm, rs, c, w, qk⟩, B, M, L, rfl, hI, hS, hg, q⟩ := h
  show t_Job_init K ⟨_, _, _, _⟩ [some (.ref x), some (.int n), some (.ref st), some (.int c), some (.int w), some (.bl qk), none] H
  obtain ⟨cl, n1, n2, n3, n4, n5⟩ := C
  obtain ⟨⟨ds, cr, xs, h1, h2, h3⟩, _⟩ := id hS
  obtain ⟨_, g1, g2, g3, g4, g5, g6⟩ := id hg
  unfold t_Job_init
  tm_at "go"
  refine' ap_is_whole_t (K := K) g1 g2 ?_
  tm_at "go"
  refine' g_isiO D C2.cl (hI.b h1) ?_
  tm_at "go"
  refine' ap_is_whole_t (K := K) g3 g4 ?_
  tm_at "go"
  refine g_dec (fun h => by cases h) (fun _ => ?_)
  tm_at "go"
  refine' ap_is_whole_t (K := K) g5 g6 ?_
  have hb : Thing K H (.bl qk) .bl := thing_bl qk
  tm_at "go"
  refine' hI.give (a := x) (by tm_at "del") ?_
  clear hI
  intro B1 s1 k1 hI
  exact q B1 _ s1 (hI.forget (by tm_at "sub")) ⟨⟨dx, st, k1, hS.same s1⟩, hg⟩
def sp_Job_rank (K : PySem.W.Frag) : Sp := fun vs H Q _ => vs.length = 1 ∧ ∃ (x : Addr) (j : JobT) (B : Hp) (M L : List (Addr × HO)), vs = [.ref x] ∧ Is B M L H ∧ JobAt K B x j ∧ ∀ p H', Is B M ((p, .tup [.int (if j.q = true then 0 else 1), .int j.w, .int j.c, .int j.n]) :: L) H' → Q (.ref p) H'
theorem ap_Job_rank {K : PySem.W.Frag} {H : Hp} {Q : VK} {E : XK} {x : Addr} {j : JobT} {B : Hp} {M L : List (Addr × HO)} (I : Is B M L H) (h : JobAt K B x j) (q : ∀ p H', Is B M ((p, .tup [.int (if j.q = true then 0 else 1), .int j.w, .int j.c, .int j.n]) :: L) H' → Q (.ref p) H') : sp_Job_rank K [.ref x] H Q E := ⟨rfl, x, j, B, M, L, rfl, I, h, q⟩
def t_Job_rank (K : PySem.W.Frag) : TS := (tRet (tTup (tCons (tIf (tTr K (tFld K (tVar 0) "hasty")) (tC (.int 0)) (tC (.int 1))) (tCons (tFld K (tVar 0) "wanted") (tCons (tFld K (tVar 0) "came") (tCons (tFld K (tVar 0) "has_number") tNil))))))
theorem rd_Job_rank {K : PySem.W.Frag} (C : JobC K) (vs : List V) (H : Hp) (Q : VK) (E : XK) (h : sp_Job_rank K vs H Q E) : t_Job_rank K { nx := fun _ H' => Q .non H', rt := Q } (start ["self"] vs) H := by
  obtain ⟨_, x, ⟨n, nm, rs, c, w, qk⟩, B, M, L, rfl, hI, hJ, q⟩ := h
  show t_Job_rank K ⟨_, _, _, _⟩ [some (.ref x)] H
  obtain ⟨cl, n1, n2, n3, n4, n5⟩ := C
  obtain ⟨⟨dx, st, h1, h2⟩, hg⟩ := id hJ
  unfold t_Job_rank
  tm_at "go"
  refine g_b (fun hq => ?_) (fun hq => ?_)
  · subst hq
    tm_at "go"
    exact q _ _ hI
  · subst hq
    tm_at "go"
    exact q _ _ hI
theorem log2_smallI {n : Int} (h0 : -(2 ^ 200) < n) (h : n < 2 ^ 200) : n.natAbs.log2 < 1920 := by
  rcases Nat.eq_zero_or_pos n.natAbs with e | e
  · rw [e]
    decide
  · have : n.natAbs < 2 ^ 200 := by omega
    have := (Nat.log2_lt (by omega)).mpr this
    omega
theorem shn_int {n : Int} {k : Nat} (h0 : -(2 ^ 200) < n) (h : n < 2 ^ 200) : Shn (.int n) 2000 k := .int (log2_smallI h0 h)
def stepD (r : StepT) : PyData := .tuple [.str r.1, .int r.2.1, .int r.2.2]
theorem dp_steps {K : PySem.W.Frag} {B H : Hp} (e : Same B H) : ∀ {xs : List V} {rs : List StepT}, StepsB B xs rs → DpAll K H xs (rs.map stepD)
  | _, _, .nil => .nil
  | _, _, .cons ⟨a, rfl, h⟩ t => .cons (.tup (SqT.of (e _ _ h)) (.cons (.str _) (.cons (.int _) (.cons (.int _) .nil)))) (dp_steps e t)
theorem shn_steps : ∀ (rs : List StepT), (∀ r ∈ rs, StepG r) → ∃ n, n ≤ 5000 * rs.length ∧ ShnAll (rs.map stepD) n 2
  | [], _ => ⟨0, by simp, .nil⟩
  | r :: rs, h => by
    obtain ⟨n, hn1, hn⟩ := shn_steps rs fun x hx => h x (List.mem_cons_of_mem _ hx)
    obtain ⟨h0, h1, h2, h3, h4⟩ := h r List.mem_cons_self
    have hs := work_sh h0
    refine ⟨_, ?_, .cons (.tup (.cons (.str hs.2) (.cons (shn_int (by omega) (by omega)) (.cons (shn_int (by omega) (by omega)) .nil)))) hn⟩
    have := hs.1
    rw [List.length_cons]
    omega
theorem eqv_step (r s : StepT) : PyData.eqv (stepD r) (stepD s) = decide (r = s) := by
  obtain ⟨a, b, c⟩ := r
  obtain ⟨a', b', c'⟩ := s
  by_cases h1 : a = a' <;> by_cases h2 : b = b' <;> by_cases h3 : c = c' <;> simp [stepD, PyData.eqv, PyData.eqvAll, h1, h2, h3]
theorem eqv_rowsA : ∀ rs ss : List StepT, PyData.eqvAll (rs.map stepD) (ss.map stepD) = decide (rs = ss)
  | [], [] => by simp [PyData.eqvAll]
  | [], s :: ss => by simp [PyData.eqvAll]
  | r :: rs, [] => by simp [PyData.eqvAll]
  | r :: rs, s :: ss => by
    have ih := eqv_rowsA rs ss
    have h := eqv_step r s
    rw [List.map_cons, List.map_cons]
    have e : PyData.eqvAll (stepD r :: rs.map stepD) (stepD s :: ss.map stepD) = (PyData.eqv (stepD r) (stepD s) && PyData.eqvAll (rs.map stepD) (ss.map stepD)) := by simp only [PyData.eqvAll]
    rw [e, h, ih]
    by_cases h1 : r = s <;> by_cases h2 : rs = ss <;> simp [h1, h2]
theorem eqv_rows (rs ss : List StepT) : PyData.eqv (.list (rs.map stepD)) (.list (ss.map stepD)) = decide (rs = ss) := by
  have := eqv_rowsA rs ss
  simp [PyData.eqv, this]
theorem shaped_rows {rs : List StepT} (g : ∀ r ∈ rs, StepG r) : SeqAt.shaped (.list (rs.map stepD)) = true := by
  obtain ⟨nn, hnn, hsh⟩ := shn_steps rs g
  exact Shn.shaped (.lst hsh) (by decide)
theorem g_eq_rows {K : PySem.W.Frag} {B H : Hp} {Q : VK} {a b : Addr} {xs ys : List V} {rs ss : List StepT} (e : Same B H) (h1 : SqL K H a xs) (h2 : SqL K H b ys) (r1 : StepsB B xs rs) (r2 : StepsB B ys ss) (g1 : ∀ r ∈ rs, StepG r) (g2 : ∀ r ∈ ss, StepG r) (q : Q (.bl (decide (rs = ss))) H) : rEqA K (.ref a) (.ref b) H Q := by
  refine g_eq_d (.lst h1 (dp_steps e r1)) (.lst h2 (dp_steps e r2)) (shaped_rows g1) (shaped_rows g2) ?_
  rw [eqv_rows]
  exact q
def sp_Style_eq (K : PySem.W.Frag) : Sp := fun vs H Q _ => vs.length = 2 ∧ ∃ (x z : Addr) (nm nm2 : Str) (rs rs2 : List StepT) (B : Hp) (M L : List (Addr × HO)), vs = [.ref x, .ref z] ∧ Is B M L H ∧ StyleAt K B x nm rs ∧ StyleAt K B z nm2 rs2 ∧ ∀ H', Is B M L H' → Q (.bl (decide (nm = nm2 ∧ rs = rs2))) H'
theorem ap_Style_eq {K : PySem.W.Frag} {H : Hp} {Q : VK} {E : XK} {x z : Addr} {nm nm2 : Str} {rs rs2 : List StepT} {B : Hp} {M L : List (Addr × HO)} (I : Is B M L H) (h : StyleAt K B x nm rs) (h' : StyleAt K B z nm2 rs2) (q : ∀ H', Is B M L H' → Q (.bl (decide (nm = nm2 ∧ rs = rs2))) H') : sp_Style_eq K [.ref x, .ref z] H Q E := ⟨rfl, x, z, nm, nm2, rs, rs2, B, M, L, rfl, I, h, h', q⟩
def t_Style_eq (K : PySem.W.Frag) : TS := (tRet (tAndV (tCB (rIsi K) (tCons (tVar 1) (tCons (tC (.ref (He.ga K "Style"))) tNil))) (tAndV (tOp (rEqA K) (tFld K (tVar 0) "called") (tFld K (tVar 1) "called")) (tOp (rEqA K) (tFld K (tVar 0) "step_rows") (tFld K (tVar 1) "step_rows")))))
theorem rd_Style_eq {K : PySem.W.Frag} (C : StyleC K) (D : OwnD K (He.ga K "Style")) (vs : List V) (H : Hp) (Q : VK) (E : XK) (h : sp_Style_eq K vs H Q E) : t_Style_eq K { nx := fun _ H' => Q .non H', rt := Q } (start ["self", "other"] vs) H := by
  obtain ⟨_, x, z, nm, nm2, rs, rs2, B, M, L, rfl, hI, hS, hZ, q⟩ := h
  show t_Style_eq K ⟨_, _, _, _⟩ [some (.ref x), some (.ref z)] H
  obtain ⟨cl, n1, n2⟩ := C
  obtain ⟨⟨dx, cr, xs, h1, h2, h3⟩, hg⟩ := id hS
  obtain ⟨⟨dz, cz, zs, k1, k2, k3⟩, kg⟩ := id hZ
  unfold t_Style_eq
  tm_at "go"
  refine' g_isiO D cl (hI.b k1) ?_
  tm_at "go"
  refine g_dec (fun hn => ?_) (fun hn => ?_)
  · tm_at "go"
    refine g_eq_rows hI.ex (SqL.of (hI.b h2)) (SqL.of (hI.b k2)) h3 k3 hg.row kg.row ?_
    have := q _ hI
    rw [show decide (nm = nm2 ∧ rs = rs2) = decide (rs = rs2) from by rw [V.str.inj hn]; simp] at this
    exact this
  · have := q _ hI
    rw [show decide (nm = nm2 ∧ rs = rs2) = false from decide_eq_false fun h => hn (by rw [h.1])] at this
    tm_at "go"
    exact this
section
variable {K : PySem.W.Frag} {H : Hp} {Q : VK} {E : XK} {x z : Addr} {nm nm2 : Str} {rs rs2 : List StepT} {B : Hp} {M L : List (Addr × HO)}
theorem g_styleEq (D : OwnD K (He.ga K "Style")) (C : StyleC K) (I : Is B M L H) (h : StyleAt K B x nm rs) (h' : StyleAt K B z nm2 rs2) (q : ∀ H', Is B M L H' → Q (.bl (decide (nm = nm2 ∧ rs = rs2))) H') : rOwnEq K (He.ga K "Style") (sp_Style_eq K) (fun vs zs => pick .non [0, 1] (vs ++ zs)) E (.ref x) (.ref z) H Q := by
  obtain ⟨⟨dx, cr, xs, h1, _, _⟩, _⟩ := id h
  obtain ⟨⟨dz, cz, zs, k1, _, _⟩, _⟩ := id h'
  exact g_ownEqI D C.cl (I.b h1) (I.b k1) (ap_Style_eq I h h' q)
end
instance : DecidableEq JobT := fun a b => decidable_of_iff (a.n = b.n ∧ a.nm = b.nm ∧ a.rs = b.rs ∧ a.c = b.c ∧ a.w = b.w ∧ a.q = b.q) (by
  cases a
  cases b
  simp)
def sp_Job_eq (K : PySem.W.Frag) : Sp := fun vs H Q _ => vs.length = 2 ∧ ∃ (x z : Addr) (j j2 : JobT) (B : Hp) (M L : List (Addr × HO)), vs = [.ref x, .ref z] ∧ Is B M L H ∧ JobAt K B x j ∧ JobAt K B z j2 ∧ ∀ H', Is B M L H' → Q (.bl (decide (j = j2))) H'
theorem ap_Job_eq {K : PySem.W.Frag} {H : Hp} {Q : VK} {E : XK} {x z : Addr} {j j2 : JobT} {B : Hp} {M L : List (Addr × HO)} (I : Is B M L H) (h : JobAt K B x j) (h' : JobAt K B z j2) (q : ∀ H', Is B M L H' → Q (.bl (decide (j = j2))) H') : sp_Job_eq K [.ref x, .ref z] H Q E := ⟨rfl, x, z, j, j2, B, M, L, rfl, I, h, h', q⟩
theorem eqv_int4 (a b c d a' b' c' d' : Int) : PyData.eqv (.tuple [.int a, .int b, .int c, .int d]) (.tuple [.int a', .int b', .int c', .int d']) = decide (a = a' ∧ b = b' ∧ c = c' ∧ d = d') := by
  simp only [PyData.eqv, PyData.eqvAll, Bool.and_true, Bool.decide_and]
  rfl
theorem rank_eq {q q' : Bool} : ((if q = true then (0 : Int) else 1) = if q' = true then 0 else 1) ↔ q = q' := by
  cases q <;> cases q' <;> simp
def t_Job_eq (K : PySem.W.Frag) : TS := (tRet (tAndV (tCB (rIsi K) (tCons (tVar 1) (tCons (tC (.ref (He.ga K "Job"))) tNil))) (tAndV (tOp (rEqA K) (tMe (He.ga K "Job") "rank" 0 0 (sp_Job_rank K) (fun vs zs => pick .non [0] (vs ++ zs)) E0 (tVar 0) tNil tNil) (tMe (He.ga K "Job") "rank" 0 0 (sp_Job_rank K) (fun vs zs => pick .non [0] (vs ++ zs)) E0 (tVar 1) tNil tNil)) (tOp (rOwnEq K (He.ga K "Style") (sp_Style_eq K) (fun vs zs => pick .non [0, 1] (vs ++ zs)) E0) (tFld K (tVar 0) "has_style") (tFld K (tVar 1) "has_style")))))
theorem rd_Job_eq {K : PySem.W.Frag} (C : JobC K) (C2 : StyleC K) (D : OwnD K (He.ga K "Job")) (D2 : OwnD K (He.ga K "Style")) (vs : List V) (H : Hp) (Q : VK) (E : XK) (h : sp_Job_eq K vs H Q E) : t_Job_eq K { nx := fun _ H' => Q .non H', rt := Q } (start ["self", "other"] vs) H := by
  obtain ⟨_, x, z, j, j2, B, M, L, rfl, hI, hX, hZ, q⟩ := h
  show t_Job_eq K ⟨_, _, _, _⟩ [some (.ref x), some (.ref z)] H
  obtain ⟨cl, n1, n2, n3, n4, n5⟩ := C
  obtain ⟨⟨dx, st, h1, h2⟩, hg⟩ := id hX
  obtain ⟨⟨dz, sz, k1, k2⟩, kg⟩ := id hZ
  obtain ⟨_, g1, g2, g3, g4, g5, g6⟩ := id hg
  obtain ⟨_, l1, l2, l3, l4, l5, l6⟩ := id kg
  have hsh : Shn (.tuple [.int (if j.q = true then 0 else 1), .int j.w, .int j.c, .int j.n]) _ 1 := .tup (.cons (shn_int (by split <;> omega) (by split <;> omega)) (.cons (shn_int (by omega) (by omega)) (.cons (shn_int (by omega) (by omega)) (.cons (shn_int (by omega) (by omega)) .nil))))
  have hsh2 : Shn (.tuple [.int (if j2.q = true then 0 else 1), .int j2.w, .int j2.c, .int j2.n]) _ 1 := .tup (.cons (shn_int (by split <;> omega) (by split <;> omega)) (.cons (shn_int (by omega) (by omega)) (.cons (shn_int (by omega) (by omega)) (.cons (shn_int (by omega) (by omega)) .nil))))
  unfold t_Job_eq
  tm_at "go"
  refine' g_isiO D cl (hI.b k1) ?_
  tm_at "go"
  refine' ap_Job_rank (K := K) hI hX ?_
  clear hI
  intro p1 H hI
  tm_at "go"
  refine' ap_Job_rank (K := K) hI hZ ?_
  clear hI
  intro p2 H hI
  refine g_eq_d (.tup (by tm_at "st") (.cons (.int _) (.cons (.int _) (.cons (.int _) (.cons (.int _) .nil))))) (.tup (by tm_at "st") (.cons (.int _) (.cons (.int _) (.cons (.int _) (.cons (.int _) .nil))))) (Shn.shaped hsh (by decide)) (Shn.shaped hsh2 (by decide)) ?_
  rw [eqv_int4]
  by_cases hr : (if j.q = true then (0 : Int) else 1) = (if j2.q = true then 0 else 1) ∧ j.w = j2.w ∧ j.c = j2.c ∧ j.n = j2.n
  · rw [decide_eq_true hr]
    tm_at "go"
    refine' g_styleEq D2 C2 hI h2 k2 ?_
    clear hI
    intro H hI
    have := q _ (hI.forget (by tm_at "sub"))
    obtain ⟨r1, r2, r3, r4⟩ := hr
    rw [show decide (j = j2) = decide (j.nm = j2.nm ∧ j.rs = j2.rs) from by
      apply decide_eq_decide.mpr
      refine ⟨fun e => by subst e; exact ⟨rfl, rfl⟩, fun ⟨e1, e2⟩ => ?_⟩
      cases j
      cases j2
      cases e1
      cases e2
      cases r2
      cases r3
      cases r4
      cases rank_eq.mp r1
      rfl] at this
    exact this
  · rw [decide_eq_false hr]
    tm_at "go"
    have := q _ (hI.forget (by tm_at "sub"))
    rw [decide_eq_false fun e => hr (by subst e; exact ⟨rfl, rfl, rfl, rfl⟩)] at this
    exact this
theorem g_jobEq {K : PySem.W.Frag} {H : Hp} {Q : VK} {E : XK} {x z : Addr} {j j2 : JobT} {B : Hp} {M L : List (Addr × HO)} (D : OwnD K (He.ga K "Job")) (C : JobC K) (I : Is B M L H) (h : JobAt K B x j) (h' : JobAt K B z j2) (q : ∀ H', Is B M L H' → Q (.bl (decide (j = j2))) H') : rOwnEq K (He.ga K "Job") (sp_Job_eq K) (fun vs zs => pick .non [0, 1] (vs ++ zs)) E (.ref x) (.ref z) H Q := by
  obtain ⟨⟨dx, st, h1, _⟩, _⟩ := id h
  obtain ⟨⟨dz, sz, k1, _⟩, _⟩ := id h'
  exact g_ownEqI D C.cl (I.b h1) (I.b k1) (ap_Job_eq I h h' q)
def sp_is_night (K : PySem.W.Frag) : Sp := fun vs H Q _ => vs.length = 1 ∧ ∃ n : Int, vs = [.int n] ∧ 0 ≤ n ∧ n ≤ 99999 ∧ Q (.bl true) H
theorem ap_is_night {K : PySem.W.Frag} {H : Hp} {Q : VK} {E : XK} {n : Int} (h0 : 0 ≤ n) (h1 : n ≤ 99999) (q : Q (.bl true) H) : sp_is_night K [.int n] H Q E := ⟨rfl, n, rfl, h0, h1, q⟩
def t_is_night (K : PySem.W.Frag) : TS := (tRet (tCl 2 1 (sp_is_whole K) (fun vs zs => pick .non [0, 1, 2] (vs ++ (zs ++ [.int 1000000]))) E0 (tCons (tVar 0) (tCons (tC (.int 0)) tNil)) (tCons (tC (.int 99999)) tNil)))
theorem rd_is_night {K : PySem.W.Frag} (vs : List V) (H : Hp) (Q : VK) (E : XK) (h : sp_is_night K vs H Q E) : t_is_night K { nx := fun _ H' => Q .non H', rt := Q } (start ["thing"] vs) H := by
  obtain ⟨_, n, rfl, h0, h1, q⟩ := h
  show t_is_night K ⟨_, _, _, _⟩ [some (.int n)] H
  unfold t_is_night
  tm_at "go"
  exact ap_is_whole_t (K := K) h0 h1 q
structure OrderC (K : PySem.W.Frag) : Prop where
  cl : Cls K (He.ga K "Order")
  n1 : NoAttr K (He.ga K "Order") "for_job"
  n2 : NoAttr K (He.ga K "Order") "at_least"
  n3 : NoAttr K (He.ga K "Order") "from_night"
  n4 : NoAttr K (He.ga K "Order") "to_night"
/-- an order, plain: its job, size, first and last night -/
structure OrdT where
  j : JobT
  z : Int
  a : Int
  b : Int
instance : DecidableEq OrdT := fun o p => decidable_of_iff (o.j = p.j ∧ o.z = p.z ∧ o.a = p.a ∧ o.b = p.b) (by
  cases o
  cases p
  simp)
structure GoodO (o : OrdT) : Prop where
  j : GoodJ o.j
  z0 : 1 ≤ o.z
  z1 : o.z ≤ 60
  a0 : 0 ≤ o.a
  ab : o.a ≤ o.b
  b1 : o.b ≤ 99999
  b30 : o.b ≤ o.a + 30
structure OrderAt (K : PySem.W.Frag) (B : Hp) (x : Addr) (o : OrdT) : Prop where
  ex : ∃ (dx jb : Addr), B x = some (.ins (He.ga K "Order") dx [("for_job", .ref jb), ("at_least", .int o.z), ("from_night", .int o.a), ("to_night", .int o.b)]) ∧ JobAt K B jb o.j
  good : GoodO o
theorem OrderAt.same {K : PySem.W.Frag} {B B' : Hp} {x : Addr} {o : OrdT} (h : OrderAt K B x o) (e : Same B B') : OrderAt K B' x o := by
  obtain ⟨⟨dx, jb, h1, h2⟩, g⟩ := h
  exact ⟨⟨dx, jb, e _ _ h1, h2.same e⟩, g⟩
def sp_Order_init (K : PySem.W.Frag) : Sp := fun vs H Q _ => vs.length = 5 ∧ ∃ (x dx jb : Addr) (lv : V) (o : OrdT) (B : Hp) (M L : List (Addr × HO)), vs = [.ref x, .ref jb, .int o.z, .int o.a, lv] ∧ (lv = .int o.b ∨ (lv = .non ∧ o.b = o.a)) ∧ Is B M ((x, .ins (He.ga K "Order") dx []) :: (dx, .own x) :: L) H ∧ JobAt K B jb o.j ∧ GoodO o ∧
  ∀ (B' H' : Hp), Same B B' → Is B' M L H' → OrderAt K B' x o → Q .non H'
theorem ap_Order_init {K : PySem.W.Frag} {H : Hp} {Q : VK} {E : XK} {x dx jb : Addr} (o : OrdT) {B : Hp} {M L : List (Addr × HO)} (I : Is B M ((x, .ins (He.ga K "Order") dx []) :: (dx, .own x) :: L) H) (h : JobAt K B jb o.j) (hg : GoodO o)
    (q : ∀ (B' H' : Hp), Same B B' → Is B' M L H' → OrderAt K B' x o → Q .non H') : sp_Order_init K [.ref x, .ref jb, .int o.z, .int o.a, .int o.b] H Q E := ⟨rfl, x, dx, jb, _, o, B, M, L, rfl, .inl rfl, I, h, hg, q⟩
abbrev t_Order_init_0 (K : PySem.W.Frag) : TS := (sFld K (tVar 0) (tIf (tTest (tOp rIsNo (tVar 4) (tC .non))) (tVar 3) (tVar 4)) "to_night")
abbrev t_Order_init_1 (K : PySem.W.Frag) : TS := (tSeq (sFld K (tVar 0) (tVar 3) "from_night") (t_Order_init_0 K))
abbrev t_Order_init_2 (K : PySem.W.Frag) : TS := (tSeq (sFld K (tVar 0) (tVar 2) "at_least") (t_Order_init_1 K))
abbrev t_Order_init_3 (K : PySem.W.Frag) : TS := (tSeq (sFld K (tVar 0) (tVar 1) "for_job") (t_Order_init_2 K))
abbrev t_Order_init_4 (K : PySem.W.Frag) : TS := (tSeq (tIfS (tAnd (tTest (tOp rNoNo (tVar 4) (tC .non))) (tNot (tAnd (tTr K (tCl 1 0 (sp_is_night K) (fun vs zs => pick .non [0] (vs ++ zs)) E0 (tCons (tVar 4) tNil) tNil)) (tTest (tChain (rI0 fun i j => .bl (decide (i ≤ j))) (rI0 fun i j => .bl (decide (i ≤ j))) (tVar 3) (tVar 4) (tOp (rAddA K) (tVar 3) (tC (.int 30)))))))) tNoS tNext) (t_Order_init_3 K))
abbrev t_Order_init_5 (K : PySem.W.Frag) : TS := (tSeq (tIfS (tNot (tTr K (tCl 1 0 (sp_is_night K) (fun vs zs => pick .non [0] (vs ++ zs)) E0 (tCons (tVar 3) tNil) tNil))) tNoS tNext) (t_Order_init_4 K))
abbrev t_Order_init_6 (K : PySem.W.Frag) : TS := (tSeq (tIfS (tNot (tTr K (tCl 2 1 (sp_is_whole K) (fun vs zs => pick .non [0, 1, 2] (vs ++ (zs ++ [.int 1000000]))) E0 (tCons (tVar 2) (tCons (tC (.int 1)) tNil)) (tCons (tC (.int 60)) tNil)))) tNoS tNext) (t_Order_init_5 K))
def t_Order_init (K : PySem.W.Frag) : TS := (tSeq (tIfS (tNot (tTr K (tCB (rIsi K) (tCons (tVar 1) (tCons (tC (.ref (He.ga K "Job"))) tNil))))) tNoS tNext) (t_Order_init_6 K))
theorem rd_Order_init {K : PySem.W.Frag} (C : OrderC K) (C2 : JobC K) (D : OwnD K (He.ga K "Job")) (vs : List V) (H : Hp) (Q : VK) (E : XK) (h : sp_Order_init K vs H Q E) : t_Order_init K { nx := fun _ H' => Q .non H', rt := Q } (start ["self", "job", "size", "first", "last"] vs) H := by
  obtain ⟨_, x, dx, jb, lv, ⟨j, z, a, b⟩, B, M, L, rfl, hlv, hI, hJ, hg, q⟩ := h
  show t_Order_init K ⟨_, _, _, _⟩ [some (.ref x), some (.ref jb), some (.int z), some (.int a), some lv] H
  obtain ⟨cl, n1, n2, n3, n4⟩ := C
  obtain ⟨⟨ds, st, h1, h2⟩, _⟩ := id hJ
  obtain ⟨_, g1, g2, g3, g4, g5, g6⟩ := id hg
  replace g1 : 1 ≤ z := g1
  replace g2 : z ≤ 60 := g2
  replace g3 : 0 ≤ a := g3
  replace g4 : a ≤ b := g4
  replace g5 : b ≤ 99999 := g5
  replace g6 : b ≤ a + 30 := g6
  unfold t_Order_init
  tm_at "go"
  refine' g_isiO D C2.cl (hI.b h1) ?_
  tm_at "go"
  refine' ap_is_whole_t (K := K) g1 g2 ?_
  tm_at "go"
  refine' ap_is_night (K := K) g3 (by omega) ?_
  tm_at "go"
  rcases hlv with rfl | ⟨rfl, e⟩
  · refine g_ndec (fun _ => ?_) (fun h => by cases h)
    tm_at "go"
    refine' ap_is_night (K := K) (by omega) g5 ?_
    tm_at "go"
    refine g_dec (fun _ => ?_) (fun h => absurd g4 h)
    tm_at "go"
    refine g_ndec (fun h => absurd g6 h) (fun _ => ?_)
    tm_at "go"
    refine g_dec (fun h => by cases h) (fun _ => ?_)
    tm_at "go"
    refine' hI.give (a := x) (by tm_at "del") ?_
    clear hI
    intro B1 s1 k1 hI
    exact q B1 _ s1 (hI.forget (by tm_at "sub")) ⟨⟨dx, jb, k1, hJ.same s1⟩, hg⟩
  · have e : b = a := e
    subst e
    refine g_ndec (fun h => absurd rfl h) (fun _ => ?_)
    tm_at "go"
    refine g_dec (fun _ => ?_) (fun h => absurd rfl h)
    tm_at "go"
    refine' hI.give (a := x) (by tm_at "del") ?_
    clear hI
    intro B1 s1 k1 hI
    exact q B1 _ s1 (hI.forget (by tm_at "sub")) ⟨⟨dx, jb, k1, hJ.same s1⟩, hg⟩
def sp_Order_wants (K : PySem.W.Frag) : Sp := fun vs H Q _ => vs.length = 1 ∧ ∃ (x : Addr) (o : OrdT) (B : Hp) (M L : List (Addr × HO)), vs = [.ref x] ∧ Is B M L H ∧ OrderAt K B x o ∧ ∀ p H', Is B M ((p, .tup [.int o.z, .int o.a, .int o.b]) :: L) H' → Q (.ref p) H'
theorem ap_Order_wants {K : PySem.W.Frag} {H : Hp} {Q : VK} {E : XK} {x : Addr} {o : OrdT} {B : Hp} {M L : List (Addr × HO)} (I : Is B M L H) (h : OrderAt K B x o) (q : ∀ p H', Is B M ((p, .tup [.int o.z, .int o.a, .int o.b]) :: L) H' → Q (.ref p) H') : sp_Order_wants K [.ref x] H Q E := ⟨rfl, x, o, B, M, L, rfl, I, h, q⟩
def t_Order_wants (K : PySem.W.Frag) : TS := (tRet (tTup (tCons (tFld K (tVar 0) "at_least") (tCons (tFld K (tVar 0) "from_night") (tCons (tFld K (tVar 0) "to_night") tNil)))))
theorem rd_Order_wants {K : PySem.W.Frag} (C : OrderC K) (vs : List V) (H : Hp) (Q : VK) (E : XK) (h : sp_Order_wants K vs H Q E) : t_Order_wants K { nx := fun _ H' => Q .non H', rt := Q } (start ["self"] vs) H := by
  obtain ⟨_, x, o, B, M, L, rfl, hI, hX, q⟩ := h
  show t_Order_wants K ⟨_, _, _, _⟩ [some (.ref x)] H
  obtain ⟨cl, n1, n2, n3, n4⟩ := C
  obtain ⟨⟨dx, jb, h1, h2⟩, hg⟩ := id hX
  unfold t_Order_wants
  tm_at "go"
  exact q _ _ hI
theorem eqv_int3 (a b c a' b' c' : Int) : PyData.eqv (.tuple [.int a, .int b, .int c]) (.tuple [.int a', .int b', .int c']) = decide (a = a' ∧ b = b' ∧ c = c') := by
  simp only [PyData.eqv, PyData.eqvAll, Bool.and_true, Bool.decide_and]
  rfl
def sp_Order_eq (K : PySem.W.Frag) : Sp := fun vs H Q _ => vs.length = 2 ∧ ∃ (x : Addr) (v : V) (o : OrdT) (B : Hp) (M L : List (Addr × HO)), vs = [.ref x, v] ∧ Is B M L H ∧ OrderAt K B x o ∧
  ((∃ (z : Addr) (o2 : OrdT), v = .ref z ∧ OrderAt K B z o2 ∧ ∀ H', Is B M L H' → Q (.bl (decide (o = o2))) H') ∨ (NotI K H v (He.ga K "Order") ∧ Q (.bl false) H))
theorem ap_Order_eq {K : PySem.W.Frag} {H : Hp} {Q : VK} {E : XK} {x z : Addr} {o o2 : OrdT} {B : Hp} {M L : List (Addr × HO)} (I : Is B M L H) (h : OrderAt K B x o) (h' : OrderAt K B z o2) (q : ∀ H', Is B M L H' → Q (.bl (decide (o = o2))) H') : sp_Order_eq K [.ref x, .ref z] H Q E := ⟨rfl, x, _, o, B, M, L, rfl, I, h, .inl ⟨z, o2, rfl, h', q⟩⟩
def t_Order_eq (K : PySem.W.Frag) : TS := (tRet (tAndV (tCB (rIsi K) (tCons (tVar 1) (tCons (tC (.ref (He.ga K "Order"))) tNil))) (tAndV (tOp (rOwnEq K (He.ga K "Job") (sp_Job_eq K) (fun vs zs => pick .non [0, 1] (vs ++ zs)) E0) (tFld K (tVar 0) "for_job") (tFld K (tVar 1) "for_job")) (tOp (rEqA K) (tMe (He.ga K "Order") "wants" 0 0 (sp_Order_wants K) (fun vs zs => pick .non [0] (vs ++ zs)) E0 (tVar 0) tNil tNil) (tMe (He.ga K "Order") "wants" 0 0 (sp_Order_wants K) (fun vs zs => pick .non [0] (vs ++ zs)) E0 (tVar 1) tNil tNil)))))
theorem rd_Order_eq {K : PySem.W.Frag} (C : OrderC K) (C2 : JobC K) (D : OwnD K (He.ga K "Order")) (D2 : OwnD K (He.ga K "Job")) (vs : List V) (H : Hp) (Q : VK) (E : XK) (h : sp_Order_eq K vs H Q E) : t_Order_eq K { nx := fun _ H' => Q .non H', rt := Q } (start ["self", "other"] vs) H := by
  obtain ⟨_, x, v, o, B, M, L, rfl, hI, hX, hc⟩ := h
  show t_Order_eq K ⟨_, _, _, _⟩ [some (.ref x), some v] H
  obtain ⟨cl, n1, n2, n3, n4⟩ := id C
  unfold t_Order_eq
  rcases hc with ⟨z, o2, rfl, hZ, q⟩ | ⟨hn, q⟩
  · obtain ⟨⟨dx, jb, h1, h2⟩, hg⟩ := id hX
    obtain ⟨⟨dz, jz, k1, k2⟩, kg⟩ := id hZ
    obtain ⟨_, g1, g2, g3, g4, g5, g6⟩ := id hg
    obtain ⟨_, l1, l2, l3, l4, l5, l6⟩ := id kg
    have hsh : ∀ {o : OrdT}, GoodO o → Shn (.tuple [.int o.z, .int o.a, .int o.b]) _ 1 := fun ⟨_, g1, g2, g3, g4, g5, g6⟩ => .tup (.cons (shn_int (by omega) (by omega)) (.cons (shn_int (by omega) (by omega)) (.cons (shn_int (by omega) (by omega)) .nil)))
    tm_at "go"
    refine' g_isiO D cl (hI.b k1) ?_
    tm_at "go"
    refine' g_jobEq D2 C2 hI h2 k2 ?_
    clear hI
    intro H hI
    by_cases hj : o.j = o2.j
    · rw [decide_eq_true hj]
      tm_at "go"
      refine' ap_Order_wants (K := K) hI hX ?_
      clear hI
      intro p1 H hI
      tm_at "go"
      refine' ap_Order_wants (K := K) hI hZ ?_
      clear hI
      intro p2 H hI
      refine g_eq_d (.tup (by tm_at "st") (.cons (.int _) (.cons (.int _) (.cons (.int _) .nil)))) (.tup (by tm_at "st") (.cons (.int _) (.cons (.int _) (.cons (.int _) .nil)))) (Shn.shaped (hsh hg) (by decide)) (Shn.shaped (hsh kg) (by decide)) ?_
      rw [eqv_int3]
      have := q _ (hI.forget (by tm_at "sub"))
      rw [show decide (o = o2) = decide (o.z = o2.z ∧ o.a = o2.a ∧ o.b = o2.b) from by
        apply decide_eq_decide.mpr
        refine ⟨fun e => by subst e; exact ⟨rfl, rfl, rfl⟩, fun ⟨e1, e2, e3⟩ => ?_⟩
        cases o
        cases o2
        cases hj
        cases e1
        cases e2
        cases e3
        rfl] at this
      exact this
    · rw [decide_eq_false hj]
      tm_at "go"
      have := q _ (hI.forget (by tm_at "sub"))
      rw [decide_eq_false fun e => hj (by subst e; rfl)] at this
      exact this
  · tm_at "go"
    refine' g_isiNI hn ?_
    tm_at "go"
    exact q
section
variable {K : PySem.W.Frag} {H : Hp} {Q : VK} {E : XK} {x z : Addr} {o o2 : OrdT} {B : Hp} {M L : List (Addr × HO)}
theorem g_ordNe (D : OwnD K (He.ga K "Order")) (C : OrderC K) (I : Is B M L H) (h : OrderAt K B x o) (h' : OrderAt K B z o2) (q : ∀ H', Is B M L H' → Q (.bl (!decide (o = o2))) H') : rOwnNe K (He.ga K "Order") (sp_Order_eq K) (fun vs zs => pick .non [0, 1] (vs ++ zs)) E (.ref x) (.ref z) H Q := by
  obtain ⟨⟨dx, st, h1, _⟩, _⟩ := id h
  obtain ⟨⟨dz, sz, k1, _⟩, _⟩ := id h'
  exact g_ownNeI D C.cl (I.b h1) (I.b k1) (ap_Order_eq I h h' fun H' I' => g_aNeg (q _ I'))
end
def SlotOk (n : Nat) (s : SltT) : Prop := 0 ≤ s.1 ∧ s.1 ≤ 99999 ∧ 1 ≤ s.2 ∧ s.2 ≤ (n : Int)
structure GoodH (zs : List Int) (gs : List SltT) : Prop where
  z0 : 1 ≤ zs.length
  z9 : zs.length ≤ 9
  z : ∀ z ∈ zs, 1 ≤ z ∧ z ≤ 60
  g : ∀ s ∈ gs, SlotOk zs.length s
  nd : gs.Nodup
  l : gs.length < 64
theorem SlotOk.slt {n : Nat} {s : SltT} (h : SlotOk n s) (hn : n ≤ 9) : SltG s := by
  obtain ⟨h1, h2, h3, h4⟩ := h
  exact ⟨⟨h1, by omega⟩, by omega, by omega⟩
theorem GoodH.slt {zs : List Int} {gs : List SltT} (h : GoodH zs gs) : ∀ s ∈ gs, SltG s := fun s hs => (h.g s hs).slt h.z9
theorem GoodH.perm {zs : List Int} {gs hs : List SltT} (h : GoodH zs gs) (p : hs.Perm gs) : GoodH zs hs := ⟨h.z0, h.z9, h.z, fun s m => h.g s (p.mem_iff.mp m), p.nodup_iff.mpr h.nd, by rw [p.length_eq]; exact h.l⟩
def sp_is_slot_of (K : PySem.W.Frag) : Sp := fun vs H Q _ => vs.length = 2 ∧ ∃ (a : Addr) (s : SltT) (n : Nat), vs = [.ref a, .int (n : Int)] ∧ H a = some (.tup [.int s.1, .int s.2]) ∧ SlotOk n s ∧ Q (.bl true) H
theorem ap_is_slot_of {K : PySem.W.Frag} {H : Hp} {Q : VK} {E : XK} {a : Addr} {s : SltT} {n : Nat} (h : H a = some (.tup [.int s.1, .int s.2])) (hs : SlotOk n s) (q : Q (.bl true) H) : sp_is_slot_of K [.ref a, .int (n : Int)] H Q E := ⟨rfl, a, s, n, rfl, h, hs, q⟩
abbrev t_is_slot_of_0 (K : PySem.W.Frag) : TS := (tRet (tAndV (tCl 1 0 (sp_is_night K) (fun vs zs => pick .non [0] (vs ++ zs)) E0 (tCons (tOp (rIx K) (tVar 0) (tC (.int 0))) tNil) tNil) (tCl 2 1 (sp_is_whole K) (fun vs zs => pick .non [0, 1, 2] (vs ++ (zs ++ [.int 1000000]))) E0 (tCons (tOp (rIx K) (tVar 0) (tC (.int 1))) (tCons (tC (.int 1)) tNil)) (tCons (tVar 1) tNil))))
def t_is_slot_of (K : PySem.W.Frag) : TS := (tSeq (tIfS (tOr (tNot (tTr K (tCB (rIsi K) (tCons (tVar 0) (tCons (tC (.ty "tuple")) tNil))))) (tTest (tOp (rNeA K) (tCB (rLen K) (tCons (tVar 0) tNil)) (tC (.int 2))))) (tRet (tC (.bl false))) tNext) (t_is_slot_of_0 K))
theorem rd_is_slot_of {K : PySem.W.Frag} (vs : List V) (H : Hp) (Q : VK) (E : XK) (h : sp_is_slot_of K vs H Q E) : t_is_slot_of K { nx := fun _ H' => Q .non H', rt := Q } (start ["thing", "frames"] vs) H := by
  obtain ⟨_, a, s, n, rfl, ha, ⟨h1, h2, h3, h4⟩, q⟩ := h
  show t_is_slot_of K ⟨_, _, _, _⟩ [some (.ref a), some (.int (n : Int))] H
  have hT : Thing K H (.ref a) .tup := thing_tup ha
  unfold t_is_slot_of
  tm_at "go"
  refine g_ndec (fun h => absurd rfl h) (fun _ => ?_)
  tm_at "go"
  refine g_ix_t (SqT.of ha) (atI_of (by decide) rfl) ?_
  tm_at "go"
  refine' ap_is_night (K := K) h1 h2 ?_
  tm_at "go"
  refine g_ix_t (SqT.of ha) (atI_of (by decide) rfl) ?_
  tm_at "go"
  refine' ap_is_whole_t (K := K) h3 h4 ?_
  exact q
def sp_are_sizes (K : PySem.W.Frag) : Sp := fun vs H Q _ => vs.length = 1 ∧ ∃ (a : Addr) (zs : List Int) (B : Hp) (M L : List (Addr × HO)), vs = [.ref a] ∧ Is B M L H ∧ B a = some (.lst (zs.map V.int)) ∧ 1 ≤ zs.length ∧ zs.length ≤ 9 ∧ (∀ z ∈ zs, 1 ≤ z ∧ z ≤ 60) ∧ ∀ H', Is B M L H' → Q (.bl true) H'
theorem ap_are_sizes {K : PySem.W.Frag} {H : Hp} {Q : VK} {E : XK} {a : Addr} {zs : List Int} {B : Hp} {M L : List (Addr × HO)} (I : Is B M L H) (ha : B a = some (.lst (zs.map V.int))) (h0 : 1 ≤ zs.length) (h1 : zs.length ≤ 9) (h : ∀ z ∈ zs, 1 ≤ z ∧ z ≤ 60) (q : ∀ H', Is B M L H' → Q (.bl true) H') : sp_are_sizes K [.ref a] H Q E := ⟨rfl, a, zs, B, M, L, rfl, I, ha, h0, h1, h, q⟩
abbrev t_are_sizes_0 (K : PySem.W.Frag) : TS := (tRet (tCB (rAll K) (tCons (tLc (iAny K (tVar 0)) (gName 1) tYes (tCl 2 1 (sp_is_whole K) (fun vs zs => pick .non [0, 1, 2] (vs ++ (zs ++ [.int 1000000]))) E0 (tCons (tVar 1) (tCons (tC (.int 1)) tNil)) (tCons (tC (.int 60)) tNil)) [1]) tNil)))
def t_are_sizes (K : PySem.W.Frag) : TS := (tSeq (tIfS (tOr (tNot (tTr K (tCB (rIsiT K) (tCons (tVar 0) (tCons (tTup (tCons (tC (.ty "list")) (tCons (tC (.ty "tuple")) tNil))) tNil))))) (tNot (tTest (tChain (rI0 fun i j => .bl (decide (i ≤ j))) (rI0 fun i j => .bl (decide (i ≤ j))) (tC (.int 1)) (tCB (rLen K) (tCons (tVar 0) tNil)) (tC (.int 9)))))) (tRet (tC (.bl false))) tNext) (t_are_sizes_0 K))
theorem rd_are_sizes {K : PySem.W.Frag} (vs : List V) (H : Hp) (Q : VK) (E : XK) (h : sp_are_sizes K vs H Q E) : t_are_sizes K { nx := fun _ H' => Q .non H', rt := Q } (start ["thing", "size"] vs) H := by
  obtain ⟨_, a, zs, B, M, L, rfl, hI, ha, h0, h1, hg, q⟩ := h
  show t_are_sizes K ⟨_, _, _, _⟩ [some (.ref a), none] H
  have hT : Thing K B (.ref a) .lst := thing_lst ha
  unfold t_are_sizes
  tm_at "go"
  simp only [List.length_map]
  refine g_dec (fun _ => ?_) (fun h => absurd (by omega) h)
  tm_at "go"
  refine g_ndec (fun h => absurd (by omega) h) (fun _ => ?_)
  tm_at "go"
  refine' g_lcX (xs := zs.map V.int) (zs.map fun _ => V.bl true) (by rw [List.length_map, List.length_map]) walk_list hI (by tm_at "wiped") (by rw [List.length_map]; omega) (fun D acc H' I => Is.sq I (SqL.of ha)) ?_ ?_
  · intro i x y D acc H' hx hy hI PY q
    obtain ⟨z, e, hz⟩ : ∃ z, zs[i]? = some z ∧ x = .int z := by
      rw [List.getElem?_map] at hx
      obtain ⟨z, e, e2⟩ := Option.map_eq_some_iff.mp hx
      exact ⟨z, e, e2.symm⟩
    subst hz
    have hy : y = .bl true := by
      rw [List.getElem?_map, e] at hy
      exact (Option.some.inj hy).symm
    obtain ⟨z0, z1⟩ := hg z (List.mem_of_getElem? e)
    tm_at "go"
    refine' g_wiped (by tm_at "wiped") ?_
    tm_at "go"
    refine' ap_is_whole_t (K := K) z0 z1 ?_
    rw [← hy]
    exact q _ hI
  · intro D H' hI
    tm_at "go"
    refine g_all (l := zs) (P := fun _ => true) (by tm_at "sq") ?_
    rw [all_true]
    exact q _ (hI.forget (by tm_at "sub"))
def sp_are_lost (K : PySem.W.Frag) : Sp := fun vs H Q _ => vs.length = 2 ∧ ∃ (a : Addr) (n : Nat) (xs : List V) (gs : List SltT) (B : Hp) (M L : List (Addr × HO)), vs = [.ref a, .int (n : Int)] ∧ Is B M L H ∧ B a = some (.lst xs) ∧ SlotsB B xs gs ∧ (∀ s ∈ gs, SlotOk n s) ∧ gs.Nodup ∧ gs.length < 64 ∧ ∀ H', Is B M L H' → Q (.bl true) H'
theorem ap_are_lost {K : PySem.W.Frag} {H : Hp} {Q : VK} {E : XK} {a : Addr} {n : Nat} {xs : List V} {gs : List SltT} {B : Hp} {M L : List (Addr × HO)} (I : Is B M L H) (ha : B a = some (.lst xs)) (hx : SlotsB B xs gs) (hg : ∀ s ∈ gs, SlotOk n s) (nd : gs.Nodup) (hl : gs.length < 64) (q : ∀ H', Is B M L H' → Q (.bl true) H') : sp_are_lost K [.ref a, .int (n : Int)] H Q E := ⟨rfl, a, n, xs, gs, B, M, L, rfl, I, ha, hx, hg, nd, hl, q⟩
abbrev t_are_lost_0 (K : PySem.W.Frag) : TS := (tRet (tAndV (tCB (rAll K) (tCons (tLc (iAny K (tVar 0)) (gName 2) tYes (tCl 2 0 (sp_is_slot_of K) (fun vs zs => pick .non [0, 1] (vs ++ zs)) E0 (tCons (tVar 2) (tCons (tVar 1) tNil)) tNil) [2]) tNil)) (tOp (rEqA K) (tLenSetT K (tVar 0)) (tCB (rLen K) (tCons (tVar 0) tNil)))))
def t_are_lost (K : PySem.W.Frag) : TS := (tSeq (tIfS (tOr (tNot (tTr K (tCB (rIsiT K) (tCons (tVar 0) (tCons (tTup (tCons (tC (.ty "list")) (tCons (tC (.ty "tuple")) tNil))) tNil))))) (tTest (tOp (rI0 fun i j => .bl (decide (j < i))) (tCB (rLen K) (tCons (tVar 0) tNil)) (tC (.int 100))))) (tRet (tC (.bl false))) tNext) (t_are_lost_0 K))
theorem rd_are_lost {K : PySem.W.Frag} (vs : List V) (H : Hp) (Q : VK) (E : XK) (h : sp_are_lost K vs H Q E) : t_are_lost K { nx := fun _ H' => Q .non H', rt := Q } (start ["thing", "frames", "slot"] vs) H := by
  obtain ⟨_, a, n, xs, gs, B, M, L, rfl, hI, ha, hx, hg, nd, hl, q⟩ := h
  show t_are_lost K ⟨_, _, _, _⟩ [some (.ref a), some (.int (n : Int)), none] H
  have hT : Thing K B (.ref a) .lst := thing_lst ha
  have hxl := hx.len
  unfold t_are_lost
  tm_at "go"
  refine g_dec (fun h => absurd h (by omega)) (fun _ => ?_)
  tm_at "go"
  refine' g_lcX (xs := xs) (gs.map fun _ => V.bl true) (by rw [List.length_map, hxl]) walk_list hI (by tm_at "wiped") (by omega) (fun D acc H' I => Is.sq I (SqL.of ha)) ?_ ?_
  · intro i x y D acc H' hv hy hI PY q
    obtain ⟨s, e, b, rfl, hb⟩ := hx.get hv
    have hy : y = .bl true := by
      rw [List.getElem?_map, e] at hy
      exact (Option.some.inj hy).symm
    tm_at "go"
    refine' g_wiped (by tm_at "wiped") ?_
    tm_at "go"
    refine' ap_is_slot_of (K := K) (hI.b hb) (hg s (List.mem_of_getElem? e)) ?_
    rw [← hy]
    exact q _ hI
  · intro D H' hI
    tm_at "go"
    refine g_all (l := gs) (P := fun _ => true) (by tm_at "sq") ?_
    rw [all_true]
    tm_at "go"
    refine g_lenSetV (by tm_at "at") (SqL.of (hI.b ha)) (hx.same hI.ex) (by omega) nd ?_
    tm_at "go"
    rw [hxl, decide_eq_true (show V.int ((gs.length : Nat) : Int) = V.int ((gs.length : Nat) : Int) from rfl)]
    exact q _ (hI.forget (by tm_at "sub"))
structure HallC (K : PySem.W.Frag) : Prop where
  cl : Cls K (He.ga K "Hall")
  n1 : NoAttr K (He.ga K "Hall") "frame_sizes"
  n2 : NoAttr K (He.ga K "Hall") "gone_slots"
  n3 : NoAttr K (He.ga K "Hall") "gone_at"
structure HallAt (K : PySem.W.Frag) (B : Hp) (x : Addr) (zs : List Int) (gs : List SltT) : Prop where
  ex : ∃ (dx fa ga da : Addr) (gx : List V), B x = some (.ins (He.ga K "Hall") dx [("frame_sizes", .ref fa), ("gone_slots", .ref ga), ("gone_at", .ref da)]) ∧ B fa = some (.lst (zs.map V.int)) ∧ B ga = some (.lst gx) ∧ SlotsB B gx gs ∧ B da = some (.dT (goneD gs))
  good : GoodH zs gs
  so : gs.Pairwise fun a b => codS a ≤ codS b
theorem HallAt.same {K : PySem.W.Frag} {B B' : Hp} {x : Addr} {zs : List Int} {gs : List SltT} (h : HallAt K B x zs gs) (e : Same B B') : HallAt K B' x zs gs := by
  obtain ⟨⟨dx, fa, ga, da, gx, h1, h2, h3, h4, h5⟩, g, o⟩ := h
  exact ⟨⟨dx, fa, ga, da, gx, e _ _ h1, e _ _ h2, e _ _ h3, h4.same e, e _ _ h5⟩, g, o⟩
def sp_Hall_init (K : PySem.W.Frag) : Sp := fun vs H Q _ => vs.length = 3 ∧ ∃ (x dx a : Addr) (lv : V) (zs : List Int) (ss : List SltT) (B : Hp) (M L : List (Addr × HO)), vs = [.ref x, .ref a, lv] ∧ Is B M ((x, .ins (He.ga K "Hall") dx []) :: (dx, .own x) :: L) H ∧ B a = some (.lst (zs.map V.int)) ∧
  ((lv = .non ∧ ss = []) ∨ ∃ b xs, lv = .ref b ∧ B b = some (.lst xs) ∧ SlotsB B xs ss) ∧ GoodH zs ss ∧ ∀ (B' H' : Hp) (gs : List SltT), Same B B' → Is B' M L H' → gs.Perm ss → HallAt K B' x zs gs → Q .non H'
theorem ap_Hall_init {K : PySem.W.Frag} {H : Hp} {Q : VK} {E : XK} {x dx a b : Addr} {xs : List V} {zs : List Int} {ss : List SltT} {B : Hp} {M L : List (Addr × HO)} (I : Is B M ((x, .ins (He.ga K "Hall") dx []) :: (dx, .own x) :: L) H) (ha : B a = some (.lst (zs.map V.int))) (hb : B b = some (.lst xs)) (hx : SlotsB B xs ss) (hg : GoodH zs ss)
    (q : ∀ (B' H' : Hp) (gs : List SltT), Same B B' → Is B' M L H' → gs.Perm ss → HallAt K B' x zs gs → Q .non H') : sp_Hall_init K [.ref x, .ref a, .ref b] H Q E := ⟨rfl, x, dx, a, _, zs, ss, B, M, L, rfl, I, ha, .inr ⟨b, xs, rfl, hb, hx⟩, hg, q⟩
theorem ap_Hall_init0 {K : PySem.W.Frag} {H : Hp} {Q : VK} {E : XK} {x dx a : Addr} {zs : List Int} {B : Hp} {M L : List (Addr × HO)} (I : Is B M ((x, .ins (He.ga K "Hall") dx []) :: (dx, .own x) :: L) H) (ha : B a = some (.lst (zs.map V.int))) (hg : GoodH zs [])
    (q : ∀ (B' H' : Hp), Same B B' → Is B' M L H' → HallAt K B' x zs [] → Q .non H') : sp_Hall_init K [.ref x, .ref a, .non] H Q E := ⟨rfl, x, dx, a, _, zs, [], B, M, L, rfl, I, ha, .inl ⟨rfl, rfl⟩, hg, fun B' H' gs s I p h => by
      rw [List.Perm.eq_nil p] at h
      exact q B' H' s I h⟩
abbrev t_Hall_init_0 (K : PySem.W.Frag) : TS := (sFld K (tVar 0) (tCB (rDictT K) (tCons (tLc (iAny K (tFld K (tVar 0) "gone_slots")) (gName 3) tYes (tTup (tCons (tVar 3) (tCons (tC (.bl true)) tNil))) [3]) tNil)) "gone_at")
abbrev t_Hall_init_1 (K : PySem.W.Frag) : TS := (tSeq (sFld K (tVar 0) (tIf (tTest (tOp rIsNo (tVar 2) (tC .non))) (tLst tNil) (tCB (rSortU K 2 100000) (tCons (tVar 2) tNil))) "gone_slots") (t_Hall_init_0 K))
abbrev t_Hall_init_2 (K : PySem.W.Frag) : TS := (tSeq (sFld K (tVar 0) (tCB (rListOf K) (tCons (tVar 1) tNil)) "frame_sizes") (t_Hall_init_1 K))
abbrev t_Hall_init_3 (K : PySem.W.Frag) : TS := (tSeq (tIfS (tAnd (tTest (tOp rNoNo (tVar 2) (tC .non))) (tNot (tTr K (tCl 2 0 (sp_are_lost K) (fun vs zs => pick .non [0, 1] (vs ++ zs)) E0 (tCons (tVar 2) (tCons (tCB (rLen K) (tCons (tVar 1) tNil)) tNil)) tNil)))) tNoS tNext) (t_Hall_init_2 K))
def t_Hall_init (K : PySem.W.Frag) : TS := (tSeq (tIfS (tNot (tTr K (tCl 1 0 (sp_are_sizes K) (fun vs zs => pick .non [0] (vs ++ zs)) E0 (tCons (tVar 1) tNil) tNil))) tNoS tNext) (t_Hall_init_3 K))
theorem rd_Hall_init {K : PySem.W.Frag} (C : HallC K) (vs : List V) (H : Hp) (Q : VK) (E : XK) (h : sp_Hall_init K vs H Q E) : t_Hall_init K { nx := fun _ H' => Q .non H', rt := Q } (start ["self", "sizes", "lost", "slot"] vs) H := by
  obtain ⟨_, x, dx, a, lv, zs, ss, B, M, L, rfl, hI, ha, hlv, hg, q⟩ := h
  show t_Hall_init K ⟨_, _, _, _⟩ [some (.ref x), some (.ref a), some lv, none] H
  obtain ⟨cl, n1, n2, n3⟩ := C
  unfold t_Hall_init
  tm_at "go"
  refine' ap_are_sizes (K := K) hI ha hg.z0 hg.z9 hg.z ?_
  clear hI
  intro H hI
  tm_at "go"
  rcases hlv with ⟨rfl, rfl⟩ | ⟨b, xs, rfl, hb, hx⟩
  case' inl =>
    refine g_ndec (fun h => absurd rfl h) (fun _ => ?_)
    tm_at "go"
    refine g_dec (fun _ => ?_) (fun h => absurd rfl h)
    tm_at "go"
    replace hI : ∃ (ys : List V) (gs : List SltT), SlotsB B ys gs ∧ gs.Perm [] ∧ gs.Pairwise (fun a b => codS a ≤ codS b) ∧ Is B M ((p, .lst ys) :: _) H := ⟨[], [], .nil, .refl _, .nil, hI⟩
    obtain ⟨ys, gs, hgx, hpm, hpw, hI⟩ := hI
  case' inr =>
    have hxl := hx.len
    refine g_ndec (fun _ => ?_) (fun h => by cases h)
    tm_at "go"
    rw [List.length_map]
    refine' ap_are_lost (K := K) hI hb hx hg.g hg.nd hg.l ?_
    clear hI
    intro H hI
    tm_at "go"
    refine g_dec (fun h => by cases h) (fun _ => ?_)
    tm_at "go"
    refine g_sortSlots hI (SqL.of (hI.b hb)) hx hg.slt (by have := hg.l; omega) ?_
    clear hI
    intro p ys gs H hgx hpm hpw hI
    tm_at "go"
  all_goals
    have hgl := hgx.len
    have hnd := hpm.nodup_iff.mpr hg.nd
    have hz := Nat.lt_of_le_of_lt (Nat.le_of_eq hpm.length_eq) hg.l
    refine' g_aLc (walk_list (xs := ys)) hI (by tm_at "wiped") (by omega) (fun i acc B' M' => M' = M ∧ All2 (PairR B') acc (gs.take i)) ⟨rfl, .nil⟩ ?_ ?_ ?_
    · rintro i acc B2 M2 D H1 _ s2 I ⟨rfl, _⟩
      exact SqL.of (I.get (.tail _ (.head _)))
    · rintro i v acc B2 M2 D H1 H2 hi s2 hI ⟨rfl, hacc⟩ ⟨rfl, hv⟩ hle
      obtain ⟨s, es, c, rfl, hc⟩ := hgx.get hv
      replace hc := s2 _ _ hc
      tm_at "go"
      refine' g_wiped (by tm_at "wiped") ?_
      tm_at "go"
      refine' hI.give .here ?_
      clear hI
      intro B3 s3 k3 hI
      refine lcY (s2.trans s3) hI hle ⟨rfl, ?_⟩
      rw [take_snocI es]
      exact (All2.mono (fun _ _ ⟨t, a, e, h1, h2⟩ => ⟨t, a, e, s3 _ _ h1, s3 _ _ h2⟩) hacc).snoc ⟨_, c, rfl, k3, s3 _ _ hc⟩
    · clear hI
      rintro acc B2 M2 D H s2 hI ⟨rfl, hacc⟩ _
      rw [List.take_of_length_le (by omega)] at hacc
      tm_at "go"
      refine g_dictT hI (by tm_at "sq") hacc hnd ?_
      clear hI
      intro pd H hI
      tm_at "go"
      refine' hI.give .here ?_
      clear hI
      intro B3 s3 k3 hI
      refine' hI.give .here ?_
      clear hI
      intro B4 s4 k4 hI
      refine' hI.give .here ?_
      clear hI
      intro B5 s5 k5 hI
      refine' hI.give .here ?_
      clear hI
      intro B6 s6 k6 hI
      refine' hI.give .here ?_
      clear hI
      intro B7 s7 k7 hI
      have s37 := s4.trans (s5.trans (s6.trans s7))
      have s27 := s2.trans (s3.trans s37)
      exact q B7 _ gs s27 (hI.forget (by tm_at "sub")) hpm ⟨⟨dx, _, _, _, ys, k7, s7 _ _ k6, s7 _ _ (s6 _ _ k5), hgx.same s27, s37 _ _ k3⟩, hg.perm hpm, hpw⟩
def sp_Hall_lost (K : PySem.W.Frag) : Sp := fun vs H Q _ => vs.length = 1 ∧ ∃ (x : Addr) (zs : List Int) (gs : List SltT) (B : Hp) (M L : List (Addr × HO)), vs = [.ref x] ∧ Is B M L H ∧ HallAt K B x zs gs ∧ ∀ p xs H', SlotsB B xs gs → Is B M ((p, .lst xs) :: L) H' → Q (.ref p) H'
theorem ap_Hall_lost {K : PySem.W.Frag} {H : Hp} {Q : VK} {E : XK} {x : Addr} {zs : List Int} {gs : List SltT} {B : Hp} {M L : List (Addr × HO)} (I : Is B M L H) (h : HallAt K B x zs gs) (q : ∀ p xs H', SlotsB B xs gs → Is B M ((p, .lst xs) :: L) H' → Q (.ref p) H') : sp_Hall_lost K [.ref x] H Q E := ⟨rfl, x, zs, gs, B, M, L, rfl, I, h, q⟩
def t_Hall_lost (K : PySem.W.Frag) : TS := (tRet (tCB (rListOf K) (tCons (tFld K (tVar 0) "gone_slots") tNil)))
theorem rd_Hall_lost {K : PySem.W.Frag} (C : HallC K) (vs : List V) (H : Hp) (Q : VK) (E : XK) (h : sp_Hall_lost K vs H Q E) : t_Hall_lost K { nx := fun _ H' => Q .non H', rt := Q } (start ["self"] vs) H := by
  obtain ⟨_, x, zs, gs, B, M, L, rfl, hI, hX, q⟩ := h
  show t_Hall_lost K ⟨_, _, _, _⟩ [some (.ref x)] H
  obtain ⟨cl, n1, n2, n3⟩ := C
  obtain ⟨⟨dx, fa, ga, da, gx, h1, h2, h3, h4, h5⟩, hg, ho⟩ := id hX
  unfold t_Hall_lost
  tm_at "go"
  exact q _ _ _ h4 hI
def sp_Hall_has_frame_of (K : PySem.W.Frag) : Sp := fun vs H Q _ => vs.length = 2 ∧ ∃ (x a : Addr) (s : SltT) (zs : List Int) (gs : List SltT) (B : Hp) (M L : List (Addr × HO)), vs = [.ref x, .ref a] ∧ Is B M L H ∧ HallAt K B x zs gs ∧ H a = some (.tup [.int s.1, .int s.2]) ∧ SlotOk zs.length s ∧ Q (.bl true) H
theorem ap_Hall_has_frame_of {K : PySem.W.Frag} {H : Hp} {Q : VK} {E : XK} {x a : Addr} {s : SltT} {zs : List Int} {gs : List SltT} {B : Hp} {M L : List (Addr × HO)} (I : Is B M L H) (h : HallAt K B x zs gs) (ha : H a = some (.tup [.int s.1, .int s.2])) (hs : SlotOk zs.length s) (q : Q (.bl true) H) : sp_Hall_has_frame_of K [.ref x, .ref a] H Q E := ⟨rfl, x, a, s, zs, gs, B, M, L, rfl, I, h, ha, hs, q⟩
def t_Hall_has_frame_of (K : PySem.W.Frag) : TS := (tRet (tCl 2 0 (sp_is_slot_of K) (fun vs zs => pick .non [0, 1] (vs ++ zs)) E0 (tCons (tVar 1) (tCons (tCB (rLen K) (tCons (tFld K (tVar 0) "frame_sizes") tNil)) tNil)) tNil))
theorem rd_Hall_has_frame_of {K : PySem.W.Frag} (C : HallC K) (vs : List V) (H : Hp) (Q : VK) (E : XK) (h : sp_Hall_has_frame_of K vs H Q E) : t_Hall_has_frame_of K { nx := fun _ H' => Q .non H', rt := Q } (start ["self", "thing"] vs) H := by
  obtain ⟨_, x, a, s, zs, gs, B, M, L, rfl, hI, hX, ha, hs, q⟩ := h
  show t_Hall_has_frame_of K ⟨_, _, _, _⟩ [some (.ref x), some (.ref a)] H
  obtain ⟨cl, n1, n2, n3⟩ := C
  obtain ⟨⟨dx, fa, ga, da, gx, h1, h2, h3, h4, h5⟩, hg, ho⟩ := id hX
  unfold t_Hall_has_frame_of
  tm_at "go"
  rw [List.length_map]
  refine' ap_is_slot_of (K := K) ha hs ?_
  exact q
def sp_Hall_is_slot (K : PySem.W.Frag) : Sp := fun vs H Q _ => vs.length = 2 ∧ ∃ (x a : Addr) (s : SltT) (zs : List Int) (gs : List SltT) (B : Hp) (M L : List (Addr × HO)), vs = [.ref x, .ref a] ∧ Is B M L H ∧ HallAt K B x zs gs ∧ H a = some (.tup [.int s.1, .int s.2]) ∧ SlotOk zs.length s ∧ Q (.bl (!decide (s ∈ gs))) H
theorem ap_Hall_is_slot {K : PySem.W.Frag} {H : Hp} {Q : VK} {E : XK} {x a : Addr} {s : SltT} {zs : List Int} {gs : List SltT} {B : Hp} {M L : List (Addr × HO)} (I : Is B M L H) (h : HallAt K B x zs gs) (ha : H a = some (.tup [.int s.1, .int s.2])) (hs : SlotOk zs.length s) (q : Q (.bl (!decide (s ∈ gs))) H) : sp_Hall_is_slot K [.ref x, .ref a] H Q E := ⟨rfl, x, a, s, zs, gs, B, M, L, rfl, I, h, ha, hs, q⟩
def t_Hall_is_slot (K : PySem.W.Frag) : TS := (tRet (tAndV (tMe (He.ga K "Hall") "has_frame_of" 1 0 (sp_Hall_has_frame_of K) (fun vs zs => pick .non [0, 1] (vs ++ zs)) E0 (tVar 0) (tCons (tVar 1) tNil) tNil) (tDNotIn (tVar 1) (tFld K (tVar 0) "gone_at"))))
theorem rd_Hall_is_slot {K : PySem.W.Frag} (C : HallC K) (vs : List V) (H : Hp) (Q : VK) (E : XK) (h : sp_Hall_is_slot K vs H Q E) : t_Hall_is_slot K { nx := fun _ H' => Q .non H', rt := Q } (start ["self", "thing"] vs) H := by
  obtain ⟨_, x, a, s, zs, gs, B, M, L, rfl, hI, hX, ha, hs, q⟩ := h
  show t_Hall_is_slot K ⟨_, _, _, _⟩ [some (.ref x), some (.ref a)] H
  obtain ⟨cl, n1, n2, n3⟩ := C
  obtain ⟨⟨dx, fa, ga, da, gx, h1, h2, h3, h4, h5⟩, hg, ho⟩ := id hX
  unfold t_Hall_is_slot
  tm_at "go"
  refine' ap_Hall_has_frame_of (K := K) hI hX ha hs ?_
  tm_at "go"
  refine g_dNotInI ?_
  tm_at "go"
  obtain ⟨o, g1, g2⟩ := goneD_get (hI.b h5) ha
  exact ⟨da, o, rfl, g1, by rw [g2]; exact q⟩
def sp_Hall_with_lost (K : PySem.W.Frag) : Sp := fun vs H Q _ => vs.length = 2 ∧ ∃ (x a : Addr) (s : SltT) (zs : List Int) (gs : List SltT) (B : Hp) (M L : List (Addr × HO)), vs = [.ref x, .ref a] ∧ Is B M L H ∧ HallAt K B x zs gs ∧ B a = some (.tup [.int s.1, .int s.2]) ∧ SlotOk zs.length s ∧ s ∉ gs ∧ gs.length < 63 ∧
  ∀ p B' H' hs, Same B B' → Is B' M L H' → hs.Perm (gs ++ [s]) → HallAt K B' p zs hs → Q (.ref p) H'
theorem ap_Hall_with_lost {K : PySem.W.Frag} {H : Hp} {Q : VK} {E : XK} {x a : Addr} {s : SltT} {zs : List Int} {gs : List SltT} {B : Hp} {M L : List (Addr × HO)} (I : Is B M L H) (h : HallAt K B x zs gs) (ha : B a = some (.tup [.int s.1, .int s.2])) (hs : SlotOk zs.length s) (hn : s ∉ gs) (hl : gs.length < 63)
    (q : ∀ p B' H' hs, Same B B' → Is B' M L H' → hs.Perm (gs ++ [s]) → HallAt K B' p zs hs → Q (.ref p) H') : sp_Hall_with_lost K [.ref x, .ref a] H Q E := ⟨rfl, x, a, s, zs, gs, B, M, L, rfl, I, h, ha, hs, hn, hl, q⟩
abbrev t_Hall_with_lost_0 (K : PySem.W.Frag) : TS := (tRet (tMk (He.ga K "Hall") 1 1 (sp_Hall_init K) (fun vs zs => pick .non [0, 1, 2] (vs ++ (zs ++ [.non]))) E0 (tCons (tFld K (tVar 0) "frame_sizes") tNil) (tCons (tOp (rAddA K) (tFld K (tVar 0) "gone_slots") (tLst (tCons (tVar 1) tNil))) tNil)))
abbrev t_Hall_with_lost_1 (K : PySem.W.Frag) : TS := (tSeq (tIfS (tTest (tOp (rEqA K) (tCB (rLen K) (tCons (tFld K (tVar 0) "gone_slots") tNil)) (tC (.int 100)))) tNoS tNext) (t_Hall_with_lost_0 K))
def t_Hall_with_lost (K : PySem.W.Frag) : TS := (tSeq (tIfS (tNot (tTr K (tMe (He.ga K "Hall") "is_slot" 1 0 (sp_Hall_is_slot K) (fun vs zs => pick .non [0, 1] (vs ++ zs)) E0 (tVar 0) (tCons (tVar 1) tNil) tNil))) tNoS tNext) (t_Hall_with_lost_1 K))
theorem rd_Hall_with_lost {K : PySem.W.Frag} (C : HallC K) (vs : List V) (H : Hp) (Q : VK) (E : XK) (h : sp_Hall_with_lost K vs H Q E) : t_Hall_with_lost K { nx := fun _ H' => Q .non H', rt := Q } (start ["self", "slot"] vs) H := by
  obtain ⟨_, x0, a, s, zs, gs, B, M, L, rfl, hI, hX, ha, hs, hn, hl, q⟩ := h
  show t_Hall_with_lost K ⟨_, _, _, _⟩ [some (.ref x0), some (.ref a)] H
  obtain ⟨cl, n1, n2, n3⟩ := C
  obtain ⟨⟨d0, fa, ga, da, gx, h1, h2, h3, h4, h5⟩, hg, ho⟩ := id hX
  have hgl := h4.len
  unfold t_Hall_with_lost
  tm_at "go"
  refine' ap_Hall_is_slot (K := K) hI hX (hI.b ha) hs ?_
  rw [decide_eq_false hn, Bool.not_false]
  tm_at "go"
  refine g_dec (fun h => absurd (V.int.inj h) (by omega)) (fun _ => ?_)
  tm_at "go"
  refine g_add_l hI (hI.b h3) (hI.get (.head _)) (by show gx.length + 1 ≤ _; omega) ?_
  clear hI
  intro p2 H hI
  tm_at "go"
  refine' hI.give (a := p2) (by tm_at "del") ?_
  clear hI
  intro B1 s1 k1 hI
  have hall : GoodH zs (gs ++ [s]) := ⟨hg.z0, hg.z9, hg.z, fun t ht => by
      rcases List.mem_append.mp ht with h | h
      · exact hg.g t h
      · rw [List.mem_singleton.mp h]
        exact hs, by
      refine List.nodup_append.mpr ⟨hg.nd, List.pairwise_singleton _ _, fun a ha b hb e => hn ?_⟩
      rw [← List.mem_singleton.mp hb, ← e]
      exact ha, by rw [List.length_append, List.length_singleton]; omega⟩
  refine' ap_Hall_init (K := K) hI (s1 _ _ h2) k1 ((h4.same s1).snoc ⟨a, rfl, s1 _ _ ha⟩) hall ?_
  clear hI
  intro B2 H gs2 s2 hI hpm hY
  refine ⟨rfl, ?_⟩
  tm_at "go"
  exact q _ B2 _ gs2 (s1.trans s2) (hI.forget (by tm_at "sub")) hpm hY
def slotD (s : SltT) : PyData := .tuple [.int s.1, .int s.2]
theorem eqv_slot (s t : SltT) : PyData.eqv (slotD s) (slotD t) = decide (s = t) := by
  obtain ⟨a, b⟩ := s
  obtain ⟨c, d⟩ := t
  simp only [slotD, PyData.eqv, PyData.eqvAll, Bool.and_true, Prod.mk.injEq, Bool.decide_and]
  rfl
theorem dp_slot {K : PySem.W.Frag} {H : Hp} {a : Addr} {s : SltT} (h : H a = some (.tup [.int s.1, .int s.2])) : Dp K H (.ref a) (slotD s) := .tup (SqT.of h) (.cons (.int _) (.cons (.int _) .nil))
theorem shn_slot {n : Nat} {s : SltT} (h : SltG s) : Shn (slotD s) 4007 1 := .tup (.cons (shn_int (by have := h.1; omega) (by have := h.1; omega)) (.cons (shn_int (by have := h.2; omega) (by have := h.2; omega)) .nil))
theorem dp_slots {K : PySem.W.Frag} {B H : Hp} (e : Same B H) : ∀ {xs : List V} {ss : List SltT}, SlotsB B xs ss → DpAll K H xs (ss.map slotD)
  | _, _, .nil => .nil
  | _, _, .cons ⟨a, rfl, h⟩ t => .cons (dp_slot (e _ _ h)) (dp_slots e t)
def sp_Hall_with_found (K : PySem.W.Frag) : Sp := fun vs H Q _ => vs.length = 2 ∧ ∃ (x a : Addr) (s : SltT) (zs : List Int) (gs : List SltT) (B : Hp) (M L : List (Addr × HO)), vs = [.ref x, .ref a] ∧ Is B M L H ∧ HallAt K B x zs gs ∧ B a = some (.tup [.int s.1, .int s.2]) ∧ SlotOk zs.length s ∧ s ∈ gs ∧
  ∀ p B' H' hs, Same B B' → Is B' M L H' → hs.Perm (gs.filter fun t => !decide (t = s)) → HallAt K B' p zs hs → Q (.ref p) H'
theorem ap_Hall_with_found {K : PySem.W.Frag} {H : Hp} {Q : VK} {E : XK} {x a : Addr} {s : SltT} {zs : List Int} {gs : List SltT} {B : Hp} {M L : List (Addr × HO)} (I : Is B M L H) (h : HallAt K B x zs gs) (ha : B a = some (.tup [.int s.1, .int s.2])) (hs : SlotOk zs.length s) (hn : s ∈ gs)
    (q : ∀ p B' H' hs, Same B B' → Is B' M L H' → hs.Perm (gs.filter fun t => !decide (t = s)) → HallAt K B' p zs hs → Q (.ref p) H') : sp_Hall_with_found K [.ref x, .ref a] H Q E := ⟨rfl, x, a, s, zs, gs, B, M, L, rfl, I, h, ha, hs, hn, q⟩
abbrev t_Hall_with_found_0 (K : PySem.W.Frag) : TS := (tRet (tMk (He.ga K "Hall") 1 1 (sp_Hall_init K) (fun vs zs => pick .non [0, 1, 2] (vs ++ (zs ++ [.non]))) E0 (tCons (tFld K (tVar 0) "frame_sizes") tNil) (tCons (tLc (iAny K (tFld K (tVar 0) "gone_slots")) (gName 2) (tTest (tOp (rNeA K) (tVar 2) (tVar 1))) (tVar 2) [2]) tNil)))
def t_Hall_with_found (K : PySem.W.Frag) : TS := (tSeq (tIfS (tOr (tNot (tTr K (tMe (He.ga K "Hall") "has_frame_of" 1 0 (sp_Hall_has_frame_of K) (fun vs zs => pick .non [0, 1] (vs ++ zs)) E0 (tVar 0) (tCons (tVar 1) tNil) tNil))) (tB (tDNotIn (tVar 1) (tFld K (tVar 0) "gone_at")))) tNoS tNext) (t_Hall_with_found_0 K))
theorem rd_Hall_with_found {K : PySem.W.Frag} (C : HallC K) (vs : List V) (H : Hp) (Q : VK) (E : XK) (h : sp_Hall_with_found K vs H Q E) : t_Hall_with_found K { nx := fun _ H' => Q .non H', rt := Q } (start ["self", "slot", "one"] vs) H := by
  obtain ⟨_, x0, a, s, zs, gs, B, M, L, rfl, hI, hX, ha, hs, hn, q⟩ := h
  show t_Hall_with_found K ⟨_, _, _, _⟩ [some (.ref x0), some (.ref a), none] H
  obtain ⟨cl, n1, n2, n3⟩ := C
  obtain ⟨⟨d0, fa, ga, da, gx, h1, h2, h3, h4, h5⟩, hg, ho⟩ := id hX
  have hgl := h4.len
  have hl := hg.l
  unfold t_Hall_with_found
  tm_at "go"
  refine' ap_Hall_has_frame_of (K := K) hI hX (hI.b ha) hs ?_
  tm_at "go"
  refine g_tB ?_
  refine g_dNotInI ?_
  tm_at "go"
  obtain ⟨o, g1, g2⟩ := goneD_get (hI.b h5) (hI.b ha)
  refine ⟨da, o, rfl, g1, ?_⟩
  rw [g2, decide_eq_true hn, Bool.not_true]
  tm_at "go"
  refine' g_aLc (walk_list (xs := gx)) hI (by tm_at "wiped") (by omega) (fun i acc B' M' => B' = B ∧ M' = M ∧ SlotsB B acc ((gs.take i).filter fun t => !decide (t = s))) ⟨rfl, rfl, .nil⟩ ?_ ?_ ?_
  · rintro i acc B2 M2 D H1 _ s2 I ⟨rfl, rfl, _⟩
    exact SqL.of (I.b h3)
  · rintro i v acc B2 M2 D H1 H2 hi s2 hI ⟨rfl, rfl, hacc⟩ ⟨rfl, hv⟩ hle
    obtain ⟨t, es, c, rfl, hc⟩ := h4.get hv
    have gt := (hg.slt t (List.mem_of_getElem? es))
    tm_at "go"
    refine' g_wiped (by tm_at "wiped") ?_
    tm_at "go"
    refine g_ne_d (dp_slot (hI.b hc)) (dp_slot (hI.b ha)) (Shn.shaped (shn_slot (n := 0) gt) (by decide)) (Shn.shaped (shn_slot (n := 0) (hs.slt hg.z9)) (by decide)) ?_
    rw [eqv_slot]
    by_cases e : t = s
    · rw [decide_eq_true e]
      tm_at "go"
      refine lcN s2 hI hle ⟨rfl, rfl, ?_⟩
      rw [take_snocI es, List.filter_append, List.filter_cons, if_neg (by rw [decide_eq_true e]; decide), List.filter_nil, List.append_nil]
      exact hacc
    · rw [decide_eq_false e]
      tm_at "go"
      refine lcY s2 hI hle ⟨rfl, rfl, ?_⟩
      rw [take_snocI es, List.filter_append, List.filter_cons, if_pos (by rw [decide_eq_false e]; rfl), List.filter_nil]
      exact hacc.snoc ⟨c, rfl, hc⟩
  · clear hI
    rintro acc B2 M2 D H s2 hI ⟨rfl, rfl, hacc⟩ _
    rw [List.take_of_length_le (by omega)] at hacc
    tm_at "go"
    refine' hI.give (a := D) (by tm_at "del") ?_
    clear hI
    intro B1 s1 k1 hI
    have hsub : (gs.filter fun t => !decide (t = s)).Sublist gs := List.filter_sublist
    have hall : GoodH zs (gs.filter fun t => !decide (t = s)) := ⟨hg.z0, hg.z9, hg.z, fun t ht => hg.g t (hsub.subset ht), hg.nd.sublist hsub, Nat.lt_of_le_of_lt hsub.length_le hl⟩
    refine' ap_Hall_init (K := K) hI (s1 _ _ h2) k1 (hacc.same s1) hall ?_
    clear hI
    intro B2 H gs2 s3 hI hpm hY
    refine ⟨rfl, ?_⟩
    tm_at "go"
    exact q _ B2 _ gs2 (s1.trans s3) (hI.forget (by tm_at "sub")) hpm hY
abbrev nightsS (a : Int) (n : Nat) : List Int := (List.range n).map fun i : Nat => a + (i : Int)
abbrev framesS (zs : List Int) (z : Int) : List Int := (zs.zipIdx.filter fun p => decide (z ≤ p.1)).map fun p => (p.2 : Int) + 1
abbrev rowS (fs : List Int) (n : Int) : List SltT := fs.map fun f => (n, f)
abbrev allS (zs : List Int) (z a : Int) (n : Nat) : List SltT := (nightsS a n).flatMap (rowS (framesS zs z))
abbrev freeS (gs : List SltT) (ss : List SltT) : List SltT := ss.filter fun s => !decide (s ∈ gs)
def fitS (zs : List Int) (gs : List SltT) (o : OrdT) : List SltT := freeS gs (allS zs o.z o.a (o.b + 1 - o.a).toNat)
theorem framesS_len (zs : List Int) (z : Int) : (framesS zs z).length ≤ zs.length := by
  rw [framesS, List.length_map]
  refine Nat.le_trans (List.length_filter_le _ _) ?_
  rw [List.length_zipIdx]
  exact Nat.le_refl _
theorem nightsS_succ (a : Int) (i : Nat) : nightsS a (i + 1) = nightsS a i ++ [a + (i : Int)] := by
  rw [nightsS, List.range_succ, List.map_append]
  rfl
theorem flat_snoc {α β : Type} (f : α → List β) (l : List α) (a : α) : (l ++ [a]).flatMap f = l.flatMap f ++ f a := by
  rw [List.flatMap_append, List.flatMap_cons, List.flatMap_nil, List.append_nil]
theorem slot_row {zs : List Int} {z n : Int} {s : SltT} (h : s ∈ rowS (framesS zs z) n) : s.1 = n ∧ 1 ≤ s.2 ∧ s.2 ≤ (zs.length : Int) := by
  obtain ⟨f, hf, rfl⟩ := List.mem_map.mp h
  obtain ⟨p, hp, rfl⟩ := List.mem_map.mp hf
  have := List.mem_zipIdx (List.mem_filter.mp hp).1
  refine ⟨rfl, ?_, ?_⟩
  · show 1 ≤ (p.2 : Int) + 1
    omega
  · show (p.2 : Int) + 1 ≤ _
    omega
theorem fitS_in {zs : List Int} {gs : List SltT} {o : OrdT} {s : SltT} (h : s ∈ fitS zs gs o) : o.a ≤ s.1 ∧ s.1 ≤ o.b ∧ 1 ≤ s.2 ∧ s.2 ≤ (zs.length : Int) ∧ s ∉ gs := by
  obtain ⟨h1, h2⟩ := List.mem_filter.mp h
  obtain ⟨n, hn, hs⟩ := List.mem_flatMap.mp h1
  obtain ⟨i, hi, rfl⟩ := List.mem_map.mp hn
  have hi := List.mem_range.mp hi
  obtain ⟨e1, e2, e3⟩ := slot_row hs
  refine ⟨by omega, by omega, e2, e3, fun m => ?_⟩
  rw [decide_eq_true m] at h2
  cases h2
def sp_Hall_fitting (K : PySem.W.Frag) : Sp := fun vs H Q _ => vs.length = 2 ∧ ∃ (x y : Addr) (zs : List Int) (gs : List SltT) (o : OrdT) (B : Hp) (M L : List (Addr × HO)), vs = [.ref x, .ref y] ∧ Is B M L H ∧ HallAt K B x zs gs ∧ OrderAt K B y o ∧
  ∀ p xs B' H', Same B B' → SlotsB B' xs (fitS zs gs o) → xs.length ≤ 279 → Is B' M ((p, .lst xs) :: L) H' → Q (.ref p) H'
theorem ap_Hall_fitting {K : PySem.W.Frag} {H : Hp} {Q : VK} {E : XK} {x y : Addr} {zs : List Int} {gs : List SltT} {o : OrdT} {B : Hp} {M L : List (Addr × HO)} (I : Is B M L H) (h : HallAt K B x zs gs) (ho : OrderAt K B y o)
    (q : ∀ p xs B' H', Same B B' → SlotsB B' xs (fitS zs gs o) → xs.length ≤ 279 → Is B' M ((p, .lst xs) :: L) H' → Q (.ref p) H') : sp_Hall_fitting K [.ref x, .ref y] H Q E := ⟨rfl, x, y, zs, gs, o, B, M, L, rfl, I, h, ho, q⟩
abbrev t_Hall_fitting_0 (K : PySem.W.Frag) : TS := (tDrop (tBM K "list" rExtend (tVar 6) (tCons (tLc (iAny K (tVar 5)) (gName 10) (tB (tDNotIn (tTup (tCons (tVar 7) (tCons (tVar 10) tNil))) (tFld K (tVar 0) "gone_at"))) (tTup (tCons (tVar 7) (tCons (tVar 10) tNil))) [10]) tNil)))
abbrev t_Hall_fitting_1 (K : PySem.W.Frag) : TS := (tRet (tVar 6))
abbrev t_Hall_fitting_2 (K : PySem.W.Frag) : TS := (tSeq (tFor (iRng2 (tCons (tVar 3) (tCons (tOp (rAddA K) (tVar 4) (tC (.int 1))) tNil))) (gName 7) (t_Hall_fitting_0 K)) (t_Hall_fitting_1 K))
abbrev t_Hall_fitting_3 (K : PySem.W.Frag) : TS := (tSeq (tAsg (tLst tNil) (gName 6)) (t_Hall_fitting_2 K))
abbrev t_Hall_fitting_4 (K : PySem.W.Frag) : TS := (tSeq (tAsg (tLc (iEnumA K (tCons (tFld K (tVar 0) "frame_sizes") tNil)) (gTup K 2 (gCons (gName 8) (gCons (gName 9) gNil))) (tTest (tOp (rI0 fun i j => .bl (decide (j ≤ i))) (tVar 9) (tVar 2))) (tOp (rAddA K) (tVar 8) (tC (.int 1))) [8, 9]) (gName 5)) (t_Hall_fitting_3 K))
def t_Hall_fitting (K : PySem.W.Frag) : TS := (tSeq (tAsg (tMe (He.ga K "Order") "wants" 0 0 (sp_Order_wants K) (fun vs zs => pick .non [0] (vs ++ zs)) E0 (tVar 1) tNil tNil) (gTup K 3 (gCons (gName 2) (gCons (gName 3) (gCons (gName 4) gNil))))) (t_Hall_fitting_4 K))
theorem rd_Hall_fitting {K : PySem.W.Frag} (C : HallC K) (C2 : OrderC K) (vs : List V) (H : Hp) (Q : VK) (E : XK) (h : sp_Hall_fitting K vs H Q E) : t_Hall_fitting K { nx := fun _ H' => Q .non H', rt := Q } (start ["self", "order", "size", "first", "last", "frames", "found", "night", "k", "great", "frame"] vs) H := by
  obtain ⟨_, x0, y0, zs, gs, ⟨j, z, a, b⟩, B, M, L, rfl, hI, hX, hO, q⟩ := h
  show t_Hall_fitting K ⟨_, _, _, _⟩ [some (.ref x0), some (.ref y0), none, none, none, none, none, none, none, none, none] H
  obtain ⟨cl, n1, n2, n3⟩ := C
  have c2 := C2.cl
  obtain ⟨⟨d0, fa, ga, da, gx, h1, h2, h3, h4, h5⟩, hg, ho⟩ := id hX
  obtain ⟨⟨dy, jb, k1, k2⟩, hgo⟩ := id hO
  obtain ⟨_, g1, g2, g3, g4, g5, g6⟩ := id hgo
  replace g3 : 0 ≤ a := g3
  replace g4 : a ≤ b := g4
  replace g5 : b ≤ 99999 := g5
  replace g6 : b ≤ a + 30 := g6
  have hz9 := hg.z9
  unfold t_Hall_fitting
  tm_at "go"
  refine' ap_Order_wants (K := K) hI hO ?_
  clear hI
  intro p H hI
  dsimp only at hI
  tm_at "go"
  replace hI := hI.forget (L' := L) (by tm_at "sub")
  refine' g_aLc (walk_enum (xs := zs.map V.int)) hI (by tm_at "wiped") (by rw [List.length_map]; omega) (fun i acc B' M' => B = B' ∧ M = M' ∧ acc = (framesS (zs.take i) z).map V.int) ⟨rfl, rfl, rfl⟩ ?_ ?_ ?_
  · rintro i acc B2 M2 D H1 _ s2 I ⟨rfl, rfl, _⟩
    exact SqL.of (I.b h2)
  · rintro i v acc B2 M2 D H1 H2 hi s2 hI ⟨rfl, rfl, hacc⟩ ⟨T, u, w, rfl, hT, rfl, e1, e2⟩ hle
    cases e1
    obtain ⟨zi, es, rfl⟩ : ∃ zi, zs[i]? = some zi ∧ w = .int zi := by
      replace e2 : (zs.map V.int)[i]? = some w := e2
      rw [List.getElem?_map] at e2
      obtain ⟨zi, e, e3⟩ := Option.map_eq_some_iff.mp e2
      exact ⟨zi, e, e3.symm⟩
    have hil := (List.getElem?_eq_some_iff.mp es).1
    have hI := hI.new (o := .tup [V.int (i : Int), V.int zi]) hT
    have ez : (zs.take (i + 1)).zipIdx = (zs.take i).zipIdx ++ [(zi, i)] := by
      rw [take_snocI es, List.zipIdx_append, List.length_take_of_le (by omega)]
      simp
    tm_at "go"
    refine' g_wiped (by tm_at "wiped") ?_
    tm_at "go"
    by_cases hz : z ≤ zi
    · rw [decide_eq_true hz]
      tm_at "go"
      refine lcY s2 (hI.forget (by tm_at "sub")) hle ⟨rfl, rfl, ?_⟩
      rw [framesS, ez, List.filter_append, List.filter_cons, if_pos (decide_eq_true hz), List.filter_nil, List.map_append, List.map_append, hacc]
      rfl
    · rw [decide_eq_false hz]
      tm_at "go"
      refine lcN s2 (hI.forget (by tm_at "sub")) hle ⟨rfl, rfl, ?_⟩
      rw [framesS, ez, List.filter_append, List.filter_cons, if_neg (by rw [decide_eq_false hz]; decide), List.filter_nil, List.append_nil]
      exact hacc
  clear hI
  rintro acc B2 M2 D H s2 hI ⟨rfl, rfl, hacc⟩ _
  rw [List.length_map, List.take_length] at hacc
  subst hacc
  have hfl := framesS_len zs z
  generalize hfs : framesS zs z = fs at *
  tm_at "go"
  obtain ⟨found, rfl⟩ : ∃ q, q = p := ⟨_, rfl⟩
  refine' g_aFor walk_range (fun i σ H => ∃ (c7 : Option V) (B3 : Hp) (xs : List V), σ = [some (.ref x0), some (.ref y0), some (.int z), some (.int a), some (.int b), some (.ref D), some (.ref found), c7, none, none, none] ∧
      Same B B3 ∧ Is B3 M ((found, .lst xs) :: (D, .lst (fs.map V.int)) :: L) H ∧ SlotsB B3 xs (freeS gs ((nightsS a i).flatMap (rowS fs))) ∧ xs.length ≤ 9 * i)
      ⟨_, B, [], rfl, fun _ _ e => e, hI, .nil, by simp⟩ (fun _ _ _ _ _ => trivial) ?_ ?_
  · clear hI
    rintro i v σ H H' hi ⟨c7, B3, xs, rfl, s3, hI, hxs, hxl⟩ ⟨rfl, rfl⟩
    have hi : i < (b + 1 - a).toNat := hi
    replace h1 := s3 _ _ h1
    replace h5 := s3 _ _ h5
    tm_at "go"
    refine' g_aLc (walk_list (xs := fs.map V.int)) hI (by tm_at "wiped") (by rw [List.length_map]; omega) (fun k acc B' M' => M = M' ∧ SlotsB B' acc (freeS gs (rowS (fs.take k) (a + (i : Int))))) ⟨rfl, .nil⟩ ?_ ?_ ?_
    · rintro k acc B4 M4 D4 H1 _ s4 I ⟨rfl, _⟩
      exact SqL.of (I.get (by tm_at "mem"))
    · rintro k v acc B4 M4 D4 H1 H2 hk s4 hI ⟨rfl, hacc⟩ ⟨rfl, hv⟩ hle
      obtain ⟨f, ef, rfl⟩ : ∃ f, fs[k]? = some f ∧ v = .int f := by
        rw [List.getElem?_map] at hv
        obtain ⟨f, e, e3⟩ := Option.map_eq_some_iff.mp hv
        exact ⟨f, e, e3.symm⟩
      replace h1 := s4 _ _ h1
      replace h5 := s4 _ _ h5
      tm_at "go"
      refine' g_wiped (by tm_at "wiped") ?_
      tm_at "go"
      refine g_tB ?_
      refine g_dNotInI ?_
      tm_at "go"
      obtain ⟨o, e1, e2⟩ := goneD_get (s := (a + (i : Int), f)) (hI.b h5) (hI.get (.head _))
      refine ⟨da, o, rfl, e1, ?_⟩
      rw [e2]
      by_cases hm : (a + (i : Int), f) ∈ gs
      · rw [decide_eq_true hm, Bool.not_true]
        tm_at "go"
        refine lcN s4 (hI.forget (by tm_at "sub")) hle ⟨rfl, ?_⟩
        rw [take_snocI ef, rowS, List.map_append, freeS, List.filter_append, List.map_cons, List.filter_cons, if_neg (by rw [decide_eq_true hm]; decide), List.map_nil, List.filter_nil, List.append_nil]
        exact hacc
      · rw [decide_eq_false hm, Bool.not_false]
        tm_at "go"
        refine' hI.give .here ?_
        clear hI
        intro B5 s5 k5 hI
        refine lcY (s4.trans s5) (hI.forget (by tm_at "sub")) hle ⟨rfl, ?_⟩
        rw [take_snocI ef, rowS, List.map_append, freeS, List.filter_append, List.map_cons, List.filter_cons, if_pos (by rw [decide_eq_false hm]; rfl), List.map_nil, List.filter_nil]
        exact (SlotsB.same hacc s5).snoc ⟨_, rfl, k5⟩
    · clear hI
      rintro acc B4 M4 D4 H s4 hI ⟨rfl, hacc⟩ hal
      rw [List.length_map] at hal
      rw [List.length_map, List.take_length] at hacc
      tm_at "go"
      refine' g_extend hI (hI.get (by tm_at "mem")) (hI.get (by tm_at "mem")) (by omega) (by tm_at "put") ?_
      clear hI
      intro H hI
      tm_at "go"
      refine ⟨_, B4, _, rfl, s3.trans s4, hI.forget (by tm_at "sub"), ?_, ?_⟩
      · rw [nightsS_succ, flat_snoc, freeS, List.filter_append]
        exact All2.app (SlotsB.same hxs s4) hacc
      · rw [List.length_append]
        omega
  · clear hI
    rintro σ H ⟨c7, B3, xs, rfl, s3, hI, hxs, hxl⟩
    have hxl : xs.length ≤ 9 * (b + 1 - a).toNat := hxl
    tm_at "go"
    refine q found xs B3 _ s3 ?_ (by omega) (hI.forget (by tm_at "sub"))
    rw [fitS, allS, hfs]
    exact hxs
theorem cutV_takeA (xs : List V) (j : Nat) : cutV xs none (some (j : Int)) = xs.take j := by
  unfold cutV
  rw [HT.sIx_none, HT.sIx_nat, List.drop_zero, Nat.sub_zero]
  rcases Nat.le_total j xs.length with h | h
  · rw [Nat.min_eq_left h]
  · rw [Nat.min_eq_right h, List.take_length, List.take_of_length_le h]
theorem cutV_dropA (xs : List V) (j : Nat) : cutV xs (some (j : Int)) none = xs.drop j := by
  unfold cutV
  rw [HT.sIx_none, HT.sIx_nat]
  rcases Nat.le_total j xs.length with h | h
  · rw [Nat.min_eq_left h, List.take_of_length_le (by rw [List.length_drop]; omega)]
  · rw [Nat.min_eq_right h, List.drop_of_length_le h, List.drop_of_length_le (Nat.le_refl _), List.take_nil]
theorem All2.takeA {α β : Type} {R : α → β → Prop} : ∀ {xs : List α} {ys : List β} (n : Nat), All2 R xs ys → All2 R (xs.take n) (ys.take n)
  | _, _, 0, _ => .nil
  | _, _, _ + 1, .nil => .nil
  | _, _, n + 1, .cons a t => .cons a (All2.takeA n t)
theorem All2.dropA {α β : Type} {R : α → β → Prop} : ∀ {xs : List α} {ys : List β} (n : Nat), All2 R xs ys → All2 R (xs.drop n) (ys.drop n)
  | _, _, 0, h => h
  | _, _, _ + 1, .nil => .nil
  | _, _, n + 1, .cons _ t => All2.dropA n t
def sp_Hall_slots_of (K : PySem.W.Frag) : Sp := fun vs H Q _ => vs.length = 3 ∧ ∃ (x y : Addr) (n : Nat) (zs : List Int) (gs : List SltT) (o : OrdT) (B : Hp) (M L : List (Addr × HO)), vs = [.ref x, .ref y, .int (n : Int)] ∧ Is B M L H ∧ HallAt K B x zs gs ∧ OrderAt K B y o ∧ n ≤ 1000 ∧
  ∀ p xs B' H', Same B B' → SlotsB B' xs ((fitS zs gs o).take n) → Is B' M ((p, .lst xs) :: L) H' → Q (.ref p) H'
theorem ap_Hall_slots_of {K : PySem.W.Frag} {H : Hp} {Q : VK} {E : XK} {x y : Addr} {n : Int} {zs : List Int} {gs : List SltT} {o : OrdT} {B : Hp} {M L : List (Addr × HO)} (I : Is B M L H) (h : HallAt K B x zs gs) (ho : OrderAt K B y o) (h0 : 0 ≤ n) (hn : n ≤ 1000)
    (q : ∀ p xs B' H', Same B B' → SlotsB B' xs ((fitS zs gs o).take n.toNat) → Is B' M ((p, .lst xs) :: L) H' → Q (.ref p) H') : sp_Hall_slots_of K [.ref x, .ref y, .int n] H Q E := ⟨rfl, x, y, n.toNat, zs, gs, o, B, M, L, by rw [Int.toNat_of_nonneg h0], I, h, ho, by omega, q⟩
abbrev t_Hall_slots_of_0 (K : PySem.W.Frag) : TS := (tRet (tSl (rSlA K) (tMe (He.ga K "Hall") "fitting" 1 0 (sp_Hall_fitting K) (fun vs zs => pick .non [0, 1] (vs ++ zs)) E0 (tVar 0) (tCons (tVar 1) tNil) tNil) tNoPart (tPart (tVar 2))))
abbrev t_Hall_slots_of_1 (K : PySem.W.Frag) : TS := (tSeq (tIfS (tNot (tTr K (tCl 2 1 (sp_is_whole K) (fun vs zs => pick .non [0, 1, 2] (vs ++ (zs ++ [.int 1000000]))) E0 (tCons (tVar 2) (tCons (tC (.int 0)) tNil)) (tCons (tC (.int 1000)) tNil)))) tNoS tNext) (t_Hall_slots_of_0 K))
def t_Hall_slots_of (K : PySem.W.Frag) : TS := (tSeq (tIfS (tNot (tTr K (tCB (rIsi K) (tCons (tVar 1) (tCons (tC (.ref (He.ga K "Order"))) tNil))))) tNoS tNext) (t_Hall_slots_of_1 K))
theorem rd_Hall_slots_of {K : PySem.W.Frag} (C : HallC K) (C2 : OrderC K) (D : OwnD K (He.ga K "Order")) (vs : List V) (H : Hp) (Q : VK) (E : XK) (h : sp_Hall_slots_of K vs H Q E) : t_Hall_slots_of K { nx := fun _ H' => Q .non H', rt := Q } (start ["self", "order", "most"] vs) H := by
  obtain ⟨_, x0, y0, n, zs, gs, o, B, M, L, rfl, hI, hX, hO, hn, q⟩ := h
  show t_Hall_slots_of K ⟨_, _, _, _⟩ [some (.ref x0), some (.ref y0), some (.int (n : Int))] H
  obtain ⟨cl, n1, n2, n3⟩ := C
  have c2 := C2.cl
  obtain ⟨⟨d0, fa, ga, da, gx, h1, h2, h3, h4, h5⟩, hg, ho⟩ := id hX
  obtain ⟨⟨dy, jb, k1, k2⟩, hgo⟩ := id hO
  unfold t_Hall_slots_of
  tm_at "go"
  refine' g_isiO D c2 (hI.b k1) ?_
  tm_at "go"
  refine' ap_is_whole_t (K := K) (by omega) (by omega) ?_
  tm_at "go"
  refine' ap_Hall_fitting (K := K) hI hX hO ?_
  clear hI
  intro p xs B2 H s2 hxs hxl hI
  tm_at "go"
  refine g_sl_l hI (by tm_at "sq") ?_
  clear hI
  intro p2 H hI
  rw [cutV_takeA] at hI
  tm_at "go"
  exact q p2 _ B2 _ s2 (hxs.takeA n) (hI.forget (by tm_at "sub"))
def sp_Hall_how_many (K : PySem.W.Frag) : Sp := fun vs H Q _ => vs.length = 2 ∧ ∃ (x y : Addr) (zs : List Int) (gs : List SltT) (o : OrdT) (B : Hp) (M L : List (Addr × HO)), vs = [.ref x, .ref y] ∧ Is B M L H ∧ HallAt K B x zs gs ∧ OrderAt K B y o ∧
  ∀ B' H', Same B B' → Is B' M L H' → Q (.int ((fitS zs gs o).length : Nat)) H'
theorem ap_Hall_how_many {K : PySem.W.Frag} {H : Hp} {Q : VK} {E : XK} {x y : Addr} {zs : List Int} {gs : List SltT} {o : OrdT} {B : Hp} {M L : List (Addr × HO)} (I : Is B M L H) (h : HallAt K B x zs gs) (ho : OrderAt K B y o)
    (q : ∀ B' H', Same B B' → Is B' M L H' → Q (.int ((fitS zs gs o).length : Nat)) H') : sp_Hall_how_many K [.ref x, .ref y] H Q E := ⟨rfl, x, y, zs, gs, o, B, M, L, rfl, I, h, ho, q⟩
abbrev t_Hall_how_many_0 (K : PySem.W.Frag) : TS := (tRet (tCB (rLen K) (tCons (tMe (He.ga K "Hall") "fitting" 1 0 (sp_Hall_fitting K) (fun vs zs => pick .non [0, 1] (vs ++ zs)) E0 (tVar 0) (tCons (tVar 1) tNil) tNil) tNil)))
def t_Hall_how_many (K : PySem.W.Frag) : TS := (tSeq (tIfS (tNot (tTr K (tCB (rIsi K) (tCons (tVar 1) (tCons (tC (.ref (He.ga K "Order"))) tNil))))) tNoS tNext) (t_Hall_how_many_0 K))
theorem rd_Hall_how_many {K : PySem.W.Frag} (C : HallC K) (C2 : OrderC K) (D : OwnD K (He.ga K "Order")) (vs : List V) (H : Hp) (Q : VK) (E : XK) (h : sp_Hall_how_many K vs H Q E) : t_Hall_how_many K { nx := fun _ H' => Q .non H', rt := Q } (start ["self", "order"] vs) H := by
  obtain ⟨_, x0, y0, zs, gs, o, B, M, L, rfl, hI, hX, hO, q⟩ := h
  show t_Hall_how_many K ⟨_, _, _, _⟩ [some (.ref x0), some (.ref y0)] H
  obtain ⟨cl, n1, n2, n3⟩ := C
  have c2 := C2.cl
  obtain ⟨⟨d0, fa, ga, da, gx, h1, h2, h3, h4, h5⟩, hg, ho⟩ := id hX
  obtain ⟨⟨dy, jb, k1, k2⟩, hgo⟩ := id hO
  unfold t_Hall_how_many
  tm_at "go"
  refine' g_isiO D c2 (hI.b k1) ?_
  tm_at "go"
  refine' ap_Hall_fitting (K := K) hI hX hO ?_
  clear hI
  intro p xs B2 H s2 hxs hxl hI
  tm_at "go"
  rw [hxs.len]
  exact q B2 _ s2 (hI.forget (by tm_at "sub"))
theorem eqv_intsA : ∀ xs ys : List Int, PyData.eqvAll (xs.map PyData.int) (ys.map PyData.int) = decide (xs = ys)
  | [], [] => by simp [PyData.eqvAll]
  | [], s :: ss => by simp [PyData.eqvAll]
  | r :: rs, [] => by simp [PyData.eqvAll]
  | r :: rs, s :: ss => by
    have ih := eqv_intsA rs ss
    rw [List.map_cons, List.map_cons]
    have e : PyData.eqvAll (PyData.int r :: rs.map PyData.int) (PyData.int s :: ss.map PyData.int) = (PyData.eqv (PyData.int r) (PyData.int s) && PyData.eqvAll (rs.map PyData.int) (ss.map PyData.int)) := by simp only [PyData.eqvAll]
    have e2 : PyData.eqv (PyData.int r) (PyData.int s) = decide (r = s) := by simp only [PyData.eqv]; rfl
    rw [e, e2, ih]
    by_cases h1 : r = s <;> by_cases h2 : rs = ss <;> simp [h1, h2]
theorem eqv_slotsA : ∀ xs ys : List SltT, PyData.eqvAll (xs.map slotD) (ys.map slotD) = decide (xs = ys)
  | [], [] => by simp [PyData.eqvAll]
  | [], s :: ss => by simp [PyData.eqvAll]
  | r :: rs, [] => by simp [PyData.eqvAll]
  | r :: rs, s :: ss => by
    have ih := eqv_slotsA rs ss
    have h := eqv_slot r s
    rw [List.map_cons, List.map_cons]
    have e : PyData.eqvAll (slotD r :: rs.map slotD) (slotD s :: ss.map slotD) = (PyData.eqv (slotD r) (slotD s) && PyData.eqvAll (rs.map slotD) (ss.map slotD)) := by simp only [PyData.eqvAll]
    rw [e, h, ih]
    by_cases h1 : r = s <;> by_cases h2 : rs = ss <;> simp [h1, h2]
theorem shn_slots : ∀ (ss : List SltT), (∀ s ∈ ss, SltG s) → ∃ n, n ≤ 4100 * ss.length ∧ ShnAll (ss.map slotD) n 1
  | [], _ => ⟨0, by simp, .nil⟩
  | s :: ss, h => by
    obtain ⟨n, hn1, hn⟩ := shn_slots ss fun x hx => h x (List.mem_cons_of_mem _ hx)
    refine ⟨_, ?_, .cons (shn_slot (n := 0) (h s List.mem_cons_self)) hn⟩
    rw [List.length_cons]
    omega
theorem shaped_slots {ss : List SltT} (h : ∀ s ∈ ss, SltG s) : SeqAt.shaped (.list (ss.map slotD)) = true := by
  obtain ⟨nn, hnn, hsh⟩ := shn_slots ss h
  exact Shn.shaped (.lst hsh) (by decide)
def sp_Hall_eq (K : PySem.W.Frag) : Sp := fun vs H Q _ => vs.length = 2 ∧ ∃ (x y : Addr) (zs zs2 : List Int) (gs gs2 : List SltT) (B : Hp) (M L : List (Addr × HO)), vs = [.ref x, .ref y] ∧ Is B M L H ∧ HallAt K B x zs gs ∧ HallAt K B y zs2 gs2 ∧ ∀ H', Is B M L H' → Q (.bl (decide (zs = zs2 ∧ gs = gs2))) H'
theorem ap_Hall_eq {K : PySem.W.Frag} {H : Hp} {Q : VK} {E : XK} {x y : Addr} {zs zs2 : List Int} {gs gs2 : List SltT} {B : Hp} {M L : List (Addr × HO)} (I : Is B M L H) (h : HallAt K B x zs gs) (h2 : HallAt K B y zs2 gs2) (q : ∀ H', Is B M L H' → Q (.bl (decide (zs = zs2 ∧ gs = gs2))) H') : sp_Hall_eq K [.ref x, .ref y] H Q E := ⟨rfl, x, y, zs, zs2, gs, gs2, B, M, L, rfl, I, h, h2, q⟩
abbrev t_Hall_eq_0 (K : PySem.W.Frag) : TS := (tRet (tAndV (tOp (rEqA K) (tFld K (tVar 0) "frame_sizes") (tFld K (tVar 1) "frame_sizes")) (tOp (rEqA K) (tFld K (tVar 0) "gone_slots") (tFld K (tVar 1) "gone_slots"))))
def t_Hall_eq (K : PySem.W.Frag) : TS := (tSeq (tIfS (tNot (tTr K (tCB (rIsi K) (tCons (tVar 1) (tCons (tC (.ref (He.ga K "Hall"))) tNil))))) (tRet (tC (.bl false))) tNext) (t_Hall_eq_0 K))
theorem rd_Hall_eq {K : PySem.W.Frag} (C : HallC K) (D : OwnD K (He.ga K "Hall")) (vs : List V) (H : Hp) (Q : VK) (E : XK) (h : sp_Hall_eq K vs H Q E) : t_Hall_eq K { nx := fun _ H' => Q .non H', rt := Q } (start ["self", "other"] vs) H := by
  obtain ⟨_, x0, y0, zs, zs2, gs, gs2, B, M, L, rfl, hI, hX, hY, q⟩ := h
  show t_Hall_eq K ⟨_, _, _, _⟩ [some (.ref x0), some (.ref y0)] H
  obtain ⟨cl, n1, n2, n3⟩ := C
  obtain ⟨⟨d0, fa, ga, da, gx, h1, h2, h3, h4, h5⟩, hg, ho⟩ := id hX
  obtain ⟨⟨d1, fb, gb, db, gy, k1, k2, k3, k4, k5⟩, kg, ko⟩ := id hY
  unfold t_Hall_eq
  tm_at "go"
  refine' g_isiO D cl (hI.b k1) ?_
  tm_at "go"
  refine g_eq_d (.lst (SqL.of (hI.b h2)) (dp_ints zs)) (.lst (SqL.of (hI.b k2)) (dp_ints zs2)) (PySem.W.ke_shaped_ints zs) (PySem.W.ke_shaped_ints zs2) ?_
  rw [show PyData.eqv (.list (zs.map PyData.int)) (.list (zs2.map PyData.int)) = decide (zs = zs2) from by simp [PyData.eqv, eqv_intsA]]
  by_cases e : zs = zs2
  · rw [decide_eq_true e]
    tm_at "go"
    refine g_eq_d (.lst (SqL.of (hI.b h3)) (dp_slots hI.ex h4)) (.lst (SqL.of (hI.b k3)) (dp_slots hI.ex k4)) (shaped_slots hg.slt) (shaped_slots kg.slt) ?_
    rw [show PyData.eqv (.list (gs.map slotD)) (.list (gs2.map slotD)) = decide (gs = gs2) from by simp [PyData.eqv, eqv_slotsA]]
    have := q _ hI
    rw [show decide (zs = zs2 ∧ gs = gs2) = decide (gs = gs2) from by simp [e]] at this
    exact this
  · rw [decide_eq_false e]
    tm_at "go"
    have := q _ hI
    rw [decide_eq_false fun h => e h.1] at this
    exact this
section
variable {K : PySem.W.Frag} {H : Hp} {Q : VK} {E : XK} {x y : Addr} {zs zs2 : List Int} {gs gs2 : List SltT} {B : Hp} {M L : List (Addr × HO)}
theorem g_hallNe (D : OwnD K (He.ga K "Hall")) (C : HallC K) (I : Is B M L H) (h : HallAt K B x zs gs) (h' : HallAt K B y zs2 gs2) (q : ∀ H', Is B M L H' → Q (.bl (!decide (zs = zs2 ∧ gs = gs2))) H') : rOwnNe K (He.ga K "Hall") (sp_Hall_eq K) (fun vs zs => pick .non [0, 1] (vs ++ zs)) E (.ref x) (.ref y) H Q := by
  obtain ⟨⟨_, _, _, _, _, h1, _⟩, _⟩ := id h
  obtain ⟨⟨_, _, _, _, _, k1, _⟩, _⟩ := id h'
  exact g_ownNeI D C.cl (I.b h1) (I.b k1) (ap_Hall_eq I h h' fun H' I' => g_aNeg (q _ I'))
end
theorem g_ix_all {K : PySem.W.Frag} {H : Hp} {Q : VK} {a : Addr} {xs : List V} {i : Int} (P : V → Prop) (hs : SqL K H a xs) (h : ∀ x ∈ xs, P x) (h0 : 0 ≤ i) (h1 : i < (xs.length : Int)) (q : ∀ x, P x → Q x H) : rIx K (.ref a) (.int i) H Q := by
  have hl : i.toNat < xs.length := by omega
  exact g_ix_l hs (atI_of h0 (List.getElem?_eq_getElem hl)) (q _ (h _ (List.getElem_mem hl)))
def strideS : List Int := [1, 2, 7, 1009, 33331]
def nbr (f s : Int) (k : Nat) : Int := 1 + (f + s * (k : Int) * ((k : Int) + 1)) % 99999
theorem nbr_in (f s : Int) (k : Nat) : 1 ≤ nbr f s k ∧ nbr f s k ≤ 99999 := by
  unfold nbr
  have h1 := Int.emod_nonneg (f + s * (k : Int) * ((k : Int) + 1)) (show (99999 : Int) ≠ 0 by decide)
  have h2 := Int.emod_lt_of_pos (f + s * (k : Int) * ((k : Int) + 1)) (show (0 : Int) < 99999 by decide)
  omega
def sp_law_numbers (K : PySem.W.Frag) : Sp := fun vs H Q _ => vs.length = 2 ∧ ∃ (m : Addr) (many n : Int) (B : Hp) (M L : List (Addr × HO)), vs = [.ref m, .int many] ∧ Is B M L H ∧ Dr m n B M ∧ n < 2 ^ 38 ∧ 0 ≤ many ∧ many ≤ 45 ∧
  ∀ (p : Addr) (f s : Int) (H' : Hp) (M' : List (Addr × HO)), Is B M' ((p, .lst ((List.range many.toNat).map fun k => .int (nbr f s k))) :: L) H' → Dr m (n + 2) B M' → s ∈ strideS → Q (.ref p) H'
theorem ap_law_numbers {K : PySem.W.Frag} {B H : Hp} {M L : List (Addr × HO)} {Q : VK} {E : XK} {many n : Int} {m : Addr} (I : Is B M L H) (d : Dr m n B M) (h : n < 2 ^ 38) (h1 : 0 ≤ many) (h2 : many ≤ 45) (q : ∀ (p : Addr) (f s : Int) (H' : Hp) (M' : List (Addr × HO)), Is B M' ((p, .lst ((List.range many.toNat).map fun k => .int (nbr f s k))) :: L) H' → Dr m (n + 2) B M' → s ∈ strideS → Q (.ref p) H') : sp_law_numbers K [.ref m, .int many] H Q E :=
  ⟨rfl, m, many, n, B, M, L, rfl, I, d, h, h1, h2, q⟩
abbrev t_law_numbers_0 (K : PySem.W.Frag) : TS := (tRet (tLc (iRng1 (tCons (tVar 1) tNil)) (gName 4) tYes (tOp (rAddA K) (tC (.int 1)) (tOp (rI (fun _ j => 0 < j) fun i j => .int (i % j)) (tOp (rAddA K) (tVar 2) (tOp rMulA (tOp rMulA (tVar 3) (tVar 4)) (tOp (rAddA K) (tVar 4) (tC (.int 1))))) (tC (.int 99999)))) [4]))
def t_law_numbers (K : PySem.W.Frag) : TS := (tSeq (tAsg (tTup (tCons (tCl 2 0 (sp_law_draw K) (fun vs zs => pick .non [0, 1] (vs ++ zs)) E0 (tCons (tVar 0) (tCons (tC (.int 99999)) tNil)) tNil) (tCons (tOp (rIx K) (tLst (tCons (tC (.int 1)) (tCons (tC (.int 2)) (tCons (tC (.int 7)) (tCons (tC (.int 1009)) (tCons (tC (.int 33331)) tNil)))))) (tCl 2 0 (sp_law_draw K) (fun vs zs => pick .non [0, 1] (vs ++ zs)) E0 (tCons (tVar 0) (tCons (tC (.int 5)) tNil)) tNil)) tNil))) (gTup K 2 (gCons (gName 2) (gCons (gName 3) gNil)))) (t_law_numbers_0 K))
theorem rd_law_numbers {K : PySem.W.Frag} (vs : List V) (H : Hp) (Q : VK) (E : XK) (h : sp_law_numbers K vs H Q E) : t_law_numbers K { nx := fun _ H' => Q .non H', rt := Q } (start ["m", "many", "start", "stride", "k"] vs) H := by
  obtain ⟨_, m, many, n, B, M, L, rfl, hI, hd, h1, h2, h3, q⟩ := h
  show t_law_numbers K ⟨_, _, _, _⟩ [some (.ref m), some (.int many), none, none, none] H
  unfold t_law_numbers
  tm_at "go"
  tm_at "draw"
  revert r
  intro first hf0 hf1
  tm_at "go"
  tm_at "draw"
  refine g_ix_all (fun x => ∃ s, x = .int s ∧ s ∈ strideS) (by tm_at "sq") (by
    intro x hx
    simp only [List.mem_cons, List.not_mem_nil, or_false] at hx
    rcases hx with rfl | rfl | rfl | rfl | rfl <;> exact ⟨_, rfl, by decide⟩) hr0 (by tm_at "arith") ?_
  rintro _ ⟨stride, rfl, hst⟩
  tm_at "go"
  replace hI := hI.forget (L' := L) (by tm_at "sub")
  refine' g_aLc walk_range hI (by tm_at "wiped") (by omega) (fun i acc B2 M' => B = B2 ∧ Dr m (n + 2) B M' ∧ acc = (List.range i).map fun k => V.int (nbr first stride k)) ⟨rfl, hd.mono (by omega), rfl⟩ (fun _ _ _ _ _ _ _ _ _ _ => trivial) ?_ ?_
  · rintro i x acc B2 M' D H' H'' hi s2 hI ⟨rfl, hd, hta⟩ ⟨rfl, rfl⟩ hz
    have hi : i < many.toNat := hi
    tm_at "go"
    refine' g_wiped (by tm_at "wiped") ?_
    tm_at "go"
    refine lcY s2 hI hz ⟨rfl, hd, ?_⟩
    rw [List.range_succ, List.map_append, hta]
    simp only [List.map_cons, List.map_nil, nbr, Int.zero_add]
  clear hI hd
  rintro ys B2 M D H s2 hI ⟨rfl, hd, hy⟩ _
  have hy : ys = (List.range many.toNat).map fun k => V.int (nbr first stride k) := by
    exact hy
  subst hy
  tm_at "go"
  exact q D first stride H M hI hd hst
def sp_law_near (K : PySem.W.Frag) : Sp := fun vs H Q _ => vs.length = 1 ∧ ∃ (m : Addr) (n : Int) (B : Hp) (M L : List (Addr × HO)), vs = [.ref m] ∧ Is B M L H ∧ Dr m n B M ∧ n < 2 ^ 38 ∧
  ∀ (r : Int) (H' : Hp) (M' : List (Addr × HO)), Is B M' L H' → Dr m (n + 3) B M' → 0 ≤ r → r ≤ 99999 → Q (.int r) H'
theorem ap_law_near {K : PySem.W.Frag} {B H : Hp} {M L : List (Addr × HO)} {Q : VK} {E : XK} {n : Int} {m : Addr} (I : Is B M L H) (d : Dr m n B M) (h : n < 2 ^ 38) (q : ∀ (r : Int) (H' : Hp) (M' : List (Addr × HO)), Is B M' L H' → Dr m (n + 3) B M' → 0 ≤ r → r ≤ 99999 → Q (.int r) H') : sp_law_near K [.ref m] H Q E := ⟨rfl, m, n, B, M, L, rfl, I, d, h, q⟩
def t_law_near (K : PySem.W.Frag) : TS := (tRet (tOp (rIx K) (tLst (tCons (tC (.int 0)) (tCons (tCl 2 0 (sp_law_draw K) (fun vs zs => pick .non [0, 1] (vs ++ zs)) E0 (tCons (tVar 0) (tCons (tC (.int 99900)) tNil)) tNil) (tCons (tOp (rI0 fun i j => .int (i - j)) (tC (.int 99999)) (tCl 2 0 (sp_law_draw K) (fun vs zs => pick .non [0, 1] (vs ++ zs)) E0 (tCons (tVar 0) (tCons (tC (.int 9)) tNil)) tNil)) tNil)))) (tCl 2 0 (sp_law_draw K) (fun vs zs => pick .non [0, 1] (vs ++ zs)) E0 (tCons (tVar 0) (tCons (tC (.int 3)) tNil)) tNil)))
theorem rd_law_near {K : PySem.W.Frag} (vs : List V) (H : Hp) (Q : VK) (E : XK) (h : sp_law_near K vs H Q E) : t_law_near K { nx := fun _ H' => Q .non H', rt := Q } (start ["m"] vs) H := by
  obtain ⟨_, m, n, B, M, L, rfl, hI, hd, h1, q⟩ := h
  show t_law_near K ⟨_, _, _, _⟩ [some (.ref m)] H
  unfold t_law_near
  tm_at "go"
  tm_at "draw"
  tm_at "go"
  tm_at "draw"
  tm_at "go"
  tm_at "draw"
  refine g_ix_ints (lo := 0) (hi := 99999) (by tm_at "sq") (by repeat (first | exact Ints.nil | refine Ints.cons (by omega) ?_)) hr0 (by tm_at "arith") ?_
  intro c hc0 hc1
  exact q c _ _ (hI.forget (by tm_at "sub")) (hd.mono (by omega)) hc0 hc1
structure PairAt (B : Hp) (p : Addr) (zs : List Int) (gs : List SltT) : Prop where
  ex : ∃ wd gd : Addr, B p = some (.tup [.ref wd, .ref gd]) ∧ B wd = some (.lst (zs.map V.int)) ∧ B gd = some (.dT (goneD gs))
  good : GoodH zs gs
  l : gs.length ≤ 31
theorem PairAt.same {B B' : Hp} {p : Addr} {zs : List Int} {gs : List SltT} (h : PairAt B p zs gs) (s : Same B B') : PairAt B' p zs gs := by
  obtain ⟨⟨wd, gd, h1, h2, h3⟩, g, l⟩ := h
  exact ⟨⟨wd, gd, s _ _ h1, s _ _ h2, s _ _ h3⟩, g, l⟩
def sp_law_plain_hall (K : PySem.W.Frag) : Sp := fun vs H Q _ => vs.length = 3 ∧ ∃ (m : Addr) (near many n : Int) (B : Hp) (M L : List (Addr × HO)), vs = [.ref m, .int near, .int many] ∧ Is B M L H ∧ Dr m n B M ∧ n < 2 ^ 38 ∧ 0 ≤ near ∧ near ≤ 99999 ∧ 1 ≤ many ∧ many ≤ 9 ∧
  ∀ (p : Addr) (zs : List Int) (gs : List SltT) (B' H' : Hp) (M' : List (Addr × HO)), Same B B' → Is B' M' L H' → Dr m (n + 100) B' M' → PairAt B' p zs gs → Q (.ref p) H'
theorem ap_law_plain_hall {K : PySem.W.Frag} {B H : Hp} {M L : List (Addr × HO)} {Q : VK} {E : XK} {near many n : Int} {m : Addr} (I : Is B M L H) (d : Dr m n B M) (h : n < 2 ^ 38) (h1 : 0 ≤ near) (h2 : near ≤ 99999) (h3 : 1 ≤ many) (h4 : many ≤ 9)
    (q : ∀ (p : Addr) (zs : List Int) (gs : List SltT) (B' H' : Hp) (M' : List (Addr × HO)), Same B B' → Is B' M' L H' → Dr m (n + 100) B' M' → PairAt B' p zs gs → Q (.ref p) H') : sp_law_plain_hall K [.ref m, .int near, .int many] H Q E := ⟨rfl, m, near, many, n, B, M, L, rfl, I, d, h, h1, h2, h3, h4, q⟩
abbrev t_law_plain_hall_0 (K : PySem.W.Frag) : TS := (tDrop (tBM K "list" rAppend (tVar 3) (tCons (tOp (rIx K) (tLst (tCons (tOp (rAddA K) (tC (.int 1)) (tCl 2 0 (sp_law_draw K) (fun vs zs => pick .non [0, 1] (vs ++ zs)) E0 (tCons (tVar 0) (tCons (tC (.int 3)) tNil)) tNil)) (tCons (tOp (rAddA K) (tC (.int 1)) (tCl 2 0 (sp_law_draw K) (fun vs zs => pick .non [0, 1] (vs ++ zs)) E0 (tCons (tVar 0) (tCons (tC (.int 60)) tNil)) tNil)) (tCons (tC (.int 60)) tNil)))) (tCl 2 0 (sp_law_draw K) (fun vs zs => pick .non [0, 1] (vs ++ zs)) E0 (tCons (tVar 0) (tCons (tC (.int 3)) tNil)) tNil)) tNil)))
abbrev t_law_plain_hall_1 (K : PySem.W.Frag) : TS := (sDPut (tVar 4) (tTup (tCons (tCB rMin2 (tCons (tC (.int 99999)) (tCons (tOp (rAddA K) (tVar 1) (tCl 2 0 (sp_law_draw K) (fun vs zs => pick .non [0, 1] (vs ++ zs)) E0 (tCons (tVar 0) (tCons (tC (.int 9)) tNil)) tNil)) tNil))) (tCons (tOp (rAddA K) (tC (.int 1)) (tCl 2 0 (sp_law_draw K) (fun vs zs => pick .non [0, 1] (vs ++ zs)) E0 (tCons (tVar 0) (tCons (tCB (rLen K) (tCons (tVar 3) tNil)) tNil)) tNil)) tNil))) (tC (.bl true)))
abbrev t_law_plain_hall_2 (K : PySem.W.Frag) : TS := (tRet (tTup (tCons (tVar 3) (tCons (tVar 4) tNil))))
abbrev t_law_plain_hall_3 (K : PySem.W.Frag) : TS := (tSeq (tFor (iRng1 (tCons (tOp (rIx K) (tLst (tCons (tC (.int 0)) (tCons (tC (.int 0)) (tCons (tCl 2 0 (sp_law_draw K) (fun vs zs => pick .non [0, 1] (vs ++ zs)) E0 (tCons (tVar 0) (tCons (tC (.int 5)) tNil)) tNil) (tCons (tCl 2 0 (sp_law_draw K) (fun vs zs => pick .non [0, 1] (vs ++ zs)) E0 (tCons (tVar 0) (tCons (tC (.int 31)) tNil)) tNil) tNil))))) (tCl 2 0 (sp_law_draw K) (fun vs zs => pick .non [0, 1] (vs ++ zs)) E0 (tCons (tVar 0) (tCons (tC (.int 4)) tNil)) tNil)) tNil)) (gName 5) (t_law_plain_hall_1 K)) (t_law_plain_hall_2 K))
abbrev t_law_plain_hall_4 (K : PySem.W.Frag) : TS := (tSeq (tFor (iRng1 (tCons (tOp (rAddA K) (tC (.int 1)) (tCl 2 0 (sp_law_draw K) (fun vs zs => pick .non [0, 1] (vs ++ zs)) E0 (tCons (tVar 0) (tCons (tVar 2) tNil)) tNil)) tNil)) (gName 5) (t_law_plain_hall_0 K)) (t_law_plain_hall_3 K))
def t_law_plain_hall (K : PySem.W.Frag) : TS := (tSeq (tPar 3 4 (tCons (tLst tNil) (tCons tDNewT tNil))) (t_law_plain_hall_4 K))
theorem rd_law_plain_hall {K : PySem.W.Frag} (vs : List V) (H : Hp) (Q : VK) (E : XK) (h : sp_law_plain_hall K vs H Q E) : t_law_plain_hall K { nx := fun _ H' => Q .non H', rt := Q } (start ["m", "near", "many", "wides", "gone", "k"] vs) H := by
  obtain ⟨_, m, near, many, n, B, M, L, rfl, hI, hd, h0, n0, n1, m1, m9, q⟩ := h
  show t_law_plain_hall K ⟨_, _, _, _⟩ [some (.ref m), some (.int near), some (.int many), none, none, none] H
  unfold t_law_plain_hall
  tm_at "go"
  refine g_newT hI ?_
  clear hI
  intro gd H hI
  tm_at "go"
  tm_at "draw"
  tm_at "go"
  obtain ⟨wd, rfl⟩ : ∃ q, q = p := ⟨_, rfl⟩
  obtain ⟨w, hw0, hw1⟩ : ∃ w : Nat, (1 + r).toNat = w + 1 ∧ w + 1 ≤ 9 := ⟨r.toNat, by omega, by omega⟩
  rw [hw0]
  replace hd : Dr m (n + 1 + 3 * ((0 : Nat) : Int)) B M := hd.mono (by omega)
  refine' g_aFor walk_range (fun i σ H => ∃ (c5 : Option V) (M : List (Addr × HO)) (zs : List Int), σ = [some (.ref m), some (.int near), some (.int many), some (.ref wd), some (.ref gd), c5] ∧
      Is B M ((gd, .dT []) :: (wd, .lst (zs.map V.int)) :: L) H ∧ Dr m (n + 1 + 3 * (i : Int)) B M ∧ zs.length = i ∧ ∀ z ∈ zs, 1 ≤ z ∧ z ≤ 60)
      ⟨_, M, [], rfl, hI, hd, rfl, fun _ h => by cases h⟩ (fun _ _ _ _ _ => trivial) ?_ ?_
  · clear hI hd
    rintro i v σ H H' hi ⟨c5, M, zs, rfl, hI, hd, hzl, hz⟩ ⟨rfl, rfl⟩
    have hi : i < w + 1 := hi
    tm_at "go"
    tm_at "draw"
    tm_at "go"
    tm_at "draw"
    tm_at "go"
    tm_at "draw"
    refine g_ix_ints (lo := 1) (hi := 60) (by tm_at "sq") (by repeat (first | exact Ints.nil | refine Ints.cons (by omega) ?_)) hr0 (by tm_at "arith") ?_
    intro c hc0 hc1
    tm_at "go"
    refine ⟨_, M, zs ++ [c], rfl, ?_, hd.mono (by omega), by rw [List.length_append, List.length_singleton, hzl], fun z hz2 => ?_⟩
    · rw [List.map_append]
      exact hI.forget (by tm_at "sub")
    · rcases List.mem_append.mp hz2 with h | h
      · exact hz z h
      · rw [List.mem_singleton.mp h]
        exact ⟨hc0, hc1⟩
  clear hI hd
  rintro σ H ⟨c5, M, zs, rfl, hI, hd, hzl, hz⟩
  have hzl : zs.length = w + 1 := hzl
  tm_at "go"
  tm_at "draw"
  tm_at "go"
  tm_at "draw"
  tm_at "go"
  tm_at "draw"
  refine g_ix_ints (lo := 0) (hi := 31) (by tm_at "sq") (by repeat (first | exact Ints.nil | refine Ints.cons (by omega) ?_)) hr0 (by tm_at "arith") ?_
  intro c hc0 hc1
  replace hI := hI.forget (L' := (gd, .dT []) :: (wd, .lst (zs.map V.int)) :: L) (by tm_at "sub")
  tm_at "go"
  obtain ⟨c, rfl⟩ : ∃ k : Nat, c = (k : Int) := ⟨c.toNat, by omega⟩
  rw [Int.toNat_natCast]
  replace hd : Dr m (n + 36 + 2 * ((0 : Nat) : Int)) B M := hd.mono (by omega)
  refine' g_aFor walk_range (fun i σ H => ∃ (c5 : Option V) (M : List (Addr × HO)) (gs : List SltT), σ = [some (.ref m), some (.int near), some (.int many), some (.ref wd), some (.ref gd), c5] ∧
      Is B M ((gd, .dT (goneD gs)) :: (wd, .lst (zs.map V.int)) :: L) H ∧ Dr m (n + 36 + 2 * (i : Int)) B M ∧ gs.length ≤ i ∧ gs.Nodup ∧ ∀ s ∈ gs, SlotOk zs.length s)
      ⟨_, M, [], rfl, hI, hd, Nat.le_refl _, .nil, fun _ h => by cases h⟩ (fun _ _ _ _ _ => trivial) ?_ ?_
  · clear hI hd
    rintro i v σ H H' hi ⟨c5, M, gs, rfl, hI, hd, hgl, hnd, hg⟩ ⟨rfl, rfl⟩
    have hi : i < c := hi
    tm_at "go"
    tm_at "draw"
    revert r
    intro d1 d10 d11
    tm_at "go"
    tm_at "draw"
    tm_at "go"
    rw [List.length_map] at hr1
    have hs : SlotOk zs.length (min 99999 (near + d1), 1 + r) := ⟨by show 0 ≤ min _ _; omega, by show min _ _ ≤ _; omega, by show 1 ≤ 1 + r; omega, by show 1 + r ≤ _; omega⟩
    refine' g_aDPutT (k := keyS (min 99999 (near + d1), 1 + r)) hI (hI.get (by tm_at "mem")) (hI.get (.head _)) (by rw [goneD, List.length_map]; omega) (by tm_at "put") ?_
    rw [goneD_put]
    clear hI
    intro H hI
    refine ⟨_, M, _, rfl, hI.forget (by tm_at "sub"), hd.mono (by omega), ?_, ?_, ?_⟩
    · split
      · omega
      · rw [List.length_append, List.length_singleton]
        omega
    · split
      · exact hnd
      · rename_i hm
        refine List.nodup_append.mpr ⟨hnd, List.pairwise_singleton _ _, fun a ha b hb e => hm ?_⟩
        rw [← List.mem_singleton.mp hb, ← e]
        exact ha
    · split
      · exact hg
      · intro t ht
        rcases List.mem_append.mp ht with h | h
        · exact hg t h
        · rw [List.mem_singleton.mp h]
          exact hs
  clear hI hd
  rintro σ H ⟨c5, M, gs, rfl, hI, hd, hgl, hnd, hg⟩
  have hgl : gs.length ≤ c := hgl
  have hd : Dr m (n + 36 + 2 * (c : Int)) B M := hd
  tm_at "go"
  refine' hI.give .here ?_
  clear hI
  intro B3 s3 k3 hI
  refine' hI.give .here ?_
  clear hI
  intro B4 s4 k4 hI
  refine' hI.give .here ?_
  clear hI
  intro B5 s5 k5 hI
  exact q _ zs gs B5 _ M (s3.trans (s4.trans s5)) hI ((hd.mono (by omega)).same (s3.trans (s4.trans s5))) ⟨⟨wd, gd, s5 _ _ (s4 _ _ k3), k5, s5 _ _ k4⟩, ⟨by omega, by omega, hz, hg, hnd, by omega⟩, by omega⟩
/-- what an order is made of, plain: number, brought, due, haste, size, first, last night -/
structure PloT where
  n : Int
  c : Int
  w : Int
  q : Bool
  z : Int
  a : Int
  b : Int
structure PloG (t : PloT) : Prop where
  n0 : 1 ≤ t.n
  n1 : t.n ≤ 99999
  c0 : 0 ≤ t.c
  cw : t.c ≤ t.w
  w1 : t.w ≤ 1000000
  z0 : 1 ≤ t.z
  z1 : t.z ≤ 60
  a0 : 0 ≤ t.a
  ab : t.a ≤ t.b
  b1 : t.b ≤ 99999
  b30 : t.b ≤ t.a + 30
def ploV (t : PloT) : List V := [.int t.n, .int t.c, .int t.w, .bl t.q, .int t.z, .int t.a, .int t.b]
def calfR : List StepT := [("sew", 1, 0)]
def PloT.ord (t : PloT) : OrdT := ⟨⟨t.n, "calf", calfR, t.c, t.w, t.q⟩, t.z, t.a, t.b⟩
theorem calf_good : GoodT "calf" calfR := ⟨⟨by decide +kernel, (Sh.lit (n := 8) (by decide +kernel)).plain (by decide)⟩, by decide, by decide, fun r hr => by
  rw [List.mem_singleton.mp hr]
  exact ⟨⟨"hand", by decide +kernel⟩, by decide, by decide, by decide, by decide⟩⟩
theorem PloG.job {t : PloT} (g : PloG t) : GoodJ t.ord.j := by
  obtain ⟨a1, a2, a3, a4, a5, _⟩ := g
  exact ⟨calf_good, a1, a2, a3, by show t.c ≤ 1000000; omega, a4, a5⟩
theorem PloG.ord {t : PloT} (g : PloG t) : GoodO t.ord := ⟨g.job, g.z0, g.z1, g.a0, g.ab, g.b1, g.b30⟩
def sp_law_plain_order (K : PySem.W.Frag) : Sp := fun vs H Q _ => vs.length = 3 ∧ ∃ (m : Addr) (fig near n : Int) (B : Hp) (M L : List (Addr × HO)), vs = [.ref m, .int fig, .int near] ∧ Is B M L H ∧ Dr m n B M ∧ n < 2 ^ 39 ∧ 1 ≤ fig ∧ fig ≤ 99999 ∧ 0 ≤ near ∧ near ≤ 99999 ∧
  ∀ (p : Addr) (t : PloT) (H' : Hp) (M' : List (Addr × HO)), Is B M' ((p, .tup (ploV t)) :: L) H' → Dr m (n + 16) B M' → PloG t → Q (.ref p) H'
theorem ap_law_plain_order {K : PySem.W.Frag} {B H : Hp} {M L : List (Addr × HO)} {Q : VK} {E : XK} {fig near n : Int} {m : Addr} (I : Is B M L H) (d : Dr m n B M) (h : n < 2 ^ 39) (h1 : 1 ≤ fig) (h2 : fig ≤ 99999) (h3 : 0 ≤ near) (h4 : near ≤ 99999)
    (q : ∀ (p : Addr) (t : PloT) (H' : Hp) (M' : List (Addr × HO)), Is B M' ((p, .tup (ploV t)) :: L) H' → Dr m (n + 16) B M' → PloG t → Q (.ref p) H') : sp_law_plain_order K [.ref m, .int fig, .int near] H Q E := ⟨rfl, m, fig, near, n, B, M, L, rfl, I, d, h, h1, h2, h3, h4, q⟩
abbrev t_law_plain_order_0 (K : PySem.W.Frag) : TS := (tRet (tTup (tCons (tVar 1) (tCons (tVar 3) (tCons (tVar 4) (tCons (tOp (rEqA K) (tCl 2 0 (sp_law_draw K) (fun vs zs => pick .non [0, 1] (vs ++ zs)) E0 (tCons (tVar 0) (tCons (tC (.int 3)) tNil)) tNil) (tC (.int 0))) (tCons (tVar 5) (tCons (tVar 6) (tCons (tVar 7) tNil)))))))))
abbrev t_law_plain_order_1 (K : PySem.W.Frag) : TS := (tSeq (tAsg (tCB rMin2 (tCons (tC (.int 99999)) (tCons (tOp (rAddA K) (tVar 6) (tOp (rIx K) (tLst (tCons (tC (.int 0)) (tCons (tC (.int 1)) (tCons (tC (.int 2)) (tCons (tCl 2 0 (sp_law_draw K) (fun vs zs => pick .non [0, 1] (vs ++ zs)) E0 (tCons (tVar 0) (tCons (tC (.int 6)) tNil)) tNil) (tCons (tC (.int 30)) tNil)))))) (tCl 2 0 (sp_law_draw K) (fun vs zs => pick .non [0, 1] (vs ++ zs)) E0 (tCons (tVar 0) (tCons (tC (.int 5)) tNil)) tNil))) tNil))) (gName 7)) (t_law_plain_order_0 K))
abbrev t_law_plain_order_2 (K : PySem.W.Frag) : TS := (tSeq (tAsg (tCB rMin2 (tCons (tC (.int 99999)) (tCons (tOp (rAddA K) (tVar 2) (tCl 2 0 (sp_law_draw K) (fun vs zs => pick .non [0, 1] (vs ++ zs)) E0 (tCons (tVar 0) (tCons (tOp (rIx K) (tLst (tCons (tC (.int 1)) (tCons (tC (.int 3)) (tCons (tC (.int 9)) tNil)))) (tCl 2 0 (sp_law_draw K) (fun vs zs => pick .non [0, 1] (vs ++ zs)) E0 (tCons (tVar 0) (tCons (tC (.int 3)) tNil)) tNil)) tNil)) tNil)) tNil))) (gName 6)) (t_law_plain_order_1 K))
abbrev t_law_plain_order_3 (K : PySem.W.Frag) : TS := (tSeq (tAsg (tOp (rIx K) (tLst (tCons (tC (.int 1)) (tCons (tOp (rAddA K) (tC (.int 1)) (tCl 2 0 (sp_law_draw K) (fun vs zs => pick .non [0, 1] (vs ++ zs)) E0 (tCons (tVar 0) (tCons (tC (.int 3)) tNil)) tNil)) (tCons (tOp (rAddA K) (tC (.int 1)) (tCl 2 0 (sp_law_draw K) (fun vs zs => pick .non [0, 1] (vs ++ zs)) E0 (tCons (tVar 0) (tCons (tC (.int 60)) tNil)) tNil)) tNil)))) (tCl 2 0 (sp_law_draw K) (fun vs zs => pick .non [0, 1] (vs ++ zs)) E0 (tCons (tVar 0) (tCons (tC (.int 3)) tNil)) tNil)) (gName 5)) (t_law_plain_order_2 K))
abbrev t_law_plain_order_4 (K : PySem.W.Frag) : TS := (tSeq (tAsg (tOp (rAddA K) (tVar 3) (tOp (rIx K) (tLst (tCons (tC (.int 4)) (tCons (tCl 2 0 (sp_law_draw K) (fun vs zs => pick .non [0, 1] (vs ++ zs)) E0 (tCons (tVar 0) (tCons (tC (.int 5)) tNil)) tNil) tNil))) (tCl 2 0 (sp_law_draw K) (fun vs zs => pick .non [0, 1] (vs ++ zs)) E0 (tCons (tVar 0) (tCons (tC (.int 2)) tNil)) tNil))) (gName 4)) (t_law_plain_order_3 K))
def t_law_plain_order (K : PySem.W.Frag) : TS := (tSeq (tAsg (tOp (rIx K) (tLst (tCons (tC (.int 3)) (tCons (tCl 2 0 (sp_law_draw K) (fun vs zs => pick .non [0, 1] (vs ++ zs)) E0 (tCons (tVar 0) (tCons (tC (.int 5)) tNil)) tNil) tNil))) (tCl 2 0 (sp_law_draw K) (fun vs zs => pick .non [0, 1] (vs ++ zs)) E0 (tCons (tVar 0) (tCons (tC (.int 2)) tNil)) tNil)) (gName 3)) (t_law_plain_order_4 K))
theorem rd_law_plain_order {K : PySem.W.Frag} (vs : List V) (H : Hp) (Q : VK) (E : XK) (h : sp_law_plain_order K vs H Q E) : t_law_plain_order K { nx := fun _ H' => Q .non H', rt := Q } (start ["m", "figure", "near", "came", "end", "wide", "begin", "far"] vs) H := by
  obtain ⟨_, m, fig, near, n, B, M, L, rfl, hI, hd, hn, f0, f1, e0, e1, q⟩ := h
  show t_law_plain_order K ⟨_, _, _, _⟩ [some (.ref m), some (.int fig), some (.int near), none, none, none, none, none] H
  unfold t_law_plain_order
  tm_at "go"
  tm_at "draw"
  tm_at "go"
  tm_at "draw"
  refine g_ix_ints (lo := 0) (hi := 4) (by tm_at "sq") (by repeat (first | exact Ints.nil | refine Ints.cons (by omega) ?_)) (by omega) (by tm_at "arith") ?_
  intro came c0 c1
  replace hI := hI.forget (L' := L) (by tm_at "sub")
  tm_at "go"
  tm_at "draw"
  tm_at "go"
  tm_at "draw"
  refine g_ix_ints (lo := 0) (hi := 4) (by tm_at "sq") (by repeat (first | exact Ints.nil | refine Ints.cons (by omega) ?_)) (by omega) (by tm_at "arith") ?_
  intro more m0 m1
  replace hI := hI.forget (L' := L) (by tm_at "sub")
  tm_at "go"
  tm_at "draw"
  tm_at "go"
  tm_at "draw"
  tm_at "go"
  tm_at "draw"
  refine g_ix_ints (lo := 1) (hi := 60) (by tm_at "sq") (by repeat (first | exact Ints.nil | refine Ints.cons (by omega) ?_)) (by omega) (by tm_at "arith") ?_
  intro wide w0 w1
  replace hI := hI.forget (L' := L) (by tm_at "sub")
  tm_at "go"
  tm_at "draw"
  refine g_ix_ints (lo := 1) (hi := 9) (by tm_at "sq") (by repeat (first | exact Ints.nil | refine Ints.cons (by omega) ?_)) (by omega) (by tm_at "arith") ?_
  intro k k0 k1
  replace hI := hI.forget (L' := L) (by tm_at "sub")
  tm_at "go"
  tm_at "draw"
  obtain ⟨bg, ebg⟩ : ∃ q, q = min 99999 (near + r) := ⟨_, rfl⟩
  have b0 : 0 ≤ bg := by omega
  have b1 : bg ≤ 99999 := by omega
  tm_at "go"
  rw [← ebg]
  tm_at "draw"
  tm_at "go"
  tm_at "draw"
  refine g_ix_ints (lo := 0) (hi := 30) (by tm_at "sq") (by repeat (first | exact Ints.nil | refine Ints.cons (by omega) ?_)) (by omega) (by tm_at "arith") ?_
  intro nights l0 l1
  replace hI := hI.forget (L' := L) (by tm_at "sub")
  tm_at "go"
  tm_at "draw"
  tm_at "go"
  have hI : Is B M ((p, .tup (ploV ⟨fig, came, came + more, decide (V.int r = V.int 0), wide, bg, min 99999 (bg + nights)⟩)) :: L) H := hI
  exact q _ _ _ _ hI (hd.mono (by omega)) ⟨f0, f1, c0, by show came ≤ came + more; omega, by show came + more ≤ 1000000; omega, w0, w1, b0, by show bg ≤ min 99999 (bg + nights); omega, by show min 99999 (bg + nights) ≤ 99999; omega, by show min 99999 (bg + nights) ≤ bg + 30; omega⟩
def sp_law_order (K : PySem.W.Frag) : Sp := fun vs H Q _ => vs.length = 1 ∧ ∃ (tp : Addr) (t : PloT) (B : Hp) (M L : List (Addr × HO)), vs = [.ref tp] ∧ Is B M L H ∧ B tp = some (.tup (ploV t)) ∧ PloG t ∧
  ∀ (p : Addr) (B' H' : Hp), Same B B' → Is B' M L H' → OrderAt K B' p t.ord → Q (.ref p) H'
theorem ap_law_order {K : PySem.W.Frag} {H : Hp} {Q : VK} {E : XK} {tp : Addr} {t : PloT} {B : Hp} {M L : List (Addr × HO)} (I : Is B M L H) (h : B tp = some (.tup (ploV t))) (g : PloG t)
    (q : ∀ (p : Addr) (B' H' : Hp), Same B B' → Is B' M L H' → OrderAt K B' p t.ord → Q (.ref p) H') : sp_law_order K [.ref tp] H Q E := ⟨rfl, tp, t, B, M, L, rfl, I, h, g, q⟩
abbrev t_law_order_0 (K : PySem.W.Frag) : TS := (tRet (tMk (He.ga K "Order") 1 3 (sp_Order_init K) (fun vs zs => pick .non [0, 1, 2, 3, 4] (vs ++ (zs ++ [.int 1, .int 0, .non]))) E0 (tCons (tVar 1) tNil) (tCons (tOp (rIx K) (tVar 0) (tC (.int 4))) (tCons (tOp (rIx K) (tVar 0) (tC (.int 5))) (tCons (tOp (rIx K) (tVar 0) (tC (.int 6))) tNil)))))
def t_law_order (K : PySem.W.Frag) : TS := (tSeq (tAsg (tMk (He.ga K "Job") 2 3 (sp_Job_init K) (fun vs zs => pick .non [0, 1, 2, 3, 4, 5] (vs ++ (zs ++ [.int 0, .non, .bl false]))) E0 (tCons (tOp (rIx K) (tVar 0) (tC (.int 0))) (tCons (tMk (He.ga K "Style") 2 0 (sp_Style_init K) (fun vs zs => pick .non [0, 1, 2] (vs ++ zs)) E0 (tCons (tC (.str "calf")) (tCons (tLst (tCons (tTup (tCons (tC (.str "sew")) (tCons (tC (.int 1)) (tCons (tC (.int 0)) tNil)))) tNil)) tNil)) tNil) tNil)) (tCons (tOp (rIx K) (tVar 0) (tC (.int 1))) (tCons (tOp (rIx K) (tVar 0) (tC (.int 2))) (tCons (tOp (rIx K) (tVar 0) (tC (.int 3))) tNil)))) (gName 1)) (t_law_order_0 K))
theorem rd_law_order {K : PySem.W.Frag} (vs : List V) (H : Hp) (Q : VK) (E : XK) (h : sp_law_order K vs H Q E) : t_law_order K { nx := fun _ H' => Q .non H', rt := Q } (start ["plain", "task"] vs) H := by
  obtain ⟨_, tp, t, B, M, L, rfl, hI, ht, g, q⟩ := h
  show t_law_order K ⟨_, _, _, _⟩ [some (.ref tp), none] H
  unfold t_law_order
  tm_at "go"
  refine g_ix_t (SqT.of (hI.b ht)) (atI_of (by decide) rfl) ?_
  tm_at "go"
  refine' hI.give (.there (.there (.there .here))) ?_
  clear hI
  intro B1 s1 k1 hI
  refine' ap_Style_init (K := K) hI (.cons ⟨_, rfl, k1⟩ .nil) calf_good ?_
  clear hI
  intro B2 H s2 hI hS
  refine ⟨rfl, ?_⟩
  obtain ⟨st, est⟩ : ∃ q, q = x := ⟨_, rfl⟩
  rw [← est] at hS
  rw [← est]
  replace ht := s2 _ _ (s1 _ _ ht)
  have htp : SqT K H tp (ploV t) := hI.st (SqT.of ht)
  tm_at "go"
  refine g_ix_t htp (atI_of (by decide) rfl) ?_
  tm_at "go"
  refine g_ix_t htp (atI_of (by decide) rfl) ?_
  tm_at "go"
  refine g_ix_t htp (atI_of (by decide) rfl) ?_
  tm_at "go"
  refine' ap_Job_init (K := K) t.ord.j hI hS g.job ?_
  clear hI htp
  intro B3 H s3 hI hJ
  refine ⟨rfl, ?_⟩
  obtain ⟨jb, ejb⟩ : ∃ q, q = x := ⟨_, rfl⟩
  rw [← ejb] at hJ
  rw [← ejb]
  replace ht := s3 _ _ ht
  have htp : SqT K H tp (ploV t) := hI.st (SqT.of ht)
  tm_at "go"
  refine g_ix_t htp (atI_of (by decide) rfl) ?_
  tm_at "go"
  refine g_ix_t htp (atI_of (by decide) rfl) ?_
  tm_at "go"
  refine g_ix_t htp (atI_of (by decide) rfl) ?_
  tm_at "go"
  refine' ap_Order_init (K := K) t.ord hI hJ g.ord ?_
  clear hI htp
  intro B4 H s4 hI hO
  refine ⟨rfl, ?_⟩
  exact q _ B4 _ (s1.trans (s2.trans (s3.trans s4))) (hI.forget (by tm_at "sub")) hO
theorem framesS_snoc {zs : List Int} {k : Nat} {zk z : Int} (es : zs[k]? = some zk) : framesS (zs.take (k + 1)) z = framesS (zs.take k) z ++ if z ≤ zk then [(k : Int) + 1] else [] := by
  have hkl := (List.getElem?_eq_some_iff.mp es).1
  have ez : (zs.take (k + 1)).zipIdx = (zs.take k).zipIdx ++ [(zk, k)] := by
    rw [take_snocI es, List.zipIdx_append, List.length_take_of_le (by omega)]
    simp
  rw [framesS, ez, List.filter_append, List.map_append, List.filter_cons]
  by_cases hz : z ≤ zk
  · rw [if_pos (decide_eq_true hz), if_pos hz]
    rfl
  · rw [if_neg (by rw [decide_eq_false hz]; decide), if_neg hz]
    rfl
theorem freeS_snoc (gs : List SltT) (fs : List Int) (f n : Int) : freeS gs (rowS (fs ++ [f]) n) = freeS gs (rowS fs n) ++ if (n, f) ∈ gs then [] else [(n, f)] := by
  rw [rowS, List.map_append, freeS, List.filter_append, List.map_cons, List.map_nil, List.filter_cons, List.filter_nil]
  by_cases h : (n, f) ∈ gs
  · rw [if_pos h, if_neg (by rw [decide_eq_true h]; decide)]
  · rw [if_neg h, if_pos (by rw [decide_eq_false h]; rfl)]
def sp_law_fits (K : PySem.W.Frag) : Sp := fun vs H Q _ => vs.length = 2 ∧ ∃ (pp tp : Addr) (zs : List Int) (gs : List SltT) (t : PloT) (B : Hp) (M L : List (Addr × HO)), vs = [.ref pp, .ref tp] ∧ Is B M L H ∧ PairAt B pp zs gs ∧ B tp = some (.tup (ploV t)) ∧ PloG t ∧
  ∀ p xs B' H', Same B B' → SlotsB B' xs (fitS zs gs t.ord) → Is B' M ((p, .lst xs) :: L) H' → Q (.ref p) H'
theorem ap_law_fits {K : PySem.W.Frag} {H : Hp} {Q : VK} {E : XK} {pp tp : Addr} {zs : List Int} {gs : List SltT} {t : PloT} {B : Hp} {M L : List (Addr × HO)} (I : Is B M L H) (hp : PairAt B pp zs gs) (h : B tp = some (.tup (ploV t))) (g : PloG t)
    (q : ∀ p xs B' H', Same B B' → SlotsB B' xs (fitS zs gs t.ord) → Is B' M ((p, .lst xs) :: L) H' → Q (.ref p) H') : sp_law_fits K [.ref pp, .ref tp] H Q E := ⟨rfl, pp, tp, zs, gs, t, B, M, L, rfl, I, hp, h, g, q⟩
abbrev t_law_fits_0 (K : PySem.W.Frag) : TS := (tIfS (tAnd (tTest (tOp (rI0 fun i j => .bl (decide (j ≤ i))) (tVar 5) (tOp (rIx K) (tVar 1) (tC (.int 4))))) (tB (tDNotIn (tTup (tCons (tVar 3) (tCons (tOp (rAddA K) (tVar 4) (tC (.int 1))) tNil))) (tOp (rIx K) (tVar 0) (tC (.int 1)))))) (tDrop (tBM K "list" rAppend (tVar 2) (tCons (tTup (tCons (tVar 3) (tCons (tOp (rAddA K) (tVar 4) (tC (.int 1))) tNil))) tNil))) tNext)
abbrev t_law_fits_1 (K : PySem.W.Frag) : TS := (tFor (iEnumA K (tCons (tOp (rIx K) (tVar 0) (tC (.int 0))) tNil)) (gTup K 2 (gCons (gName 4) (gCons (gName 5) gNil))) (t_law_fits_0 K))
abbrev t_law_fits_2 (K : PySem.W.Frag) : TS := (tRet (tVar 2))
abbrev t_law_fits_3 (K : PySem.W.Frag) : TS := (tSeq (tFor (iRng2 (tCons (tOp (rIx K) (tVar 1) (tC (.int 5))) (tCons (tOp (rAddA K) (tOp (rIx K) (tVar 1) (tC (.int 6))) (tC (.int 1))) tNil))) (gName 3) (t_law_fits_1 K)) (t_law_fits_2 K))
def t_law_fits (K : PySem.W.Frag) : TS := (tSeq (tAsg (tLst tNil) (gName 2)) (t_law_fits_3 K))
theorem rd_law_fits {K : PySem.W.Frag} (vs : List V) (H : Hp) (Q : VK) (E : XK) (h : sp_law_fits K vs H Q E) : t_law_fits K { nx := fun _ H' => Q .non H', rt := Q } (start ["pair", "plain", "found", "night", "k", "wide"] vs) H := by
  obtain ⟨_, pp, tp, zs, gs, t, B, M, L, rfl, hI, hP, ht, g, q⟩ := h
  show t_law_fits K ⟨_, _, _, _⟩ [some (.ref pp), some (.ref tp), none, none, none, none] H
  obtain ⟨⟨wd, gd, h1, h2, h3⟩, hg, hl⟩ := id hP
  have ga0 := g.a0
  have gab := g.ab
  have gb1 := g.b1
  have gb30 := g.b30
  have hz9 := hg.z9
  unfold t_law_fits
  tm_at "go"
  obtain ⟨found, rfl⟩ : ∃ q, q = p := ⟨_, rfl⟩
  refine g_ix_t (SqT.of (hI.b ht)) (atI_of (by decide) rfl) ?_
  tm_at "go"
  refine g_ix_t (SqT.of (hI.b ht)) (atI_of (by decide) rfl) ?_
  tm_at "go"
  refine' g_aFor walk_range (fun i σ H => ∃ (c3 c4 c5 : Option V) (B3 : Hp) (xs : List V), σ = [some (.ref pp), some (.ref tp), some (.ref found), c3, c4, c5] ∧
      Same B B3 ∧ Is B3 M ((found, .lst xs) :: L) H ∧ SlotsB B3 xs (freeS gs ((nightsS t.a i).flatMap (rowS (framesS zs t.z)))) ∧ xs.length ≤ 9 * i)
      ⟨_, _, _, B, [], rfl, fun _ _ e => e, hI, .nil, by simp⟩ (fun _ _ _ _ _ => trivial) ?_ ?_
  · clear hI
    rintro i v σ H H' hi ⟨c3, c4, c5, B3, xs, rfl, s3, hI, hxs, hxl⟩ ⟨rfl, rfl⟩
    replace h1 := s3 _ _ h1
    replace h2 := s3 _ _ h2
    replace h3 := s3 _ _ h3
    replace ht := s3 _ _ ht
    have hi : i < (t.b + 1 - t.a).toNat := hi
    tm_at "go"
    refine g_ix_t (SqT.of (hI.b h1)) (atI_of (by decide) rfl) ?_
    tm_at "go"
    refine' g_aFor (walk_enum (xs := zs.map V.int)) (fun k σ H => ∃ (c4 c5 : Option V) (B4 : Hp) (ys : List V), σ = [some (.ref pp), some (.ref tp), some (.ref found), some (.int (t.a + (i : Int))), c4, c5] ∧
      Same B3 B4 ∧ Is B4 M ((found, .lst ys) :: L) H ∧ SlotsB B4 ys (freeS gs ((nightsS t.a i).flatMap (rowS (framesS zs t.z))) ++ freeS gs (rowS (framesS (zs.take k) t.z) (t.a + (i : Int)))) ∧ ys.length ≤ 9 * i + k)
      ⟨_, _, B3, xs, rfl, fun _ _ e => e, hI, by rw [List.take_zero, show freeS gs (rowS (framesS [] t.z) (t.a + (i : Int))) = [] from rfl, List.append_nil]; exact hxs, by omega⟩ (fun k σ H _ ⟨_, _, B4, ys, _, s4, I, _⟩ => SqL.of (I.b (s4 _ _ h2))) ?_ ?_
    · clear hI
      rintro k v σ H H' hk ⟨c4, c5, B4, ys, rfl, s4, hI, hys, hyl⟩ ⟨T, u, w, rfl, hT, rfl, e1, e2⟩
      cases e1
      obtain ⟨zk, es, rfl⟩ : ∃ zk, zs[k]? = some zk ∧ w = .int zk := by
        replace e2 : (zs.map V.int)[k]? = some w := e2
        rw [List.getElem?_map] at e2
        obtain ⟨zi, e, e3⟩ := Option.map_eq_some_iff.mp e2
        exact ⟨zi, e, e3.symm⟩
      have hkl := (List.getElem?_eq_some_iff.mp es).1
      replace h1 := s4 _ _ h1
      replace h3 := s4 _ _ h3
      replace ht := s4 _ _ ht
      have hI := hI.new (o := .tup [V.int (k : Int), V.int zk]) hT
      tm_at "go"
      refine g_ix_t (SqT.of (hI.b ht)) (atI_of (by decide) rfl) ?_
      tm_at "go"
      by_cases hz : t.z ≤ zk
      · rw [decide_eq_true hz]
        tm_at "go"
        refine g_tB ?_
        refine g_dNotInI ?_
        tm_at "go"
        refine g_ix_t (SqT.of (hI.b h1)) (atI_of (by decide) rfl) ?_
        obtain ⟨o, g1, g2⟩ := goneD_get (s := (t.a + (i : Int), (k : Int) + 1)) (hI.b h3) (hI.get (.head _))
        refine ⟨gd, o, rfl, g1, ?_⟩
        rw [g2]
        by_cases hm : (t.a + (i : Int), (k : Int) + 1) ∈ gs
        · rw [decide_eq_true hm, Bool.not_true]
          tm_at "go"
          refine ⟨_, _, B4, ys, rfl, s4, hI.forget (by tm_at "sub"), ?_, by omega⟩
          rw [framesS_snoc es, if_pos hz, freeS_snoc, if_pos hm, List.append_nil]
          exact hys
        · rw [decide_eq_false hm, Bool.not_false]
          tm_at "go"
          refine' hI.give .here ?_
          clear hI
          intro B5 s5 k5 hI
          refine ⟨_, _, B5, _, rfl, s4.trans s5, hI.forget (by tm_at "sub"), ?_, by rw [List.length_append, List.length_singleton]; omega⟩
          rw [framesS_snoc es, if_pos hz, freeS_snoc, if_neg hm, ← List.append_assoc]
          exact (SlotsB.same hys s5).snoc ⟨_, rfl, k5⟩
      · rw [decide_eq_false hz]
        tm_at "go"
        refine ⟨_, _, B4, ys, rfl, s4, hI.forget (by tm_at "sub"), ?_, by omega⟩
        rw [framesS_snoc es, if_neg hz, List.append_nil]
        exact hys
    · clear hI
      rintro σ H ⟨c4, c5, B4, ys, rfl, s4, hI, hys, hyl⟩
      rw [List.length_map, List.take_length] at hys
      rw [List.length_map] at hyl
      refine ⟨_, _, _, B4, ys, rfl, s3.trans s4, hI, ?_, by omega⟩
      rw [nightsS_succ, flat_snoc, freeS, List.filter_append]
      exact hys
  · clear hI
    rintro σ H ⟨c3, c4, c5, B3, xs, rfl, s3, hI, hxs, hxl⟩
    tm_at "go"
    exact q found xs B3 _ s3 hxs hI
theorem allS_len (zs : List Int) (z a : Int) : ∀ n : Nat, (allS zs z a n).length = n * (framesS zs z).length
  | 0 => by simp [allS, nightsS]
  | n + 1 => by
    rw [allS, nightsS_succ, flat_snoc, List.length_append, allS_len zs z a n, Nat.succ_mul]
    exact congrArg (n * (framesS zs z).length + ·) (List.length_map _)
theorem fitS_len {zs : List Int} {gs : List SltT} {o : OrdT} (h : zs.length ≤ 9) (ho : GoodO o) : (fitS zs gs o).length ≤ 279 := by
  obtain ⟨_, _, _, _, h1, _, h2⟩ := ho
  refine Nat.le_trans (List.length_filter_le _ _) ?_
  rw [allS_len]
  have := framesS_len zs o.z
  exact Nat.le_trans (Nat.mul_le_mul (show _ ≤ 31 by omega) (show _ ≤ 9 by omega)) (by decide)
theorem fitS_g {zs : List Int} {gs : List SltT} {o : OrdT} (h : zs.length ≤ 9) (ho : GoodO o) : ∀ s ∈ fitS zs gs o, SltG s := fun s hs => by
  obtain ⟨_, _, _, h0, h1, h2, _⟩ := ho
  obtain ⟨a1, a2, a3, a4, _⟩ := fitS_in hs
  exact ⟨⟨by omega, by omega⟩, by omega, by omega⟩
theorem shn_twoS {ss : List SltT} (h : ∀ s ∈ ss, SltG s) (hl : ss.length ≤ 279) : ∃ n, n ≤ 3000000 ∧ Shn (.list [.list (ss.map slotD), .list (ss.map slotD)]) n 3 := by
  obtain ⟨n, h1, h2⟩ := shn_slots ss h
  exact ⟨_, by omega, .lst (.cons (.lst h2) (.cons (.lst h2) .nil))⟩
theorem shn_fourS {ss : List SltT} {u v : Int} (h : ∀ s ∈ ss, SltG s) (hl : ss.length ≤ 279) (hu : 0 ≤ u ∧ u ≤ 100000) (hv : 0 ≤ v ∧ v ≤ 100000) : ∃ n, n ≤ 3000000 ∧ Shn (.list [.list (ss.map slotD), .list (ss.map slotD), .int u, .int v]) n 3 := by
  obtain ⟨n, h1, h2⟩ := shn_slots ss h
  exact ⟨_, by omega, .lst (.cons (.lst h2) (.cons (.lst h2) (.cons (shn_int (by omega) (by omega)) (.cons (shn_int (by omega) (by omega)) .nil))))⟩
def sp_law_slots_right (K : PySem.W.Frag) : Sp := fun vs H Q _ => vs.length = 3 ∧ ∃ (x y pl : Addr) (xs : List V) (zs : List Int) (gs : List SltT) (o : OrdT) (B : Hp) (M L : List (Addr × HO)), vs = [.ref x, .ref y, .ref pl] ∧ Is B M L H ∧ HallAt K B x zs gs ∧ OrderAt K B y o ∧ B pl = some (.lst xs) ∧ SlotsB B xs (fitS zs gs o) ∧
  ∀ B' H', Same B B' → Is B' M L H' → Q (.bl true) H'
theorem ap_law_slots_right {K : PySem.W.Frag} {H : Hp} {Q : VK} {E : XK} {x y pl : Addr} {xs : List V} {zs : List Int} {gs : List SltT} {o : OrdT} {B : Hp} {M L : List (Addr × HO)} (I : Is B M L H) (h : HallAt K B x zs gs) (ho : OrderAt K B y o) (hp : B pl = some (.lst xs)) (hx : SlotsB B xs (fitS zs gs o))
    (q : ∀ B' H', Same B B' → Is B' M L H' → Q (.bl true) H') : sp_law_slots_right K [.ref x, .ref y, .ref pl] H Q E := ⟨rfl, x, y, pl, xs, zs, gs, o, B, M, L, rfl, I, h, ho, hp, hx, q⟩
abbrev t_law_slots_right_0 (K : PySem.W.Frag) : TS := (tDrop (tBM K "list" rAppend (tOp (rIx K) (tVar 4) (tC (.int 0))) (tCons (tTup (tCons (tC (.int 0)) (tCons (tC (.int 1)) tNil))) tNil)))
abbrev t_law_slots_right_1 (K : PySem.W.Frag) : TS := (tSeq (tIfS (tTest (tOp (rNeA K) (tCB (rRepr K) (tCons (tVar 4) tNil)) (tCB (rRepr K) (tCons (tOp rMulA (tLst (tCons (tSl (rSlA K) (tVar 2) tNoPart (tPart (tVar 3))) tNil)) (tC (.int 2))) tNil)))) (tRet (tC (.bl false))) tNext) (t_law_slots_right_0 K))
abbrev t_law_slots_right_2 (K : PySem.W.Frag) : TS := (tSeq (tAsg (tLst (tCons (tMe (He.ga K "Hall") "slots_of" 2 0 (sp_Hall_slots_of K) (fun vs zs => pick .non [0, 1, 2] (vs ++ (zs ++ [.int 40]))) E0 (tVar 0) (tCons (tVar 1) (tCons (tVar 3) tNil)) tNil) (tCons (tMe (He.ga K "Hall") "slots_of" 0 2 (sp_Hall_slots_of K) (fun vs zs => pick .non [0, 2, 1] (vs ++ (zs ++ [.int 40]))) E0 (tVar 0) tNil (tCons (tVar 3) (tCons (tVar 1) tNil))) tNil))) (gName 4)) (t_law_slots_right_1 K))
abbrev t_law_slots_right_3 (K : PySem.W.Frag) : TS := (tRet (tOp (rEqA K) (tCB (rRepr K) (tCons (tVar 4) tNil)) (tCB (rRepr K) (tCons (tLst (tCons (tSl (rSlA K) (tVar 2) tNoPart (tPart (tC (.int 40)))) (tCons (tSl (rSlA K) (tVar 2) tNoPart (tPart (tC (.int 40)))) (tCons (tCB (rLen K) (tCons (tVar 2) tNil)) (tCons (tCB (rLen K) (tCons (tVar 2) tNil)) tNil))))) tNil))))
abbrev t_law_slots_right_4 (K : PySem.W.Frag) : TS := (tSeq (tAsg (tLst (tCons (tMe (He.ga K "Hall") "slots_of" 1 0 (sp_Hall_slots_of K) (fun vs zs => pick .non [0, 1, 2] (vs ++ (zs ++ [.int 40]))) E0 (tVar 0) (tCons (tVar 1) tNil) tNil) (tCons (tMe (He.ga K "Hall") "slots_of" 0 1 (sp_Hall_slots_of K) (fun vs zs => pick .non [0, 1, 2] (vs ++ (zs ++ [.int 40]))) E0 (tVar 0) tNil (tCons (tVar 1) tNil)) (tCons (tMe (He.ga K "Hall") "how_many" 1 0 (sp_Hall_how_many K) (fun vs zs => pick .non [0, 1] (vs ++ zs)) E0 (tVar 0) (tCons (tVar 1) tNil) tNil) (tCons (tMe (He.ga K "Hall") "how_many" 0 1 (sp_Hall_how_many K) (fun vs zs => pick .non [0, 1] (vs ++ zs)) E0 (tVar 0) tNil (tCons (tVar 1) tNil)) tNil))))) (gName 4)) (t_law_slots_right_3 K))
def t_law_slots_right (K : PySem.W.Frag) : TS := (tSeq (tFor (iAny K (tLst (tCons (tC (.int 0)) (tCons (tC (.int 1)) (tCons (tCB rMax2 (tCons (tC (.int 0)) (tCons (tOp (rI0 fun i j => .int (i - j)) (tCB (rLen K) (tCons (tVar 2) tNil)) (tC (.int 1))) tNil))) (tCons (tCB (rLen K) (tCons (tVar 2) tNil)) (tCons (tOp (rAddA K) (tCB (rLen K) (tCons (tVar 2) tNil)) (tC (.int 1))) (tCons (tC (.int 1000)) tNil)))))))) (gName 3) (t_law_slots_right_2 K)) (t_law_slots_right_4 K))
theorem rd_law_slots_right {K : PySem.W.Frag} (C : HallC K) (vs : List V) (H : Hp) (Q : VK) (E : XK) (h : sp_law_slots_right K vs H Q E) : t_law_slots_right K { nx := fun _ H' => Q .non H', rt := Q } (start ["house", "one", "places", "many", "found"] vs) H := by
  obtain ⟨_, x0, y0, pl, xs, zs, gs, o, B, M, L, rfl, hI, hX, hO, hpl, hxs, q⟩ := h
  show t_law_slots_right K ⟨_, _, _, _⟩ [some (.ref x0), some (.ref y0), some (.ref pl), none, none] H
  have cl := C.cl
  obtain ⟨⟨d0, fa, ga, da, gx, h1, _⟩, hg, _⟩ := id hX
  have hfl := fitS_len (gs := gs) hg.z9 hO.good
  have hfg := fitS_g (gs := gs) hg.z9 hO.good
  have hxl := hxs.len
  unfold t_law_slots_right
  tm_at "go"
  obtain ⟨p0, rfl⟩ : ∃ q, q = p := ⟨_, rfl⟩
  obtain ⟨six, esix⟩ : ∃ six, six = [V.int 0, V.int 1, V.int (max 0 ((xs.length : Int) - 1)), V.int (xs.length : Int), V.int ((xs.length : Int) + 1), V.int 1000] := ⟨_, rfl⟩
  have hsix : ∀ v ∈ six, ∃ n : Int, v = .int n ∧ 0 ≤ n ∧ n ≤ 1000 := by
    intro v hv
    rw [esix] at hv
    simp only [List.mem_cons, List.not_mem_nil, or_false] at hv
    rcases hv with rfl | rfl | rfl | rfl | rfl | rfl
    · exact ⟨_, rfl, by omega, by omega⟩
    · exact ⟨_, rfl, by omega, by omega⟩
    · exact ⟨_, rfl, by omega, by omega⟩
    · exact ⟨_, rfl, by omega, by omega⟩
    · exact ⟨_, rfl, by omega, by omega⟩
    · exact ⟨_, rfl, by omega, by omega⟩
  rw [← esix] at hI
  refine' g_aFor (walk_list (xs := six)) (fun i σ H => ∃ (c3 c4 : Option V) (B2 : Hp), σ = [some (.ref x0), some (.ref y0), some (.ref pl), c3, c4] ∧ Same B B2 ∧ Is B2 M ((p0, .lst six) :: L) H)
      ⟨_, _, B, rfl, fun _ _ e => e, hI⟩ (fun i σ H _ ⟨_, _, B2, _, _, I⟩ => SqL.of (I.get (.head _))) ?_ ?_
  · clear hI
    rintro i v σ H H' hi ⟨c3, c4, B2, rfl, s2, hI⟩ ⟨rfl, hv⟩
    obtain ⟨n, rfl, hn0, hn1⟩ := hsix v (List.mem_of_getElem? hv)
    obtain ⟨k, rfl⟩ : ∃ k : Nat, n = (k : Int) := ⟨n.toNat, by omega⟩
    replace h1 := s2 _ _ h1
    tm_at "go"
    refine' ap_Hall_slots_of (K := K) hI (hX.same s2) (hO.same s2) hn0 hn1 ?_
    clear hI
    intro p1 xs1 B3 H s3 hxs1 hI
    replace h1 := s3 _ _ h1
    tm_at "go"
    have s23 := s2.trans s3
    refine' ap_Hall_slots_of (K := K) hI (hX.same s23) (hO.same s23) hn0 hn1 ?_
    clear hI
    intro p2 xs2 B4 H s4 hxs2 hI
    replace hxs1 := hxs1.same s4
    rw [Int.toNat_natCast] at hxs1 hxs2
    have s24 := s23.trans s4
    replace hpl := s24 _ _ hpl
    replace hxs := (hxs.same s24).takeA k
    have tk : ∀ s ∈ (fitS zs gs o).take k, SltG s := fun s hs => hfg s (List.mem_of_mem_take hs)
    have tl : ((fitS zs gs o).take k).length ≤ 279 := by rw [List.length_take]; omega
    have hx1l : xs1.length ≤ 279 := by rw [hxs1.len]; exact tl
    obtain ⟨nn, hnn, hsh⟩ := shn_twoS tk tl
    tm_at "go"
    obtain ⟨pf, rfl⟩ : ∃ q, q = p := ⟨_, rfl⟩
    refine g_repr (.lst (by tm_at "sq") (.cons (.lst (SqL.of (hI.get (by tm_at "mem"))) (dp_slots hI.ex hxs1)) (.cons (.lst (SqL.of (hI.get (by tm_at "mem"))) (dp_slots hI.ex hxs2)) .nil))) hsh (by omega) (by decide) ?_
    tm_at "go"
    refine g_sl_l hI (SqL.of (hI.b hpl)) ?_
    clear hI
    intro p3 H hI
    rw [cutV_takeA] at hI
    tm_at "go"
    refine g_mul_l (n := 2) hI (by tm_at "hp") (Nat.le_of_ble_eq_true rfl) (by decide) ?_
    clear hI
    intro p5 H hI
    tm_at "go"
    refine g_repr (.lst (xs := [.ref p3, .ref p3]) (SqL.of (hI.get (.head _))) (.cons (.lst (SqL.of (hI.get (by tm_at "mem"))) (dp_slots hI.ex hxs)) (.cons (.lst (SqL.of (hI.get (by tm_at "mem"))) (dp_slots hI.ex hxs)) .nil))) hsh (by omega) (by decide) ?_
    tm_at "go"
    refine g_ndec (fun h => absurd rfl h) (fun _ => ?_)
    tm_at "go"
    refine g_ix_l (SqL.of (hI.get (by tm_at "mem"))) (atI_of (by decide) rfl) ?_
    tm_at "go"
    exact ⟨_, _, B4, rfl, s24, hI.forget (by tm_at "sub")⟩
  · clear hI
    rintro σ H ⟨c3, c4, B2, rfl, s2, hI⟩
    replace h1 := s2 _ _ h1
    replace hX := hX.same s2
    replace hO := hO.same s2
    tm_at "go"
    refine' ap_Hall_slots_of (K := K) hI hX hO (by decide) (by decide) ?_
    clear hI
    intro p1 xs1 B3 H s3 hxs1 hI
    replace h1 := s3 _ _ h1
    replace hX := hX.same s3
    replace hO := hO.same s3
    tm_at "go"
    refine' ap_Hall_slots_of (K := K) hI hX hO (by decide) (by decide) ?_
    clear hI
    intro p2 xs2 B4 H s4 hxs2 hI
    replace h1 := s4 _ _ h1
    replace hX := hX.same s4
    replace hO := hO.same s4
    tm_at "go"
    refine' ap_Hall_how_many (K := K) hI hX hO ?_
    clear hI
    intro B5 H s5 hI
    replace h1 := s5 _ _ h1
    replace hX := hX.same s5
    replace hO := hO.same s5
    tm_at "go"
    refine' ap_Hall_how_many (K := K) hI hX hO ?_
    clear hI
    intro B6 H s6 hI
    have s26 := s2.trans (s3.trans (s4.trans (s5.trans s6)))
    replace hpl := s26 _ _ hpl
    replace hxs := (hxs.same s26).takeA 40
    replace hxs1 := hxs1.same (s4.trans (s5.trans s6))
    replace hxs2 := hxs2.same (s5.trans s6)
    have tk : ∀ s ∈ (fitS zs gs o).take 40, SltG s := fun s hs => hfg s (List.mem_of_mem_take hs)
    have tl : ((fitS zs gs o).take 40).length ≤ 279 := by rw [List.length_take]; omega
    obtain ⟨nn, hnn, hsh⟩ := shn_fourS (u := ((fitS zs gs o).length : Nat)) (v := ((fitS zs gs o).length : Nat)) tk tl (by omega) (by omega)
    tm_at "go"
    obtain ⟨pf, rfl⟩ : ∃ q, q = p := ⟨_, rfl⟩
    refine g_repr (.lst (by tm_at "sq") (.cons (.lst (SqL.of (hI.get (by tm_at "mem"))) (dp_slots hI.ex hxs1)) (.cons (.lst (SqL.of (hI.get (by tm_at "mem"))) (dp_slots hI.ex hxs2)) (.cons (.int _) (.cons (.int _) .nil))))) hsh (by omega) (by decide) ?_
    tm_at "go"
    refine g_sl_l hI (SqL.of (hI.b hpl)) ?_
    clear hI
    intro p3 H hI
    replace hI : Is B6 M ((p3, .lst (cutV xs none (some ((40 : Nat) : Int)))) :: _) H := hI
    rw [cutV_takeA] at hI
    tm_at "go"
    refine g_sl_l hI (SqL.of (hI.b hpl)) ?_
    clear hI
    intro p4 H hI
    replace hI : Is B6 M ((p4, .lst (cutV xs none (some ((40 : Nat) : Int)))) :: _) H := hI
    rw [cutV_takeA] at hI
    tm_at "go"
    rw [hxl] at hI
    refine g_repr (.lst (by tm_at "sq") (.cons (.lst (SqL.of (hI.get (by tm_at "mem"))) (dp_slots hI.ex hxs)) (.cons (.lst (SqL.of (hI.get (by tm_at "mem"))) (dp_slots hI.ex hxs)) (.cons (.int _) (.cons (.int _) .nil))))) hsh (by omega) (by decide) ?_
    tm_at "go"
    exact (show ∀ b : Bool, b = true → Q (.bl b) H from fun b e => by rw [e]; exact q B6 _ s26 (hI.forget (by tm_at "sub"))) _ (decide_eq_true rfl)
theorem freeS_congr {gs hs : List SltT} (h : ∀ s, s ∈ gs ↔ s ∈ hs) (ss : List SltT) : freeS gs ss = freeS hs ss :=
  List.filter_congr fun s _ => by rw [decide_eq_decide.mpr (h s)]
theorem fitS_perm {zs : List Int} {gs hs : List SltT} (h : gs.Perm hs) (o : OrdT) : fitS zs gs o = fitS zs hs o := freeS_congr (fun _ => h.mem_iff) _
theorem freeS_nd {gs ss : List SltT} (h : ss.Nodup) : (freeS gs ss).Nodup := h.sublist List.filter_sublist
theorem framesS_nd (zs : List Int) (z : Int) : (framesS zs z).Nodup := by
  refine List.pairwise_map.mpr ?_
  have h1 : (zs.zipIdx.map Prod.snd).Nodup := by
    rw [List.zipIdx_map_snd]
    exact List.nodup_range' (step := 1) (h := by decide)
  have h2 := (List.pairwise_map.mp h1).sublist (List.filter_sublist (p := fun p => decide (z ≤ p.1)))
  exact h2.imp fun h e => h (by omega)
theorem allS_nd (zs : List Int) (z a : Int) : ∀ n : Nat, (allS zs z a n).Nodup
  | 0 => .nil
  | n + 1 => by
    rw [allS, nightsS_succ, flat_snoc]
    refine List.nodup_append.mpr ⟨allS_nd zs z a n, ?_, fun s hs t ht e => ?_⟩
    · exact List.pairwise_map.mpr ((framesS_nd zs z).imp fun h e => h (Prod.mk.inj e).2)
    · subst e
      obtain ⟨m, hm, hs⟩ := List.mem_flatMap.mp hs
      obtain ⟨i, hi, rfl⟩ := List.mem_map.mp hm
      have hi := List.mem_range.mp hi
      have e1 := (slot_row hs).1
      have e2 := (slot_row ht).1
      omega
theorem fitS_nd (zs : List Int) (gs : List SltT) (o : OrdT) : (fitS zs gs o).Nodup := freeS_nd (allS_nd _ _ _ _)
theorem filt_ne {α : Type} [DecidableEq α] : ∀ {l : List α} {k : Nat} {a : α}, l.Nodup → l[k]? = some a → (l.filter fun x => !decide (x = a)) = l.take k ++ l.drop (k + 1)
  | [], k, a, _, h => by cases h
  | x :: l, 0, a, nd, h => by
    cases h
    rw [List.filter_cons, if_neg (by simp)]
    show _ = l
    refine List.filter_eq_self.mpr fun y hy => ?_
    have hne : y ≠ x := fun e => (List.nodup_cons.mp nd).1 (e ▸ hy)
    rw [decide_eq_false hne]
    rfl
  | x :: l, k + 1, a, nd, h => by
    have h : l[k]? = some a := h
    have hx : x ≠ a := fun e => (List.nodup_cons.mp nd).1 (e ▸ List.mem_of_getElem? h)
    rw [List.filter_cons, if_pos (by rw [decide_eq_false hx]; rfl), filt_ne (List.nodup_cons.mp nd).2 h]
    rfl
theorem fitS_lost {zs : List Int} {gs hs : List SltT} {o : OrdT} {s : SltT} {k : Nat} (hp : hs.Perm (gs ++ [s])) (h : (fitS zs gs o)[k]? = some s) : fitS zs hs o = (fitS zs gs o).take k ++ (fitS zs gs o).drop (k + 1) := by
  rw [← filt_ne (fitS_nd zs gs o) h, fitS, fitS, freeS, freeS, List.filter_filter]
  refine List.filter_congr fun t _ => ?_
  have e : (t ∈ hs) ↔ (t ∈ gs ∨ t = s) := by rw [hp.mem_iff, List.mem_append, List.mem_singleton]
  rw [show decide (t ∈ hs) = (decide (t ∈ gs) || decide (t = s)) from by rw [← Bool.decide_or]; exact decide_eq_decide.mpr e]
  by_cases h1 : t ∈ gs <;> by_cases h2 : t = s <;> simp [h1, h2]
theorem fitS_found {zs : List Int} {gs hs ks : List SltT} {o : OrdT} {s : SltT} (hn : s ∉ gs) (hp : hs.Perm (gs ++ [s])) (hq : ks.Perm (hs.filter fun t => !decide (t = s))) : fitS zs ks o = fitS zs gs o := by
  refine freeS_congr (fun t => ?_) _
  rw [hq.mem_iff, List.mem_filter, hp.mem_iff, List.mem_append, List.mem_singleton]
  by_cases h2 : t = s
  · subst h2
    simp [hn]
  · simp [h2]
def sp_law_lost_right (K : PySem.W.Frag) : Sp := fun vs H Q _ => vs.length = 4 ∧ ∃ (m x y pl : Addr) (n : Int) (xs : List V) (zs : List Int) (gs : List SltT) (o : OrdT) (B : Hp) (M L : List (Addr × HO)), vs = [.ref m, .ref x, .ref y, .ref pl] ∧ Is B M L H ∧ Dr m n B M ∧ n < 2 ^ 39 ∧ HallAt K B x zs gs ∧ gs.length < 63 ∧ OrderAt K B y o ∧ B pl = some (.lst xs) ∧ SlotsB B xs (fitS zs gs o) ∧
  ∀ B' H' M', Same B B' → Is B' M' L H' → Dr m (n + 1) B' M' → Q (.bl true) H'
theorem ap_law_lost_right {K : PySem.W.Frag} {H : Hp} {Q : VK} {E : XK} {m x y pl : Addr} {n : Int} {xs : List V} {zs : List Int} {gs : List SltT} {o : OrdT} {B : Hp} {M L : List (Addr × HO)} (I : Is B M L H) (d : Dr m n B M) (h0 : n < 2 ^ 39) (h : HallAt K B x zs gs) (hl : gs.length < 63) (ho : OrderAt K B y o) (hp : B pl = some (.lst xs)) (hx : SlotsB B xs (fitS zs gs o))
    (q : ∀ B' H' M', Same B B' → Is B' M' L H' → Dr m (n + 1) B' M' → Q (.bl true) H') : sp_law_lost_right K [.ref m, .ref x, .ref y, .ref pl] H Q E := ⟨rfl, m, x, y, pl, n, xs, zs, gs, o, B, M, L, rfl, I, d, h0, h, hl, ho, hp, hx, q⟩
abbrev t_law_lost_right_0 (K : PySem.W.Frag) : TS := (tRet (tCl 3 0 (sp_law_slots_right K) (fun vs zs => pick .non [0, 1, 2] (vs ++ zs)) E0 (tCons (tMe (He.ga K "Hall") "with_found" 1 0 (sp_Hall_with_found K) (fun vs zs => pick .non [0, 1] (vs ++ zs)) E0 (tVar 5) (tCons (tOp (rIx K) (tVar 3) (tVar 4)) tNil) tNil) (tCons (tVar 2) (tCons (tVar 3) tNil))) tNil))
abbrev t_law_lost_right_1 (K : PySem.W.Frag) : TS := (tSeq (tIfS (tOr (tNot (tTr K (tCl 3 0 (sp_law_slots_right K) (fun vs zs => pick .non [0, 1, 2] (vs ++ zs)) E0 (tCons (tVar 5) (tCons (tVar 2) (tCons (tVar 6) tNil))) tNil))) (tNot (tTr K (tCl 3 0 (sp_law_slots_right K) (fun vs zs => pick .non [0, 1, 2] (vs ++ zs)) E0 (tCons (tVar 1) (tCons (tVar 2) (tCons (tVar 3) tNil))) tNil)))) (tRet (tC (.bl false))) tNext) (t_law_lost_right_0 K))
abbrev t_law_lost_right_2 (K : PySem.W.Frag) : TS := (tSeq (tPar 5 6 (tCons (tMe (He.ga K "Hall") "with_lost" 1 0 (sp_Hall_with_lost K) (fun vs zs => pick .non [0, 1] (vs ++ zs)) E0 (tVar 1) (tCons (tOp (rIx K) (tVar 3) (tVar 4)) tNil) tNil) (tCons (tOp (rAddA K) (tSl (rSlA K) (tVar 3) tNoPart (tPart (tVar 4))) (tSl (rSlA K) (tVar 3) (tPart (tOp (rAddA K) (tVar 4) (tC (.int 1)))) tNoPart)) tNil))) (t_law_lost_right_1 K))
abbrev t_law_lost_right_3 (K : PySem.W.Frag) : TS := (tSeq (tAsg (tCl 2 0 (sp_law_draw K) (fun vs zs => pick .non [0, 1] (vs ++ zs)) E0 (tCons (tVar 0) (tCons (tCB (rLen K) (tCons (tVar 3) tNil)) tNil)) tNil) (gName 4)) (t_law_lost_right_2 K))
def t_law_lost_right (K : PySem.W.Frag) : TS := (tSeq (tIfS (tOr (tTest (tOp (rEqA K) (tVar 3) (tLst tNil))) (tTest (tOp (rEqA K) (tCB (rLen K) (tCons (tMe (He.ga K "Hall") "lost" 0 0 (sp_Hall_lost K) (fun vs zs => pick .non [0] (vs ++ zs)) E0 (tVar 1) tNil tNil) tNil)) (tC (.int 100))))) (tRet (tC (.bl true))) tNext) (t_law_lost_right_3 K))
theorem rd_law_lost_right {K : PySem.W.Frag} (C : HallC K) (vs : List V) (H : Hp) (Q : VK) (E : XK) (h : sp_law_lost_right K vs H Q E) : t_law_lost_right K { nx := fun _ H' => Q .non H', rt := Q } (start ["m", "house", "one", "places", "k", "other", "left"] vs) H := by
  obtain ⟨_, m, x0, y0, pl, n, xs, zs, gs, o, B, M, L, rfl, hI, hd, h0, hX, hgl, hO, hpl, hxs, q⟩ := h
  show t_law_lost_right K ⟨_, _, _, _⟩ [some (.ref m), some (.ref x0), some (.ref y0), some (.ref pl), none, none, none] H
  have cl := C.cl
  obtain ⟨⟨d0, fa, ga, da, gx, h1, _, h3, h4, _⟩, hg, _⟩ := id hX
  have hfl := fitS_len (gs := gs) hg.z9 hO.good
  have hfg := fitS_g (gs := gs) hg.z9 hO.good
  have hxl := hxs.len
  have hgxl := h4.len
  unfold t_law_lost_right
  tm_at "go"
  have hsh : SeqAt.shaped (.list ((fitS zs gs o).map slotD)) = true := shaped_slots hfg
  refine g_eq_d (.lst (SqL.of (hI.b hpl)) (dp_slots hI.ex hxs)) (.lst (xs := []) (by tm_at "sq") .nil) hsh rfl ?_
  have ee := eqv_slotsA (fitS zs gs o) []
  rw [List.map_nil] at ee
  rw [show PyData.eqv (.list ((fitS zs gs o).map slotD)) (.list []) = decide (fitS zs gs o = []) from by simp [PyData.eqv, ee]]
  by_cases hF : fitS zs gs o = []
  · rw [decide_eq_true hF]
    tm_at "go"
    exact q B _ M (fun _ _ e => e) (hI.forget (by tm_at "sub")) (hd.mono (by omega))
  rw [decide_eq_false hF]
  have hpos := List.length_pos_iff.mpr hF
  tm_at "go"
  refine' ap_Hall_lost (K := K) hI hX ?_
  clear hI
  intro pg gz H hgz hI
  have hgzl := hgz.len
  tm_at "go"
  refine g_dec (fun h => absurd (V.int.inj h) (by omega)) (fun _ => ?_)
  tm_at "go"
  replace hI := hI.forget (L' := L) (by tm_at "sub")
  tm_at "draw"
  obtain ⟨k, rfl⟩ : ∃ k : Nat, r = (k : Int) := ⟨r.toNat, by omega⟩
  have hk : k < xs.length := by omega
  obtain ⟨s, es, a, ea, ha⟩ := hxs.get (List.getElem?_eq_getElem hk)
  have hv : xs[k]? = some (.ref a) := by rw [List.getElem?_eq_getElem hk, ea]
  obtain ⟨_, _, _, g3, g4, g5, g6⟩ := id hO.good
  obtain ⟨f1, f2, f3, f4, f5⟩ := fitS_in (List.mem_of_getElem? es)
  have hs : SlotOk zs.length s := ⟨by omega, by omega, f3, f4⟩
  tm_at "go"
  refine g_ix_l (SqL.of (hI.b hpl)) (atI_of (a := V.ref a) (by omega) (by rw [Int.toNat_natCast]; exact hv)) ?_
  tm_at "go"
  refine' ap_Hall_with_lost (K := K) hI hX ha hs f5 hgl ?_
  clear hI
  intro other B1 H hs1 s1 hI hp1 hY
  replace hd := hd.same s1
  replace hX := hX.same s1
  replace hO := hO.same s1
  replace hpl := s1 _ _ hpl
  replace hxs := hxs.same s1
  replace ha := s1 _ _ ha
  replace h1 := s1 _ _ h1
  obtain ⟨⟨d1, fa1, ga1, da1, gx1, k1, _⟩, _⟩ := id hY
  tm_at "go"
  refine g_sl_l hI (SqL.of (hI.b hpl)) ?_
  clear hI
  intro p2 H hI
  rw [cutV_takeA] at hI
  tm_at "go"
  refine g_sl_l hI (SqL.of (hI.b hpl)) ?_
  clear hI
  intro p3 H hI
  replace hI : Is B1 M ((p3, .lst (cutV xs (some ((k + 1 : Nat) : Int)) none)) :: _) H := hI
  rw [cutV_dropA] at hI
  tm_at "go"
  refine g_add_l hI (hI.get (by tm_at "mem")) (hI.get (.head _)) (by rw [List.length_take, List.length_drop]; omega) ?_
  clear hI
  intro p4 H hI
  tm_at "go"
  refine' hI.give .here ?_
  clear hI
  intro B2 s2 k2 hI
  replace hd := hd.same s2
  replace hX := hX.same s2
  replace hY := hY.same s2
  replace hO := hO.same s2
  replace hpl := s2 _ _ hpl
  replace hxs := hxs.same s2
  replace ha := s2 _ _ ha
  replace k1 := s2 _ _ k1
  refine' ap_law_slots_right (K := K) hI hY hO k2 (by rw [fitS_lost hp1 es]; exact (hxs.takeA k).app (hxs.dropA (k + 1))) ?_
  clear hI
  intro B3 H s3 hI
  replace hd := hd.same s3
  replace hX := hX.same s3
  replace hY := hY.same s3
  replace hO := hO.same s3
  replace hpl := s3 _ _ hpl
  replace hxs := hxs.same s3
  replace ha := s3 _ _ ha
  replace k1 := s3 _ _ k1
  tm_at "go"
  refine' ap_law_slots_right (K := K) hI hX hO hpl hxs ?_
  clear hI
  intro B4 H s4 hI
  replace hd := hd.same s4
  replace hX := hX.same s4
  replace hY := hY.same s4
  replace hO := hO.same s4
  replace hpl := s4 _ _ hpl
  replace hxs := hxs.same s4
  replace ha := s4 _ _ ha
  replace k1 := s4 _ _ k1
  tm_at "go"
  refine g_ix_l (SqL.of (hI.b hpl)) (atI_of (a := V.ref a) (by omega) (by rw [Int.toNat_natCast]; exact hv)) ?_
  tm_at "go"
  refine' ap_Hall_with_found (K := K) hI hY ha hs (by rw [hp1.mem_iff]; exact List.mem_append_right _ (List.mem_singleton.mpr rfl)) ?_
  clear hI
  intro again B5 H ks s5 hI hp2 hZ
  replace hd := hd.same s5
  replace hO := hO.same s5
  replace hpl := s5 _ _ hpl
  replace hxs := hxs.same s5
  tm_at "go"
  refine' ap_law_slots_right (K := K) hI hZ hO hpl (by rw [fitS_found f5 hp1 hp2]; exact hxs) ?_
  clear hI
  intro B6 H s6 hI
  exact q B6 _ M (s1.trans (s2.trans (s3.trans (s4.trans (s5.trans s6))))) (hI.forget (by tm_at "sub")) (hd.same s6)
abbrev nineS (w : Int) : List Int := [w, w, w, w, w, w, w, w, w]
abbrev someS (w : Int) : List Int := [w, w, w, w + 1, w, w, w, w, w]
abbrev handS (b : Int) (n : Nat) : List SltT := (List.range n).map fun k : Nat => (b + (k : Int) / 9, 1 + (k : Int) % 9)
abbrev pickS (b : Int) (n : Nat) : List SltT := ((List.range n).filter fun k : Nat => !decide (k = 5)).map fun k : Nat => (b + (k : Int), 4)
theorem frames_nine (w : Int) : framesS (nineS w) w = [1, 2, 3, 4, 5, 6, 7, 8, 9] := by
  simp [framesS, List.zipIdx]
theorem frames_none (w : Int) : framesS (nineS w) (w + 1) = [] := by
  have : ¬ w + 1 ≤ w := by omega
  simp [framesS, List.zipIdx, this]
theorem frames_some (w : Int) : framesS (someS w) (w + 1) = [4] := by
  have : ¬ w + 1 ≤ w := by omega
  simp [framesS, List.zipIdx, this]
theorem hand_all (b : Int) : ∀ n : Nat, handS b (n * 9) = (nightsS b n).flatMap (rowS [1, 2, 3, 4, 5, 6, 7, 8, 9])
  | 0 => rfl
  | n + 1 => by
    rw [nightsS_succ, flat_snoc, ← hand_all b n, Nat.succ_mul, handS, List.range_add, List.map_append, List.map_map]
    refine congrArg (_ ++ ·) ?_
    have e : ∀ j : Nat, j < 9 → ((fun k : Nat => ((b + (k : Int) / 9, 1 + (k : Int) % 9) : SltT)) ∘ (n * 9 + ·)) j = (b + (n : Int), (j : Int) + 1) := fun j hj => by
      refine Prod.ext ?_ ?_
      · show b + ((n * 9 + j : Nat) : Int) / 9 = b + (n : Int)
        omega
      · show 1 + ((n * 9 + j : Nat) : Int) % 9 = (j : Int) + 1
        omega
    rw [show List.range 9 = [0, 1, 2, 3, 4, 5, 6, 7, 8] from rfl]
    simp only [List.map_cons, List.map_nil]
    rw [e 0 (by decide), e 1 (by decide), e 2 (by decide), e 3 (by decide), e 4 (by decide), e 5 (by decide), e 6 (by decide), e 7 (by decide), e 8 (by decide)]
    rfl
theorem freeS_nil (ss : List SltT) : freeS [] ss = ss := List.filter_eq_self.mpr fun _ _ => rfl
abbrev fitsT (w b : Int) : PloT := ⟨7, 0, 1, false, w, b, b + 30⟩
abbrev othT (w b : Int) : PloT := ⟨8, 0, 1, true, w + 1, b, b + 30⟩
theorem fit_fits (w b : Int) : fitS (nineS w) [] (fitsT w b).ord = handS b 279 := by
  rw [fitS, freeS_nil, allS]
  show (nightsS b (b + 30 + 1 - b).toNat).flatMap (rowS (framesS (nineS w) w)) = _
  rw [frames_nine, show (b + 30 + 1 - b).toNat = 31 from by omega, ← hand_all b 31]
theorem fit_none (w b : Int) : fitS (nineS w) [] (othT w b).ord = [] := by
  rw [fitS, freeS_nil, allS]
  show (nightsS b (b + 30 + 1 - b).toNat).flatMap (rowS (framesS (nineS w) (w + 1))) = _
  rw [frames_none]
  exact List.flatMap_eq_nil_iff.mpr fun _ _ => rfl
theorem fit_some (w b : Int) {gs : List SltT} (h : gs.Perm [(b + 5, 4), (b + 30, 3)]) : fitS (someS w) gs (othT w b).ord = pickS b 31 := by
  rw [fitS_perm h, fitS, allS]
  show freeS _ ((nightsS b (b + 30 + 1 - b).toNat).flatMap (rowS (framesS (someS w) (w + 1)))) = _
  rw [frames_some, show (b + 30 + 1 - b).toNat = 31 from by omega]
  have e : (nightsS b 31).flatMap (rowS [4]) = (List.range 31).map fun k : Nat => (b + (k : Int), 4) := by
    rw [nightsS, List.flatMap_map]
    show (List.range 31).flatMap (fun k : Nat => [((b + (k : Int), 4) : SltT)]) = _
    exact List.map_eq_flatMap.symm
  rw [e, freeS, List.filter_map]
  refine congrArg _ (List.filter_congr fun k _ => ?_)
  show (!decide ((b + (k : Int), (4 : Int)) ∈ [(b + 5, (4 : Int)), (b + 30, (3 : Int))])) = !decide (k = 5)
  refine congrArg _ (decide_eq_decide.mpr ?_)
  rw [List.mem_cons, List.mem_singleton]
  constructor
  · rintro (h | h)
    · have := (Prod.mk.inj h).1
      omega
    · have := (Prod.mk.inj h).2
      omega
  · rintro rfl
    exact .inl rfl
theorem pickS_succ (b : Int) (k : Nat) : pickS b (k + 1) = pickS b k ++ if k = 5 then [] else [(b + (k : Int), 4)] := by
  rw [pickS, List.range_succ, List.filter_append, List.map_append, List.filter_cons, List.filter_nil]
  by_cases h : k = 5
  · rw [if_pos h, if_neg (by rw [decide_eq_true h]; decide)]
    rfl
  · rw [if_neg h, if_pos (by rw [decide_eq_false h]; rfl)]
    rfl
theorem good_nine {w : Int} (h0 : 1 ≤ w) (h1 : w ≤ 59) : GoodH (nineS w) [] where
  z0 := Nat.le_of_ble_eq_true rfl
  z9 := Nat.le_of_ble_eq_true rfl
  z := fun z hz => by
    simp only [List.mem_cons, List.not_mem_nil, or_false, or_self] at hz
    omega
  g := fun _ h => by cases h
  nd := List.nodup_nil
  l := Nat.le_of_ble_eq_true rfl
theorem good_some {w b : Int} (h0 : 1 ≤ w) (h1 : w ≤ 59) (b0 : 0 ≤ b) (b1 : b ≤ 99969) : GoodH (someS w) [(b + 5, 4), (b + 30, 3)] where
  z0 := Nat.le_of_ble_eq_true rfl
  z9 := Nat.le_of_ble_eq_true rfl
  z := fun z hz => by
    simp only [List.mem_cons, List.not_mem_nil, or_false] at hz
    omega
  g := fun s hs => by
    simp only [List.mem_cons, List.not_mem_nil, or_false] at hs
    rcases hs with rfl | rfl
    · exact ⟨by show 0 ≤ b + 5; omega, by show b + 5 ≤ 99999; omega, by show (1 : Int) ≤ 4; omega, by show (4 : Int) ≤ 9; omega⟩
    · exact ⟨by show 0 ≤ b + 30; omega, by show b + 30 ≤ 99999; omega, by show (1 : Int) ≤ 3; omega, by show (3 : Int) ≤ 9; omega⟩
  nd := List.nodup_cons.mpr ⟨fun h => by
    have := (Prod.mk.inj (List.mem_singleton.mp h)).2
    omega, List.nodup_cons.mpr ⟨List.not_mem_nil, List.nodup_nil⟩⟩
  l := Nat.le_of_ble_eq_true rfl
theorem fits_good {w b : Int} (h0 : 1 ≤ w) (h1 : w ≤ 59) (b0 : 0 ≤ b) (b1 : b ≤ 99969) : PloG (fitsT w b) := ⟨by show (1 : Int) ≤ 7; decide, by show (7 : Int) ≤ 99999; decide, by show (0 : Int) ≤ 0; decide, by show (0 : Int) ≤ 1; decide, by show (1 : Int) ≤ 1000000; decide, h0, by show w ≤ 60; omega, b0, by show b ≤ b + 30; omega, by show b + 30 ≤ 99999; omega, Int.le_refl _⟩
theorem oth_good {w b : Int} (h0 : 1 ≤ w) (h1 : w ≤ 59) (b0 : 0 ≤ b) (b1 : b ≤ 99969) : PloG (othT w b) := ⟨by show (1 : Int) ≤ 8; decide, by show (8 : Int) ≤ 99999; decide, by show (0 : Int) ≤ 0; decide, by show (0 : Int) ≤ 1; decide, by show (1 : Int) ≤ 1000000; decide, by show 1 ≤ w + 1; omega, by show w + 1 ≤ 60; omega, b0, by show b ≤ b + 30; omega, by show b + 30 ≤ 99999; omega, Int.le_refl _⟩
def sp_law_hand_right (K : PySem.W.Frag) : Sp := fun vs H Q _ => vs.length = 1 ∧ ∃ (m : Addr) (n : Int) (B : Hp) (M L : List (Addr × HO)), vs = [.ref m] ∧ Is B M L H ∧ Dr m n B M ∧ n < 2 ^ 38 ∧ ∀ B' H' M', Same B B' → Is B' M' L H' → Dr m (n + 5) B' M' → Q (.bl true) H'
theorem ap_law_hand_right {K : PySem.W.Frag} {H : Hp} {Q : VK} {E : XK} {m : Addr} {n : Int} {B : Hp} {M L : List (Addr × HO)} (I : Is B M L H) (d : Dr m n B M) (h0 : n < 2 ^ 38) (q : ∀ B' H' M', Same B B' → Is B' M' L H' → Dr m (n + 5) B' M' → Q (.bl true) H') : sp_law_hand_right K [.ref m] H Q E := ⟨rfl, m, n, B, M, L, rfl, I, d, h0, q⟩
abbrev t_law_hand_right_0 (K : PySem.W.Frag) : TS := (tIfS (tOr (tNot (tTr K (tCl 3 0 (sp_law_slots_right K) (fun vs zs => pick .non [0, 1, 2] (vs ++ zs)) E0 (tCons (tVar 7) (tCons (tVar 8) (tCons (tVar 6) tNil))) tNil))) (tNot (tTr K (tCl 4 0 (sp_law_lost_right K) (fun vs zs => pick .non [0, 1, 2, 3] (vs ++ zs)) E0 (tCons (tVar 0) (tCons (tVar 7) (tCons (tVar 8) (tCons (tVar 6) tNil)))) tNil)))) (tRet (tC (.bl false))) tNext)
abbrev t_law_hand_right_1 (K : PySem.W.Frag) : TS := (tSeq (tAsg (tCl 1 0 (sp_law_order K) (fun vs zs => pick .non [0] (vs ++ zs)) E0 (tCons (tVar 5) tNil) tNil) (gName 8)) (t_law_hand_right_0 K))
abbrev t_law_hand_right_2 (K : PySem.W.Frag) : TS := (tSeq (tAsg (tLc (iRng1 (tCons (tC (.int 31)) tNil)) (gName 9) (tTest (tOp (rNeA K) (tVar 9) (tC (.int 5)))) (tTup (tCons (tOp (rAddA K) (tVar 3) (tVar 9)) (tCons (tC (.int 4)) tNil))) [9]) (gName 6)) (t_law_hand_right_1 K))
abbrev t_law_hand_right_3 (K : PySem.W.Frag) : TS := (tSeq (tAsg (tMk (He.ga K "Hall") 1 1 (sp_Hall_init K) (fun vs zs => pick .non [0, 1, 2] (vs ++ (zs ++ [.non]))) E0 (tCons (tOp (rAddA K) (tOp (rAddA K) (tOp rMulA (tLst (tCons (tVar 1) tNil)) (tC (.int 3))) (tLst (tCons (tOp (rAddA K) (tVar 1) (tC (.int 1))) tNil))) (tOp rMulA (tLst (tCons (tVar 1) tNil)) (tC (.int 5)))) tNil) (tCons (tLst (tCons (tTup (tCons (tOp (rAddA K) (tVar 3) (tC (.int 5))) (tCons (tC (.int 4)) tNil))) (tCons (tTup (tCons (tOp (rAddA K) (tVar 3) (tC (.int 30))) (tCons (tC (.int 3)) tNil))) tNil))) tNil)) (gName 7)) (t_law_hand_right_2 K))
abbrev t_law_hand_right_4 (K : PySem.W.Frag) : TS := (tSeq (tIfS (tOr (tNot (tTr K (tCl 3 0 (sp_law_slots_right K) (fun vs zs => pick .non [0, 1, 2] (vs ++ zs)) E0 (tCons (tVar 2) (tCons (tCl 1 0 (sp_law_order K) (fun vs zs => pick .non [0] (vs ++ zs)) E0 (tCons (tVar 4) tNil) tNil) (tCons (tVar 6) tNil))) tNil))) (tNot (tTr K (tCl 3 0 (sp_law_slots_right K) (fun vs zs => pick .non [0, 1, 2] (vs ++ zs)) E0 (tCons (tVar 2) (tCons (tCl 1 0 (sp_law_order K) (fun vs zs => pick .non [0] (vs ++ zs)) E0 (tCons (tVar 5) tNil) tNil) (tCons (tLst tNil) tNil))) tNil)))) (tRet (tC (.bl false))) tNext) (t_law_hand_right_3 K))
abbrev t_law_hand_right_5 (K : PySem.W.Frag) : TS := (tSeq (tAsg (tLc (iRng1 (tCons (tC (.int 279)) tNil)) (gName 9) tYes (tTup (tCons (tOp (rAddA K) (tVar 3) (tOp (rI CDiv fun i j => .int (i / j)) (tVar 9) (tC (.int 9)))) (tCons (tOp (rAddA K) (tC (.int 1)) (tOp (rI (fun _ j => 0 < j) fun i j => .int (i % j)) (tVar 9) (tC (.int 9)))) tNil))) [9]) (gName 6)) (t_law_hand_right_4 K))
abbrev t_law_hand_right_6 (K : PySem.W.Frag) : TS := (tSeq (tPar 4 5 (tCons (tTup (tCons (tC (.int 7)) (tCons (tC (.int 0)) (tCons (tC (.int 1)) (tCons (tC (.bl false)) (tCons (tVar 1) (tCons (tVar 3) (tCons (tOp (rAddA K) (tVar 3) (tC (.int 30))) tNil)))))))) (tCons (tTup (tCons (tC (.int 8)) (tCons (tC (.int 0)) (tCons (tC (.int 1)) (tCons (tC (.bl true)) (tCons (tOp (rAddA K) (tVar 1) (tC (.int 1))) (tCons (tVar 3) (tCons (tOp (rAddA K) (tVar 3) (tC (.int 30))) tNil)))))))) tNil))) (t_law_hand_right_5 K))
abbrev t_law_hand_right_7 (K : PySem.W.Frag) : TS := (tRet (tC (.bl true)))
abbrev t_law_hand_right_8 (K : PySem.W.Frag) : TS := (tSeq (tFor (iAny K (tTup (tCons (tC (.int 0)) (tCons (tC (.int 99969)) (tCons (tCl 2 0 (sp_law_draw K) (fun vs zs => pick .non [0, 1] (vs ++ zs)) E0 (tCons (tVar 0) (tCons (tC (.int 99970)) tNil)) tNil) tNil))))) (gName 3) (t_law_hand_right_6 K)) (t_law_hand_right_7 K))
abbrev t_law_hand_right_9 (K : PySem.W.Frag) : TS := (tSeq (tAsg (tMk (He.ga K "Hall") 1 0 (sp_Hall_init K) (fun vs zs => pick .non [0, 1, 2] (vs ++ (zs ++ [.non]))) E0 (tCons (tOp rMulA (tLst (tCons (tVar 1) tNil)) (tC (.int 9))) tNil) tNil) (gName 2)) (t_law_hand_right_8 K))
def t_law_hand_right (K : PySem.W.Frag) : TS := (tSeq (tAsg (tOp (rAddA K) (tC (.int 1)) (tCl 2 0 (sp_law_draw K) (fun vs zs => pick .non [0, 1] (vs ++ zs)) E0 (tCons (tVar 0) (tCons (tC (.int 59)) tNil)) tNil)) (gName 1)) (t_law_hand_right_9 K))
theorem rd_law_hand_right {K : PySem.W.Frag} (vs : List V) (H : Hp) (Q : VK) (E : XK) (h : sp_law_hand_right K vs H Q E) : t_law_hand_right K { nx := fun _ H' => Q .non H', rt := Q } (start ["m", "wide", "house", "begin", "fits", "other", "places", "some", "one", "k"] vs) H := by
  obtain ⟨_, m, n, B, M, L, rfl, hI, hd, h0, q⟩ := h
  show t_law_hand_right K ⟨_, _, _, _⟩ [some (.ref m), none, none, none, none, none, none, none, none, none] H
  unfold t_law_hand_right
  tm_at "go"
  tm_at "draw"
  obtain ⟨w, ew⟩ : ∃ w, w = 1 + r := ⟨_, rfl⟩
  have hw0 : 1 ≤ w := by omega
  have hw1 : w ≤ 59 := by omega
  tm_at "go"
  rw [← ew]
  rw [← ew] at hI
  refine g_mul_l (n := 9) hI (by tm_at "hp") (Nat.le_of_ble_eq_true rfl) (by decide) ?_
  clear hI
  intro p2 H hI
  tm_at "go"
  refine' hI.give (.there (.there .here)) ?_
  clear hI
  intro B1 s1 k1 hI
  have gh := good_nine hw0 hw1
  refine' ap_Hall_init0 (K := K) (zs := nineS w) hI k1 gh ?_
  clear hI
  intro B2 H s2 hI hX
  replace hd := hd.same (s1.trans s2)
  replace hI := hI.forget (L' := L) (by tm_at "sub")
  refine ⟨rfl, ?_⟩
  obtain ⟨house, ehouse⟩ : ∃ q, q = x := ⟨_, rfl⟩
  rw [← ehouse] at hX
  rw [← ehouse]
  have s12 := s1.trans s2
  clear k1 gh
  tm_at "go"
  tm_at "draw"
  tm_at "go"
  obtain ⟨p0, rfl⟩ : ∃ q, q = p := ⟨_, rfl⟩
  obtain ⟨six, esix⟩ : ∃ six, six = [V.int 0, V.int 99969, V.int r] := ⟨_, rfl⟩
  have hsix : ∀ v ∈ six, ∃ b : Int, v = .int b ∧ 0 ≤ b ∧ b ≤ 99969 := by
    intro v hv
    rw [esix] at hv
    simp only [List.mem_cons, List.not_mem_nil, or_false] at hv
    rcases hv with rfl | rfl | rfl
    · exact ⟨_, rfl, by omega, by omega⟩
    · exact ⟨_, rfl, by omega, by omega⟩
    · exact ⟨_, rfl, by omega, by omega⟩
  rw [← esix] at hI
  have hsl : six.length = 3 := by rw [esix]; rfl
  clear esix
  replace hd : Dr m (n + 2 + ((0 : Nat) : Int)) B2 M := hd.mono (by omega)
  refine' g_aFor (walk_tup (xs := six)) (fun i σ H => ∃ (c3 c4 c5 c6 c7 c8 : Option V) (B3 : Hp) (M : List (Addr × HO)), σ = [some (.ref m), some (.int w), some (.ref house), c3, c4, c5, c6, c7, c8, none] ∧
      Same B2 B3 ∧ Is B3 M ((p0, .tup six) :: L) H ∧ Dr m (n + 2 + (i : Int)) B3 M)
      ⟨_, _, _, _, _, _, B2, M, rfl, fun _ _ e => e, hI, hd⟩ (fun i σ H _ ⟨_, _, _, _, _, _, B3, M, _, _, I, _⟩ => SqT.of (I.get (.head _))) ?_ ?_
  · clear hI hd
    rintro i v σ H H' hi ⟨c3, c4, c5, c6, c7, c8, B3, M, rfl, s3, hI, hd⟩ ⟨rfl, hv⟩
    obtain ⟨b, rfl, b0, b1⟩ := hsix v (List.mem_of_getElem? hv)
    replace hX := hX.same s3
    tm_at "go"
    refine' hI.give .here ?_
    clear hI
    intro B4 s4 k4 hI
    refine' hI.give .here ?_
    clear hI
    intro B5 s5 k5 hI
    have s45 := s4.trans s5
    have ho : B5 p = some (.tup (ploV (othT w b))) := s5 _ _ k4
    have hf : B5 _ = some (.tup (ploV (fitsT w b))) := k5
    replace hX := hX.same s45
    replace hd := hd.same s45
    clear k4 k5
    obtain ⟨oth, rfl⟩ : ∃ q, q = p := ⟨_, rfl⟩
    refine' g_aLc walk_range hI (by tm_at "wiped") (by decide) (fun k acc B' M' => M = M' ∧ SlotsB B' acc (handS b k)) ⟨rfl, .nil⟩ (fun _ _ _ _ _ _ _ _ _ _ => trivial) ?_ ?_
    · clear hI
      rintro k v acc B6 M6 D H H' hk s6 hI ⟨rfl, hacc⟩ ⟨rfl, rfl⟩ hle
      tm_at "go"
      refine' g_wiped (by tm_at "wiped") ?_
      tm_at "go"
      refine' hI.give .here ?_
      clear hI
      intro B7 s7 k7 hI
      refine lcY (s6.trans s7) hI hle ⟨rfl, ?_⟩
      rw [handS, List.range_succ, List.map_append]
      refine (SlotsB.same hacc s7).snoc ⟨_, rfl, ?_⟩
      rw [k7]
      simp only [Int.zero_add]
    clear hI
    rintro acc B6 M6 D H s6 hI ⟨rfl, hacc⟩ _
    replace hX := hX.same s6
    replace hd := hd.same s6
    replace ho := s6 _ _ ho
    replace hf := s6 _ _ hf
    tm_at "go"
    refine' hI.give .here ?_
    clear hI
    intro B7 s7 k7 hI
    replace hX := hX.same s7
    replace hd := hd.same s7
    replace ho := s7 _ _ ho
    replace hf := s7 _ _ hf
    replace hacc := SlotsB.same hacc s7
    refine' ap_law_order (K := K) hI hf (fits_good hw0 hw1 b0 b1) ?_
    clear hI hf
    intro one1 B8 H s8 hI hO1
    replace hX := hX.same s8
    replace hd := hd.same s8
    replace ho := s8 _ _ ho
    replace k7 := s8 _ _ k7
    replace hacc := SlotsB.same hacc s8
    tm_at "go"
    refine' ap_law_slots_right (K := K) hI hX hO1 k7 (by rw [fit_fits]; exact hacc) ?_
    clear hI hO1 k7 hacc
    intro B9 H s9 hI
    replace hX := hX.same s9
    replace hd := hd.same s9
    replace ho := s9 _ _ ho
    tm_at "go"
    refine' ap_law_order (K := K) hI ho (oth_good hw0 hw1 b0 b1) ?_
    clear hI
    intro one2 B10 H s10 hI hO2
    replace hX := hX.same s10
    replace hd := hd.same s10
    replace ho := s10 _ _ ho
    tm_at "go"
    refine' hI.give .here ?_
    clear hI
    intro B11 s11 k11 hI
    replace hX := hX.same s11
    replace hd := hd.same s11
    replace ho := s11 _ _ ho
    replace hO2 := hO2.same s11
    refine' ap_law_slots_right (K := K) hI hX hO2 k11 (by rw [fit_none]; exact .nil) ?_
    clear hI hO2 k11
    intro B12 H s12' hI
    replace hX := hX.same s12'
    replace hd := hd.same s12'
    replace ho := s12' _ _ ho
    tm_at "go"
    refine g_mul_l (n := 3) hI (by tm_at "hp") (Nat.le_of_ble_eq_true rfl) (by decide) ?_
    clear hI
    intro q3 H hI
    tm_at "go"
    refine g_add_l hI (hI.get (by tm_at "mem")) (hI.get (.head _)) (Nat.le_of_ble_eq_true rfl) ?_
    clear hI
    intro q5 H hI
    tm_at "go"
    refine g_mul_l (n := 5) hI (by tm_at "hp") (Nat.le_of_ble_eq_true rfl) (by decide) ?_
    clear hI
    intro q7 H hI
    tm_at "go"
    refine g_add_l hI (hI.get (by tm_at "mem")) (hI.get (.head _)) (Nat.le_of_ble_eq_true rfl) ?_
    clear hI
    intro q8 H hI
    replace hI : Is B12 M ((q8, .lst ((someS w).map V.int)) :: _) H := hI
    tm_at "go"
    refine' hI.give (.there (.there .here)) ?_
    clear hI
    intro B13 s13 k13 hI
    refine' hI.give (.there (.there .here)) ?_
    clear hI
    intro B14 s14 k14 hI
    refine' hI.give (.there (.there .here)) ?_
    clear hI
    intro B15 s15 k15 hI
    refine' hI.give (.there (.there .here)) ?_
    clear hI
    intro B16 s16 k16 hI
    have s126 := s13.trans (s14.trans (s15.trans s16))
    replace hX := hX.same s126
    replace hd := hd.same s126
    replace ho := s126 _ _ ho
    refine' ap_Hall_init (K := K) (zs := someS w) hI k16 (s16 _ _ (s15 _ _ (s14 _ _ k13))) (.cons ⟨_, rfl, s16 _ _ k15⟩ (.cons ⟨_, rfl, s16 _ _ (s15 _ _ k14)⟩ .nil)) (good_some hw0 hw1 b0 b1) ?_
    clear hI
    intro B17 H gs s17 hI hp hY
    replace hX := hX.same s17
    replace hd := hd.same s17
    replace ho := s17 _ _ ho
    refine ⟨rfl, ?_⟩
    obtain ⟨some1, esome⟩ : ∃ q, q = x := ⟨_, rfl⟩
    rw [← esome] at hY
    rw [← esome]
    replace hI := hI.forget (L' := (p0, .tup six) :: L) (by tm_at "sub")
    tm_at "go"
    refine' g_aLc walk_range hI (by tm_at "wiped") (by decide) (fun k acc B' M' => M = M' ∧ SlotsB B' acc (pickS b k)) ⟨rfl, .nil⟩ (fun _ _ _ _ _ _ _ _ _ _ => trivial) ?_ ?_
    · clear hI
      rintro k v acc B6 M6 D H H' hk s6 hI ⟨rfl, hacc⟩ ⟨rfl, rfl⟩ hle
      tm_at "go"
      refine' g_wiped (by tm_at "wiped") ?_
      tm_at "go"
      by_cases h5 : k = 5
      · refine g_ndec (fun h => absurd (show V.int (0 + (k : Int)) = V.int 5 from by rw [h5]; rfl) h) (fun _ => ?_)
        tm_at "go"
        refine lcN s6 hI hle ⟨rfl, ?_⟩
        rw [pickS_succ, if_pos h5, List.append_nil]
        exact hacc
      · refine g_ndec (fun _ => ?_) (fun h => absurd (V.int.inj h) (by omega))
        tm_at "go"
        refine' hI.give .here ?_
        clear hI
        intro B7 s7 k7 hI
        refine lcY (s6.trans s7) hI hle ⟨rfl, ?_⟩
        rw [pickS_succ, if_neg h5]
        refine (SlotsB.same hacc s7).snoc ⟨_, rfl, ?_⟩
        rw [k7]
        simp only [Int.zero_add]
    clear hI
    rintro acc B18 M6 D2 H s18 hI ⟨rfl, hacc⟩ _
    refine' hI.give .here ?_
    clear hI
    intro B19 s19 k19 hI
    have s189 := s18.trans s19
    replace hX := hX.same s189
    replace hY := hY.same s189
    replace hd := hd.same s189
    replace ho := s189 _ _ ho
    replace hacc := SlotsB.same hacc s19
    tm_at "go"
    refine' ap_law_order (K := K) hI ho (oth_good hw0 hw1 b0 b1) ?_
    clear hI ho
    intro one3 B20 H s20 hI hO
    replace hX := hX.same s20
    replace hY := hY.same s20
    replace hd := hd.same s20
    replace k19 := s20 _ _ k19
    replace hacc := SlotsB.same hacc s20
    tm_at "go"
    refine' ap_law_slots_right (K := K) hI hY hO k19 (by rw [fit_some w b hp]; exact hacc) ?_
    clear hI
    intro B21 H s21 hI
    replace hY := hY.same s21
    replace hO := hO.same s21
    replace hd := hd.same s21
    replace k19 := s21 _ _ k19
    replace hacc := SlotsB.same hacc s21
    tm_at "go"
    refine' ap_law_lost_right (K := K) hI hd (by omega) hY (by rw [hp.length_eq]; exact Nat.le_of_ble_eq_true rfl) hO k19 (by rw [fit_some w b hp]; exact hacc) ?_
    clear hI hd
    intro B22 H M s22 hI hd
    tm_at "go"
    refine ⟨_, _, _, _, _, _, B22, M, rfl, ?_, hI, hd.mono (by omega)⟩
    exact s3.trans (s45.trans (s6.trans (s7.trans (s8.trans (s9.trans (s10.trans (s11.trans (s12'.trans (s126.trans (s17.trans (s189.trans (s20.trans (s21.trans s22)))))))))))))
  · clear hI hd
    rintro σ H ⟨c3, c4, c5, c6, c7, c8, B3, M, rfl, s3, hI, hd⟩
    have hd : Dr m (n + 2 + (six.length : Int)) B3 M := hd
    rw [hsl] at hd
    tm_at "go"
    exact q B3 _ M (s12.trans s3) (hI.forget (by tm_at "sub")) (hd.mono (by show n + 2 + 3 ≤ n + 5; omega))
theorem Dr.notup {m : Addr} {n : Int} {B : Hp} {M : List (Addr × HO)} (d : Dr m n B M) : ∀ p ∈ M, ∀ xs, p.2 ≠ .tup xs := by
  obtain ⟨c, l, cs, ls, k, rfl, _⟩ := d
  intro p hp xs e
  simp only [List.mem_cons, List.not_mem_nil, or_false] at hp
  rcases hp with rfl | rfl
  · cases e
  · cases e
theorem ap_law_begun {K : PySem.W.Frag} {B H : Hp} {L : List (Addr × HO)} {Q : VK} {E : XK} {a : Addr} {ns : List Int} (I : Is B [] L H) (h : SqL K B a (ns.map V.int)) (hl : ns.length ≤ 63) (q : ∀ (m : Addr) (B' : Hp) (M' : List (Addr × HO)) (H' : Hp), Same B B' → Is B' M' L H' → Dr m 0 B' M' → Q (.ref m) H') : sp_law_begun K [.ref a] H Q E :=
  ⟨rfl, a, ns, B, L, rfl, I, h, hl, q⟩
def sp_law (K : PySem.W.Frag) : Sp := fun vs H Q _ => vs.length = 1 ∧ ∃ (a : Addr) (ns : List Int) (B : Hp), vs = [.ref a] ∧ Is B [] [] H ∧ SqL K B a (ns.map V.int) ∧ ns.length ≤ 63 ∧ ∀ H', Q (.bl true) H'
theorem law_asked {K : PySem.W.Frag} (H : Hp) (a : Addr) (ns : List Int) (hn : ns.length ≤ 63) (h : SqL K H a (ns.map V.int)) : sp_law K [.ref a] H (fun v _ => v = .bl true) fun _ _ _ => False :=
  ⟨rfl, a, ns, H, rfl, ⟨fun _ _ e => e, fun p hp => (by cases hp), .nil⟩, h, hn, fun _ => rfl⟩
abbrev t_law_0 (K : PySem.W.Frag) : TS := (tIfS (tOr (tTest (tOp (rOwnNe K (He.ga K "Order") (sp_Order_eq K) (fun vs zs => pick .non [0, 1] (vs ++ zs)) E0) (tVar 8) (tCl 1 0 (sp_law_order K) (fun vs zs => pick .non [0] (vs ++ zs)) E0 (tCons (tVar 7) tNil) tNil))) (tTest (tOp (rOwnNe K (He.ga K "Hall") (sp_Hall_eq K) (fun vs zs => pick .non [0, 1] (vs ++ zs)) E0) (tVar 5) (tMk (He.ga K "Hall") 1 1 (sp_Hall_init K) (fun vs zs => pick .non [0, 1, 2] (vs ++ (zs ++ [.non]))) E0 (tCons (tCB (rListOf K) (tCons (tOp (rIx K) (tVar 4) (tC (.int 0))) tNil)) tNil) (tCons (tCB rSortedDT (tCons (tOp (rIx K) (tVar 4) (tC (.int 1))) tNil)) tNil))))) (tRet (tC (.bl false))) tNext)
abbrev t_law_1 (K : PySem.W.Frag) : TS := (tSeq (tIfS (tOr (tNot (tTr K (tCl 3 0 (sp_law_slots_right K) (fun vs zs => pick .non [0, 1, 2] (vs ++ zs)) E0 (tCons (tVar 5) (tCons (tVar 8) (tCons (tVar 9) tNil))) tNil))) (tNot (tTr K (tCl 4 0 (sp_law_lost_right K) (fun vs zs => pick .non [0, 1, 2, 3] (vs ++ zs)) E0 (tCons (tVar 1) (tCons (tVar 5) (tCons (tVar 8) (tCons (tVar 9) tNil)))) tNil)))) (tRet (tC (.bl false))) tNext) (t_law_0 K))
abbrev t_law_2 (K : PySem.W.Frag) : TS := (tSeq (tPar 8 9 (tCons (tCl 1 0 (sp_law_order K) (fun vs zs => pick .non [0] (vs ++ zs)) E0 (tCons (tVar 7) tNil) tNil) (tCons (tCl 2 0 (sp_law_fits K) (fun vs zs => pick .non [0, 1] (vs ++ zs)) E0 (tCons (tVar 4) (tCons (tVar 7) tNil)) tNil) tNil))) (t_law_1 K))
abbrev t_law_3 (K : PySem.W.Frag) : TS := (tSeq (tAsg (tCl 3 0 (sp_law_plain_order K) (fun vs zs => pick .non [0, 1, 2] (vs ++ zs)) E0 (tCons (tVar 1) (tCons (tVar 6) (tCons (tVar 3) tNil))) tNil) (gName 7)) (t_law_2 K))
abbrev t_law_4 (K : PySem.W.Frag) : TS := (tFor (iAny K (tCl 2 0 (sp_law_numbers K) (fun vs zs => pick .non [0, 1] (vs ++ zs)) E0 (tCons (tVar 1) (tCons (tC (.int 4)) tNil)) tNil)) (gName 6) (t_law_3 K))
abbrev t_law_5 (K : PySem.W.Frag) : TS := (tSeq (tAsg (tMk (He.ga K "Hall") 1 1 (sp_Hall_init K) (fun vs zs => pick .non [0, 1, 2] (vs ++ (zs ++ [.non]))) E0 (tCons (tCB (rListOf K) (tCons (tOp (rIx K) (tVar 4) (tC (.int 0))) tNil)) tNil) (tCons (tCB rSortedDT (tCons (tOp (rIx K) (tVar 4) (tC (.int 1))) tNil)) tNil)) (gName 5)) (t_law_4 K))
abbrev t_law_6 (K : PySem.W.Frag) : TS := (tSeq (tAsg (tCl 3 0 (sp_law_plain_hall K) (fun vs zs => pick .non [0, 1, 2] (vs ++ zs)) E0 (tCons (tVar 1) (tCons (tVar 3) (tCons (tC (.int 9)) tNil))) tNil) (gName 4)) (t_law_5 K))
abbrev t_law_7 (K : PySem.W.Frag) : TS := (tSeq (tAsg (tCl 1 0 (sp_law_near K) (fun vs zs => pick .non [0] (vs ++ zs)) E0 (tCons (tVar 1) tNil) tNil) (gName 3)) (t_law_6 K))
abbrev t_law_8 (K : PySem.W.Frag) : TS := (tRet (tCl 1 0 (sp_law_hand_right K) (fun vs zs => pick .non [0] (vs ++ zs)) E0 (tCons (tVar 1) tNil) tNil))
abbrev t_law_9 (K : PySem.W.Frag) : TS := (tSeq (tFor (iRng1 (tCons (tOp (rAddA K) (tC (.int 1)) (tCB rMin2 (tCons (tC (.int 3)) (tCons (tCB (rLen K) (tCons (tVar 0) tNil)) tNil)))) tNil)) (gName 2) (t_law_7 K)) (t_law_8 K))
def t_law (K : PySem.W.Frag) : TS := (tSeq (tAsg (tCl 1 0 (sp_law_begun K) (fun vs zs => pick .non [0] (vs ++ zs)) E0 (tCons (tVar 0) tNil) tNil) (gName 1)) (t_law_9 K))
theorem rd_law {K : PySem.W.Frag} (C : HallC K) (C2 : OrderC K) (D : OwnD K (He.ga K "Hall")) (D2 : OwnD K (He.ga K "Order")) (vs : List V) (H : Hp) (Q : VK) (E : XK) (h : sp_law K vs H Q E) : t_law K { nx := fun _ H' => Q .non H', rt := Q } (start ["script", "m", "k", "near", "pair", "house", "figure", "plain", "one", "places"] vs) H := by
  obtain ⟨_, a, ns, B, rfl, hI, ha, hl, q⟩ := h
  show t_law K ⟨_, _, _, _⟩ [some (.ref a), none, none, none, none, none, none, none, none, none] H
  have hal : (ns.map V.int).length = ns.length := List.length_map _
  unfold t_law
  tm_at "go"
  refine' ap_law_begun (K := K) hI ha hl ?_
  clear hI
  intro m B0 M H s0 hI hd
  replace ha : SqL K B0 a (ns.map V.int) := Same.seq s0 ha
  tm_at "go"
  replace hd : Dr m (200 * ((0 : Nat) : Int)) B0 M := hd
  refine' g_aFor walk_range (fun i σ H => ∃ (c2 c3 c4 c5 c6 c7 c8 c9 : Option V) (B2 : Hp) (M : List (Addr × HO)), σ = [some (.ref a), some (.ref m), c2, c3, c4, c5, c6, c7, c8, c9] ∧ Is B2 M [] H ∧ Dr m (200 * (i : Int)) B2 M)
    ⟨_, _, _, _, _, _, _, _, B0, M, rfl, hI, hd⟩ (fun _ _ _ _ _ => trivial) ?_ ?_
  · clear hI hd ha
    rintro i x σ H H' hi ⟨c2, c3, c4, c5, c6, c7, c8, c9, B2, M, rfl, hI, hd⟩ ⟨rfl, rfl⟩
    have hi5 : i < 4 := by
      have hi : i < (1 + min (3 : Int) ((ns.map V.int).length)).toNat := hi
      omega
    tm_at "go"
    refine' ap_law_near (K := K) hI hd (by omega) ?_
    clear hI hd
    intro near H M hI hd near0 near1
    tm_at "go"
    refine' ap_law_plain_hall (K := K) hI hd (by omega) near0 near1 (by decide) (by decide) ?_
    clear hI hd
    intro pp zs gs B3 H M s3 hI hd hP
    obtain ⟨⟨wd, gd, p1, p2, p3⟩, hg, hgl⟩ := id hP
    tm_at "go"
    refine g_ix_t (SqT.of (hI.b p1)) (atI_of (by decide) rfl) ?_
    tm_at "go"
    refine g_ix_t (SqT.of (hI.b p1)) (atI_of (by decide) rfl) ?_
    tm_at "go"
    refine g_sortedDT hI (hI.b p3) (ss := gs) (by rw [goneD, List.map_map]; rfl) hg.slt (by rw [goneD, List.length_map]; omega) (fun q hq u v e => by
      rcases List.mem_append.mp hq with h | h
      · rw [List.mem_singleton.mp h] at e
        cases e
      · exact hd.notup q h _ e) ?_
    clear hI
    intro B4 q4 ys ss1 H s4 hys hp1 _ hI
    tm_at "go"
    refine' hI.give (.there (.there .here)) ?_
    clear hI
    intro B5 s5 k5 hI
    refine' hI.give (.there (.there .here)) ?_
    clear hI
    intro B6 s6 k6 hI
    have s36 := s4.trans (s5.trans s6)
    replace hP := hP.same s36
    replace hd := hd.same s36
    refine' ap_Hall_init (K := K) hI k6 (s6 _ _ k5) (hys.same (s5.trans s6)) (hg.perm hp1) ?_
    clear hI
    intro B7 H gs1 s7 hI hp2 hX
    refine ⟨rfl, ?_⟩
    obtain ⟨house, ehouse⟩ : ∃ q, q = x := ⟨_, rfl⟩
    rw [← ehouse] at hX
    rw [← ehouse]
    replace hP := hP.same s7
    replace hd := hd.same s7
    have hpg := hp2.trans hp1
    clear p1 p2 p3 k5 k6 hys
    tm_at "go"
    refine' ap_law_numbers (K := K) hI hd (by omega) (by decide) (by decide) ?_
    clear hI hd
    intro np nf nst H M hI hd _
    tm_at "go"
    replace hd : Dr m (200 * (i : Int) + 105 + 17 * ((0 : Nat) : Int)) B7 M := hd.mono (by omega)
    refine' g_aFor (walk_list (xs := (List.range (Int.toNat 4)).map fun k => V.int (nbr nf nst k))) (fun j σ H => ∃ (c6 c7 c8 c9 : Option V) (B8 : Hp) (M : List (Addr × HO)), σ = [some (.ref a), some (.ref m), some (.int (0 + (i : Int))), some (.int near), some (.ref pp), some (.ref house), c6, c7, c8, c9] ∧ Same B7 B8 ∧ Is B8 M [(np, .lst ((List.range (Int.toNat 4)).map fun k => V.int (nbr nf nst k)))] H ∧ Dr m (200 * (i : Int) + 105 + 17 * (j : Int)) B8 M)
      ⟨_, _, _, _, B7, M, rfl, fun _ _ e => e, hI, hd⟩ (fun j σ H _ ⟨_, _, _, _, B8, M, _, _, I, _⟩ => SqL.of (I.get (.head _))) ?_ ?_
    · clear hI hd
      rintro j v σ H H' hj ⟨c6, c7, c8, c9, B8, M, rfl, s8, hI, hd⟩ ⟨rfl, hv⟩
      have hj4 : j < 4 := by
        rw [List.length_map, List.length_range] at hj
        exact hj
      obtain ⟨f0, f1⟩ := nbr_in nf nst j
      obtain rfl : v = .int (nbr nf nst j) := by
        rw [List.getElem?_map, List.getElem?_range (by exact hj4)] at hv
        exact (Option.some.inj hv).symm
      replace hX := hX.same s8
      replace hP := hP.same s8
      tm_at "go"
      refine' ap_law_plain_order (K := K) hI hd (by omega) f0 f1 near0 near1 ?_
      clear hI hd
      intro tp t H M hI hd g
      refine' hI.give .here ?_
      clear hI
      intro B9 s9 ht hI
      replace hX := hX.same s9
      replace hP := hP.same s9
      replace hd := hd.same s9
      tm_at "go"
      refine' ap_law_order (K := K) hI ht g ?_
      clear hI
      intro one B10 H s10 hI hO
      replace hX := hX.same s10
      replace hP := hP.same s10
      replace hd := hd.same s10
      replace ht := s10 _ _ ht
      tm_at "go"
      refine' ap_law_fits (K := K) hI hP ht g ?_
      clear hI
      intro pl xs B11 H s11 hxs hI
      refine' hI.give .here ?_
      clear hI
      intro B12 s12 hpl hI
      have s112 := s11.trans s12
      replace hX := hX.same s112
      replace hP := hP.same s112
      replace hd := hd.same s112
      replace ht := s112 _ _ ht
      replace hO := hO.same s112
      replace hxs := SlotsB.same hxs s12
      rw [← fitS_perm hpg] at hxs
      tm_at "go"
      refine' ap_law_slots_right (K := K) hI hX hO hpl hxs ?_
      clear hI
      intro B13 H s13 hI
      replace hX := hX.same s13
      replace hP := hP.same s13
      replace hd := hd.same s13
      replace ht := s13 _ _ ht
      replace hO := hO.same s13
      replace hpl := s13 _ _ hpl
      replace hxs := SlotsB.same hxs s13
      tm_at "go"
      refine' ap_law_lost_right (K := K) hI hd (by omega) hX (by rw [hpg.length_eq]; omega) hO hpl hxs ?_
      clear hI hd
      intro B14 H M s14 hI hd
      replace hX := hX.same s14
      replace hP := hP.same s14
      replace ht := s14 _ _ ht
      replace hO := hO.same s14
      tm_at "go"
      refine' ap_law_order (K := K) hI ht g ?_
      clear hI
      intro two B15 H s15 hI hO2
      replace hX := hX.same s15
      replace hP := hP.same s15
      replace hd := hd.same s15
      replace hO := hO.same s15
      tm_at "go"
      refine' g_ordNe D2 C2 hI hO hO2 ?_
      clear hI
      intro H hI
      rw [decide_eq_true rfl, Bool.not_true]
      tm_at "go"
      obtain ⟨⟨wd, gd, p1, p2, p3⟩, _, _⟩ := id hP
      refine g_ix_t (SqT.of (hI.b p1)) (atI_of (by decide) rfl) ?_
      tm_at "go"
      refine g_ix_t (SqT.of (hI.b p1)) (atI_of (by decide) rfl) ?_
      tm_at "go"
      refine g_sortedDT hI (hI.b p3) (ss := gs) (by rw [goneD, List.map_map]; rfl) hg.slt (by rw [goneD, List.length_map]; omega) (fun q hq u v e => by
        rcases List.mem_append.mp hq with h | h
        · simp only [List.mem_cons, List.not_mem_nil, or_false] at h
          rcases h with rfl | rfl <;> cases e
        · exact hd.notup q h _ e) ?_
      clear hI
      intro B16 q16 ys2 ss2 H s16 hys2 hq1 _ hI
      tm_at "go"
      refine' hI.give (.there (.there .here)) ?_
      clear hI
      intro B17 s17 k17 hI
      refine' hI.give (.there (.there .here)) ?_
      clear hI
      intro B18 s18 k18 hI
      have s168 := s16.trans (s17.trans s18)
      refine' ap_Hall_init (K := K) hI k18 (s18 _ _ k17) (hys2.same (s17.trans s18)) (hg.perm hq1) ?_
      clear hI
      intro B19 H gs2 s19 hI hq2 hX2
      refine ⟨rfl, ?_⟩
      replace hX := hX.same (s168.trans s19)
      replace hd := hd.same (s168.trans s19)
      tm_at "go"
      refine' g_hallNe D C hI hX hX2 ?_
      clear hI
      intro H hI
      rw [decide_eq_true ⟨rfl, sortS_uniq hg.slt hpg (hq2.trans hq1) hX.so hX2.so⟩, Bool.not_true]
      tm_at "go"
      exact ⟨_, _, _, _, B19, M, rfl, s8.trans (s9.trans (s10.trans (s112.trans (s13.trans (s14.trans (s15.trans (s168.trans s19))))))), hI.forget (by tm_at "sub"), hd.mono (by omega)⟩
    · clear hI hd
      rintro σ H ⟨c6, c7, c8, c9, B8, M, rfl, s8, hI, hd⟩
      rw [List.length_map, List.length_range] at hd
      exact ⟨_, _, _, _, _, _, _, _, B8, M, rfl, hI.forget (by tm_at "sub"), hd.mono (by show 200 * (i : Int) + 105 + 17 * 4 ≤ 200 * ((i + 1 : Nat) : Int); omega)⟩
  · clear hI hd
    rintro σ H ⟨c2, c3, c4, c5, c6, c7, c8, c9, B2, M, rfl, hI, hd⟩
    tm_at "go"
    refine' ap_law_hand_right (K := K) hI hd (by omega) ?_
    clear hI hd
    intro B3 H M s3 hI hd
    exact q _
end Bz
namespace Bz
open PySem PySem.Spec PyProof.Rows L2
abbrev FnP (K : PySem.W.Frag) (x q : Str) (st : Stmt) (dvs : List V) (f : Addr) (fd : FuncData) : Prop := FunD K x q (defArgs st) (defBody st) (defScope st) dvs [] f fd
structure Txt (K : PySem.W.Frag) (w : World) (mg : Str → Option Value) : Prop where
  c_MOST_LETTERS : ∃ t, mg "MOST_LETTERS" = some (.int 8 t)
  c_MOST_NUMBER : ∃ t, mg "MOST_NUMBER" = some (.int 99999 t)
  c_MOST_HOUR : ∃ t, mg "MOST_HOUR" = some (.int 1000000 t)
  c_MOST_HOURS : ∃ t, mg "MOST_HOURS" = some (.int 240 t)
  c_MOST_STEPS : ∃ t, mg "MOST_STEPS" = some (.int 12 t)
  c_MOST_FRAMES : ∃ t, mg "MOST_FRAMES" = some (.int 9 t)
  c_MOST_SIZE : ∃ t, mg "MOST_SIZE" = some (.int 60 t)
  c_MOST_NIGHT : ∃ t, mg "MOST_NIGHT" = some (.int 99999 t)
  c_MOST_NIGHTS_MORE : ∃ t, mg "MOST_NIGHTS_MORE" = some (.int 30 t)
  c_MOST_LOST : ∃ t, mg "MOST_LOST" = some (.int 100 t)
  c_MOST_SLOTS : ∃ t, mg "MOST_SLOTS" = some (.int 1000 t)
  c_LETTERS : ∃ t, mg "LETTERS" = some (.str "abcdefghijklmnopqrstuvwxyz" t)
  g_BARRED_WORDS : mg "BARRED_WORDS" = some (.ref (He.ga K "BARRED_WORDS"))
  k_BARRED_WORDS : ∀ H, SqT K H (He.ga K "BARRED_WORDS") [.str "style", .str "job", .str "round", .str "sew", .str "glue", .str "cover", .str "letter", .str "press", .str "hand", .str "haste"]
  g_KINDS : mg "KINDS" = some (.ref (He.ga K "KINDS"))
  k_KINDS : KTab K w (He.ga K "KINDS") [("sew", "hand"), ("glue", "hand"), ("cover", "hand"), ("letter", "hand"), ("press", "press")]
  z_all : mg "all" = none
  z_bool : mg "bool" = none
  z_dict : mg "dict" = none
  z_enumerate : mg "enumerate" = none
  z_int : mg "int" = none
  z_isinstance : mg "isinstance" = none
  z_len : mg "len" = none
  z_list : mg "list" = none
  z_max : mg "max" = none
  z_min : mg "min" = none
  z_range : mg "range" = none
  z_repr : mg "repr" = none
  z_set : mg "set" = none
  z_sorted : mg "sorted" = none
  z_str : mg "str" = none
  z_sum : mg "sum" = none
  z_tuple : mg "tuple" = none
  g_Style : mg "Style" = some (.ref (He.ga K "Style"))
  cl_Style : Cls K (He.ga K "Style")
  mk_Style : Mk K (He.ga K "Style") (He.ma K (He.ga K "Style") "__init__")
  od_Style : OwnD K (He.ga K "Style")
  n_Style_called : NoAttr K (He.ga K "Style") "called"
  n_Style_step_rows : NoAttr K (He.ga K "Style") "step_rows"
  g_Job : mg "Job" = some (.ref (He.ga K "Job"))
  cl_Job : Cls K (He.ga K "Job")
  mk_Job : Mk K (He.ga K "Job") (He.ma K (He.ga K "Job") "__init__")
  od_Job : OwnD K (He.ga K "Job")
  n_Job_came : NoAttr K (He.ga K "Job") "came"
  n_Job_has_number : NoAttr K (He.ga K "Job") "has_number"
  n_Job_has_style : NoAttr K (He.ga K "Job") "has_style"
  n_Job_hasty : NoAttr K (He.ga K "Job") "hasty"
  n_Job_wanted : NoAttr K (He.ga K "Job") "wanted"
  g_Order : mg "Order" = some (.ref (He.ga K "Order"))
  cl_Order : Cls K (He.ga K "Order")
  mk_Order : Mk K (He.ga K "Order") (He.ma K (He.ga K "Order") "__init__")
  od_Order : OwnD K (He.ga K "Order")
  n_Order_at_least : NoAttr K (He.ga K "Order") "at_least"
  n_Order_for_job : NoAttr K (He.ga K "Order") "for_job"
  n_Order_from_night : NoAttr K (He.ga K "Order") "from_night"
  n_Order_to_night : NoAttr K (He.ga K "Order") "to_night"
  g_Hall : mg "Hall" = some (.ref (He.ga K "Hall"))
  cl_Hall : Cls K (He.ga K "Hall")
  mk_Hall : Mk K (He.ga K "Hall") (He.ma K (He.ga K "Hall") "__init__")
  od_Hall : OwnD K (He.ga K "Hall")
  n_Hall_frame_sizes : NoAttr K (He.ga K "Hall") "frame_sizes"
  n_Hall_gone_at : NoAttr K (He.ga K "Hall") "gone_at"
  n_Hall_gone_slots : NoAttr K (He.ga K "Hall") "gone_slots"
  g_is_whole : mg "is_whole" = some (.ref (He.ga K "is_whole"))
  d_is_whole : ∃ fd, FnP K "is_whole" "is_whole" (topS 13) [.int 1000000] (He.ga K "is_whole") fd
  g_is_name : mg "is_name" = some (.ref (He.ga K "is_name"))
  d_is_name : ∃ fd, FnP K "is_name" "is_name" (topS 14) [] (He.ga K "is_name") fd
  g_kind_of : mg "kind_of" = some (.ref (He.ga K "kind_of"))
  d_kind_of : ∃ fd, FnP K "kind_of" "kind_of" (topS 15) [] (He.ga K "kind_of") fd
  g_is_step : mg "is_step" = some (.ref (He.ga K "is_step"))
  d_is_step : ∃ fd, FnP K "is_step" "is_step" (topS 16) [] (He.ga K "is_step") fd
  g_are_steps : mg "are_steps" = some (.ref (He.ga K "are_steps"))
  d_are_steps : ∃ fd, FnP K "are_steps" "are_steps" (topS 19) [] (He.ga K "are_steps") fd
  d_Style_init : ∃ fd, FnP K "__init__" "Style.__init__" (inClass (topS 20) 0) [] (He.ma K (He.ga K "Style") "__init__") fd
  m_Style_span : Meth K (He.ga K "Style") "span" (He.ma K (He.ga K "Style") "span")
  d_Style_span : ∃ fd, FnP K "span" "Style.span" (inClass (topS 20) 4) [] (He.ma K (He.ga K "Style") "span") fd
  m_Style_eq : Meth K (He.ga K "Style") "__eq__" (He.ma K (He.ga K "Style") "__eq__")
  d_Style_eq : ∃ fd, FnP K "__eq__" "Style.__eq__" (inClass (topS 20) 8) [] (He.ma K (He.ga K "Style") "__eq__") fd
  d_Job_init : ∃ fd, FnP K "__init__" "Job.__init__" (inClass (topS 21) 0) [.int 0, .non, .bl false] (He.ma K (He.ga K "Job") "__init__") fd
  m_Job_rank : Meth K (He.ga K "Job") "rank" (He.ma K (He.ga K "Job") "rank")
  d_Job_rank : ∃ fd, FnP K "rank" "Job.rank" (inClass (topS 21) 6) [] (He.ma K (He.ga K "Job") "rank") fd
  m_Job_eq : Meth K (He.ga K "Job") "__eq__" (He.ma K (He.ga K "Job") "__eq__")
  d_Job_eq : ∃ fd, FnP K "__eq__" "Job.__eq__" (inClass (topS 21) 9) [] (He.ma K (He.ga K "Job") "__eq__") fd
  g_is_night : mg "is_night" = some (.ref (He.ga K "is_night"))
  d_is_night : ∃ fd, FnP K "is_night" "is_night" (topS 29) [] (He.ga K "is_night") fd
  g_is_slot_of : mg "is_slot_of" = some (.ref (He.ga K "is_slot_of"))
  d_is_slot_of : ∃ fd, FnP K "is_slot_of" "is_slot_of" (topS 30) [] (He.ga K "is_slot_of") fd
  g_are_sizes : mg "are_sizes" = some (.ref (He.ga K "are_sizes"))
  d_are_sizes : ∃ fd, FnP K "are_sizes" "are_sizes" (topS 31) [] (He.ga K "are_sizes") fd
  g_are_lost : mg "are_lost" = some (.ref (He.ga K "are_lost"))
  d_are_lost : ∃ fd, FnP K "are_lost" "are_lost" (topS 32) [] (He.ga K "are_lost") fd
  d_Order_init : ∃ fd, FnP K "__init__" "Order.__init__" (inClass (topS 33) 0) [.int 1, .int 0, .non] (He.ma K (He.ga K "Order") "__init__") fd
  m_Order_wants : Meth K (He.ga K "Order") "wants" (He.ma K (He.ga K "Order") "wants")
  d_Order_wants : ∃ fd, FnP K "wants" "Order.wants" (inClass (topS 33) 3) [] (He.ma K (He.ga K "Order") "wants") fd
  m_Order_eq : Meth K (He.ga K "Order") "__eq__" (He.ma K (He.ga K "Order") "__eq__")
  d_Order_eq : ∃ fd, FnP K "__eq__" "Order.__eq__" (inClass (topS 33) 6) [] (He.ma K (He.ga K "Order") "__eq__") fd
  d_Hall_init : ∃ fd, FnP K "__init__" "Hall.__init__" (inClass (topS 34) 0) [.non] (He.ma K (He.ga K "Hall") "__init__") fd
  m_Hall_lost : Meth K (He.ga K "Hall") "lost" (He.ma K (He.ga K "Hall") "lost")
  d_Hall_lost : ∃ fd, FnP K "lost" "Hall.lost" (inClass (topS 34) 2) [] (He.ma K (He.ga K "Hall") "lost") fd
  m_Hall_has_frame_of : Meth K (He.ga K "Hall") "has_frame_of" (He.ma K (He.ga K "Hall") "has_frame_of")
  d_Hall_has_frame_of : ∃ fd, FnP K "has_frame_of" "Hall.has_frame_of" (inClass (topS 34) 3) [] (He.ma K (He.ga K "Hall") "has_frame_of") fd
  m_Hall_is_slot : Meth K (He.ga K "Hall") "is_slot" (He.ma K (He.ga K "Hall") "is_slot")
  d_Hall_is_slot : ∃ fd, FnP K "is_slot" "Hall.is_slot" (inClass (topS 34) 4) [] (He.ma K (He.ga K "Hall") "is_slot") fd
  m_Hall_with_lost : Meth K (He.ga K "Hall") "with_lost" (He.ma K (He.ga K "Hall") "with_lost")
  d_Hall_with_lost : ∃ fd, FnP K "with_lost" "Hall.with_lost" (inClass (topS 34) 5) [] (He.ma K (He.ga K "Hall") "with_lost") fd
  m_Hall_with_found : Meth K (He.ga K "Hall") "with_found" (He.ma K (He.ga K "Hall") "with_found")
  d_Hall_with_found : ∃ fd, FnP K "with_found" "Hall.with_found" (inClass (topS 34) 6) [] (He.ma K (He.ga K "Hall") "with_found") fd
  m_Hall_fitting : Meth K (He.ga K "Hall") "fitting" (He.ma K (He.ga K "Hall") "fitting")
  d_Hall_fitting : ∃ fd, FnP K "fitting" "Hall.fitting" (inClass (topS 34) 7) [] (He.ma K (He.ga K "Hall") "fitting") fd
  m_Hall_slots_of : Meth K (He.ga K "Hall") "slots_of" (He.ma K (He.ga K "Hall") "slots_of")
  d_Hall_slots_of : ∃ fd, FnP K "slots_of" "Hall.slots_of" (inClass (topS 34) 10) [.int 40] (He.ma K (He.ga K "Hall") "slots_of") fd
  m_Hall_how_many : Meth K (He.ga K "Hall") "how_many" (He.ma K (He.ga K "Hall") "how_many")
  d_Hall_how_many : ∃ fd, FnP K "how_many" "Hall.how_many" (inClass (topS 34) 11) [] (He.ma K (He.ga K "Hall") "how_many") fd
  m_Hall_eq : Meth K (He.ga K "Hall") "__eq__" (He.ma K (He.ga K "Hall") "__eq__")
  d_Hall_eq : ∃ fd, FnP K "__eq__" "Hall.__eq__" (inClass (topS 34) 12) [] (He.ma K (He.ga K "Hall") "__eq__") fd
  g_law_mixed : mg "_law_mixed" = some (.ref (He.ga K "_law_mixed"))
  d_law_mixed : ∃ fd, FnP K "_law_mixed" "_law_mixed" (topS 36) [] (He.ga K "_law_mixed") fd
  g_law_folded : mg "_law_folded" = some (.ref (He.ga K "_law_folded"))
  d_law_folded : ∃ fd, FnP K "_law_folded" "_law_folded" (topS 37) [] (He.ga K "_law_folded") fd
  g_law_draw : mg "_law_draw" = some (.ref (He.ga K "_law_draw"))
  d_law_draw : ∃ fd, FnP K "_law_draw" "_law_draw" (topS 38) [] (He.ga K "_law_draw") fd
  g_law_begun : mg "_law_begun" = some (.ref (He.ga K "_law_begun"))
  d_law_begun : ∃ fd, FnP K "_law_begun" "_law_begun" (topS 39) [] (He.ga K "_law_begun") fd
  g_law_numbers : mg "_law_numbers" = some (.ref (He.ga K "_law_numbers"))
  d_law_numbers : ∃ fd, FnP K "_law_numbers" "_law_numbers" (topS 40) [] (He.ga K "_law_numbers") fd
  g_law_near : mg "_law_near" = some (.ref (He.ga K "_law_near"))
  d_law_near : ∃ fd, FnP K "_law_near" "_law_near" (topS 41) [] (He.ga K "_law_near") fd
  g_law_plain_hall : mg "_law_plain_hall" = some (.ref (He.ga K "_law_plain_hall"))
  d_law_plain_hall : ∃ fd, FnP K "_law_plain_hall" "_law_plain_hall" (topS 42) [] (He.ga K "_law_plain_hall") fd
  g_law_plain_order : mg "_law_plain_order" = some (.ref (He.ga K "_law_plain_order"))
  d_law_plain_order : ∃ fd, FnP K "_law_plain_order" "_law_plain_order" (topS 43) [] (He.ga K "_law_plain_order") fd
  g_law_order : mg "_law_order" = some (.ref (He.ga K "_law_order"))
  d_law_order : ∃ fd, FnP K "_law_order" "_law_order" (topS 44) [] (He.ga K "_law_order") fd
  g_law_fits : mg "_law_fits" = some (.ref (He.ga K "_law_fits"))
  d_law_fits : ∃ fd, FnP K "_law_fits" "_law_fits" (topS 45) [] (He.ga K "_law_fits") fd
  g_law_slots_right : mg "_law_slots_right" = some (.ref (He.ga K "_law_slots_right"))
  d_law_slots_right : ∃ fd, FnP K "_law_slots_right" "_law_slots_right" (topS 46) [] (He.ga K "_law_slots_right") fd
  g_law_lost_right : mg "_law_lost_right" = some (.ref (He.ga K "_law_lost_right"))
  d_law_lost_right : ∃ fd, FnP K "_law_lost_right" "_law_lost_right" (topS 47) [] (He.ga K "_law_lost_right") fd
  g_law_hand_right : mg "_law_hand_right" = some (.ref (He.ga K "_law_hand_right"))
  d_law_hand_right : ∃ fd, FnP K "_law_hand_right" "_law_hand_right" (topS 48) [] (He.ga K "_law_hand_right") fd
  g_law : mg "law" = some (.ref (He.ga K "law"))
  d_law : ∃ fd, FnP K "law" "law" (topS 49) [] (He.ga K "law") fd
theorem hallC {K : PySem.W.Frag} {w : World} {mg : Str → Option Value} (T : Txt K w mg) : HallC K := ⟨T.cl_Hall, T.n_Hall_frame_sizes, T.n_Hall_gone_slots, T.n_Hall_gone_at⟩
theorem orderC {K : PySem.W.Frag} {w : World} {mg : Str → Option Value} (T : Txt K w mg) : OrderC K := ⟨T.cl_Order, T.n_Order_for_job, T.n_Order_at_least, T.n_Order_from_night, T.n_Order_to_night⟩
theorem jobC {K : PySem.W.Frag} {w : World} {mg : Str → Option Value} (T : Txt K w mg) : JobC K := ⟨T.cl_Job, T.n_Job_has_number, T.n_Job_has_style, T.n_Job_came, T.n_Job_wanted, T.n_Job_hasty⟩
theorem styleC {K : PySem.W.Frag} {w : World} {mg : Str → Option Value} (T : Txt K w mg) : StyleC K := ⟨T.cl_Style, T.n_Style_called, T.n_Style_step_rows⟩
section
variable {P : Program} {w : World} {K : PySem.W.Frag} {mg : Str → Option Value} {base : Heap}
theorem sc_is_whole : FnScope ["thing", "least", "most"] ["thing", "least", "most"] (defScope (topS 13)) := ⟨rfl, rfl, rfl, by decide +kernel, rfl, by decide +kernel, by decide +kernel⟩
theorem ok_is_whole (T : Txt K w mg) : ∃ fd, FnP K "is_whole" "is_whole" (topS 13) [.int 1000000] (He.ga K "is_whole") fd ∧ FnG P w K mg base CX0 1 (He.ga K "is_whole") fd ["thing", "least", "most"] (sp_is_whole K) := by
  obtain ⟨fd, F⟩ := T.d_is_whole
  refine ⟨fd, F, fnG_of (sp := sp_is_whole K) F sc_is_whole (fun vs H Q E h => h.1) fun cdv A outer s H vs Q E hr hg h => ?_⟩
  have hu := hu_of hr
  have nd := sc_is_whole.nd
  exact ⟨t_is_whole K, PSs.nox ((pss_one (ps_ret (pe_and (pe_callB call_isi (by rfl) T.z_isinstance (by decide +kernel) (pa_cons (pv 0) (pa_cons (pe_bltn (v := .ty "int") (by rfl) T.z_int (by decide +kernel) rfl) pa_nil))) (pe_and (pe_not (pe_callB call_isi (by rfl) T.z_isinstance (by decide +kernel) (pa_cons (pv 0) (pa_cons (pe_bltn (v := .ty "bool") (by rfl) T.z_bool (by decide +kernel) rfl) pa_nil)))) (pe_one (pe_chain op_le op_le (pv 1) (pv 0) (pv 2)))))))), rd_is_whole vs H Q E h⟩
theorem cs_is_whole_2_most (T : Txt K w mg) : CallOk P w K mg base CX0 1 "is_whole" 2 ["most"] (sp_is_whole K) (fun vs zs => pick .non [0, 1, 2] (vs ++ (zs ++ [.int 1000000]))) := by
  obtain ⟨fd, F, G⟩ := ok_is_whole (P := P) (w := w) (base := base) T
  obtain ⟨g, kb⟩ := kb1 (ps := ["thing", "least", "most"]) F (by simp) 2 ["most"] [0, 1, 2] fun T kV doc pm an cdv ct us ws its h1 h2 h3 => match us, ws, its, h1, h2, h3 with | [_, _], [_], [_], _, _, _ => ⟨_, rfl, rfl⟩
  exact ⟨⟨fd, _, g, G, kb⟩, T.g_is_whole, F.kp⟩
theorem sc_is_name : FnScope ["thing", "sign"] ["thing"] (defScope (topS 14)) := ⟨rfl, rfl, rfl, by decide +kernel, rfl, by decide +kernel, by decide +kernel⟩
theorem ok_is_name (T : Txt K w mg) : ∃ fd, FnP K "is_name" "is_name" (topS 14) [] (He.ga K "is_name") fd ∧ FnG P w K mg base CX0 1 (He.ga K "is_name") fd ["thing"] (sp_is_name K) := by
  obtain ⟨fd, F⟩ := T.d_is_name
  refine ⟨fd, F, fnG_of (sp := sp_is_name K) F sc_is_name (fun vs H Q E h => h.1) fun cdv A outer s H vs Q E hr hg h => ?_⟩
  have hu := hu_of hr
  have nd := sc_is_name.nd
  exact ⟨t_is_name K, PSs.nox ((pss_cons (ps_if (PW.pt (pw_or (pt_not (pt_tr (pe_callB call_isi (by rfl) T.z_isinstance (by decide +kernel) (pa_cons (pv 0) (pa_cons (pe_bltn (v := .ty "str") (by rfl) T.z_str (by decide +kernel) rfl) pa_nil))))) (pw_or (pt_not (pt_chain op_le op_le pe_int (pe_callB cl_len (by rfl) T.z_len PySem.boot_len (pa_cons (pv 0) pa_nil)) (pe_gI T.c_MOST_LETTERS))) (pw_or1 (pt_cmpR op_inA (pv 0) (pe_gR T.g_BARRED_WORDS) rfl))))) (pss_one (ps_ret pe_bl)) pss_nil)
    (pss_one (ps_ret (pe_callB (cr_all rfl) (by rfl) T.z_all (by decide +kernel) (pa_cons (pe_lc (own := [("sign", 1)]) rfl nd (pi_any (pv 0)) (blkOk_by (by first | decide +kernel | kernel_rfl)) (fun _ _ _ _ _ => (pg_name (i := 1) nd rfl (Or.inl rfl))) (fun _ _ _ _ _ => pts_nil) (fun _ _ _ _ _ => (pe_cmpR op_inA (pv 1) (pe_gS T.c_LETTERS) rfl))) pa_nil)))))), rd_is_name T.k_BARRED_WORDS vs H Q E h⟩
theorem cs_is_name_1 (T : Txt K w mg) : CallOk P w K mg base CX0 1 "is_name" 1 [] (sp_is_name K) (fun vs zs => pick .non [0] (vs ++ zs)) := by
  obtain ⟨fd, F, G⟩ := ok_is_name (P := P) (w := w) (base := base) T
  obtain ⟨g, kb⟩ := kb0 (ps := ["thing"]) F 1 [] [0] fun kV doc pm an cdv ct us ws h1 h2 => match us, ws, h1, h2 with | [_], [], _, _ => rfl
  exact ⟨⟨fd, _, g, G, kb⟩, T.g_is_name, F.kp⟩
theorem sc_kind_of : FnScope ["work"] ["work"] (defScope (topS 15)) := ⟨rfl, rfl, rfl, by decide +kernel, rfl, by decide +kernel, by decide +kernel⟩
theorem ok_kind_of (T : Txt K w mg) : ∃ fd, FnP K "kind_of" "kind_of" (topS 15) [] (He.ga K "kind_of") fd ∧ FnG P w K mg base CX0 1 (He.ga K "kind_of") fd ["work"] (sp_kind_of K) := by
  obtain ⟨fd, F⟩ := T.d_kind_of
  refine ⟨fd, F, fnG_of (sp := sp_kind_of K) F sc_kind_of (fun vs H Q E h => h.1) fun cdv A outer s H vs Q E hr hg h => ?_⟩
  have hu := hu_of hr
  have nd := sc_kind_of.nd
  exact ⟨t_kind_of K, PSs.nox ((pss_one (ps_ret (pe_ifExp (pt_tr (pe_callB call_isi (by rfl) T.z_isinstance (by decide +kernel) (pa_cons (pv 0) (pa_cons (pe_bltn (v := .ty "str") (by rfl) T.z_str (by decide +kernel) rfl) pa_nil)))) (pe_kget T.k_KINDS (pe_gR T.g_KINDS) (pv 0) ⟨rfl, rfl, rfl, rfl⟩) pe_non)))), rd_kind_of vs H Q E h⟩
theorem cs_kind_of_1 (T : Txt K w mg) : CallOk P w K mg base CX0 1 "kind_of" 1 [] (sp_kind_of K) (fun vs zs => pick .non [0] (vs ++ zs)) := by
  obtain ⟨fd, F, G⟩ := ok_kind_of (P := P) (w := w) (base := base) T
  obtain ⟨g, kb⟩ := kb0 (ps := ["work"]) F 1 [] [0] fun kV doc pm an cdv ct us ws h1 h2 => match us, ws, h1, h2 with | [_], [], _, _ => rfl
  exact ⟨⟨fd, _, g, G, kb⟩, T.g_kind_of, F.kp⟩
theorem sc_Style_span : FnScope ["self", "row"] ["self"] (defScope (inClass (topS 20) 4)) := ⟨rfl, rfl, rfl, by decide +kernel, rfl, by decide +kernel, by decide +kernel⟩
theorem ok_Style_span (T : Txt K w mg) : ∃ fd, FnP K "span" "Style.span" (inClass (topS 20) 4) [] (He.ma K (He.ga K "Style") "span") fd ∧ FnG P w K mg base CX0 1 (He.ma K (He.ga K "Style") "span") fd ["self"] (sp_Style_span K) := by
  obtain ⟨fd, F⟩ := T.d_Style_span
  refine ⟨fd, F, fnG_of (sp := sp_Style_span K) F sc_Style_span (fun vs H Q E h => h.1) fun cdv A outer s H vs Q E hr hg h => ?_⟩
  have hu := hu_of hr
  have nd := sc_Style_span.nd
  exact ⟨t_Style_span K, PSs.nox ((pss_one (ps_ret (pe_callB (cr_sum rfl) (by rfl) T.z_sum (by decide +kernel) (pa_cons (pe_lc (own := [("row", 1)]) rfl nd (pi_any (pe_fld (pv 0) rfl)) (blkOk_by (by first | decide +kernel | kernel_rfl)) (fun _ _ _ _ _ => (pg_name (i := 1) nd rfl (Or.inl rfl))) (fun _ _ _ _ _ => pts_nil) (fun _ _ _ _ _ => (pe_op op_addA (pe_ix ix_seq (pv 1) pe_int (fun _ _ => rfl)) (pe_ix ix_seq (pv 1) pe_int (fun _ _ => rfl))))) pa_nil))))), rd_Style_span (styleC T) vs H Q E h⟩
theorem cs_Style_span_0 (T : Txt K w mg) : MethOk P w K mg base CX0 1 (He.ga K "Style") "span" 0 [] (sp_Style_span K) (fun vs zs => pick .non [0] (vs ++ zs)) := by
  obtain ⟨fd, F, G⟩ := ok_Style_span (P := P) (w := w) (base := base) T
  obtain ⟨g, kb⟩ := kb0 (ps := ["self"]) F 1 [] [0] fun kV doc pm an cdv ct us ws h1 h2 => match us, ws, h1, h2 with | [_], [], _, _ => rfl
  exact ⟨⟨_, fd, _, g, T.m_Style_span, G, kb⟩, T.cl_Style⟩
theorem sc_Style_eq : FnScope ["self", "other"] ["self", "other"] (defScope (inClass (topS 20) 8)) := ⟨rfl, rfl, rfl, by decide +kernel, rfl, by decide +kernel, by decide +kernel⟩
theorem ok_Style_eq (T : Txt K w mg) : ∃ fd, FnP K "__eq__" "Style.__eq__" (inClass (topS 20) 8) [] (He.ma K (He.ga K "Style") "__eq__") fd ∧ FnG P w K mg base CX0 1 (He.ma K (He.ga K "Style") "__eq__") fd ["self", "other"] (sp_Style_eq K) := by
  obtain ⟨fd, F⟩ := T.d_Style_eq
  refine ⟨fd, F, fnG_of (sp := sp_Style_eq K) F sc_Style_eq (fun vs H Q E h => h.1) fun cdv A outer s H vs Q E hr hg h => ?_⟩
  have hu := hu_of hr
  have nd := sc_Style_eq.nd
  exact ⟨t_Style_eq K, PSs.nox ((pss_one (ps_ret (pe_and (pe_callB call_isi (by rfl) T.z_isinstance (by decide +kernel) (pa_cons (pv 1) (pa_cons (pe_gR T.g_Style) pa_nil))) (pe_and (pe_cmpR (op_eqA hr) (pe_fld (pv 0) rfl) (pe_fld (pv 1) rfl) (nobehind _ (by decide) (by decide))) (pe_one (pe_cmpR (op_eqA hr) (pe_fld (pv 0) rfl) (pe_fld (pv 1) rfl) (nobehind _ (by decide) (by decide))))))))), rd_Style_eq (styleC T) T.od_Style vs H Q E h⟩
theorem cs_Style_eq_1 (T : Txt K w mg) : MethOk P w K mg base CX0 1 (He.ga K "Style") "__eq__" 1 [] (sp_Style_eq K) (fun vs zs => pick .non [0, 1] (vs ++ zs)) := by
  obtain ⟨fd, F, G⟩ := ok_Style_eq (P := P) (w := w) (base := base) T
  obtain ⟨g, kb⟩ := kb0 (ps := ["self", "other"]) F 2 [] [0, 1] fun kV doc pm an cdv ct us ws h1 h2 => match us, ws, h1, h2 with | [_, _], [], _, _ => rfl
  exact ⟨⟨_, fd, _, g, T.m_Style_eq, G, kb⟩, T.cl_Style⟩
theorem sc_Job_rank : FnScope ["self"] ["self"] (defScope (inClass (topS 21) 6)) := ⟨rfl, rfl, rfl, by decide +kernel, rfl, by decide +kernel, by decide +kernel⟩
theorem ok_Job_rank (T : Txt K w mg) : ∃ fd, FnP K "rank" "Job.rank" (inClass (topS 21) 6) [] (He.ma K (He.ga K "Job") "rank") fd ∧ FnG P w K mg base CX0 1 (He.ma K (He.ga K "Job") "rank") fd ["self"] (sp_Job_rank K) := by
  obtain ⟨fd, F⟩ := T.d_Job_rank
  refine ⟨fd, F, fnG_of (sp := sp_Job_rank K) F sc_Job_rank (fun vs H Q E h => h.1) fun cdv A outer s H vs Q E hr hg h => ?_⟩
  have hu := hu_of hr
  have nd := sc_Job_rank.nd
  exact ⟨t_Job_rank K, PSs.nox ((pss_one (ps_ret (pe_tup (pa_cons (pe_ifExp (pt_tr (pe_fld (pv 0) rfl)) pe_int pe_int) (pa_cons (pe_fld (pv 0) rfl) (pa_cons (pe_fld (pv 0) rfl) (pa_cons (pe_fld (pv 0) rfl) pa_nil)))))))), rd_Job_rank (jobC T) vs H Q E h⟩
theorem cs_Job_rank_0 (T : Txt K w mg) : MethOk P w K mg base CX0 1 (He.ga K "Job") "rank" 0 [] (sp_Job_rank K) (fun vs zs => pick .non [0] (vs ++ zs)) := by
  obtain ⟨fd, F, G⟩ := ok_Job_rank (P := P) (w := w) (base := base) T
  obtain ⟨g, kb⟩ := kb0 (ps := ["self"]) F 1 [] [0] fun kV doc pm an cdv ct us ws h1 h2 => match us, ws, h1, h2 with | [_], [], _, _ => rfl
  exact ⟨⟨_, fd, _, g, T.m_Job_rank, G, kb⟩, T.cl_Job⟩
theorem sc_Order_wants : FnScope ["self"] ["self"] (defScope (inClass (topS 33) 3)) := ⟨rfl, rfl, rfl, by decide +kernel, rfl, by decide +kernel, by decide +kernel⟩
theorem ok_Order_wants (T : Txt K w mg) : ∃ fd, FnP K "wants" "Order.wants" (inClass (topS 33) 3) [] (He.ma K (He.ga K "Order") "wants") fd ∧ FnG P w K mg base CX0 1 (He.ma K (He.ga K "Order") "wants") fd ["self"] (sp_Order_wants K) := by
  obtain ⟨fd, F⟩ := T.d_Order_wants
  refine ⟨fd, F, fnG_of (sp := sp_Order_wants K) F sc_Order_wants (fun vs H Q E h => h.1) fun cdv A outer s H vs Q E hr hg h => ?_⟩
  have hu := hu_of hr
  have nd := sc_Order_wants.nd
  exact ⟨t_Order_wants K, PSs.nox ((pss_one (ps_ret (pe_tup (pa_cons (pe_fld (pv 0) rfl) (pa_cons (pe_fld (pv 0) rfl) (pa_cons (pe_fld (pv 0) rfl) pa_nil))))))), rd_Order_wants (orderC T) vs H Q E h⟩
theorem cs_Order_wants_0 (T : Txt K w mg) : MethOk P w K mg base CX0 1 (He.ga K "Order") "wants" 0 [] (sp_Order_wants K) (fun vs zs => pick .non [0] (vs ++ zs)) := by
  obtain ⟨fd, F, G⟩ := ok_Order_wants (P := P) (w := w) (base := base) T
  obtain ⟨g, kb⟩ := kb0 (ps := ["self"]) F 1 [] [0] fun kV doc pm an cdv ct us ws h1 h2 => match us, ws, h1, h2 with | [_], [], _, _ => rfl
  exact ⟨⟨_, fd, _, g, T.m_Order_wants, G, kb⟩, T.cl_Order⟩
theorem sc_Hall_lost : FnScope ["self"] ["self"] (defScope (inClass (topS 34) 2)) := ⟨rfl, rfl, rfl, by decide +kernel, rfl, by decide +kernel, by decide +kernel⟩
theorem ok_Hall_lost (T : Txt K w mg) : ∃ fd, FnP K "lost" "Hall.lost" (inClass (topS 34) 2) [] (He.ma K (He.ga K "Hall") "lost") fd ∧ FnG P w K mg base CX0 1 (He.ma K (He.ga K "Hall") "lost") fd ["self"] (sp_Hall_lost K) := by
  obtain ⟨fd, F⟩ := T.d_Hall_lost
  refine ⟨fd, F, fnG_of (sp := sp_Hall_lost K) F sc_Hall_lost (fun vs H Q E h => h.1) fun cdv A outer s H vs Q E hr hg h => ?_⟩
  have hu := hu_of hr
  have nd := sc_Hall_lost.nd
  exact ⟨t_Hall_lost K, PSs.nox ((pss_one (ps_ret (pe_callTy cl_listOf (by rfl) T.z_list (by decide +kernel) (pa_cons (pe_fld (pv 0) rfl) pa_nil))))), rd_Hall_lost (hallC T) vs H Q E h⟩
theorem cs_Hall_lost_0 (T : Txt K w mg) : MethOk P w K mg base CX0 1 (He.ga K "Hall") "lost" 0 [] (sp_Hall_lost K) (fun vs zs => pick .non [0] (vs ++ zs)) := by
  obtain ⟨fd, F, G⟩ := ok_Hall_lost (P := P) (w := w) (base := base) T
  obtain ⟨g, kb⟩ := kb0 (ps := ["self"]) F 1 [] [0] fun kV doc pm an cdv ct us ws h1 h2 => match us, ws, h1, h2 with | [_], [], _, _ => rfl
  exact ⟨⟨_, fd, _, g, T.m_Hall_lost, G, kb⟩, T.cl_Hall⟩
theorem sc_Hall_eq : FnScope ["self", "other"] ["self", "other"] (defScope (inClass (topS 34) 12)) := ⟨rfl, rfl, rfl, by decide +kernel, rfl, by decide +kernel, by decide +kernel⟩
theorem ok_Hall_eq (T : Txt K w mg) : ∃ fd, FnP K "__eq__" "Hall.__eq__" (inClass (topS 34) 12) [] (He.ma K (He.ga K "Hall") "__eq__") fd ∧ FnG P w K mg base CX0 1 (He.ma K (He.ga K "Hall") "__eq__") fd ["self", "other"] (sp_Hall_eq K) := by
  obtain ⟨fd, F⟩ := T.d_Hall_eq
  refine ⟨fd, F, fnG_of (sp := sp_Hall_eq K) F sc_Hall_eq (fun vs H Q E h => h.1) fun cdv A outer s H vs Q E hr hg h => ?_⟩
  have hu := hu_of hr
  have nd := sc_Hall_eq.nd
  exact ⟨t_Hall_eq K, PSs.nox ((pss_cons (ps_if (pt_not (pt_tr (pe_callB call_isi (by rfl) T.z_isinstance (by decide +kernel) (pa_cons (pv 1) (pa_cons (pe_gR T.g_Hall) pa_nil))))) (pss_one (ps_ret pe_bl)) pss_nil)
    (pss_one (ps_ret (pe_and (pe_cmpR (op_eqA hr) (pe_fld (pv 0) rfl) (pe_fld (pv 1) rfl) (nobehind _ (by decide) (by decide))) (pe_one (pe_cmpR (op_eqA hr) (pe_fld (pv 0) rfl) (pe_fld (pv 1) rfl) (nobehind _ (by decide) (by decide))))))))), rd_Hall_eq (hallC T) T.od_Hall vs H Q E h⟩
theorem cs_Hall_eq_1 (T : Txt K w mg) : MethOk P w K mg base CX0 1 (He.ga K "Hall") "__eq__" 1 [] (sp_Hall_eq K) (fun vs zs => pick .non [0, 1] (vs ++ zs)) := by
  obtain ⟨fd, F, G⟩ := ok_Hall_eq (P := P) (w := w) (base := base) T
  obtain ⟨g, kb⟩ := kb0 (ps := ["self", "other"]) F 2 [] [0, 1] fun kV doc pm an cdv ct us ws h1 h2 => match us, ws, h1, h2 with | [_, _], [], _, _ => rfl
  exact ⟨⟨_, fd, _, g, T.m_Hall_eq, G, kb⟩, T.cl_Hall⟩
theorem sc_law_mixed : FnScope ["cell", "k", "turned"] ["cell", "k"] (defScope (topS 36)) := ⟨rfl, rfl, rfl, by decide +kernel, rfl, by decide +kernel, by decide +kernel⟩
theorem ok_law_mixed (T : Txt K w mg) : ∃ fd, FnP K "_law_mixed" "_law_mixed" (topS 36) [] (He.ga K "_law_mixed") fd ∧ FnG P w K mg base CX0 1 (He.ga K "_law_mixed") fd ["cell", "k"] (sp_law_mixed K) := by
  obtain ⟨fd, F⟩ := T.d_law_mixed
  refine ⟨fd, F, fnG_of (sp := sp_law_mixed K) F sc_law_mixed (fun vs H Q E h => h.1) fun cdv A outer s H vs Q E hr hg h => ?_⟩
  have hu := hu_of hr
  have nd := sc_law_mixed.nd
  exact ⟨t_law_mixed K, PSs.nox ((pss_cons (ps_set (i := 2) nd rfl (Or.inl rfl) (pe_op op_addA (pe_op op_addA (pe_op op_mod (pe_op op_mulA (pe_op op_mulA (pv 0) (pe_op op_addA pe_int (pe_op op_mulA pe_int (pv 1)))) pe_int) pe_int) (pe_op op_mulA (pe_op op_mulA pe_int (pv 1)) (pv 1))) (pe_op op_mulA pe_int (pv 1))))
    (pss_one (ps_ret (pe_op op_fdiv (pe_op op_mod (pe_op op_mulA (pv 2) pe_int) pe_int) pe_int))))), rd_law_mixed vs H Q E h⟩
theorem cs_law_mixed_2 (T : Txt K w mg) : CallOk P w K mg base CX0 1 "_law_mixed" 2 [] (sp_law_mixed K) (fun vs zs => pick .non [0, 1] (vs ++ zs)) := by
  obtain ⟨fd, F, G⟩ := ok_law_mixed (P := P) (w := w) (base := base) T
  obtain ⟨g, kb⟩ := kb0 (ps := ["cell", "k"]) F 2 [] [0, 1] fun kV doc pm an cdv ct us ws h1 h2 => match us, ws, h1, h2 with | [_, _], [], _, _ => rfl
  exact ⟨⟨fd, _, g, G, kb⟩, T.g_law_mixed, F.kp⟩
theorem sc_law_folded : FnScope ["script", "found", "k", "cell"] ["script"] (defScope (topS 37)) := ⟨rfl, rfl, rfl, by decide +kernel, rfl, by decide +kernel, by decide +kernel⟩
theorem ok_law_folded (T : Txt K w mg) : ∃ fd, FnP K "_law_folded" "_law_folded" (topS 37) [] (He.ga K "_law_folded") fd ∧ FnG P w K mg base CX0 1 (He.ga K "_law_folded") fd ["script"] (sp_law_folded K) := by
  obtain ⟨fd, F⟩ := T.d_law_folded
  refine ⟨fd, F, fnG_of (sp := sp_law_folded K) F sc_law_folded (fun vs H Q E h => h.1) fun cdv A outer s H vs Q E hr hg h => ?_⟩
  have hu := hu_of hr
  have nd := sc_law_folded.nd
  exact ⟨t_law_folded K, PSs.nox ((pss_cons (ps_setLc (i := 1) (own := [("k", 2)]) rfl nd rfl rfl (sw_true rfl rfl rfl (by decide +kernel)) (pi_range1 (by rfl) T.z_range (pa_cons pe_int pa_nil)) (blkOk_by (by first | decide +kernel | kernel_rfl)) (fun _ _ _ _ _ => (pg_name (i := 2) nd rfl (Or.inl rfl))) (fun _ _ _ _ _ => pts_nil) (fun _ _ _ _ _ => (pe_op op_addA pe_int (pv 2))))
    (pss_cons (ps_for PassesOwn.never rfl (pi_enumA (by rfl) T.z_enumerate (pa_cons (pv 0) pa_nil)) (pg_tup rfl (pgs_cons (pg_name (i := 2) nd rfl (Or.inl rfl)) (pgs_cons (pg_name (i := 3) nd rfl (Or.inl rfl)) pgs_nil)))
    (pss_one (ps_asg (pe_op op_mod (pe_op op_addA (pe_op op_mulA (pe_ix ix_seq (pv 1) (pe_op op_mod (pv 2) pe_int) (fun _ _ => rfl)) pe_int) (pv 3)) pe_int) (pg_sub (pv 1) (pe_op op_mod (pv 2) pe_int) set_list))))
    (pss_cons (ps_for PassesOwn.never rfl (pi_range2 (by rfl) T.z_range (pa_cons pe_int (pa_cons pe_int pa_nil))) (pg_name (i := 2) nd rfl (Or.inl rfl))
    (pss_one (ps_asg (pe_op op_mod (pe_op op_addA (pe_ix ix_seq (pv 1) (pv 2) (fun _ _ => rfl)) (pe_op op_mulA (pe_ix ix_seq (pv 1) (pe_op op_sub (pv 2) pe_int) (fun _ _ => rfl)) pe_int)) pe_int) (pg_sub (pv 1) (pv 2) set_list))))
    (pss_one (ps_ret (pv 1))))))), rd_law_folded vs H Q E h⟩
theorem cs_law_folded_1 (T : Txt K w mg) : CallOk P w K mg base CX0 1 "_law_folded" 1 [] (sp_law_folded K) (fun vs zs => pick .non [0] (vs ++ zs)) := by
  obtain ⟨fd, F, G⟩ := ok_law_folded (P := P) (w := w) (base := base) T
  obtain ⟨g, kb⟩ := kb0 (ps := ["script"]) F 1 [] [0] fun kV doc pm an cdv ct us ws h1 h2 => match us, ws, h1, h2 with | [_], [], _, _ => rfl
  exact ⟨⟨fd, _, g, G, kb⟩, T.g_law_folded, F.kp⟩
theorem sc_law_fits : FnScope ["pair", "plain", "found", "night", "k", "wide"] ["pair", "plain"] (defScope (topS 45)) := ⟨rfl, rfl, rfl, by decide +kernel, rfl, by decide +kernel, by decide +kernel⟩
theorem ok_law_fits (T : Txt K w mg) : ∃ fd, FnP K "_law_fits" "_law_fits" (topS 45) [] (He.ga K "_law_fits") fd ∧ FnG P w K mg base CX0 1 (He.ga K "_law_fits") fd ["pair", "plain"] (sp_law_fits K) := by
  obtain ⟨fd, F⟩ := T.d_law_fits
  refine ⟨fd, F, fnG_of (sp := sp_law_fits K) F sc_law_fits (fun vs H Q E h => h.1) fun cdv A outer s H vs Q E hr hg h => ?_⟩
  have hu := hu_of hr
  have nd := sc_law_fits.nd
  exact ⟨t_law_fits K, PSs.nox ((pss_cons (ps_set (i := 2) nd rfl (Or.inl rfl) (pe_lst pa_nil))
    (pss_cons (ps_for PassesOwn.never rfl (pi_range2 (by rfl) T.z_range (pa_cons (pe_ix ix_seq (pv 1) pe_int (fun _ _ => rfl)) (pa_cons (pe_op op_addA (pe_ix ix_seq (pv 1) pe_int (fun _ _ => rfl)) pe_int) pa_nil))) (pg_name (i := 3) nd rfl (Or.inl rfl))
    (pss_one (ps_for PassesOwn.never rfl (pi_enumA (by rfl) T.z_enumerate (pa_cons (pe_ix ix_seq (pv 0) pe_int (fun _ _ => rfl)) pa_nil)) (pg_tup rfl (pgs_cons (pg_name (i := 4) nd rfl (Or.inl rfl)) (pgs_cons (pg_name (i := 5) nd rfl (Or.inl rfl)) pgs_nil)))
    (pss_one (ps_if (PW.pt (pw_and (pt_cmpR op_ge (pv 5) (pe_ix ix_seq (pv 1) pe_int (fun _ _ => rfl)) (nobehind _ (by decide) (by decide))) (pw_and1 (pt_cmp (pc_dnotin hu (pe_tup (pa_cons (pv 3) (pa_cons (pe_op op_addA (pv 4) pe_int) pa_nil))) (pe_ix ix_seq (pv 0) pe_int (fun _ _ => rfl))))))) (pss_one (ps_expr (pe_bm PySem.F.plainAttrs_list PySem.F.slot_list_append PySem.F.type_list_append mt_append (pv 2) (pa_cons (pe_tup (pa_cons (pv 3) (pa_cons (pe_op op_addA (pv 4) pe_int) pa_nil))) pa_nil)))) pss_nil)))))
    (pss_one (ps_ret (pv 2)))))), rd_law_fits vs H Q E h⟩
theorem cs_law_fits_2 (T : Txt K w mg) : CallOk P w K mg base CX0 1 "_law_fits" 2 [] (sp_law_fits K) (fun vs zs => pick .non [0, 1] (vs ++ zs)) := by
  obtain ⟨fd, F, G⟩ := ok_law_fits (P := P) (w := w) (base := base) T
  obtain ⟨g, kb⟩ := kb0 (ps := ["pair", "plain"]) F 2 [] [0, 1] fun kV doc pm an cdv ct us ws h1 h2 => match us, ws, h1, h2 with | [_, _], [], _, _ => rfl
  exact ⟨⟨fd, _, g, G, kb⟩, T.g_law_fits, F.kp⟩
theorem sc_is_step : FnScope ["thing"] ["thing"] (defScope (topS 16)) := ⟨rfl, rfl, rfl, by decide +kernel, rfl, by decide +kernel, by decide +kernel⟩
theorem ok_is_step (T : Txt K w mg) : ∃ fd, FnP K "is_step" "is_step" (topS 16) [] (He.ga K "is_step") fd ∧ FnG P w K mg base CX0 2 (He.ga K "is_step") fd ["thing"] (sp_is_step K) := by
  obtain ⟨fd, F⟩ := T.d_is_step
  refine ⟨fd, F, fnG_of (sp := sp_is_step K) F sc_is_step (fun vs H Q E h => h.1) fun cdv A outer s H vs Q E hr hg h => ?_⟩
  have hu := hu_of hr
  have nd := sc_is_step.nd
  exact ⟨t_is_step K, PSs.nox ((pss_cons (ps_if (PW.pt (pw_or (pt_not (pt_tr (pe_callB call_isi (by rfl) T.z_isinstance (by decide +kernel) (pa_cons (pv 0) (pa_cons (pe_bltn (v := .ty "tuple") (by rfl) T.z_tuple (by decide +kernel) rfl) pa_nil))))) (pw_or (pt_cmpR (op_neA hr) (pe_callB cl_len (by rfl) T.z_len PySem.boot_len (pa_cons (pv 0) pa_nil)) pe_int (nobehind _ (by decide) (by decide))) (pw_or1 (pt_cmpR op_isNo (pe_ca (cs_kind_of_1 T) hr (by decide) hg rfl pass0 (pa_cons (pe_ix ix_seq (pv 0) pe_int (fun _ _ => rfl)) pa_nil) pk_nil) pe_non (nobehind _ (by decide) (by decide))))))) (pss_one (ps_ret pe_bl)) pss_nil)
    (pss_one (ps_ret (pe_and (pe_ca (cs_is_whole_2_most T) hr (by decide) hg rfl pass0 (pa_cons (pe_ix ix_seq (pv 0) pe_int (fun _ _ => rfl)) (pa_cons pe_int pa_nil)) (pk_cons (pe_gI T.c_MOST_HOURS) pk_nil)) (pe_one (pe_ca (cs_is_whole_2_most T) hr (by decide) hg rfl pass0 (pa_cons (pe_ix ix_seq (pv 0) pe_int (fun _ _ => rfl)) (pa_cons pe_int pa_nil)) (pk_cons (pe_gI T.c_MOST_HOURS) pk_nil)))))))), rd_is_step vs H Q E h⟩
theorem cs_is_step_1 (T : Txt K w mg) : CallOk P w K mg base CX0 2 "is_step" 1 [] (sp_is_step K) (fun vs zs => pick .non [0] (vs ++ zs)) := by
  obtain ⟨fd, F, G⟩ := ok_is_step (P := P) (w := w) (base := base) T
  obtain ⟨g, kb⟩ := kb0 (ps := ["thing"]) F 1 [] [0] fun kV doc pm an cdv ct us ws h1 h2 => match us, ws, h1, h2 with | [_], [], _, _ => rfl
  exact ⟨⟨fd, _, g, G, kb⟩, T.g_is_step, F.kp⟩
theorem sc_Job_init : FnScope ["self", "number", "style", "brought", "due", "haste", "wanted"] ["self", "number", "style", "brought", "due", "haste"] (defScope (inClass (topS 21) 0)) := ⟨rfl, rfl, rfl, by decide +kernel, rfl, by decide +kernel, by decide +kernel⟩
theorem ok_Job_init (T : Txt K w mg) : ∃ fd, FnP K "__init__" "Job.__init__" (inClass (topS 21) 0) [.int 0, .non, .bl false] (He.ma K (He.ga K "Job") "__init__") fd ∧ FnG P w K mg base CX0 2 (He.ma K (He.ga K "Job") "__init__") fd ["self", "number", "style", "brought", "due", "haste"] (sp_Job_init K) := by
  obtain ⟨fd, F⟩ := T.d_Job_init
  refine ⟨fd, F, fnG_of (sp := sp_Job_init K) F sc_Job_init (fun vs H Q E h => h.1) fun cdv A outer s H vs Q E hr hg h => ?_⟩
  have hu := hu_of hr
  have nd := sc_Job_init.nd
  exact ⟨t_Job_init K, PSs.nox ((pss_cons (ps_if (pt_not (pt_tr (pe_ca (cs_is_whole_2_most T) hr (by decide) hg rfl pass0 (pa_cons (pv 1) (pa_cons pe_int pa_nil)) (pk_cons (pe_gI T.c_MOST_NUMBER) pk_nil)))) (pss_one ps_no) pss_nil)
    (pss_cons (ps_if (pt_not (pt_tr (pe_callB call_isi (by rfl) T.z_isinstance (by decide +kernel) (pa_cons (pv 2) (pa_cons (pe_gR T.g_Style) pa_nil))))) (pss_one ps_no) pss_nil)
    (pss_cons (ps_if (pt_not (pt_tr (pe_ca (cs_is_whole_2_most T) hr (by decide) hg rfl pass0 (pa_cons (pv 3) (pa_cons pe_int pa_nil)) (pk_cons (pe_gI T.c_MOST_HOUR) pk_nil)))) (pss_one ps_no) pss_nil)
    (pss_cons (ps_set (i := 6) nd rfl (Or.inl rfl) (pe_ifExp (pt_cmpR op_isNo (pv 4) pe_non (nobehind _ (by decide) (by decide))) (pe_op op_addA (pv 3) (pe_me0 (cs_Style_span_0 T) hr (by decide) hg pass0 (pv 2) pk_nil)) (pv 4)))
    (pss_cons (ps_if (pt_not (pt_tr (pe_ca (cs_is_whole_2_most T) hr (by decide) hg rfl pass0 (pa_cons (pv 6) (pa_cons (pv 3) pa_nil)) (pk_cons (pe_gI T.c_MOST_HOUR) pk_nil)))) (pss_one ps_no) pss_nil)
    (pss_cons (ps_if (pt_not (pt_tr (pe_callB call_isi (by rfl) T.z_isinstance (by decide +kernel) (pa_cons (pv 5) (pa_cons (pe_bltn (v := .ty "bool") (by rfl) T.z_bool (by decide +kernel) rfl) pa_nil))))) (pss_one ps_no) pss_nil)
    (pss_cons (ps_fld (pv 0) (pv 1) rfl)
    (pss_cons (ps_fld (pv 0) (pv 2) rfl)
    (pss_cons (ps_fld (pv 0) (pv 3) rfl)
    (pss_cons (ps_fld (pv 0) (pv 6) rfl)
    (pss_one (ps_fld (pv 0) (pv 5) rfl))))))))))))), rd_Job_init (jobC T) (styleC T) T.od_Style vs H Q E h⟩
theorem cs_Job_init_2_brought_due_haste (T : Txt K w mg) : MakeOk P w K mg base CX0 2 "Job" 2 ["brought", "due", "haste"] (sp_Job_init K) (fun vs zs => pick .non [0, 1, 2, 3, 4, 5] (vs ++ (zs ++ [.int 0, .non, .bl false]))) := by
  obtain ⟨fd, F, G⟩ := ok_Job_init (P := P) (w := w) (base := base) T
  obtain ⟨g, kb⟩ := kb1 (ps := ["self", "number", "style", "brought", "due", "haste"]) F (by simp) 3 ["brought", "due", "haste"] [0, 1, 2, 3, 4, 5] fun T kV doc pm an cdv ct us ws its h1 h2 h3 => match us, ws, its, h1, h2, h3 with | [_, _, _], [_, _, _], [_, _, _], _, _, _ => ⟨_, rfl, rfl⟩
  exact ⟨⟨_, fd, _, g, T.mk_Job, G, kb⟩, T.g_Job⟩
theorem sc_Job_eq : FnScope ["self", "other"] ["self", "other"] (defScope (inClass (topS 21) 9)) := ⟨rfl, rfl, rfl, by decide +kernel, rfl, by decide +kernel, by decide +kernel⟩
theorem ok_Job_eq (T : Txt K w mg) : ∃ fd, FnP K "__eq__" "Job.__eq__" (inClass (topS 21) 9) [] (He.ma K (He.ga K "Job") "__eq__") fd ∧ FnG P w K mg base CX0 2 (He.ma K (He.ga K "Job") "__eq__") fd ["self", "other"] (sp_Job_eq K) := by
  obtain ⟨fd, F⟩ := T.d_Job_eq
  refine ⟨fd, F, fnG_of (sp := sp_Job_eq K) F sc_Job_eq (fun vs H Q E h => h.1) fun cdv A outer s H vs Q E hr hg h => ?_⟩
  have hu := hu_of hr
  have nd := sc_Job_eq.nd
  exact ⟨t_Job_eq K, PSs.nox ((pss_one (ps_ret (pe_and (pe_callB call_isi (by rfl) T.z_isinstance (by decide +kernel) (pa_cons (pv 1) (pa_cons (pe_gR T.g_Job) pa_nil))) (pe_and (pe_cmpR (op_eqA hr) (pe_me0 (cs_Job_rank_0 T) hr (by decide) hg pass0 (pv 0) pk_nil) (pe_me0 (cs_Job_rank_0 T) hr (by decide) hg pass0 (pv 1) pk_nil) (nobehind _ (by decide) (by decide))) (pe_one (pe_cmpR (op_ownEq (cs_Style_eq_1 T) hr (by decide) hg pass0) (pe_fld (pv 0) rfl) (pe_fld (pv 1) rfl) (nobehind _ (by decide) (by decide))))))))), rd_Job_eq (jobC T) (styleC T) T.od_Job T.od_Style vs H Q E h⟩
theorem cs_Job_eq_1 (T : Txt K w mg) : MethOk P w K mg base CX0 2 (He.ga K "Job") "__eq__" 1 [] (sp_Job_eq K) (fun vs zs => pick .non [0, 1] (vs ++ zs)) := by
  obtain ⟨fd, F, G⟩ := ok_Job_eq (P := P) (w := w) (base := base) T
  obtain ⟨g, kb⟩ := kb0 (ps := ["self", "other"]) F 2 [] [0, 1] fun kV doc pm an cdv ct us ws h1 h2 => match us, ws, h1, h2 with | [_, _], [], _, _ => rfl
  exact ⟨⟨_, fd, _, g, T.m_Job_eq, G, kb⟩, T.cl_Job⟩
theorem sc_is_night : FnScope ["thing"] ["thing"] (defScope (topS 29)) := ⟨rfl, rfl, rfl, by decide +kernel, rfl, by decide +kernel, by decide +kernel⟩
theorem ok_is_night (T : Txt K w mg) : ∃ fd, FnP K "is_night" "is_night" (topS 29) [] (He.ga K "is_night") fd ∧ FnG P w K mg base CX0 2 (He.ga K "is_night") fd ["thing"] (sp_is_night K) := by
  obtain ⟨fd, F⟩ := T.d_is_night
  refine ⟨fd, F, fnG_of (sp := sp_is_night K) F sc_is_night (fun vs H Q E h => h.1) fun cdv A outer s H vs Q E hr hg h => ?_⟩
  have hu := hu_of hr
  have nd := sc_is_night.nd
  exact ⟨t_is_night K, PSs.nox ((pss_one (ps_ret (pe_ca (cs_is_whole_2_most T) hr (by decide) hg rfl pass0 (pa_cons (pv 0) (pa_cons pe_int pa_nil)) (pk_cons (pe_gI T.c_MOST_NIGHT) pk_nil))))), rd_is_night vs H Q E h⟩
theorem cs_is_night_1 (T : Txt K w mg) : CallOk P w K mg base CX0 2 "is_night" 1 [] (sp_is_night K) (fun vs zs => pick .non [0] (vs ++ zs)) := by
  obtain ⟨fd, F, G⟩ := ok_is_night (P := P) (w := w) (base := base) T
  obtain ⟨g, kb⟩ := kb0 (ps := ["thing"]) F 1 [] [0] fun kV doc pm an cdv ct us ws h1 h2 => match us, ws, h1, h2 with | [_], [], _, _ => rfl
  exact ⟨⟨fd, _, g, G, kb⟩, T.g_is_night, F.kp⟩
theorem sc_are_sizes : FnScope ["thing", "size"] ["thing"] (defScope (topS 31)) := ⟨rfl, rfl, rfl, by decide +kernel, rfl, by decide +kernel, by decide +kernel⟩
theorem ok_are_sizes (T : Txt K w mg) : ∃ fd, FnP K "are_sizes" "are_sizes" (topS 31) [] (He.ga K "are_sizes") fd ∧ FnG P w K mg base CX0 2 (He.ga K "are_sizes") fd ["thing"] (sp_are_sizes K) := by
  obtain ⟨fd, F⟩ := T.d_are_sizes
  refine ⟨fd, F, fnG_of (sp := sp_are_sizes K) F sc_are_sizes (fun vs H Q E h => h.1) fun cdv A outer s H vs Q E hr hg h => ?_⟩
  have hu := hu_of hr
  have nd := sc_are_sizes.nd
  exact ⟨t_are_sizes K, PSs.nox ((pss_cons (ps_if (PW.pt (pw_or (pt_not (pt_tr (pe_callB call_isiT (by rfl) T.z_isinstance (by decide +kernel) (pa_cons (pv 0) (pa_cons (pe_tup (pa_cons (pe_bltn (v := .ty "list") (by rfl) T.z_list (by decide +kernel) rfl) (pa_cons (pe_bltn (v := .ty "tuple") (by rfl) T.z_tuple (by decide +kernel) rfl) pa_nil))) pa_nil))))) (pw_or1 (pt_not (pt_chain op_le op_le pe_int (pe_callB cl_len (by rfl) T.z_len PySem.boot_len (pa_cons (pv 0) pa_nil)) (pe_gI T.c_MOST_FRAMES)))))) (pss_one (ps_ret pe_bl)) pss_nil)
    (pss_one (ps_ret (pe_callB (cr_all rfl) (by rfl) T.z_all (by decide +kernel) (pa_cons (pe_lc (own := [("size", 1)]) rfl nd (pi_any (pv 0)) (blkOk_by (by first | decide +kernel | kernel_rfl)) (fun _ _ _ _ _ => (pg_name (i := 1) nd rfl (Or.inl rfl))) (fun _ _ _ _ _ => pts_nil) (fun _ _ _ _ _ => (pe_ca (cs_is_whole_2_most T) hr (by decide) hg rfl pass0 (pa_cons (pv 1) (pa_cons pe_int pa_nil)) (pk_cons (pe_gI T.c_MOST_SIZE) pk_nil)))) pa_nil)))))), rd_are_sizes vs H Q E h⟩
theorem cs_are_sizes_1 (T : Txt K w mg) : CallOk P w K mg base CX0 2 "are_sizes" 1 [] (sp_are_sizes K) (fun vs zs => pick .non [0] (vs ++ zs)) := by
  obtain ⟨fd, F, G⟩ := ok_are_sizes (P := P) (w := w) (base := base) T
  obtain ⟨g, kb⟩ := kb0 (ps := ["thing"]) F 1 [] [0] fun kV doc pm an cdv ct us ws h1 h2 => match us, ws, h1, h2 with | [_], [], _, _ => rfl
  exact ⟨⟨fd, _, g, G, kb⟩, T.g_are_sizes, F.kp⟩
theorem sc_Hall_fitting : FnScope ["self", "order", "size", "first", "last", "frames", "found", "night", "k", "great", "frame"] ["self", "order"] (defScope (inClass (topS 34) 7)) := ⟨rfl, rfl, rfl, by decide +kernel, rfl, by decide +kernel, by decide +kernel⟩
theorem ok_Hall_fitting (T : Txt K w mg) : ∃ fd, FnP K "fitting" "Hall.fitting" (inClass (topS 34) 7) [] (He.ma K (He.ga K "Hall") "fitting") fd ∧ FnG P w K mg base CX0 2 (He.ma K (He.ga K "Hall") "fitting") fd ["self", "order"] (sp_Hall_fitting K) := by
  obtain ⟨fd, F⟩ := T.d_Hall_fitting
  refine ⟨fd, F, fnG_of (sp := sp_Hall_fitting K) F sc_Hall_fitting (fun vs H Q E h => h.1) fun cdv A outer s H vs Q E hr hg h => ?_⟩
  have hu := hu_of hr
  have nd := sc_Hall_fitting.nd
  exact ⟨t_Hall_fitting K, PSs.nox ((pss_cons (ps_asg (pe_me0 (cs_Order_wants_0 T) hr (by decide) hg pass0 (pv 1) pk_nil) (pg_tup rfl (pgs_cons (pg_name (i := 2) nd rfl (Or.inr rfl)) (pgs_cons (pg_name (i := 3) nd rfl (Or.inl rfl)) (pgs_cons (pg_name (i := 4) nd rfl (Or.inl rfl)) pgs_nil)))))
    (pss_cons (ps_setLc (i := 5) (own := [("k", 8), ("great", 9)]) rfl nd rfl rfl (sw_true rfl rfl rfl (by decide +kernel)) (pi_enumA (by rfl) T.z_enumerate (pa_cons (pe_fld (pv 0) rfl) pa_nil)) (blkOk_by (by first | decide +kernel | kernel_rfl)) (fun _ _ _ _ _ => (pg_tup rfl (pgs_cons (pg_name (i := 8) nd rfl (Or.inl rfl)) (pgs_cons (pg_name (i := 9) nd rfl (Or.inl rfl)) pgs_nil)))) (fun _ _ _ _ _ => (pts_one (pt_cmpR op_ge (pv 9) (pv 2) (nobehind _ (by decide) (by decide))))) (fun _ _ _ _ _ => (pe_op op_addA (pv 8) pe_int)))
    (pss_cons (ps_set (i := 6) nd rfl (Or.inl rfl) (pe_lst pa_nil))
    (pss_cons (ps_for PassesOwn.never rfl (pi_range2 (by rfl) T.z_range (pa_cons (pv 3) (pa_cons (pe_op op_addA (pv 4) pe_int) pa_nil))) (pg_name (i := 7) nd rfl (Or.inr rfl))
    (pss_one (ps_expr (pe_bm PySem.F.plainAttrs_list PySem.F.slot_list_extend PySem.F.type_list_extend mt_extend (pv 6) (pa_cons (pe_lc (own := [("frame", 10)]) rfl nd (pi_any (pv 5)) (blkOk_by (by first | decide +kernel | kernel_rfl)) (fun _ _ _ _ _ => (pg_name (i := 10) nd rfl (Or.inl rfl))) (fun _ _ _ _ _ => (pts_one (pt_cmp (pc_dnotin hu (pe_tup (pa_cons (pv 7) (pa_cons (pv 10) pa_nil))) (pe_fld (pv 0) rfl))))) (fun _ _ _ _ _ => (pe_tup (pa_cons (pv 7) (pa_cons (pv 10) pa_nil))))) pa_nil)))))
    (pss_one (ps_ret (pv 6)))))))), rd_Hall_fitting (hallC T) (orderC T) vs H Q E h⟩
theorem cs_Hall_fitting_1 (T : Txt K w mg) : MethOk P w K mg base CX0 2 (He.ga K "Hall") "fitting" 1 [] (sp_Hall_fitting K) (fun vs zs => pick .non [0, 1] (vs ++ zs)) := by
  obtain ⟨fd, F, G⟩ := ok_Hall_fitting (P := P) (w := w) (base := base) T
  obtain ⟨g, kb⟩ := kb0 (ps := ["self", "order"]) F 2 [] [0, 1] fun kV doc pm an cdv ct us ws h1 h2 => match us, ws, h1, h2 with | [_, _], [], _, _ => rfl
  exact ⟨⟨_, fd, _, g, T.m_Hall_fitting, G, kb⟩, T.cl_Hall⟩
theorem sc_law_draw : FnScope ["m", "many", "k", "spot", "cell"] ["m", "many"] (defScope (topS 38)) := ⟨rfl, rfl, rfl, by decide +kernel, rfl, by decide +kernel, by decide +kernel⟩
theorem ok_law_draw (T : Txt K w mg) : ∃ fd, FnP K "_law_draw" "_law_draw" (topS 38) [] (He.ga K "_law_draw") fd ∧ FnG P w K mg base CX0 2 (He.ga K "_law_draw") fd ["m", "many"] (sp_law_draw K) := by
  obtain ⟨fd, F⟩ := T.d_law_draw
  refine ⟨fd, F, fnG_of (sp := sp_law_draw K) F sc_law_draw (fun vs H Q E h => h.1) fun cdv A outer s H vs Q E hr hg h => ?_⟩
  have hu := hu_of hr
  have nd := sc_law_draw.nd
  exact ⟨t_law_draw K, PSs.nox ((pss_cons (ps_set (i := 2) nd rfl (Or.inl rfl) (pe_dget hu (pv 0) pe_str (fun _ _ => rfl)))
    (pss_cons (ps_dput hu (pv 0) pe_str (pe_op op_addA (pv 2) pe_int) rfl)
    (pss_cons (ps_if (pt_cmpR (op_neA hr) (pe_dget hu (pv 0) pe_str (fun _ _ => rfl)) (pe_lst pa_nil) (nobehind _ (by decide) (by decide))) (pss_cons (ps_set (i := 3) nd rfl (Or.inl rfl) (pe_op op_mod (pv 2) (pe_callB cl_len (by rfl) T.z_len PySem.boot_len (pa_cons (pe_dget hu (pv 0) pe_str (fun _ _ => rfl)) pa_nil))))
    (pss_cons (ps_set (i := 4) nd rfl (Or.inl rfl) (pe_ix ix_seq (pe_dget hu (pv 0) pe_str (fun _ _ => rfl)) (pv 3) (fun _ _ => rfl)))
    (pss_one (ps_if (pt_cmpR op_gt (pv 4) pe_int (nobehind _ (by decide) (by decide))) (pss_cons (ps_asg (pe_op op_fdiv (pv 4) (pv 1)) (pg_sub (pe_dget hu (pv 0) pe_str (fun _ _ => rfl)) (pv 3) set_list))
    (pss_one (ps_ret (pe_op op_mod (pv 4) (pv 1))))) pss_nil)))) pss_nil)
    (pss_one (ps_ret (pe_op op_mod (pe_ca (cs_law_mixed_2 T) hr (by decide) hg rfl pass0 (pa_cons (pe_ca (cs_law_mixed_2 T) hr (by decide) hg rfl pass0 (pa_cons (pe_op op_addA (pe_ix ix_seq (pe_dget hu (pv 0) pe_str (fun _ _ => rfl)) (pe_op op_mod (pv 2) pe_int) (fun _ _ => rfl)) (pe_op op_mulA pe_int (pe_op op_fdiv (pv 2) pe_int))) (pa_cons (pv 2) pa_nil)) pk_nil) (pa_cons (pe_op op_addA (pv 2) pe_int) pa_nil)) pk_nil) (pv 1)))))))), rd_law_draw vs H Q E h⟩
theorem cs_law_draw_2 (T : Txt K w mg) : CallOk P w K mg base CX0 2 "_law_draw" 2 [] (sp_law_draw K) (fun vs zs => pick .non [0, 1] (vs ++ zs)) := by
  obtain ⟨fd, F, G⟩ := ok_law_draw (P := P) (w := w) (base := base) T
  obtain ⟨g, kb⟩ := kb0 (ps := ["m", "many"]) F 2 [] [0, 1] fun kV doc pm an cdv ct us ws h1 h2 => match us, ws, h1, h2 with | [_, _], [], _, _ => rfl
  exact ⟨⟨fd, _, g, G, kb⟩, T.g_law_draw, F.kp⟩
theorem sc_law_begun : FnScope ["script", "m", "cell"] ["script"] (defScope (topS 39)) := ⟨rfl, rfl, rfl, by decide +kernel, rfl, by decide +kernel, by decide +kernel⟩
theorem ok_law_begun (T : Txt K w mg) : ∃ fd, FnP K "_law_begun" "_law_begun" (topS 39) [] (He.ga K "_law_begun") fd ∧ FnG P w K mg base CX0 2 (He.ga K "_law_begun") fd ["script"] (sp_law_begun K) := by
  obtain ⟨fd, F⟩ := T.d_law_begun
  refine ⟨fd, F, fnG_of (sp := sp_law_begun K) F sc_law_begun (fun vs H Q E h => h.1) fun cdv A outer s H vs Q E hr hg h => ?_⟩
  have hu := hu_of hr
  have nd := sc_law_begun.nd
  exact ⟨t_law_begun K, PSs.nox ((pss_cons (ps_set (i := 1) nd rfl (Or.inl rfl) (pe_disp (pps_cons pe_str (pe_ca (cs_law_folded_1 T) hr (by decide) hg rfl pass0 (pa_cons (pv 0) pa_nil) pk_nil) (pps_cons pe_str (pe_lst pa_nil) (pps_cons pe_str pe_int pps_nil))) (by rfl) (by rfl) (fun z => by cases z) (by decide)))
    (pss_cons (ps_dput hu (pv 1) pe_str (pe_lc (own := [("cell", 2)]) rfl nd (pi_any (pv 0)) (blkOk_by (by first | decide +kernel | kernel_rfl)) (fun _ _ _ _ _ => (pg_name (i := 2) nd rfl (Or.inl rfl))) (fun _ _ _ _ _ => pts_nil) (fun _ _ _ _ _ => (pe_ifExp (pt_cmpR op_ge (pv 2) (pe_op op_pow pe_int pe_int) (nobehind _ (by decide) (by decide))) (pv 2) pe_int))) rfl)
    (pss_one (ps_ret (pv 1)))))), rd_law_begun vs H Q E h⟩
theorem cs_law_begun_1 (T : Txt K w mg) : CallOk P w K mg base CX0 2 "_law_begun" 1 [] (sp_law_begun K) (fun vs zs => pick .non [0] (vs ++ zs)) := by
  obtain ⟨fd, F, G⟩ := ok_law_begun (P := P) (w := w) (base := base) T
  obtain ⟨g, kb⟩ := kb0 (ps := ["script"]) F 1 [] [0] fun kV doc pm an cdv ct us ws h1 h2 => match us, ws, h1, h2 with | [_], [], _, _ => rfl
  exact ⟨⟨fd, _, g, G, kb⟩, T.g_law_begun, F.kp⟩
theorem sc_are_steps : FnScope ["thing", "step"] ["thing"] (defScope (topS 19)) := ⟨rfl, rfl, rfl, by decide +kernel, rfl, by decide +kernel, by decide +kernel⟩
theorem ok_are_steps (T : Txt K w mg) : ∃ fd, FnP K "are_steps" "are_steps" (topS 19) [] (He.ga K "are_steps") fd ∧ FnG P w K mg base CX0 3 (He.ga K "are_steps") fd ["thing"] (sp_are_steps K) := by
  obtain ⟨fd, F⟩ := T.d_are_steps
  refine ⟨fd, F, fnG_of (sp := sp_are_steps K) F sc_are_steps (fun vs H Q E h => h.1) fun cdv A outer s H vs Q E hr hg h => ?_⟩
  have hu := hu_of hr
  have nd := sc_are_steps.nd
  exact ⟨t_are_steps K, PSs.nox ((pss_cons (ps_if (PW.pt (pw_or (pt_not (pt_tr (pe_callB call_isiT (by rfl) T.z_isinstance (by decide +kernel) (pa_cons (pv 0) (pa_cons (pe_tup (pa_cons (pe_bltn (v := .ty "list") (by rfl) T.z_list (by decide +kernel) rfl) (pa_cons (pe_bltn (v := .ty "tuple") (by rfl) T.z_tuple (by decide +kernel) rfl) pa_nil))) pa_nil))))) (pw_or1 (pt_not (pt_chain op_le op_le pe_int (pe_callB cl_len (by rfl) T.z_len PySem.boot_len (pa_cons (pv 0) pa_nil)) (pe_gI T.c_MOST_STEPS)))))) (pss_one (ps_ret pe_bl)) pss_nil)
    (pss_one (ps_ret (pe_callB (cr_all rfl) (by rfl) T.z_all (by decide +kernel) (pa_cons (pe_lc (own := [("step", 1)]) rfl nd (pi_any (pv 0)) (blkOk_by (by first | decide +kernel | kernel_rfl)) (fun _ _ _ _ _ => (pg_name (i := 1) nd rfl (Or.inl rfl))) (fun _ _ _ _ _ => pts_nil) (fun _ _ _ _ _ => (pe_ca (cs_is_step_1 T) hr (by decide) hg rfl pass0 (pa_cons (pv 1) pa_nil) pk_nil))) pa_nil)))))), rd_are_steps vs H Q E h⟩
theorem cs_are_steps_1 (T : Txt K w mg) : CallOk P w K mg base CX0 3 "are_steps" 1 [] (sp_are_steps K) (fun vs zs => pick .non [0] (vs ++ zs)) := by
  obtain ⟨fd, F, G⟩ := ok_are_steps (P := P) (w := w) (base := base) T
  obtain ⟨g, kb⟩ := kb0 (ps := ["thing"]) F 1 [] [0] fun kV doc pm an cdv ct us ws h1 h2 => match us, ws, h1, h2 with | [_], [], _, _ => rfl
  exact ⟨⟨fd, _, g, G, kb⟩, T.g_are_steps, F.kp⟩
theorem sc_is_slot_of : FnScope ["thing", "frames"] ["thing", "frames"] (defScope (topS 30)) := ⟨rfl, rfl, rfl, by decide +kernel, rfl, by decide +kernel, by decide +kernel⟩
theorem ok_is_slot_of (T : Txt K w mg) : ∃ fd, FnP K "is_slot_of" "is_slot_of" (topS 30) [] (He.ga K "is_slot_of") fd ∧ FnG P w K mg base CX0 3 (He.ga K "is_slot_of") fd ["thing", "frames"] (sp_is_slot_of K) := by
  obtain ⟨fd, F⟩ := T.d_is_slot_of
  refine ⟨fd, F, fnG_of (sp := sp_is_slot_of K) F sc_is_slot_of (fun vs H Q E h => h.1) fun cdv A outer s H vs Q E hr hg h => ?_⟩
  have hu := hu_of hr
  have nd := sc_is_slot_of.nd
  exact ⟨t_is_slot_of K, PSs.nox ((pss_cons (ps_if (PW.pt (pw_or (pt_not (pt_tr (pe_callB call_isi (by rfl) T.z_isinstance (by decide +kernel) (pa_cons (pv 0) (pa_cons (pe_bltn (v := .ty "tuple") (by rfl) T.z_tuple (by decide +kernel) rfl) pa_nil))))) (pw_or1 (pt_cmpR (op_neA hr) (pe_callB cl_len (by rfl) T.z_len PySem.boot_len (pa_cons (pv 0) pa_nil)) pe_int (nobehind _ (by decide) (by decide)))))) (pss_one (ps_ret pe_bl)) pss_nil)
    (pss_one (ps_ret (pe_and (pe_ca (cs_is_night_1 T) hr (by decide) hg rfl pass0 (pa_cons (pe_ix ix_seq (pv 0) pe_int (fun _ _ => rfl)) pa_nil) pk_nil) (pe_one (pe_ca (cs_is_whole_2_most T) hr (by decide) hg rfl pass0 (pa_cons (pe_ix ix_seq (pv 0) pe_int (fun _ _ => rfl)) (pa_cons pe_int pa_nil)) (pk_cons (pv 1) pk_nil)))))))), rd_is_slot_of vs H Q E h⟩
theorem cs_is_slot_of_2 (T : Txt K w mg) : CallOk P w K mg base CX0 3 "is_slot_of" 2 [] (sp_is_slot_of K) (fun vs zs => pick .non [0, 1] (vs ++ zs)) := by
  obtain ⟨fd, F, G⟩ := ok_is_slot_of (P := P) (w := w) (base := base) T
  obtain ⟨g, kb⟩ := kb0 (ps := ["thing", "frames"]) F 2 [] [0, 1] fun kV doc pm an cdv ct us ws h1 h2 => match us, ws, h1, h2 with | [_, _], [], _, _ => rfl
  exact ⟨⟨fd, _, g, G, kb⟩, T.g_is_slot_of, F.kp⟩
theorem sc_Order_init : FnScope ["self", "job", "size", "first", "last"] ["self", "job", "size", "first", "last"] (defScope (inClass (topS 33) 0)) := ⟨rfl, rfl, rfl, by decide +kernel, rfl, by decide +kernel, by decide +kernel⟩
theorem ok_Order_init (T : Txt K w mg) : ∃ fd, FnP K "__init__" "Order.__init__" (inClass (topS 33) 0) [.int 1, .int 0, .non] (He.ma K (He.ga K "Order") "__init__") fd ∧ FnG P w K mg base CX0 3 (He.ma K (He.ga K "Order") "__init__") fd ["self", "job", "size", "first", "last"] (sp_Order_init K) := by
  obtain ⟨fd, F⟩ := T.d_Order_init
  refine ⟨fd, F, fnG_of (sp := sp_Order_init K) F sc_Order_init (fun vs H Q E h => h.1) fun cdv A outer s H vs Q E hr hg h => ?_⟩
  have hu := hu_of hr
  have nd := sc_Order_init.nd
  exact ⟨t_Order_init K, PSs.nox ((pss_cons (ps_if (pt_not (pt_tr (pe_callB call_isi (by rfl) T.z_isinstance (by decide +kernel) (pa_cons (pv 1) (pa_cons (pe_gR T.g_Job) pa_nil))))) (pss_one ps_no) pss_nil)
    (pss_cons (ps_if (pt_not (pt_tr (pe_ca (cs_is_whole_2_most T) hr (by decide) hg rfl pass0 (pa_cons (pv 2) (pa_cons pe_int pa_nil)) (pk_cons (pe_gI T.c_MOST_SIZE) pk_nil)))) (pss_one ps_no) pss_nil)
    (pss_cons (ps_if (pt_not (pt_tr (pe_ca (cs_is_night_1 T) hr (by decide) hg rfl pass0 (pa_cons (pv 3) pa_nil) pk_nil))) (pss_one ps_no) pss_nil)
    (pss_cons (ps_if (PW.pt (pw_and (pt_cmpR op_noNo (pv 4) pe_non (nobehind _ (by decide) (by decide))) (pw_and1 (pt_not (PW.pt (pw_and (pt_tr (pe_ca (cs_is_night_1 T) hr (by decide) hg rfl pass0 (pa_cons (pv 4) pa_nil) pk_nil)) (pw_and1 (pt_chain op_le op_le (pv 3) (pv 4) (pe_op op_addA (pv 3) (pe_gI T.c_MOST_NIGHTS_MORE)))))))))) (pss_one ps_no) pss_nil)
    (pss_cons (ps_fld (pv 0) (pv 1) rfl)
    (pss_cons (ps_fld (pv 0) (pv 2) rfl)
    (pss_cons (ps_fld (pv 0) (pv 3) rfl)
    (pss_one (ps_fld (pv 0) (pe_ifExp (pt_cmpR op_isNo (pv 4) pe_non (nobehind _ (by decide) (by decide))) (pv 3) (pv 4)) rfl)))))))))), rd_Order_init (orderC T) (jobC T) T.od_Job vs H Q E h⟩
theorem cs_Order_init_1_size_first_last (T : Txt K w mg) : MakeOk P w K mg base CX0 3 "Order" 1 ["size", "first", "last"] (sp_Order_init K) (fun vs zs => pick .non [0, 1, 2, 3, 4] (vs ++ (zs ++ [.int 1, .int 0, .non]))) := by
  obtain ⟨fd, F, G⟩ := ok_Order_init (P := P) (w := w) (base := base) T
  obtain ⟨g, kb⟩ := kb1 (ps := ["self", "job", "size", "first", "last"]) F (by simp) 2 ["size", "first", "last"] [0, 1, 2, 3, 4] fun T kV doc pm an cdv ct us ws its h1 h2 h3 => match us, ws, its, h1, h2, h3 with | [_, _], [_, _, _], [_, _, _], _, _, _ => ⟨_, rfl, rfl⟩
  exact ⟨⟨_, fd, _, g, T.mk_Order, G, kb⟩, T.g_Order⟩
theorem sc_Order_eq : FnScope ["self", "other"] ["self", "other"] (defScope (inClass (topS 33) 6)) := ⟨rfl, rfl, rfl, by decide +kernel, rfl, by decide +kernel, by decide +kernel⟩
theorem ok_Order_eq (T : Txt K w mg) : ∃ fd, FnP K "__eq__" "Order.__eq__" (inClass (topS 33) 6) [] (He.ma K (He.ga K "Order") "__eq__") fd ∧ FnG P w K mg base CX0 3 (He.ma K (He.ga K "Order") "__eq__") fd ["self", "other"] (sp_Order_eq K) := by
  obtain ⟨fd, F⟩ := T.d_Order_eq
  refine ⟨fd, F, fnG_of (sp := sp_Order_eq K) F sc_Order_eq (fun vs H Q E h => h.1) fun cdv A outer s H vs Q E hr hg h => ?_⟩
  have hu := hu_of hr
  have nd := sc_Order_eq.nd
  exact ⟨t_Order_eq K, PSs.nox ((pss_one (ps_ret (pe_and (pe_callB call_isi (by rfl) T.z_isinstance (by decide +kernel) (pa_cons (pv 1) (pa_cons (pe_gR T.g_Order) pa_nil))) (pe_and (pe_cmpR (op_ownEq (cs_Job_eq_1 T) hr (by decide) hg pass0) (pe_fld (pv 0) rfl) (pe_fld (pv 1) rfl) (nobehind _ (by decide) (by decide))) (pe_one (pe_cmpR (op_eqA hr) (pe_me0 (cs_Order_wants_0 T) hr (by decide) hg pass0 (pv 0) pk_nil) (pe_me0 (cs_Order_wants_0 T) hr (by decide) hg pass0 (pv 1) pk_nil) (nobehind _ (by decide) (by decide))))))))), rd_Order_eq (orderC T) (jobC T) T.od_Order T.od_Job vs H Q E h⟩
theorem cs_Order_eq_1 (T : Txt K w mg) : MethOk P w K mg base CX0 3 (He.ga K "Order") "__eq__" 1 [] (sp_Order_eq K) (fun vs zs => pick .non [0, 1] (vs ++ zs)) := by
  obtain ⟨fd, F, G⟩ := ok_Order_eq (P := P) (w := w) (base := base) T
  obtain ⟨g, kb⟩ := kb0 (ps := ["self", "other"]) F 2 [] [0, 1] fun kV doc pm an cdv ct us ws h1 h2 => match us, ws, h1, h2 with | [_, _], [], _, _ => rfl
  exact ⟨⟨_, fd, _, g, T.m_Order_eq, G, kb⟩, T.cl_Order⟩
theorem sc_Hall_slots_of : FnScope ["self", "order", "most"] ["self", "order", "most"] (defScope (inClass (topS 34) 10)) := ⟨rfl, rfl, rfl, by decide +kernel, rfl, by decide +kernel, by decide +kernel⟩
theorem ok_Hall_slots_of (T : Txt K w mg) : ∃ fd, FnP K "slots_of" "Hall.slots_of" (inClass (topS 34) 10) [.int 40] (He.ma K (He.ga K "Hall") "slots_of") fd ∧ FnG P w K mg base CX0 3 (He.ma K (He.ga K "Hall") "slots_of") fd ["self", "order", "most"] (sp_Hall_slots_of K) := by
  obtain ⟨fd, F⟩ := T.d_Hall_slots_of
  refine ⟨fd, F, fnG_of (sp := sp_Hall_slots_of K) F sc_Hall_slots_of (fun vs H Q E h => h.1) fun cdv A outer s H vs Q E hr hg h => ?_⟩
  have hu := hu_of hr
  have nd := sc_Hall_slots_of.nd
  exact ⟨t_Hall_slots_of K, PSs.nox ((pss_cons (ps_if (pt_not (pt_tr (pe_callB call_isi (by rfl) T.z_isinstance (by decide +kernel) (pa_cons (pv 1) (pa_cons (pe_gR T.g_Order) pa_nil))))) (pss_one ps_no) pss_nil)
    (pss_cons (ps_if (pt_not (pt_tr (pe_ca (cs_is_whole_2_most T) hr (by decide) hg rfl pass0 (pa_cons (pv 2) (pa_cons pe_int pa_nil)) (pk_cons (pe_gI T.c_MOST_SLOTS) pk_nil)))) (pss_one ps_no) pss_nil)
    (pss_one (ps_ret (pe_slice sl_any (pe_me (cs_Hall_fitting_1 T) hr (by decide) hg pass0 (pv 0) (pa_cons (pv 1) pa_nil) pk_nil) po_none (po_some (pv 2)))))))), rd_Hall_slots_of (hallC T) (orderC T) T.od_Order vs H Q E h⟩
theorem cs_Hall_slots_of_0_most_order (T : Txt K w mg) : MethOk P w K mg base CX0 3 (He.ga K "Hall") "slots_of" 0 ["most", "order"] (sp_Hall_slots_of K) (fun vs zs => pick .non [0, 2, 1] (vs ++ (zs ++ [.int 40]))) := by
  obtain ⟨fd, F, G⟩ := ok_Hall_slots_of (P := P) (w := w) (base := base) T
  obtain ⟨g, kb⟩ := kb1 (ps := ["self", "order", "most"]) F (by simp) 1 ["most", "order"] [0, 2, 1] fun T kV doc pm an cdv ct us ws its h1 h2 h3 => match us, ws, its, h1, h2, h3 with | [_], [_, _], [_], _, _, _ => ⟨_, rfl, rfl⟩
  exact ⟨⟨_, fd, _, g, T.m_Hall_slots_of, G, kb⟩, T.cl_Hall⟩
theorem cs_Hall_slots_of_2 (T : Txt K w mg) : MethOk P w K mg base CX0 3 (He.ga K "Hall") "slots_of" 2 [] (sp_Hall_slots_of K) (fun vs zs => pick .non [0, 1, 2] (vs ++ (zs ++ [.int 40]))) := by
  obtain ⟨fd, F, G⟩ := ok_Hall_slots_of (P := P) (w := w) (base := base) T
  obtain ⟨g, kb⟩ := kb1 (ps := ["self", "order", "most"]) F (by simp) 3 [] [0, 1, 2] fun T kV doc pm an cdv ct us ws its h1 h2 h3 => match us, ws, its, h1, h2, h3 with | [_, _, _], [], [_], _, _, _ => ⟨_, rfl, rfl⟩
  exact ⟨⟨_, fd, _, g, T.m_Hall_slots_of, G, kb⟩, T.cl_Hall⟩
theorem cs_Hall_slots_of_0_order (T : Txt K w mg) : MethOk P w K mg base CX0 3 (He.ga K "Hall") "slots_of" 0 ["order"] (sp_Hall_slots_of K) (fun vs zs => pick .non [0, 1, 2] (vs ++ (zs ++ [.int 40]))) := by
  obtain ⟨fd, F, G⟩ := ok_Hall_slots_of (P := P) (w := w) (base := base) T
  obtain ⟨g, kb⟩ := kb1 (ps := ["self", "order", "most"]) F (by simp) 1 ["order"] [0, 1, 2] fun T kV doc pm an cdv ct us ws its h1 h2 h3 => match us, ws, its, h1, h2, h3 with | [_], [_], [_], _, _, _ => ⟨_, rfl, rfl⟩
  exact ⟨⟨_, fd, _, g, T.m_Hall_slots_of, G, kb⟩, T.cl_Hall⟩
theorem cs_Hall_slots_of_1 (T : Txt K w mg) : MethOk P w K mg base CX0 3 (He.ga K "Hall") "slots_of" 1 [] (sp_Hall_slots_of K) (fun vs zs => pick .non [0, 1, 2] (vs ++ (zs ++ [.int 40]))) := by
  obtain ⟨fd, F, G⟩ := ok_Hall_slots_of (P := P) (w := w) (base := base) T
  obtain ⟨g, kb⟩ := kb1 (ps := ["self", "order", "most"]) F (by simp) 2 [] [0, 1, 2] fun T kV doc pm an cdv ct us ws its h1 h2 h3 => match us, ws, its, h1, h2, h3 with | [_, _], [], [_], _, _, _ => ⟨_, rfl, rfl⟩
  exact ⟨⟨_, fd, _, g, T.m_Hall_slots_of, G, kb⟩, T.cl_Hall⟩
theorem sc_Hall_how_many : FnScope ["self", "order"] ["self", "order"] (defScope (inClass (topS 34) 11)) := ⟨rfl, rfl, rfl, by decide +kernel, rfl, by decide +kernel, by decide +kernel⟩
theorem ok_Hall_how_many (T : Txt K w mg) : ∃ fd, FnP K "how_many" "Hall.how_many" (inClass (topS 34) 11) [] (He.ma K (He.ga K "Hall") "how_many") fd ∧ FnG P w K mg base CX0 3 (He.ma K (He.ga K "Hall") "how_many") fd ["self", "order"] (sp_Hall_how_many K) := by
  obtain ⟨fd, F⟩ := T.d_Hall_how_many
  refine ⟨fd, F, fnG_of (sp := sp_Hall_how_many K) F sc_Hall_how_many (fun vs H Q E h => h.1) fun cdv A outer s H vs Q E hr hg h => ?_⟩
  have hu := hu_of hr
  have nd := sc_Hall_how_many.nd
  exact ⟨t_Hall_how_many K, PSs.nox ((pss_cons (ps_if (pt_not (pt_tr (pe_callB call_isi (by rfl) T.z_isinstance (by decide +kernel) (pa_cons (pv 1) (pa_cons (pe_gR T.g_Order) pa_nil))))) (pss_one ps_no) pss_nil)
    (pss_one (ps_ret (pe_callB cl_len (by rfl) T.z_len PySem.boot_len (pa_cons (pe_me (cs_Hall_fitting_1 T) hr (by decide) hg pass0 (pv 0) (pa_cons (pv 1) pa_nil) pk_nil) pa_nil)))))), rd_Hall_how_many (hallC T) (orderC T) T.od_Order vs H Q E h⟩
theorem cs_Hall_how_many_0_order (T : Txt K w mg) : MethOk P w K mg base CX0 3 (He.ga K "Hall") "how_many" 0 ["order"] (sp_Hall_how_many K) (fun vs zs => pick .non [0, 1] (vs ++ zs)) := by
  obtain ⟨fd, F, G⟩ := ok_Hall_how_many (P := P) (w := w) (base := base) T
  obtain ⟨g, kb⟩ := kb0 (ps := ["self", "order"]) F 1 ["order"] [0, 1] fun kV doc pm an cdv ct us ws h1 h2 => match us, ws, h1, h2 with | [_], [_], _, _ => rfl
  exact ⟨⟨_, fd, _, g, T.m_Hall_how_many, G, kb⟩, T.cl_Hall⟩
theorem cs_Hall_how_many_1 (T : Txt K w mg) : MethOk P w K mg base CX0 3 (He.ga K "Hall") "how_many" 1 [] (sp_Hall_how_many K) (fun vs zs => pick .non [0, 1] (vs ++ zs)) := by
  obtain ⟨fd, F, G⟩ := ok_Hall_how_many (P := P) (w := w) (base := base) T
  obtain ⟨g, kb⟩ := kb0 (ps := ["self", "order"]) F 2 [] [0, 1] fun kV doc pm an cdv ct us ws h1 h2 => match us, ws, h1, h2 with | [_, _], [], _, _ => rfl
  exact ⟨⟨_, fd, _, g, T.m_Hall_how_many, G, kb⟩, T.cl_Hall⟩
theorem sc_law_numbers : FnScope ["m", "many", "start", "stride", "k"] ["m", "many"] (defScope (topS 40)) := ⟨rfl, rfl, rfl, by decide +kernel, rfl, by decide +kernel, by decide +kernel⟩
theorem ok_law_numbers (T : Txt K w mg) : ∃ fd, FnP K "_law_numbers" "_law_numbers" (topS 40) [] (He.ga K "_law_numbers") fd ∧ FnG P w K mg base CX0 3 (He.ga K "_law_numbers") fd ["m", "many"] (sp_law_numbers K) := by
  obtain ⟨fd, F⟩ := T.d_law_numbers
  refine ⟨fd, F, fnG_of (sp := sp_law_numbers K) F sc_law_numbers (fun vs H Q E h => h.1) fun cdv A outer s H vs Q E hr hg h => ?_⟩
  have hu := hu_of hr
  have nd := sc_law_numbers.nd
  exact ⟨t_law_numbers K, PSs.nox ((pss_cons (ps_asg (pe_tup (pa_cons (pe_ca (cs_law_draw_2 T) hr (by decide) hg rfl pass0 (pa_cons (pv 0) (pa_cons pe_int pa_nil)) pk_nil) (pa_cons (pe_ix ix_seq (pe_lst (pa_cons pe_int (pa_cons pe_int (pa_cons pe_int (pa_cons pe_int (pa_cons pe_int pa_nil)))))) (pe_ca (cs_law_draw_2 T) hr (by decide) hg rfl pass0 (pa_cons (pv 0) (pa_cons pe_int pa_nil)) pk_nil) (fun _ _ => rfl)) pa_nil))) (pg_tup rfl (pgs_cons (pg_name (i := 2) nd rfl (Or.inr rfl)) (pgs_cons (pg_name (i := 3) nd rfl (Or.inr rfl)) pgs_nil))))
    (pss_one (ps_ret (pe_lc (own := [("k", 4)]) rfl nd (pi_range1 (by rfl) T.z_range (pa_cons (pv 1) pa_nil)) (blkOk_by (by first | decide +kernel | kernel_rfl)) (fun _ _ _ _ _ => (pg_name (i := 4) nd rfl (Or.inl rfl))) (fun _ _ _ _ _ => pts_nil) (fun _ _ _ _ _ => (pe_op op_addA pe_int (pe_op op_mod (pe_op op_addA (pv 2) (pe_op op_mulA (pe_op op_mulA (pv 3) (pv 4)) (pe_op op_addA (pv 4) pe_int))) pe_int)))))))), rd_law_numbers vs H Q E h⟩
theorem cs_law_numbers_2 (T : Txt K w mg) : CallOk P w K mg base CX0 3 "_law_numbers" 2 [] (sp_law_numbers K) (fun vs zs => pick .non [0, 1] (vs ++ zs)) := by
  obtain ⟨fd, F, G⟩ := ok_law_numbers (P := P) (w := w) (base := base) T
  obtain ⟨g, kb⟩ := kb0 (ps := ["m", "many"]) F 2 [] [0, 1] fun kV doc pm an cdv ct us ws h1 h2 => match us, ws, h1, h2 with | [_, _], [], _, _ => rfl
  exact ⟨⟨fd, _, g, G, kb⟩, T.g_law_numbers, F.kp⟩
theorem sc_law_near : FnScope ["m"] ["m"] (defScope (topS 41)) := ⟨rfl, rfl, rfl, by decide +kernel, rfl, by decide +kernel, by decide +kernel⟩
theorem ok_law_near (T : Txt K w mg) : ∃ fd, FnP K "_law_near" "_law_near" (topS 41) [] (He.ga K "_law_near") fd ∧ FnG P w K mg base CX0 3 (He.ga K "_law_near") fd ["m"] (sp_law_near K) := by
  obtain ⟨fd, F⟩ := T.d_law_near
  refine ⟨fd, F, fnG_of (sp := sp_law_near K) F sc_law_near (fun vs H Q E h => h.1) fun cdv A outer s H vs Q E hr hg h => ?_⟩
  have hu := hu_of hr
  have nd := sc_law_near.nd
  exact ⟨t_law_near K, PSs.nox ((pss_one (ps_ret (pe_ix ix_seq (pe_lst (pa_cons pe_int (pa_cons (pe_ca (cs_law_draw_2 T) hr (by decide) hg rfl pass0 (pa_cons (pv 0) (pa_cons pe_int pa_nil)) pk_nil) (pa_cons (pe_op op_sub pe_int (pe_ca (cs_law_draw_2 T) hr (by decide) hg rfl pass0 (pa_cons (pv 0) (pa_cons pe_int pa_nil)) pk_nil)) pa_nil)))) (pe_ca (cs_law_draw_2 T) hr (by decide) hg rfl pass0 (pa_cons (pv 0) (pa_cons pe_int pa_nil)) pk_nil) (fun _ _ => rfl))))), rd_law_near vs H Q E h⟩
theorem cs_law_near_1 (T : Txt K w mg) : CallOk P w K mg base CX0 3 "_law_near" 1 [] (sp_law_near K) (fun vs zs => pick .non [0] (vs ++ zs)) := by
  obtain ⟨fd, F, G⟩ := ok_law_near (P := P) (w := w) (base := base) T
  obtain ⟨g, kb⟩ := kb0 (ps := ["m"]) F 1 [] [0] fun kV doc pm an cdv ct us ws h1 h2 => match us, ws, h1, h2 with | [_], [], _, _ => rfl
  exact ⟨⟨fd, _, g, G, kb⟩, T.g_law_near, F.kp⟩
theorem sc_law_plain_hall : FnScope ["m", "near", "many", "wides", "gone", "k"] ["m", "near", "many"] (defScope (topS 42)) := ⟨rfl, rfl, rfl, by decide +kernel, rfl, by decide +kernel, by decide +kernel⟩
theorem ok_law_plain_hall (T : Txt K w mg) : ∃ fd, FnP K "_law_plain_hall" "_law_plain_hall" (topS 42) [] (He.ga K "_law_plain_hall") fd ∧ FnG P w K mg base CX0 3 (He.ga K "_law_plain_hall") fd ["m", "near", "many"] (sp_law_plain_hall K) := by
  obtain ⟨fd, F⟩ := T.d_law_plain_hall
  refine ⟨fd, F, fnG_of (sp := sp_law_plain_hall K) F sc_law_plain_hall (fun vs H Q E h => h.1) fun cdv A outer s H vs Q E hr hg h => ?_⟩
  have hu := hu_of hr
  have nd := sc_law_plain_hall.nd
  exact ⟨t_law_plain_hall K, PSs.nox ((pss_cons (ps_par rfl nd (i := 3) (j := 4) rfl rfl (by decide) rfl rfl (pa_cons (pe_lst pa_nil) (pa_cons pe_dnewT pa_nil)) (by rfl))
    (pss_cons (ps_for PassesOwn.never rfl (pi_range1 (by rfl) T.z_range (pa_cons (pe_op op_addA pe_int (pe_ca (cs_law_draw_2 T) hr (by decide) hg rfl pass0 (pa_cons (pv 0) (pa_cons (pv 2) pa_nil)) pk_nil)) pa_nil)) (pg_name (i := 5) nd rfl (Or.inl rfl))
    (pss_one (ps_expr (pe_bm PySem.F.plainAttrs_list PySem.F.slot_list_append PySem.F.type_list_append mt_append (pv 3) (pa_cons (pe_ix ix_seq (pe_lst (pa_cons (pe_op op_addA pe_int (pe_ca (cs_law_draw_2 T) hr (by decide) hg rfl pass0 (pa_cons (pv 0) (pa_cons pe_int pa_nil)) pk_nil)) (pa_cons (pe_op op_addA pe_int (pe_ca (cs_law_draw_2 T) hr (by decide) hg rfl pass0 (pa_cons (pv 0) (pa_cons pe_int pa_nil)) pk_nil)) (pa_cons pe_int pa_nil)))) (pe_ca (cs_law_draw_2 T) hr (by decide) hg rfl pass0 (pa_cons (pv 0) (pa_cons pe_int pa_nil)) pk_nil) (fun _ _ => rfl)) pa_nil)))))
    (pss_cons (ps_for PassesOwn.never rfl (pi_range1 (by rfl) T.z_range (pa_cons (pe_ix ix_seq (pe_lst (pa_cons pe_int (pa_cons pe_int (pa_cons (pe_ca (cs_law_draw_2 T) hr (by decide) hg rfl pass0 (pa_cons (pv 0) (pa_cons pe_int pa_nil)) pk_nil) (pa_cons (pe_ca (cs_law_draw_2 T) hr (by decide) hg rfl pass0 (pa_cons (pv 0) (pa_cons pe_int pa_nil)) pk_nil) pa_nil))))) (pe_ca (cs_law_draw_2 T) hr (by decide) hg rfl pass0 (pa_cons (pv 0) (pa_cons pe_int pa_nil)) pk_nil) (fun _ _ => rfl)) pa_nil)) (pg_name (i := 5) nd rfl (Or.inl rfl))
    (pss_one (ps_dput hu (pv 4) (pe_tup (pa_cons (pe_callB (cl_min2 rfl) (by rfl) T.z_min (by decide +kernel) (pa_cons pe_int (pa_cons (pe_op op_addA (pv 1) (pe_ca (cs_law_draw_2 T) hr (by decide) hg rfl pass0 (pa_cons (pv 0) (pa_cons pe_int pa_nil)) pk_nil)) pa_nil))) (pa_cons (pe_op op_addA pe_int (pe_ca (cs_law_draw_2 T) hr (by decide) hg rfl pass0 (pa_cons (pv 0) (pa_cons (pe_callB cl_len (by rfl) T.z_len PySem.boot_len (pa_cons (pv 3) pa_nil)) pa_nil)) pk_nil)) pa_nil))) pe_bl rfl)))
    (pss_one (ps_ret (pe_tup (pa_cons (pv 3) (pa_cons (pv 4) pa_nil))))))))), rd_law_plain_hall vs H Q E h⟩
theorem cs_law_plain_hall_3 (T : Txt K w mg) : CallOk P w K mg base CX0 3 "_law_plain_hall" 3 [] (sp_law_plain_hall K) (fun vs zs => pick .non [0, 1, 2] (vs ++ zs)) := by
  obtain ⟨fd, F, G⟩ := ok_law_plain_hall (P := P) (w := w) (base := base) T
  obtain ⟨g, kb⟩ := kb0 (ps := ["m", "near", "many"]) F 3 [] [0, 1, 2] fun kV doc pm an cdv ct us ws h1 h2 => match us, ws, h1, h2 with | [_, _, _], [], _, _ => rfl
  exact ⟨⟨fd, _, g, G, kb⟩, T.g_law_plain_hall, F.kp⟩
theorem sc_law_plain_order : FnScope ["m", "figure", "near", "came", "end", "wide", "begin", "far"] ["m", "figure", "near"] (defScope (topS 43)) := ⟨rfl, rfl, rfl, by decide +kernel, rfl, by decide +kernel, by decide +kernel⟩
theorem ok_law_plain_order (T : Txt K w mg) : ∃ fd, FnP K "_law_plain_order" "_law_plain_order" (topS 43) [] (He.ga K "_law_plain_order") fd ∧ FnG P w K mg base CX0 3 (He.ga K "_law_plain_order") fd ["m", "figure", "near"] (sp_law_plain_order K) := by
  obtain ⟨fd, F⟩ := T.d_law_plain_order
  refine ⟨fd, F, fnG_of (sp := sp_law_plain_order K) F sc_law_plain_order (fun vs H Q E h => h.1) fun cdv A outer s H vs Q E hr hg h => ?_⟩
  have hu := hu_of hr
  have nd := sc_law_plain_order.nd
  exact ⟨t_law_plain_order K, PSs.nox ((pss_cons (ps_set (i := 3) nd rfl (Or.inl rfl) (pe_ix ix_seq (pe_lst (pa_cons pe_int (pa_cons (pe_ca (cs_law_draw_2 T) hr (by decide) hg rfl pass0 (pa_cons (pv 0) (pa_cons pe_int pa_nil)) pk_nil) pa_nil))) (pe_ca (cs_law_draw_2 T) hr (by decide) hg rfl pass0 (pa_cons (pv 0) (pa_cons pe_int pa_nil)) pk_nil) (fun _ _ => rfl)))
    (pss_cons (ps_set (i := 4) nd rfl (Or.inl rfl) (pe_op op_addA (pv 3) (pe_ix ix_seq (pe_lst (pa_cons pe_int (pa_cons (pe_ca (cs_law_draw_2 T) hr (by decide) hg rfl pass0 (pa_cons (pv 0) (pa_cons pe_int pa_nil)) pk_nil) pa_nil))) (pe_ca (cs_law_draw_2 T) hr (by decide) hg rfl pass0 (pa_cons (pv 0) (pa_cons pe_int pa_nil)) pk_nil) (fun _ _ => rfl))))
    (pss_cons (ps_set (i := 5) nd rfl (Or.inl rfl) (pe_ix ix_seq (pe_lst (pa_cons pe_int (pa_cons (pe_op op_addA pe_int (pe_ca (cs_law_draw_2 T) hr (by decide) hg rfl pass0 (pa_cons (pv 0) (pa_cons pe_int pa_nil)) pk_nil)) (pa_cons (pe_op op_addA pe_int (pe_ca (cs_law_draw_2 T) hr (by decide) hg rfl pass0 (pa_cons (pv 0) (pa_cons pe_int pa_nil)) pk_nil)) pa_nil)))) (pe_ca (cs_law_draw_2 T) hr (by decide) hg rfl pass0 (pa_cons (pv 0) (pa_cons pe_int pa_nil)) pk_nil) (fun _ _ => rfl)))
    (pss_cons (ps_set (i := 6) nd rfl (Or.inl rfl) (pe_callB (cl_min2 rfl) (by rfl) T.z_min (by decide +kernel) (pa_cons pe_int (pa_cons (pe_op op_addA (pv 2) (pe_ca (cs_law_draw_2 T) hr (by decide) hg rfl pass0 (pa_cons (pv 0) (pa_cons (pe_ix ix_seq (pe_lst (pa_cons pe_int (pa_cons pe_int (pa_cons pe_int pa_nil)))) (pe_ca (cs_law_draw_2 T) hr (by decide) hg rfl pass0 (pa_cons (pv 0) (pa_cons pe_int pa_nil)) pk_nil) (fun _ _ => rfl)) pa_nil)) pk_nil)) pa_nil))))
    (pss_cons (ps_set (i := 7) nd rfl (Or.inl rfl) (pe_callB (cl_min2 rfl) (by rfl) T.z_min (by decide +kernel) (pa_cons pe_int (pa_cons (pe_op op_addA (pv 6) (pe_ix ix_seq (pe_lst (pa_cons pe_int (pa_cons pe_int (pa_cons pe_int (pa_cons (pe_ca (cs_law_draw_2 T) hr (by decide) hg rfl pass0 (pa_cons (pv 0) (pa_cons pe_int pa_nil)) pk_nil) (pa_cons pe_int pa_nil)))))) (pe_ca (cs_law_draw_2 T) hr (by decide) hg rfl pass0 (pa_cons (pv 0) (pa_cons pe_int pa_nil)) pk_nil) (fun _ _ => rfl))) pa_nil))))
    (pss_one (ps_ret (pe_tup (pa_cons (pv 1) (pa_cons (pv 3) (pa_cons (pv 4) (pa_cons (pe_cmpR (op_eqA hr) (pe_ca (cs_law_draw_2 T) hr (by decide) hg rfl pass0 (pa_cons (pv 0) (pa_cons pe_int pa_nil)) pk_nil) pe_int (nobehind _ (by decide) (by decide))) (pa_cons (pv 5) (pa_cons (pv 6) (pa_cons (pv 7) pa_nil)))))))))))))))), rd_law_plain_order vs H Q E h⟩
theorem cs_law_plain_order_3 (T : Txt K w mg) : CallOk P w K mg base CX0 3 "_law_plain_order" 3 [] (sp_law_plain_order K) (fun vs zs => pick .non [0, 1, 2] (vs ++ zs)) := by
  obtain ⟨fd, F, G⟩ := ok_law_plain_order (P := P) (w := w) (base := base) T
  obtain ⟨g, kb⟩ := kb0 (ps := ["m", "figure", "near"]) F 3 [] [0, 1, 2] fun kV doc pm an cdv ct us ws h1 h2 => match us, ws, h1, h2 with | [_, _, _], [], _, _ => rfl
  exact ⟨⟨fd, _, g, G, kb⟩, T.g_law_plain_order, F.kp⟩
theorem sc_Style_init : FnScope ["self", "name", "steps"] ["self", "name", "steps"] (defScope (inClass (topS 20) 0)) := ⟨rfl, rfl, rfl, by decide +kernel, rfl, by decide +kernel, by decide +kernel⟩
theorem ok_Style_init (T : Txt K w mg) : ∃ fd, FnP K "__init__" "Style.__init__" (inClass (topS 20) 0) [] (He.ma K (He.ga K "Style") "__init__") fd ∧ FnG P w K mg base CX0 4 (He.ma K (He.ga K "Style") "__init__") fd ["self", "name", "steps"] (sp_Style_init K) := by
  obtain ⟨fd, F⟩ := T.d_Style_init
  refine ⟨fd, F, fnG_of (sp := sp_Style_init K) F sc_Style_init (fun vs H Q E h => h.1) fun cdv A outer s H vs Q E hr hg h => ?_⟩
  have hu := hu_of hr
  have nd := sc_Style_init.nd
  exact ⟨t_Style_init K, PSs.nox ((pss_cons (ps_if (pt_not (pt_tr (pe_ca (cs_is_name_1 T) hr (by decide) hg rfl pass0 (pa_cons (pv 1) pa_nil) pk_nil))) (pss_one ps_no) pss_nil)
    (pss_cons (ps_if (pt_not (pt_tr (pe_ca (cs_are_steps_1 T) hr (by decide) hg rfl pass0 (pa_cons (pv 2) pa_nil) pk_nil))) (pss_one ps_no) pss_nil)
    (pss_cons (ps_fld (pv 0) (pv 1) rfl)
    (pss_one (ps_fld (pv 0) (pe_callTy cl_listOf (by rfl) T.z_list (by decide +kernel) (pa_cons (pv 2) pa_nil)) rfl)))))), rd_Style_init (styleC T) vs H Q E h⟩
theorem cs_Style_init_2 (T : Txt K w mg) : MakeOk P w K mg base CX0 4 "Style" 2 [] (sp_Style_init K) (fun vs zs => pick .non [0, 1, 2] (vs ++ zs)) := by
  obtain ⟨fd, F, G⟩ := ok_Style_init (P := P) (w := w) (base := base) T
  obtain ⟨g, kb⟩ := kb0 (ps := ["self", "name", "steps"]) F 3 [] [0, 1, 2] fun kV doc pm an cdv ct us ws h1 h2 => match us, ws, h1, h2 with | [_, _, _], [], _, _ => rfl
  exact ⟨⟨_, fd, _, g, T.mk_Style, G, kb⟩, T.g_Style⟩
theorem sc_are_lost : FnScope ["thing", "frames", "slot"] ["thing", "frames"] (defScope (topS 32)) := ⟨rfl, rfl, rfl, by decide +kernel, rfl, by decide +kernel, by decide +kernel⟩
theorem ok_are_lost (T : Txt K w mg) : ∃ fd, FnP K "are_lost" "are_lost" (topS 32) [] (He.ga K "are_lost") fd ∧ FnG P w K mg base CX0 4 (He.ga K "are_lost") fd ["thing", "frames"] (sp_are_lost K) := by
  obtain ⟨fd, F⟩ := T.d_are_lost
  refine ⟨fd, F, fnG_of (sp := sp_are_lost K) F sc_are_lost (fun vs H Q E h => h.1) fun cdv A outer s H vs Q E hr hg h => ?_⟩
  have hu := hu_of hr
  have nd := sc_are_lost.nd
  exact ⟨t_are_lost K, PSs.nox ((pss_cons (ps_if (PW.pt (pw_or (pt_not (pt_tr (pe_callB call_isiT (by rfl) T.z_isinstance (by decide +kernel) (pa_cons (pv 0) (pa_cons (pe_tup (pa_cons (pe_bltn (v := .ty "list") (by rfl) T.z_list (by decide +kernel) rfl) (pa_cons (pe_bltn (v := .ty "tuple") (by rfl) T.z_tuple (by decide +kernel) rfl) pa_nil))) pa_nil))))) (pw_or1 (pt_cmpR op_gt (pe_callB cl_len (by rfl) T.z_len PySem.boot_len (pa_cons (pv 0) pa_nil)) (pe_gI T.c_MOST_LOST) (nobehind _ (by decide) (by decide)))))) (pss_one (ps_ret pe_bl)) pss_nil)
    (pss_one (ps_ret (pe_and (pe_callB (cr_all rfl) (by rfl) T.z_all (by decide +kernel) (pa_cons (pe_lc (own := [("slot", 2)]) rfl nd (pi_any (pv 0)) (blkOk_by (by first | decide +kernel | kernel_rfl)) (fun _ _ _ _ _ => (pg_name (i := 2) nd rfl (Or.inl rfl))) (fun _ _ _ _ _ => pts_nil) (fun _ _ _ _ _ => (pe_ca (cs_is_slot_of_2 T) hr (by decide) hg rfl pass0 (pa_cons (pv 2) (pa_cons (pv 1) pa_nil)) pk_nil))) pa_nil)) (pe_one (pe_cmpR (op_eqA hr) (pe_lenSetT (by rfl) hr (by rfl) T.z_len (by rfl) T.z_set (pv 0)) (pe_callB cl_len (by rfl) T.z_len PySem.boot_len (pa_cons (pv 0) pa_nil)) (nobehind _ (by decide) (by decide))))))))), rd_are_lost vs H Q E h⟩
theorem cs_are_lost_2 (T : Txt K w mg) : CallOk P w K mg base CX0 4 "are_lost" 2 [] (sp_are_lost K) (fun vs zs => pick .non [0, 1] (vs ++ zs)) := by
  obtain ⟨fd, F, G⟩ := ok_are_lost (P := P) (w := w) (base := base) T
  obtain ⟨g, kb⟩ := kb0 (ps := ["thing", "frames"]) F 2 [] [0, 1] fun kV doc pm an cdv ct us ws h1 h2 => match us, ws, h1, h2 with | [_, _], [], _, _ => rfl
  exact ⟨⟨fd, _, g, G, kb⟩, T.g_are_lost, F.kp⟩
theorem sc_Hall_has_frame_of : FnScope ["self", "thing"] ["self", "thing"] (defScope (inClass (topS 34) 3)) := ⟨rfl, rfl, rfl, by decide +kernel, rfl, by decide +kernel, by decide +kernel⟩
theorem ok_Hall_has_frame_of (T : Txt K w mg) : ∃ fd, FnP K "has_frame_of" "Hall.has_frame_of" (inClass (topS 34) 3) [] (He.ma K (He.ga K "Hall") "has_frame_of") fd ∧ FnG P w K mg base CX0 4 (He.ma K (He.ga K "Hall") "has_frame_of") fd ["self", "thing"] (sp_Hall_has_frame_of K) := by
  obtain ⟨fd, F⟩ := T.d_Hall_has_frame_of
  refine ⟨fd, F, fnG_of (sp := sp_Hall_has_frame_of K) F sc_Hall_has_frame_of (fun vs H Q E h => h.1) fun cdv A outer s H vs Q E hr hg h => ?_⟩
  have hu := hu_of hr
  have nd := sc_Hall_has_frame_of.nd
  exact ⟨t_Hall_has_frame_of K, PSs.nox ((pss_one (ps_ret (pe_ca (cs_is_slot_of_2 T) hr (by decide) hg rfl pass0 (pa_cons (pv 1) (pa_cons (pe_callB cl_len (by rfl) T.z_len PySem.boot_len (pa_cons (pe_fld (pv 0) rfl) pa_nil)) pa_nil)) pk_nil)))), rd_Hall_has_frame_of (hallC T) vs H Q E h⟩
theorem cs_Hall_has_frame_of_1 (T : Txt K w mg) : MethOk P w K mg base CX0 4 (He.ga K "Hall") "has_frame_of" 1 [] (sp_Hall_has_frame_of K) (fun vs zs => pick .non [0, 1] (vs ++ zs)) := by
  obtain ⟨fd, F, G⟩ := ok_Hall_has_frame_of (P := P) (w := w) (base := base) T
  obtain ⟨g, kb⟩ := kb0 (ps := ["self", "thing"]) F 2 [] [0, 1] fun kV doc pm an cdv ct us ws h1 h2 => match us, ws, h1, h2 with | [_, _], [], _, _ => rfl
  exact ⟨⟨_, fd, _, g, T.m_Hall_has_frame_of, G, kb⟩, T.cl_Hall⟩
theorem sc_law_slots_right : FnScope ["house", "one", "places", "many", "found"] ["house", "one", "places"] (defScope (topS 46)) := ⟨rfl, rfl, rfl, by decide +kernel, rfl, by decide +kernel, by decide +kernel⟩
theorem ok_law_slots_right (T : Txt K w mg) : ∃ fd, FnP K "_law_slots_right" "_law_slots_right" (topS 46) [] (He.ga K "_law_slots_right") fd ∧ FnG P w K mg base CX0 4 (He.ga K "_law_slots_right") fd ["house", "one", "places"] (sp_law_slots_right K) := by
  obtain ⟨fd, F⟩ := T.d_law_slots_right
  refine ⟨fd, F, fnG_of (sp := sp_law_slots_right K) F sc_law_slots_right (fun vs H Q E h => h.1) fun cdv A outer s H vs Q E hr hg h => ?_⟩
  have hu := hu_of hr
  have nd := sc_law_slots_right.nd
  exact ⟨t_law_slots_right K, PSs.nox ((pss_cons (ps_for PassesOwn.never rfl (pi_any (pe_lst (pa_cons pe_int (pa_cons pe_int (pa_cons (pe_callB (cl_max2 rfl) (by rfl) T.z_max (by decide +kernel) (pa_cons pe_int (pa_cons (pe_op op_sub (pe_callB cl_len (by rfl) T.z_len PySem.boot_len (pa_cons (pv 2) pa_nil)) pe_int) pa_nil))) (pa_cons (pe_callB cl_len (by rfl) T.z_len PySem.boot_len (pa_cons (pv 2) pa_nil)) (pa_cons (pe_op op_addA (pe_callB cl_len (by rfl) T.z_len PySem.boot_len (pa_cons (pv 2) pa_nil)) pe_int) (pa_cons pe_int pa_nil)))))))) (pg_name (i := 3) nd rfl (Or.inl rfl))
    (pss_cons (ps_set (i := 4) nd rfl (Or.inl rfl) (pe_lst (pa_cons (pe_me (cs_Hall_slots_of_2 T) hr (by decide) hg pass0 (pv 0) (pa_cons (pv 1) (pa_cons (pv 3) pa_nil)) pk_nil) (pa_cons (pe_me0 (cs_Hall_slots_of_0_most_order T) hr (by decide) hg pass0 (pv 0) (pk_cons (pv 3) (pk_cons (pv 1) pk_nil))) pa_nil))))
    (pss_cons (ps_if (pt_cmpR (op_neA hr) (pe_callB (call_repr hr hg) (by rfl) T.z_repr (by decide +kernel) (pa_cons (pv 4) pa_nil)) (pe_callB (call_repr hr hg) (by rfl) T.z_repr (by decide +kernel) (pa_cons (pe_op op_mulA (pe_lst (pa_cons (pe_slice sl_any (pv 2) po_none (po_some (pv 3))) pa_nil)) pe_int) pa_nil)) (nobehind _ (by decide) (by decide))) (pss_one (ps_ret pe_bl)) pss_nil)
    (pss_one (ps_expr (pe_bm PySem.F.plainAttrs_list PySem.F.slot_list_append PySem.F.type_list_append mt_append (pe_ix ix_seq (pv 4) pe_int (fun _ _ => rfl)) (pa_cons (pe_tup (pa_cons pe_int (pa_cons pe_int pa_nil))) pa_nil)))))))
    (pss_cons (ps_set (i := 4) nd rfl (Or.inl rfl) (pe_lst (pa_cons (pe_me (cs_Hall_slots_of_1 T) hr (by decide) hg pass0 (pv 0) (pa_cons (pv 1) pa_nil) pk_nil) (pa_cons (pe_me0 (cs_Hall_slots_of_0_order T) hr (by decide) hg pass0 (pv 0) (pk_cons (pv 1) pk_nil)) (pa_cons (pe_me (cs_Hall_how_many_1 T) hr (by decide) hg pass0 (pv 0) (pa_cons (pv 1) pa_nil) pk_nil) (pa_cons (pe_me0 (cs_Hall_how_many_0_order T) hr (by decide) hg pass0 (pv 0) (pk_cons (pv 1) pk_nil)) pa_nil))))))
    (pss_one (ps_ret (pe_cmpR (op_eqA hr) (pe_callB (call_repr hr hg) (by rfl) T.z_repr (by decide +kernel) (pa_cons (pv 4) pa_nil)) (pe_callB (call_repr hr hg) (by rfl) T.z_repr (by decide +kernel) (pa_cons (pe_lst (pa_cons (pe_slice sl_any (pv 2) po_none (po_some pe_int)) (pa_cons (pe_slice sl_any (pv 2) po_none (po_some pe_int)) (pa_cons (pe_callB cl_len (by rfl) T.z_len PySem.boot_len (pa_cons (pv 2) pa_nil)) (pa_cons (pe_callB cl_len (by rfl) T.z_len PySem.boot_len (pa_cons (pv 2) pa_nil)) pa_nil))))) pa_nil)) (nobehind _ (by decide) (by decide)))))))), rd_law_slots_right (hallC T) vs H Q E h⟩
theorem cs_law_slots_right_3 (T : Txt K w mg) : CallOk P w K mg base CX0 4 "_law_slots_right" 3 [] (sp_law_slots_right K) (fun vs zs => pick .non [0, 1, 2] (vs ++ zs)) := by
  obtain ⟨fd, F, G⟩ := ok_law_slots_right (P := P) (w := w) (base := base) T
  obtain ⟨g, kb⟩ := kb0 (ps := ["house", "one", "places"]) F 3 [] [0, 1, 2] fun kV doc pm an cdv ct us ws h1 h2 => match us, ws, h1, h2 with | [_, _, _], [], _, _ => rfl
  exact ⟨⟨fd, _, g, G, kb⟩, T.g_law_slots_right, F.kp⟩
theorem sc_Hall_init : FnScope ["self", "sizes", "lost", "slot"] ["self", "sizes", "lost"] (defScope (inClass (topS 34) 0)) := ⟨rfl, rfl, rfl, by decide +kernel, rfl, by decide +kernel, by decide +kernel⟩
theorem ok_Hall_init (T : Txt K w mg) : ∃ fd, FnP K "__init__" "Hall.__init__" (inClass (topS 34) 0) [.non] (He.ma K (He.ga K "Hall") "__init__") fd ∧ FnG P w K mg base CX0 5 (He.ma K (He.ga K "Hall") "__init__") fd ["self", "sizes", "lost"] (sp_Hall_init K) := by
  obtain ⟨fd, F⟩ := T.d_Hall_init
  refine ⟨fd, F, fnG_of (sp := sp_Hall_init K) F sc_Hall_init (fun vs H Q E h => h.1) fun cdv A outer s H vs Q E hr hg h => ?_⟩
  have hu := hu_of hr
  have nd := sc_Hall_init.nd
  exact ⟨t_Hall_init K, PSs.nox ((pss_cons (ps_if (pt_not (pt_tr (pe_ca (cs_are_sizes_1 T) hr (by decide) hg rfl pass0 (pa_cons (pv 1) pa_nil) pk_nil))) (pss_one ps_no) pss_nil)
    (pss_cons (ps_if (PW.pt (pw_and (pt_cmpR op_noNo (pv 2) pe_non (nobehind _ (by decide) (by decide))) (pw_and1 (pt_not (pt_tr (pe_ca (cs_are_lost_2 T) hr (by decide) hg rfl pass0 (pa_cons (pv 2) (pa_cons (pe_callB cl_len (by rfl) T.z_len PySem.boot_len (pa_cons (pv 1) pa_nil)) pa_nil)) pk_nil)))))) (pss_one ps_no) pss_nil)
    (pss_cons (ps_fld (pv 0) (pe_callTy cl_listOf (by rfl) T.z_list (by decide +kernel) (pa_cons (pv 1) pa_nil)) rfl)
    (pss_cons (ps_fld (pv 0) (pe_ifExp (pt_cmpR op_isNo (pv 2) pe_non (nobehind _ (by decide) (by decide))) (pe_lst pa_nil) (pe_callB (cr_sortT (by decide)) (by rfl) T.z_sorted (by decide +kernel) (pa_cons (pv 2) pa_nil))) rfl)
    (pss_one (ps_fld (pv 0) (pe_callTy (cl_dictT rfl (hu3 hr)) (by rfl) T.z_dict (by decide +kernel) (pa_cons (pe_lc (own := [("slot", 3)]) rfl nd (pi_any (pe_fld (pv 0) rfl)) (blkOk_by (by first | decide +kernel | kernel_rfl)) (fun _ _ _ _ _ => (pg_name (i := 3) nd rfl (Or.inl rfl))) (fun _ _ _ _ _ => pts_nil) (fun _ _ _ _ _ => (pe_tup (pa_cons (pv 3) (pa_cons pe_bl pa_nil))))) pa_nil)) rfl))))))), rd_Hall_init (hallC T) vs H Q E h⟩
theorem cs_Hall_init_1_lost (T : Txt K w mg) : MakeOk P w K mg base CX0 5 "Hall" 1 ["lost"] (sp_Hall_init K) (fun vs zs => pick .non [0, 1, 2] (vs ++ (zs ++ [.non]))) := by
  obtain ⟨fd, F, G⟩ := ok_Hall_init (P := P) (w := w) (base := base) T
  obtain ⟨g, kb⟩ := kb1 (ps := ["self", "sizes", "lost"]) F (by simp) 2 ["lost"] [0, 1, 2] fun T kV doc pm an cdv ct us ws its h1 h2 h3 => match us, ws, its, h1, h2, h3 with | [_, _], [_], [_], _, _, _ => ⟨_, rfl, rfl⟩
  exact ⟨⟨_, fd, _, g, T.mk_Hall, G, kb⟩, T.g_Hall⟩
theorem cs_Hall_init_1 (T : Txt K w mg) : MakeOk P w K mg base CX0 5 "Hall" 1 [] (sp_Hall_init K) (fun vs zs => pick .non [0, 1, 2] (vs ++ (zs ++ [.non]))) := by
  obtain ⟨fd, F, G⟩ := ok_Hall_init (P := P) (w := w) (base := base) T
  obtain ⟨g, kb⟩ := kb1 (ps := ["self", "sizes", "lost"]) F (by simp) 2 [] [0, 1, 2] fun T kV doc pm an cdv ct us ws its h1 h2 h3 => match us, ws, its, h1, h2, h3 with | [_, _], [], [_], _, _, _ => ⟨_, rfl, rfl⟩
  exact ⟨⟨_, fd, _, g, T.mk_Hall, G, kb⟩, T.g_Hall⟩
theorem sc_Hall_is_slot : FnScope ["self", "thing"] ["self", "thing"] (defScope (inClass (topS 34) 4)) := ⟨rfl, rfl, rfl, by decide +kernel, rfl, by decide +kernel, by decide +kernel⟩
theorem ok_Hall_is_slot (T : Txt K w mg) : ∃ fd, FnP K "is_slot" "Hall.is_slot" (inClass (topS 34) 4) [] (He.ma K (He.ga K "Hall") "is_slot") fd ∧ FnG P w K mg base CX0 5 (He.ma K (He.ga K "Hall") "is_slot") fd ["self", "thing"] (sp_Hall_is_slot K) := by
  obtain ⟨fd, F⟩ := T.d_Hall_is_slot
  refine ⟨fd, F, fnG_of (sp := sp_Hall_is_slot K) F sc_Hall_is_slot (fun vs H Q E h => h.1) fun cdv A outer s H vs Q E hr hg h => ?_⟩
  have hu := hu_of hr
  have nd := sc_Hall_is_slot.nd
  exact ⟨t_Hall_is_slot K, PSs.nox ((pss_one (ps_ret (pe_and (pe_me (cs_Hall_has_frame_of_1 T) hr (by decide) hg pass0 (pv 0) (pa_cons (pv 1) pa_nil) pk_nil) (pe_one (pe_cmp (pc_dnotin hu (pv 1) (pe_fld (pv 0) rfl)))))))), rd_Hall_is_slot (hallC T) vs H Q E h⟩
theorem cs_Hall_is_slot_1 (T : Txt K w mg) : MethOk P w K mg base CX0 5 (He.ga K "Hall") "is_slot" 1 [] (sp_Hall_is_slot K) (fun vs zs => pick .non [0, 1] (vs ++ zs)) := by
  obtain ⟨fd, F, G⟩ := ok_Hall_is_slot (P := P) (w := w) (base := base) T
  obtain ⟨g, kb⟩ := kb0 (ps := ["self", "thing"]) F 2 [] [0, 1] fun kV doc pm an cdv ct us ws h1 h2 => match us, ws, h1, h2 with | [_, _], [], _, _ => rfl
  exact ⟨⟨_, fd, _, g, T.m_Hall_is_slot, G, kb⟩, T.cl_Hall⟩
theorem sc_law_order : FnScope ["plain", "task"] ["plain"] (defScope (topS 44)) := ⟨rfl, rfl, rfl, by decide +kernel, rfl, by decide +kernel, by decide +kernel⟩
theorem ok_law_order (T : Txt K w mg) : ∃ fd, FnP K "_law_order" "_law_order" (topS 44) [] (He.ga K "_law_order") fd ∧ FnG P w K mg base CX0 6 (He.ga K "_law_order") fd ["plain"] (sp_law_order K) := by
  obtain ⟨fd, F⟩ := T.d_law_order
  refine ⟨fd, F, fnG_of (sp := sp_law_order K) F sc_law_order (fun vs H Q E h => h.1) fun cdv A outer s H vs Q E hr hg h => ?_⟩
  have hu := hu_of hr
  have nd := sc_law_order.nd
  exact ⟨t_law_order K, PSs.nox ((pss_cons (ps_set (i := 1) nd rfl (Or.inl rfl) (pe_mk (cs_Job_init_2_brought_due_haste T) hr (by decide) hg rfl pass0 (pa_cons (pe_ix ix_seq (pv 0) pe_int (fun _ _ => rfl)) (pa_cons (pe_mk (cs_Style_init_2 T) hr (by decide) hg rfl pass0 (pa_cons pe_str (pa_cons (pe_lst (pa_cons (pe_tup (pa_cons pe_str (pa_cons pe_int (pa_cons pe_int pa_nil)))) pa_nil)) pa_nil)) pk_nil) pa_nil)) (pk_cons (pe_ix ix_seq (pv 0) pe_int (fun _ _ => rfl)) (pk_cons (pe_ix ix_seq (pv 0) pe_int (fun _ _ => rfl)) (pk_cons (pe_ix ix_seq (pv 0) pe_int (fun _ _ => rfl)) pk_nil)))))
    (pss_one (ps_ret (pe_mk (cs_Order_init_1_size_first_last T) hr (by decide) hg rfl pass0 (pa_cons (pv 1) pa_nil) (pk_cons (pe_ix ix_seq (pv 0) pe_int (fun _ _ => rfl)) (pk_cons (pe_ix ix_seq (pv 0) pe_int (fun _ _ => rfl)) (pk_cons (pe_ix ix_seq (pv 0) pe_int (fun _ _ => rfl)) pk_nil)))))))), rd_law_order vs H Q E h⟩
theorem cs_law_order_1 (T : Txt K w mg) : CallOk P w K mg base CX0 6 "_law_order" 1 [] (sp_law_order K) (fun vs zs => pick .non [0] (vs ++ zs)) := by
  obtain ⟨fd, F, G⟩ := ok_law_order (P := P) (w := w) (base := base) T
  obtain ⟨g, kb⟩ := kb0 (ps := ["plain"]) F 1 [] [0] fun kV doc pm an cdv ct us ws h1 h2 => match us, ws, h1, h2 with | [_], [], _, _ => rfl
  exact ⟨⟨fd, _, g, G, kb⟩, T.g_law_order, F.kp⟩
theorem sc_Hall_with_lost : FnScope ["self", "slot"] ["self", "slot"] (defScope (inClass (topS 34) 5)) := ⟨rfl, rfl, rfl, by decide +kernel, rfl, by decide +kernel, by decide +kernel⟩
theorem ok_Hall_with_lost (T : Txt K w mg) : ∃ fd, FnP K "with_lost" "Hall.with_lost" (inClass (topS 34) 5) [] (He.ma K (He.ga K "Hall") "with_lost") fd ∧ FnG P w K mg base CX0 7 (He.ma K (He.ga K "Hall") "with_lost") fd ["self", "slot"] (sp_Hall_with_lost K) := by
  obtain ⟨fd, F⟩ := T.d_Hall_with_lost
  refine ⟨fd, F, fnG_of (sp := sp_Hall_with_lost K) F sc_Hall_with_lost (fun vs H Q E h => h.1) fun cdv A outer s H vs Q E hr hg h => ?_⟩
  have hu := hu_of hr
  have nd := sc_Hall_with_lost.nd
  exact ⟨t_Hall_with_lost K, PSs.nox ((pss_cons (ps_if (pt_not (pt_tr (pe_me (cs_Hall_is_slot_1 T) hr (by decide) hg pass0 (pv 0) (pa_cons (pv 1) pa_nil) pk_nil))) (pss_one ps_no) pss_nil)
    (pss_cons (ps_if (pt_cmpR (op_eqA hr) (pe_callB cl_len (by rfl) T.z_len PySem.boot_len (pa_cons (pe_fld (pv 0) rfl) pa_nil)) (pe_gI T.c_MOST_LOST) (nobehind _ (by decide) (by decide))) (pss_one ps_no) pss_nil)
    (pss_one (ps_ret (pe_mk (cs_Hall_init_1_lost T) hr (by decide) hg rfl pass0 (pa_cons (pe_fld (pv 0) rfl) pa_nil) (pk_cons (pe_op op_addA (pe_fld (pv 0) rfl) (pe_lst (pa_cons (pv 1) pa_nil))) pk_nil))))))), rd_Hall_with_lost (hallC T) vs H Q E h⟩
theorem cs_Hall_with_lost_1 (T : Txt K w mg) : MethOk P w K mg base CX0 7 (He.ga K "Hall") "with_lost" 1 [] (sp_Hall_with_lost K) (fun vs zs => pick .non [0, 1] (vs ++ zs)) := by
  obtain ⟨fd, F, G⟩ := ok_Hall_with_lost (P := P) (w := w) (base := base) T
  obtain ⟨g, kb⟩ := kb0 (ps := ["self", "slot"]) F 2 [] [0, 1] fun kV doc pm an cdv ct us ws h1 h2 => match us, ws, h1, h2 with | [_, _], [], _, _ => rfl
  exact ⟨⟨_, fd, _, g, T.m_Hall_with_lost, G, kb⟩, T.cl_Hall⟩
theorem sc_Hall_with_found : FnScope ["self", "slot", "one"] ["self", "slot"] (defScope (inClass (topS 34) 6)) := ⟨rfl, rfl, rfl, by decide +kernel, rfl, by decide +kernel, by decide +kernel⟩
theorem ok_Hall_with_found (T : Txt K w mg) : ∃ fd, FnP K "with_found" "Hall.with_found" (inClass (topS 34) 6) [] (He.ma K (He.ga K "Hall") "with_found") fd ∧ FnG P w K mg base CX0 7 (He.ma K (He.ga K "Hall") "with_found") fd ["self", "slot"] (sp_Hall_with_found K) := by
  obtain ⟨fd, F⟩ := T.d_Hall_with_found
  refine ⟨fd, F, fnG_of (sp := sp_Hall_with_found K) F sc_Hall_with_found (fun vs H Q E h => h.1) fun cdv A outer s H vs Q E hr hg h => ?_⟩
  have hu := hu_of hr
  have nd := sc_Hall_with_found.nd
  exact ⟨t_Hall_with_found K, PSs.nox ((pss_cons (ps_if (PW.pt (pw_or (pt_not (pt_tr (pe_me (cs_Hall_has_frame_of_1 T) hr (by decide) hg pass0 (pv 0) (pa_cons (pv 1) pa_nil) pk_nil))) (pw_or1 (pt_cmp (pc_dnotin hu (pv 1) (pe_fld (pv 0) rfl)))))) (pss_one ps_no) pss_nil)
    (pss_one (ps_ret (pe_mk (cs_Hall_init_1_lost T) hr (by decide) hg rfl pass0 (pa_cons (pe_fld (pv 0) rfl) pa_nil) (pk_cons (pe_lc (own := [("one", 2)]) rfl nd (pi_any (pe_fld (pv 0) rfl)) (blkOk_by (by first | decide +kernel | kernel_rfl)) (fun _ _ _ _ _ => (pg_name (i := 2) nd rfl (Or.inl rfl))) (fun _ _ _ _ _ => (pts_one (pt_cmpR (op_neA hr) (pv 2) (pv 1) (nobehind _ (by decide) (by decide))))) (fun _ _ _ _ _ => (pv 2))) pk_nil)))))), rd_Hall_with_found (hallC T) vs H Q E h⟩
theorem cs_Hall_with_found_1 (T : Txt K w mg) : MethOk P w K mg base CX0 7 (He.ga K "Hall") "with_found" 1 [] (sp_Hall_with_found K) (fun vs zs => pick .non [0, 1] (vs ++ zs)) := by
  obtain ⟨fd, F, G⟩ := ok_Hall_with_found (P := P) (w := w) (base := base) T
  obtain ⟨g, kb⟩ := kb0 (ps := ["self", "slot"]) F 2 [] [0, 1] fun kV doc pm an cdv ct us ws h1 h2 => match us, ws, h1, h2 with | [_, _], [], _, _ => rfl
  exact ⟨⟨_, fd, _, g, T.m_Hall_with_found, G, kb⟩, T.cl_Hall⟩
theorem sc_law_lost_right : FnScope ["m", "house", "one", "places", "k", "other", "left"] ["m", "house", "one", "places"] (defScope (topS 47)) := ⟨rfl, rfl, rfl, by decide +kernel, rfl, by decide +kernel, by decide +kernel⟩
theorem ok_law_lost_right (T : Txt K w mg) : ∃ fd, FnP K "_law_lost_right" "_law_lost_right" (topS 47) [] (He.ga K "_law_lost_right") fd ∧ FnG P w K mg base CX0 8 (He.ga K "_law_lost_right") fd ["m", "house", "one", "places"] (sp_law_lost_right K) := by
  obtain ⟨fd, F⟩ := T.d_law_lost_right
  refine ⟨fd, F, fnG_of (sp := sp_law_lost_right K) F sc_law_lost_right (fun vs H Q E h => h.1) fun cdv A outer s H vs Q E hr hg h => ?_⟩
  have hu := hu_of hr
  have nd := sc_law_lost_right.nd
  exact ⟨t_law_lost_right K, PSs.nox ((pss_cons (ps_if (PW.pt (pw_or (pt_cmpR (op_eqA hr) (pv 3) (pe_lst pa_nil) (nobehind _ (by decide) (by decide))) (pw_or1 (pt_cmpR (op_eqA hr) (pe_callB cl_len (by rfl) T.z_len PySem.boot_len (pa_cons (pe_me0 (cs_Hall_lost_0 T) hr (by decide) hg pass0 (pv 1) pk_nil) pa_nil)) pe_int (nobehind _ (by decide) (by decide)))))) (pss_one (ps_ret pe_bl)) pss_nil)
    (pss_cons (ps_set (i := 4) nd rfl (Or.inl rfl) (pe_ca (cs_law_draw_2 T) hr (by decide) hg rfl pass0 (pa_cons (pv 0) (pa_cons (pe_callB cl_len (by rfl) T.z_len PySem.boot_len (pa_cons (pv 3) pa_nil)) pa_nil)) pk_nil))
    (pss_cons (ps_par rfl nd (i := 5) (j := 6) rfl rfl (by decide) rfl rfl (pa_cons (pe_me (cs_Hall_with_lost_1 T) hr (by decide) hg pass0 (pv 1) (pa_cons (pe_ix ix_seq (pv 3) (pv 4) (fun _ _ => rfl)) pa_nil) pk_nil) (pa_cons (pe_op op_addA (pe_slice sl_any (pv 3) po_none (po_some (pv 4))) (pe_slice sl_any (pv 3) (po_some (pe_op op_addA (pv 4) pe_int)) po_none)) pa_nil)) (by rfl))
    (pss_cons (ps_if (PW.pt (pw_or (pt_not (pt_tr (pe_ca (cs_law_slots_right_3 T) hr (by decide) hg rfl pass0 (pa_cons (pv 5) (pa_cons (pv 2) (pa_cons (pv 6) pa_nil))) pk_nil))) (pw_or1 (pt_not (pt_tr (pe_ca (cs_law_slots_right_3 T) hr (by decide) hg rfl pass0 (pa_cons (pv 1) (pa_cons (pv 2) (pa_cons (pv 3) pa_nil))) pk_nil)))))) (pss_one (ps_ret pe_bl)) pss_nil)
    (pss_one (ps_ret (pe_ca (cs_law_slots_right_3 T) hr (by decide) hg rfl pass0 (pa_cons (pe_me (cs_Hall_with_found_1 T) hr (by decide) hg pass0 (pv 5) (pa_cons (pe_ix ix_seq (pv 3) (pv 4) (fun _ _ => rfl)) pa_nil) pk_nil) (pa_cons (pv 2) (pa_cons (pv 3) pa_nil))) pk_nil)))))))), rd_law_lost_right (hallC T) vs H Q E h⟩
theorem cs_law_lost_right_4 (T : Txt K w mg) : CallOk P w K mg base CX0 8 "_law_lost_right" 4 [] (sp_law_lost_right K) (fun vs zs => pick .non [0, 1, 2, 3] (vs ++ zs)) := by
  obtain ⟨fd, F, G⟩ := ok_law_lost_right (P := P) (w := w) (base := base) T
  obtain ⟨g, kb⟩ := kb0 (ps := ["m", "house", "one", "places"]) F 4 [] [0, 1, 2, 3] fun kV doc pm an cdv ct us ws h1 h2 => match us, ws, h1, h2 with | [_, _, _, _], [], _, _ => rfl
  exact ⟨⟨fd, _, g, G, kb⟩, T.g_law_lost_right, F.kp⟩
theorem sc_law_hand_right : FnScope ["m", "wide", "house", "begin", "fits", "other", "places", "some", "one", "k"] ["m"] (defScope (topS 48)) := ⟨rfl, rfl, rfl, by decide +kernel, rfl, by decide +kernel, by decide +kernel⟩
theorem ok_law_hand_right (T : Txt K w mg) : ∃ fd, FnP K "_law_hand_right" "_law_hand_right" (topS 48) [] (He.ga K "_law_hand_right") fd ∧ FnG P w K mg base CX0 9 (He.ga K "_law_hand_right") fd ["m"] (sp_law_hand_right K) := by
  obtain ⟨fd, F⟩ := T.d_law_hand_right
  refine ⟨fd, F, fnG_of (sp := sp_law_hand_right K) F sc_law_hand_right (fun vs H Q E h => h.1) fun cdv A outer s H vs Q E hr hg h => ?_⟩
  have hu := hu_of hr
  have nd := sc_law_hand_right.nd
  exact ⟨t_law_hand_right K, PSs.nox ((pss_cons (ps_set (i := 1) nd rfl (Or.inl rfl) (pe_op op_addA pe_int (pe_ca (cs_law_draw_2 T) hr (by decide) hg rfl pass0 (pa_cons (pv 0) (pa_cons pe_int pa_nil)) pk_nil)))
    (pss_cons (ps_set (i := 2) nd rfl (Or.inl rfl) (pe_mk (cs_Hall_init_1 T) hr (by decide) hg rfl pass0 (pa_cons (pe_op op_mulA (pe_lst (pa_cons (pv 1) pa_nil)) pe_int) pa_nil) pk_nil))
    (pss_cons (ps_for PassesOwn.never rfl (pi_any (pe_tup (pa_cons pe_int (pa_cons pe_int (pa_cons (pe_ca (cs_law_draw_2 T) hr (by decide) hg rfl pass0 (pa_cons (pv 0) (pa_cons pe_int pa_nil)) pk_nil) pa_nil))))) (pg_name (i := 3) nd rfl (Or.inr rfl))
    (pss_cons (ps_par rfl nd (i := 4) (j := 5) rfl rfl (by decide) rfl rfl (pa_cons (pe_tup (pa_cons pe_int (pa_cons pe_int (pa_cons pe_int (pa_cons pe_bl (pa_cons (pv 1) (pa_cons (pv 3) (pa_cons (pe_op op_addA (pv 3) pe_int) pa_nil)))))))) (pa_cons (pe_tup (pa_cons pe_int (pa_cons pe_int (pa_cons pe_int (pa_cons pe_bl (pa_cons (pe_op op_addA (pv 1) pe_int) (pa_cons (pv 3) (pa_cons (pe_op op_addA (pv 3) pe_int) pa_nil)))))))) pa_nil)) (by rfl))
    (pss_cons (ps_setLc (i := 6) (own := [("k", 9)]) rfl nd rfl rfl (sw_true rfl rfl rfl (by decide +kernel)) (pi_range1 (by rfl) T.z_range (pa_cons pe_int pa_nil)) (blkOk_by (by first | decide +kernel | kernel_rfl)) (fun _ _ _ _ _ => (pg_name (i := 9) nd rfl (Or.inl rfl))) (fun _ _ _ _ _ => pts_nil) (fun _ _ _ _ _ => (pe_tup (pa_cons (pe_op op_addA (pv 3) (pe_op op_fdiv (pv 9) pe_int)) (pa_cons (pe_op op_addA pe_int (pe_op op_mod (pv 9) pe_int)) pa_nil)))))
    (pss_cons (ps_if (PW.pt (pw_or (pt_not (pt_tr (pe_ca (cs_law_slots_right_3 T) hr (by decide) hg rfl pass0 (pa_cons (pv 2) (pa_cons (pe_ca (cs_law_order_1 T) hr (by decide) hg rfl pass0 (pa_cons (pv 4) pa_nil) pk_nil) (pa_cons (pv 6) pa_nil))) pk_nil))) (pw_or1 (pt_not (pt_tr (pe_ca (cs_law_slots_right_3 T) hr (by decide) hg rfl pass0 (pa_cons (pv 2) (pa_cons (pe_ca (cs_law_order_1 T) hr (by decide) hg rfl pass0 (pa_cons (pv 5) pa_nil) pk_nil) (pa_cons (pe_lst pa_nil) pa_nil))) pk_nil)))))) (pss_one (ps_ret pe_bl)) pss_nil)
    (pss_cons (ps_set (i := 7) nd rfl (Or.inl rfl) (pe_mk (cs_Hall_init_1_lost T) hr (by decide) hg rfl pass0 (pa_cons (pe_op op_addA (pe_op op_addA (pe_op op_mulA (pe_lst (pa_cons (pv 1) pa_nil)) pe_int) (pe_lst (pa_cons (pe_op op_addA (pv 1) pe_int) pa_nil))) (pe_op op_mulA (pe_lst (pa_cons (pv 1) pa_nil)) pe_int)) pa_nil) (pk_cons (pe_lst (pa_cons (pe_tup (pa_cons (pe_op op_addA (pv 3) pe_int) (pa_cons pe_int pa_nil))) (pa_cons (pe_tup (pa_cons (pe_op op_addA (pv 3) pe_int) (pa_cons pe_int pa_nil))) pa_nil))) pk_nil)))
    (pss_cons (ps_setLc (i := 6) (own := [("k", 9)]) rfl nd rfl rfl (sw_true rfl rfl rfl (by decide +kernel)) (pi_range1 (by rfl) T.z_range (pa_cons pe_int pa_nil)) (blkOk_by (by first | decide +kernel | kernel_rfl)) (fun _ _ _ _ _ => (pg_name (i := 9) nd rfl (Or.inl rfl))) (fun _ _ _ _ _ => (pts_one (pt_cmpR (op_neA hr) (pv 9) pe_int (nobehind _ (by decide) (by decide))))) (fun _ _ _ _ _ => (pe_tup (pa_cons (pe_op op_addA (pv 3) (pv 9)) (pa_cons pe_int pa_nil)))))
    (pss_cons (ps_set (i := 8) nd rfl (Or.inl rfl) (pe_ca (cs_law_order_1 T) hr (by decide) hg rfl pass0 (pa_cons (pv 5) pa_nil) pk_nil))
    (pss_one (ps_if (PW.pt (pw_or (pt_not (pt_tr (pe_ca (cs_law_slots_right_3 T) hr (by decide) hg rfl pass0 (pa_cons (pv 7) (pa_cons (pv 8) (pa_cons (pv 6) pa_nil))) pk_nil))) (pw_or1 (pt_not (pt_tr (pe_ca (cs_law_lost_right_4 T) hr (by decide) hg rfl pass0 (pa_cons (pv 0) (pa_cons (pv 7) (pa_cons (pv 8) (pa_cons (pv 6) pa_nil)))) pk_nil)))))) (pss_one (ps_ret pe_bl)) pss_nil)))))))))
    (pss_one (ps_ret pe_bl)))))), rd_law_hand_right vs H Q E h⟩
theorem cs_law_hand_right_1 (T : Txt K w mg) : CallOk P w K mg base CX0 9 "_law_hand_right" 1 [] (sp_law_hand_right K) (fun vs zs => pick .non [0] (vs ++ zs)) := by
  obtain ⟨fd, F, G⟩ := ok_law_hand_right (P := P) (w := w) (base := base) T
  obtain ⟨g, kb⟩ := kb0 (ps := ["m"]) F 1 [] [0] fun kV doc pm an cdv ct us ws h1 h2 => match us, ws, h1, h2 with | [_], [], _, _ => rfl
  exact ⟨⟨fd, _, g, G, kb⟩, T.g_law_hand_right, F.kp⟩
theorem sc_law : FnScope ["script", "m", "k", "near", "pair", "house", "figure", "plain", "one", "places"] ["script"] (defScope (topS 49)) := ⟨rfl, rfl, rfl, by decide +kernel, rfl, by decide +kernel, by decide +kernel⟩
theorem ok_law (T : Txt K w mg) : ∃ fd, FnP K "law" "law" (topS 49) [] (He.ga K "law") fd ∧ FnG P w K mg base CX0 10 (He.ga K "law") fd ["script"] (sp_law K) := by
  obtain ⟨fd, F⟩ := T.d_law
  refine ⟨fd, F, fnG_of (sp := sp_law K) F sc_law (fun vs H Q E h => h.1) fun cdv A outer s H vs Q E hr hg h => ?_⟩
  have hu := hu_of hr
  have nd := sc_law.nd
  exact ⟨t_law K, PSs.nox ((pss_cons (ps_set (i := 1) nd rfl (Or.inl rfl) (pe_ca (cs_law_begun_1 T) hr (by decide) hg rfl pass0 (pa_cons (pv 0) pa_nil) pk_nil))
    (pss_cons (ps_for PassesOwn.never rfl (pi_range1 (by rfl) T.z_range (pa_cons (pe_op op_addA pe_int (pe_callB (cl_min2 rfl) (by rfl) T.z_min (by decide +kernel) (pa_cons pe_int (pa_cons (pe_callB cl_len (by rfl) T.z_len PySem.boot_len (pa_cons (pv 0) pa_nil)) pa_nil)))) pa_nil)) (pg_name (i := 2) nd rfl (Or.inl rfl))
    (pss_cons (ps_set (i := 3) nd rfl (Or.inl rfl) (pe_ca (cs_law_near_1 T) hr (by decide) hg rfl pass0 (pa_cons (pv 1) pa_nil) pk_nil))
    (pss_cons (ps_set (i := 4) nd rfl (Or.inl rfl) (pe_ca (cs_law_plain_hall_3 T) hr (by decide) hg rfl pass0 (pa_cons (pv 1) (pa_cons (pv 3) (pa_cons pe_int pa_nil))) pk_nil))
    (pss_cons (ps_set (i := 5) nd rfl (Or.inl rfl) (pe_mk (cs_Hall_init_1_lost T) hr (by decide) hg rfl pass0 (pa_cons (pe_callTy cl_listOf (by rfl) T.z_list (by decide +kernel) (pa_cons (pe_ix ix_seq (pv 4) pe_int (fun _ _ => rfl)) pa_nil)) pa_nil) (pk_cons (pe_callB (cl_sortedDT rfl) (by rfl) T.z_sorted (by decide +kernel) (pa_cons (pe_ix ix_seq (pv 4) pe_int (fun _ _ => rfl)) pa_nil)) pk_nil)))
    (pss_one (ps_for PassesOwn.never rfl (pi_any (pe_ca (cs_law_numbers_2 T) hr (by decide) hg rfl pass0 (pa_cons (pv 1) (pa_cons pe_int pa_nil)) pk_nil)) (pg_name (i := 6) nd rfl (Or.inl rfl))
    (pss_cons (ps_set (i := 7) nd rfl (Or.inl rfl) (pe_ca (cs_law_plain_order_3 T) hr (by decide) hg rfl pass0 (pa_cons (pv 1) (pa_cons (pv 6) (pa_cons (pv 3) pa_nil))) pk_nil))
    (pss_cons (ps_par rfl nd (i := 8) (j := 9) rfl rfl (by decide) rfl rfl (pa_cons (pe_ca (cs_law_order_1 T) hr (by decide) hg rfl pass0 (pa_cons (pv 7) pa_nil) pk_nil) (pa_cons (pe_ca (cs_law_fits_2 T) hr (by decide) hg rfl pass0 (pa_cons (pv 4) (pa_cons (pv 7) pa_nil)) pk_nil) pa_nil)) (by rfl))
    (pss_cons (ps_if (PW.pt (pw_or (pt_not (pt_tr (pe_ca (cs_law_slots_right_3 T) hr (by decide) hg rfl pass0 (pa_cons (pv 5) (pa_cons (pv 8) (pa_cons (pv 9) pa_nil))) pk_nil))) (pw_or1 (pt_not (pt_tr (pe_ca (cs_law_lost_right_4 T) hr (by decide) hg rfl pass0 (pa_cons (pv 1) (pa_cons (pv 5) (pa_cons (pv 8) (pa_cons (pv 9) pa_nil)))) pk_nil)))))) (pss_one (ps_ret pe_bl)) pss_nil)
    (pss_one (ps_if (PW.pt (pw_or (pt_cmpR (op_ownNe (cs_Order_eq_1 T) T.od_Order.own hr (by decide) hg pass0) (pv 8) (pe_ca (cs_law_order_1 T) hr (by decide) hg rfl pass0 (pa_cons (pv 7) pa_nil) pk_nil) (nobehind _ (by decide) (by decide))) (pw_or1 (pt_cmpR (op_ownNe (cs_Hall_eq_1 T) T.od_Hall.own hr (by decide) hg pass0) (pv 5) (pe_mk (cs_Hall_init_1_lost T) hr (by decide) hg rfl pass0 (pa_cons (pe_callTy cl_listOf (by rfl) T.z_list (by decide +kernel) (pa_cons (pe_ix ix_seq (pv 4) pe_int (fun _ _ => rfl)) pa_nil)) pa_nil) (pk_cons (pe_callB (cl_sortedDT rfl) (by rfl) T.z_sorted (by decide +kernel) (pa_cons (pe_ix ix_seq (pv 4) pe_int (fun _ _ => rfl)) pa_nil)) pk_nil)) (nobehind _ (by decide) (by decide)))))) (pss_one (ps_ret pe_bl)) pss_nil)))))))))))
    (pss_one (ps_ret (pe_ca (cs_law_hand_right_1 T) hr (by decide) hg rfl pass0 (pa_cons (pv 1) pa_nil) pk_nil)))))), rd_law (hallC T) (orderC T) T.od_Hall T.od_Order vs H Q E h⟩
end
theorem txt_of {w : World} {K : PySem.W.Frag} {h : Heap} {mg : Str → Option Value} (X : K.In h) (G : h.Ns mainGlobals mg) (c : SaysB faL fnL tsL bsL w K) : Txt K w mg where
  c_MOST_LETTERS := He.int_ok X G (c.d.fact 0 (f := .int "MOST_LETTERS" 8) rfl)
  c_MOST_NUMBER := He.int_ok X G (c.d.fact 1 (f := .int "MOST_NUMBER" 99999) rfl)
  c_MOST_HOUR := He.int_ok X G (c.d.fact 2 (f := .int "MOST_HOUR" 1000000) rfl)
  c_MOST_HOURS := He.int_ok X G (c.d.fact 3 (f := .int "MOST_HOURS" 240) rfl)
  c_MOST_STEPS := He.int_ok X G (c.d.fact 4 (f := .int "MOST_STEPS" 12) rfl)
  c_MOST_FRAMES := He.int_ok X G (c.d.fact 5 (f := .int "MOST_FRAMES" 9) rfl)
  c_MOST_SIZE := He.int_ok X G (c.d.fact 6 (f := .int "MOST_SIZE" 60) rfl)
  c_MOST_NIGHT := He.int_ok X G (c.d.fact 7 (f := .int "MOST_NIGHT" 99999) rfl)
  c_MOST_NIGHTS_MORE := He.int_ok X G (c.d.fact 8 (f := .int "MOST_NIGHTS_MORE" 30) rfl)
  c_MOST_LOST := He.int_ok X G (c.d.fact 9 (f := .int "MOST_LOST" 100) rfl)
  c_MOST_SLOTS := He.int_ok X G (c.d.fact 10 (f := .int "MOST_SLOTS" 1000) rfl)
  c_LETTERS := He.str_ok X G (c.d.fact 11 (f := .str "LETTERS" "abcdefghijklmnopqrstuvwxyz") rfl)
  g_BARRED_WORDS := He.glo_ok X G (c.d.fact 12 (f := .glo "BARRED_WORDS") rfl)
  g_KINDS := He.glo_ok X G (c.d.fact 13 (f := .glo "KINDS") rfl)
  z_all := He.free_ok X G (c.d.fact 14 (f := .free "all") rfl)
  z_bool := He.free_ok X G (c.d.fact 15 (f := .free "bool") rfl)
  z_dict := He.free_ok X G (c.d.fact 16 (f := .free "dict") rfl)
  z_enumerate := He.free_ok X G (c.d.fact 17 (f := .free "enumerate") rfl)
  z_int := He.free_ok X G (c.d.fact 18 (f := .free "int") rfl)
  z_isinstance := He.free_ok X G (c.d.fact 19 (f := .free "isinstance") rfl)
  z_len := He.free_ok X G (c.d.fact 20 (f := .free "len") rfl)
  z_list := He.free_ok X G (c.d.fact 21 (f := .free "list") rfl)
  z_max := He.free_ok X G (c.d.fact 22 (f := .free "max") rfl)
  z_min := He.free_ok X G (c.d.fact 23 (f := .free "min") rfl)
  z_range := He.free_ok X G (c.d.fact 24 (f := .free "range") rfl)
  z_repr := He.free_ok X G (c.d.fact 25 (f := .free "repr") rfl)
  z_set := He.free_ok X G (c.d.fact 26 (f := .free "set") rfl)
  z_sorted := He.free_ok X G (c.d.fact 27 (f := .free "sorted") rfl)
  z_str := He.free_ok X G (c.d.fact 28 (f := .free "str") rfl)
  z_sum := He.free_ok X G (c.d.fact 29 (f := .free "sum") rfl)
  z_tuple := He.free_ok X G (c.d.fact 30 (f := .free "tuple") rfl)
  g_Style := He.glo_ok X G (c.d.fact 31 (f := .glo "Style") rfl)
  cl_Style := He.cls_ok (c.d.fact 32 (f := .cls "Style") rfl)
  mk_Style := He.mkr_ok (c.d.fact 33 (f := .mkr "Style") rfl)
  n_Style_called := He.noat_ok (c.d.fact 34 (f := .noat "Style" "called") rfl)
  n_Style_step_rows := He.noat_ok (c.d.fact 35 (f := .noat "Style" "step_rows") rfl)
  g_Job := He.glo_ok X G (c.d.fact 36 (f := .glo "Job") rfl)
  cl_Job := He.cls_ok (c.d.fact 37 (f := .cls "Job") rfl)
  mk_Job := He.mkr_ok (c.d.fact 38 (f := .mkr "Job") rfl)
  n_Job_came := He.noat_ok (c.d.fact 39 (f := .noat "Job" "came") rfl)
  n_Job_has_number := He.noat_ok (c.d.fact 40 (f := .noat "Job" "has_number") rfl)
  n_Job_has_style := He.noat_ok (c.d.fact 41 (f := .noat "Job" "has_style") rfl)
  n_Job_hasty := He.noat_ok (c.d.fact 42 (f := .noat "Job" "hasty") rfl)
  n_Job_wanted := He.noat_ok (c.d.fact 43 (f := .noat "Job" "wanted") rfl)
  g_Order := He.glo_ok X G (c.d.fact 44 (f := .glo "Order") rfl)
  cl_Order := He.cls_ok (c.d.fact 45 (f := .cls "Order") rfl)
  mk_Order := He.mkr_ok (c.d.fact 46 (f := .mkr "Order") rfl)
  n_Order_at_least := He.noat_ok (c.d.fact 47 (f := .noat "Order" "at_least") rfl)
  n_Order_for_job := He.noat_ok (c.d.fact 48 (f := .noat "Order" "for_job") rfl)
  n_Order_from_night := He.noat_ok (c.d.fact 49 (f := .noat "Order" "from_night") rfl)
  n_Order_to_night := He.noat_ok (c.d.fact 50 (f := .noat "Order" "to_night") rfl)
  g_Hall := He.glo_ok X G (c.d.fact 51 (f := .glo "Hall") rfl)
  cl_Hall := He.cls_ok (c.d.fact 52 (f := .cls "Hall") rfl)
  mk_Hall := He.mkr_ok (c.d.fact 53 (f := .mkr "Hall") rfl)
  n_Hall_frame_sizes := He.noat_ok (c.d.fact 54 (f := .noat "Hall" "frame_sizes") rfl)
  n_Hall_gone_at := He.noat_ok (c.d.fact 55 (f := .noat "Hall" "gone_at") rfl)
  n_Hall_gone_slots := He.noat_ok (c.d.fact 56 (f := .noat "Hall" "gone_slots") rfl)
  g_is_whole := He.glo_ok X G (c.d.fact 57 (f := .glo "is_whole") rfl)
  g_is_name := He.glo_ok X G (c.d.fact 58 (f := .glo "is_name") rfl)
  g_kind_of := He.glo_ok X G (c.d.fact 59 (f := .glo "kind_of") rfl)
  g_is_step := He.glo_ok X G (c.d.fact 60 (f := .glo "is_step") rfl)
  g_are_steps := He.glo_ok X G (c.d.fact 61 (f := .glo "are_steps") rfl)
  m_Style_span := He.meth_ok (c.d.fact 62 (f := .meth "Style" "span") rfl)
  m_Style_eq := He.meth_ok (c.d.fact 63 (f := .meth "Style" "__eq__") rfl)
  m_Job_rank := He.meth_ok (c.d.fact 64 (f := .meth "Job" "rank") rfl)
  m_Job_eq := He.meth_ok (c.d.fact 65 (f := .meth "Job" "__eq__") rfl)
  g_is_night := He.glo_ok X G (c.d.fact 66 (f := .glo "is_night") rfl)
  g_is_slot_of := He.glo_ok X G (c.d.fact 67 (f := .glo "is_slot_of") rfl)
  g_are_sizes := He.glo_ok X G (c.d.fact 68 (f := .glo "are_sizes") rfl)
  g_are_lost := He.glo_ok X G (c.d.fact 69 (f := .glo "are_lost") rfl)
  m_Order_wants := He.meth_ok (c.d.fact 70 (f := .meth "Order" "wants") rfl)
  m_Order_eq := He.meth_ok (c.d.fact 71 (f := .meth "Order" "__eq__") rfl)
  m_Hall_lost := He.meth_ok (c.d.fact 72 (f := .meth "Hall" "lost") rfl)
  m_Hall_has_frame_of := He.meth_ok (c.d.fact 73 (f := .meth "Hall" "has_frame_of") rfl)
  m_Hall_is_slot := He.meth_ok (c.d.fact 74 (f := .meth "Hall" "is_slot") rfl)
  m_Hall_with_lost := He.meth_ok (c.d.fact 75 (f := .meth "Hall" "with_lost") rfl)
  m_Hall_with_found := He.meth_ok (c.d.fact 76 (f := .meth "Hall" "with_found") rfl)
  m_Hall_fitting := He.meth_ok (c.d.fact 77 (f := .meth "Hall" "fitting") rfl)
  m_Hall_slots_of := He.meth_ok (c.d.fact 78 (f := .meth "Hall" "slots_of") rfl)
  m_Hall_how_many := He.meth_ok (c.d.fact 79 (f := .meth "Hall" "how_many") rfl)
  m_Hall_eq := He.meth_ok (c.d.fact 80 (f := .meth "Hall" "__eq__") rfl)
  g_law_mixed := He.glo_ok X G (c.d.fact 81 (f := .glo "_law_mixed") rfl)
  g_law_folded := He.glo_ok X G (c.d.fact 82 (f := .glo "_law_folded") rfl)
  g_law_draw := He.glo_ok X G (c.d.fact 83 (f := .glo "_law_draw") rfl)
  g_law_begun := He.glo_ok X G (c.d.fact 84 (f := .glo "_law_begun") rfl)
  g_law_numbers := He.glo_ok X G (c.d.fact 85 (f := .glo "_law_numbers") rfl)
  g_law_near := He.glo_ok X G (c.d.fact 86 (f := .glo "_law_near") rfl)
  g_law_plain_hall := He.glo_ok X G (c.d.fact 87 (f := .glo "_law_plain_hall") rfl)
  g_law_plain_order := He.glo_ok X G (c.d.fact 88 (f := .glo "_law_plain_order") rfl)
  g_law_order := He.glo_ok X G (c.d.fact 89 (f := .glo "_law_order") rfl)
  g_law_fits := He.glo_ok X G (c.d.fact 90 (f := .glo "_law_fits") rfl)
  g_law_slots_right := He.glo_ok X G (c.d.fact 91 (f := .glo "_law_slots_right") rfl)
  g_law_lost_right := He.glo_ok X G (c.d.fact 92 (f := .glo "_law_lost_right") rfl)
  g_law_hand_right := He.glo_ok X G (c.d.fact 93 (f := .glo "_law_hand_right") rfl)
  g_law := He.glo_ok X G (c.d.fact 94 (f := .glo "law") rfl)
  k_BARRED_WORDS := fun H => He.tupB_ok (c.ask 0 rfl) H
  k_KINDS := ktab_of (dk := fun K => He.ga K "KINDS") (kvs := [("sew", "hand"), ("glue", "hand"), ("cover", "hand"), ("letter", "hand"), ("press", "press")]) c.t 0 rfl (c.ask 1 rfl)
  od_Style := ownB_ok (c.ask 2 rfl)
  od_Job := ownB_ok (c.ask 3 rfl)
  od_Order := ownB_ok (c.ask 4 rfl)
  od_Hall := ownB_ok (c.ask 5 rfl)
  d_is_whole := c.d.def_ 0 (d := dd_is_whole) rfl
  d_is_name := c.d.def_ 1 (d := dd_is_name) rfl
  d_kind_of := c.d.def_ 2 (d := dd_kind_of) rfl
  d_is_step := c.d.def_ 3 (d := dd_is_step) rfl
  d_are_steps := c.d.def_ 4 (d := dd_are_steps) rfl
  d_Style_init := c.d.def_ 5 (d := dd_Style_init) rfl
  d_Style_span := c.d.def_ 6 (d := dd_Style_span) rfl
  d_Style_eq := c.d.def_ 7 (d := dd_Style_eq) rfl
  d_Job_init := c.d.def_ 8 (d := dd_Job_init) rfl
  d_Job_rank := c.d.def_ 9 (d := dd_Job_rank) rfl
  d_Job_eq := c.d.def_ 10 (d := dd_Job_eq) rfl
  d_is_night := c.d.def_ 11 (d := dd_is_night) rfl
  d_is_slot_of := c.d.def_ 12 (d := dd_is_slot_of) rfl
  d_are_sizes := c.d.def_ 13 (d := dd_are_sizes) rfl
  d_are_lost := c.d.def_ 14 (d := dd_are_lost) rfl
  d_Order_init := c.d.def_ 15 (d := dd_Order_init) rfl
  d_Order_wants := c.d.def_ 16 (d := dd_Order_wants) rfl
  d_Order_eq := c.d.def_ 17 (d := dd_Order_eq) rfl
  d_Hall_init := c.d.def_ 18 (d := dd_Hall_init) rfl
  d_Hall_lost := c.d.def_ 19 (d := dd_Hall_lost) rfl
  d_Hall_has_frame_of := c.d.def_ 20 (d := dd_Hall_has_frame_of) rfl
  d_Hall_is_slot := c.d.def_ 21 (d := dd_Hall_is_slot) rfl
  d_Hall_with_lost := c.d.def_ 22 (d := dd_Hall_with_lost) rfl
  d_Hall_with_found := c.d.def_ 23 (d := dd_Hall_with_found) rfl
  d_Hall_fitting := c.d.def_ 24 (d := dd_Hall_fitting) rfl
  d_Hall_slots_of := c.d.def_ 25 (d := dd_Hall_slots_of) rfl
  d_Hall_how_many := c.d.def_ 26 (d := dd_Hall_how_many) rfl
  d_Hall_eq := c.d.def_ 27 (d := dd_Hall_eq) rfl
  d_law_mixed := c.d.def_ 28 (d := dd_law_mixed) rfl
  d_law_folded := c.d.def_ 29 (d := dd_law_folded) rfl
  d_law_draw := c.d.def_ 30 (d := dd_law_draw) rfl
  d_law_begun := c.d.def_ 31 (d := dd_law_begun) rfl
  d_law_numbers := c.d.def_ 32 (d := dd_law_numbers) rfl
  d_law_near := c.d.def_ 33 (d := dd_law_near) rfl
  d_law_plain_hall := c.d.def_ 34 (d := dd_law_plain_hall) rfl
  d_law_plain_order := c.d.def_ 35 (d := dd_law_plain_order) rfl
  d_law_order := c.d.def_ 36 (d := dd_law_order) rfl
  d_law_fits := c.d.def_ 37 (d := dd_law_fits) rfl
  d_law_slots_right := c.d.def_ 38 (d := dd_law_slots_right) rfl
  d_law_lost_right := c.d.def_ 39 (d := dd_law_lost_right) rfl
  d_law_hand_right := c.d.def_ 40 (d := dd_law_hand_right) rfl
  d_law := c.d.def_ 41 (d := dd_law) rfl
end Bz
open PySem PySem.W PySem.Calls PyProof.Rows
theorem PySem.Challenge.cw_bindbench_k52_slots_that_fit_holds : PySem.Challenge.rw_bindbench_k52_slots_that_fit.Holds := by
  refine Bz.startL ?hc
  case hc =>
    refine Bz.walk_ofG (l := PySem.Challenge.rw_bindbench_k52_slots_that_fit) (n := 63) (k := 10) (x := "script") (CX := L2.CX0) rfl (by decide) (by kernel_rfl) ⟨rfl, by decide, by decide⟩ ?F (fun _ _ _ _ z => z)
    intro w mg fa h Y G hmg0
    obtain ⟨K, KX, c⟩ := Y
    have T := Bz.txt_of KX G c
    have hmg : mg ("law" : PySem.Str) = some (.ref fa) := by
      have e : (HandSHeadRun.topDef Bz.RR.prog 49).name = ("law" : PySem.Str) := by kernel_rfl
      rw [← e]
      exact hmg0
    have e := hmg.symm.trans T.g_law
    cases e
    obtain ⟨fd0, F0⟩ := T.d_law
    refine ⟨K, fd0, Bz.sp_law K, KX, fun s u => L2.FunD.bindsA (ps := ["script"]) F0 (fun _ _ _ _ _ _ us hl => match us, hl with | [_], _ => rfl) s [u] rfl, Bz.law_asked, fun base _ _ => ?_⟩
    obtain ⟨fd, F, g⟩ := Bz.ok_law (P := (PySem.Challenge.rw_bindbench_k52_slots_that_fit).prog) (w := w) (base := base) T
    obtain ⟨_, _, _, _, _, _, _, _, _, _, e1, l1, _⟩ := F0.ex
    obtain ⟨_, _, _, _, _, _, _, _, _, _, e2, l2, _⟩ := F.ex
    have e3 := l1.symm.trans l2
    cases e3
    exact g
