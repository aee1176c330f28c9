import PyProof.Rows.All
import HandS.ForMost
import HandS.Defaults
import HandS.IsInst
import HandS.StrMore
import HandS.Wide
import HandS.WideBits
import HandS.HeadHook3
import HandS.HeadEnd
import HandS.Head2
import PyProof.ReprNest
import HandS.TupAny
import HandS.Style
import HandS.Walk
import HandS.TupMul
import HandS.Text
import KE.IntTextLaws
import PyProof.ReprLen
import HandS.Ends
import HandS.MakeKw
import HandS.Zip
import HandS.SortInts
import KE.GoesMore
import HandS.SortKw
import HandS.SlotsOwn
import PyProof.Rows.Range3
import PyProof.CallStr
import OpenK.KOps
import PyProof.FactsAll.dict
import PyProof.MeetsIn
import PyProof.EqAt
import HandS.OwnEq
import HandS.FStr
import HandS.HeadHook1
import HandS.TryOnly
import HandS.More
import PySem.Challenge.RW_bindbench_k40_told_and_read
set_option Elab.async false
set_option linter.all false
set_option maxRecDepth 100000
set_option maxHeartbeats 4000000
namespace Bz
open PySem PySem.Spec PyProof.Rows L2
/-! a def's contract where no repr is under way -/
structure FnG (P : Program) (w : World) (K : PySem.W.Frag) (mg : Str → Option Value) (base : Heap) (CX : CXT)
    (k : Nat) (f : Addr) (fd : FuncData) (ps : List Str) (sp : Sp) : Prop where
  len : ∀ vs H Q E, sp vs H Q E → vs.length = ps.length
  go : ∀ (A : Around) (outer : List Env) (s : Shared) (H : Hp) (args : Args) (us : List Value) (vs : List V) (Q : VK) (E : XK),
    Room k A → A.guards = some [] → Env0 P w K mg base A outer s H → BindsTo s fd args (ps.zip us) → Vals vs us →
    sp vs H Q E → codeAny (model P w) A (.call (.ref f) args) (CR CX outer P w H s Q E) s
section
variable {P : Program} {w : World} {K : PySem.W.Frag} {mg : Str → Option Value} {base : Heap} {CX : CXT}
variable {k : Nat} {f : Addr} {fd : FuncData} {ps : List Str} {sp : Sp}
theorem FnG.of (F : FnOk P w K mg base CX k f fd ps sp) : FnG P w K mg base CX k f fd ps sp :=
  ⟨F.len, fun A o s H a us vs Q E r _ e b v q => F.run A o s H a us vs Q E r e b v q⟩
theorem FnG.mono {j : Nat} (F : FnG P w K mg base CX j f fd ps sp) (h : j ≤ k) : FnG P w K mg base CX k f fd ps sp :=
  ⟨F.len, fun A o s H a us vs Q E r g e b v q => F.go A o s H a us vs Q E (r.mono h) g e b v q⟩
theorem guards_deeper {A : Around} {env : Env} (h : A.guards = some []) : (A.deeper env).guards = some [] := h
theorem guards_make {A : Around} {a : Args} (h : A.guards = some []) : (A.under (.builtin "type.__call__" a)).guards = some [] := by
  have e : (Code.builtin "type.__call__" a).isGuard = false := by
    show guardIds.contains "type.__call__" = false
    decide +kernel
  simp [Around.under, Code.guards, e, h, pushGuards]
/-- a def by its body -/
theorem fnG_of {N : List Str} {x qual : Str} {params : Arguments} {body : List Stmt} {scope : Scope} {dvs : List V} {kws : List (Str × V)}
    (F : FunD K x qual params body scope dvs kws f fd) (S : FnScope N ps scope) (len : ∀ vs H Q E, sp vs H Q E → vs.length = ps.length)
    (hb : ∀ (cdv : Value) (A : Around) (outer : List Env) (s : Shared) (H : Hp) (vs : List V) (Q : VK) (E : XK),
      Room k (A.deeper (envOfC qual scope s.heap.objs.size f cdv)) → (A.deeper (envOfC qual scope s.heap.objs.size f cdv)).guards = some [] → sp vs H Q E →
      ∃ t, PSs (cxOf CX P w K mg base N qual scope f cdv A outer s H E) body t ∧ t { nx := fun _ H' => Q .non H', rt := Q } (start N vs) H) :
    FnG P w K mg base CX (k + 1) f fd ps sp := by
  obtain ⟨oc, od, dV, kV, doc, pm, an, cdv, ct, osl, rfl, lk, hcd, _, _⟩ := F.ex
  refine ⟨len, fun A outer s H args us vs Q E hr hg e0 bnd rv hq => ?_⟩
  have KX : K.In s.heap := e0.mod.kin.keeps fun b o e => (e0.bs b o e).1
  refine codeAny_call_function hr.depth (KX _ _ lk) rfl S.co S.gen rfl (PySem.W.codeRec_of KX hcd) (bnd _ _ _ _ ?_)
  refine wpAny_newFunctionEnv_cells S.kind ?_ ?_
  · rintro ⟨n, v⟩ hy
    rcases S.par n (List.of_mem_zip hy).1 with q | q
    · exact Or.inl q
    · exact Or.inr ⟨q, PySem.W.cellsFrom_some _ _ _ (Or.inl q)⟩
  · intro env he s1 x
    subst he
    have lim : s.heap.NoLimit := e0.mod.nolimit.keeps fun b o e => (e0.bs b o e).1
    refine ⟨lim.keeps x.toInCall.keep, codeAny_func ?_⟩
    obtain ⟨t, ht, q⟩ := hb cdv A outer s H vs Q E (hr.deeper _) (guards_deeper hg) hq
    have I := inv_start (CX := CX) (E := E) S hr.hd e0 (len _ _ _ _ hq) rv x
    refine wpAny_mono (ht.run [] s1 (start N vs) H _ I q) ?_ (fun _ _ z => z)
    intro fl s' z
    cases fl with
    | ret u =>
      obtain ⟨v, σ', H', J, r, q'⟩ := z
      exact ⟨v, H', J.os, J.bare, J.base, J.hok, r, q'⟩
    | next =>
      obtain ⟨σ', H', J, q'⟩ := z
      exact ⟨V.non, H', J.os, J.bare, J.base, J.hok, rfl, q'⟩
    | brk => exact z.elim fun _ z => z.elim fun _ z => z.2.elim
    | cont => exact z.elim fun _ z => z.elim fun _ z => z.2.elim
end
section
variable {X : Cx} {CX : CXT} {k : Nat} {f C : Addr} {fd : FuncData} {ps : List Str} {sp : Sp} {dvs : List V} {ds : List Value} {E : XK}
theorem run_g {pins : List (Addr × Obj)} {σ : L2.St} {H : Hp} {s : Shared} {Q : VK} {args : Args} {us : List Value} {vs : List V}
    (F : FnG X.prog X.w X.K X.mg X.base CX k f fd ps sp) (hr : Room k X.A) (hg : X.A.guards = some []) (hx : Passes CX X E)
    (I : Inv X pins σ H s) (b : BindsTo s fd args (ps.zip us)) (r : Vals vs us) (h : sp vs H Q E) :
    wpAny (model X.prog X.w) X.A (call (.ref f) args.pos args.kw) (EP X pins σ Q) X.xe s := by
  refine wpAny_call (codeAny_mono (F.go X.A X.stack s H args us vs Q E hr hg I.env0 b r h) ?_)
  intro r s' z
  cases r with
  | error e => exact hx pins σ H s e s' I z
  | ok fl =>
    cases fl with
    | ret u => exact I.after z
    | next => exact False.elim z
    | brk => exact False.elim z
    | cont => exact False.elim z
end
/-! ### the parts of a list by their places -/
def nth {α : Type} (d : α) : List α → Nat → α
  | [], _ => d
  | a :: _, 0 => a
  | _ :: l, n + 1 => nth d l n
def pick {α : Type} (d : α) : List Nat → List α → List α
  | [], _ => []
  | i :: r, l => nth d l i :: pick d r l
theorem nth_rel : ∀ {l : List V} {u : List Value} (i : Nat), Vals l u → RelV (nth .non l i) (nth .none u i)
  | _, _, _, .nil => rfl
  | _, _, 0, .cons r _ => r
  | _, _, i + 1, .cons _ t => nth_rel i t
theorem pick_rel {l : List V} {u : List Value} (r : Vals l u) : ∀ ix : List Nat, Vals (pick .non ix l) (pick .none ix u)
  | [] => .nil
  | i :: ix => .cons (nth_rel i r) (pick_rel r ix)
section
variable {K : PySem.W.Frag} {x qual : Str} {params : Arguments} {body : List Stmt} {scope : Scope} {dvs : List V} {kws : List (Str × V)} {f : Addr} {fd : FuncData} {ps : List Str}
/-- how a call binds: n places, keywords ks, no defaults -/
theorem kb0 (F : FunD K x qual params body scope [] kws f fd) (n : Nat) (ks : List Str) (ix : List Nat)
    (h : ∀ (kV doc pm : Value) (an : Option Addr) (cdv ct : Value) (us ws : List Value), us.length = n → ws.length = ks.length →
      bindArgs (PySem.W.fnOf x qual params body scope .none kV doc pm an cdv ct) ⟨us, ks.zip ws⟩ = pure (ps.zip (pick .none ix (us ++ ws)))) :
    ∃ g, KBn K fd ps n ks g (fun vs zs => pick .non ix (vs ++ zs)) := by
  obtain ⟨oc, od, dV, kV, doc, pm, an, cdv, ct, osl, rfl, lk, hcd, hD, hK⟩ := F.ex
  rcases hD with ⟨_, rfl⟩ | ⟨e, _⟩
  · exact ⟨fun us ws => pick .none ix (us ++ ws), fun s us ws _ l1 l2 => .of_eq (h kV doc pm an cdv ct us ws l1 l2), fun r1 r2 => pick_rel (r1.append r2) ix⟩
  · exact absurd rfl e
theorem kb1 (F : FunD K x qual params body scope dvs kws f fd) (hd : dvs ≠ []) (n : Nat) (ks : List Str) (ix : List Nat)
    (h : ∀ (T : Addr) (kV doc pm : Value) (an : Option Addr) (cdv ct : Value) (us ws its : List Value), us.length = n → ws.length = ks.length → its.length = dvs.length →
      ∃ k, bindArgs (PySem.W.fnOf x qual params body scope (.ref T) kV doc pm an cdv ct) ⟨us, ks.zip ws⟩ = seqItems? (.ref T) >>= k ∧ k (some its.toArray) = pure (ps.zip (pick .none ix (us ++ (ws ++ its))))) :
    ∃ g, KBn K fd ps n ks g (fun vs zs => pick .non ix (vs ++ (zs ++ dvs))) := by
  obtain ⟨oc, od, dV, kV, doc, pm, an, cdv, ct, osl, rfl, lk, hcd, hD, hK⟩ := F.ex
  rcases hD with ⟨e, _⟩ | ⟨_, T, o, its, m, rfl, lT, oT, rT⟩
  · exact absurd e hd
  · refine ⟨fun us ws => pick .none ix (us ++ (ws ++ its)), fun s us ws X l1 l2 => ?_, fun r1 r2 => pick_rel (r1.append (r2.append rT)) ix⟩
    obtain ⟨k, e1, e2⟩ := h T kV doc pm an cdv ct us ws its l1 l2 rT.length.symm
    refine L2.BindsTo.of_looks fun M => ?_
    rw [e1]
    exact looks_items X lT oT (.of_pure e2)
end
/-! ### calls by names -/
def tCl (n m : Nat) (sp : Sp) (gV : List V → List V → List V) (E : XK) (t tk : TA) : TE :=
  fun σ H Q => t σ H fun vs H1 => tk σ H1 fun zs H2 => vs.length = n ∧ zs.length = m ∧ sp (gV vs zs) H2 Q E
section
variable {X : Cx} {CX : CXT} {k n : Nat} {f C : Addr} {fd : FuncData} {ps ks : List Str} {sp : Sp} {E : XK} {x : Str} {p pos : Pos} {e : Expr} {es : List Expr} {kws : List Keyword} {t tk : TA}
variable {g : List Value → List Value → List Value} {gV : List V → List V → List V}
theorem run_gn {pins : List (Addr × Obj)} {σ : L2.St} {H : Hp} {s : Shared} {Q : VK} {us ws : List Value} {vs zs : List V}
    (F : FnG X.prog X.w X.K X.mg X.base CX k f fd ps sp) (hr : Room k X.A) (hg : X.A.guards = some []) (hb : KBn X.K fd ps n ks g gV) (hx : Passes CX X E)
    (I : Inv X pins σ H s) (r : Vals vs us) (rz : Vals zs ws) (l1 : vs.length = n) (l2 : zs.length = ks.length) (h : sp (gV vs zs) H Q E) :
    wpAny (model X.prog X.w) X.A (call (.ref f) us (ks.zip ws)) (EP X pins σ Q) X.xe s :=
  run_g (args := ⟨us, ks.zip ws⟩) F hr hg hx I (hb.to s us ws I.kIn (r.length.symm.trans l1) (rz.length.symm.trans l2)) (hb.rel r rz) h
/-- f(e, .., k = v, ..) with a place at least -/
theorem pe_cl (F : FnG X.prog X.w X.K X.mg X.base CX k f fd ps sp) (hr : Room k X.A) (hg : X.A.guards = some []) (gl : Gl X x) (hm : X.mg x = some (.ref f))
    (hk : PySem.W.keepIn X.K (.ref f) = true) (hb : KBn X.K fd ps n ks g gV) (hx : Passes CX X E) (ha : PA X (e :: es) t) (hkw : PK X kws tk)
    (h1 : (backToKw pos (keywordEach kws X.env)).all (·.1.isSome) = true := by rfl) (h2 : (backToKw pos (keywordEach kws X.env)).filterMap (·.1) = ks := by rfl)
    (h3 : (x == ("__debug__" : Str)) = false := by decide) (h4 : starEach (e :: es) X.env = (false, eval e X.env) :: starEach es X.env := by rfl)
    (h5 : ((backTo pos (starEach (e :: es) X.env)).any (·.1) || (backToKw pos (keywordEach kws X.env)).any (·.1.isNone)) = false := by rfl) :
    PE X (.Call (.Name x p) (e :: es) kws pos) (tCl n ks.length sp gV E t tk) := ⟨fun pins s σ H Q I h => by
  refine wpAny_Call_Name_kw (ld_glob I gl hm ?_ h3)
  refine PySem.W.callWith_KW (h₀ := X.base) I.ok.mod.kin hk h1 (thn (ha.run pos pins s σ H _ I h) ?_) h5 h4
  rintro us s1 ⟨vs, H1, I1, r, q⟩
  refine thn (hkw.run pos pins s1 σ H1 _ I1 q) ?_
  rintro ws s2 ⟨zs, H2, I2, rz, l1, l2, q2⟩
  refine ⟨I2.kIn, ?_⟩
  rw [h2]
  exact run_gn F hr hg hb hx I2 r rz l1 l2 q2⟩
/-- f(k = v, ..), f() -/
theorem pe_cl0 (F : FnG X.prog X.w X.K X.mg X.base CX k f fd ps sp) (hr : Room k X.A) (hg : X.A.guards = some []) (gl : Gl X x) (hm : X.mg x = some (.ref f))
    (hk : PySem.W.keepIn X.K (.ref f) = true) (hb : KBn X.K fd ps n ks g gV) (hx : Passes CX X E) (hkw : PK X kws tk)
    (h1 : (backToKw pos (keywordEach kws X.env)).all (·.1.isSome) = true := by rfl) (h2 : (backToKw pos (keywordEach kws X.env)).filterMap (·.1) = ks := by rfl)
    (h3 : (x == ("__debug__" : Str)) = false := by decide)
    (h5 : ((backTo pos (starEach [] X.env)).any (·.1) || (backToKw pos (keywordEach kws X.env)).any (·.1.isNone)) = false := by rfl) :
    PE X (.Call (.Name x p) [] kws pos) (tCl n ks.length sp gV E tNil tk) := ⟨fun pins s σ H Q I h => by
  refine wpAny_Call_Name_kw (ld_glob I gl hm ?_ h3)
  refine PySem.W.callWith_KW0 (h₀ := X.base) I.ok.mod.kin hk h1 (thn (hkw.run pos pins s σ H _ I h) ?_) h5
  rintro ws s2 ⟨zs, H2, I2, rz, l1, l2, q2⟩
  refine ⟨I2.kIn, ?_⟩
  rw [h2]
  exact run_gn (us := []) (vs := []) F hr hg hb hx I2 .nil rz l1 l2 q2⟩
end
/-! ### operators, whatever the kinds -/
section
variable {X : Cx}
abbrev rAddI : R2 := rI0 fun i j => .int (i + j)
def rAddS : R2 := fun x y H Q => ∃ i j, x = .str i ∧ y = .str j ∧ i.length + j.length ≤ sizeLine ∧ Q (.str (i ++ j)) H
def rAddA (K : PySem.W.Frag) : R2 := fun x y H Q => rAddI x y H Q ∨ rAddS x y H Q ∨ rCat x y H Q ∨ L2.rCatA K x y H Q
theorem op_addA : OpR X (binaryOp .Add) (rAddA X.K) := OpR.or op_add (OpR.or op_add_str (OpR.or op_cat op_catA))
/-- text * number, the number 0 or more -/
def repS (x : Str) (n : Nat) : Str := ⟨(List.replicate n x.cps.toList).flatten.toArray⟩
theorem repS_fold (a : Array Nat) : ∀ (n : Nat) (acc : Array Nat), (List.replicate n a).foldl (· ++ ·) acc = acc ++ (List.replicate n a.toList).flatten.toArray
  | 0, acc => by simp
  | n + 1, acc => by
    rw [List.replicate_succ, List.foldl_cons, repS_fold a n, List.replicate_succ, List.flatten_cons]
    apply Array.ext'
    simp
def rMulS : R2 := fun x y H Q => ∃ (z : Str) (n : Nat), x = .str z ∧ y = .int n ∧ z.length * n ≤ 16777216 ∧ 1 < n ∧ 0 < z.length ∧ Q (.str (repS z n)) H
theorem op_mulS : OpR X (binaryOp .Mult) rMulS := by
  intro pins s σ H x y v u Q I rx ry h
  obtain ⟨z, n, rfl, rfl, hz, h1, h0, q⟩ := h
  obtain ⟨t, rfl⟩ := rx
  obtain ⟨t', rfl⟩ := ry
  have hn : n ≤ 16777216 := Nat.le_trans (Nat.le_mul_of_pos_left n h0) hz
  have e1 : ((n : Int) == 1 || z.length == 0) = false := by
    have a : ((n : Int) == 1) = false := beq_eq_false_iff_ne.mpr (by omega)
    have b : (z.length == 0) = false := beq_eq_false_iff_ne.mpr (by omega)
    rw [a, b]
    rfl
  have hl : z.length ≤ 16777216 := Nat.le_trans (Nat.le_mul_of_pos_right _ (by omega)) hz
  refine PySem.P.mul_str (by rw [decide_eq_false (by omega), decide_eq_false (by omega)]; rfl) (fun _ _ hc => ?_) (fun _ _ => ?_) ?_
  · have h2 : (2 ^ 63 - 1 : Int) / (n : Int) ≥ (2 ^ 63 - 1) / 16777216 := by
      rw [ge_iff_le, Int.le_ediv_iff_mul_le (by omega)]
      have : ((2 ^ 63 - 1 : Int) / 16777216) * (n : Int) ≤ (2 ^ 63 - 1) / 16777216 * 16777216 := Int.mul_le_mul_of_nonneg_left (by omega) (by decide)
      omega
    have h3 : ((2 ^ 63 - 1 : Int) / 16777216) = 549755813887 := by decide
    omega
  · show decide _ = false
    rw [Int.toNat_natCast]
    refine decide_eq_false ?_
    have e := sizeLine_eq
    omega
  · rw [if_neg (by omega), if_neg (by rw [e1]; exact Bool.false_ne_true), Int.toNat_natCast]
    have e2 : (⟨(List.replicate n z.cps).foldl (· ++ ·) #[]⟩ : Str) = repS z n := by
      unfold repS
      rw [repS_fold]
      simp
    rw [e2]
    refine ⟨?_, ⟨.str (repS z n), H, I.tok _, ⟨_, rfl⟩, q⟩⟩
    show (repS z n).cps.size ≤ sizeLine
    unfold repS
    rw [List.size_toArray, PyProof.Rows.lm_len_rep_flat, sizeLine_eq]
    have : z.cps.toList.length = z.length := by simp [Str.length]
    rw [this, Nat.mul_comm]
    exact hz
def rMulA : R2 := fun x y H Q => rI CMul (fun i j => .int (i * j)) x y H Q ∨ rMulS x y H Q ∨ rRep x y H Q
theorem op_mulA : OpR X (binaryOp .Mult) rMulA := OpR.or op_mul (OpR.or op_mulS op_rep)
/-! == of anything that is data -/
def rEqA (K : PySem.W.Frag) : R2 := fun x y H Q => rEq x y H Q ∨ rEqD K x y H Q
def rNeA (K : PySem.W.Frag) : R2 := fun x y H Q => rNe x y H Q ∨ rNeD K x y H Q
theorem op_eqA {k : Nat} (hr : Room k X.A) : OpR X (compareOp .Eq) (rEqA X.K) := OpR.or op_eq (op_eqD hr.units)
theorem op_neA {k : Nat} (hr : Room k X.A) : OpR X (compareOp .NotEq) (rNeA X.K) := OpR.or op_ne (op_neD hr.units)
/-! in: of a list or tuple of flat things, a sign in a text -/
def rInSg : R2 := fun x y H Q => ∃ (c : Nat) (z : Str), x = .str ⟨#[c]⟩ ∧ y = .str z ∧ Q (.bl (decide (c ∈ z.cps.toList))) H
def rNotInSg : R2 := fun x y H Q => ∃ (c : Nat) (z : Str), x = .str ⟨#[c]⟩ ∧ y = .str z ∧ Q (.bl (!decide (c ∈ z.cps.toList))) H
def rInA (K : PySem.W.Frag) : R2 := fun x y H Q => rIn K false x y H Q ∨ rInSg x y H Q
def rNotInA (K : PySem.W.Frag) : R2 := fun x y H Q => rIn K true x y H Q ∨ rNotInSg x y H Q
theorem op_inA : OpR X (compareOp .In) (rInA X.K) := OpR.or op_in_seq op_in_sign
theorem op_notInA : OpR X (compareOp .NotIn) (rNotInA X.K) := OpR.or op_notIn_seq op_notIn_sign
/-! repr of data -/
def rRepr (K : PySem.W.Frag) : List V → Hp → VK → Prop := fun xs H Q => ∃ a d, xs = [a] ∧ Dp K H a d ∧ d.showable = true ∧ d.hasDict = false ∧ d.shown.length ≤ sizeLine ∧ d.depth ≤ 60 ∧ Q (.str d.shown) H
theorem call_repr {k : Nat} (hr : Room k X.A) (hg : X.A.guards = some []) : CallR X (.builtin "repr") (rRepr X.K) := by
  intro pins s σ H xs us Q I r h
  obtain ⟨a, d, rfl, hd, hs, hn, hz, hw, q⟩ := h
  obtain ⟨u, rfl, ru⟩ := vals1 r
  obtain ⟨as, rd⟩ := Dp.reads I d a u hd ru
  have := hr.units
  cases hd with
  | non =>
    cases ru
    refine PySem.P.repr_of_none ⟨.str _, H, I.tok _, ⟨_, rfl⟩, ?_⟩
    simpa only [PyData.shown] using q
  | bl b =>
    cases ru
    refine PySem.P.repr_of_bool ⟨.str _, H, I.tok _, ⟨_, rfl⟩, ?_⟩
    simpa only [PyData.shown] using q
  | int i =>
    obtain ⟨t, rfl⟩ := ru
    refine PySem.P.repr_of_int (by simpa [PyData.showable] using hs) ⟨.str _, H, I.tok _, ⟨_, rfl⟩, ?_⟩
    simpa only [PyData.shown] using q
  | str x =>
    obtain ⟨t, rfl⟩ := ru
    refine PySem.P.repr_of_str ⟨.str _, H, I.tok _, ⟨_, rfl⟩, ?_⟩ (by simpa only [PyData.shown] using hz)
    simpa only [PyData.shown] using q
  | lst h1 h2 =>
    cases ru
    exact repr_of_reads' rd hs (PyData.noDict_hsm hn) hg (by omega) (fun _ _ e => e) (fun h' u tk kp => ⟨.str _, H, I.kept kp, ⟨_, rfl⟩, q⟩) hz
  | tup h1 h2 =>
    cases ru
    exact repr_of_reads' rd hs (PyData.noDict_hsm hn) hg (by omega) (fun _ _ e => e) (fun h' u tk kp => ⟨.str _, H, I.kept kp, ⟨_, rfl⟩, q⟩) hz
end
end Bz
namespace Bz
open PySem PySem.Spec PyProof.Rows L2
/-! ### what is known of the heap: B what stays for good, M and L what is owned and may change -/
structure Is (B : Hp) (M L : List (Addr × HO)) (H : Hp) : Prop where
  ex : Same B H
  own : ∀ p ∈ L ++ M, H p.1 = some p.2 ∧ B p.1 = none
  nd : ((L ++ M).map (·.1)).Nodup
inductive Put (a : Addr) (o : HO) : List (Addr × HO) → List (Addr × HO) → Prop
  | here {u : HO} {L : List (Addr × HO)} : Put a o ((a, u) :: L) ((a, o) :: L)
  | there {x : Addr × HO} {L L' : List (Addr × HO)} : Put a o L L' → Put a o (x :: L) (x :: L')
inductive Del (a : Addr) (o : HO) : List (Addr × HO) → List (Addr × HO) → Prop
  | here {L : List (Addr × HO)} : Del a o ((a, o) :: L) L
  | there {x : Addr × HO} {L L' : List (Addr × HO)} : Del a o L L' → Del a o (x :: L) (x :: L')
section
variable {a : Addr} {o : HO} {L L' : List (Addr × HO)}
theorem Put.keys : ∀ {L L'}, Put a o L L' → L'.map (·.1) = L.map (·.1)
  | _, _, .here => rfl
  | _, _, .there h => by rw [List.map_cons, List.map_cons, h.keys]
theorem Put.mem : ∀ {L L'}, Put a o L L' → ∀ p ∈ L', p ∈ L ∨ p = (a, o)
  | _, _, .here, p, hp => by
    rcases List.mem_cons.mp hp with e | e
    · exact .inr e
    · exact .inl (List.mem_cons_of_mem _ e)
  | _, _, .there h, p, hp => by
    rcases List.mem_cons.mp hp with e | e
    · exact .inl (by rw [e]; exact List.mem_cons_self)
    · rcases h.mem p e with q | q
      · exact .inl (List.mem_cons_of_mem _ q)
      · exact .inr q
theorem Put.has : ∀ {L L'}, Put a o L L' → a ∈ L.map (·.1)
  | _, _, .here => List.mem_cons_self
  | _, _, .there h => List.mem_cons_of_mem _ h.has
theorem Put.app {M : List (Addr × HO)} : ∀ {L L'}, Put a o L L' → Put a o (L ++ M) (L' ++ M)
  | _, _, .here => .here
  | _, _, .there h => .there h.app
theorem Put.app2 (h : Put a o L L') : ∀ M : List (Addr × HO), Put a o (M ++ L) (M ++ L')
  | [] => h
  | _ :: M => .there (Put.app2 h M)
theorem Del.mem : ∀ {L L'}, Del a o L L' → (a, o) ∈ L
  | _, _, .here => List.mem_cons_self
  | _, _, .there h => List.mem_cons_of_mem _ h.mem
theorem Del.perm : ∀ {L L'}, Del a o L L' → L.Perm ((a, o) :: L')
  | _, _, .here => .refl _
  | _, _, .there h => (List.Perm.cons _ h.perm).trans (.swap _ _ _)
end
section
variable {B B' H H' : Hp} {M M' L L' : List (Addr × HO)} {a p : Addr} {o u : HO} {K : PySem.W.Frag} {xs : List V}
theorem Is.get (I : Is B M L H) (h : (a, o) ∈ L) : H a = some o := (I.own (a, o) (List.mem_append_left _ h)).1
theorem Is.getM (I : Is B M L H) (h : (a, o) ∈ M) : H a = some o := (I.own (a, o) (List.mem_append_right _ h)).1
theorem Is.free (I : Is B M L H) (h : H p = none) : B p = none := I.ex.free h
theorem Is.back {B0 : Hp} (s : Same B0 B) (I : Is B M L H) : Is B0 M L H := ⟨s.trans I.ex, fun p hp => ⟨(I.own p hp).1, s.free (I.own p hp).2⟩, I.nd⟩
theorem Is.notin (I : Is B M L H) (h : H p = none) : p ∉ (L ++ M).map (·.1) := fun z => by
  obtain ⟨q, hq, e⟩ := List.mem_map.mp z
  have := (I.own q hq).1
  rw [e, h] at this
  cases this
/-- a new object -/
theorem Is.new (I : Is B M L H) (h : H p = none) : Is B M ((p, o) :: L) (upd H p o) := by
  refine ⟨fun b x e => ?_, fun q hq => ?_, ?_⟩
  · have := I.ex b x e
    rw [upd_ne (ne_of_none this h)]
    exact this
  · rcases List.mem_cons.mp hq with e | e
    · rw [e]
      exact ⟨upd_same, I.free h⟩
    · obtain ⟨h1, h2⟩ := I.own q e
      exact ⟨by rw [upd_ne (ne_of_none h1 h)]; exact h1, h2⟩
  · exact List.nodup_cons.mpr ⟨I.notin h, I.nd⟩
/-- a new object, the rest as it was (behind a call) -/
theorem Is.new' (I : Is B M L H) (s : Same H H') (h : H p = none) (e : H' p = some o) : Is B M ((p, o) :: L) H' := by
  refine ⟨I.ex.trans s, fun q hq => ?_, List.nodup_cons.mpr ⟨I.notin h, I.nd⟩⟩
  rcases List.mem_cons.mp hq with z | z
  · rw [z]
    exact ⟨e, I.free h⟩
  · obtain ⟨h1, h2⟩ := I.own q z
    exact ⟨s _ _ h1, h2⟩
theorem Is.same (I : Is B M L H) (s : Same H H') : Is B M L H' := ⟨I.ex.trans s, fun q hq => ⟨s _ _ (I.own q hq).1, (I.own q hq).2⟩, I.nd⟩
theorem Is.put0 {l l' : List (Addr × HO)} (hl : Put a o l l') (ex : Same B H) (own : ∀ p ∈ l, H p.1 = some p.2 ∧ B p.1 = none) (nd : (l.map (·.1)).Nodup) :
    Same B (upd H a o) ∧ (∀ p ∈ l', (upd H a o) p.1 = some p.2 ∧ B p.1 = none) ∧ (l'.map (·.1)).Nodup := by
  have ha : B a = none := by
    obtain ⟨q, hq, e⟩ := List.mem_map.mp hl.has
    rw [← e]
    exact (own q hq).2
  refine ⟨fun b x e => ?_, fun q hq => ?_, by rw [hl.keys]; exact nd⟩
  · have hb : b ≠ a := fun z => by rw [z, ha] at e; cases e
    rw [upd_ne hb]
    exact ex b x e
  · by_cases hqa : q.1 = a
    · refine ⟨?_, by rw [hqa]; exact ha⟩
      -- the only entry at a is the new one
      have key : ∀ {l l'}, Put a o l l' → (l.map (·.1)).Nodup → ∀ q ∈ l', q.1 = a → q = (a, o) := by
        intro l l' h
        induction h with
        | here =>
          intro n q hq e
          rcases List.mem_cons.mp hq with z | z
          · exact z
          · have n1 := (List.nodup_cons.mp n).1
            exact absurd (show a ∈ _ from by rw [← e]; exact List.mem_map_of_mem z) n1
        | there h ih =>
          intro n q hq e
          obtain ⟨n1, n2⟩ := List.nodup_cons.mp n
          rcases List.mem_cons.mp hq with z | z
          · rw [z] at e
            have n1' : ¬ _ ∈ _ := n1
            exact absurd (by rw [← e] at h; exact h.has) n1'
          · exact ih n2 q z e
      rw [key hl nd q hq hqa]
      exact upd_same
    · rw [upd_ne hqa]
      rcases hl.mem q hq with z | z
      · exact own q z
      · rw [z] at hqa
        exact absurd rfl hqa
theorem Is.put (I : Is B M L H) (h : Put a o L L') : Is B M L' (upd H a o) := by
  obtain ⟨h1, h2, h3⟩ := Is.put0 (h.app (M := M)) I.ex I.own I.nd
  exact ⟨h1, h2, h3⟩
theorem Is.putM (I : Is B M L H) (h : Put a o M M') : Is B M' L (upd H a o) := by
  obtain ⟨h1, h2, h3⟩ := Is.put0 (h.app2 L) I.ex I.own I.nd
  exact ⟨h1, h2, h3⟩
/-- a thing is given away: it will not change any more -/
theorem Is.frz (I : Is B M L H) (d : Del a o L L') : Is (upd B a o) M L' H ∧ Same B (upd B a o) := by
  have pm : (L ++ M).Perm ((a, o) :: (L' ++ M)) := (d.perm.append_right M)
  have ha := I.own (a, o) (List.mem_append_left _ d.mem)
  have nd := (pm.map (·.1)).nodup_iff.mp I.nd
  obtain ⟨n1, n2⟩ := List.nodup_cons.mp nd
  refine ⟨⟨fun b x e => ?_, fun q hq => ?_, n2⟩, fun b x e => ?_⟩
  · by_cases hb : b = a
    · rw [hb, upd_same] at e
      rw [hb, ← e]
      exact ha.1
    · rw [upd_ne hb] at e
      exact I.ex b x e
  · have h2 := I.own q (pm.mem_iff.mpr (List.mem_cons_of_mem _ hq))
    refine ⟨h2.1, ?_⟩
    have hb : q.1 ≠ a := fun z => n1 (by rw [← z]; exact List.mem_map.mpr ⟨q, hq, rfl⟩)
    rw [upd_ne hb]
    exact h2.2
  · have hb : b ≠ a := fun z => by
      have := ha.2
      rw [z, this] at e
      cases e
    rw [upd_ne hb]
    exact e
theorem Is.forget (I : Is B M L H) (h : L'.Sublist L) : Is B M L' H :=
  ⟨I.ex, fun q hq => I.own q ((h.append (.refl M)).subset hq), I.nd.sublist ((h.append (.refl M)).map _)⟩
theorem Is.forgetM (I : Is B M L H) (h : M'.Sublist M) : Is B M' L H :=
  ⟨I.ex, fun q hq => I.own q (((List.Sublist.refl L).append h).subset hq), I.nd.sublist (((List.Sublist.refl L).append h).map _)⟩
theorem Is.perm (I : Is B M L H) (h : L'.Perm L) : Is B M L' H :=
  ⟨I.ex, fun q hq => I.own q ((h.append_right M).mem_iff.mp hq), ((h.append_right M).map _).nodup_iff.mpr I.nd⟩
/-- owned things told as M -/
theorem Is.toM (I : Is B [] (L ++ M) H) : Is B M L H := ⟨I.ex, fun q hq => I.own q (by rw [List.append_nil]; exact hq), by have := I.nd; rwa [List.append_nil] at this⟩
theorem Is.ofM (I : Is B M L H) : Is B [] (L ++ M) H := ⟨I.ex, fun q hq => I.own q (by rwa [List.append_nil] at hq), by have := I.nd; rwa [List.append_nil]⟩
theorem Same.sqT (e : Same H H') (h : SqT K H a xs) : SqT K H' a xs := by
  rcases h with (h | ⟨o, h⟩) | h
  · exact .inl (.inl (e _ _ h))
  · exact .inl (.inr ⟨o, e _ _ h⟩)
  · exact .inr h
theorem Is.sq (I : Is B M L H) (h : SqL K B a xs) : SqL K H a xs := Same.seq I.ex h
theorem Is.st (I : Is B M L H) (h : SqT K B a xs) : SqT K H a xs := Same.sqT I.ex h
theorem Is.sqL (I : Is B M L H) (h : (a, HO.lst xs) ∈ L) : SqL K H a xs := .of (I.get h)
theorem Is.stL (I : Is B M L H) (h : (a, HO.tup xs) ∈ L) : SqT K H a xs := .of (I.get h)
theorem Is.sqM (I : Is B M L H) (h : (a, HO.lst xs) ∈ M) : SqL K H a xs := .of (I.getM h)
theorem Is.b (I : Is B M L H) (h : B a = some o) : H a = some o := I.ex _ _ h
mutual
theorem Dp.same (e : Same H H') : ∀ {v : V} {d : PyData}, Dp K H v d → Dp K H' v d
  | _, _, .non => .non
  | _, _, .bl b => .bl b
  | _, _, .int i => .int i
  | _, _, .str x => .str x
  | _, _, .lst h1 h2 => .lst (Same.seq e h1) (DpAll.same e h2)
  | _, _, .tup h1 h2 => .tup (Same.sqT e h1) (DpAll.same e h2)
theorem DpAll.same (e : Same H H') : ∀ {v : List V} {d : List PyData}, DpAll K H v d → DpAll K H' v d
  | _, _, .nil => .nil
  | _, _, .cons h1 h2 => .cons (Dp.same e h1) (DpAll.same e h2)
end
end
end Bz
namespace Bz
open PySem PySem.Spec PyProof.Rows L2
abbrev St := L2.St
/-! ### slots -/
inductive At : St → Nat → V → Prop
  | z {v : V} {l : St} : At (some v :: l) 0 v
  | s {x : Option V} {l : St} {n : Nat} {v : V} : At l n v → At (x :: l) (n + 1) v
inductive SetAt : St → Nat → Option V → St → Prop
  | z {x v : Option V} {l : St} : SetAt (x :: l) 0 v (v :: l)
  | s {x v : Option V} {l l' : St} {n : Nat} : SetAt l n v l' → SetAt (x :: l) (n + 1) v (x :: l')
inductive Wiped : St → List Nat → St → Prop
  | nil {σ : St} : Wiped σ [] σ
  | cons {σ σ1 σ2 : St} {v : Nat} {vs : List Nat} : Wiped σ vs σ1 → SetAt σ1 v none σ2 → Wiped σ (v :: vs) σ2
theorem At.eq : ∀ {σ : St} {n : Nat} {v : V}, At σ n v → σ[n]? = some (some v)
  | _, _, _, .z => rfl
  | _, _, _, .s h => by
    rw [List.getElem?_cons_succ]
    exact h.eq
theorem SetAt.eq : ∀ {σ σ' : St} {n : Nat} {v : Option V}, SetAt σ n v σ' → σ.set n v = σ'
  | _, _, _, _, .z => rfl
  | _, _, _, _, .s h => by rw [List.set_cons_succ, h.eq]
theorem Wiped.eq : ∀ {σ σ' : St} {vs : List Nat}, Wiped σ vs σ' → wipe σ vs = σ'
  | _, _, _, .nil => rfl
  | _, _, _, .cons h s => by
    unfold wipe
    rw [h.eq, s.eq]
/-! ### steps of a reading -/
section
variable {σ σ' : St} {H : Hp} {Q : VK} {v x y : V} {i : Nat} {ta tb tc te : TE} {D : Ends} {t u : TS} {c c' : TT} {K : PySem.W.Frag} {R : It → Hp → Prop}
variable {nx bk ct : St → Hp → Prop} {rt : VK} {QB : Bool → Hp → Prop} {QL : List V → Hp → Prop} {QS : St → Hp → Prop} {tl tr : TA} {r r' : R2}
theorem g_seq (h : t ⟨fun σ H => u ⟨nx, rt, bk, ct⟩ σ H, rt, bk, ct⟩ σ H) : tSeq t u ⟨nx, rt, bk, ct⟩ σ H := h
theorem g_next (h : nx σ H) : tNext ⟨nx, rt, bk, ct⟩ σ H := h
theorem g_brk (h : bk σ H) : tBreak ⟨nx, rt, bk, ct⟩ σ H := h
theorem g_cont (h : ct σ H) : tCont ⟨nx, rt, bk, ct⟩ σ H := h
theorem g_drop (h : te σ H fun _ H1 => nx σ H1) : tDrop te ⟨nx, rt, bk, ct⟩ σ H := h
theorem g_ret (h : te σ H rt) : tRet te ⟨nx, rt, bk, ct⟩ σ H := h
theorem g_retN (h : rt .non H) : tRetN ⟨nx, rt, bk, ct⟩ σ H := h
theorem g_ifS (h : c σ H fun b H1 => if b = true then t ⟨nx, rt, bk, ct⟩ σ H1 else u ⟨nx, rt, bk, ct⟩ σ H1) : tIfS c t u ⟨nx, rt, bk, ct⟩ σ H := h
theorem g_asg {g : TG} (h : te σ H fun x H1 => g x σ H1 nx) : tAsg te g ⟨nx, rt, bk, ct⟩ σ H := h
theorem g_name (s : SetAt σ i (some v) σ') (q : QS σ' H) : gName i v σ H QS := by
  show QS (σ.set i (some v)) H
  rw [s.eq]
  exact q
theorem g_par {j : Nat} (h : tl σ H fun vs H1 => ∃ v w, vs = [v, w] ∧ nx ((σ.set i (some v)).set j (some w)) H1) : tPar i j tl ⟨nx, rt, bk, ct⟩ σ H := h
theorem g_par2 {j : Nat} {w : V} {σ2 : St} (s : SetAt σ i (some v) σ') (s2 : SetAt σ' j (some w) σ2) (q : nx σ2 H) :
    ∃ v' w', [v, w] = [v', w'] ∧ nx ((σ.set i (some v')).set j (some w')) H := by
  refine ⟨v, w, rfl, ?_⟩
  rw [s.eq, s2.eq]
  exact q
theorem g_var (h : At σ i v) (q : Q v H) : tVar i σ H Q := ⟨v, h.eq, q⟩
theorem g_c (q : Q v H) : tC v σ H Q := q
theorem g_op (h : ta σ H fun x H1 => tb σ H1 fun y H2 => r x y H2 Q) : tOp r ta tb σ H Q := h
theorem g_un {r : V → Hp → VK → Prop} (h : ta σ H fun x H1 => r x H1 Q) : tUn r ta σ H Q := h
theorem g_nil (q : QL [] H) : tNil σ H QL := q
theorem g_cons (h : te σ H fun x H1 => tr σ H1 fun xs H2 => QL (x :: xs) H2) : tCons te tr σ H QL := h
theorem g_cb {r : List V → Hp → VK → Prop} (h : tl σ H fun vs H1 => r vs H1 Q) : tCB r tl σ H Q := h
/-! tests -/
def aBl (x : V) (H : Hp) (Q : Bool → Hp → Prop) : Prop := ∃ k, x = .bl k ∧ Q k H
theorem g_test (h : te σ H fun x H1 => aBl x H1 QB) : tTest te σ H QB := h
theorem g_tB (h : te σ H fun x H1 => aBl x H1 QB) : tB te σ H QB := h
theorem g_bl {b : Bool} (q : QB b H) : aBl (.bl b) H QB := ⟨b, rfl, q⟩
theorem g_and (h : c σ H fun b H1 => if b = true then c' σ H1 QB else QB false H1) : tAnd c c' σ H QB := h
theorem g_or (h : c σ H fun b H1 => if b = true then QB true H1 else c' σ H1 QB) : tOr c c' σ H QB := h
theorem g_not (h : c σ H fun b H1 => QB (!b) H1) : tNot c σ H QB := h
def aIfV (x : V) (H : Hp) (A B : Hp → Prop) : Prop := ∃ c, x = .bl c ∧ if c = true then A H else B H
theorem g_andV (h : ta σ H fun x H1 => aIfV x H1 (fun H1 => tb σ H1 Q) fun H1 => Q (.bl false) H1) : tAndV ta tb σ H Q := h
theorem g_orV (h : ta σ H fun x H1 => aIfV x H1 (fun H1 => Q (.bl true) H1) fun H1 => tb σ H1 Q) : tOrV ta tb σ H Q := h
theorem g_ifV {A B : Hp → Prop} {b : Bool} (h : if b = true then A H else B H) : aIfV (.bl b) H A B := ⟨b, rfl, h⟩
def aNot (x : V) (H : Hp) (Q : VK) : Prop := ∃ c, x = .bl c ∧ Q (.bl (!c)) H
theorem g_notV (h : ta σ H fun x H1 => aNot x H1 Q) : tNotV ta σ H Q := h
theorem g_aNot {b : Bool} (q : Q (.bl (!b)) H) : aNot (.bl b) H Q := ⟨b, rfl, q⟩
theorem g_ifE (h : c σ H fun b H1 => if b = true then ta σ H1 Q else tb σ H1 Q) : tIf c ta tb σ H Q := h
theorem g_chain (h : ta σ H fun x H1 => tb σ H1 fun y H2 => r x y H2 fun z H3 => aIfV z H3 (fun H3 => tc σ H3 fun w H4 => r' y w H4 Q) fun H3 => Q (.bl false) H3) : tChain r r' ta tb tc σ H Q := h
def tTr (K : PySem.W.Frag) (ta : TE) : TT := fun σ H Q => ta σ H fun x H' => ∃ k, TruV K x H' k ∧ Q k H'
def aTru (K : PySem.W.Frag) (x : V) (H : Hp) (Q : Bool → Hp → Prop) : Prop := ∃ k, TruV K x H k ∧ Q k H
theorem pt_tr {X : Cx} {a : Expr} {ta : TE} (ha : PE X a ta) (he : ∀ whole, isTrue a X.env whole = (do let v ← whole; standAt a.pos; holding [v] (truthy v)) := by intro _; rfl) : PT X a (tTr X.K ta) := pt_truth ha he
theorem g_tr (h : ta σ H fun x H' => aTru K x H' QB) : tTr K ta σ H QB := h
theorem g_tru_bl {b : Bool} (q : QB b H) : aTru K (.bl b) H QB := ⟨b, rfl, q⟩
theorem g_tru_non (q : QB false H) : aTru K .non H QB := ⟨false, rfl, q⟩
theorem g_tru_int {n : Int} (q : QB (n != 0) H) : aTru K (.int n) H QB := ⟨_, rfl, q⟩
theorem g_tru_lst {a : Addr} {xs : List V} (h : SqL K H a xs) (q : QB (!xs.isEmpty) H) : aTru K (.ref a) H QB := ⟨_, .inl ⟨xs, h, rfl⟩, q⟩
theorem g_tru_str {z : Str} (h : z.length ≤ sizeLine) (q : QB ((z.length : Int) != 0) H) : aTru K (.str z) H QB := ⟨_, ⟨h, rfl⟩, q⟩
/-! numbers -/
theorem g_rI0 {g : Int → Int → V} {a b : Int} (q : Q (g a b) H) : rI0 g (.int a) (.int b) H Q := ⟨a, b, rfl, rfl, q⟩
theorem g_rI {C : Int → Int → Prop} {g : Int → Int → V} {a b : Int} (h : C a b) (q : Q (g a b) H) : rI C g (.int a) (.int b) H Q := ⟨a, b, rfl, rfl, h, q⟩
theorem g_rU {g : Int → V} {a : Int} (q : Q (g a) H) : rU g (.int a) H Q := ⟨a, rfl, q⟩
theorem g_add_i {a b : Int} (q : Q (.int (a + b)) H) : rAddA K (.int a) (.int b) H Q := .inl ⟨a, b, rfl, rfl, q⟩
theorem g_add_s {a b : Str} (h : a.length + b.length ≤ 1000000) (q : Q (.str (a ++ b)) H) : rAddA K (.str a) (.str b) H Q :=
  .inr (.inl ⟨a, b, rfl, rfl, Nat.le_trans h (by decide), q⟩)
theorem g_mul_i {a b : Int} (h : CMul a b) (q : Q (.int (a * b)) H) : rMulA (.int a) (.int b) H Q := .inl ⟨a, b, rfl, rfl, h, q⟩
theorem g_mul_s {z : Str} {n : Nat} (h : z.length * n ≤ 1000000) (h1 : 1 < n) (h0 : 0 < z.length) (q : Q (.str (repS z n)) H) : rMulA (.str z) (.int (n : Int)) H Q :=
  .inr (.inl ⟨z, n, rfl, rfl, Nat.le_trans h (by decide), h1, h0, q⟩)
/-! comparisons -/
theorem g_eq_s (h : scal x y = true) (q : Q (.bl (decide (x = y))) H) : rEqA K x y H Q := .inl ⟨h, q⟩
theorem g_ne_s (h : scal x y = true) (q : Q (.bl (!decide (x = y))) H) : rNeA K x y H Q := .inl ⟨h, q⟩
theorem g_eq_d {d e : PyData} (h1 : Dp K H x d) (h2 : Dp K H y e) (s1 : SeqAt.shaped d = true) (s2 : SeqAt.shaped e = true) (q : Q (.bl (PyData.eqv d e)) H) : rEqA K x y H Q := .inr ⟨d, e, h1, h2, s1, s2, q⟩
theorem g_ne_d {d e : PyData} (h1 : Dp K H x d) (h2 : Dp K H y e) (s1 : SeqAt.shaped d = true) (s2 : SeqAt.shaped e = true) (q : Q (.bl (!PyData.eqv d e)) H) : rNeA K x y H Q := .inr ⟨d, e, h1, h2, s1, s2, q⟩
theorem g_in_l {p : Addr} {xs : List V} (h : SqL K H p xs) (f : flatV x = true) (fs : xs.all flatV = true) (q : Q (.bl (inV x xs)) H) : rInA K x (.ref p) H Q := .inl ⟨p, xs, rfl, .inl h, f, fs, q⟩
theorem g_in_t {p : Addr} {xs : List V} (h : SqT K H p xs) (f : flatV x = true) (fs : xs.all flatV = true) (q : Q (.bl (inV x xs)) H) : rInA K x (.ref p) H Q := .inl ⟨p, xs, rfl, .inr h, f, fs, q⟩
theorem g_nin_l {p : Addr} {xs : List V} (h : SqL K H p xs) (f : flatV x = true) (fs : xs.all flatV = true) (q : Q (.bl (!inV x xs)) H) : rNotInA K x (.ref p) H Q := .inl ⟨p, xs, rfl, .inl h, f, fs, q⟩
theorem g_nin_t {p : Addr} {xs : List V} (h : SqT K H p xs) (f : flatV x = true) (fs : xs.all flatV = true) (q : Q (.bl (!inV x xs)) H) : rNotInA K x (.ref p) H Q := .inl ⟨p, xs, rfl, .inr h, f, fs, q⟩
theorem g_in_c {n : Nat} {z : Str} (q : Q (.bl (decide (n ∈ z.cps.toList))) H) : rInA K (.str ⟨#[n]⟩) (.str z) H Q := .inr ⟨n, z, rfl, rfl, q⟩
theorem g_nin_c {n : Nat} {z : Str} (q : Q (.bl (!decide (n ∈ z.cps.toList))) H) : rNotInA K (.str ⟨#[n]⟩) (.str z) H Q := .inr ⟨n, z, rfl, rfl, q⟩
/-! is None -/
def rIsNo : R2 := fun x y H Q => y = .non ∧ Q (.bl (decide (x = .non))) H
def rNoNo : R2 := fun x y H Q => y = .non ∧ Q (.bl (!decide (x = .non))) H
theorem op_isNo {X : Cx} : OpR X (compareOp .Is) rIsNo := op_isN
theorem op_noNo {X : Cx} : OpR X (compareOp .IsNot) rNoNo := op_notN
theorem g_isNo (q : Q (.bl (decide (x = .non))) H) : rIsNo x .non H Q := ⟨rfl, q⟩
theorem g_noNo (q : Q (.bl (!decide (x = .non))) H) : rNoNo x .non H Q := ⟨rfl, q⟩
/-! len -/
def rLen (K : PySem.W.Frag) : List V → Hp → VK → Prop := fun xs H Q => ∃ x n, xs = [x] ∧ LenV K x H n ∧ Q (.int n) H
theorem cl_len {X : Cx} : CallR X (.builtin "len") (rLen X.K) := call_len
theorem g_len_s {z : Str} (h : z.length ≤ 1000000) (q : Q (.int (z.length : Int)) H) : rLen K [.str z] H Q := ⟨_, z.length, rfl, ⟨Nat.le_trans h (by decide), rfl⟩, q⟩
theorem g_len_l {p : Addr} {xs : List V} (h : SqL K H p xs) (q : Q (.int (xs.length : Int)) H) : rLen K [.ref p] H Q := ⟨_, xs.length, rfl, .inl ⟨xs, h, rfl⟩, q⟩
theorem g_len_t {p : Addr} {xs : List V} (h : SqT K H p xs) (q : Q (.int (xs.length : Int)) H) : rLen K [.ref p] H Q := ⟨_, xs.length, rfl, .inr ⟨xs, h, rfl⟩, q⟩
/-! places -/
theorem g_ix_l {p : Addr} {xs : List V} {n : Int} (h : SqL K H p xs) (e : atI xs n = some v) (q : Q v H) : rIx K (.ref p) (.int n) H Q := .inl ⟨p, xs, n, v, rfl, rfl, h, e, q⟩
theorem g_ix_t {p : Addr} {xs : List V} {n : Int} (h : SqT K H p xs) (e : atI xs n = some v) (q : Q v H) : rIx K (.ref p) (.int n) H Q := .inr (.inl ⟨p, xs, n, v, rfl, rfl, h, e, q⟩)
theorem g_ix_s {z : Str} {n : Int} {k : Nat} (h : z.length ≤ 1000000) (e : atI z.cps.toList n = some k) (q : Q (.str ⟨#[k]⟩) H) : rIx K (.str z) (.int n) H Q := .inr (.inr ⟨z, n, k, rfl, rfl, Nat.le_trans h (by decide), e, q⟩)
theorem atI_of {α : Type} {xs : List α} {n : Int} {a : α} (h0 : 0 ≤ n) (h : xs[n.toNat]? = some a) : atI xs n = some a := by
  have hl := (List.getElem?_eq_some_iff.mp h).1
  unfold atI ixN
  rw [if_pos h0, if_pos (by omega)]
  exact h
theorem ixN_of {m : Nat} {n : Int} (h0 : 0 ≤ n) (h : n < m) : ixN m n = some n.toNat := by
  unfold ixN
  rw [if_pos h0, if_pos h]
/-! parts -/
def rSlA (K : PySem.W.Frag) : V → Option Int → Option Int → Hp → VK → Prop := fun x lo hi H Q => rSlL K x lo hi H Q ∨ rSlS x lo hi H Q ∨ L2.rSlA K x lo hi H Q
theorem sl_any {X : Cx} : SlR X (rSlA X.K) := SlR.or sl_list (SlR.or sl_str sl_tupA)
theorem g_sl {tl th : TO} {r : V → Option Int → Option Int → Hp → VK → Prop} (h : te σ H fun x H1 => tl σ H1 fun l H2 => th σ H2 fun u H3 => r x l u H3 Q) : tSl r te tl th σ H Q := h
theorem g_noPart {QO : Option Int → Hp → Prop} (q : QO none H) : tNoPart σ H QO := q
def aPart (x : V) (H : Hp) (Q : Option Int → Hp → Prop) : Prop := ∃ i, x = .int i ∧ Q (some i) H
theorem g_part {QO : Option Int → Hp → Prop} (h : te σ H fun x H1 => aPart x H1 QO) : tPart te σ H QO := h
theorem g_aPart {QO : Option Int → Hp → Prop} {n : Int} (q : QO (some n) H) : aPart (.int n) H QO := ⟨n, rfl, q⟩
theorem g_sl_s {z : Str} {lo hi : Option Int} (h : z.length ≤ 1000000) (q : Q (.str (cutS z lo hi)) H) : rSlA K (.str z) lo hi H Q := .inr (.inl ⟨z, rfl, Nat.le_trans h (by decide), q⟩)
/-! methods of built-in kinds -/
theorem g_bm {T : String} {r : V → List V → Hp → VK → Prop} (h : te σ H fun x H1 => tyV K T x H1 ∧ tl σ H1 fun xs H2 => r x xs H2 Q) : tBM K T r te tl σ H Q := h
theorem g_bm0 {T : String} {r : V → List V → Hp → VK → Prop} (h : te σ H fun x H1 => tyV K T x H1 ∧ r x [] H1 Q) : tBM0 K T r te σ H Q := h
theorem g_m1 {r : V → List V → Hp → VK → Prop} (h : te σ H fun x H1 => (∃ a, x = .str a) ∧ tb σ H1 fun y H2 => r x [y] H2 Q) : tM1 r te tb σ H Q := h
theorem g_isStr {z : Str} {A : Prop} (h : A) : (∃ a, V.str z = .str a) ∧ A := ⟨⟨z, rfl⟩, h⟩
/-! calls -/
def aCl (n m : Nat) (sp : Sp) (gV : List V → List V → List V) (E : XK) (vs zs : List V) (H : Hp) (Q : VK) : Prop := vs.length = n ∧ zs.length = m ∧ sp (gV vs zs) H Q E
theorem g_cl {n m : Nat} {sp : Sp} {gV : List V → List V → List V} {E : XK} (h : tl σ H fun vs H1 => tr σ H1 fun zs H2 => aCl n m sp gV E vs zs H2 Q) : tCl n m sp gV E tl tr σ H Q := h
theorem g_aCl {n m : Nat} {sp : Sp} {gV : List V → List V → List V} {E : XK} {vs zs : List V} (h1 : vs.length = n) (h2 : zs.length = m) (q : sp (gV vs zs) H Q E) : aCl n m sp gV E vs zs H Q := ⟨h1, h2, q⟩
/-! loops -/
def aFor (J : It) (g : TG) (tb : TS) (D : Ends) (σ : St) (H : Hp) : Prop := ∃ W : Nat → Nat → St → Hp → Prop, (∃ m, W 0 m σ H) ∧ ∀ i m σ H, W i m σ H →
  (J.stop i H ∧ D.nx σ H) ∨ (J.go i H ∧ ∃ N : St → Hp → Prop, (∀ σ' H', N σ' H' → ∃ m', m' < m ∧ W (i + 1) m' σ' H') ∧ ∀ x H', J.yld i H x H' → g x σ H' fun σ2 H2 => tb { D with nx := N, ct := N, bk := D.nx } σ2 H2)
theorem g_for {wi : TI} {g : TG} (h : wi σ H fun J H1 => aFor J g t ⟨nx, rt, bk, ct⟩ σ H1) : tFor wi g t ⟨nx, rt, bk, ct⟩ σ H := h
theorem g_aFor {J : It} {n : Nat} {G : Hp → Prop} {Y : Nat → Hp → V → Hp → Prop} {g : TG} (w : Walk J n G Y) (Pv : Nat → St → Hp → Prop) (h0 : Pv 0 σ H) (hG : ∀ i σ H, i ≤ n → Pv i σ H → G H)
    (hs : ∀ i x σ H H', i < n → Pv i σ H → Y i H x H' → g x σ H' fun σ2 H2 => t ⟨Pv (i + 1), rt, nx, Pv (i + 1)⟩ σ2 H2) (hd : ∀ σ H, Pv n σ H → nx σ H) : aFor J g t ⟨nx, rt, bk, ct⟩ σ H :=
  for_it w (D := ⟨nx, rt, bk, ct⟩) Pv h0 hG hs hd
/-! what is walked, by its kind -/
def iAny (K : PySem.W.Frag) (te : TE) : TI := fun σ H R => te σ H fun x H1 => (∃ a, x = .ref a ∧ (∃ xs, SqL K H1 a xs) ∧ R (Itl K a) H1) ∨ (∃ a, x = .ref a ∧ (∃ xs, SqT K H1 a xs) ∧ R (Itt K a) H1) ∨ ∃ z, x = .str z ∧ R (Its z) H1
def aIter (K : PySem.W.Frag) (x : V) (H : Hp) (R : It → Hp → Prop) : Prop := (∃ a, x = .ref a ∧ (∃ xs, SqL K H a xs) ∧ R (Itl K a) H) ∨ (∃ a, x = .ref a ∧ (∃ xs, SqT K H a xs) ∧ R (Itt K a) H) ∨ ∃ z, x = .str z ∧ R (Its z) H
theorem g_iAny (h : te σ H fun x H1 => aIter K x H1 R) : iAny K te σ H R := h
theorem g_it_l {a : Addr} {xs : List V} (h : SqL K H a xs) (q : R (Itl K a) H) : aIter K (.ref a) H R := .inl ⟨a, rfl, ⟨xs, h⟩, q⟩
theorem g_it_t {a : Addr} {xs : List V} (h : SqT K H a xs) (q : R (Itt K a) H) : aIter K (.ref a) H R := .inr (.inl ⟨a, rfl, ⟨xs, h⟩, q⟩)
theorem g_it_s {z : Str} (q : R (Its z) H) : aIter K (.str z) H R := .inr (.inr ⟨z, rfl, q⟩)
theorem pi_any {X : Cx} {tg e : Expr} (he : PE X e te) : PI X tg e (iAny X.K te) := by
  refine ⟨fun pins s σ H R I h => ?_⟩
  refine thn (he.run pins s σ H _ I h) fun v s1 ⟨x, H1, I1, r1, q1⟩ => ?_
  rcases q1 with ⟨a, rfl, ⟨xs, hx⟩, q⟩ | ⟨a, rfl, ⟨xs, hx⟩, q⟩ | ⟨z, rfl, q⟩
  · cases r1
    obtain ⟨its, rv, p, hz⟩ := I1.list hx
    refine wpAny_pyIter_list p.isList ?_
    refine ⟨s1.heap.objs.size, [s1.heap.objs.size], _, _, H1, rfl, I1.kept (t' := s1.toks) fun b o e => Heap.get?_push_of_some _ e, turn_list a _, ⟨_, Heap.get?_push_size _ rfl, rfl, rfl⟩, fun b hb => ?_, q⟩
    obtain rfl : b = s1.heap.objs.size := by simpa using hb
    exact I1.fpOk (Nat.le_refl _) (I1.hok.fresh (Nat.le_refl _))
  · cases r1
    obtain ⟨its, rv, p, hz⟩ := I1.tuple hx
    refine wpAny_pyIter_tuple (show s1.heap.IsTuple a its.toArray from p) ?_
    refine ⟨s1.heap.objs.size, [s1.heap.objs.size], _, _, H1, rfl, I1.kept (t' := s1.toks) fun b o e => Heap.get?_push_of_some _ e, turn_tuple a _, ⟨_, Heap.get?_push_size _ rfl, rfl, rfl⟩, fun b hb => ?_, q⟩
    obtain rfl : b = s1.heap.objs.size := by simpa using hb
    exact I1.fpOk (Nat.le_refl _) (I1.hok.fresh (Nat.le_refl _))
  · obtain ⟨t, rfl⟩ := r1
    cases ha : z.cps.all (· < 128)
    · exact wpAny_pyIter_wide ha (pi_one (tk := s1.toks) I1 _ (turn_str _ z t "str_iterator" (.inr rfl)) ⟨_, Heap.get?_push_size _ rfl, rfl, rfl⟩ q)
    · exact wpAny_pyIter_ascii ha (pi_one (tk := s1.toks) I1 _ (turn_str _ z t "str_ascii_iterator" (.inl rfl)) ⟨_, Heap.get?_push_size _ rfl, rfl, rfl⟩ q)
def aRng1 (vs : List V) (H : Hp) (R : It → Hp → Prop) : Prop := ∃ j : Int, vs = [.int j] ∧ -(2 ^ 62) ≤ j ∧ j < 2 ^ 62 ∧ R (Itr 0 j.toNat) H
theorem g_rng1 (h : tl σ H fun vs H1 => aRng1 vs H1 R) : iRng1 tl σ H R := h
theorem g_aRng1 {j : Int} (h : 0 ≤ j ∧ j < 4000000000) (q : R (Itr 0 j.toNat) H) : aRng1 [.int j] H R := ⟨j, rfl, by omega, by omega, q⟩
def aRng2 (vs : List V) (H : Hp) (R : It → Hp → Prop) : Prop := ∃ i j : Int, vs = [.int i, .int j] ∧ (-(2 ^ 62) ≤ i ∧ i < 2 ^ 62 ∧ -(2 ^ 62) ≤ j ∧ j < 2 ^ 62) ∧ R (Itr i (j - i).toNat) H
theorem g_rng2 (h : tl σ H fun vs H1 => aRng2 vs H1 R) : iRng2 tl σ H R := h
theorem g_aRng2 {i j : Int} (h : -4000000000 ≤ i ∧ i < 4000000000 ∧ -4000000000 ≤ j ∧ j < 4000000000) (q : R (Itr i (j - i).toNat) H) : aRng2 [.int i, .int j] H R := ⟨i, j, rfl, by omega, q⟩
def aEnum (K : PySem.W.Frag) (vs : List V) (H : Hp) (R : It → Hp → Prop) : Prop := ∃ a xs, vs = [.ref a] ∧ SqL K H a xs ∧ R (Ite K a) H
theorem g_enum (h : tl σ H fun vs H1 => aEnum K vs H1 R) : iEnum K tl σ H R := h
theorem g_aEnum {a : Addr} {xs : List V} (h : SqL K H a xs) (q : R (Ite K a) H) : aEnum K [.ref a] H R := ⟨a, xs, rfl, h, q⟩
def aZip (K : PySem.W.Frag) (vs : List V) (H : Hp) (R : It → Hp → Prop) : Prop := ∃ a b xs ys, vs = [.ref a, .ref b] ∧ SqL K H a xs ∧ SqL K H b ys ∧ R (Itz K a b) H
theorem g_zip (h : tl σ H fun vs H1 => aZip K vs H1 R) : iZip K tl σ H R := h
theorem g_aZip {a b : Addr} {xs ys : List V} (h : SqL K H a xs) (h2 : SqL K H b ys) (q : R (Itz K a b) H) : aZip K [.ref a, .ref b] H R := ⟨a, b, xs, ys, rfl, h, h2, q⟩
end
end Bz
namespace Bz
open PySem PySem.Spec PyProof.Rows L2
/-- texts as they are handed in: short enough, plain signs -/
def plainS (z : Str) : Prop := z.length ≤ 100000 ∧ ∀ c ∈ z.cps.toList, c < 128
theorem plainS.len {z : Str} (h : plainS z) : z.length ≤ 1000000 := Nat.le_trans h.1 (by decide)
/-! ### readings that touch the heap, over what is known of it -/
section
variable {B B' : Hp} {M M' L L' : List (Addr × HO)}
variable {σ σ' : St} {H : Hp} {Q : VK} {v x y : V} {i : Nat} {ta tb tc te : TE} {D : Ends} {t u : TS} {c c' : TT} {K : PySem.W.Frag} {R : It → Hp → Prop}
variable {nx bk ct : St → Hp → Prop} {rt : VK} {QB : Bool → Hp → Prop} {QL : List V → Hp → Prop} {QS : St → Hp → Prop} {tl tr : TA} {r r' : R2}
theorem sz6 {n : Nat} (h : n ≤ 1000000) : n ≤ sizeLine := Nat.le_trans h (by decide)
theorem sz6' {n : Nat} (h : n < 1000000) : n < sizeLine := Nat.lt_of_lt_of_le h (by decide)
def aLst (xs : List V) (H : Hp) (Q : VK) : Prop := xs.length ≤ sizeLine ∧ ∀ p, H p = none → Q (.ref p) (upd H p (.lst xs))
def aTup (xs : List V) (H : Hp) (Q : VK) : Prop := xs.length ≤ sizeLine ∧ ∀ p, H p = none → Q (.ref p) (upd H p (.tup xs))
theorem g_lst (h : tl σ H fun xs H1 => aLst xs H1 Q) : tLst tl σ H Q := h
theorem g_tup (h : tl σ H fun xs H1 => aTup xs H1 Q) : tTup tl σ H Q := h
theorem g_aLst {xs : List V} (I : Is B M L H) (h : xs.length ≤ 1000000) (q : ∀ p H', Is B M ((p, .lst xs) :: L) H' → Q (.ref p) H') : aLst xs H Q :=
  ⟨sz6 h, fun p hp => q p _ (I.new hp)⟩
theorem g_aTup {xs : List V} (I : Is B M L H) (h : xs.length ≤ 1000000) (q : ∀ p H', Is B M ((p, .tup xs) :: L) H' → Q (.ref p) H') : aTup xs H Q :=
  ⟨sz6 h, fun p hp => q p _ (I.new hp)⟩
/-- list + list -/
theorem g_add_l {a b : Addr} {xs ys : List V} (I : Is B M L H) (ha : H a = some (.lst xs)) (hb : H b = some (.lst ys)) (h : xs.length + ys.length ≤ 1000000)
    (q : ∀ p H', Is B M ((p, .lst (xs ++ ys)) :: L) H' → Q (.ref p) H') : rAddA K (.ref a) (.ref b) H Q :=
  .inr (.inr (.inl ⟨a, b, xs, ys, rfl, rfl, ha, hb, sz6 h, fun p hp => q p _ (I.new hp)⟩))
theorem g_mul_l {a : Addr} {xs : List V} {n : Nat} (I : Is B M L H) (ha : H a = some (.lst xs)) (h : xs.length * n ≤ 1000000) (hn : n ≤ 1000000)
    (q : ∀ p H', Is B M ((p, .lst (List.replicate n xs).flatten) :: L) H' → Q (.ref p) H') : rMulA (.ref a) (.int (n : Int)) H Q :=
  .inr (.inr ⟨a, n, xs, rfl, rfl, ha, by omega, by omega, by rw [Int.toNat_natCast]; exact sz6 h, fun p hp => by rw [Int.toNat_natCast]; exact q p _ (I.new hp)⟩)
theorem g_sl_l {a : Addr} {xs : List V} {lo hi : Option Int} (I : Is B M L H) (ha : SqL K H a xs) (q : ∀ p H', Is B M ((p, .lst (cutV xs lo hi)) :: L) H' → Q (.ref p) H') : rSlA K (.ref a) lo hi H Q :=
  .inl ⟨a, xs, rfl, ha, fun p hp => q p _ (I.new hp)⟩
theorem g_sl_t {a : Addr} {xs : List V} {lo hi : Option Int} (I : Is B M L H) (ha : SqT K H a xs) (hn : ¬ (HT.sIx xs.length 0 lo = 0 ∧ HT.sIx xs.length xs.length hi = xs.length)) (q : ∀ p H', Is B M ((p, .tup (cutV xs lo hi)) :: L) H' → Q (.ref p) H') : rSlA K (.ref a) lo hi H Q :=
  .inr (.inr ⟨a, xs, rfl, ha, fun h => absurd h hn, fun _ p hp => q p _ (I.new hp)⟩)
theorem cutV_whole {xs : List V} {lo hi : Option Int} (h : HT.sIx xs.length 0 lo = 0 ∧ HT.sIx xs.length xs.length hi = xs.length) : cutV xs lo hi = xs := by
  unfold cutV
  rw [h.1, h.2, List.drop_zero, Nat.sub_zero, List.take_length]
/-- a part of a tuple, whatever part: what it is stays -/
theorem g_sl_tB {a : Addr} {xs : List V} {lo hi : Option Int} (I : Is B M L H) (ha : SqT K B a xs) (q : ∀ p B' H', Same B B' → Is B' M L H' → SqT K B' p (cutV xs lo hi) → Q (.ref p) H') : rSlA K (.ref a) lo hi H Q := by
  refine .inr (.inr ⟨a, xs, rfl, Is.st I ha, fun h => ?_, fun _ p hp => ?_⟩)
  · exact q a B H (fun _ _ e => e) I (by rw [cutV_whole h]; exact ha)
  · obtain ⟨h1, h2⟩ := (I.new (o := .tup (cutV xs lo hi)) hp).frz .here
    exact q p _ _ h2 h1 (SqT.of upd_same)
theorem g_add_t {a b : Addr} {xs ys : List V} (I : Is B M L H) (ha : SqT K H a xs) (hb : SqT K H b ys) (h0 : xs ≠ []) (h1 : ys ≠ []) (h : xs.length + ys.length ≤ 1000000)
    (q : ∀ p H', Is B M ((p, .tup (xs ++ ys)) :: L) H' → Q (.ref p) H') : rAddA K (.ref a) (.ref b) H Q :=
  .inr (.inr (.inr ⟨a, b, xs, ys, rfl, rfl, ha, hb, sz6 h, fun e => absurd e h0, fun _ e => absurd e h1, fun _ _ p hp => q p _ (I.new hp)⟩))
theorem g_add_tB {a b : Addr} {xs ys : List V} (I : Is B M L H) (ha : SqT K B a xs) (hb : SqT K B b ys) (h : xs.length + ys.length ≤ 1000000)
    (q : ∀ p B' H', Same B B' → Is B' M L H' → SqT K B' p (xs ++ ys) → Q (.ref p) H') : rAddA K (.ref a) (.ref b) H Q := by
  refine .inr (.inr (.inr ⟨a, b, xs, ys, rfl, rfl, Is.st I ha, Is.st I hb, sz6 h, fun e => ?_, fun _ e => ?_, fun _ _ p hp => ?_⟩))
  · exact q b B H (fun _ _ e => e) I (by rw [e]; exact hb)
  · exact q a B H (fun _ _ e => e) I (by rw [e, List.append_nil]; exact ha)
  · obtain ⟨h1, h2⟩ := (I.new (o := .tup (xs ++ ys)) hp).frz .here
    exact q p _ _ h2 h1 (SqT.of upd_same)
/-- new lists of texts -/
theorem g_newS {ys : List Str} (I : Is B M L H) (q : ∀ p H', Is B M ((p, .lst (ys.map V.str)) :: L) H' → Q (.ref p) H') : rNewStrs ys H Q := fun p hp => q p _ (I.new hp)
/-- append -/
theorem g_app {l : Addr} {xs : List V} (I : Is B M L H) (hl : H l = some (.lst xs)) (h : xs.length < 1000000) (u : Put l (.lst (xs ++ [v])) L L') (q : ∀ H', Is B M L' H' → Q .non H') : rAppend (.ref l) [v] H Q :=
  ⟨l, xs, v, rfl, rfl, hl, sz6' h, q _ (I.put u)⟩
theorem g_tyL {l : Addr} {xs : List V} {A : Prop} (hl : H l = some (.lst xs)) (h : A) : tyV K "list" (.ref l) H ∧ A := ⟨.inl ⟨rfl, xs, SqL.of hl⟩, h⟩
/-- xs[i] = v -/
def aSetL (o i v : V) (H : Hp) (Q : Hp → Prop) : Prop := rSetL o i v H Q
theorem g_sub {to ti : TE} {ts : TSet} (h : to σ H fun o H1 => ti σ H1 fun i H2 => ts o i v H2 fun H3 => QS σ H3) : gSub to ti ts v σ H QS := h
theorem g_setL {l : Addr} {xs : List V} {n : Int} {QH : Hp → Prop} (I : Is B M L H) (hl : H l = some (.lst xs)) (h0 : 0 ≤ n) (h1 : n < xs.length) (u : Put l (.lst (xs.set n.toNat v)) L L') (q : ∀ H', Is B M L' H' → QH H') : rSetL (.ref l) (.int n) v H QH :=
  ⟨l, xs, n, n.toNat, rfl, rfl, hl, ixN_of h0 h1, q _ (I.put u)⟩
theorem g_setLM {l : Addr} {xs : List V} {n : Int} {QH : Hp → Prop} (I : Is B M L H) (hl : H l = some (.lst xs)) (h0 : 0 ≤ n) (h1 : n < xs.length) (u : Put l (.lst (xs.set n.toNat v)) M M') (q : ∀ H', Is B M' L H' → QH H') : rSetL (.ref l) (.int n) v H QH :=
  ⟨l, xs, n, n.toNat, rfl, rfl, hl, ixN_of h0 h1, q _ (I.putM u)⟩
/-- unpacking a tuple -/
theorem g_gTup {a : Addr} {xs : List V} {n : Nat} {ts : TGs} (h : SqT K H a xs) (hl : xs.length = n) (q : ts xs σ H QS) : gTup K n ts (.ref a) σ H QS := ⟨a, xs, rfl, h, hl, q⟩
theorem g_gCons {g : TG} {ts : TGs} {rest : List V} (q : g v σ H fun σ' H' => ts rest σ' H' QS) : gCons g ts (v :: rest) σ H QS := ⟨v, rest, rfl, q⟩
theorem g_gNil (q : QS σ H) : gNil [] σ H QS := ⟨rfl, q⟩
/-! dicts with text keys -/
inductive KGet : List (Key × V) → Key → V → Prop
  | here {k : Key} {v : V} {l : List (Key × V)} : KGet ((k, v) :: l) k v
  | there {k k' : Key} {v v' : V} {l : List (Key × V)} : ¬ k' = k → KGet l k v → KGet ((k', v') :: l) k v
inductive NoKey (k : Key) : List (Key × V) → Prop
  | nil : NoKey k []
  | cons {k' : Key} {v' : V} {l : List (Key × V)} : ¬ k' = k → NoKey k l → NoKey k ((k', v') :: l)
inductive KPut (k : Key) (v : V) : List (Key × V) → List (Key × V) → Prop
  | here {u : V} {l : List (Key × V)} : NoKey k l → KPut k v ((k, u) :: l) ((k, v) :: l)
  | there {k' : Key} {u : V} {l l' : List (Key × V)} : ¬ k' = k → KPut k v l l' → KPut k v ((k', u) :: l) ((k', u) :: l')
theorem KGet.eq {kvs : List (Key × V)} {k : Key} (h : KGet kvs k v) : valV kvs k = some v := by
  induction h with
  | here => exact valV_pos rfl
  | there hne _ ih =>
    rw [valV_neg (show ¬ _ = _ from hne)]
    exact ih
theorem NoKey.map {k : Key} {kvs : List (Key × V)} (h : NoKey k kvs) : kvs.map (fun kv => if kv.1 = k then (kv.1, v) else kv) = kvs := by
  induction h with
  | nil => rfl
  | cons hne _ ih => rw [List.map_cons, if_neg hne, ih]
theorem KPut.any {k : Key} {kvs kvs' : List (Key × V)} (h : KPut k v kvs kvs') : (kvs.any fun kv => decide (kv.1 = k)) = true ∧ kvs.map (fun kv => if kv.1 = k then (kv.1, v) else kv) = kvs' := by
  induction h with
  | here hn =>
    refine ⟨by simp, ?_⟩
    rw [List.map_cons, if_pos rfl, hn.map]
  | there hne _ ih =>
    refine ⟨by rw [List.any_cons, ih.1, Bool.or_true], ?_⟩
    rw [List.map_cons, if_neg hne, ih.2]
theorem KPut.eq {k : Key} {kvs kvs' : List (Key × V)} (h : KPut k v kvs kvs') : putK kvs k v = kvs' := by
  unfold putK
  rw [if_pos h.any.1]
  exact h.any.2
def aDGet (x y : V) (H : Hp) (Q : VK) : Prop := ∃ a v, x = .ref a ∧ DGet H a y (some v) ∧ Q v H
theorem g_dget {td ty : TE} (h : td σ H fun x H1 => ty σ H1 fun y H2 => aDGet x y H2 Q) : tDGet td ty σ H Q := h
theorem g_aDGet {a : Addr} {kvs : List (Key × V)} {z : Str} (h : H a = some (.dK kvs)) (e : KGet kvs (Sum.inr z) v) (q : Q v H) : aDGet (.ref a) (.str z) H Q :=
  ⟨a, v, rfl, .inl ⟨kvs, .inr z, .inl h, rfl, e.eq.symm⟩, q⟩
def aDPut (v x y : V) (H : Hp) (Q : Hp → Prop) : Prop := ∃ a H4, x = .ref a ∧ DPut H a y v H4 ∧ Q H4
theorem g_dput {td ty tv : TE} (h : tv σ H fun v H1 => td σ H1 fun x H2 => ty σ H2 fun y H3 => aDPut v x y H3 fun H4 => nx σ H4) : sDPut td ty tv ⟨nx, rt, bk, ct⟩ σ H := by
  exact h
theorem g_aDPut {a : Addr} {kvs kvs' : List (Key × V)} {z : Str} {QH : Hp → Prop} (I : Is B M L H) (h : H a = some (.dK kvs)) (hz : kvs.length < 100000) (kp : KPut (Sum.inr z) v kvs kvs') (u : Put a (.dK kvs') L L') (q : ∀ H', Is B M L' H' → QH H') : aDPut v (.ref a) (.str z) H QH :=
  ⟨a, _, rfl, .inl ⟨kvs, .inr z, h, rfl, sz6' (by omega), rfl⟩, q _ (by rw [kp.eq]; exact I.put u)⟩
theorem g_aDPutM {a : Addr} {kvs kvs' : List (Key × V)} {z : Str} {QH : Hp → Prop} (I : Is B M L H) (h : H a = some (.dK kvs)) (hz : kvs.length < 100000) (kp : KPut (Sum.inr z) v kvs kvs') (u : Put a (.dK kvs') M M') (q : ∀ H', Is B M' L H' → QH H') : aDPut v (.ref a) (.str z) H QH :=
  ⟨a, _, rfl, .inl ⟨kvs, .inr z, h, rfl, sz6' (by omega), rfl⟩, q _ (by rw [kp.eq]; exact I.putM u)⟩
/-! a written dict -/
inductive Snoc {α : Type} (x : α) : List α → List α → Prop
  | nil : Snoc x [] [x]
  | cons {a : α} {l l' : List α} : Snoc x l l' → Snoc x (a :: l) (a :: l')
theorem Snoc.eq {α : Type} {x : α} : ∀ {l l' : List α}, Snoc x l l' → l ++ [x] = l'
  | _, _, .nil => rfl
  | _, _, .cons h => by rw [List.cons_append, h.eq]
inductive Mrg : List (Key × V) → List (V × V) → List (Key × V) → Prop
  | nil {l : List (Key × V)} : Mrg l [] l
  | str {l l' r : List (Key × V)} {z : Str} {v : V} {more : List (V × V)} : NoKey (Sum.inr z) l → Snoc (Sum.inr z, v) l l' → Mrg l' more r → Mrg l ((.str z, v) :: more) r
  | int {l l' r : List (Key × V)} {n : Int} {v : V} {more : List (V × V)} : NoKey (Sum.inl n) l → Snoc (Sum.inl n, v) l l' → Mrg l' more r → Mrg l ((.int n, v) :: more) r
theorem NoKey.any {k : Key} {kvs : List (Key × V)} (h : NoKey k kvs) : (kvs.any fun kv => decide (kv.1 = k)) = false := by
  induction h with
  | nil => rfl
  | cons hne _ ih => rw [List.any_cons, decide_eq_false hne, ih]; rfl
theorem NoKey.put {k : Key} {kvs : List (Key × V)} (h : NoKey k kvs) : putK kvs k v = kvs ++ [(k, v)] := by
  unfold putK
  rw [h.any]
  rfl
theorem Mrg.eq {l : List (Key × V)} {ps : List (V × V)} {r : List (Key × V)} (h : Mrg l ps r) : ∃ kvs : List (Key × V), ps = kvs.map (fun kv => (kV kv.1, kv.2)) ∧ mergeK l kvs = r ∧ kvs.length = ps.length := by
  induction h with
  | nil => exact ⟨[], rfl, rfl, rfl⟩
  | @str l l' r z v more hn hs _ ih =>
    obtain ⟨kvs, e1, e2, e3⟩ := ih
    refine ⟨(Sum.inr z, v) :: kvs, by rw [e1]; rfl, ?_, by simp [e3]⟩
    show mergeK (putK l (Sum.inr z) v) kvs = r
    rw [hn.put, hs.eq]
    exact e2
  | @int l l' r n v more hn hs _ ih =>
    obtain ⟨kvs, e1, e2, e3⟩ := ih
    refine ⟨(Sum.inl n, v) :: kvs, by rw [e1]; rfl, ?_, by simp [e3]⟩
    show mergeK (putK l (Sum.inl n) v) kvs = r
    rw [hn.put, hs.eq]
    exact e2
def aDisp (p : Addr) (ps : List (V × V)) (H : Hp) (Q : VK) : Prop := H p = some (.dK []) ∧ ∃ kvs : List (Key × V), ps = kvs.map (fun kv => (kV kv.1, kv.2)) ∧ kvs.length ≤ 15 ∧ Q (.ref p) (upd H p (.dK (mergeK [] kvs)))
theorem g_disp {trs : List (TE × TE)} (I : Is B M L H) (q : ∀ p H', Is B M ((p, .dK []) :: L) H' → tPairs trs σ H' fun ps H2 => aDisp p ps H2 Q) : tDisp trs σ H Q := fun p hp => q p _ (I.new hp)
theorem g_pnil {QP : List (V × V) → Hp → Prop} (q : QP [] H) : tPairs [] σ H QP := q
theorem g_pcons {tk tv : TE} {r : List (TE × TE)} {QP : List (V × V) → Hp → Prop} (q : tk σ H fun x H1 => tv σ H1 fun y H2 => tPairs r σ H2 fun ps H3 => QP ((x, y) :: ps) H3) : tPairs ((tk, tv) :: r) σ H QP := q
theorem g_aDisp {p : Addr} {ps : List (V × V)} {kvs : List (Key × V)} (I : Is B M L H) (h : H p = some (.dK [])) (m : Mrg [] ps kvs) (hz : ps.length ≤ 15) (u : Put p (.dK kvs) L L') (q : ∀ H', Is B M L' H' → Q (.ref p) H') : aDisp p ps H Q := by
  obtain ⟨k, e1, e2, e3⟩ := m.eq
  refine ⟨h, k, e1, by omega, ?_⟩
  rw [e2]
  exact q _ (I.put u)
theorem g_newK (I : Is B M L H) (q : ∀ p H', Is B M ((p, .dK []) :: L) H' → Q (.ref p) H') : tDNewK σ H Q := fun p hp => q p _ (I.new hp)
/-- an owned thing told as M -/
theorem Is.pull {a : Addr} {o : HO} (I : Is B M L H) (d : Del a o L L') : Is B ((a, o) :: M) L' H := by
  have pm : (L ++ M).Perm (L' ++ ((a, o) :: M)) := (d.perm.append_right M).trans List.perm_middle.symm
  exact ⟨I.ex, fun q hq => I.own q (pm.mem_iff.mpr hq), (pm.map (·.1)).nodup_iff.mp I.nd⟩
/-- given away, as one asks it -/
theorem Is.give {a : Addr} {o : HO} {G : Prop} (I : Is B M L H) (d : Del a o L L') (k : ∀ B', Same B B' → B' a = some o → Is B' M L' H → G) : G := by
  obtain ⟨h1, h2⟩ := I.frz d
  exact k _ h2 upd_same h1
/-! comprehensions: P of the turn, what is made so far, what stays and M -/
def aLc (J : It) (g : TG) (tt : TT) (te : TE) (vs : List Nat) (σ : St) (H1 : Hp) (Q : VK) : Prop :=
  ∀ D, H1 D = none → ∃ W : Nat → Nat → Hp → Prop, (∃ m, W 0 m (upd H1 D (.lst []))) ∧ ∀ i m H, W i m H →
    (J.stop i H ∧ Q (.ref D) H) ∨ (J.go i H ∧ ∃ Nx : Hp → Prop, (∀ H', Nx H' → ∃ m', m' < m ∧ W (i + 1) m' H') ∧ ∀ x H', J.yld i H x H' → g x (wipe σ vs) H' fun σ2 H2 => wipe σ2 vs = wipe σ vs ∧ tt σ2 H2 fun b H3 =>
      if b = true then te σ2 H3 fun y H4 => ∃ acc, H4 D = some (.lst acc) ∧ acc.length < sizeLine ∧ Nx (upd H4 D (.lst (acc ++ [y]))) else Nx H3)
theorem g_lc {wi : TI} {g : TG} {tt : TT} {vs : List Nat} (h : wi σ H fun J H1 => aLc J g tt te vs σ H1 Q) : tLc wi g tt te vs σ H Q := h
/-- between two turns; at a turn's end with an item, without one -/
def LcI (P : Nat → List V → Hp → List (Addr × HO) → Prop) (B : Hp) (L : List (Addr × HO)) (D : Addr) (i : Nat) (H : Hp) : Prop :=
  ∃ acc B' M', Same B B' ∧ acc.length ≤ i ∧ i ≤ 900000 ∧ Is B' M' ((D, .lst acc) :: L) H ∧ P i acc B' M'
def LcY (P : Nat → List V → Hp → List (Addr × HO) → Prop) (B : Hp) (L : List (Addr × HO)) (D : Addr) (i : Nat) (y : V) (H : Hp) : Prop :=
  ∃ acc, H D = some (.lst acc) ∧ acc.length < sizeLine ∧ LcI P B L D (i + 1) (upd H D (.lst (acc ++ [y])))
theorem lcY {P : Nat → List V → Hp → List (Addr × HO) → Prop} {D : Addr} {acc : List V} (s : Same B B') (I : Is B' M' ((D, .lst acc) :: L) H) (hl : acc.length ≤ i ∧ i < 900000) (p : P (i + 1) (acc ++ [y]) B' M') : LcY P B L D i y H :=
  ⟨acc, I.get List.mem_cons_self, sz6' (by omega), acc ++ [y], B', M', s, by rw [List.length_append]; simpa using hl.1, by omega, I.put .here, p⟩
theorem lcN {P : Nat → List V → Hp → List (Addr × HO) → Prop} {D : Addr} {acc : List V} (s : Same B B') (I : Is B' M' ((D, .lst acc) :: L) H) (hl : acc.length ≤ i ∧ i < 900000) (p : P (i + 1) acc B' M') : LcI P B L D (i + 1) H :=
  ⟨acc, B', M', s, by omega, by omega, I, p⟩
theorem g_aLc {J : It} {n : Nat} {G : Hp → Prop} {Y : Nat → Hp → V → Hp → Prop} {g : TG} {tt : TT} {vs : List Nat} {σ0 : St} (w : Walk J n G Y) (I : Is B M L H) (hw : Wiped σ vs σ0) (hz : n ≤ 900000)
    (P : Nat → List V → Hp → List (Addr × HO) → Prop) (h0 : P 0 [] B M)
    (hG : ∀ i acc B' M' D H', i ≤ n → Same B B' → Is B' M' ((D, .lst acc) :: L) H' → P i acc B' M' → G H')
    (hs : ∀ i x acc B' M' D H' H'', i < n → Same B B' → Is B' M' ((D, .lst acc) :: L) H' → P i acc B' M' → Y i H' x H'' → (acc.length ≤ i ∧ i < 900000) →
      g x σ0 H'' fun σ2 H2 => wipe σ2 vs = σ0 ∧ tt σ2 H2 fun b H3 => if b = true then te σ2 H3 fun y H4 => LcY P B L D i y H4 else LcI P B L D (i + 1) H3)
    (hd : ∀ acc B' M' D H', Same B B' → Is B' M' ((D, .lst acc) :: L) H' → P n acc B' M' → acc.length ≤ n → Q (.ref D) H') : aLc J g tt te vs σ H Q := by
  intro D hD
  refine lc_it w (fun i H' => LcI P B L D i H') ⟨[], B, M, Same.refl B, Nat.le_refl _, by omega, I.new hD, h0⟩ ?_ ?_ ?_
  · rintro i H' hi ⟨acc, B', M', s, hl, _, I', p⟩
    exact hG i acc B' M' D H' hi s I' p
  · rintro i x H' H'' hi ⟨acc, B', M', s, hl, _, I', p⟩ yy
    rw [hw.eq]
    exact hs i x acc B' M' D H' H'' hi s I' p yy ⟨hl, by omega⟩
  · rintro H' ⟨acc, B', M', s, hl, _, I', p⟩
    exact hd acc B' M' D H' s I' p hl
/-- a comprehension that neither draws nor changes: (xs.filter p).map f -/
theorem g_lcM {J : It} {xs : List V} {G : Hp → Prop} {g : TG} {tt : TT} {vs : List Nat} {σ0 : St} (w : Walk J xs.length G (YAt xs)) (I : Is B M L H) (hw : Wiped σ vs σ0) (hz : xs.length ≤ 900000) (p : V → Bool) (f : V → V)
    (hG : ∀ D acc H', Is B M ((D, .lst acc) :: L) H' → G H')
    (hs : ∀ (i : Nat) (x : V) (D : Addr) (acc : List V) (H' : Hp), xs[i]? = some x → Is B M ((D, .lst acc) :: L) H' → ∀ (PY : V → Hp → Prop) (PN : Hp → Prop), (∀ H4, p x = true → Is B M ((D, .lst acc) :: L) H4 → PY (f x) H4) → (∀ H3, p x = false → Is B M ((D, .lst acc) :: L) H3 → PN H3) →
      g x σ0 H' fun σ2 H2 => wipe σ2 vs = σ0 ∧ tt σ2 H2 fun b H3 => if b = true then te σ2 H3 fun y H4 => PY y H4 else PN H3)
    (hd : ∀ D H', Is B M ((D, .lst ((xs.filter p).map f)) :: L) H' → Q (.ref D) H') : aLc J g tt te vs σ H Q := by
  refine g_aLc w I hw hz (fun i acc B' M' => B' = B ∧ M' = M ∧ acc = ((xs.take i).filter p).map f) ⟨rfl, rfl, rfl⟩ ?_ ?_ ?_
  · rintro i acc B' M' D H' _ s I' ⟨rfl, rfl, rfl⟩
    exact hG D _ H' I'
  · rintro i x acc B' M' D H' H'' hi s I' ⟨rfl, rfl, e⟩ ⟨rfl, hx⟩ hl
    refine hs i x D acc H'' hx I' _ _ (fun H4 hp I4 => lcY s I4 hl ⟨rfl, rfl, ?_⟩) fun H3 hp I3 => lcN s I3 hl ⟨rfl, rfl, ?_⟩
    · rw [List.take_add_one, hx, e]
      show _ = List.map f (List.filter p (xs.take i ++ [x]))
      rw [List.filter_append, List.map_append, List.filter_cons, if_pos hp]
      rfl
    · rw [List.take_add_one, hx, e]
      show _ = List.map f (List.filter p (xs.take i ++ [x]))
      rw [List.filter_append, List.map_append, List.filter_cons, if_neg (by rw [hp]; exact Bool.false_ne_true)]
      simp
  · rintro acc B' M' D H' s I' ⟨rfl, rfl, rfl⟩ _
    rw [List.take_length] at I'
    exact hd D H' I'
/-- signs of a text -/
def sg (c : Nat) : V := .str ⟨#[c]⟩
def signs (z : Str) : List V := z.cps.toList.map sg
theorem signs_len (z : Str) : (signs z).length = z.length := by unfold signs; rw [List.length_map]; rfl
theorem walkS {z : Str} : Walk (Its z) (signs z).length (fun _ => True) (YAt (signs z)) := by
  have w := walk_str (z := z)
  have e : z.cps.size = (signs z).length := by unfold signs; simp
  rw [e] at w
  refine w.mono (fun _ _ => trivial) fun i H x H' hi _ y => ?_
  obtain ⟨h1, c, h2, h3⟩ := y
  refine ⟨h1, ?_⟩
  unfold signs
  rw [List.getElem?_map, ← Array.getElem?_toList] at *
  rw [h2, h3]
  rfl
def rng (lo : Int) (n : Nat) : List V := (List.range n).map fun (i : Nat) => V.int (lo + (i : Int))
theorem rng_len (lo : Int) (n : Nat) : (rng lo n).length = n := by unfold rng; simp
theorem walkR {lo : Int} {n : Nat} : Walk (Itr lo n) (rng lo n).length (fun _ => True) (YAt (rng lo n)) := by
  have w := walk_range (lo := lo) (n := n)
  rw [rng_len]
  refine w.mono (fun _ _ => trivial) fun i H x H' hi _ y => ?_
  obtain ⟨h1, h2⟩ := y
  refine ⟨h1, ?_⟩
  unfold rng
  rw [List.getElem?_map, List.getElem?_range hi, h2]
  rfl
theorem signs_mem {z : Str} {x : V} {i : Nat} (h : (signs z)[i]? = some x) : ∃ c, c ∈ z.cps.toList ∧ x = .str ⟨#[c]⟩ := by
  unfold signs at h
  rw [List.getElem?_map] at h
  cases e : z.cps.toList[i]? with
  | none => rw [e] at h; cases h
  | some c => rw [e] at h; exact ⟨c, List.mem_of_getElem? e, (Option.some.inj h).symm⟩
def unsg (f : Nat → V) (v : V) : V := match v with
  | .str y => f (y.cps.getD 0 0)
  | _ => .non
def unsgB (f : Nat → Bool) (v : V) : Bool := match v with
  | .str y => f (y.cps.getD 0 0)
  | _ => false
theorem map_unsg (f : Nat → V) : ∀ l : List Nat, (l.map sg).map (unsg f) = l.map f
  | [] => rfl
  | c :: l => by rw [List.map_cons, List.map_cons, List.map_cons, map_unsg f l]; rfl
theorem filter_unsg (p : Nat → Bool) : ∀ l : List Nat, (l.map sg).filter (unsgB p) = (l.filter p).map sg
  | [] => rfl
  | c :: l => by
    have e : unsgB p (sg c) = p c := rfl
    rw [List.map_cons, List.filter_cons, List.filter_cons, e, filter_unsg p l]
    cases p c <;> simp
/-- over a text's signs, with a test -/
theorem g_lcS {z : Str} {g : TG} {tt : TT} {vs : List Nat} {σ0 : St} (I : Is B M L H) (hw : Wiped σ vs σ0) (hz : z.length ≤ 900000) (p : Nat → Bool) (f : Nat → V)
    (hs : ∀ (c : Nat) (D : Addr) (acc : List V) (H' : Hp), c ∈ z.cps.toList → Is B M ((D, .lst acc) :: L) H' → ∀ (PY : V → Hp → Prop) (PN : Hp → Prop), (∀ H4, p c = true → Is B M ((D, .lst acc) :: L) H4 → PY (f c) H4) → (∀ H3, p c = false → Is B M ((D, .lst acc) :: L) H3 → PN H3) →
      g (.str ⟨#[c]⟩) σ0 H' fun σ2 H2 => wipe σ2 vs = σ0 ∧ tt σ2 H2 fun b H3 => if b = true then te σ2 H3 fun y H4 => PY y H4 else PN H3)
    (hd : ∀ D H', Is B M ((D, .lst ((z.cps.toList.filter p).map f)) :: L) H' → Q (.ref D) H') : aLc (Its z) g tt te vs σ H Q := by
  refine g_lcM walkS I hw (by rw [signs_len]; exact hz) (unsgB p) (unsg f) (fun _ _ _ _ => trivial) ?_ ?_
  · intro i x D acc H' hx hI' PY PN hY hN
    obtain ⟨c, hc, rfl⟩ := signs_mem hx
    exact hs c D acc H' hc hI' PY PN hY hN
  · intro D H' hI'
    have e : (List.filter (unsgB p) (signs z)).map (unsg f) = (z.cps.toList.filter p).map f := by
      unfold signs
      rw [filter_unsg, map_unsg]
    rw [e] at hI'
    exact hd D H' hI'
/-- .. without one -/
theorem g_lcS1 {z : Str} {g : TG} {vs : List Nat} {σ0 : St} (I : Is B M L H) (hw : Wiped σ vs σ0) (hz : z.length ≤ 900000) (f : Nat → V)
    (hs : ∀ (c : Nat) (D : Addr) (acc : List V) (H' : Hp), c ∈ z.cps.toList → Is B M ((D, .lst acc) :: L) H' → ∀ (PY : V → Hp → Prop), (∀ H4, Is B M ((D, .lst acc) :: L) H4 → PY (f c) H4) →
      g (.str ⟨#[c]⟩) σ0 H' fun σ2 H2 => wipe σ2 vs = σ0 ∧ te σ2 H2 fun y H4 => PY y H4)
    (hd : ∀ D H', Is B M ((D, .lst (z.cps.toList.map f)) :: L) H' → Q (.ref D) H') : aLc (Its z) g tYes te vs σ H Q := by
  refine g_lcS I hw hz (fun _ => true) f ?_ ?_
  · intro c D acc H' hc hI' PY PN hY hN
    exact hs c D acc H' hc hI' PY fun H4 => hY H4 rfl
  · intro D H' hI'
    have e : z.cps.toList.filter (fun _ => true) = z.cps.toList := List.filter_eq_self.mpr fun _ _ => rfl
    rw [e] at hI'
    exact hd D H' hI'
theorem g_all {α : Type} {D : Addr} {l : List α} {P : α → Bool} (h : SqL K H D (l.map fun c => V.bl (P c))) (q : Q (.bl (l.all P)) H) : rAll K [.ref D] H Q := by
  refine ⟨D, l.map P, rfl, ?_, ?_⟩
  · rw [List.map_map]
    exact h
  · rw [List.all_map]
    exact q
theorem g_wiped {σ1 : St} {vs : List Nat} {A : Prop} (w : Wiped σ vs σ1) (h : A) : wipe σ vs = σ1 ∧ A := ⟨w.eq, h⟩
theorem g_yes (h : QB true H) : tYes σ H QB := h
theorem g_true {A E : Prop} (h : A) : if true = true then A else E := by rw [if_pos rfl]; exact h
theorem g_false {A E : Prop} (h : E) : if false = true then A else E := by rw [if_neg Bool.false_ne_true]; exact h
theorem g_ntrue {A E : Prop} (h : E) : if (!true) = true then A else E := g_false h
theorem g_nfalse {A E : Prop} (h : A) : if (!false) = true then A else E := g_true h
theorem g_dec {p : Prop} [Decidable p] {A E : Prop} (h1 : p → A) (h2 : ¬ p → E) : if decide p = true then A else E := by
  by_cases h : p
  · rw [decide_eq_true h]
    exact g_true (h1 h)
  · rw [decide_eq_false h]
    exact g_false (h2 h)
theorem g_ndec {p : Prop} [Decidable p] {A E : Prop} (h1 : ¬ p → A) (h2 : p → E) : if (!decide p) = true then A else E := by
  by_cases h : p
  · rw [decide_eq_true h]
    exact g_false (h2 h)
  · rw [decide_eq_false h]
    exact g_true (h1 h)
theorem g_b {b : Bool} {A E : Prop} (h1 : b = true → A) (h2 : b = false → E) : if b = true then A else E := by
  cases b with
  | true => exact g_true (h1 rfl)
  | false => exact g_false (h2 rfl)
theorem g_nb {b : Bool} {A E : Prop} (h1 : b = false → A) (h2 : b = true → E) : if (!b) = true then A else E := by
  cases b with
  | true => exact g_false (h2 rfl)
  | false => exact g_true (h1 rfl)
end
end Bz
namespace Bz
open PySem PySem.Spec PyProof.Rows L2
/-! ### rules by their own names -/
def rIntS : List V → Hp → VK → Prop := fun xs H Q => ∃ a n, xs = [.str a] ∧ PySem.intText? a = some n ∧ a.length ≤ 640 ∧ Q (.int n) H
def rStrI : List V → Hp → VK → Prop := fun xs H Q => ∃ i, xs = [.int i] ∧ i.natAbs.log2 < 1920 ∧ Q (.str (toString i)) H
def rSplit : V → List V → Hp → VK → Prop := fun x xs H Q => ∃ a b, x = .str a ∧ xs = [.str b] ∧ (b.length == 0) = false ∧ a.length + 2 ≤ sizeLine ∧ rNewStrs (Txt.split a b) H Q
def rJoin (K : PySem.W.Frag) : V → List V → Hp → VK → Prop := fun x xs H Q => ∃ a p, ∃ ys : List Str, x = .str a ∧ xs = [.ref p] ∧ (SqL K H p (ys.map V.str) ∨ SqT K H p (ys.map V.str)) ∧ (ys.map (·.length)).sum + ys.length * a.length ≤ 16777216 ∧ Q (.str (Txt.join a ys)) H
def rIndexS : V → List V → Hp → VK → Prop := fun x xs H Q => ∃ a b k, x = .str a ∧ xs = [.str b] ∧ Txt.index0 a b = some k ∧ Q (.int (k : Nat)) H
def rListOf (K : PySem.W.Frag) : List V → Hp → VK → Prop := fun xs H Q => ∃ p ys, xs = [.ref p] ∧ (SqL K H p ys ∨ SqT K H p ys) ∧ ∀ l, H l = none → Q (.ref l) (upd H l (.lst ys))
section
variable {X : Cx}
theorem cl_intS : CallR X (.type "int") rIntS := call_int_str
theorem cl_strI : CallR X (.type "str") rStrI := call_str_int
theorem cl_listOf : CallR X (.type "list") (rListOf X.K) := call_list_of
theorem mt_indexS : MtR X "str.index" rIndexS := by
  intro pins s σ H x xs v us Q I rx rs h
  obtain ⟨a, b, k, rfl, rfl, hk, q⟩ := h
  obtain ⟨t, rfl⟩ := rx
  cases rs with
  | cons r1 rs =>
    cases rs
    obtain ⟨u, rfl⟩ := r1
    cases e : Builtin.Str.occurrences a b 0 a.length 1 with
    | nil =>
      unfold Txt.index0 at hk
      rw [e] at hk
      cases hk
    | cons j rest =>
      have ej : j = k := by
        unfold Txt.index0 at hk
        rw [e] at hk
        exact Option.some.inj hk
      subst ej
      exact PySem.SC.index e ⟨.int (j : Nat), H, I.tok _, ⟨_, rfl⟩, q⟩
/-- tuple * int -/
def rRepTT (K : PySem.W.Frag) : R2 := fun x y H Q => ∃ l k xs, x = .ref l ∧ y = .int k ∧ SqT K H l xs ∧ xs ≠ [] ∧ 2 ≤ k ∧ k ≤ 100000 ∧ xs.length ≤ 10 ∧ ∀ p, H p = none → Q (.ref p) (upd H p (.tup (List.replicate k.toNat xs).flatten))
theorem op_repTT : OpR X (binaryOp .Mult) (rRepTT X.K) := by
  intro pins s σ H x y v u Q I rx ry h
  obtain ⟨l, k, xs, rfl, rfl, hT, hne, h1, h2, hz, q⟩ := h
  cases rx
  obtain ⟨t, rfl⟩ := ry
  obtain ⟨its, r, ⟨⟨cls, dd, data, sl⟩, ho, hc, n, hd⟩, hs⟩ := I.tuple hT
  simp only at hc hd
  subst hc hd
  have hle : its.length = xs.length := r.length.symm
  have hi : its.toArray.isEmpty = false := by
    cases its with
    | nil => exact absurd (List.eq_nil_of_length_eq_zero hle.symm) hne
    | cons a b => rfl
  have hsz0 : its.toArray.size = xs.length := by rw [List.size_toArray, hle]
  have hm : ((its.toArray.size : Nat) : Int) * k ≤ 1000000 := by
    rw [hsz0]
    have a1 : ((xs.length : Nat) : Int) * k ≤ 10 * k := Int.mul_le_mul_of_nonneg_right (by omega) (by omega)
    omega
  have flen : k.toNat * its.length ≤ 1000000 := by
    have a1 : k.toNat * its.length ≤ 100000 * 10 := Nat.mul_le_mul (by omega) (by omega)
    omega
  have e0 := sizeLine_eq
  have c0 : (decide (k < -(2 ^ 63)) || decide (k ≥ 2 ^ 63)) = false := by
    rw [decide_eq_false (by omega), decide_eq_false (by omega)]
    rfl
  have c1 : (its.toArray.isEmpty || k == 1) = false := by rw [hi, Bool.false_or]; exact beq_eq_false_iff_ne.mpr (by omega)
  have c2 : (decide (k ≤ 0) || its.toArray.isEmpty) = false := by rw [hi, Bool.or_false]; exact decide_eq_false (by omega)
  have c4 : Builtin.Tuple.tupleTooMany (((its.toArray.size : Nat) : Int) * k) = false := by
    unfold Builtin.Tuple.tupleTooMany
    exact decide_eq_false (by omega)
  have g2 := call_meets (prog := X.prog) (w := X.w) (A := X.A) (E := X.xe) (s := s) (Q := EP X pins σ Q) PySem.F.slot_tuple_mul (show s.TypeIs (.ref l) "tuple" from ⟨_, ho, rfl⟩) PySem.F.entry_tuple_mul (PySem.F.args_tuple_mul_2 _ _)
    (tuple_mulW l its.toArray n dd sl k t c0 c1 c2 (by omega) c4 (by rw [size_rep, List.size_toArray, PyProof.Rows.lm_len_rep_flat]; omega)) ⟨ho, by
      rw [size_rep]
      refine ⟨.ref s.heap.objs.size, _, I.laid (t' := s.toks) (o := .tup (List.replicate k.toNat xs).flatten) (fun b ob q => Heap.get?_push_of_some _ q) (Nat.le_refl _) ?_, rfl, q _ (I.hok.fresh (Nat.le_refl _))⟩
      exact ⟨by rw [PyProof.Rows.lm_len_rep_flat, ← hle]; omega, _, r.rep k.toNat, IsTup.new _ _⟩⟩
  exact wpAny_binaryOp_repeat_ref (T := "tuple") (U := "int") (by decide) ⟨_, ho, rfl⟩ (fun s' => typeIs_int s' k t) noFill_tuple_mul PySem.F.fills_int_mul PySem.F.slot_int_rmul repeat_tuple PySem.F.slot_int_index.lookup
    (call_meets PySem.F.slot_int_rmul (typeIs_int s k t) PySem.F.entry_int_rmul (PySem.F.args_int_rmul_2 _ _) (int_rmul_tuple k t l its.toArray n dd sl) ⟨ho, rfl, ⟨_, ho, rfl⟩, g2⟩)
/-! the module's names -/
theorem pe_gI {x : Str} {i : Int} {pos : Pos} (h : ∃ t, X.mg x = some (.int i t)) (gl : Gl X x := by rfl) (hd : (x == ("__debug__" : Str)) = false := by decide) : PE X (.Name x pos) (tC (.int i)) := by
  obtain ⟨t, h⟩ := h
  exact pe_glob gl h ⟨_, rfl⟩ hd
theorem pe_gS {x z : Str} {pos : Pos} (h : ∃ t, X.mg x = some (.str z t)) (gl : Gl X x := by rfl) (hd : (x == ("__debug__" : Str)) = false := by decide) : PE X (.Name x pos) (tC (.str z)) := by
  obtain ⟨t, h⟩ := h
  exact pe_glob gl h ⟨_, rfl⟩ hd
theorem pe_gR {x : Str} {a : Addr} {pos : Pos} (h : X.mg x = some (.ref a)) (gl : Gl X x := by rfl) (hd : (x == ("__debug__" : Str)) = false := by decide) : PE X (.Name x pos) (tC (.ref a)) := pe_glob gl h rfl hd
end
/-! ### calls of the text's defs -/
structure CallOk (P : Program) (w : World) (K : PySem.W.Frag) (mg : Str → Option Value) (base : Heap) (CX : CXT) (k : Nat) (x : Str) (n : Nat) (ks : List Str) (sp : Sp) (gV : List V → List V → List V) : Prop where
  ok : ∃ fd ps g, FnG P w K mg base CX k (He.ga K x) fd ps sp ∧ KBn K fd ps n ks g gV
  at_ : mg x = some (.ref (He.ga K x))
  kp : PySem.W.keepIn K (.ref (He.ga K x)) = true
section
variable {X : Cx} {CX : CXT} {k k' n : Nat} {ks : List Str} {sp : Sp} {E : XK} {x : Str} {p pos : Pos} {e : Expr} {es : List Expr} {kws : List Keyword} {t tk : TA} {gV : List V → List V → List V}
theorem pe_ca (c : CallOk X.prog X.w X.K X.mg X.base CX k x n ks sp gV) (hr : Room k' X.A) (hk : k ≤ k') (hg : X.A.guards = some []) (gl : Gl X x) (hx : Passes CX X E) (ha : PA X (e :: es) t) (hkw : PK X kws tk)
    (h1 : (backToKw pos (keywordEach kws X.env)).all (·.1.isSome) = true := by rfl) (h2 : (backToKw pos (keywordEach kws X.env)).filterMap (·.1) = ks := by rfl)
    (h3 : (x == ("__debug__" : Str)) = false := by decide) (h4 : starEach (e :: es) X.env = (false, eval e X.env) :: starEach es X.env := by rfl)
    (h5 : ((backTo pos (starEach (e :: es) X.env)).any (·.1) || (backToKw pos (keywordEach kws X.env)).any (·.1.isNone)) = false := by rfl) :
    PE X (.Call (.Name x p) (e :: es) kws pos) (tCl n ks.length sp gV E t tk) := by
  obtain ⟨⟨fd, ps, g, F, kb⟩, a, kp⟩ := c
  exact pe_cl F (hr.mono hk) hg gl a kp kb hx ha hkw h1 h2 h3 h4 h5
theorem pe_ca0 (c : CallOk X.prog X.w X.K X.mg X.base CX k x n ks sp gV) (hr : Room k' X.A) (hk : k ≤ k') (hg : X.A.guards = some []) (gl : Gl X x) (hx : Passes CX X E) (hkw : PK X kws tk)
    (h1 : (backToKw pos (keywordEach kws X.env)).all (·.1.isSome) = true := by rfl) (h2 : (backToKw pos (keywordEach kws X.env)).filterMap (·.1) = ks := by rfl)
    (h3 : (x == ("__debug__" : Str)) = false := by decide)
    (h5 : ((backTo pos (starEach [] X.env)).any (·.1) || (backToKw pos (keywordEach kws X.env)).any (·.1.isNone)) = false := by rfl) :
    PE X (.Call (.Name x p) [] kws pos) (tCl n ks.length sp gV E tNil tk) := by
  obtain ⟨⟨fd, ps, g, F, kb⟩, a, kp⟩ := c
  exact pe_cl0 F (hr.mono hk) hg gl a kp kb hx hkw h1 h2 h3 h5
end
end Bz
namespace Bz
open PySem PySem.Spec PyProof.Rows L2
/-! ### short plain texts -/
def Sh (n : Nat) (z : Str) : Prop := z.length ≤ n ∧ ∀ c ∈ z.cps.toList, c < 128
theorem Sh.plain {n : Nat} {z : Str} (h : Sh n z) (hn : n ≤ 100000) : plainS z := ⟨Nat.le_trans h.1 hn, h.2⟩
theorem Sh.mono {n m : Nat} {z : Str} (h : Sh n z) (hn : n ≤ m) : Sh m z := ⟨Nat.le_trans h.1 hn, h.2⟩
theorem len_cps (z : Str) : z.length = z.cps.toList.length := by simp [Str.length]
theorem cps_app (x y : Str) : (x ++ y).cps.toList = x.cps.toList ++ y.cps.toList := TL.tl_append x y
theorem len_app (x y : Str) : (x ++ y).length = x.length + y.length := by rw [len_cps, len_cps, len_cps, cps_app, List.length_append]
theorem Sh.add {n m : Nat} {x y : Str} (h1 : Sh n x) (h2 : Sh m y) : Sh (n + m) (x ++ y) := by
  refine ⟨by rw [len_app]; have := h1.1; have := h2.1; omega, fun c hc => ?_⟩
  rw [cps_app] at hc
  rcases List.mem_append.mp hc with h | h
  · exact h1.2 c h
  · exact h2.2 c h
theorem Sh.sign {c : Nat} (h : c < 128) : Sh 1 ⟨#[c]⟩ := by
  refine ⟨Nat.le_refl _, fun d hd => ?_⟩
  have : d = c := by simpa using hd
  omega
def shB (n : Nat) (z : Str) : Bool := decide (z.length ≤ n) && z.cps.toList.all fun c => decide (c < 128)
theorem Sh.lit {n : Nat} {z : Str} (h : shB n z = true) : Sh n z := by
  unfold shB at h
  rw [Bool.and_eq_true] at h
  exact ⟨of_decide_eq_true h.1, fun c hc => of_decide_eq_true (List.all_eq_true.mp h.2 c hc)⟩
theorem Sh.at {n : Nat} {z : Str} {i : Int} (h : Sh n z) (h0 : 0 ≤ i) (h1 : i < (z.length : Int)) : ∃ c, atI z.cps.toList i = some c ∧ c ∈ z.cps.toList ∧ Sh 1 ⟨#[c]⟩ := by
  have hl : i.toNat < z.cps.toList.length := by rw [← len_cps]; omega
  exact ⟨_, atI_of h0 (List.getElem?_eq_getElem hl), List.getElem_mem hl, Sh.sign (h.2 _ (List.getElem_mem hl))⟩
theorem Sh.cut {n : Nat} {z : Str} (h : Sh n z) (lo hi : Option Int) : Sh n (cutS z lo hi) :=
  ⟨Nat.le_trans (cutS_length z lo hi) h.1, fun c hc => h.2 c (List.mem_of_mem_drop (List.mem_of_mem_take hc))⟩
theorem Sh.cut_to {n k : Nat} {z : Str} (h : Sh n z) (lo : Option Int) : Sh k (cutS z lo (some (k : Int))) := by
  refine ⟨?_, (h.cut _ _).2⟩
  have e : HT.sIx z.length z.length (some (k : Int)) = min k z.length := HT.sIx_nat _ _ _
  rw [len_cps]
  show (((z.cps.toList.drop _).take (HT.sIx z.length z.length (some (k : Int)) - _)).toArray.toList).length ≤ k
  rw [List.toList_toArray, List.length_take]
  omega
theorem repS_cps (z : Str) (k : Nat) : (repS z k).cps.toList = (List.replicate k z.cps.toList).flatten := rfl
theorem Sh.rep {n k : Nat} {z : Str} (h : Sh n z) : Sh (n * k) (repS z k) := by
  refine ⟨?_, fun c hc => ?_⟩
  · rw [len_cps, repS_cps, PyProof.Rows.lm_len_rep_flat, ← len_cps, Nat.mul_comm]
    exact Nat.mul_le_mul_right _ h.1
  · rw [repS_cps] at hc
    obtain ⟨l, hl, hc⟩ := List.mem_flatten.mp hc
    rw [(List.mem_replicate.mp hl).2] at hc
    exact h.2 c hc
theorem Sh.num {i : Int} {k : Nat} (h0 : 0 ≤ i) (hk : 0 < k) (h : i < (10 ^ k : Nat)) : Sh k (Str.ofString (toString i)) := by
  obtain ⟨n, rfl⟩ := Int.eq_ofNat_of_zero_le h0
  have hn : n < 10 ^ k := Int.ofNat_lt.mp h
  have e : (Str.ofString (toString ((n : Nat) : Int))).cps.toList = TL.numL n := TL.tl_num n
  refine ⟨?_, fun c hc => ?_⟩
  · rw [len_cps, e]
    exact TL.numL_len hk hn
  · rw [e] at hc
    have := TL.numL_digits n c hc
    omega
/-- a list of such texts -/
def Txs (n : Nat) (xs : List V) : Prop := ∀ x ∈ xs, ∃ z, x = .str z ∧ Sh n z
theorem Txs.nil {n : Nat} : Txs n [] := fun _ h => by cases h
theorem Txs.cons {n : Nat} {z : Str} {xs : List V} (h : Sh n z) (t : Txs n xs) : Txs n (.str z :: xs) := fun x hx => by
  rcases List.mem_cons.mp hx with e | e
  · exact ⟨z, e, h⟩
  · exact t x e
theorem Txs.app {n : Nat} {xs ys : List V} (h : Txs n xs) (t : Txs n ys) : Txs n (xs ++ ys) := fun x hx => by
  rcases List.mem_append.mp hx with e | e
  · exact h x e
  · exact t x e
theorem Txs.mono {n m : Nat} {xs : List V} (h : Txs n xs) (hn : n ≤ m) : Txs m xs := fun x hx => by
  obtain ⟨z, e, s⟩ := h x hx
  exact ⟨z, e, s.mono hn⟩
def txB (n : Nat) : List V → Bool
  | [] => true
  | .str z :: xs => shB n z && txB n xs
  | _ :: _ => false
theorem Txs.lit {n : Nat} : ∀ {xs : List V}, txB n xs = true → Txs n xs
  | [], _ => .nil
  | .str z :: xs, h => by
    have h : (shB n z && txB n xs) = true := h
    rw [Bool.and_eq_true] at h
    exact .cons (Sh.lit h.1) (Txs.lit h.2)
theorem Txs.get {n : Nat} {xs : List V} {i : Int} (h : Txs n xs) (h0 : 0 ≤ i) (h1 : i < (xs.length : Int)) : ∃ z, atI xs i = some (.str z) ∧ Sh n z := by
  have hl : i.toNat < xs.length := by omega
  obtain ⟨z, e, s⟩ := h _ (List.getElem_mem hl)
  exact ⟨z, atI_of h0 (by rw [List.getElem?_eq_getElem hl, e]), s⟩
theorem Txs.getB {n : Nat} {xs : List V} {i : Int} (h : Txs n xs) (h0 : i < 0) (h1 : -(xs.length : Int) ≤ i) : ∃ z, atI xs i = some (.str z) ∧ Sh n z := by
  have hl : (i + xs.length).toNat < xs.length := by omega
  obtain ⟨z, e, s⟩ := h _ (List.getElem_mem hl)
  refine ⟨z, ?_, s⟩
  unfold atI ixN
  rw [if_neg (by omega), if_pos h1]
  show xs[(i + xs.length).toNat]? = _
  rw [List.getElem?_eq_getElem hl, e]
/-! ### what repr shows is short -/
mutual
inductive Shn : PyData → Nat → Nat → Prop
  | non {k : Nat} : Shn .none 5 k
  | bl {b : Bool} {k : Nat} : Shn (.bool b) 5 k
  | int {i : Int} {k : Nat} : i.natAbs.log2 < 1920 → Shn (.int i) 2000 k
  | str {z : Str} {k : Nat} : (∀ c ∈ z.cps.toList, c < 128) → Shn (.str z) (10 * z.length + 2) k
  | lst {xs : List PyData} {n k : Nat} : ShnAll xs n k → Shn (.list xs) (n + 3) (k + 1)
  | tup {xs : List PyData} {n k : Nat} : ShnAll xs n k → Shn (.tuple xs) (n + 3) (k + 1)
inductive ShnAll : List PyData → Nat → Nat → Prop
  | nil {k : Nat} : ShnAll [] 0 k
  | cons {x : PyData} {xs : List PyData} {n m k : Nat} : Shn x n k → ShnAll xs m k → ShnAll (x :: xs) (n + m + 2) k
end
mutual
theorem Shn.ok : ∀ {d : PyData} {n k : Nat}, Shn d n k → d.showable = true ∧ d.hasDict = false ∧ d.shown.length ≤ n ∧ d.depth ≤ k
  | _, _, _, .non => ⟨rfl, rfl, by decide, Nat.zero_le _⟩
  | _, _, _, .bl (b := b) => ⟨rfl, rfl, by cases b <;> decide, Nat.zero_le _⟩
  | _, _, _, .int (i := i) h => by
    refine ⟨by simpa only [PyData.showable, decide_eq_true_eq] using h, by simp only [PyData.hasDict], ?_, by simp only [PyData.depth]; omega⟩
    have e := int_text_length_le (a := i) (k := 1920) (by decide) h
    simp only [PyData.shown]
    rw [PySem.ofString_length]
    omega
  | _, _, _, .str (z := z) h => by
    refine ⟨by simp only [PyData.showable], by simp only [PyData.hasDict], ?_, by simp only [PyData.depth]; omega⟩
    have e := PySem.StrLaws.reprText_len z fun c hc => Nat.lt_of_lt_of_le (h c hc) (by decide)
    simp only [PyData.shown]
    have e2 : z.length = z.cps.size := rfl
    omega
  | _, _, _, .lst (xs := xs) h => by
    obtain ⟨h1, h2, h3, h4⟩ := ShnAll.ok h
    refine ⟨by simpa only [PyData.showable] using h1, by simpa only [PyData.hasDict] using h2, ?_, by simp only [PyData.depth]; omega⟩
    have := listText_len_le (PyData.shownAll xs)
    have h5 := PyData.shownAll_length xs
    simp only [PyData.shown]
    omega
  | _, _, _, .tup (xs := xs) h => by
    obtain ⟨h1, h2, h3, h4⟩ := ShnAll.ok h
    refine ⟨by simpa only [PyData.showable] using h1, by simpa only [PyData.hasDict] using h2, ?_, by simp only [PyData.depth]; omega⟩
    have := tupleText_len_le (PyData.shownAll xs)
    have h5 := PyData.shownAll_length xs
    simp only [PyData.shown]
    omega
theorem ShnAll.ok : ∀ {d : List PyData} {n k : Nat}, ShnAll d n k → PyData.showableAll d = true ∧ PyData.hasDictAll d = false ∧ ((PyData.shownAll d).map (·.length)).sum + 2 * d.length ≤ n ∧ PyData.depthAll d ≤ k
  | _, _, _, .nil => ⟨by simp only [PyData.showableAll], by simp only [PyData.hasDictAll], by simp [PyData.shownAll], by simp only [PyData.depthAll]; omega⟩
  | _, _, _, .cons h t => by
    obtain ⟨h1, h2, h3, h4⟩ := Shn.ok h
    obtain ⟨t1, t2, t3, t4⟩ := ShnAll.ok t
    refine ⟨by simp only [PyData.showableAll, h1, t1, Bool.and_true], by simp only [PyData.hasDictAll, h2, t2, Bool.or_false], ?_, by simp only [PyData.depthAll]; omega⟩
    simp only [PyData.shownAll, List.map_cons, List.sum_cons, List.length_cons]
    omega
end
mutual
theorem Shn.lay : ∀ {d : PyData} {n k : Nat}, Shn d n k → d.canLay0 = true
  | _, _, _, .non => rfl
  | _, _, _, .bl => rfl
  | _, _, _, .int _ => rfl
  | _, _, _, .str (z := z) h => by
    simp only [PyData.canLay0]
    unfold PyData.strOk
    rw [← Array.all_toList, List.all_eq_true]
    intro c hc
    exact decide_eq_true (Nat.lt_of_lt_of_le (h c hc) (by decide))
  | _, _, _, .lst h => by simp only [PyData.canLay0, ShnAll.lay h]
  | _, _, _, .tup h => by simp only [PyData.canLay0, ShnAll.lay h]
theorem ShnAll.lay : ∀ {d : List PyData} {n k : Nat}, ShnAll d n k → PyData.canLayAll0 d = true
  | _, _, _, .nil => by simp only [PyData.canLayAll0]
  | _, _, _, .cons h t => by simp only [PyData.canLayAll0, Shn.lay h, ShnAll.lay t, Bool.and_true]
end
theorem Shn.shaped {d : PyData} {n k : Nat} (h : Shn d n k) (hk : k ≤ 60) : SeqAt.shaped d = true := by
  unfold SeqAt.shaped
  rw [h.lay, decide_eq_true (by have := h.ok.2.2.2; omega)]
  rfl
theorem shn_signs {k : Nat} : ∀ l : List Nat, (∀ c ∈ l, c < 128) → ShnAll (l.map fun c => PyData.str ⟨#[c]⟩) (14 * l.length) k
  | [], _ => .nil
  | c :: l, h => by
    have h1 : Shn (PyData.str ⟨#[c]⟩) 12 k := Shn.str (z := ⟨#[c]⟩) (Sh.sign (h c List.mem_cons_self)).2
    have h2 := ShnAll.cons h1 (shn_signs (k := k) l fun d hd => h d (List.mem_cons_of_mem _ hd))
    rwa [show 12 + 14 * l.length + 2 = 14 * (c :: l).length by rw [List.length_cons]; omega] at h2
theorem g_repr {K : PySem.W.Frag} {H : Hp} {Q : VK} {x : V} {d : PyData} {n k : Nat} (h : Dp K H x d) (s : Shn d n k) (hn : n ≤ 16000000) (hk : k ≤ 60) (q : Q (.str d.shown) H) : rRepr K [x] H Q := by
  obtain ⟨h1, h2, h3, h4⟩ := s.ok
  exact ⟨x, d, rfl, h, h1, h2, by rw [sizeLine_eq]; omega, by omega, q⟩
/-! the same, of any two texts -/
section
variable {K : PySem.W.Frag} {H : Hp} {Q : VK} {n m : Nat}
theorem g_add_sh {a b : Str} (h1 : Sh n a) (h2 : Sh m b) (h : n + m ≤ 1000000) (q : Sh (n + m) (a ++ b) → Q (.str (a ++ b)) H) : rAddA K (.str a) (.str b) H Q :=
  g_add_s (by have := h1.1; have := h2.1; omega) (q (h1.add h2))
theorem g_ix_sh {z : Str} {i : Int} (h : Sh n z) (hn : n ≤ 1000000) (h0 : 0 ≤ i) (h1 : i < (z.length : Int)) (q : ∀ c, c ∈ z.cps.toList → Sh 1 ⟨#[c]⟩ → Q (.str ⟨#[c]⟩) H) : rIx K (.str z) (.int i) H Q := by
  obtain ⟨c, e, hc, s⟩ := h.at h0 h1
  exact g_ix_s (Nat.le_trans h.1 hn) e (q c hc s)
theorem g_ix_tx {a : Addr} {xs : List V} {i : Int} (hs : SqL K H a xs) (h : Txs n xs) (h0 : 0 ≤ i) (h1 : i < (xs.length : Int)) (q : ∀ z, Sh n z → Q (.str z) H) : rIx K (.ref a) (.int i) H Q := by
  obtain ⟨z, e, s⟩ := h.get h0 h1
  exact g_ix_l hs e (q z s)
theorem g_sl_sh {z : Str} {lo hi : Option Int} (h : Sh n z) (hn : n ≤ 1000000) (q : Sh n (cutS z lo hi) → Q (.str (cutS z lo hi)) H) : rSlA K (.str z) lo hi H Q :=
  g_sl_s (Nat.le_trans h.1 hn) (q (h.cut lo hi))
theorem g_strI {i : Int} {k : Nat} (h0 : 0 ≤ i) (hk : 0 < k ∧ k ≤ 250) (h : i < (10 ^ k : Nat)) (q : Sh k (Str.ofString (toString i)) → Q (.str (Str.ofString (toString i))) H) : rStrI [.int i] H Q := by
  refine ⟨i, rfl, ?_, q (Sh.num h0 hk.1 h)⟩
  have e : i.natAbs < 2 ^ 1920 := by
    have h1 : 10 ^ k ≤ 10 ^ 250 := Nat.pow_le_pow_right (by decide) hk.2
    have h2 : (10 : Nat) ^ 500 < 2 ^ 1920 := by decide +kernel
    omega
  by_cases hz : i.natAbs = 0
  · rw [hz]
    decide
  · exact (Nat.log2_lt hz).mpr e
end
theorem mt_tyS {K : PySem.W.Frag} {H : Hp} {z : Str} {A : Prop} (h : A) : tyV K "str" (.str z) H ∧ A := ⟨rfl, h⟩
end Bz
namespace Bz
open PySem PySem.Spec PyProof.Rows L2
/-- the script as the law sees it: told by itself, unless it is one of the module's own objects -/
def scr (K : PySem.W.Frag) (a : Addr) (o : Obj) (xs : List V) : Hp := fun b => if b = a ∧ K.lookup a = none then some (.frz o (.lst xs)) else none
section
variable {K : PySem.W.Frag} {a b : Addr} {o : Obj} {xs : List V} {u : HO}
theorem scr_at (h : scr K a o xs b = some u) : b = a ∧ K.lookup a = none ∧ u = .frz o (.lst xs) := by
  unfold scr at h
  split at h
  · rename_i c
    exact ⟨c.1, c.2, (Option.some.inj h).symm⟩
  · cases h
theorem scr_else (h : ∀ u, ¬ scr K a o xs b = some u) : scr K a o xs b = none := by
  cases e : scr K a o xs b with
  | none => rfl
  | some u => exact absurd e (h u)
end
/-- a law's promise, kept where no repr is under way, is kept at the head -/
theorem walk_ofG {l : PySem.W.OpenLaw} {n k : Nat} {q : Program} {loose : List Str} {XP : (Str → Option Value) → Heap → Prop} {YP : World → Heap → Prop} {d : DefRec} {CX : CXT} {x : Str}
    (hn : l.most = some n) (hn2 : n ≤ sizeLine) (hdf : d.params.defaults = []) (hr : Room k callerA)
    (F : ∀ (w : World) (mg : Str → Option Value) (fa : Addr) (h : Heap), YP w h → h.Ns mainGlobals mg → mg d.name = some (.ref fa) →
      ∃ (K : PySem.W.Frag) (fd : FuncData) (sp : Sp), K.In h ∧ (∀ (s : Shared) (u : Value), BindsTo s fd ⟨[u], []⟩ [(x, u)]) ∧
        (∀ (H : Hp) (a : Addr) (ns : List Int), ns.length ≤ n → SqL K H a (ns.map V.int) → sp [.ref a] H (fun v _ => v = .bl true) fun _ _ _ => False) ∧
        ∀ base : Heap, K.In base → base.Ns mainGlobals mg → FnG l.prog w K mg base CX k fa fd [x] sp)
    (hCX : ∀ (H : Hp) (s : Shared) (e : Value) (s' : Shared), CX [] H s (fun _ _ _ => False) e s' → False) :
    PySem.W.WalkO q loose XP YP l.row.toRowW d [] (fun f vs => PySem.call f vs) := by
  refine Att.attach_call hn hdf fun w s₀ s₁ mg mb fa o pm cd doc a vs ns G Y ho hd hcd hmg hobj hints hlen hg => ?_
  obtain ⟨K, fd, sp, KX, hb, hsp, hF⟩ := F w mg fa _ Y G.T.g hmg
  have hv := vals_ints hints
  have hlv := hints.length
  have hsz : ns.length ≤ sizeLine := Nat.le_trans hlen hn2
  generalize hH : scr K a { cls := .type "list", data := .seq vs.toArray } (ns.map V.int) = H
  have told : ∀ {b : Addr} {u : HO}, H b = some u → b = a ∧ K.lookup a = none ∧ u = .frz { cls := .type "list", data := .seq vs.toArray } (.lst (ns.map V.int)) := fun {b u} e => by
    rw [← hH] at e
    exact scr_at e
  have free : ∀ {b : Addr}, (∀ u, ¬ H b = some u) → H b = none := fun {b} e => by
    rw [← hH] at e ⊢
    exact scr_else e
  have seen : ∀ {b : Addr} {ob : Obj}, s₁.heap.get? b = some ob → (∀ u, ¬ H b = some u) → (hidT s₁.heap H).get? b = some ob := fun e z => hidT_get e (free z)
  have names : ∀ {b : Addr} {m : Str → Option Value}, s₁.heap.Ns b m → (hidT s₁.heap H).Ns b m := by
    rintro b m ⟨ob, es, ep, e, hdd, r⟩
    refine ⟨ob, es, ep, seen e fun u z => ?_, hdd, r⟩
    rw [(told z).1, hobj] at e
    cases e
    cases hdd
  have own : K.In (hidT s₁.heap H) := fun b ob e => seen (KX b ob e) fun u z => by
    obtain ⟨h1, h2, _⟩ := told z
    rw [h1, h2] at e
    cases e
  have seq : SqL K H a (ns.map V.int) := by
    cases hk : K.lookup a with
    | none => exact .inl (.inr ⟨{ cls := .type "list", data := .seq vs.toArray }, by rw [← hH]; exact if_pos ⟨rfl, hk⟩⟩)
    | some ob =>
      have e := KX a ob hk
      rw [hobj] at e
      cases e
      exact .inr ⟨_, vs.toArray, _, hk, rfl, rfl, rfl, by rw [List.size_toArray, hlv]; exact hsz, by simpa using hv⟩
  have good : HOk l.prog w H s₁.heap := fun b u e => by
    obtain ⟨h1, _, h3⟩ := told e
    subst h1 h3
    exact ⟨hobj, by rw [List.length_map]; exact hsz, vs, _, hv, hobj⟩
  obtain ⟨mc, l1, l2⟩ := G.T.nolimit
  have env : Env0 l.prog w K mg (hidT s₁.heap H) callerA [] s₁ H :=
    ⟨rfl, ⟨own, names G.T.g, ⟨mb, names G.T.b, G.T.builtins⟩, ⟨mc, names l1, l2⟩⟩, fun b ob e => of_hidT e, Nat.le_of_eq (hidT_size _ _), trivial, fun b z => List.not_mem_nil (show b ∈ ([] : List Addr) from z) |>.elim, good, .of_eq hg⟩
  refine codeAny_mono ((hF _ own (names G.T.g)).go callerA [] s₁ H ⟨[.ref a], []⟩ [.ref a] [.ref a] _ _ hr rfl env (hb s₁ (.ref a)) (.cons rfl .nil) (hsp H a ns hlen seq)) ?_
  rintro (e | fl) s' z
  · exact (hCX H s₁ e s' z).elim
  · cases fl with
    | ret v =>
      obtain ⟨y, H', hos, hbare, keep, ok', rv, hy⟩ := z
      have hy : y = .bl true := hy
      rw [hy] at rv
      have ev : v = Value.bool true := rv
      rw [ev]
      refine ⟨rfl, OldK.of_keep fun b ob e => ?_, hos, hbare⟩
      cases hq : H b with
      | none => exact keep.keep b ob e hq (fun z => (List.not_mem_nil (show b ∈ ([] : List Addr) from z)).elim) (by simp)
      | some u =>
        obtain ⟨_, _, h3⟩ := told hq
        rw [h3] at hq
        have e1 := (good b _ hq).1
        rw [e1] at e
        cases e
        exact (ok' b _ (keep.frzs b _ _ hq)).1
    | _ => exact False.elim z
end Bz
namespace Bz
open PySem PySem.Spec PyProof.Rows L2
/-! ### the head: names, defs, tables, and what else may be asked of the top's objects -/
/-- the addresses that hang on the top's names, by levels; those seen are kept as a number's bits -/
def forceN {α : Type} (n : Nat) (k : Nat → α) : α := match n with
  | 0 => k 0
  | m + 1 => k (m + 1)
def addE {α : Type} : List Addr → Nat → List Addr → (Nat → List Addr → α) → α
  | [], seen, new, k => k seen new
  | a :: r, seen, new, k => forceN a fun a => match Nat.beq (Nat.land (Nat.shiftRight seen a) 1) 1 with
    | true => addE r seen new k
    | false => forceN (Nat.lor seen (Nat.shiftLeft 1 a)) fun seen => addE r seen (a :: new) k
def levE {α : Type} (g : Addr → Option Obj) : List Addr → Nat → List Addr → (Nat → List Addr → α) → α
  | [], seen, new, k => k seen new
  | a :: r, seen, new, k => match g a with
    | some o => addE (He.refsD o) seen new fun seen new => levE g r seen new k
    | none => levE g r seen new k
def growE (g : Addr → Option Obj) : Nat → List Addr → Nat → List Addr → List Addr
  | 0, _, _, all => all
  | n + 1, front, seen, all => levE g front seen [] fun seen new => growE g n new seen (all ++ new)
def asE (g : Addr → Option Obj) (n : Nat) : List Addr := growE g n [mainGlobals] (Nat.shiftLeft 1 mainGlobals) [mainGlobals]
abbrev Ask : Type := PySem.W.Frag → Bool
abbrev AlB : Type := Bool × He.AlT
def obsB (fa : List He.Fa) (fn : List He.DefD) (ts : List He.Tab) (bs : List Ask) (K : PySem.W.Frag) : AlB := (bs.all fun b => b K, He.obsT fa fn ts K)
def valB (fn : List He.DefD) (ts : List He.Tab) (w : World) : AlB := (true, He.valT fn ts w)
def obsBG (n : Nat) (fa : List He.Fa) (fn : List He.DefD) (ts : List He.Tab) (bs : List Ask) (g : Addr → Option Obj) : AlB := obsB fa fn ts bs (He.frG g (asE g n))
def SaysB (fa : List He.Fa) (fn : List He.DefD) (ts : List He.Tab) (bs : List Ask) (w : World) (K : PySem.W.Frag) : Prop := obsB fa fn ts bs K = valB fn ts w
def hookB (n : Nat) (fa : List He.Fa) (fn : List He.DefD) (ts : List He.Tab) (bs : List Ask) : PySem.W.Hook where
  α := AlB
  obs := fun s => obsBG n fa fn ts bs s.heap.get?
  val := fun w => valB fn ts w
  says := fun w h => ∃ K : PySem.W.Frag, K.In h ∧ SaysB fa fn ts bs w K
  of := fun _ _ e => ⟨_, He.frG_in, e⟩
  keeps := fun _ _ _ ⟨K, hK, c⟩ k => ⟨K, PySem.W.Frag.In.keeps hK k, c⟩
theorem obsBG_eq {n : Nat} {fa : List He.Fa} {fn : List He.DefD} {ts : List He.Tab} {bs : List Ask} {g : Addr → Option Obj} {s : Shared} (h : ∀ a, g a = s.heap.get? a) : obsBG n fa fn ts bs g = (hookB n fa fn ts bs).obs s := by
  have e : g = s.heap.get? := funext h
  rw [e] <;> rfl
section
variable {fa : List He.Fa} {fn : List He.DefD} {ts : List He.Tab} {bs : List Ask} {w : World} {K : PySem.W.Frag}
theorem SaysB.t (c : SaysB fa fn ts bs w K) : He.SaysT fa fn ts w K := congrArg (fun z : AlB => z.2) c
theorem SaysB.d (c : SaysB fa fn ts bs w K) : He.SaysD fa fn K := c.t.d
theorem SaysB.ask (c : SaysB fa fn ts bs w K) (i : Nat) {b : Ask} (h : bs[i]? = some b := by rfl) : b K = true := by
  have c1 : (bs.all fun b => b K) = true := congrArg (fun z : AlB => z.1) c
  exact List.all_eq_true.mp c1 b (List.mem_of_getElem? h)
end
end Bz
namespace Bz
open PySem PySem.Spec PyProof.Rows L2
/-! ### what is never reached -/
def tNoS : TS := fun _ _ _ => False
def tNoE : TE := fun _ _ _ => False
theorem ps_no {X : Cx} {st : Stmt} : PS X st tNoS := ⟨fun _ _ _ _ _ _ h => h.elim⟩
theorem pe_no {X : Cx} {e : Expr} : PE X e tNoE := ⟨fun _ _ _ _ _ _ h => h.elim⟩
/-! ### own classes: methods, makes -/
structure MethOk (P : Program) (w : World) (K : PySem.W.Frag) (mg : Str → Option Value) (base : Heap) (CX : CXT) (k : Nat) (C : Addr) (m : Str) (n : Nat) (ks : List Str) (sp : Sp) (gV : List V → List V → List V) : Prop where
  ok : ∃ f fd ps g, Meth K C m f ∧ FnG P w K mg base CX k f fd ps sp ∧ KBn K fd ps (n + 1) ks g gV
  cl : Cls K C
structure MakeOk (P : Program) (w : World) (K : PySem.W.Frag) (mg : Str → Option Value) (base : Heap) (CX : CXT) (k : Nat) (x : Str) (n : Nat) (ks : List Str) (sp : Sp) (gV : List V → List V → List V) : Prop where
  ok : ∃ f fd ps g, Mk K (He.ga K x) f ∧ FnG P w K mg base CX k f fd ps sp ∧ KBn K fd ps (n + 1) ks g gV
  at_ : mg x = some (.ref (He.ga K x))
def tMe (C : Addr) (m : Str) (n j : Nat) (sp : Sp) (gV : List V → List V → List V) (E : XK) (to : TE) (t tk : TA) : TE := fun σ H Q => to σ H fun x H1 => ∃ a dx fs, x = .ref a ∧ H1 a = some (.ins C dx fs) ∧ fs.lookup m = none ∧
  t σ H1 fun vs H2 => tk σ H2 fun zs H3 => vs.length = n ∧ zs.length = j ∧ sp (gV (x :: vs) zs) H3 Q E
def tMk (C : Addr) (n j : Nat) (sp : Sp) (gV : List V → List V → List V) (E : XK) (t tk : TA) : TE := fun σ H Q => t σ H fun vs H1 => tk σ H1 fun zs H2 => vs.length = n ∧ zs.length = j ∧
  ∀ x dx, H2 x = none → H2 dx = none → dx ≠ x → sp (gV (.ref x :: vs) zs) (upd (upd H2 dx (.own x)) x (.ins C dx [])) (fun v H3 => v = .non ∧ Q (.ref x) H3) E
section
variable {X : Cx} {CX : CXT} {k k' n : Nat} {C : Addr} {ks : List Str} {sp : Sp} {E : XK} {x m : Str} {p pos apos : Pos} {e o : Expr} {es : List Expr} {kws : List Keyword} {to : TE} {t tk : TA} {gV : List V → List V → List V}
theorem pe_me {pl : Sem Bool} (c : MethOk X.prog X.w X.K X.mg X.base CX k C m n ks sp gV) (hr : Room k' X.A) (hk : k ≤ k') (hg : X.A.guards = some []) (hx : Passes CX X E) (ho : PE X o to) (ha : PA X (e :: es) t) (hkw : PK X kws tk)
    (h1 : (backToKw pos (keywordEach kws X.env)).all (·.1.isSome) = true := by rfl) (h2 : (backToKw pos (keywordEach kws X.env)).filterMap (·.1) = ks := by rfl)
    (h4 : starEach (e :: es) X.env = (false, eval e X.env) :: starEach es X.env := by rfl)
    (h5 : ((backTo pos (starEach (e :: es) X.env)).any (·.1) || (backToKw pos (keywordEach kws X.env)).any (·.1.isNone)) = false := by rfl)
    (ht : eval (.Call (.Attribute o m apos) (e :: es) kws pos) X.env = (do
      let ov ← eval o X.env
      standAt apos.atName
      let (f, first) ← holding [ov] (getMethod ov m pl)
      callWith pos f first (backTo pos (starEach (e :: es) X.env)) (backToKw pos (keywordEach kws X.env))) := by rfl) :
    PE X (.Call (.Attribute o m apos) (e :: es) kws pos) (tMe C m n ks.length sp gV E to t tk) := by
  obtain ⟨⟨f, fd, ps, g, hm, F, kb⟩, cl⟩ := c
  refine ⟨fun pins s σ H Q I h => ?_⟩
  refine PySem.W.methodCall_KW (pl := pl) (thn (ho.run pins s σ H _ I h) fun u s1 ⟨x, H1, I1, rx, a, dx, fs, ex, ea, l, q⟩ => ?_) ht
  subst ex
  obtain rfl : u = Value.ref a := rx
  refine getmeth_ok I1 ea cl hm l ?_
  refine PySem.W.callWith_KW (first := [.ref a]) (h₀ := X.base) I.ok.mod.kin hm.kp h1 (thn (ha.run pos pins s1 σ H1 _ I1 q) ?_) h5 h4
  rintro us s2 ⟨vs, H2, I2, r, q2⟩
  refine thn (hkw.run pos pins s2 σ H2 _ I2 q2) ?_
  rintro ws s3 ⟨zs, H3, I3, rz, l1, l2, q3⟩
  refine ⟨I3.kIn, ?_⟩
  rw [h2]
  exact run_gn (us := .ref a :: us) (vs := .ref a :: vs) F (hr.mono hk) hg kb hx I3 (.cons rfl r) rz (congrArg Nat.succ l1) l2 q3
theorem pe_me0 {pl : Sem Bool} (c : MethOk X.prog X.w X.K X.mg X.base CX k C m n ks sp gV) (hr : Room k' X.A) (hk : k ≤ k') (hg : X.A.guards = some []) (hx : Passes CX X E) (ho : PE X o to) (hkw : PK X kws tk)
    (h1 : (backToKw pos (keywordEach kws X.env)).all (·.1.isSome) = true := by rfl) (h2 : (backToKw pos (keywordEach kws X.env)).filterMap (·.1) = ks := by rfl)
    (h5 : ((backTo pos (starEach [] X.env)).any (·.1) || (backToKw pos (keywordEach kws X.env)).any (·.1.isNone)) = false := by rfl)
    (ht : eval (.Call (.Attribute o m apos) [] kws pos) X.env = (do
      let ov ← eval o X.env
      standAt apos.atName
      let (f, first) ← holding [ov] (getMethod ov m pl)
      callWith pos f first (backTo pos (starEach [] X.env)) (backToKw pos (keywordEach kws X.env))) := by rfl) :
    PE X (.Call (.Attribute o m apos) [] kws pos) (tMe C m n ks.length sp gV E to tNil tk) := by
  obtain ⟨⟨f, fd, ps, g, hm, F, kb⟩, cl⟩ := c
  refine ⟨fun pins s σ H Q I h => ?_⟩
  refine PySem.W.methodCall_KW (pl := pl) (thn (ho.run pins s σ H _ I h) fun u s1 ⟨x, H1, I1, rx, a, dx, fs, ex, ea, l, q⟩ => ?_) ht
  subst ex
  obtain rfl : u = Value.ref a := rx
  refine getmeth_ok I1 ea cl hm l ?_
  refine PySem.W.callWith_KW0 (first := [.ref a]) (h₀ := X.base) I.ok.mod.kin hm.kp h1 (thn (hkw.run pos pins s1 σ H1 _ I1 q) ?_) h5
  rintro ws s3 ⟨zs, H3, I3, rz, l1, l2, q3⟩
  refine ⟨I3.kIn, ?_⟩
  rw [h2]
  exact run_gn (us := .ref a :: []) (vs := .ref a :: []) F (hr.mono hk) hg kb hx I3 (.cons rfl .nil) rz (congrArg Nat.succ l1) l2 q3
/-- a make runs __init__ -/
theorem run_mk {f : Addr} {fd : FuncData} {ps : List Str} {g : List Value → List Value → List Value} {pins : List (Addr × Obj)} {σ : L2.St} {H : Hp} {s : Shared} {Q : VK} {us ws : List Value} {vs zs : List V}
    (M : Mk X.K C f) (F : FnG X.prog X.w X.K X.mg X.base CX k f fd ps sp) (hr : Room (k + 1) X.A) (hg : X.A.guards = some []) (hb : KBn X.K fd ps (n + 1) ks g gV)
    (hx : Passes CX X E) (I : Inv X pins σ H s) (r : Vals vs us) (rz : Vals zs ws) (l1 : vs.length = n) (l2 : zs.length = ks.length)
    (h : ∀ x dx, H x = none → H dx = none → dx ≠ x → sp (gV (.ref x :: vs) zs) (upd (upd H dx (.own x)) x (.ins C dx [])) (fun v H2 => v = .non ∧ Q (.ref x) H2) E) :
    wpAny (model X.prog X.w) X.A (call (.ref C) us (ks.zip ws)) (EP X pins σ Q) X.xe s := by
  have hq := h (s.heap.objs.size + 1) s.heap.objs.size (I.hok.fresh (Nat.le_succ _)) (I.hok.fresh (Nat.le_refl _)) (Nat.ne_of_lt (Nat.lt_succ_self _))
  have I2 := Inv.made (C := C) I
  have r1 : Vals (V.ref (s.heap.objs.size + 1) :: vs) (Value.ref (s.heap.objs.size + 1) :: us) := .cons rfl r
  refine wpAny_call (make_map (f := f) I.kIn M.makes M.init (beq_iff_eq.mp M.fn) (codeAny_mono (F.go _ X.stack _ _ ⟨Value.ref (s.heap.objs.size + 1) :: us, ks.zip ws⟩ (g (Value.ref (s.heap.objs.size + 1) :: us) ws) _ _ E (hr.make C us (ks.zip ws)) (guards_make hg)
    (I2.env0.make C us (ks.zip ws)) (hb.to _ (Value.ref (s.heap.objs.size + 1) :: us) ws I2.kIn (r1.length.symm.trans (congrArg Nat.succ l1)) (rz.length.symm.trans l2)) (hb.rel r1 rz) hq) ?_))
  rintro (e | fl) s' z
  · exact hx pins σ _ _ e s' I2 z
  · cases fl with
    | ret u =>
      obtain ⟨v, H', I3, rv, ev, q3⟩ := I2.after z
      subst ev
      exact ⟨rv, ⟨V.ref (s.heap.objs.size + 1), H', I3, rfl, q3⟩⟩
    | _ => exact False.elim z
theorem pe_mk (c : MakeOk X.prog X.w X.K X.mg X.base CX k x n ks sp gV) (hr : Room k' X.A) (hk : k + 1 ≤ k') (hg : X.A.guards = some []) (gl : Gl X x) (hx : Passes CX X E) (ha : PA X (e :: es) t) (hkw : PK X kws tk)
    (h1 : (backToKw pos (keywordEach kws X.env)).all (·.1.isSome) = true := by rfl) (h2 : (backToKw pos (keywordEach kws X.env)).filterMap (·.1) = ks := by rfl)
    (h3 : (x == ("__debug__" : Str)) = false := by decide) (h4 : starEach (e :: es) X.env = (false, eval e X.env) :: starEach es X.env := by rfl)
    (h5 : ((backTo pos (starEach (e :: es) X.env)).any (·.1) || (backToKw pos (keywordEach kws X.env)).any (·.1.isNone)) = false := by rfl) :
    PE X (.Call (.Name x p) (e :: es) kws pos) (tMk (He.ga X.K x) n ks.length sp gV E t tk) := by
  obtain ⟨⟨f, fd, ps, g, M, F, kb⟩, hm⟩ := c
  refine ⟨fun pins s σ H Q I h => ?_⟩
  refine wpAny_Call_Name_kw (ld_glob I gl hm ?_ h3)
  refine PySem.W.callWith_KW (h₀ := X.base) I.ok.mod.kin M.kp h1 (thn (ha.run pos pins s σ H _ I h) ?_) h5 h4
  rintro us s1 ⟨vs, H1, I1, r, q⟩
  refine thn (hkw.run pos pins s1 σ H1 _ I1 q) ?_
  rintro ws s2 ⟨zs, H2, I2, rz, l1, l2, q2⟩
  refine ⟨I2.kIn, ?_⟩
  rw [h2]
  exact run_mk M F (hr.mono hk) hg kb hx I2 r rz l1 l2 q2
theorem pe_mk0 (c : MakeOk X.prog X.w X.K X.mg X.base CX k x n ks sp gV) (hr : Room k' X.A) (hk : k + 1 ≤ k') (hg : X.A.guards = some []) (gl : Gl X x) (hx : Passes CX X E) (hkw : PK X kws tk)
    (h1 : (backToKw pos (keywordEach kws X.env)).all (·.1.isSome) = true := by rfl) (h2 : (backToKw pos (keywordEach kws X.env)).filterMap (·.1) = ks := by rfl)
    (h3 : (x == ("__debug__" : Str)) = false := by decide)
    (h5 : ((backTo pos (starEach [] X.env)).any (·.1) || (backToKw pos (keywordEach kws X.env)).any (·.1.isNone)) = false := by rfl) :
    PE X (.Call (.Name x p) [] kws pos) (tMk (He.ga X.K x) n ks.length sp gV E tNil tk) := by
  obtain ⟨⟨f, fd, ps, g, M, F, kb⟩, hm⟩ := c
  refine ⟨fun pins s σ H Q I h => ?_⟩
  refine wpAny_Call_Name_kw (ld_glob I gl hm ?_ h3)
  refine PySem.W.callWith_KW0 (h₀ := X.base) I.ok.mod.kin M.kp h1 (thn (hkw.run pos pins s σ H _ I h) ?_) h5
  rintro ws s2 ⟨zs, H2, I2, rz, l1, l2, q2⟩
  refine ⟨I2.kIn, ?_⟩
  rw [h2]
  exact run_mk (us := []) (vs := []) M F (hr.mono hk) hg kb hx I2 .nil rz l1 l2 q2
end
/-! ### readings of these -/
section
variable {B : Hp} {M M' L L' : List (Addr × HO)} {σ : St} {H : Hp} {Q : VK} {K : PySem.W.Frag} {to te tv : TE} {tl tk : TA} {C a dx : Addr} {fs fs' : List (Str × V)} {m f : Str} {v y : V}
variable {nx bk ct : St → Hp → Prop} {rt : VK}
/-- fields -/
inductive FGet : List (Str × V) → Str → V → Prop
  | here {f : Str} {v : V} {l : List (Str × V)} : FGet ((f, v) :: l) f v
  | there {f g : Str} {v u : V} {l : List (Str × V)} : (f == g) = false → FGet l f v → FGet ((g, u) :: l) f v
inductive NoF (f : Str) : List (Str × V) → Prop
  | nil : NoF f []
  | cons {g : Str} {u : V} {l : List (Str × V)} : (f == g) = false → NoF f l → NoF f ((g, u) :: l)
theorem FGet.eq (h : FGet fs f v) : fs.lookup f = some v := by
  induction h with
  | here => simp [List.lookup]
  | there hne _ ih =>
    rw [List.lookup_cons, hne]
    exact ih
theorem NoF.eq (h : NoF f fs) : fs.lookup f = none := by
  induction h with
  | nil => rfl
  | cons hne _ ih =>
    rw [List.lookup_cons, hne]
    exact ih
def aMe (C : Addr) (m : Str) (x : V) (H : Hp) (A : Prop) : Prop := ∃ a dx fs, x = .ref a ∧ H a = some (.ins C dx fs) ∧ fs.lookup m = none ∧ A
theorem g_me {n j : Nat} {sp : Sp} {gV : List V → List V → List V} {E : XK} (h : to σ H fun x H1 => aMe C m x H1 (tl σ H1 fun vs H2 => tk σ H2 fun zs H3 => aCl n j sp (fun vs zs => gV (x :: vs) zs) E vs zs H3 Q)) : tMe C m n j sp gV E to tl tk σ H Q := by
  exact h
theorem g_aMe {A : Prop} (h : H a = some (.ins C dx fs)) (n : NoF m fs) (q : A) : aMe C m (.ref a) H A := ⟨a, dx, fs, rfl, h, n.eq, q⟩
def aMk (C : Addr) (n j : Nat) (sp : Sp) (gV : List V → List V → List V) (E : XK) (vs zs : List V) (H2 : Hp) (Q : VK) : Prop := vs.length = n ∧ zs.length = j ∧
  ∀ x dx, H2 x = none → H2 dx = none → dx ≠ x → sp (gV (.ref x :: vs) zs) (upd (upd H2 dx (.own x)) x (.ins C dx [])) (fun v H3 => v = .non ∧ Q (.ref x) H3) E
theorem g_mk {n j : Nat} {sp : Sp} {gV : List V → List V → List V} {E : XK} (h : tl σ H fun vs H1 => tk σ H1 fun zs H2 => aMk C n j sp gV E vs zs H2 Q) : tMk C n j sp gV E tl tk σ H Q := h
theorem g_aMk {n j : Nat} {sp : Sp} {gV : List V → List V → List V} {E : XK} {vs zs : List V} (I : Is B M L H) (h1 : vs.length = n) (h2 : zs.length = j)
    (q : ∀ x dx H', Is B M ((x, .ins C dx []) :: (dx, .own x) :: L) H' → sp (gV (.ref x :: vs) zs) H' (fun v H3 => v = .non ∧ Q (.ref x) H3) E) : aMk C n j sp gV E vs zs H Q :=
  ⟨h1, h2, fun x dx hx hd hne => q x dx _ ((I.new hd).new (by rw [upd_ne (Ne.symm hne)]; exact hx))⟩
/-- o.f -/
def aFld (K : PySem.W.Frag) (f : Str) (x : V) (H1 : Hp) (Q : VK) : Prop := ∃ a C dx fs v, x = .ref a ∧ H1 a = some (.ins C dx fs) ∧ Cls K C ∧ NoAttr K C f ∧ fs.lookup f = some v ∧ Q v H1
theorem g_fld (h : to σ H fun x H1 => aFld K f x H1 Q) : tFld K to f σ H Q := h
theorem g_aFld (h : H a = some (.ins C dx fs)) (c : Cls K C) (n : NoAttr K C f) (g : FGet fs f v) (q : Q v H) : aFld K f (.ref a) H Q := ⟨a, C, dx, fs, v, rfl, h, c, n, g.eq, q⟩
/-- o.f = v -/
def aSetF (K : PySem.W.Frag) (f : Str) (y x : V) (H2 : Hp) (QH : Hp → Prop) : Prop := ∃ a C dx fs, x = .ref a ∧ H2 a = some (.ins C dx fs) ∧ Cls K C ∧ NoAttr K C f ∧ fs.length < 1000 ∧ QH (upd H2 a (.ins C dx (putF f y fs)))
theorem g_setF (h : tv σ H fun y H1 => to σ H1 fun x H2 => aSetF K f y x H2 fun H3 => nx σ H3) : sFld K to tv f ⟨nx, rt, bk, ct⟩ σ H := h
/-- a field is put -/
inductive FPut (f : Str) (v : V) : List (Str × V) → List (Str × V) → Prop
  | nil : FPut f v [] [(f, v)]
  | here {u : V} {l : List (Str × V)} : FPut f v ((f, u) :: l) ((f, v) :: l)
  | there {g : Str} {u : V} {l l' : List (Str × V)} : ¬ g = f → FPut f v l l' → FPut f v ((g, u) :: l) ((g, u) :: l')
theorem FPut.eq (h : FPut f v fs fs') : putF f v fs = fs' := by
  induction h with
  | nil => rfl
  | here => exact if_pos rfl
  | there hne _ ih =>
    show (if _ = _ then _ else _) = _
    rw [if_neg hne, ih]
theorem g_aSetF {QH : Hp → Prop} (I : Is B M L H) (h : H a = some (.ins C dx fs)) (c : Cls K C) (n : NoAttr K C f) (hz : fs.length < 100) (fp : FPut f y fs fs') (u : Put a (.ins C dx fs') L L') (q : ∀ H', Is B M L' H' → QH H') : aSetF K f y (.ref a) H QH :=
  ⟨a, C, dx, fs, rfl, h, c, n, by omega, q _ (by rw [fp.eq]; exact I.put u)⟩
theorem g_par3 {i j l : Nat} (h : tl σ H fun vs H1 => ∃ u v w, vs = [u, v, w] ∧ nx (((σ.set i (some u)).set j (some v)).set l (some w)) H1) : tPar3 i j l tl ⟨nx, rt, bk, ct⟩ σ H := h
theorem g_par3b {i j l : Nat} {σ1 σ2 σ3 : St} {u v w : V} (s1 : SetAt σ i (some u) σ1) (s2 : SetAt σ1 j (some v) σ2) (s3 : SetAt σ2 l (some w) σ3) (q : nx σ3 H) :
    ∃ u' v' w', [u, v, w] = [u', v', w'] ∧ nx (((σ.set i (some u')).set j (some v')).set l (some w')) H := by
  refine ⟨u, v, w, rfl, ?_⟩
  rw [s1.eq, s2.eq, s3.eq]
  exact q
/-- a power of written numbers -/
theorem g_pow {a b c : Int} (h : CPow a b) (e : a ^ b.toNat = c) (q : Q (.int c) H) : rI CPow (fun i j => .int (i ^ j.toNat)) (.int a) (.int b) H Q := ⟨a, b, rfl, rfl, h, by subst e; exact q⟩
/-- x op= e -/
theorem g_aug {i : Nat} {ti : TIp} {x : V} (h : At σ i x) (q : te σ H fun y H1 => ti x y H1 fun z H2 => nx (σ.set i (some z)) H2) : tAug i te ti ⟨nx, rt, bk, ct⟩ σ H := ⟨x, h.eq, q⟩
theorem g_set {σ' : St} {i : Nat} (s : SetAt σ i (some v) σ') (q : nx σ' H) : nx (σ.set i (some v)) H := by
  rw [s.eq]
  exact q
end
end Bz
namespace Bz
open PySem PySem.Spec PyProof.Rows L2
open AutoSeq1 (wpAny_loadPart')
/-! ### enumerate of a tuple -/
theorem enum_newT (l : Addr) (items : Array Value) (n : Nat) (dct : Option Addr) (sl : Array (Option Value)) :
    Meets (Builtin.«enumerate.__new__» ⟨[.type "enumerate", .ref l], []⟩) (fun _ R s => s.heap.get? l = some { cls := .type "tuple", dict := dct, data := .seq items n, slots := sl } ∧
      R (.ok (.ret (.ref (s.heap.push { cls := .type "tuple_iterator", data := .fields #[.ref l, .int 0 0] }).objs.size)))
        { s with heap := (s.heap.push { cls := .type "tuple_iterator", data := .fields #[.ref l, .int 0 0] }).push { cls := .type "enumerate", data := .fields #[.none, .bool false, .ref s.heap.objs.size, rawInt 0, .none, .none] } }) :=
  .of_wp fun prog w A R s h => by
    obtain ⟨hp, g, d, tk, os⟩ := s
    obtain ⟨hl, h⟩ := h
    have hsub := sub_enumerate
    have hT : Heap.IsTuple (Shared.heap ⟨hp, g, d, tk, os⟩) l items := ⟨_, hl, rfl, n, rfl⟩
    wp_walk using wpAny_loadPart' hl
    refine wpAny_stack_any fun st => wpAny_pure ?_
    split
    · rename_i c _ _ _ _ _
      cases (c == Value.type "enumerate")
      · wp_walk using wpAny_loadPart' hl, wpAny_pyIter_tuple hT
        exact ⟨_, rfl, h⟩
      · wp_walk using wpAny_loadPart' hl, wpAny_pyIter_tuple hT
        exact ⟨_, rfl, h⟩
    · wp_walk using wpAny_loadPart' hl, wpAny_pyIter_tuple hT
      exact ⟨_, rfl, h⟩
theorem call_enumT {prog : Program} {w : World} {A : Around} {E : Value → Shared → Prop} {s : Shared} {l : Addr} {items : Array Value} {Q : Value → Shared → Prop} (hL : s.heap.IsTuple l items)
    (h : ∀ h', IsEnum h' (s.heap.objs.size + 1) s.heap.objs.size 0 .none → h'.IsTupleIter s.heap.objs.size l 0 → h'.objs.size = s.heap.objs.size + 2 →
      (∀ b o, s.heap.get? b = some o → h'.get? b = some o) → Q (.ref (s.heap.objs.size + 1)) { s with heap := h' }) :
    wpAny (model prog w) A (call (.type "enumerate") [.ref l]) Q E s := by
  obtain ⟨⟨c, dct, dt, sl⟩, hl, hc, n, hd⟩ := hL
  replace hc : c = .type "tuple" := hc
  replace hd : dt = .seq items n := hd
  subst hc hd
  refine callType_new F.called_enumerate (by decide) (F.typeCall_enumerate_1 _) (F.newCall_enumerate_1 _) (fun obj => F.args_object_init_2 obj _) F.entry_enumerate_new
    (enum_newT l items n dct sl) ⟨hl, ?_⟩
  have hz : (s.heap.push { cls := .type "tuple_iterator", data := .fields #[.ref l, .int 0 0] }).objs.size = s.heap.objs.size + 1 := Heap.size_push ..
  show _ ∧ _
  rw [hz]
  have he : IsEnum ((s.heap.push { cls := .type "tuple_iterator", data := .fields #[.ref l, .int 0 0] }).push
      { cls := .type "enumerate", data := .fields #[.none, .bool false, .ref s.heap.objs.size, rawInt 0, .none, .none] }) (s.heap.objs.size + 1) s.heap.objs.size 0 .none := by
    have z := Heap.get?_push_size (s.heap.push { cls := .type "tuple_iterator", data := .fields #[.ref l, .int 0 0] })
      (o := { cls := .type "enumerate", data := .fields #[.none, .bool false, .ref s.heap.objs.size, rawInt 0, .none, .none] }) rfl
    rw [hz] at z
    exact z
  exact ⟨⟨_, he, rfl⟩, h _ he ⟨_, Heap.get?_push_of_some _ (Heap.get?_push_size _ rfl), rfl, rfl⟩ (by rw [Heap.size_push, hz]) fun b o x => Heap.get?_push_of_some _ (Heap.get?_push_of_some _ x)⟩
/-- the tuple at a, each item in a new pair -/
def IteT (K : PySem.W.Frag) (a : Addr) : It :=
  ⟨fun i H => ∃ (xs : List V) (x : V), SqT K H a xs ∧ xs[i]? = some x, fun i H v H' => ∃ T x, v = .ref T ∧ H T = none ∧ H' = upd H T (.tup [.int (i : Nat), x]) ∧ ∀ xs, SqT K H a xs → xs[i]? = some x, fun i H => ∃ xs : List V, SqT K H a xs ∧ xs.length ≤ i⟩
theorem turn_enumT {P : Program} {w : World} {K : PySem.W.Frag} {elts : List Expr} {kk : Nat} {tpos : Pos} (a e it : Addr) :
    Turn P w K (.Tuple elts kk tpos) (IteT K a) [e, it] e (fun i h => (∃ old, IsEnum h e it ((i : Nat) : Int) old) ∧ h.IsTupleIter it a i ∧ e ≠ it ∧ a ≠ it ∧ e ≠ a) where
  mem := by simp
  obj := fun i h st b hb => by
    obtain ⟨⟨old, he⟩, ⟨o, ho, hc, hd⟩, _⟩ := st
    have e' : b = e ∨ b = it := by simpa using hb
    rcases e' with z | z
    · rw [z]
      exact ⟨_, he, fun v q => nomatch q⟩
    · rw [z]
      exact ⟨o, ho, fun v q => by rw [hd] at q; cases q⟩
  keep := fun i h h' st k => let ⟨⟨old, he⟩, hi, hne⟩ := st; ⟨⟨old, k e (by simp) _ he⟩, hi.at fun o q => k it (by simp) o q, hne⟩
  item := by
    intro X hP hw hK hc i pins s σ H E I hf st hg
    subst hP hw hK
    obtain ⟨⟨old, he⟩, hit, hne, hai, hea⟩ := st
    obtain ⟨xs, x, hq, hx⟩ := hg
    obtain ⟨its, rv, p, hz⟩ := I.tuple hq
    obtain ⟨u, hu, ru⟩ := rv.get hx
    have hel : e < s.heap.objs.size := Heap.lt_size he
    have hil : it < s.heap.objs.size := by obtain ⟨_, q, _⟩ := hit; exact Heap.lt_size q
    have hu2 : its.toArray[i]? = some u := by simpa using hu
    have hlt : i < its.toArray.size := by
      rcases Nat.lt_or_ge i its.toArray.size with z | z
      · exact z
      · rw [Array.getElem?_eq_none z] at hu2
        cases hu2
    refine wpAny_pyNext_enum_itemD (Draws.tuple (show X.A.in1.handled = none from I.ok.hd hc) it a hai its.toArray) he ⟨hit, p⟩ hlt hne (by simpa using ⟨hne, hea⟩) fun y h' tk' hy ho hst hT hsz hk => ?_
    have hyu : y = u := by
      have := hy.symm.trans hu2
      exact Option.some.inj this
    subst hyu
    refine ⟨_, rfl, wpAny_letOwnedTupleGo_enum (s := { s with heap := h', toks := tk' + 1 }) ho fun h'' he' sb => ?_⟩
    have hT2 : h''.get? s.heap.objs.size = some { cls := .type "tuple", data := .seq #[.int i tk', y] } := (sb.2 _ (Nat.ne_of_gt hel)).trans hT
    have new : ObjOk X.prog X.w (upd H s.heap.objs.size (.tup [.int (i : Nat), x])) h'' s.heap.objs.size (.tup [.int (i : Nat), x]) :=
      ⟨by show 2 ≤ sizeLine; decide, [.int i tk', y], .cons ⟨_, rfl⟩ (.cons ru .nil), ⟨_, hT2, rfl, _, rfl⟩⟩
    have I1 : Inv X pins σ (upd H s.heap.objs.size (.tup [.int (i : Nat), x])) { s with heap := h'', toks := tk' + 1 } :=
      I.turnedNew (ch := [e, it]) (fun b ob hb q => (sb.2 b (fun z => hb (by simp [z]))).trans (hk b ob (fun z => hb (by simp [z])) (fun z => hb (by simp [z])) q)) hf (Nat.le_refl _) new
    refine ⟨.ref s.heap.objs.size, _, I1, rfl, ⟨_, x, rfl, I.hok.fresh (Nat.le_refl _), rfl, fun ys hy => by rw [I.tuple_inj hy hq]; exact hx⟩, ⟨⟨y, ?_⟩, hst.1.at fun o q => (sb.2 it (Ne.symm hne)).trans q, hne, hai, hea⟩, fun b hb => ?_⟩
    · have e1 : ((i + 1 : Nat) : Int) = (i : Int) + 1 := by omega
      rw [e1]
      exact he'
    · have hb' : b < s.heap.objs.size := by
        have e' : b = e ∨ b = it := by simpa using hb
        rcases e' with z | z
        · rw [z]
          exact hel
        · rw [z]
          exact hil
      rw [upd_ne (Nat.ne_of_lt hb')]
      exact (hf b hb).1
  done := by
    intro X hP hw hK hc i pins s σ H E I hf st hg
    subst hP hw hK
    obtain ⟨⟨old, he⟩, hit, hne, hai, hea⟩ := st
    obtain ⟨xs, hq, hx⟩ := hg
    obtain ⟨its, rv, p, hz⟩ := I.tuple hq
    obtain ⟨f0, f1, f2, f3, f4, f5⟩ := hf it (by simp)
    have hl := rv.length
    have hd : X.A.in1.handled = none := I.ok.hd hc
    unfold pyNext
    have hTy : s.TypeIs (.ref e) "enumerate" := ⟨_, he, rfl⟩
    refine wpAny_bind (wpAny_attempt (wpAny_callSpecial?_slot (name := Str.ofString "__next__") hTy F.slot_enumerate_next
      (wpAny_call_entry F.slot_enumerate_next hTy F.entry_enumerate_next ?_ (F.args_enumerate_next_1 _))))
    show wpAny _ _ (field (.ref e) 2 >>= _) _ _ _
    refine wpAny_bind (wpAny_field he rfl (x := .ref it) rfl ?_)
    refine wpAny_bind (wpAny_nextOf_tuple_end hd hit p (by simp; omega) fun h' x eb hx' => ?_)
    obtain ⟨o, ho, hc2⟩ := hx'
    refine wpAny_bind (wpAny_isInstance (T := "StopIteration") (b := true) ⟨o, ho, hc2⟩ isSubtype_stop ?_)
    exact wpAny_pure ⟨rfl, I.turned (t' := s.toks) (fun b o hb q => eb b o hb q) f0 f1 f3 f4 f5⟩
  self := fun A i s Q E st h => let ⟨⟨_, he⟩, _⟩ := st; wpAny_pyIter_enum he h
/-- enumerate of a list or of a tuple -/
def iEnumA (K : PySem.W.Frag) (ta : TA) : TI := fun σ H R => ta σ H fun vs H1 => ∃ a xs, vs = [.ref a] ∧ ((SqL K H1 a xs ∧ R (Ite K a) H1) ∨ (SqT K H1 a xs ∧ R (IteT K a) H1))
theorem pi_enumA {X : Cx} {e : Expr} {ta : TA} {p pos tpos : Pos} {elts : List Expr} {kk : Nat} (hg : Gl X "enumerate") (hm : X.mg "enumerate" = none) (ha : PA X [e] ta) (hs : starEach [e] X.env = [(false, eval e X.env)] := by rfl) :
    PI X (.Tuple elts kk tpos) (.Call (.Name "enumerate" p) [e] [] pos) (iEnumA X.K ta) := by
  refine ⟨fun pins s σ H R I h => ?_⟩
  refine Call_ (ld_blt I hg hm boot_enumerate (PyProof.Rows.callWith_type1 (thn (ha.run pos pins s σ H _ I h) fun us s1 ⟨vs, H1, I1, r1, q1⟩ => ?_) hs rfl))
  obtain ⟨a, xs, ex, q⟩ := q1
  subst ex
  cases r1 with
  | cons r rr =>
    cases rr
    cases r
    have hb : ∀ {b : Addr}, b = s1.heap.objs.size + 1 ∨ b = s1.heap.objs.size → s1.heap.objs.size ≤ b := fun {b} e' => by
      rcases e' with z | z
      · rw [z]
        exact Nat.le_add_right _ _
      · rw [z]
        exact Nat.le_refl _
    rcases q with ⟨hq, q⟩ | ⟨hq, q⟩
    · obtain ⟨its, rv, p', hz⟩ := I1.list hq
      refine call_enumerate_list p'.isList fun h' he hit hsz hk => wpAny_pyIter_enum he ?_
      have I2 : Inv X pins σ H1 { s1 with heap := h' } := I1.kept (t' := s1.toks) hk
      refine ⟨s1.heap.objs.size + 1, [s1.heap.objs.size + 1, s1.heap.objs.size], _, _, H1, rfl, I2, turn_enum a (s1.heap.objs.size + 1) s1.heap.objs.size, ⟨⟨.none, he⟩, hit, Nat.succ_ne_self _⟩, fun b hbm => ?_, q⟩
      have hle := hb (by simpa using hbm)
      exact I1.fpOk hle (I1.hok.fresh hle)
    · obtain ⟨its, rv, p', hz⟩ := I1.tuple hq
      have hal : a < s1.heap.objs.size := by
        obtain ⟨o, ho, _⟩ := p'
        exact Heap.lt_size ho
      refine call_enumT p' fun h' he hit hsz hk => wpAny_pyIter_enum he ?_
      have I2 : Inv X pins σ H1 { s1 with heap := h' } := I1.kept (t' := s1.toks) hk
      refine ⟨s1.heap.objs.size + 1, [s1.heap.objs.size + 1, s1.heap.objs.size], _, _, H1, rfl, I2, turn_enumT a (s1.heap.objs.size + 1) s1.heap.objs.size, ⟨⟨.none, he⟩, hit, Nat.succ_ne_self _, Nat.ne_of_lt hal, fun z => absurd hal (by rw [← z]; exact Nat.not_lt_of_le (Nat.le_add_right _ _))⟩, fun b hbm => ?_, q⟩
      have hle := hb (by simpa using hbm)
      exact I1.fpOk hle (I1.hok.fresh hle)
theorem walk_enumT {K : PySem.W.Frag} {a : Addr} {xs : List V} : Walk (IteT K a) xs.length (fun H => SqT K H a xs) (YPair (fun i => some (.int (i : Nat))) (fun i => xs[i]?)) := by
  refine ⟨fun i _ hi q => ?_, fun _ q => ⟨xs, q, Nat.le_refl _⟩, fun i H v H' hi q y => ?_⟩
  · exact ⟨xs, xs[i], q, by simp [hi]⟩
  · obtain ⟨T, x, h1, h2, h3, h4⟩ := y
    exact ⟨T, _, x, h1, h2, h3, rfl, h4 xs q⟩
end Bz
namespace Bz
open PySem PySem.Spec PyProof.Rows L2
def rMax2 : List V → Hp → VK → Prop := fun xs H Q => ∃ i j, xs = [.int i, .int j] ∧ Q (.int (if j > i then j else i)) H
def rMin2 : List V → Hp → VK → Prop := fun xs H Q => ∃ i j, xs = [.int i, .int j] ∧ Q (.int (if j < i then j else i)) H
def rDivmod : List V → Hp → VK → Prop := fun xs H Q => ∃ i j, xs = [.int i, .int j] ∧ CDiv i j ∧ ∀ p, H p = none → Q (.ref p) (upd H p (.tup [.int (i / j), .int (i % j)]))
def rTupOf (K : PySem.W.Frag) : List V → Hp → VK → Prop := fun xs H Q => ∃ p ys, xs = [.ref p] ∧ ((SqL K H p ys ∧ ∀ l, H l = none → Q (.ref l) (upd H l (.tup ys))) ∨ (SqT K H p ys ∧ Q (.ref p) H))
section
variable {X : Cx}
theorem cl_max2 (hc : X.calm = true) : CallR X (.builtin "max") rMax2 := call_max2 hc
theorem cl_min2 (hc : X.calm = true) : CallR X (.builtin "min") rMin2 := call_min2 hc
theorem cl_divmod : CallR X (.builtin "divmod") rDivmod := call_divmod
theorem cl_tupOf : CallR X (.type "tuple") (rTupOf X.K) := call_tuple_of
end
section
variable {B : Hp} {M M' L L' : List (Addr × HO)} {σ : St} {H : Hp} {Q : VK} {K : PySem.W.Frag} {tl : TA} {R : It → Hp → Prop} {a b p : Addr} {xs ys : List V} {i j : Int}
theorem imax (i j : Int) : (if j > i then j else i) = max i j := by
  by_cases h : j > i
  · rw [if_pos h]
    omega
  · rw [if_neg h]
    omega
theorem imin (i j : Int) : (if j < i then j else i) = min i j := by
  by_cases h : j < i
  · rw [if_pos h]
    omega
  · rw [if_neg h]
    omega
theorem g_max2 (q : Q (.int (max i j)) H) : rMax2 [.int i, .int j] H Q := ⟨i, j, rfl, by rw [imax]; exact q⟩
theorem g_min2 (q : Q (.int (min i j)) H) : rMin2 [.int i, .int j] H Q := ⟨i, j, rfl, by rw [imin]; exact q⟩
theorem g_divmod (I : Is B M L H) (h : CDiv i j) (q : ∀ p H', Is B M ((p, .tup [.int (i / j), .int (i % j)]) :: L) H' → Q (.ref p) H') : rDivmod [.int i, .int j] H Q := ⟨i, j, rfl, h, fun p hp => q p _ (I.new hp)⟩
theorem g_tupOf (I : Is B M L H) (h : SqL K H a xs) (q : ∀ p H', Is B M ((p, .tup xs) :: L) H' → Q (.ref p) H') : rTupOf K [.ref a] H Q := ⟨a, xs, rfl, .inl ⟨h, fun p hp => q p _ (I.new hp)⟩⟩
theorem g_listOfL (I : Is B M L H) (h : SqL K H a xs) (q : ∀ p H', Is B M ((p, .lst xs) :: L) H' → Q (.ref p) H') : rListOf K [.ref a] H Q := ⟨a, xs, rfl, .inl h, fun p hp => q p _ (I.new hp)⟩
theorem g_listOfT (I : Is B M L H) (h : SqT K H a xs) (q : ∀ p H', Is B M ((p, .lst xs) :: L) H' → Q (.ref p) H') : rListOf K [.ref a] H Q := ⟨a, xs, rfl, .inr h, fun p hp => q p _ (I.new hp)⟩
theorem g_sum {ns : List Int} (h : SqL K H a (ns.map V.int)) (q : Q (.int ns.sum) H) : rSum K [.ref a] H Q := ⟨a, ns, rfl, h, q⟩
theorem g_sortedI {ns : List Int} (I : Is B M L H) (h : SqL K H a (ns.map V.int)) (q : ∀ (ns' : List Int) p H', ns'.Perm ns → ns'.Pairwise (· ≤ ·) → Is B M ((p, .lst (ns'.map V.int)) :: L) H' → Q (.ref p) H') : rSortedI K [.ref a] H Q :=
  ⟨a, ns, rfl, h, fun ns' p h1 h2 hp => q ns' p _ h1 h2 (I.new hp)⟩
def aEnumA (K : PySem.W.Frag) (vs : List V) (H : Hp) (R : It → Hp → Prop) : Prop := ∃ a xs, vs = [.ref a] ∧ ((SqL K H a xs ∧ R (Ite K a) H) ∨ (SqT K H a xs ∧ R (IteT K a) H))
theorem g_enumA (h : tl σ H fun vs H1 => aEnumA K vs H1 R) : iEnumA K tl σ H R := h
theorem g_aEnumL (h : SqL K H a xs) (q : R (Ite K a) H) : aEnumA K [.ref a] H R := ⟨a, xs, rfl, .inl ⟨h, q⟩⟩
theorem g_aEnumT (h : SqT K H a xs) (q : R (IteT K a) H) : aEnumA K [.ref a] H R := ⟨a, xs, rfl, .inr ⟨h, q⟩⟩
def aZipA (K : PySem.W.Frag) (vs : List V) (H : Hp) (R : It → Hp → Prop) : Prop := ∃ a b xs ys, vs = [.ref a, .ref b] ∧ ((SqL K H a xs ∧ SqL K H b ys ∧ R (Itz K a b) H) ∨ (SqT K H a xs ∧ SqT K H b ys ∧ R (RZ.ItzT K a b) H))
theorem g_zipA (h : tl σ H fun vs H1 => aZipA K vs H1 R) : RZ.iZipA K tl σ H R := h
theorem g_aZipL (h : SqL K H a xs) (h2 : SqL K H b ys) (q : R (Itz K a b) H) : aZipA K [.ref a, .ref b] H R := ⟨a, b, xs, ys, rfl, .inl ⟨h, h2, q⟩⟩
theorem g_aZipT (h : SqT K H a xs) (h2 : SqT K H b ys) (q : R (RZ.ItzT K a b) H) : aZipA K [.ref a, .ref b] H R := ⟨a, b, xs, ys, rfl, .inr ⟨h, h2, q⟩⟩
theorem walk_zipTT {n : Nat} (hn : n = min xs.length ys.length) : Walk (RZ.ItzT K a b) n (fun H => SqT K H a xs ∧ SqT K H b ys) (YPair (fun i => xs[i]?) (fun i => ys[i]?)) := by
  subst hn
  refine ⟨fun i _ hi q => ?_, fun _ q => ⟨xs, ys, q.1, q.2, by omega⟩, fun i H v H' _ q y => ?_⟩
  · have h1 : i < xs.length := by omega
    have h2 : i < ys.length := by omega
    exact ⟨xs, ys, xs[i], ys[i], q.1, q.2, by simp [h1], by simp [h2]⟩
  · obtain ⟨T, x, z, h1, h2, h3, h4, h5⟩ := y
    exact ⟨T, x, z, h1, h2, h3, h4 xs q.1, h5 ys q.2⟩
theorem g_ipI {f : Int → Int → Int} (q : Q (.int (f i j)) H) : ipI f (.int i) (.int j) H Q := ⟨i, j, rfl, rfl, q⟩
end
end Bz
namespace Bz
open PySem PySem.Spec PyProof.Rows L2
section
variable {B : Hp} {M L : List (Addr × HO)} {σ σ0 : St} {H : Hp} {Q : VK} {te : TE} {g : TG} {J : It} {vs : List Nat} {xs : List V}
theorem take_snocI {α : Type} {l : List α} {i : Nat} {a : α} (h : l[i]? = some a) : l.take (i + 1) = l.take i ++ [a] := by
  rw [List.take_add_one, h]
  rfl
/-- a comprehension without a test whose items ys are known one by one -/
theorem g_lcI {G : Hp → Prop} {n : Nat} (ys : List V) (hn : ys.length = n) {Y : Nat → Hp → V → Hp → Prop} (w : Walk J n G Y) (I : Is B M L H) (hw : Wiped σ vs σ0) (hz : n ≤ 900000)
    (hG : ∀ D acc H', Is B M ((D, .lst acc) :: L) H' → G H')
    (hs : ∀ (i : Nat) (x y : V) (D : Addr) (acc : List V) (H' H'' : Hp), i < n → Y i H' x H'' → ys[i]? = some y → Is B M ((D, .lst acc) :: L) H' → ∀ (PY : V → Hp → Prop), (∀ H4, Is B M ((D, .lst acc) :: L) H4 → PY y H4) →
      g x σ0 H'' fun σ2 H2 => wipe σ2 vs = σ0 ∧ te σ2 H2 fun z H4 => PY z H4)
    (hd : ∀ D H', Is B M ((D, .lst ys) :: L) H' → Q (.ref D) H') : aLc J g tYes te vs σ H Q := by
  refine g_aLc w I hw hz (fun i acc B' M' => B = B' ∧ M = M' ∧ acc = ys.take i) ⟨rfl, rfl, rfl⟩ ?_ ?_ ?_
  · rintro i acc B' M' D H' _ s I' ⟨rfl, rfl, rfl⟩
    exact hG D _ H' I'
  · rintro i x acc B' M' D H' H'' hi s I' ⟨rfl, rfl, e⟩ y hl
    obtain ⟨z, hz⟩ : ∃ z, ys[i]? = some z := ⟨_, List.getElem?_eq_getElem (by omega)⟩
    have := hs i x z D acc H' H'' hi y hz I' (LcY (fun i acc B' M' => B = B' ∧ M = M' ∧ acc = ys.take i) B L D i) fun H4 I4 => lcY s I4 hl ⟨rfl, rfl, by rw [take_snocI hz, e]⟩
    exact this
  · rintro acc B' M' D H' s I' ⟨rfl, rfl, rfl⟩ _
    rw [List.take_of_length_le (by omega)] at I'
    exact hd D H' I'
/-- the same, over a list or a tuple -/
theorem g_lcX {G : Hp → Prop} (ys : List V) (hn : ys.length = xs.length) (w : Walk J xs.length G (YAt xs)) (I : Is B M L H) (hw : Wiped σ vs σ0) (hz : xs.length ≤ 900000)
    (hG : ∀ D acc H', Is B M ((D, .lst acc) :: L) H' → G H')
    (hs : ∀ (i : Nat) (x y : V) (D : Addr) (acc : List V) (H' : Hp), xs[i]? = some x → ys[i]? = some y → Is B M ((D, .lst acc) :: L) H' → ∀ (PY : V → Hp → Prop), (∀ H4, Is B M ((D, .lst acc) :: L) H4 → PY y H4) →
      g x σ0 H' fun σ2 H2 => wipe σ2 vs = σ0 ∧ te σ2 H2 fun z H4 => PY z H4)
    (hd : ∀ D H', Is B M ((D, .lst ys) :: L) H' → Q (.ref D) H') : aLc J g tYes te vs σ H Q := by
  refine g_lcI ys hn w I hw hz hG ?_ hd
  rintro i x y D acc H' H'' hi ⟨rfl, hx⟩ hy I' PY q
  exact hs i x y D acc _ hx hy I' PY q
end
/-! two lists side by side -/
inductive All2 {α β : Type} (F : α → β → Prop) : List α → List β → Prop
  | nil : All2 F [] []
  | cons {a : α} {b : β} {l : List α} {m : List β} : F a b → All2 F l m → All2 F (a :: l) (b :: m)
section
variable {α β : Type} {F G : α → β → Prop}
theorem All2.mono (h : ∀ a b, F a b → G a b) : ∀ {l : List α} {m : List β}, All2 F l m → All2 G l m
  | _, _, .nil => .nil
  | _, _, .cons h1 t => .cons (h _ _ h1) (t.mono h)
theorem All2.len : ∀ {l : List α} {m : List β}, All2 F l m → l.length = m.length
  | _, _, .nil => rfl
  | _, _, .cons _ t => by rw [List.length_cons, List.length_cons, t.len]
theorem All2.get : ∀ {l : List α} {m : List β} {i : Nat} {x : α}, All2 F l m → l[i]? = some x → ∃ y, m[i]? = some y ∧ F x y
  | _, _, 0, _, .cons h _, e => by
    cases e
    exact ⟨_, rfl, h⟩
  | _, _, i + 1, _, .cons _ t, e => t.get (i := i) e
theorem All2.get' : ∀ {l : List α} {m : List β} {i : Nat} {y : β}, All2 F l m → m[i]? = some y → ∃ x, l[i]? = some x ∧ F x y
  | _, _, 0, _, .cons h _, e => by
    cases e
    exact ⟨_, rfl, h⟩
  | _, _, i + 1, _, .cons _ t, e => t.get' (i := i) e
theorem All2.mem {l : List α} {m : List β} {x : α} (h : All2 F l m) (hx : x ∈ l) : ∃ y ∈ m, F x y := by
  obtain ⟨i, e⟩ := List.getElem?_of_mem hx
  obtain ⟨y, e2, f⟩ := h.get e
  exact ⟨y, List.mem_of_getElem? e2, f⟩
theorem All2.app : ∀ {l l' : List α} {m m' : List β}, All2 F l m → All2 F l' m' → All2 F (l ++ l') (m ++ m')
  | _, _, _, _, .nil, h => h
  | _, _, _, _, .cons h t, h2 => .cons h (t.app h2)
theorem All2.snoc {l : List α} {m : List β} {x : α} {y : β} (h : All2 F l m) (h2 : F x y) : All2 F (l ++ [x]) (m ++ [y]) := h.app (.cons h2 .nil)
end
end Bz
namespace Bz
open PySem PySem.Spec PyProof.Rows L2
/-- a op1 b op2 c op3 d -/
def tChain3 (r r' r3 : R2) (ta tb tc td : TE) : TE := fun σ H Q => ta σ H fun x H1 => tb σ H1 fun y H2 => r x y H2 fun z H3 => aIfV z H3
  (fun H3 => tc σ H3 fun w H4 => r' y w H4 fun z2 H5 => aIfV z2 H5 (fun H5 => td σ H5 fun v H6 => r3 w v H6 Q) fun H5 => Q (.bl false) H5) fun H3 => Q (.bl false) H3
theorem pe_chain3 {X : Cx} {a b c d : Expr} {ta tb tc td : TE} {pos : Pos} {op op' op3 : CmpOp} {r r' r3 : R2} (ho : OpR X (compareOp op) r) (ho' : OpR X (compareOp op') r') (ho3 : OpR X (compareOp op3) r3) (ha : PE X a ta) (hb : PE X b tb) (hc : PE X c tc) (hd : PE X d td)
    (hm : lastMarks [op, op', op3] [b, c, d] = false := by with_unfolding_all rfl) : PE X (.Compare a [op, op', op3] [b, c, d] pos) (tChain3 r r' r3 ta tb tc td) := by
  refine ⟨fun pins s σ H Q I h => ?_⟩
  refine Compare_chain (thn (ha.run pins s σ H _ I h) fun v s1 ⟨x, H1, I1, r1, q1⟩ => chain_link (thn (hb.run pins s1 σ H1 _ I1 q1) fun u s2 ⟨y, H2, I2, r2, q2⟩ =>
    thn (ho pins s2 σ H2 x y v u _ I2 r1 r2 q2) fun e s3 ⟨z, H3, I3, rz, k, ek, q3⟩ => ?_)) hm
  subst ek
  cases rz
  refine wpAny_truthy_bool ?_
  cases k with
  | false => exact ite_ff ⟨.bl false, H3, I3, rfl, q3⟩
  | true =>
    refine ite_tt (chain_link (thn (hc.run pins s3 σ H3 _ I3 q3) fun w' s4 ⟨z', H4, I4, r4, q4⟩ => thn (ho' pins s4 σ H4 y z' u w' _ I4 r2 r4 q4) fun e2 s5 ⟨z2, H5, I5, rz2, k2, ek2, q5⟩ => ?_))
    subst ek2
    cases rz2
    refine wpAny_truthy_bool ?_
    cases k2 with
    | false => exact ite_ff ⟨.bl false, H5, I5, rfl, q5⟩
    | true => exact ite_tt (chain_last (thn (hd.run pins s5 σ H5 _ I5 q5) fun w2 s6 ⟨z3, H6, I6, r6, q6⟩ => ho3 pins s6 σ H6 z' z3 w' w2 Q I6 r4 r6 q6))
theorem g_chain3 {σ : St} {H : Hp} {Q : VK} {ta tb tc td : TE} {r r' r3 : R2} (h : ta σ H fun x H1 => tb σ H1 fun y H2 => r x y H2 fun z H3 => aIfV z H3
  (fun H3 => tc σ H3 fun w H4 => r' y w H4 fun z2 H5 => aIfV z2 H5 (fun H5 => td σ H5 fun v H6 => r3 w v H6 Q) fun H5 => Q (.bl false) H5) fun H3 => Q (.bl false) H3) : tChain3 r r' r3 ta tb tc td σ H Q := h
end Bz
namespace Bz
open PySem PySem.Spec PyProof.Rows L2
theorem lt1 {h : Heap} {l : Addr} {xs : Array Value} (e : h.IsList l xs) : l < h.objs.size := by obtain ⟨_, e, _⟩ := e; exact Heap.lt_size e
theorem z3_type (a b c : Value) : checkTypeCall "zip" ⟨[a, b, c], []⟩ = pure () := by kernel_rfl
theorem z3_new (a b c : Value) : checkBuiltinCall "zip.__new__" ⟨[.type "zip", a, b, c], []⟩ = pure () := by kernel_rfl
theorem z3_init (a b c d : Value) : argsOk "object.__init__" ⟨[a, b, c, d], []⟩ := by
  unfold argsOk; rw [signature?_of (id := "object.__init__") (n := ['_', '_', 't', 'i', 'n', 'i', '_', '_']) (o := ['t', 'c', 'e', 'j', 'b', 'o']) (by kernel_rfl) F.owner_object]; kernel_rfl
abbrev IsTri (h : Heap) (T : Addr) (a b c : Value) : Prop := h.get? T = some { cls := .type "tuple", data := .seq #[a, b, c] }
section
variable {prog : Program} {w : World} {A : Around} {E : Value → Shared → Prop} {s : Shared} {n l1 l2 l3 : Nat}
theorem upd_tri {T : Addr} {a b c x : Value} {k : Nat} {Q : Unit → Shared → Prop} (hT : IsTri s.heap T a b c)
    (h : ∀ h', h'.get? T = some { cls := .type "tuple", data := .seq ((#[a, b, c] : Array Value).setIfInBounds k x) } → Heap.SameBut T s.heap h' → Q () { s with heap := h' }) :
    wpAny (model prog w) A (updateSeq T (·.setIfInBounds k x)) Q E s := by
  refine wpAny_updateSeq hT rfl (h _ ?_ (Heap.SameBut.update ..))
  rw [Heap.get?_update_self _ hT rfl]
  simp [Obj.mapSeq]
/-- a zip of three lists that has given k threes: its parts lie one behind the other from n on -/
structure Z3 (h : Heap) (n l1 l2 l3 k : Nat) : Prop where
  z : IsZip h (n + 5) (n + 3) (n + 4) .none
  ti : IsTri h (n + 3) (.ref n) (.ref (n + 1)) (.ref (n + 2))
  to : ∃ a b c, IsTri h (n + 4) a b c
  i1 : h.IsListIter n l1 k
  i2 : h.IsListIter (n + 1) l2 k
  i3 : h.IsListIter (n + 2) l3 k
  h1 : l1 < n
  h2 : l2 < n
  h3 : l3 < n
theorem z3_item {k : Nat} {xs ys zs : Array Value} {x y z : Value} {Q : Value → Shared → Prop} (D : Z3 s.heap n l1 l2 l3 k)
    (hl1 : s.heap.IsList l1 xs) (hl2 : s.heap.IsList l2 ys) (hl3 : s.heap.IsList l3 zs) (hx : xs[k]? = some x) (hy : ys[k]? = some y) (hz' : zs[k]? = some z)
    (hQ : ∀ h', IsZip h' (n + 5) (n + 3) (n + 4) (rawInt s.heap.objs.size) → IsTri h' (n + 4) x y z → h'.IsListIter n l1 (k + 1) → h'.IsListIter (n + 1) l2 (k + 1) → h'.IsListIter (n + 2) l3 (k + 1) →
      IsTri h' s.heap.objs.size x y z → h'.objs.size = s.heap.objs.size + 1 →
      (∀ c o, c ≠ n + 5 → c ≠ n + 4 → c ≠ n → c ≠ n + 1 → c ≠ n + 2 → s.heap.get? c = some o → h'.get? c = some o) → Q (.ref s.heap.objs.size) { s with heap := h' }) :
    wpAny (model prog w) A (Builtin.«zip.__next__» ⟨[.ref (n + 5 : Nat)], []⟩) (fun fin s' => ∃ v, fin = .done (.ret v) ∧ Q v s') E s := by
  obtain ⟨hz, hTI, ⟨a, b, c, hTO⟩, h1, h2, h3, q1, q2, q3⟩ := D
  show wpAny _ _ (field (.ref (n + 5 : Nat)) 2 >>= _) _ _ _
  refine wpAny_bind (wpAny_field hz rfl (x := .bool false) rfl ?_)
  show wpAny _ _ (field (.ref (n + 5 : Nat)) 3 >>= _) _ _ _
  refine wpAny_bind (wpAny_field hz rfl (x := .ref (n + 3 : Nat)) rfl ?_)
  refine wpAny_bind (wpAny_seqItems hTI rfl ?_)
  show wpAny _ _ (Builtin.SmallTypes.ownedTupleIsFree (.ref (n + 5 : Nat)) >>= _) _ _ _
  refine wpAny_bind ?_
  unfold Builtin.SmallTypes.ownedTupleIsFree
  refine wpAny_bind (wpAny_field hz rfl (x := .none) rfl (wpAny_pure ?_))
  simp only [if_true]
  refine wpAny_bind (wpAny_rule ?_)
  refine wpAny_bind (wpAny_field hz rfl (x := .ref (n + 4 : Nat)) rfl ?_)
  refine wpAny_bind (wpAny_setField_rec hz (by simp) fun h₁ hz₁ hs₁ => ?_)
  replace hz₁ : IsZip h₁ (n + 5) (n + 3) (n + 4) .ellipsis := hz₁
  refine wpAny_bind ?_
  simp only [List.zipIdx_cons, List.zipIdx_nil, List.forIn_cons, List.forIn_nil]
  have b1 : h₁.IsListIter n l1 k := h1.extBut hs₁.extBut (by show @Ne Nat _ _; omega)
  have b2 : h₁.IsListIter (n + 1) l2 k := h2.extBut hs₁.extBut (by show @Ne Nat _ _; omega)
  have b3 : h₁.IsListIter (n + 2) l3 k := h3.extBut hs₁.extBut (by show @Ne Nat _ _; omega)
  have c1 : h₁.IsList l1 xs := hl1.extBut hs₁.extBut (by show @Ne Nat _ _; omega)
  have c2 : h₁.IsList l2 ys := hl2.extBut hs₁.extBut (by show @Ne Nat _ _; omega)
  have c3 : h₁.IsList l3 zs := hl3.extBut hs₁.extBut (by show @Ne Nat _ _; omega)
  have hTO₁ : IsTri h₁ (n + 4) a b c := hs₁.extBut _ _ (by show @Ne Nat _ _; omega) hTO
  refine wpAny_bind (wpAny_bind (wpAny_onRaise ?_))
  show wpAny _ _ (Builtin.SmallTypes.nextOf (.ref n) >>= _) _ _ _
  refine wpAny_bind (wpAny_nextOf_list_item b1 c1 hx fun h₂ b1₂ hs₂ => wpAny_pure ?_)
  have hTO₂ : IsTri h₂ (n + 4) a b c := hs₂.extBut _ _ (by show @Ne Nat _ _; omega) hTO₁
  refine wpAny_bind (wpAny_seqItems hTO₂ rfl ?_)
  refine wpAny_bind (upd_tri hTO₂ fun h₃ hTO₃ hs₃ => ?_)
  replace hTO₃ : IsTri h₃ (n + 4) x b c := hTO₃
  refine wpAny_bind (wpAny_letGo (wpAny_pure ?_))
  refine wpAny_bind (wpAny_bind (wpAny_onRaise ?_))
  show wpAny _ _ (Builtin.SmallTypes.nextOf (.ref (n + 1 : Nat)) >>= _) _ _ _
  refine wpAny_bind (wpAny_nextOf_list_item ((b2.extBut hs₂.extBut (by show @Ne Nat _ _; omega)).extBut hs₃.extBut (by show @Ne Nat _ _; omega))
    ((c2.extBut hs₂.extBut (by show @Ne Nat _ _; omega)).extBut hs₃.extBut (by show @Ne Nat _ _; omega)) hy fun h₄ b2₄ hs₄ => wpAny_pure ?_)
  have hTO₄ : IsTri h₄ (n + 4) x b c := hs₄.extBut _ _ (by show @Ne Nat _ _; omega) hTO₃
  refine wpAny_bind (wpAny_seqItems hTO₄ rfl ?_)
  refine wpAny_bind (upd_tri hTO₄ fun h₅ hTO₅ hs₅ => ?_)
  replace hTO₅ : IsTri h₅ (n + 4) x y c := hTO₅
  refine wpAny_bind (wpAny_letGo (wpAny_pure ?_))
  refine wpAny_bind (wpAny_bind (wpAny_onRaise ?_))
  show wpAny _ _ (Builtin.SmallTypes.nextOf (.ref (n + 2 : Nat)) >>= _) _ _ _
  refine wpAny_bind (wpAny_nextOf_list_item ((((b3.extBut hs₂.extBut (by show @Ne Nat _ _; omega)).extBut hs₃.extBut (by show @Ne Nat _ _; omega)).extBut hs₄.extBut (by show @Ne Nat _ _; omega)).extBut hs₅.extBut (by show @Ne Nat _ _; omega))
    ((((c3.extBut hs₂.extBut (by show @Ne Nat _ _; omega)).extBut hs₃.extBut (by show @Ne Nat _ _; omega)).extBut hs₄.extBut (by show @Ne Nat _ _; omega)).extBut hs₅.extBut (by show @Ne Nat _ _; omega)) hz' fun h₆ b3₆ hs₆ => wpAny_pure ?_)
  have hTO₆ : IsTri h₆ (n + 4) x y c := hs₆.extBut _ _ (by show @Ne Nat _ _; omega) hTO₅
  refine wpAny_bind (wpAny_seqItems hTO₆ rfl ?_)
  refine wpAny_bind (upd_tri hTO₆ fun h₇ hTO₇ hs₇ => ?_)
  replace hTO₇ : IsTri h₇ (n + 4) x y z := hTO₇
  refine wpAny_bind (wpAny_letGo (wpAny_pure (wpAny_pure ?_)))
  refine wpAny_bind (wpAny_seqItems hTO₇ rfl ?_)
  refine wpAny_bind (wpAny_newTuple ?_)
  have hsz : h₇.objs.size = s.heap.objs.size := by rw [hs₇.1, hs₆.1, hs₅.1, hs₄.1, hs₃.1, hs₂.1, hs₁.1]
  have hz₇ : IsZip h₇ (n + 5) (n + 3) (n + 4) .ellipsis := hs₇.extBut _ _ (by show @Ne Nat _ _; omega) (hs₆.extBut _ _ (by show @Ne Nat _ _; omega) (hs₅.extBut _ _ (by show @Ne Nat _ _; omega) (hs₄.extBut _ _ (by show @Ne Nat _ _; omega) (hs₃.extBut _ _ (by show @Ne Nat _ _; omega) (hs₂.extBut _ _ (by show @Ne Nat _ _; omega) hz₁)))))
  have hk₇ : ∀ c o, c ≠ n + 5 → c ≠ n + 4 → c ≠ n → c ≠ n + 1 → c ≠ n + 2 → s.heap.get? c = some o → h₇.get? c = some o := fun c o e1 e2 e3 e4 e5 e =>
    hs₇.extBut _ _ e2 (hs₆.extBut _ _ e5 (hs₅.extBut _ _ e2 (hs₄.extBut _ _ e4 (hs₃.extBut _ _ e2 (hs₂.extBut _ _ e3 (hs₁.extBut _ _ e1 e))))))
  have b1₇ : h₇.IsListIter n l1 (k + 1) := ((((b1₂.extBut hs₃.extBut (by show @Ne Nat _ _; omega)).extBut hs₄.extBut (by show @Ne Nat _ _; omega)).extBut hs₅.extBut (by show @Ne Nat _ _; omega)).extBut hs₆.extBut (by show @Ne Nat _ _; omega)).extBut hs₇.extBut (by show @Ne Nat _ _; omega)
  have b2₇ : h₇.IsListIter (n + 1) l2 (k + 1) := ((b2₄.extBut hs₅.extBut (by show @Ne Nat _ _; omega)).extBut hs₆.extBut (by show @Ne Nat _ _; omega)).extBut hs₇.extBut (by show @Ne Nat _ _; omega)
  have b3₇ : h₇.IsListIter (n + 2) l3 (k + 1) := b3₆.extBut hs₇.extBut (by show @Ne Nat _ _; omega)
  have hzlt : n + 5 < h₇.objs.size := Heap.lt_size hz₇
  show wpAny _ _ (Builtin.SmallTypes.ownedTupleHandOut (.ref (n + 5 : Nat)) (.ref h₇.objs.size) >>= _) _ _ _
  refine wpAny_bind ?_
  unfold Builtin.SmallTypes.ownedTupleHandOut
  have hz₈ : IsZip (h₇.push { cls := .type "tuple", data := .seq #[x, y, z] }) (n + 5) (n + 3) (n + 4) .ellipsis := Heap.get?_push_of_some _ hz₇
  refine wpAny_bind (wpAny_setField_rec hz₈ (by simp) fun h₉ hz₉ hs₉ => ?_)
  replace hz₉ : IsZip h₉ (n + 5) (n + 3) (n + 4) (rawInt h₇.objs.size) := hz₉
  refine wpAny_setField_rec hz₉ (by simp) fun hA hzA hsA => ?_
  replace hzA : IsZip hA (n + 5) (n + 3) (n + 4) (rawInt h₇.objs.size) := hzA
  have up : ∀ c o, c ≠ n + 5 → h₇.get? c = some o → hA.get? c = some o := fun c o c1 e => hsA.extBut _ _ c1 (hs₉.extBut _ _ c1 (Heap.get?_push_of_some _ e))
  have hTA : IsTri hA h₇.objs.size x y z := hsA.extBut _ _ (Nat.ne_of_gt hzlt) (hs₉.extBut _ _ (Nat.ne_of_gt hzlt) (Heap.get?_push_size _ rfl))
  have hsA' : hA.objs.size = h₇.objs.size + 1 := by rw [hsA.1, hs₉.1, Heap.size_push]
  rw [hsz] at hzA hTA hsA'
  refine wpAny_pure ⟨_, rfl, ?_⟩
  show Q (.ref h₇.objs.size) _
  rw [hsz]
  exact hQ hA hzA (up _ _ (by show @Ne Nat _ _; omega) hTO₇) (b1₇.at fun o e => up _ o (by show @Ne Nat _ _; omega) e) (b2₇.at fun o e => up _ o (by show @Ne Nat _ _; omega) e) (b3₇.at fun o e => up _ o (by show @Ne Nat _ _; omega) e) hTA hsA' fun c o c1 c2 c3 c4 c5 e => up c o c1 (hk₇ c o c1 c2 c3 c4 c5 e)
/-- all three at their ends -/
theorem z3_end {k : Nat} {xs ys zs : Array Value} {Q : Fin → Shared → Prop} (hh : A.handled = none) (D : Z3 s.heap n l1 l2 l3 k) (hl1 : s.heap.IsList l1 xs) (hx : xs[k]? = none)
    (hE : ∀ h' e, (∀ c o, c ≠ n + 5 → c ≠ n + 4 → c ≠ n → c ≠ n + 1 → c ≠ n + 2 → s.heap.get? c = some o → h'.get? c = some o) → (∃ o, h'.get? e = some o ∧ o.cls = .type "StopIteration") → E (.ref e) { s with heap := h' }) :
    wpAny (model prog w) A (Builtin.«zip.__next__» ⟨[.ref (n + 5 : Nat)], []⟩) Q E s := by
  obtain ⟨hz, hTI, ⟨a, b, c, hTO⟩, h1, h2, h3, q1, q2, q3⟩ := D
  show wpAny _ _ (field (.ref (n + 5 : Nat)) 2 >>= _) _ _ _
  refine wpAny_bind (wpAny_field hz rfl (x := .bool false) rfl ?_)
  show wpAny _ _ (field (.ref (n + 5 : Nat)) 3 >>= _) _ _ _
  refine wpAny_bind (wpAny_field hz rfl (x := .ref (n + 3 : Nat)) rfl ?_)
  refine wpAny_bind (wpAny_seqItems hTI rfl ?_)
  show wpAny _ _ (Builtin.SmallTypes.ownedTupleIsFree (.ref (n + 5 : Nat)) >>= _) _ _ _
  refine wpAny_bind ?_
  unfold Builtin.SmallTypes.ownedTupleIsFree
  refine wpAny_bind (wpAny_field hz rfl (x := .none) rfl (wpAny_pure ?_))
  simp only [if_true]
  refine wpAny_bind (wpAny_rule ?_)
  refine wpAny_bind (wpAny_field hz rfl (x := .ref (n + 4 : Nat)) rfl ?_)
  refine wpAny_bind (wpAny_setField_rec hz (by simp) fun h₁ hz₁ hs₁ => ?_)
  replace hz₁ : IsZip h₁ (n + 5) (n + 3) (n + 4) .ellipsis := hz₁
  refine wpAny_bind ?_
  simp only [List.zipIdx_cons, List.zipIdx_nil, List.forIn_cons, List.forIn_nil]
  have b1 : h₁.IsListIter n l1 k := h1.extBut hs₁.extBut (by show @Ne Nat _ _; omega)
  have c1 : h₁.IsList l1 xs := hl1.extBut hs₁.extBut (by show @Ne Nat _ _; omega)
  refine wpAny_bind (wpAny_bind (wpAny_onRaise ?_))
  show wpAny _ _ (Builtin.SmallTypes.nextOf (.ref n) >>= _) _ _ _
  refine wpAny_bind (wpAny_nextOf_list_end hh b1 c1 hx fun h₂ e hs₂ he => ?_)
  obtain ⟨oe, hoe, hce⟩ := he
  have hz₂ : IsZip h₂ (n + 5) (n + 3) (n + 4) .ellipsis := hs₂ _ _ (by show @Ne Nat _ _; omega) hz₁
  have hez : e ≠ n + 5 := fun x => by subst x; rw [hz₂] at hoe; cases hoe; simp at hce
  exact wpAny_setField_rec hz₂ (by simp) fun h₃ _ hs₃ => hE h₃ e (fun c o c1 _ c3 _ _ x => hs₃.extBut _ _ c1 (hs₂ _ _ c3 (hs₁.extBut _ _ c1 x))) ⟨oe, hs₃.extBut _ _ hez hoe, hce⟩
theorem z3_next {k : Nat} {xs ys zs : Array Value} {x y z : Value} {Q : Option Value → Shared → Prop} (D : Z3 s.heap n l1 l2 l3 k)
    (hl1 : s.heap.IsList l1 xs) (hl2 : s.heap.IsList l2 ys) (hl3 : s.heap.IsList l3 zs) (hx : xs[k]? = some x) (hy : ys[k]? = some y) (hz' : zs[k]? = some z)
    (hQ : ∀ h', IsZip h' (n + 5) (n + 3) (n + 4) (rawInt s.heap.objs.size) → IsTri h' (n + 4) x y z → h'.IsListIter n l1 (k + 1) → h'.IsListIter (n + 1) l2 (k + 1) → h'.IsListIter (n + 2) l3 (k + 1) →
      IsTri h' s.heap.objs.size x y z → h'.objs.size = s.heap.objs.size + 1 →
      (∀ c o, c ≠ n + 5 → c ≠ n + 4 → c ≠ n → c ≠ n + 1 → c ≠ n + 2 → s.heap.get? c = some o → h'.get? c = some o) → Q (some (.ref s.heap.objs.size)) { s with heap := h' }) :
    wpAny (model prog w) A (pyNext (.ref (n + 5 : Nat))) Q E s := by
  have hT : s.TypeIs (.ref (n + 5 : Nat)) "zip" := ⟨_, D.z, rfl⟩
  unfold pyNext
  exact wpAny_bind (wpAny_attempt (wpAny_callSpecial?_slot (name := Str.ofString "__next__") hT F.slot_zip_next
    (wpAny_call_entry F.slot_zip_next hT F.entry_zip_next
      (z3_item D hl1 hl2 hl3 hx hy hz' fun h' a1 a2 a3 a4 a5 a6 a7 a8 => wpAny_pure (hQ h' a1 a2 a3 a4 a5 a6 a7 a8)) (F.args_zip_next_1 _))))
theorem z3_nextEnd {k : Nat} {xs : Array Value} {Q : Option Value → Shared → Prop} (hh : A.handled = none) (D : Z3 s.heap n l1 l2 l3 k) (hl1 : s.heap.IsList l1 xs) (hx : xs[k]? = none)
    (hQ : ∀ h', (∀ c o, c ≠ n + 5 → c ≠ n + 4 → c ≠ n → c ≠ n + 1 → c ≠ n + 2 → s.heap.get? c = some o → h'.get? c = some o) → Q none { s with heap := h' }) : wpAny (model prog w) A (pyNext (.ref (n + 5 : Nat))) Q E s := by
  have hT : s.TypeIs (.ref (n + 5 : Nat)) "zip" := ⟨_, D.z, rfl⟩
  unfold pyNext
  refine wpAny_bind (wpAny_attempt (wpAny_callSpecial?_slot (name := Str.ofString "__next__") hT F.slot_zip_next
    (wpAny_call_entry F.slot_zip_next hT F.entry_zip_next (z3_end (ys := #[]) (zs := #[]) hh D hl1 hx fun h' e hk he => ?_) (F.args_zip_next_1 _))))
  obtain ⟨o, ho, hc⟩ := he
  refine wpAny_bind (wpAny_isInstance (T := "StopIteration") (b := true) ⟨o, ho, hc⟩ isSubtype_stop ?_)
  exact wpAny_pure (hQ _ hk)
end
abbrev z3H1 (h : Heap) (l1 : Addr) : Heap := h.push { cls := .type "list_iterator", data := .fields #[.ref l1, .int 0 0] }
abbrev z3H2 (h : Heap) (l1 l2 : Addr) : Heap := (z3H1 h l1).push { cls := .type "list_iterator", data := .fields #[.ref l2, .int 0 0] }
abbrev z3H3 (h : Heap) (l1 l2 l3 : Addr) : Heap := (z3H2 h l1 l2).push { cls := .type "list_iterator", data := .fields #[.ref l3, .int 0 0] }
abbrev z3H4 (h : Heap) (l1 l2 l3 : Addr) : Heap := (z3H3 h l1 l2 l3).push { cls := .type "tuple", data := .seq #[.ref h.objs.size, .ref (z3H1 h l1).objs.size, .ref (z3H2 h l1 l2).objs.size] }
abbrev z3H5 (h : Heap) (l1 l2 l3 : Addr) : Heap := (z3H4 h l1 l2 l3).push { cls := .type "tuple", data := .seq #[.none, .none, .none] }
abbrev z3H6 (h : Heap) (l1 l2 l3 : Addr) : Heap := (z3H5 h l1 l2 l3).push { cls := .type "zip", data := .fields #[.none, .bool false, .bool false, .ref (z3H3 h l1 l2 l3).objs.size, .ref (z3H4 h l1 l2 l3).objs.size] }
theorem meets_z3 (l1 l2 l3 : Addr) (xs ys zs : Array Value) :
    Meets (Builtin.«zip.__new__» ⟨[.type "zip", .ref l1, .ref l2, .ref l3], []⟩) (fun _ R s => s.heap.IsList l1 xs ∧ s.heap.IsList l2 ys ∧ s.heap.IsList l3 zs ∧
      R (.ok (.ret (.ref (z3H5 s.heap l1 l2 l3).objs.size))) { s with heap := z3H6 s.heap l1 l2 l3 }) :=
  .of_wp fun prog w A R s h => by
    obtain ⟨hp, g, d, tk, os⟩ := s; obtain ⟨hl1, hl2, hl3, h⟩ := h
    have hsub := sub_zip
    have hL1 : Heap.IsList (Shared.heap ⟨hp, g, d, tk, os⟩) l1 xs := hl1
    have hL2 : Heap.IsList (Shared.heap ⟨hp.push { cls := .type "list_iterator", data := .fields #[.ref l1, .int 0 0] }, g, d, tk, os⟩) l2 ys := Heap.IsList.push hl2 _
    have hL3 : Heap.IsList (Shared.heap ⟨(hp.push { cls := .type "list_iterator", data := .fields #[.ref l1, .int 0 0] }).push { cls := .type "list_iterator", data := .fields #[.ref l2, .int 0 0] }, g, d, tk, os⟩) l3 zs := Heap.IsList.push (Heap.IsList.push hl3 _) _
    wp_walk using wpAny_pyIter_list hL1, wpAny_pyIter_list hL2, wpAny_pyIter_list hL3
    exact ⟨_, rfl, h⟩
section
variable {prog : Program} {w : World} {A : Around} {E : Value → Shared → Prop} {s : Shared}
theorem call_z3 {l1 l2 l3 : Nat} {xs ys zs : Array Value} {Q : Value → Shared → Prop} (hl1 : s.heap.IsList l1 xs) (hl2 : s.heap.IsList l2 ys) (hl3 : s.heap.IsList l3 zs)
    (h : ∀ h', Z3 h' s.heap.objs.size l1 l2 l3 0 → (∀ c o, s.heap.get? c = some o → h'.get? c = some o) → Q (.ref (s.heap.objs.size + 5)) { s with heap := h' }) :
    wpAny (model prog w) A (call (.type "zip") [.ref l1, .ref l2, .ref l3]) Q E s := by
  refine callType_new F.called_zip (by decide) (z3_type _ _ _) (z3_new _ _ _) (fun obj => z3_init obj _ _ _) F.entry_zip_new
    (meets_z3 l1 l2 l3 xs ys zs) ⟨hl1, hl2, hl3, ?_⟩
  have z1 : (z3H1 s.heap l1).objs.size = s.heap.objs.size + 1 := Heap.size_push ..
  have z2 : (z3H2 s.heap l1 l2).objs.size = s.heap.objs.size + 2 := by rw [Heap.size_push, z1]
  have z3 : (z3H3 s.heap l1 l2 l3).objs.size = s.heap.objs.size + 3 := by rw [Heap.size_push, z2]
  have z4 : (z3H4 s.heap l1 l2 l3).objs.size = s.heap.objs.size + 4 := by rw [Heap.size_push, z3]
  have z5 : (z3H5 s.heap l1 l2 l3).objs.size = s.heap.objs.size + 5 := by rw [Heap.size_push, z4]
  have g6 : (z3H6 s.heap l1 l2 l3).get? (z3H5 s.heap l1 l2 l3).objs.size = some _ := Heap.get?_push_size _ rfl
  have g5 : (z3H6 s.heap l1 l2 l3).get? (z3H4 s.heap l1 l2 l3).objs.size = some _ := Heap.get?_push_of_some _ (Heap.get?_push_size _ rfl)
  have g4 : (z3H6 s.heap l1 l2 l3).get? (z3H3 s.heap l1 l2 l3).objs.size = some _ := Heap.get?_push_of_some _ (Heap.get?_push_of_some _ (Heap.get?_push_size _ rfl))
  have g3 : (z3H6 s.heap l1 l2 l3).get? (z3H2 s.heap l1 l2).objs.size = some _ := Heap.get?_push_of_some _ (Heap.get?_push_of_some _ (Heap.get?_push_of_some _ (Heap.get?_push_size _ rfl)))
  have g2 : (z3H6 s.heap l1 l2 l3).get? (z3H1 s.heap l1).objs.size = some _ := Heap.get?_push_of_some _ (Heap.get?_push_of_some _ (Heap.get?_push_of_some _ (Heap.get?_push_of_some _ (Heap.get?_push_size _ rfl))))
  have g1 : (z3H6 s.heap l1 l2 l3).get? s.heap.objs.size = some _ := Heap.get?_push_of_some _ (Heap.get?_push_of_some _ (Heap.get?_push_of_some _ (Heap.get?_push_of_some _ (Heap.get?_push_of_some _ (Heap.get?_push_size _ rfl)))))
  show _ ∧ _
  rw [z3, z4, z5] at g6
  rw [z1, z2, z3] at g4
  rw [z4] at g5
  rw [z2] at g3
  rw [z1] at g2
  rw [z5]
  exact ⟨⟨_, g6, rfl⟩, h _ ⟨g6, g4, ⟨_, _, _, g5⟩, ⟨_, g1, rfl, rfl⟩, ⟨_, g2, rfl, rfl⟩, ⟨_, g3, rfl, rfl⟩, lt1 hl1, lt1 hl2, lt1 hl3⟩ fun c o x =>
    Heap.get?_push_of_some _ (Heap.get?_push_of_some _ (Heap.get?_push_of_some _ (Heap.get?_push_of_some _ (Heap.get?_push_of_some _ (Heap.get?_push_of_some _ x)))))⟩
end
/-- the lists at a, b, c as they stand at each turn, the items in new tuples of three -/
def Itz3 (K : PySem.W.Frag) (a b c : Addr) : It :=
  ⟨fun i H => ∃ (xs ys zs : List V) (x y z : V), SqL K H a xs ∧ SqL K H b ys ∧ SqL K H c zs ∧ xs[i]? = some x ∧ ys[i]? = some y ∧ zs[i]? = some z,
    fun i H v H' => ∃ T x y z, v = .ref T ∧ H T = none ∧ H' = upd H T (.tup [x, y, z]) ∧ (∀ xs, SqL K H a xs → xs[i]? = some x) ∧ (∀ ys, SqL K H b ys → ys[i]? = some y) ∧ ∀ zs, SqL K H c zs → zs[i]? = some z,
    fun i H => ∃ xs : List V, SqL K H a xs ∧ xs.length ≤ i⟩
theorem turn_zip3 {P : Program} {w : World} {K : PySem.W.Frag} {elts : List Expr} {kk : Nat} {tpos : Pos} {n a b c : Nat} :
    Turn P w K (.Tuple elts kk tpos) (Itz3 K a b c) [(n + 5 : Nat), (n + 4 : Nat), (n + 3 : Nat), n, (n + 1 : Nat), (n + 2 : Nat)] (n + 5 : Nat) (fun i h => Z3 h n a b c i) where
  mem := by simp
  obj := fun i h st d hd => by
    obtain ⟨hz, hTI, ⟨x, y, z, hTO⟩, ⟨o1, e1, _, d1⟩, ⟨o2, e2, _, d2⟩, ⟨o3, e3, _, d3⟩, _, _, _⟩ := st
    have e' : d = n + 5 ∨ d = n + 4 ∨ d = n + 3 ∨ d = n ∨ d = n + 1 ∨ d = n + 2 := by simpa using hd
    rcases e' with q | q | q | q | q | q
    · rw [q]; exact ⟨_, hz, fun v q => nomatch q⟩
    · rw [q]; exact ⟨_, hTO, fun v q => nomatch q⟩
    · rw [q]; exact ⟨_, hTI, fun v q => nomatch q⟩
    · rw [q]; exact ⟨o1, e1, fun v q => by rw [d1] at q; cases q⟩
    · rw [q]; exact ⟨o2, e2, fun v q => by rw [d2] at q; cases q⟩
    · rw [q]; exact ⟨o3, e3, fun v q => by rw [d3] at q; cases q⟩
  keep := fun i h h' st k => by
    obtain ⟨hz, hTI, ⟨x, y, z, hTO⟩, h1, h2, h3, q1, q2, q3⟩ := st
    exact ⟨k (n + 5) (by simp) _ hz, k (n + 3) (by simp) _ hTI, ⟨x, y, z, k (n + 4) (by simp) _ hTO⟩, h1.at fun o q => k n (by simp) o q, h2.at fun o q => k (n + 1) (by simp) o q, h3.at fun o q => k (n + 2) (by simp) o q, q1, q2, q3⟩
  item := by
    intro X hP hw hK hc i pins s σ H E I hf st hg
    subst hP hw hK
    obtain ⟨xs, ys, zs, x, y, z, hqx, hqy, hqz, hx, hy, hz'⟩ := hg
    obtain ⟨its, rv, p, _⟩ := I.list hqx
    obtain ⟨its2, rv2, p2, _⟩ := I.list hqy
    obtain ⟨its3, rv3, p3, _⟩ := I.list hqz
    obtain ⟨u, hu, ru⟩ := rv.get hx
    obtain ⟨u2, hu2, ru2⟩ := rv2.get hy
    obtain ⟨u3, hu3, ru3⟩ := rv3.get hz'
    have hzl : n + 5 < s.heap.objs.size := Heap.lt_size st.z
    refine z3_next st p.isList p2.isList p3.isList (x := u) (y := u2) (z := u3) (by simpa using hu) (by simpa using hu2) (by simpa using hu3) fun h' z' TO' h1' h2' h3' hT hsz hk => ?_
    refine ⟨_, rfl, wpAny_letOwnedTupleGo_zip (s := { s with heap := h' }) z' fun h'' z'' sb => ?_⟩
    have hT2 : h''.get? s.heap.objs.size = some { cls := .type "tuple", data := .seq #[u, u2, u3] } := (sb.2 _ (Nat.ne_of_gt hzl)).trans hT
    have new : ObjOk X.prog X.w (upd H s.heap.objs.size (.tup [x, y, z])) h'' s.heap.objs.size (.tup [x, y, z]) :=
      ⟨by show 3 ≤ sizeLine; decide, [u, u2, u3], .cons ru (.cons ru2 (.cons ru3 .nil)), ⟨_, hT2, rfl, _, rfl⟩⟩
    have hTI' : IsTri h'' (n + 3) (.ref n) (.ref (n + 1)) (.ref (n + 2)) := (sb.2 _ (by show @Ne Nat _ _; omega)).trans (hk _ _ (by show @Ne Nat _ _; omega) (by show @Ne Nat _ _; omega) (by show @Ne Nat _ _; omega) (by show @Ne Nat _ _; omega) (by show @Ne Nat _ _; omega) st.ti)
    have I1 : Inv X pins σ (upd H s.heap.objs.size (.tup [x, y, z])) { s with heap := h'' } :=
      I.turnedNew (t' := s.toks) (ch := [(n + 5 : Nat), (n + 4 : Nat), (n + 3 : Nat), n, (n + 1 : Nat), (n + 2 : Nat)]) (fun c o hb q => (sb.2 c (fun q' => hb (by simp [q']))).trans (hk c o (fun q' => hb (by simp [q'])) (fun q' => hb (by simp [q'])) (fun q' => hb (by simp [q'])) (fun q' => hb (by simp [q'])) (fun q' => hb (by simp [q'])) q)) hf (Nat.le_refl _) new
    refine ⟨.ref s.heap.objs.size, _, I1, rfl, ⟨_, x, y, z, rfl, I.hok.fresh (Nat.le_refl _), rfl, fun l hl => by rw [I.list_inj hl hqx]; exact hx, fun l hl => by rw [I.list_inj hl hqy]; exact hy, fun l hl => by rw [I.list_inj hl hqz]; exact hz'⟩,
      ⟨z'', hTI', ⟨u, u2, u3, ?_⟩, ?_, ?_, ?_, st.h1, st.h2, st.h3⟩, fun c hcm => ?_⟩
    · exact (sb.2 _ (by show @Ne Nat _ _; omega)).trans TO'
    · exact h1'.at fun o q => (sb.2 _ (by show @Ne Nat _ _; omega)).trans q
    · exact h2'.at fun o q => (sb.2 _ (by show @Ne Nat _ _; omega)).trans q
    · exact h3'.at fun o q => (sb.2 _ (by show @Ne Nat _ _; omega)).trans q
    · have hlt : c < s.heap.objs.size := by
        have e' : c = n + 5 ∨ c = n + 4 ∨ c = n + 3 ∨ c = n ∨ c = n + 1 ∨ c = n + 2 := by simpa using hcm
        have e2 : n + 5 < s.heap.objs.size := hzl
        show @LT.lt Nat _ _ _
        rcases e' with q | q | q | q | q | q <;> (rw [q]; omega)
      rw [upd_ne (Nat.ne_of_lt hlt)]
      exact (hf c hcm).1
  done := by
    intro X hP hw hK hc i pins s σ H E I hf st hg
    subst hP hw hK
    obtain ⟨xs, hqx, hend⟩ := hg
    obtain ⟨its, rv, p, _⟩ := I.list hqx
    have l1 := rv.length
    have he : its.toArray[i]? = none := by simp; omega
    exact z3_nextEnd (I.ok.hd hc) st p.isList he fun h' hk => ⟨rfl, I.turnedL (t' := s.toks) (ch := [(n + 5 : Nat), (n + 4 : Nat), (n + 3 : Nat), n, (n + 1 : Nat), (n + 2 : Nat)]) (fun c o hb q =>
      hk c o (fun q' => hb (by simp [q'])) (fun q' => hb (by simp [q'])) (fun q' => hb (by simp [q'])) (fun q' => hb (by simp [q'])) (fun q' => hb (by simp [q'])) q) hf⟩
  self := fun A i s Q E st h => wpAny_pyIter_zip st.z h
def aZip3 (K : PySem.W.Frag) (vs : List V) (H : Hp) (R : It → Hp → Prop) : Prop := ∃ a b c xs ys zs, vs = [.ref a, .ref b, .ref c] ∧ SqL K H a xs ∧ SqL K H b ys ∧ SqL K H c zs ∧ R (Itz3 K a b c) H
def iZip3 (K : PySem.W.Frag) (ta : TA) : TI := fun σ H R => ta σ H fun vs H1 => aZip3 K vs H1 R
theorem pi_zip3 {X : Cx} {e e2 e3 : Expr} {ta : TA} {p pos tpos : Pos} {elts : List Expr} {kk : Nat} (hg : Gl X "zip") (hm : X.mg "zip" = none) (ha : PA X [e, e2, e3] ta)
    (hs : starEach [e, e2, e3] X.env = (false, eval e X.env) :: starEach [e2, e3] X.env := by rfl) (hpl : (backTo pos (starEach [e2, e3] X.env)).any (·.1) = false := by rfl) :
    PI X (.Tuple elts kk tpos) (.Call (.Name "zip" p) [e, e2, e3] [] pos) (iZip3 X.K ta) := by
  refine ⟨fun pins s σ H R I h => ?_⟩
  refine Call_ (ld_blt I hg hm PyProof.Rows.boot_zip (PyProof.Rows.callWith_type1 (thn (ha.run pos pins s σ H _ I h) fun us s1 ⟨vs, H1, I1, r1, q1⟩ => ?_) hs hpl))
  obtain ⟨a, b, c, xs, ys, zs, ex, hqx, hqy, hqz, q⟩ := q1
  subst ex
  cases r1 with
  | cons r rr =>
    cases rr with
    | cons r' rr =>
      cases rr with
      | cons r'' rr =>
        cases rr
        cases r
        cases r'
        cases r''
        obtain ⟨its, rv, p1, _⟩ := I1.list hqx
        obtain ⟨its2, rv2, p2, _⟩ := I1.list hqy
        obtain ⟨its3, rv3, p3, _⟩ := I1.list hqz
        refine call_z3 p1.isList p2.isList p3.isList fun h' D hk => wpAny_pyIter_zip D.z ?_
        have I2 : Inv X pins σ H1 { s1 with heap := h' } := I1.kept (t' := s1.toks) hk
        refine ⟨(s1.heap.objs.size + 5 : Nat), _, _, _, H1, rfl, I2, turn_zip3 (n := s1.heap.objs.size) (a := a) (b := b) (c := c), D, fun d hd => ?_, q⟩
        have e' : d = s1.heap.objs.size + 5 ∨ d = s1.heap.objs.size + 4 ∨ d = s1.heap.objs.size + 3 ∨ d = s1.heap.objs.size ∨ d = s1.heap.objs.size + 1 ∨ d = s1.heap.objs.size + 2 := by simpa using hd
        have hle : s1.heap.objs.size ≤ d := by
          show @LE.le Nat _ _ _
          rcases e' with z | z | z | z | z | z <;> (rw [z]; omega)
        exact I1.fpOk hle (I1.hok.fresh hle)
/-- a new tuple of three -/
def YTri (xs ys zs : Nat → Option V) : Nat → Hp → V → Hp → Prop := fun i H v H' => ∃ T x y z, v = .ref T ∧ H T = none ∧ H' = upd H T (.tup [x, y, z]) ∧ xs i = some x ∧ ys i = some y ∧ zs i = some z
section
variable {K : PySem.W.Frag} {a b c : Addr} {xs ys zs : List V} {tl : TA} {σ : St} {H : Hp} {R : It → Hp → Prop}
theorem walk_zip3 {n : Nat} (h1 : n = xs.length) (h2 : n = ys.length) (h3 : n = zs.length) : Walk (Itz3 K a b c) n (fun H => SqL K H a xs ∧ SqL K H b ys ∧ SqL K H c zs) (YTri (fun i => xs[i]?) (fun i => ys[i]?) (fun i => zs[i]?)) := by
  refine ⟨fun i _ hi q => ?_, fun _ q => ⟨xs, q.1, by omega⟩, fun i H v H' _ q y => ?_⟩
  · have h1 : i < xs.length := by omega
    have h2 : i < ys.length := by omega
    have h3 : i < zs.length := by omega
    exact ⟨xs, ys, zs, xs[i], ys[i], zs[i], q.1, q.2.1, q.2.2, by simp [h1], by simp [h2], by simp [h3]⟩
  · obtain ⟨T, x, y, z, h1, h2, h3, h4, h5, h6⟩ := y
    exact ⟨T, x, y, z, h1, h2, h3, h4 xs q.1, h5 ys q.2.1, h6 zs q.2.2⟩
theorem g_zip3 (h : tl σ H fun vs H1 => aZip3 K vs H1 R) : iZip3 K tl σ H R := h
theorem g_aZip3 (h : SqL K H a xs) (h2 : SqL K H b ys) (h3 : SqL K H c zs) (q : R (Itz3 K a b c) H) : aZip3 K [.ref a, .ref b, .ref c] H R := ⟨a, b, c, xs, ys, zs, rfl, h, h2, h3, q⟩
end
end Bz
namespace Bz
open PySem PySem.Spec PyProof.Rows L2
/-! sum(xs, start=i) -/
theorem args_sumS (a v : Value) : argsOk "sum" ⟨[a], [(Str.ofString "start", v)]⟩ := by unfold argsOk; kernel_rfl
section
variable {prog : Program} {w : World} {A : Around} {E : Value → Shared → Prop} {s : Shared}
theorem walks_from {I : Addr} {fp wr : List Addr} {n : Nat} {P : Nat → Value → Prop} {St : Nat → Heap → Prop} (W : Walks prog w A I fp wr n P St) :
    Walks prog w A I fp wr (n + 1) (fun i v => ∃ j, i = j + 1 ∧ P j v) (fun i h => ∃ j, i = j + 1 ∧ St j h) where
  sub := W.sub
  frame := fun i h h' st k => by
    obtain ⟨j, rfl, st⟩ := st
    exact ⟨j, rfl, W.frame j h h' st k⟩
  item := fun i s Q E hi st hQ => by
    obtain ⟨j, rfl, st⟩ := st
    exact W.item j s Q E (by omega) st fun v h' tk p st' k => hQ v h' tk ⟨j, rfl, p⟩ ⟨j + 1, rfl, st'⟩ k
  done := fun s Q E st hQ => by
    obtain ⟨j, e, st⟩ := st
    have : j = n := by omega
    subst this
    exact W.done s Q E st hQ
  self := fun i s Q E st hQ => by
    obtain ⟨j, rfl, st⟩ := st
    exact W.self j s Q E st hQ
theorem preSum_from (a : Int) (val : Nat → Int) : ∀ n, preSum (fun i => if i = 0 then a else val (i - 1)) (n + 1) = a + preSum val n
  | 0 => by simp [preSum]
  | n + 1 => by
    have ih := preSum_from a val n
    show preSum _ (n + 1) + _ = a + (preSum val n + val n)
    rw [ih]
    simp
    omega
theorem call_treeK {id : String} {b : Builtin} {args : List Value} {kw : List (Str × Value)} {Q : Value → Shared → Prop} (hk : builtinKind id = none) (hp : plainId id = true)
    (hb : entryFor table id = some b) (ha : argsOk id ⟨args, kw⟩)
    (hc : wpAny (model prog w) A.in1 (b ⟨args, kw⟩) (fun fin s' => match fin with
      | .done f => (match (Except.ok f : Result) with | .ok (.ret v) => Q v s' | .ok _ => False | .error e => E e s')
      | .again c' => c'.quiet = true ∧ codeAny (model prog w) A c' (fun r s' => match r with | .ok (.ret v) => Q v s' | .ok _ => False | .error e => E e s') s') E s) :
    wpAny (model prog w) A (call (.builtin id) args kw) Q E s := by
  refine wpAny_call (codeAny_call_builtin hp hb ?_)
  simp only [checkBuiltinCall, hk]
  cases hsig : Manifest.signature? id with
  | none => exact wpAny_pure hc
  | some sig =>
    have h2 : Bind.checkArgs id sig ⟨args, kw⟩ = pure () := by simpa only [argsOk, hsig] using ha
    show wpAny _ A.in1 (Bind.checkArgs id sig ⟨args, kw⟩) _ _ s
    rw [h2]
    exact wpAny_pure hc
theorem call_sumS {l : Addr} {xs : Array (Int × Tok)} {a : Int} {t : Tok} {Q : Value → Shared → Prop} (hh : A.handled = none) (hl : s.heap.IsList l (intItems xs))
    (h : ∀ h' tk t', (∀ b o, s.heap.get? b = some o → h'.get? b = some o) → Q (.int (a + preSum (numAt xs) xs.size) t') { s with heap := h', toks := tk }) :
    wpAny (model prog w) A (call (.builtin "sum") [.ref l] [(Str.ofString "start", .int a t)]) Q E s := by
  refine call_treeK F.kind_sum F.plain_sum F.entry_sum (args_sumS _ _) ?_
  unfold Builtin.«sum»
  simp only [List.length_cons, List.length_nil]
  rw [if_neg (by decide)]
  refine wpAny_bind (wpAny_of_eq (show Builtin.Builtins.bindParams "sum" ["start"] 0 ⟨[], [(Str.ofString "start", .int a t)]⟩ = pure [some (.int a t)] from by kernel_rfl) ?_)
  refine wpAny_bind (iter_intList hl fun s₂ e st hfp hlI => ?_)
  subst e
  have W := walks_from (Walks.list (prog := prog) (w := w) (A := A.in1) hh s.heap.objs.size l hlI (intItems xs))
  have hsz : (intItems xs).size = xs.size := by simp [intItems]
  have key : ∀ (t0 : Tok) (stage : Int) (tk : Nat), (stage = 0 ∨ stage = 2) → ∀ h1 : Heap, h1 = (s.heap.push { cls := .type "list_iterator", data := .fields #[.ref l, .int 0 0] }).push { cls := .type "list", data := .seq #[Value.int a t0] } →
      codeAny (model prog w) A (.builtin "sum.loop" ⟨[.ref s.heap.objs.size, .ref (s.heap.objs.size + 1 : Nat), rawInt stage, rawInt 0], []⟩) (fun r s' => match r with | .ok (.ret v) => Q v s' | .ok _ => False | .error e => E e s') { s with heap := h1, toks := tk } := by
    intro t0 stage tk hst h1 eh
    subst eh
    have hS : Heap.get? ((s.heap.push { cls := .type "list_iterator", data := .fields #[.ref l, .int 0 0] }).push { cls := .type "list", data := .seq #[Value.int a t0] }) (s.heap.objs.size + 1 : Nat) = some { cls := .type "list", data := .seq #[Value.int a t0] } := by
      have := Heap.get?_push_size (s.heap.push { cls := .type "list_iterator", data := .fields #[.ref l, .int 0 0] }) (o := { cls := .type "list", data := .seq #[Value.int a t0] }) rfl
      rw [Heap.size_push] at this
      exact this
    refine codeAny_sum_loopG W (fun i => if i = 0 then a else numAt xs (i - 1)) ?_ (s.heap.objs.size + 1 : Nat) ?_ ((intItems xs).size + 1 - 1) 1 _ t0 stage hst rfl (by omega) ⟨0, rfl, ?_⟩ (c := 0) ?_ ?_
    · rintro i v ⟨j, rfl, hj⟩
      exact intItems_at hj
    · intro hm
      have := hfp _ hm
      rw [Heap.size_push] at this
      exact Nat.lt_irrefl _ this
    · exact ⟨st.1.at fun o e => Heap.get?_push_of_some _ e, st.2.at fun o e => Heap.get?_push_of_some _ e⟩
    · have e1 : preSum (fun i => if i = 0 then a else numAt xs (i - 1)) 1 = a := by simp [preSum]
      rw [e1]
      exact hS
    · intro h' tk' t' hk
      rw [preSum_from, hsz]
      exact h h' tk' t' fun b o e => hk b o (fun hm => by
        rw [List.mem_singleton] at hm
        subst hm
        exact Nat.lt_irrefl _ (Heap.lt_size e)) (fun hm => by
        subst hm
        have := Heap.lt_size e
        exact Nat.lt_irrefl _ (Nat.lt_trans (Nat.lt_succ_self _) this)) (Heap.get?_push_of_some _ (Heap.get?_push_of_some _ e))
  show wpAny _ _ (if _ then _ else _) _ _ _
  split
  · refine wpAny_bind (wpAny_rule ?_)
    refine wpAny_bind (wpAny_mkInt ?_)
    refine wpAny_bind (wpAny_pure ?_)
    simp only [List.forIn_cons, List.forIn_nil]
    refine wpAny_bind (wpAny_bind (wpAny_bind (wpAny_isInstance (T := "int") (b := false) (typeIs_int _ _ _) PySem.sub_int_str ?_)))
    simp only [Bool.false_eq_true, if_false]
    refine wpAny_pure (wpAny_bind (wpAny_bind (wpAny_isInstance (T := "int") (b := false) (typeIs_int _ _ _) PySem.sub_int_bytes ?_)))
    simp only [Bool.false_eq_true, if_false]
    refine wpAny_pure (wpAny_bind (wpAny_bind (wpAny_isInstance (T := "int") (b := false) (typeIs_int _ _ _) PySem.sub_int_bytearray ?_)))
    simp only [Bool.false_eq_true, if_false]
    refine wpAny_pure (wpAny_pure ?_)
    refine wpAny_bind (wpAny_newObj_type ?_)
    refine wpAny_pure ⟨plainId_quiet F.plain_sum_loop _, ?_⟩
    rw [Heap.size_push]
    exact key _ _ _ (by first | exact Or.inl rfl | exact Or.inr rfl) _ rfl
  · refine wpAny_bind (wpAny_pure ?_)
    simp only [List.forIn_cons, List.forIn_nil]
    refine wpAny_bind (wpAny_bind (wpAny_bind (wpAny_isInstance (T := "int") (b := false) (typeIs_int _ _ _) PySem.sub_int_str ?_)))
    simp only [Bool.false_eq_true, if_false]
    refine wpAny_pure (wpAny_bind (wpAny_bind (wpAny_isInstance (T := "int") (b := false) (typeIs_int _ _ _) PySem.sub_int_bytes ?_)))
    simp only [Bool.false_eq_true, if_false]
    refine wpAny_pure (wpAny_bind (wpAny_bind (wpAny_isInstance (T := "int") (b := false) (typeIs_int _ _ _) PySem.sub_int_bytearray ?_)))
    simp only [Bool.false_eq_true, if_false]
    refine wpAny_pure (wpAny_pure ?_)
    refine wpAny_bind (wpAny_newObj_type ?_)
    refine wpAny_pure ⟨plainId_quiet F.plain_sum_loop _, ?_⟩
    rw [Heap.size_push]
    exact key _ _ _ (by first | exact Or.inl rfl | exact Or.inr rfl) _ rfl
theorem sum_rawS {l : Addr} {its : List Value} {ns : List Int} {a : Int} {t : Tok} {Q : Value → Shared → Prop} (hh : A.handled = none) (hl : s.heap.IsList l its.toArray) (hi : IntsAre its ns)
    (h : ∀ h' tk t', (∀ b o, s.heap.get? b = some o → h'.get? b = some o) → Q (.int (a + ns.sum) t') { s with heap := h', toks := tk }) : wpAny (model prog w) A (call (.builtin "sum") [.ref l] [(Str.ofString "start", .int a t)]) Q E s := by
  obtain ⟨xs, e⟩ := hi.allInts.items
  have hn : numsOf (intItems xs).toList = ns := by rw [← e]; exact hi.numsOf
  rw [nums_intItems] at hn
  rw [e] at hl
  refine call_sumS hh hl fun h' tk t' hk => ?_
  have := h h' tk t' hk
  rw [preSum_eq, List.take_of_length_le (by simp), hn]
  exact this
end
/-- sum(xs, start=i) of a list of ints -/
def rSumS (K : PySem.W.Frag) : List V → List V → Hp → VK → Prop := fun vs zs H Q => ∃ (a : Addr) (ns : List Int) (i : Int), vs = [V.ref a] ∧ zs = [V.int i] ∧ SqL K H a (ns.map V.int) ∧ Q (.int (i + ns.sum)) H
theorem ck_sum {X : Cx} (hc : X.calm = true) : CallRK X (.builtin "sum") [Str.ofString "start"] (rSumS X.K) := by
  intro pins s σ H vs zs us ws Q I r rz h
  obtain ⟨a, ns, i, rfl, rfl, hs, q⟩ := h
  obtain ⟨its, rv, hl, _⟩ := I.list hs
  rw [Vals.ref1 r]
  obtain ⟨u, rfl, ru⟩ := vals1 rz
  obtain ⟨t, rfl⟩ := ru
  exact sum_rawS (I.ok.hd hc) hl.isList rv.ints fun h' tk t' hk => ⟨.int _, H, I.kept hk, ⟨_, rfl⟩, q⟩
section
variable {K : PySem.W.Frag} {H : Hp} {Q : VK} {a : Addr} {ns : List Int} {i : Int} {σ : St} {r : List V → List V → Hp → VK → Prop} {t tk : TA}
theorem g_ckw (h : t σ H fun vs H1 => tk σ H1 fun zs H2 => r vs zs H2 Q) : tCKw r t tk σ H Q := h
theorem g_sumS (h : SqL K H a (ns.map V.int)) (q : Q (.int (i + ns.sum)) H) : rSumS K [.ref a] [.int i] H Q := ⟨a, ns, i, rfl, rfl, h, q⟩
end
end Bz
namespace Bz
open PySem PySem.Spec PyProof.Rows L2
section
variable {B : Hp} {M L : List (Addr × HO)} {σ σ0 : St} {H : Hp} {Q : VK} {te : TE} {g : TG} {J : It} {vs : List Nat} {xs : List V}
/-- a comprehension that neither draws nor changes, told by rows l that stand beside: (l.filter p).map f -/
theorem g_lcF {α : Type} (l : List α) (hl : l.length = xs.length) {G : Hp → Prop} {tt : TT} (w : Walk J xs.length G (YAt xs)) (I : Is B M L H) (hw : Wiped σ vs σ0) (hz : xs.length ≤ 900000) (p : α → Bool) (f : α → V)
    (hG : ∀ D acc H', Is B M ((D, .lst acc) :: L) H' → G H')
    (hs : ∀ (i : Nat) (x : V) (r : α) (D : Addr) (acc : List V) (H' : Hp), xs[i]? = some x → l[i]? = some r → Is B M ((D, .lst acc) :: L) H' → ∀ (PY : V → Hp → Prop) (PN : Hp → Prop), (∀ H4, p r = true → Is B M ((D, .lst acc) :: L) H4 → PY (f r) H4) → (∀ H3, p r = false → Is B M ((D, .lst acc) :: L) H3 → PN H3) →
      g x σ0 H' fun σ2 H2 => wipe σ2 vs = σ0 ∧ tt σ2 H2 fun b H3 => if b = true then te σ2 H3 fun y H4 => PY y H4 else PN H3)
    (hd : ∀ D H', Is B M ((D, .lst ((l.filter p).map f)) :: L) H' → Q (.ref D) H') : aLc J g tt te vs σ H Q := by
  refine g_aLc w I hw hz (fun i acc B' M' => B' = B ∧ M' = M ∧ acc = ((l.take i).filter p).map f) ⟨rfl, rfl, rfl⟩ ?_ ?_ ?_
  · rintro i acc B' M' D H' _ s I' ⟨rfl, rfl, rfl⟩
    exact hG D _ H' I'
  · rintro i x acc B' M' D H' H'' hi s I' ⟨rfl, rfl, e⟩ ⟨rfl, hx⟩ hle
    obtain ⟨r, hr⟩ : ∃ r, l[i]? = some r := ⟨_, List.getElem?_eq_getElem (by omega)⟩
    refine hs i x r D acc H'' hx hr I' _ _ (fun H4 hp I4 => lcY s I4 hle ⟨rfl, rfl, ?_⟩) fun H3 hp I3 => lcN s I3 hle ⟨rfl, rfl, ?_⟩
    · rw [take_snocI hr, List.filter_append, List.map_append, e, List.filter_cons, if_pos hp]
      rfl
    · rw [take_snocI hr, List.filter_append, List.map_append, e, List.filter_cons, if_neg (by rw [hp]; exact Bool.false_ne_true)]
      simp
  · rintro acc B' M' D H' s I' ⟨rfl, rfl, rfl⟩ _
    rw [← hl, List.take_length] at I'
    exact hd D H' I'
end
theorem filt_sum {α : Type} (p : α → Bool) (f : α → Int) : ∀ l : List α, ((l.filter p).map f).sum = (l.map fun x => if p x then f x else 0).sum
  | [] => rfl
  | x :: l => by
    have ih := filt_sum p f l
    by_cases h : p x = true
    · rw [List.filter_cons, if_pos h, List.map_cons, List.sum_cons, ih, List.map_cons, List.sum_cons, if_pos h]
    · rw [List.filter_cons, if_neg h, ih, List.map_cons, List.sum_cons, if_neg h, Int.zero_add]
theorem filt_len {α : Type} (p : α → Bool) : ∀ l : List α, ((l.filter p).length : Int) = (l.map fun x => if p x then 1 else 0).sum
  | [] => rfl
  | x :: l => by
    have ih := filt_len p l
    by_cases h : p x = true
    · rw [List.filter_cons, if_pos h, List.map_cons, List.sum_cons, if_pos h, List.length_cons, ← ih]
      omega
    · rw [List.filter_cons, if_neg h, ih, List.map_cons, List.sum_cons, if_neg h, Int.zero_add]
end Bz
namespace Bz
open PySem PySem.Spec PyProof.Rows L2
/-! own special methods: ==, != of an instance with an own __eq__; len -/
theorem guards_in1 (A : Around) : A.in1.guards = A.guards := rfl
section
variable {X : Cx} {CX : CXT} {pins : List (Addr × Obj)} {σ : L2.St} {H : Hp} {s : Shared} {a C dx f : Addr} {fs : List (Str × V)} {k : Nat} {sp : Sp} {E : XK} {fd : FuncData} {ps : List Str} {gV : List V → List V → List V} {g : List Value → List Value → List Value} {ks : List Str}
/-- the callee runs below the running body -/
theorem run_gA {A : Around} {Q : VK} {us : List Value} {vs : List V} {n : Nat} (F : FnG X.prog X.w X.K X.mg X.base CX k f fd ps sp) (hr : Room k A) (hg : A.guards = some []) (e0 : Env0 X.prog X.w X.K X.mg X.base A X.stack s H) (hb : KBn X.K fd ps n [] g gV) (hx : Passes CX X E)
    (I : Inv X pins σ H s) (r : Vals vs us) (l1 : vs.length = n) (h : sp (gV vs []) H Q E) : wpAny (model X.prog X.w) A (call (.ref f) us) (EP X pins σ Q) X.xe s := by
  refine wpAny_call (codeAny_mono (F.go A X.stack s H ⟨us, []⟩ (g us []) (gV vs []) Q E hr hg e0 (hb.to s us [] I.kIn (r.length.symm.trans l1) rfl) (hb.rel r .nil) h) ?_)
  intro r s' z
  cases r with
  | error e => exact hx pins σ H s e s' I z
  | ok fl =>
    cases fl with
    | ret u => exact I.after z
    | next => exact False.elim z
    | brk => exact False.elim z
    | cont => exact False.elim z
theorem looks_ty {x : V} {u t : Value} (I : Inv X pins σ H s) (rx : RelV x u) (ty : TyOf X.K H x t) {M : Model} : PySem.W.Looks M s.heap (typeOf u) t := by
  cases ty with
  | non => cases (show u = Value.none from rx); exact PySem.W.kitx_none.ty _ _ I.kIn True.intro
  | bl y => cases (show u = Value.bool y from rx); exact PySem.W.kitx_bool.ty _ _ I.kIn True.intro
  | int i => obtain ⟨t, q⟩ := (show ∃ t, u = Value.int i t from rx); cases q; exact PySem.W.kitx_int.ty _ _ I.kIn True.intro
  | str y => obtain ⟨t, q⟩ := (show ∃ t, u = Value.str y t from rx); cases q; exact PySem.W.kitx_str.ty _ _ I.kIn True.intro
  | flt y => obtain ⟨t, q⟩ := (show ∃ t, u = Value.float y t from rx); cases q; exact PySem.W.kitx_float.ty _ _ I.kIn True.intro
  | @lst a xs ea =>
    cases (show u = Value.ref a from rx)
    obtain ⟨_, _, n, _, h1⟩ := (show ObjOk X.prog X.w H s.heap a (.lst xs) from I.hok a _ ea)
    exact PySem.W.kitx_list.ty _ _ I.kIn ⟨_, h1, rfl⟩
  | @frz a ob xs ea =>
    cases (show u = Value.ref a from rx)
    obtain ⟨_, _, _, n, _, h1⟩ := (show ObjOk X.prog X.w H s.heap a (.frz ob (.lst xs)) from I.hok a _ ea)
    exact PySem.W.kitx_list.ty _ _ I.kIn ⟨_, h1, rfl⟩
  | @tup a xs ea =>
    cases (show u = Value.ref a from rx)
    obtain ⟨_, _, _, p⟩ := (show ObjOk X.prog X.w H s.heap a (.tup xs) from I.hok a _ ea)
    obtain ⟨o, h1, h2, _⟩ := p
    exact PySem.W.kitx_tuple.ty _ _ I.kIn ⟨o, h1, h2⟩
  | @dK a kvs ea =>
    cases (show u = Value.ref a from rx)
    obtain ⟨_, _, vs, _, p⟩ := (show ObjOk X.prog X.w H s.heap a (.dK kvs) from I.hok a _ ea)
    obtain ⟨o, es, ep, h1, h2, _⟩ := p
    exact PySem.W.kitx_dict.ty _ _ I.kIn ⟨o, h1, h2.1⟩
  | @dT a kvs ea =>
    cases (show u = Value.ref a from rx)
    obtain ⟨_, _, xs, _, o, es, ep, h1, h2, _⟩ := (show ObjOk X.prog X.w H s.heap a (.dT kvs) from I.hok a _ ea)
    exact PySem.W.kitx_dict.ty _ _ I.kIn ⟨o, h1, h2.1⟩
  | @ins a C dx fs ea cl ha hn htk hm =>
    cases (show u = Value.ref a from rx)
    obtain ⟨mA, O, _⟩ := ins_get I.hok ea
    obtain ⟨od, J, _⟩ := O.look
    exact (PySem.W.kitx_own (cl.get _) cl.hd ha hn htk hm).ty _ _ I.kIn J
/-- what == of the class's instances asks: one of them at x, y of the type t that is not looked at first -/
def rOwnEq (K : PySem.W.Frag) (C : Addr) (sp : Sp) (gV : List V → List V → List V) (E : XK) : R2 := fun x y H Q => ∃ a dx fs t, x = .ref a ∧ H a = some (.ins C dx fs) ∧ TyOf K H y t ∧ PySem.W.notFirst K C t = true ∧ sp (gV [x, y] []) H Q E
theorem op_ownEq (c : MethOk X.prog X.w X.K X.mg X.base CX k C "__eq__" 1 [] sp gV) {k' : Nat} (hr : Room k' X.A) (hk : k ≤ k') (hg : X.A.guards = some []) (hx : Passes CX X E) : OpR X (compareOp .Eq) (rOwnEq X.K C sp gV E) := by
  obtain ⟨⟨f, fd, ps, g, hm, F, kb⟩, cl⟩ := c
  intro pins s σ H x y v u Q I rx ry h
  obtain ⟨a, dx, fs, t, rfl, ha, ty, hn, q⟩ := h
  cases (show v = Value.ref a from rx)
  obtain ⟨mA, O, _⟩ := ins_get I.hok ha
  obtain ⟨od, J, _⟩ := O.look
  obtain ⟨m, hF⟩ := I.fr
  show wpAny _ _ (richCompare .Eq (.ref a) u) _ _ _
  refine PySem.W.cmp_K (op := .Eq) (tb := t) hr.units0 hF I.ok.mod.kin J (looks_ty I ry ty) hn hm.at_ hm.fn ?_
  refine wpAny_mono (run_gA (us := [.ref a, u]) (vs := [.ref a, y]) F (hr.mono hk) hg I.env0 kb hx I (.cons rfl (.cons ry .nil)) rfl q) (fun w s' z => ?_) fun _ _ x => x
  obtain ⟨z', H', I', rz, qz⟩ := z
  exact SlX.cmpback rz ⟨z', H', I', rz, qz⟩
theorem ifBound_B {M : Model} {A : Around} {E : Value → Shared → Prop} {x : Addr} {ox : Obj} {od : Option Obj} {name : Str} {id B : String} {args : List Value} {Q : Option Value → Shared → Prop} {K : PySem.W.Frag} (XK : K.In s.heap) (I : PySem.W.InstAt s.heap x ox C od)
    (hs : PySem.W.findIn K (.ref C) name = some (some (.builtin id))) (S : Slot B name id) (h : wpAny M A (call (.builtin id) (.ref x :: args)) (fun v => Q (some v)) E s) : wpAny M A (callSpecialIfBound? (.ref x) name args) Q E s := by
  simp only [callSpecialIfBound?, bindSpecialIfBound?]
  refine wpAny_holding (wpAny_bind (wpAny_bind (wpAny_bind (I.type.here ((PySem.W.looks_findIn XK hs).here ?_)))))
  simp only [S.bind]
  refine wpAny_bind (wpAny_askSetting (wpAny_ite ?_))
  have fin : wpAny M A (call (.builtin id) ([.ref x] ++ args) >>= fun v => pure (some v)) Q E s := wpAny_bind (wpAny_mono h (fun v s' h' => wpAny_pure h') fun _ _ h' => h')
  split
  · exact wpAny_bind (wpAny_pure (wpAny_pure fin))
  · exact wpAny_tryCatch (wpAny_bind (wpAny_pure (wpAny_pure fin)))
/-- what != asks of the class: object's -/
structure OwnC (K : PySem.W.Frag) (C : Addr) : Prop where
  ne : PySem.W.findIn K (.ref C) "__ne__" = some (some (.builtin "object.__ne__"))
  ob : PySem.W.subIn K (.ref C) (.type "object") = some true
def rOwnNe (K : PySem.W.Frag) (C : Addr) (sp : Sp) (gV : List V → List V → List V) (E : XK) : R2 := fun x y H Q => ∃ a dx fs t, x = .ref a ∧ H a = some (.ins C dx fs) ∧ TyOf K H y t ∧ PySem.W.notFirst K C t = true ∧ sp (gV [x, y] []) H (fun v H' => ∃ b, v = .bl b ∧ Q (.bl (!b)) H') E
theorem op_ownNe (c : MethOk X.prog X.w X.K X.mg X.base CX k C "__eq__" 1 [] sp gV) (oc : OwnC X.K C) {k' : Nat} (hr : Room (k' + 1) X.A) (hk : k ≤ k') (hg : X.A.guards = some []) (hx : Passes CX X E) : OpR X (compareOp .NotEq) (rOwnNe X.K C sp gV E) := by
  obtain ⟨⟨f, fd, ps, g, hm, G, kb⟩, cl⟩ := c
  intro pins s σ H x y v u Q I rx ry h
  obtain ⟨a, dx, fs, t, rfl, ha, ty, hn, q⟩ := h
  cases (show v = Value.ref a from rx)
  obtain ⟨mA, O, _⟩ := ins_get I.hok ha
  obtain ⟨od, J, _⟩ := O.look
  have KX := I.kIn
  -- the call of object.__ne__
  have one : wpAny (model X.prog X.w) X.A (tryCompare (.ref a) "__ne__" u) (fun r s' => ∃ b H', r = some (Value.bool b) ∧ Inv X pins σ H' s' ∧ Q (.bl b) H') X.xe s := by
    unfold tryCompare
    refine wpAny_bind (ifBound_B KX J oc.ne F.cmp_object.ne (wpAny_call (codeAny_call_builtin F.cmp_object.ne.plain F.cmpEntry_ne ?_)))
    refine PySem.W.check_slot F.cmpKind_ne F.cmpSplit_ne (J.type.andThen (PySem.W.looks_subIn KX oc.ob)) (F.cmpArgs_ne _ _) ?_
    unfold Builtin.«object.__ne__»
    refine wpAny_bind (wpAny_of_eq (a := ((Value.ref a : Value), [u])) (by first | rfl | (simp only [slotArgs]; rfl)) ?_)
    refine wpAny_bind (wpAny_cRoomFor (Room.in1 hr).units0 ?_)
    refine wpAny_bind (PySem.W.ifBound_K KX J hm.at_ hm.fn (wpAny_mono (run_gA (A := X.A.in1) (us := [.ref a, u]) (vs := [.ref a, y]) G ((Room.in1 hr).mono hk) hg I.env0.in1 kb hx I (.cons rfl (.cons ry .nil)) rfl q) (fun w s' z => ?_) fun e s' z => z))
    obtain ⟨z', H', I', rz, b, eb, qz⟩ := z
    subst eb
    cases (show w = Value.bool b from rz)
    refine wpAny_bind (wpAny_truthy_bool ?_)
    exact wpAny_pure (wpAny_pure ⟨!b, H', rfl, I', qz⟩)
  show wpAny _ _ (richCompare .NotEq (.ref a) u) _ _ _
  unfold richCompare
  simp only [oneThing_ref]
  refine wpAny_holding (wpAny_bind (wpAny_cRoomFor hr.units0 ?_))
  refine wpAny_bind (J.type.here (wpAny_bind ((looks_ty I ry ty).here ?_)))
  split
  · rename_i q
    have e : PySem.W.subIn X.K t (.ref C) = some false := by
      rcases Bool.or_eq_true_iff.mp hn with e | e
      · rw [beq_iff_eq.mp e] at q; simp at q
      · exact beq_iff_eq.mp e
    refine wpAny_bind ((PySem.W.looks_subIn KX e).here ?_)
    simp only [Bool.false_eq_true, if_false]
    refine wpAny_bind (wpAny_mono one (fun r s' z => ?_) fun _ _ e => e)
    obtain ⟨b, H', rfl, I', qz⟩ := z
    exact wpAny_pure ⟨.bl b, H', I', rfl, qz⟩
  · refine wpAny_bind (wpAny_pure ?_)
    simp only [Bool.false_eq_true, if_false]
    refine wpAny_bind (wpAny_mono one (fun r s' z => ?_) fun _ _ e => e)
    obtain ⟨b, H', rfl, I', qz⟩ := z
    exact wpAny_pure ⟨.bl b, H', I', rfl, qz⟩
/-- len(x) of an instance with an own __len__ -/
def rLenOwn (C : Addr) (sp : Sp) (gV : List V → List V → List V) (E : XK) : List V → Hp → VK → Prop := fun xs H Q => ∃ a dx fs, xs = [.ref a] ∧ H a = some (.ins C dx fs) ∧ sp (gV [.ref a] []) H (fun v H' => ∃ n : Int, v = .int n ∧ 0 ≤ n ∧ n < 2 ^ 62 ∧ Q (.int n) H') E
theorem cl_lenOwn (c : MethOk X.prog X.w X.K X.mg X.base CX k C "__len__" 0 [] sp gV) {k' : Nat} (hr : Room (k' + 1) X.A) (hk : k ≤ k') (hg : X.A.guards = some []) (hx : Passes CX X E) : CallR X (.builtin "len") (rLenOwn C sp gV E) := by
  obtain ⟨⟨f, fd, ps, g, hm, G, kb⟩, cl⟩ := c
  intro pins s σ H xs us Q I r h
  obtain ⟨a, dx, fs, rfl, ha, q⟩ := h
  rw [Vals.ref1 r]
  obtain ⟨mA, O, _⟩ := ins_get I.hok ha
  obtain ⟨od, J, _⟩ := O.look
  obtain ⟨m, hF⟩ := I.fr
  refine PySem.W.len_K hF I.ok.mod.kin J hm.at_ hm.fn (wpAny_mono (run_gA (A := X.A.in1) (us := [.ref a]) (vs := [.ref a]) G ((Room.in1 hr).mono hk) hg I.env0.in1 kb hx I (.cons rfl .nil) rfl q) (fun w s' z => ?_) fun e s' z => z)
  obtain ⟨z', H', I', rz, n, en, h0, h1, qz⟩ := z
  subst en
  obtain ⟨t, e⟩ := (show ∃ t, w = Value.int n t from rz)
  subst e
  exact ⟨⟨h0, by omega⟩, .int n, H', I'.tok _, ⟨_, rfl⟩, qz⟩
/-- str(x) of an instance with an own __str__ -/
def rStrOwn (C : Addr) (sp : Sp) (gV : List V → List V → List V) (E : XK) : List V → Hp → VK → Prop := fun xs H Q => ∃ a dx fs, xs = [.ref a] ∧ H a = some (.ins C dx fs) ∧ sp (gV [.ref a] []) H (fun v H' => ∃ z : Str, v = .str z ∧ Q (.str z) H') E
theorem strOf_own {prog : Program} {w : World} {A : Around} {E : Value → Shared → Prop} {x : Addr} {ox : Obj} {od : Option Obj} {K : PySem.W.Frag} {Q : Value → Shared → Prop} (hu : A.units < cLine) (XK : K.In s.heap) (I : PySem.W.InstAt s.heap x ox C od)
    (hs : PySem.W.findIn K (.ref C) "__str__" = some (some (.ref f))) (hf : PySem.W.isFn K (.ref f) = true) (h : wpAny (model prog w) A (call (.ref f) [.ref x]) (fun r s₁ => ∃ z t, r = Value.str z t ∧ Q r s₁) E s) : wpAny (model prog w) A (Builtin.Str.strOf (.ref x)) Q E s := by
  unfold Builtin.Str.strOf
  rw [if_neg (show ¬ Builtin.Str.isExactStr (.ref x) = true from Bool.false_ne_true)]
  refine wpAny_bind (wpAny_cRoomFor hu ?_)
  refine wpAny_bind (m := callSpecial? (.ref x) (Str.ofString "__str__")) (PySem.W.special_fn XK I hs (beq_iff_eq.mp hf) (wpAny_mono h (fun r s' hr => ?_) fun _ _ y => y))
  obtain ⟨z, t, rfl, hq⟩ := hr
  refine wpAny_bind (wpAny_pure ?_)
  exact wpAny_pure hq
theorem cl_strOwn (c : MethOk X.prog X.w X.K X.mg X.base CX k C "__str__" 0 [] sp gV) {k' : Nat} (hr : Room (k' + 2) X.A) (hk : k ≤ k') (hg : X.A.guards = some []) (hx : Passes CX X E) : CallR X (.type "str") (rStrOwn C sp gV E) := by
  obtain ⟨⟨f, fd, ps, g, hm, G, kb⟩, cl⟩ := c
  intro pins s σ H xs us Q I r h
  obtain ⟨a, dx, fs, rfl, ha, q⟩ := h
  rw [Vals.ref1 r]
  obtain ⟨mA, O, _⟩ := ins_get I.hok ha
  obtain ⟨od, J, _⟩ := O.look
  have hr1 : Room (k' + 1) X.A.in1 := Room.in1 hr
  have hr2 : Room k' X.A.in1.in1 := Room.in1 hr1
  refine callType_newIn F.called_str (by decide) (F.typeCall_str_1 _) (F.newCall_str_1 _) (fun obj => F.args_object_init_2 obj _) F.entry_str_new
    (S := fun A' R s' => A'.in1.units < cLine ∧ X.K.In s'.heap ∧ PySem.W.InstAt s'.heap a (PySem.W.instObj C dx) C (some od) ∧ wpAny (model X.prog X.w) A'.in1 (call (.ref f) [.ref a]) (fun r s₁ => ∃ z t, r = Value.str z t ∧ R (.ok (.ret r)) s₁) (fun e s₁ => R (.error e) s₁) s') ?_ ?_
  · refine MeetsIn.of_wp fun A' R s' h => ?_
    obtain ⟨hu, hK, hJ, h⟩ := h
    rw [str_new_tree]
    refine wpAny_bind (wpAny_pure ?_)
    refine wpAny_bind (wpAny_of_eq isSubtype_str_str ?_)
    exact wpAny_bind (wpAny_mono (strOf_own (A := A'.in1) (Q := fun r s₁ => R (.ok (.ret r)) s₁) hu hK hJ hm.at_ hm.fn h) (fun r s' h' => wpAny_pure ⟨_, rfl, h'⟩) fun _ _ e => e)
  · refine ⟨hr2.units0, I.kIn, J, wpAny_mono (run_gA (A := X.A.in1.in1) (us := [.ref a]) (vs := [.ref a]) G (hr2.mono hk) hg I.env0.in1.in1 kb hx I (.cons rfl .nil) rfl q) (fun w s' z => ?_) fun e s' z => z⟩
    obtain ⟨z', H', I', rz, zs, ez, qz⟩ := z
    subst ez
    obtain ⟨t, e⟩ := (show ∃ t, w = Value.str zs t from rz)
    subst e
    exact ⟨zs, t, rfl, typeIs_str _ _ _, .str zs, H', I', ⟨_, rfl⟩, qz⟩
theorem truthy_own {prog : Program} {w : World} {A : Around} {E : Value → Shared → Prop} {x : Addr} {ox : Obj} {od : Option Obj} {K : PySem.W.Frag} {Q : Bool → Shared → Prop} (XK : K.In s.heap) (I : PySem.W.InstAt s.heap x ox C od) (hb : PySem.W.findIn K (.ref C) "__bool__" = some none)
    (hs : PySem.W.findIn K (.ref C) "__len__" = some (some (.ref f))) (hf : PySem.W.isFn K (.ref f) = true) (h : wpAny (model prog w) A.in1 (call (.ref f) [.ref x]) (fun r s₁ => ∃ n t, r = Value.int n t ∧ 0 ≤ n ∧ n < 2 ^ 62 ∧ ∀ tk, Q (n != 0) { s₁ with toks := tk }) E s) : wpAny (model prog w) A (truthy (.ref x)) Q E s := by
  have key : wpAny (model prog w) A (runValue (.builtin "len" ⟨[.ref x], []⟩)) (fun r s' => ∃ n t, r = .int n t ∧ Q (n != 0) s') E s := by
    refine wpAny_runValue (codeAny_builtin entry_len ?_)
    rw [Around.under_plainId plain_len _]
    unfold Builtin.«len»
    refine wpAny_bind (m := oneArg "len" _) (wpAny_pure ?_)
    refine wpAny_bind (m := callSpecial? (.ref x) (Str.ofString "__len__")) (PySem.W.special_fn XK I hs (beq_iff_eq.mp hf) (wpAny_mono h (fun r s' hr => ?_) fun _ _ y => y))
    obtain ⟨n, t, rfl, h0, h1, hq⟩ := hr
    refine wpAny_bind (wpAny_holding (wpAny_pure ?_))
    refine wpAny_bind (wpAny_letGo ?_)
    show wpAny _ _ (if n < 0 then _ else _) _ _ _
    rw [if_neg (by omega)]
    show wpAny _ _ (if n ≥ 2 ^ 63 then _ else _) _ _ _
    rw [if_neg (by omega)]
    exact wpAny_bind (wpAny_mkInt (wpAny_pure ⟨n, _, rfl, hq _⟩))
  unfold truthy
  refine wpAny_bind (m := callSpecial? (.ref x) (Str.ofString "__bool__")) (wpAny_bind (wpAny_bind (I.type.here ((PySem.W.looks_findIn XK hb).here (wpAny_pure ?_)))))
  refine wpAny_bind (wpAny_bind (I.type.here ((PySem.W.looks_findIn XK hs).here ?_)))
  refine wpAny_bind (wpAny_mono key (fun r s' hr => ?_) fun _ _ y => y)
  obtain ⟨n, t, rfl, hq⟩ := hr
  exact wpAny_pure hq
/-- bool(x) of an instance with an own __len__, without __bool__ -/
def rBoolOwn (C : Addr) (sp : Sp) (gV : List V → List V → List V) (E : XK) : List V → Hp → VK → Prop := fun xs H Q => ∃ a dx fs, xs = [.ref a] ∧ H a = some (.ins C dx fs) ∧ sp (gV [.ref a] []) H (fun v H' => ∃ n : Int, v = .int n ∧ 0 ≤ n ∧ n < 2 ^ 62 ∧ Q (.bl (n != 0)) H') E
theorem cl_boolOwn (c : MethOk X.prog X.w X.K X.mg X.base CX k C "__len__" 0 [] sp gV) (hb : PySem.W.findIn X.K (.ref C) "__bool__" = some none) {k' : Nat} (hr : Room (k' + 3) X.A) (hk : k ≤ k') (hg : X.A.guards = some []) (hx : Passes CX X E) : CallR X (.type "bool") (rBoolOwn C sp gV E) := by
  obtain ⟨⟨f, fd, ps, g, hm, G, kb⟩, cl⟩ := c
  intro pins s σ H xs us Q I r h
  obtain ⟨a, dx, fs, rfl, ha, q⟩ := h
  rw [Vals.ref1 r]
  obtain ⟨mA, O, _⟩ := ins_get I.hok ha
  obtain ⟨od, J, _⟩ := O.look
  have hr1 : Room (k' + 2) X.A.in1 := Room.in1 hr
  have hr2 : Room (k' + 1) X.A.in1.in1 := Room.in1 hr1
  have hr3 : Room k' X.A.in1.in1.in1 := Room.in1 hr2
  refine callType_newIn F.called_bool F.newNe_bool (F.typeCall_bool_1 _) (F.newCall_bool_1 _) (fun obj => F.args_object_init_2 obj _) F.entry_bool_new
    (S := fun A' R s' => X.K.In s'.heap ∧ PySem.W.InstAt s'.heap a (PySem.W.instObj C dx) C (some od) ∧ wpAny (model X.prog X.w) A'.in1.in1 (call (.ref f) [.ref a]) (fun r s₁ => ∃ n t, r = Value.int n t ∧ 0 ≤ n ∧ n < 2 ^ 62 ∧ ∀ tk, R (.ok (.ret (.bool (n != 0)))) { s₁ with toks := tk }) (fun e s₁ => R (.error e) s₁) s') ?_ ?_
  · refine MeetsIn.of_wp fun A' R s' h => ?_
    obtain ⟨hK, hJ, h⟩ := h
    have ht : wpAny (model X.prog X.w) A'.in1 (truthy (.ref a)) (fun b s₁ => R (.ok (.ret (.bool b))) s₁) (fun e s₁ => R (.error e) s₁) s' := truthy_own hK hJ hb hm.at_ hm.fn h
    unfold Builtin.«bool.__new__»
    refine wpAny_bind (wpAny_pure ?_)
    refine wpAny_bind (wpAny_of_eq F.conv_sub_bool ?_)
    refine wpAny_bind (wpAny_pure ?_)
    exact wpAny_bind (wpAny_mono ht (fun b s₁ z => wpAny_pure ⟨_, rfl, z⟩) fun _ _ z => z)
  · refine ⟨I.kIn, J, wpAny_mono (run_gA (A := X.A.in1.in1.in1) (us := [.ref a]) (vs := [.ref a]) G (hr3.mono hk) hg I.env0.in1.in1.in1 kb hx I (.cons rfl .nil) rfl q) (fun w s' z => ?_) fun e s' z => z⟩
    obtain ⟨z', H', I', rz, n, en, h0, h1, qz⟩ := z
    subst en
    obtain ⟨t, e⟩ := (show ∃ t, w = Value.int n t from rz)
    subst e
    exact ⟨n, t, rfl, h0, h1, fun tk => ⟨PySem.typeIs_bool _ _, .bl (n != 0), H', I'.tok _, rfl, qz⟩⟩
end
end Bz
namespace Bz
open PySem PySem.Spec PyProof.Rows L2
/-! odd == x, x an instance with an own __eq__, odd none -/
section
variable {prog : Program} {w : World} {A : Around} {E : Value → Shared → Prop} {s : Shared} {K : PySem.W.Frag} {a C : Addr} {ox : Obj} {od : Option Obj} {Q : Value → Shared → Prop}
theorem not_sub {T : String} (XK : K.In s.heap) (J : PySem.W.InstAt s.heap a ox C od) (h : PySem.W.subIn K (.ref C) (.type T) = some false) {M : Model} : PySem.W.Looks M s.heap (isInstance (.ref a) (.type T)) false := J.type.andThen (PySem.W.looks_subIn XK h)
theorem dec_none (h : Q .notImplemented s) : wpAny (model prog w) A (call (.builtin "NoneType.__eq__") [.none, .ref a]) Q E s := by
  refine wpAny_call_entry (name := (cmpInfo .Eq).2.1) F.slot_NoneType_eq (typeIs_none s) F.entry_NoneType_eq ?_ (F.args_NoneType_eq_2 _ _)
  show wpAny _ _ (ret _) _ _ s
  exact wpAny_pure ⟨_, rfl, h⟩
theorem dec_list {l : Addr} (XK : K.In s.heap) (J : PySem.W.InstAt s.heap a ox C od) (hn : PySem.W.subIn K (.ref C) (.type "list") = some false) (hT : s.TypeIs (.ref l) "list") (h : Q .notImplemented s) : wpAny (model prog w) A (call (.builtin "list.__eq__") [.ref l, .ref a]) Q E s := by
  refine wpAny_call_entry (name := (cmpInfo .Eq).2.1) F.slot_list_eq hT F.entry_list_eq ?_ (F.args_list_eq_2 _ _)
  show wpAny _ _ (isInstance (.ref a) (.type "list") >>= _) _ _ s
  refine wpAny_bind ((not_sub XK J hn).here ?_)
  exact wpAny_pure ⟨_, rfl, h⟩
theorem dec_tuple {l : Addr} (XK : K.In s.heap) (J : PySem.W.InstAt s.heap a ox C od) (hn : PySem.W.subIn K (.ref C) (.type "tuple") = some false) (hT : s.TypeIs (.ref l) "tuple") (h : Q .notImplemented s) : wpAny (model prog w) A (call (.builtin "tuple.__eq__") [.ref l, .ref a]) Q E s := by
  refine wpAny_call_entry (name := (cmpInfo .Eq).2.1) F.slot_tuple_eq hT F.entry_tuple_eq ?_ (F.args_tuple_eq_2 _ _)
  show wpAny _ _ (isInstance (.ref a) (.type "tuple") >>= _) _ _ s
  refine wpAny_bind ((not_sub XK J hn).here ?_)
  exact wpAny_pure ⟨_, rfl, h⟩
theorem dec_dict {l : Addr} (XK : K.In s.heap) (J : PySem.W.InstAt s.heap a ox C od) (hn : PySem.W.subIn K (.ref C) (.type "dict") = some false) (hT : s.TypeIs (.ref l) "dict") (h : Q .notImplemented s) : wpAny (model prog w) A (call (.builtin "dict.__eq__") [.ref l, .ref a]) Q E s := by
  refine wpAny_call_entry (name := (cmpInfo .Eq).2.1) F.slot_dict_eq hT F.entry_dict_eq ?_ (F.args_dict_eq_2 _ _)
  show wpAny _ _ (Builtin.Dict.dictSlotArgs "__eq__" ⟨[.ref l, .ref a], []⟩ >>= _) _ _ s
  refine wpAny_bind (wpAny_of_eq (show Builtin.Dict.dictSlotArgs "__eq__" ⟨[.ref l, .ref a], []⟩ = pure (.ref l, .ref a) from by kernel_rfl) ?_)
  refine wpAny_bind ((not_sub XK J hn).here ?_)
  exact wpAny_bind (wpAny_rule (wpAny_pure ⟨_, rfl, h⟩))
theorem dec_int {i : Int} {t : Tok} {dx : Addr} (J : PySem.W.InstAt s.heap a (PySem.W.instObj C dx) C od) (h : Q .notImplemented s) : wpAny (model prog w) A (call (.builtin "int.__eq__") [.int i t, .ref a]) Q E s := by
  refine wpAny_call_entry (name := (cmpInfo .Eq).2.1) F.slot_int_eq (typeIs_int s i t) F.entry_int_eq ?_ (F.args_int_eq_2 _ _)
  show wpAny _ _ (asInt? (.ref a) >>= _) _ _ s
  refine wpAny_bind (wpAny_bind (wpAny_load J.at_ (wpAny_pure ?_)))
  exact wpAny_bind (wpAny_rule (wpAny_pure ⟨_, rfl, h⟩))
theorem dec_str {z : Str} {t : Tok} {dx : Addr} (J : PySem.W.InstAt s.heap a (PySem.W.instObj C dx) C od) (h : Q .notImplemented s) : wpAny (model prog w) A (call (.builtin "str.__eq__") [.str z t, .ref a]) Q E s := by
  refine wpAny_call_entry (name := (cmpInfo .Eq).2.1) F.slot_str_eq (typeIs_str s z t) F.entry_str_eq ?_ (F.args_str_eq_2 _ _)
  show wpAny _ _ (asStr? (.ref a) >>= _) _ _ s
  refine wpAny_bind (wpAny_bind (wpAny_load J.at_ (wpAny_pure ?_)))
  exact wpAny_bind (wpAny_rule (wpAny_pure ⟨_, rfl, h⟩))
end
section
variable {X : Cx} {CX : CXT} {pins : List (Addr × Obj)} {σ : L2.St} {H : Hp} {s : Shared} {a C dx f : Addr} {fs : List (Str × V)} {k : Nat} {sp : Sp} {E : XK} {gV : List V → List V → List V}
/-- what stands at the left: none, a number, a text, a list, a tuple, a dict -/
inductive Odd (K : PySem.W.Frag) (H : Hp) : V → String → Prop
  | non : Odd K H .non "NoneType"
  | int (i : Int) : Odd K H (.int i) "int"
  | str (z : Str) : Odd K H (.str z) "str"
  | lst {l : Addr} {xs : List V} (e : SqL K H l xs) : Odd K H (.ref l) "list"
  | tup {l : Addr} {xs : List V} (e : SqT K H l xs) : Odd K H (.ref l) "tuple"
  | dK {l : Addr} {kvs : List (Key × V)} (e : H l = some (.dK kvs)) : Odd K H (.ref l) "dict"
/-- the class is none of the built-in ones -/
structure NoB (K : PySem.W.Frag) (C : Addr) : Prop where
  no : PySem.W.subIn K (.ref C) (.type "NoneType") = some false
  i : PySem.W.subIn K (.ref C) (.type "int") = some false
  s : PySem.W.subIn K (.ref C) (.type "str") = some false
  l : PySem.W.subIn K (.ref C) (.type "list") = some false
  t : PySem.W.subIn K (.ref C) (.type "tuple") = some false
  d : PySem.W.subIn K (.ref C) (.type "dict") = some false
theorem richCompare_decl {T id : String} {u : Value} {Q : Value → Shared → Prop} {ox : Obj} {od : Option Obj} (hu : X.A.units < cLine) (XK : X.K.In s.heap) (J : PySem.W.InstAt s.heap a ox C od) (hT : s.TypeIs u T) (S : Slot T (cmpInfo .Eq).2.1 id) (hn : PySem.W.subIn X.K (.ref C) (.type T) = some false)
    (hs : PySem.W.findIn X.K (.ref C) "__eq__" = some (some (.ref f))) (hf : PySem.W.isFn X.K (.ref f) = true)
    (hd : ∀ Q' : Value → Shared → Prop, Q' .notImplemented s → wpAny (model X.prog X.w) X.A (call (.builtin id) [u, .ref a]) Q' X.xe s)
    (h : wpAny (model X.prog X.w) X.A (call (.ref f) [.ref a, u]) (PySem.W.CmpBack Q) X.xe s) : wpAny (model X.prog X.w) X.A (richCompare .Eq u (.ref a)) Q X.xe s := by
  have one : wpAny (model X.prog X.w) X.A (tryCompare (.ref a) "__eq__" u) (fun r s' => ∃ v, r = some v ∧ Q v s') X.xe s := by
    unfold tryCompare
    refine wpAny_bind (PySem.W.ifBound_K XK J hs hf (wpAny_mono h (fun v s' hv => ?_) fun _ _ e => e))
    cases v <;> first | exact hv.elim | exact wpAny_pure ⟨_, rfl, hv⟩
  unfold richCompare
  simp only [hT.oneThing_none]
  refine wpAny_holding (wpAny_bind (wpAny_cRoomFor hu ?_))
  refine wpAny_bind (wpAny_typeOf hT (wpAny_bind (J.type.here ?_)))
  rw [if_pos (show (Value.type T != Value.ref C) = true from rfl)]
  refine wpAny_bind ((PySem.W.looks_subIn XK hn).here ?_)
  simp only [Bool.false_eq_true, if_false]
  refine wpAny_bind (m := tryCompare u _ (.ref a)) (wpAny_tryCompare_declines hT S (hd _ ⟨rfl, ?_⟩))
  simp only [Bool.not_false, if_true]
  refine wpAny_bind (wpAny_mono one (fun r s' z => ?_) fun _ _ e => e)
  obtain ⟨v, rfl, hq⟩ := z
  exact wpAny_pure hq
def rOddEq (K : PySem.W.Frag) (C : Addr) (sp : Sp) (gV : List V → List V → List V) (E : XK) : R2 := fun x y H Q => ∃ a dx fs T, y = .ref a ∧ H a = some (.ins C dx fs) ∧ Odd K H x T ∧ sp (gV [y, x] []) H Q E
theorem op_oddEq (c : MethOk X.prog X.w X.K X.mg X.base CX k C "__eq__" 1 [] sp gV) (nb : NoB X.K C) {k' : Nat} (hr : Room k' X.A) (hk : k ≤ k') (hg : X.A.guards = some []) (hx : Passes CX X E) : OpR X (compareOp .Eq) (rOddEq X.K C sp gV E) := by
  obtain ⟨⟨f, fd, ps, g, hm, G, kb⟩, cl⟩ := c
  intro pins s σ H x y v u Q I rx ry h
  obtain ⟨a, dx, fs, T, rfl, ha, odd, q⟩ := h
  cases (show u = Value.ref a from ry)
  obtain ⟨mA, O, _⟩ := ins_get I.hok ha
  obtain ⟨od, J, _⟩ := O.look
  have fin : wpAny (model X.prog X.w) X.A (call (.ref f) [.ref a, v]) (PySem.W.CmpBack (EP X pins σ Q)) X.xe s := by
    refine wpAny_mono (run_gA (us := [.ref a, v]) (vs := [.ref a, x]) G (hr.mono hk) hg I.env0 kb hx I (.cons rfl (.cons rx .nil)) rfl q) (fun w s' z => ?_) fun _ _ x => x
    obtain ⟨z', H', I', rz, qz⟩ := z
    exact SlX.cmpback rz ⟨z', H', I', rz, qz⟩
  show wpAny _ _ (richCompare .Eq v (.ref a)) _ _ _
  cases odd with
  | non =>
    cases (show v = Value.none from rx)
    exact richCompare_decl hr.units0 I.kIn J (typeIs_none s) F.slot_NoneType_eq nb.no hm.at_ hm.fn (fun Q' z => dec_none z) fin
  | int i =>
    obtain ⟨t, e⟩ := (show ∃ t, v = Value.int i t from rx)
    subst e
    exact richCompare_decl hr.units0 I.kIn J (typeIs_int s i t) F.slot_int_eq nb.i hm.at_ hm.fn (fun Q' z => dec_int J z) fin
  | str zz =>
    obtain ⟨t, e⟩ := (show ∃ t, v = Value.str zz t from rx)
    subst e
    exact richCompare_decl hr.units0 I.kIn J (typeIs_str s zz t) F.slot_str_eq nb.s hm.at_ hm.fn (fun Q' z => dec_str J z) fin
  | @lst l xs e =>
    cases (show v = Value.ref l from rx)
    obtain ⟨its, rv, p, _⟩ := I.list e
    have hT := p.isList.typeIs
    exact richCompare_decl hr.units0 I.kIn J hT F.slot_list_eq nb.l hm.at_ hm.fn (fun Q' z => dec_list I.kIn J nb.l hT z) fin
  | @tup l xs e =>
    cases (show v = Value.ref l from rx)
    obtain ⟨its, rv, p, _⟩ := I.tuple e
    have hT : s.TypeIs (.ref l) "tuple" := by obtain ⟨o, h1, h2, _⟩ := p; exact ⟨o, h1, h2⟩
    exact richCompare_decl hr.units0 I.kIn J hT F.slot_tuple_eq nb.t hm.at_ hm.fn (fun Q' z => dec_tuple I.kIn J nb.t hT z) fin
  | @dK l kvs e =>
    cases (show v = Value.ref l from rx)
    obtain ⟨_, _, vs, _, p⟩ := (show ObjOk X.prog X.w H s.heap l (.dK kvs) from I.hok l _ e)
    obtain ⟨o, es, ep, h1, h2, _⟩ := p
    have hT : s.TypeIs (.ref l) "dict" := ⟨o, h1, h2.1⟩
    exact richCompare_decl hr.units0 I.kIn J hT F.slot_dict_eq nb.d hm.at_ hm.fn (fun Q' z => dec_dict I.kIn J nb.d hT z) fin
end
end Bz
namespace Bz
open PySem PySem.Spec PyProof.Rows L2
/-! x in [y], y an instance with an own __eq__ -/
section
variable {prog : Program} {w : World} {A : Around} {E : Value → Shared → Prop} {s : Shared}
theorem in_meetsIn {T id : String} {B : Builtin} {c x : Value} {S : PySem.Spec} {Q : Value → Shared → Prop} (hT : s.TypeIs c T) (slot : Slot T "__contains__" id)
    (entry : entryFor table id = some B) (args : argsOk id ⟨[c, x], []⟩) (g : MeetsIn prog w (B ⟨[c, x], []⟩) S)
    (h : S A (wants (fun v s' => ∃ b, v = .bool b ∧ Q (.bool b) s') E) s) : wpAny (model prog w) A (compareOp .In x c) Q E s := by
  show wpAny _ A (do return .bool (← contains c x)) Q E s
  refine wpAny_bind (wpAny_contains_slot hT slot (wpAny_mono (call_meetsIn slot hT entry args g h) (fun v s' hv => ?_) fun _ _ e => e))
  obtain ⟨b, rfl, hq⟩ := hv
  exact wpAny_truthy_bool (wpAny_pure hq)
def OneL (l : Addr) (y : Value) (h : Heap) : Prop := ∃ n, h.get? l = some { cls := .type "list", dict := none, data := .seq #[y] n, slots := #[] }
theorem items_one {M : Model} {l : Addr} {y : Value} (hl : OneL l y s.heap) : wpAny M A (Builtin.List.listItems (.ref l)) (fun r s' => r = #[y] ∧ s' = s) E s := by
  obtain ⟨n, hl⟩ := hl
  obtain ⟨hp, g, d, tk, os⟩ := s
  wp_walk using AutoSeq1.wpAny_loadPart' hl
  exact ⟨rfl, rfl⟩
theorem contains_one (l : Addr) (x y : Value) : MeetsIn prog w (Builtin.«list.__contains__» ⟨[.ref l, x], []⟩) (fun A R s => OneL l y s.heap ∧
    wpAny (model prog w) A.in1 (eqBool y x) (fun b s₁ => (b = true → R (.ok (.ret (.bool true))) s₁) ∧ (b = false → OneL l y s₁.heap ∧ R (.ok (.ret (.bool false))) s₁)) (fun e s₁ => R (.error e) s₁) s) := by
  intro A R s h
  obtain ⟨hl, h⟩ := h
  show wpAny _ _ (again _) _ _ s
  refine wpAny_pure ⟨plainId_quiet MeetsSeq.plain_contains_loop _, codeAny_builtin MeetsSeq.entry_contains_loop ?_⟩
  rw [Around.under_plainId MeetsSeq.plain_contains_loop _]
  show wpAny _ _ (Builtin.List.listItems (.ref l) >>= _) _ _ s
  refine wpAny_bind (wpAny_mono (items_one hl) (fun r s' hr => ?_) fun _ _ e => e)
  obtain ⟨rfl, rfl⟩ := hr
  show wpAny _ _ (eqBool y x >>= _) _ _ _
  refine wpAny_bind (wpAny_mono h (fun b s₁ hb => ?_) fun _ _ e => e)
  cases b with
  | true =>
    rw [if_pos rfl]
    exact wpAny_pure (hb.1 rfl)
  | false =>
    rw [if_neg Bool.false_ne_true]
    obtain ⟨hl', hr⟩ := hb.2 rfl
    show wpAny _ _ (again _) _ _ _
    refine wpAny_pure ⟨plainId_quiet MeetsSeq.plain_contains_loop _, codeAny_builtin MeetsSeq.entry_contains_loop ?_⟩
    rw [Around.under_plainId MeetsSeq.plain_contains_loop _]
    show wpAny _ _ (Builtin.List.listItems (.ref l) >>= _) _ _ _
    refine wpAny_bind (wpAny_mono (items_one hl') (fun r s' hr' => ?_) fun _ _ e => e)
    obtain ⟨rfl, rfl⟩ := hr'
    exact wpAny_pure hr
end
section
variable {X : Cx} {CX : CXT} {pins : List (Addr × Obj)} {σ : L2.St} {H : Hp} {s : Shared} {k : Nat} {sp : Sp} {E : XK} {C : Addr} {gV : List V → List V → List V}
theorem oneL_of {l b : Addr} (I : Inv X pins σ H s) (e : H l = some (.lst [.ref b])) : OneL l (.ref b) s.heap := by
  obtain ⟨_, its, n, rv, h1⟩ := (show ObjOk X.prog X.w H s.heap l (.lst [.ref b]) from I.hok l _ e)
  cases rv with
  | cons r t =>
    cases t
    cases r
    exact ⟨n, h1⟩
/-- x in [y] -/
def rInOwn (K : PySem.W.Frag) (C : Addr) (sp : Sp) (gV : List V → List V → List V) (E : XK) : R2 := fun x y H Q => ∃ l b, y = .ref l ∧ H l = some (.lst [.ref b]) ∧
  ((x = .ref b ∧ Q (.bl true) H) ∨ ∃ a dx fs, x = .ref a ∧ a ≠ b ∧ H b = some (.ins C dx fs) ∧ (∃ dy gs, H a = some (.ins C dy gs)) ∧ sp (gV [.ref b, .ref a] []) H (fun v H' => ∃ r, v = .bl r ∧ H' l = some (.lst [.ref b]) ∧ Q (.bl r) H') E)
theorem op_inOwn (c : MethOk X.prog X.w X.K X.mg X.base CX k C "__eq__" 1 [] sp gV) {k' : Nat} (hr : Room (k' + 2) X.A) (hk : k ≤ k') (hg : X.A.guards = some []) (hx : Passes CX X E) : OpR X (compareOp .In) (rInOwn X.K C sp gV E) := by
  obtain ⟨⟨f, fd, ps, g, hm, G, kb⟩, cl⟩ := c
  intro pins s σ H x y v u Q I rx ry h
  obtain ⟨l, b, rfl, hl, h⟩ := h
  cases (show u = Value.ref l from ry)
  have h1 := oneL_of I hl
  have hT : s.TypeIs (.ref l) "list" := by obtain ⟨n, e⟩ := h1; exact ⟨_, e, rfl⟩
  have hr1 : Room (k' + 1) X.A.in1 := Room.in1 hr
  refine in_meetsIn hT F.slot_list_contains F.entry_list_contains (F.args_list_contains_2 _ _) (contains_one l v (.ref b)) ⟨h1, ?_⟩
  rcases h with ⟨rfl, q⟩ | ⟨a, dx, fs, rfl, hne, hb, ⟨dy, gs, ha⟩, q⟩
  · cases (show v = Value.ref b from rx)
    unfold eqBool
    refine wpAny_holding ?_
    rw [if_pos (show (Value.ref b == Value.ref b) = true from beq_self_eq_true _)]
    refine wpAny_bind (wpAny_rule (wpAny_pure ⟨fun _ => ?_, fun z => by cases z⟩))
    exact ⟨true, rfl, .bl true, H, I, rfl, q⟩
  · cases (show v = Value.ref a from rx)
    obtain ⟨mB, OB, _⟩ := ins_get I.hok hb
    obtain ⟨odB, JB, _⟩ := OB.look
    obtain ⟨mA, OA, _⟩ := ins_get I.hok ha
    obtain ⟨odA, JA, _⟩ := OA.look
    obtain ⟨m, hF⟩ := I.fr
    refine GQ.eqBool_refG (fun z => hne z.symm) ?_
    refine PySem.W.cmp_K (op := .Eq) (tb := .ref C) hr1.units0 hF I.ok.mod.kin JB JA.type (by simp [PySem.W.notFirst]) hm.at_ hm.fn ?_
    refine wpAny_mono (run_gA (A := X.A.in1) (us := [.ref b, .ref a]) (vs := [.ref b, .ref a]) G (hr1.mono (by omega)) hg I.env0.in1 kb hx I (.cons rfl (.cons rfl .nil)) rfl q) (fun w s' z => ?_) fun _ _ x => x
    obtain ⟨z', H', I', rz, r, er, hl', qz⟩ := z
    subst er
    cases (show w = Value.bool r from rz)
    refine ⟨r, rfl, fun e => ?_, fun e => ⟨oneL_of I' hl', ?_⟩⟩
    · subst e
      exact ⟨true, rfl, .bl true, H', I', rfl, qz⟩
    · subst e
      exact ⟨false, rfl, .bl false, H', I', rfl, qz⟩
end
end Bz
namespace Bz
open PySem PySem.Spec PyProof.Rows L2
/-! f-strings; what an own class is asked for ==, !=, in, len, str, bool, isinstance -/
def tFS (ts : List TE) : TE := fun σ H Q => tJs ts Str.empty σ H fun out H1 => Q (.str out) H1
section
variable {B : Hp} {M L L' : List (Addr × HO)} {σ : St} {H : Hp} {Q : VK} {te : TE} {QS : Str → Hp → Prop} {acc y : Str} {ts : List TE}
theorem g_fs (h : tJs ts Str.empty σ H fun out H1 => Q (.str out) H1) : tFS ts σ H Q := h
def aJs (ts : List TE) (acc : Str) (σ : St) (x : V) (H1 : Hp) (Q : Str → Hp → Prop) : Prop := ∃ y : Str, x = .str y ∧ (acc ++ y).length ≤ sizeLine ∧ tJs ts (acc ++ y) σ H1 Q
theorem g_jsC (h : te σ H fun x H1 => aJs ts acc σ x H1 QS) : tJs (te :: ts) acc σ H QS := h
theorem g_jsN (h : QS acc H) : tJs [] acc σ H QS := h
theorem g_aJs {n m : Nat} (h1 : Sh n acc) (h2 : Sh m y) (hn : n + m ≤ 100000) (h : Sh (n + m) (acc ++ y) → tJs ts (acc ++ y) σ H QS) : aJs ts acc σ (.str y) H QS :=
  ⟨y, rfl, Nat.le_trans (h1.add h2).1 (Nat.le_trans hn (by decide)), h (h1.add h2)⟩
def aFmt (x : V) (H1 : Hp) (Q : VK) : Prop := (∃ y : Str, x = .str y ∧ y.length ≤ sizeLine ∧ Q (.str y) H1) ∨ ∃ i : Int, x = .int i ∧ i.natAbs.log2 < 1920 ∧ Q (.str (toString i)) H1
theorem g_fmt (h : te σ H fun x H1 => aFmt x H1 Q) : tFmt te σ H Q := h
theorem g_aFmtS {n : Nat} (h : Sh n y) (hn : n ≤ 100000) (q : Q (.str y) H) : aFmt (.str y) H Q := .inl ⟨y, rfl, Nat.le_trans h.1 (Nat.le_trans hn (by decide)), q⟩
theorem g_aFmtI {i : Int} {k : Nat} (h0 : 0 ≤ i) (hk : 0 < k ∧ k ≤ 250) (h : i < (10 ^ k : Nat)) (q : Sh k (Str.ofString (toString i)) → Q (.str (Str.ofString (toString i))) H) : aFmt (.int i) H Q := by
  obtain ⟨j, e, l, q'⟩ := g_strI (H := H) (Q := Q) h0 hk h q
  cases e
  exact .inr ⟨i, rfl, l, q'⟩
theorem sh_empty : Sh 0 Str.empty := ⟨Nat.le_refl _, fun c hc => by cases hc⟩
theorem g_clear {l : Addr} {xs : List V} (I : Is B M L H) (hl : H l = some (.lst xs)) (u : Put l (.lst []) L L') (q : ∀ H', Is B M L' H' → Q .non H') : rClear (.ref l) [] H Q :=
  ⟨l, xs, rfl, rfl, hl, q _ (I.put u)⟩
end
def OTY : List String := ["NoneType", "int", "str", "list", "tuple", "dict"]
/-- all that is asked of an own class here -/
structure OwnD (K : PySem.W.Frag) (C : Addr) : Prop where
  own : OwnC K C
  nb : NoB K C
  nob : PySem.W.findIn K (.ref C) "__bool__" = some none
  c1 : PySem.W.findIn K (.ref C) "__class__" = some (some (.builtin "object.__class__"))
  c2 : PySem.W.specialIn K (.builtin "object.__class__") "__get__" = some (some (.builtin "getset_descriptor.__get__"))
  c3 : PySem.W.takesIn K (.builtin "object.__class__") = some true
  c4 : PySem.W.mroIn K C (.type "object") = some true
  k0 : PySem.W.kitOne K (.ref C) (.ref C) = some true
  k1 : ∀ T ∈ OTY, PySem.W.kitOne K (.type T) (.ref C) = some false
  n1 : ∀ T ∈ OTY, PySem.W.notFirst K C (.type T) = true
def ownB (K : PySem.W.Frag) (C : Addr) : Bool :=
  He.eqO (PySem.W.findIn K (.ref C) "__ne__") (some (some (.builtin "object.__ne__"))) && (decide (PySem.W.subIn K (.ref C) (.type "object") = some true) &&
  ((OTY.all fun T => decide (PySem.W.subIn K (.ref C) (.type T) = some false)) &&
  (He.eqO (PySem.W.findIn K (.ref C) "__bool__") (some none) &&
  (He.eqO (PySem.W.findIn K (.ref C) "__class__") (some (some (.builtin "object.__class__"))) &&
  (decide (PySem.W.specialIn K (.builtin "object.__class__") "__get__" = some (some (.builtin "getset_descriptor.__get__"))) &&
  (decide (PySem.W.takesIn K (.builtin "object.__class__") = some true) && (decide (PySem.W.mroIn K C (.type "object") = some true) &&
  (decide (PySem.W.kitOne K (.ref C) (.ref C) = some true) && ((OTY.all fun T => decide (PySem.W.kitOne K (.type T) (.ref C) = some false)) && OTY.all fun T => PySem.W.notFirst K C (.type T))))))))))
theorem ownB_ok {K : PySem.W.Frag} {C : Addr} (h : ownB K C = true) : OwnD K C := by
  unfold ownB at h
  simp only [Bool.and_eq_true] at h
  obtain ⟨a1, a2, a3, a4, a5, a6, a7, a8, a9, a10, a11⟩ := h
  have s := fun T hT => of_decide_eq_true (List.all_eq_true.mp a3 T hT)
  exact ⟨⟨He.eqO_ok a1, of_decide_eq_true a2⟩, ⟨s "NoneType" (by decide), s "int" (by decide), s "str" (by decide), s "list" (by decide), s "tuple" (by decide), s "dict" (by decide)⟩, He.eqO_ok a4, He.eqO_ok a5, of_decide_eq_true a6, of_decide_eq_true a7, of_decide_eq_true a8, of_decide_eq_true a9,
    fun T hT => of_decide_eq_true (List.all_eq_true.mp a10 T hT), fun T hT => List.all_eq_true.mp a11 T hT⟩
/-- a thing of a built-in kind -/
inductive Oth (K : PySem.W.Frag) (H : Hp) : V → String → Prop
  | non : Oth K H .non "NoneType"
  | int (i : Int) : Oth K H (.int i) "int"
  | str (z : Str) : Oth K H (.str z) "str"
  | lst {l : Addr} {xs : List V} (e : H l = some (.lst xs)) : Oth K H (.ref l) "list"
  | tup {l : Addr} {xs : List V} (e : H l = some (.tup xs)) : Oth K H (.ref l) "tuple"
  | dK {l : Addr} {kvs : List (Key × V)} (e : H l = some (.dK kvs)) : Oth K H (.ref l) "dict"
section
variable {K : PySem.W.Frag} {H H' : Hp} {x y : V} {T : String} {C a b dx dy : Addr} {fs gs : List (Str × V)} {Q : VK} {sp : Sp} {gV : List V → List V → List V} {E : XK}
theorem Oth.same (s : Same H H') (o : Oth K H x T) : Oth K H' x T := by
  cases o with
  | non => exact .non
  | int i => exact .int i
  | str z => exact .str z
  | lst e => exact .lst (s _ _ e)
  | tup e => exact .tup (s _ _ e)
  | dK e => exact .dK (s _ _ e)
theorem Oth.mem (o : Oth K H x T) : T ∈ OTY := by cases o <;> decide
theorem Oth.ty (o : Oth K H x T) : TyOf K H x (.type T) := by
  cases o with
  | non => exact .non
  | int i => exact .int i
  | str z => exact .str z
  | lst e => exact .lst e
  | tup e => exact .tup e
  | dK e => exact .dK e
theorem Oth.odd (o : Oth K H x T) : Odd K H x T := by
  cases o with
  | non => exact .non
  | int i => exact .int i
  | str z => exact .str z
  | lst e => exact .lst (SqL.of e)
  | tup e => exact .tup (SqT.of e)
  | dK e => exact .dK e
theorem OwnD.ty (D : OwnD K C) (c : Cls K C) (h : H a = some (.ins C dx fs)) : TyOf K H (.ref a) (.ref C) := .ins h c D.c1 D.c2 D.c3 D.c4
theorem g_isiO (D : OwnD K C) (c : Cls K C) (h : H a = some (.ins C dx fs)) (q : Q (.bl true) H) : rIsi K [.ref a, .ref C] H Q := ⟨_, _, _, _, true, rfl, .own C, .base (D.ty c h), D.k0, q⟩
theorem g_isiN (D : OwnD K C) (o : Oth K H x T) (q : Q (.bl false) H) : rIsi K [x, .ref C] H Q := ⟨_, _, _, _, false, rfl, .own C, .base o.ty, D.k1 T o.mem, q⟩
theorem self_first : PySem.W.notFirst K C (.ref C) = true := by simp [PySem.W.notFirst]
theorem g_ownEqI (D : OwnD K C) (c : Cls K C) (h : H a = some (.ins C dx fs)) (h2 : H b = some (.ins C dy gs)) (q : sp (gV [.ref a, .ref b] []) H Q E) : rOwnEq K C sp gV E (.ref a) (.ref b) H Q := ⟨a, dx, fs, _, rfl, h, D.ty c h2, self_first, q⟩
theorem g_ownEqO (D : OwnD K C) (h : H a = some (.ins C dx fs)) (o : Oth K H y T) (q : sp (gV [.ref a, y] []) H Q E) : rOwnEq K C sp gV E (.ref a) y H Q := ⟨a, dx, fs, _, rfl, h, o.ty, D.n1 T o.mem, q⟩
def aNeg (v : V) (H : Hp) (Q : VK) : Prop := ∃ b, v = .bl b ∧ Q (.bl (!b)) H
theorem g_aNeg {b : Bool} (q : Q (.bl (!b)) H) : aNeg (.bl b) H Q := ⟨b, rfl, q⟩
theorem g_ownNeI (D : OwnD K C) (c : Cls K C) (h : H a = some (.ins C dx fs)) (h2 : H b = some (.ins C dy gs)) (q : sp (gV [.ref a, .ref b] []) H (fun v H' => aNeg v H' Q) E) : rOwnNe K C sp gV E (.ref a) (.ref b) H Q := ⟨a, dx, fs, _, rfl, h, D.ty c h2, self_first, q⟩
theorem g_ownNeO (D : OwnD K C) (h : H a = some (.ins C dx fs)) (o : Oth K H y T) (q : sp (gV [.ref a, y] []) H (fun v H' => aNeg v H' Q) E) : rOwnNe K C sp gV E (.ref a) y H Q := ⟨a, dx, fs, _, rfl, h, o.ty, D.n1 T o.mem, q⟩
theorem g_oddEq (h : H a = some (.ins C dx fs)) (o : Oth K H x T) (q : sp (gV [.ref a, x] []) H Q E) : rOddEq K C sp gV E x (.ref a) H Q := ⟨a, dx, fs, T, rfl, h, o.odd, q⟩
theorem g_inSame {l : Addr} (h : H l = some (.lst [.ref b])) (q : Q (.bl true) H) : rInOwn K C sp gV E (.ref b) (.ref l) H Q := ⟨l, b, rfl, h, .inl ⟨rfl, q⟩⟩
def aInV (l b : Addr) (v : V) (H : Hp) (Q : VK) : Prop := ∃ r, v = .bl r ∧ H l = some (.lst [.ref b]) ∧ Q (.bl r) H
theorem g_aInV {l : Addr} {r : Bool} (h : H l = some (.lst [.ref b])) (q : Q (.bl r) H) : aInV l b (.bl r) H Q := ⟨r, rfl, h, q⟩
theorem g_inOther {l : Addr} (h : H l = some (.lst [.ref b])) (hne : a ≠ b) (hb : H b = some (.ins C dx fs)) (ha : H a = some (.ins C dy gs)) (q : sp (gV [.ref b, .ref a] []) H (fun v H' => aInV l b v H' Q) E) : rInOwn K C sp gV E (.ref a) (.ref l) H Q :=
  ⟨l, b, rfl, h, .inr ⟨a, dx, fs, rfl, hne, hb, ⟨dy, gs, ha⟩, q⟩⟩
def aLenV (v : V) (H : Hp) (Q : VK) : Prop := ∃ n : Int, v = .int n ∧ 0 ≤ n ∧ n < 2 ^ 62 ∧ Q (.int n) H
theorem g_aLenV {n : Int} (h0 : 0 ≤ n) (h1 : n < 2 ^ 62) (q : Q (.int n) H) : aLenV (.int n) H Q := ⟨n, rfl, h0, h1, q⟩
theorem g_lenOwn (h : H a = some (.ins C dx fs)) (q : sp (gV [.ref a] []) H (fun v H' => aLenV v H' Q) E) : rLenOwn C sp gV E [.ref a] H Q := ⟨a, dx, fs, rfl, h, q⟩
def aBoolV (v : V) (H : Hp) (Q : VK) : Prop := ∃ n : Int, v = .int n ∧ 0 ≤ n ∧ n < 2 ^ 62 ∧ Q (.bl (n != 0)) H
theorem g_aBoolV {n : Int} (h0 : 0 ≤ n) (h1 : n < 2 ^ 62) (q : Q (.bl (n != 0)) H) : aBoolV (.int n) H Q := ⟨n, rfl, h0, h1, q⟩
theorem g_boolOwn (h : H a = some (.ins C dx fs)) (q : sp (gV [.ref a] []) H (fun v H' => aBoolV v H' Q) E) : rBoolOwn C sp gV E [.ref a] H Q := ⟨a, dx, fs, rfl, h, q⟩
def aStrV (v : V) (H : Hp) (Q : VK) : Prop := ∃ z : Str, v = .str z ∧ Q (.str z) H
theorem g_aStrV {z : Str} (q : Q (.str z) H) : aStrV (.str z) H Q := ⟨z, rfl, q⟩
theorem g_strOwn (h : H a = some (.ins C dx fs)) (q : sp (gV [.ref a] []) H (fun v H' => aStrV v H' Q) E) : rStrOwn C sp gV E [.ref a] H Q := ⟨a, dx, fs, rfl, h, q⟩
end
end Bz
namespace Bz
open PySem PySem.Spec PyProof.Rows L2
/-! while; int(a truth) -/
def rIntB : List V → Hp → VK → Prop := fun xs H Q => ∃ k, xs = [.bl k] ∧ Q (.int (if k then 1 else 0)) H
theorem cl_intB {X : Cx} : CallR X (.type "int") rIntB := fun pins s σ H xs us Q I r h => call_int1 pins s σ H xs us Q I r (.inr h)
section
variable {σ : St} {H : Hp} {Q : VK} {nx bk ct : St → Hp → Prop} {rt : VK}
theorem g_intB {k : Bool} (q : Q (.int (if k then 1 else 0)) H) : rIntB [.bl k] H Q := ⟨k, rfl, q⟩
/-- a loop with an invariant that has a measure -/
def aWh (W : Nat → St → Hp → Prop) (m : Nat) (tb : TS) (nx : St → Hp → Prop) (rt : VK) (σ : St) (H1 : Hp) : Prop := ∃ N : St → Hp → Prop, (∀ σ' H', N σ' H' → ∃ m', m' < m ∧ W m' σ' H') ∧ tb ⟨N, rt, nx, N⟩ σ H1
theorem g_while {tc : TT} {tb : TS} (W : Nat → St → Hp → Prop) (m0 : Nat) (h0 : W m0 σ H)
    (hs : ∀ m σ H, W m σ H → tc σ H fun b H1 => if b = true then aWh W m tb nx rt σ H1 else nx σ H1) : tWhile tc tb ⟨nx, rt, bk, ct⟩ σ H := ⟨W, ⟨m0, h0⟩, hs⟩
theorem g_whB {tb : TS} {W : Nat → St → Hp → Prop} {m : Nat} (h : tb ⟨fun σ2 H2 => ∃ m', m' < m ∧ W m' σ2 H2, rt, nx, fun σ2 H2 => ∃ m', m' < m ∧ W m' σ2 H2⟩ σ H) : aWh W m tb nx rt σ H :=
  ⟨_, fun _ _ h => h, h⟩
end
end Bz
namespace Bz
open PySem PySem.Spec PyProof.Rows L2
/-! a, b, .. = a list -/
theorem g_gLst {K : PySem.W.Frag} {σ : St} {H : Hp} {QS : St → Hp → Prop} {a : Addr} {xs : List V} {n : Nat} {ts : TGs} (h : SqL K H a xs) (hl : xs.length = n) (q : ts xs σ H QS) : gLst K n ts (.ref a) σ H QS := ⟨a, xs, rfl, h, hl, q⟩
end Bz
namespace Bz
open PySem PySem.Spec PyProof.Rows L2
/-! a dict of the top, texts by texts: d.get(text) -/
structure KTab (K : PySem.W.Frag) (w : World) (d : Addr) (kvs : List (Str × Str)) : Prop where
  ex : ∃ es n, KDict K w d es n ∧ ∀ q ∈ kvs, ∃ u, PySem.W.nsIn K d q.1 = some (some u) ∧ RelV (.str q.2) u
def tKGet (d : Addr) (kvs : List (Str × Str)) (te : TE) : TE := fun σ H Q => te σ H fun y H1 => ∃ z v, y = .str z ∧ (z, v) ∈ kvs ∧ Q (.str v) H1
section
variable {X : Cx} {o e : Expr} {apos cpos : Pos} {ty : TE} {d : Addr} {kvs : List (Str × Str)}
theorem pe_kget (D : KTab X.K X.w d kvs) (ho : PE X o (tC (.ref d))) (he : PE X e ty) (m : M1 X o "get" apos e cpos) : PE X (.Call (.Attribute o "get" apos) [e] [] cpos) (tKGet d kvs ty) := by
  obtain ⟨es, n, D, hv⟩ := D.ex
  refine ⟨fun pins s σ H Q I h => ?_⟩
  refine wpAny_Call_method m.base m.few m.line PySem.F.plainAttrs_dict PySem.F.slot_dict_get PySem.F.type_dict_get (thn (ho.run pins s σ H (fun x H1 => x = .ref d ∧ tKGet d kvs ty σ H1 Q) I ⟨rfl, h⟩) fun u s1 ⟨x, H1, I1, rx, ex, q1⟩ => ?_)
  subst ex
  obtain rfl : u = Value.ref d := rx
  refine ⟨kd_type D I1, fun b q => ?_, ?_⟩
  · cases q
    exact ⟨_, I1.kIn _ _ D.at_, rfl⟩
  · rw [m.trees]
    refine Calls.callWith_builtin rfl (Calls.evalArgs_plain (Calls.spliced_cons (thn (he.run pins s1 σ H1 _ I1 q1) fun iv s2 ⟨y, H2, I2, ry, z, v, ey, hz, q2⟩ => Calls.spliced_nil ?_)))
    subst ey
    obtain ⟨t, rfl⟩ := ry
    obtain ⟨u, hu, ru⟩ := hv _ hz
    refine call_meetsIn PySem.F.slot_dict_get (kd_type D I2) PySem.F.entry_dict_get (PySem.F.args_dict_get_2 _ _) (meets_dict_get (PySem.strKind X.prog X.w) d (PySem.strKind_is X.prog X.w z t) D.low) ⟨_, PySem.W.mapOf_K (prog := X.prog) I2.kIn D.at_ D.lit, ?_⟩
    refine ⟨.str v, H2, I2.tok _, ?_, q2⟩
    rw [PySem.W.find_K D.at_ hu]
    exact ru
end
theorem g_kget {d : Addr} {kvs : List (Str × Str)} {te : TE} {σ : St} {H : Hp} {Q : VK} (h : te σ H fun y H1 => ∃ z v, y = .str z ∧ (z, v) ∈ kvs ∧ Q (.str v) H1) : tKGet d kvs te σ H Q := h
theorem g_kgot {kvs : List (Str × Str)} {H : Hp} {Q : VK} {z v : Str} (h : (z, v) ∈ kvs) (q : Q (.str v) H) : ∃ z' v', V.str z = .str z' ∧ (z', v') ∈ kvs ∧ Q (.str v') H := ⟨z, v, rfl, h, q⟩
/-! xs.pop(0) -/
theorem g_pop0 {B H : Hp} {M L L' : List (Addr × HO)} {Q : VK} {l : Addr} {x : V} {xs : List V} (I : Is B M L H) (hl : H l = some (.lst (x :: xs))) (u : Put l (.lst xs) L L') (q : ∀ H', Is B M L' H' → Q x H') : rPopAt (.ref l) [.int 0] H Q :=
  ⟨l, x :: xs, 0, 0, x, rfl, rfl, hl, by decide, by decide, by simp [seqIndex?], rfl, q _ (I.put u)⟩
/-! o.f += a number -/
def aFAdd (K : PySem.W.Frag) (x : V) (k : Int) (f : Str) (nx : Hp → Prop) (H1 : Hp) : Prop := ∃ a C dx fs i, x = .ref a ∧ H1 a = some (.ins C dx fs) ∧ Cls K C ∧ NoAttr K C f ∧ fs.lookup f = some (.int i) ∧ fs.length < 1000 ∧ nx (upd H1 a (.ins C dx (putF f (.int (i + k)) fs)))
theorem g_fldAdd {K : PySem.W.Frag} {ta : TE} {k : Int} {f : Str} {nx bk ct : St → Hp → Prop} {rt : VK} {σ : St} {H : Hp} (mono : ∀ Q Q', (∀ v H1, Q v H1 → Q' v H1) → ta σ H Q → ta σ H Q') (h : ta σ H fun x H1 => aFAdd K x k f (fun H2 => nx σ H2) H1) : sFldAug K ta (tC (.int k)) rAdd f ⟨nx, rt, bk, ct⟩ σ H :=
  mono _ _ (fun x H1 ⟨a, C, dx, fs, i, e, hh, c, n, l, z, q⟩ => ⟨a, C, dx, fs, .int i, e, hh, c, n, l, i, k, rfl, rfl, dx, fs, hh, z, q⟩) h
theorem var_mono {i : Nat} {σ : St} {H : Hp} (Q Q' : VK) (h : ∀ v H1, Q v H1 → Q' v H1) (q : tVar i σ H Q) : tVar i σ H Q' := by
  obtain ⟨v, e, q⟩ := q
  exact ⟨v, e, h _ _ q⟩
theorem g_aFAdd {K : PySem.W.Frag} {B H : Hp} {M L L' : List (Addr × HO)} {a C dx : Addr} {fs fs' : List (Str × V)} {i k : Int} {f : Str} {nx : Hp → Prop} (I : Is B M L H) (h : H a = some (.ins C dx fs)) (c : Cls K C) (n : NoAttr K C f) (g : FGet fs f (.int i)) (hz : fs.length < 100) (fp : FPut f (.int (i + k)) fs fs') (u : Put a (.ins C dx fs') L L')
    (q : ∀ H', Is B M L' H' → nx H') : aFAdd K (.ref a) k f nx H :=
  ⟨a, C, dx, fs, i, rfl, h, c, n, g.eq, by omega, q _ (by rw [fp.eq]; exact I.put u)⟩
end Bz
namespace Bz
open PySem PySem.Spec PyProof.Rows L2
/-! ### the greedy filling of a press, round by round -/
abbrev Row : Type := Int × Str × Int
def tot (rs : List Row) : Int := (rs.map (·.2.2)).sum
theorem tot_nil : tot [] = 0 := rfl
theorem tot_cons (r : Row) (rs : List Row) : tot (r :: rs) = r.2.2 + tot rs := by
  unfold tot
  rw [List.map_cons, List.sum_cons]
def bgn (span k : Int) : List Row → Int → List Int
  | [], _ => []
  | r :: rs, f => max f (k * span + r.1) :: bgn span k rs (max f (k * span + r.1) + r.2.2)
def fin (span k : Int) : List Row → Int → Int
  | [], f => f
  | r :: rs, f => fin span k rs (max f (k * span + r.1) + r.2.2)
theorem bgn_len (span k : Int) : ∀ (rs : List Row) (f : Int), (bgn span k rs f).length = rs.length
  | [], _ => rfl
  | r :: rs, f => by
    show (bgn span k rs _).length + 1 = rs.length + 1
    rw [bgn_len]
/-- when the press is free for round k -/
def free0 (span : Int) (rs : List Row) : Nat → Int
  | 0 => 0
  | k + 1 => fin span k rs (free0 span rs k)
def begs (span : Int) (rs : List Row) (k : Nat) : List Int := bgn span k rs (free0 span rs k)
def bAt (span : Int) (rs : List Row) (k j : Nat) : Int := (begs span rs k).getD j 0
/-! shifting -/
theorem bgn_shift (span k : Int) : ∀ (rs : List Row) (f : Int), bgn span (k + 1) rs (f + span) = (bgn span k rs f).map (· + span) ∧ fin span (k + 1) rs (f + span) = fin span k rs f + span
  | [], f => ⟨rfl, rfl⟩
  | r :: rs, f => by
    have e : max (f + span) ((k + 1) * span + r.1) = max f (k * span + r.1) + span := by
      have : (k + 1) * span = k * span + span := by rw [Int.add_mul, Int.one_mul]
      omega
    have ih := bgn_shift span k rs (max f (k * span + r.1) + r.2.2)
    have e2 : max f (k * span + r.1) + r.2.2 + span = max (f + span) ((k + 1) * span + r.1) + r.2.2 := by rw [e]; omega
    rw [e2] at ih
    refine ⟨?_, ih.2⟩
    show max (f + span) ((k + 1) * span + r.1) :: bgn span (k + 1) rs _ = (max f (k * span + r.1) + span) :: (bgn span k rs _).map _
    rw [ih.1, e]
theorem fin_ge (span k : Int) : ∀ (rs : List Row) (f : Int), f + tot rs ≤ fin span k rs f
  | [], f => by
    show f + 0 ≤ f
    omega
  | r :: rs, f => by
    have ih := fin_ge span k rs (max f (k * span + r.1) + r.2.2)
    rw [tot_cons]
    show _ ≤ fin span k rs (max f (k * span + r.1) + r.2.2)
    omega
theorem fin_mono (span k : Int) : ∀ (rs : List Row) {f g : Int}, f ≤ g → fin span k rs f ≤ fin span k rs g
  | [], _, _, h => h
  | r :: rs, f, g, h => fin_mono span k rs (by omega)
theorem fin_le (span k : Int) : ∀ (rs : List Row) (f g : Int), fin span k rs f ≤ max (fin span k rs g) (f + tot rs)
  | [], f, g => by
    show f ≤ max g (f + 0)
    omega
  | r :: rs, f, g => by
    have ih := fin_le span k rs (max f (k * span + r.1) + r.2.2) (max g (k * span + r.1) + r.2.2)
    have h := fin_ge span k rs (max g (k * span + r.1) + r.2.2)
    rw [tot_cons]
    show fin span k rs (max f (k * span + r.1) + r.2.2) ≤ max (fin span k rs (max g (k * span + r.1) + r.2.2)) _
    omega
theorem keep2 {span : Int} {rs : List Row} (hs : 1 ≤ span) (h0 : ∀ r ∈ rs, 0 ≤ r.1) (hn : rs ≠ []) (hk : tot rs ≤ span) : free0 span rs 2 = free0 span rs 1 + span := by
  have e1 : free0 span rs 1 = fin span 0 rs 0 := rfl
  have e2 : free0 span rs 2 = fin span 1 rs (fin span 0 rs 0) := rfl
  rw [e1, e2]
  have s := (bgn_shift span 0 rs (fin span 0 rs 0 - span)).2
  rw [show (0 : Int) + 1 = 1 from rfl, Int.sub_add_cancel] at s
  rw [s]
  have up := fin_le span 0 rs (fin span 0 rs 0 - span) 0
  have lo : fin span 0 rs 0 ≤ fin span 0 rs (fin span 0 rs 0 - span) := by
    cases rs with
    | nil => exact absurd rfl hn
    | cons r rs =>
      have := h0 r List.mem_cons_self
      refine fin_mono span 0 rs ?_
      rw [Int.zero_mul]
      omega
  omega
theorem keep_step {span : Int} {rs : List Row} (hs : 1 ≤ span) (h0 : ∀ r ∈ rs, 0 ≤ r.1) (hn : rs ≠ []) (hk : tot rs ≤ span) : ∀ k : Nat, free0 span rs (k + 2) = free0 span rs (k + 1) + span
  | 0 => keep2 hs h0 hn hk
  | k + 1 => by
    show fin span ((k + 2 : Nat) : Int) rs (free0 span rs (k + 2)) = fin span ((k + 1 : Nat) : Int) rs (free0 span rs (k + 1)) + span
    rw [keep_step hs h0 hn hk k]
    have := (bgn_shift span ((k + 1 : Nat) : Int) rs (free0 span rs (k + 1))).2
    rw [show ((k + 2 : Nat) : Int) = ((k + 1 : Nat) : Int) + 1 by omega]
    exact this
theorem keep_bgn {span : Int} {rs : List Row} (hs : 1 ≤ span) (h0 : ∀ r ∈ rs, 0 ≤ r.1) (hn : rs ≠ []) (hk : tot rs ≤ span) (j : Nat) (hj : j < rs.length) : ∀ k : Nat, bAt span rs (k + 1) j = bAt span rs 1 j + k * span
  | 0 => by rw [Int.natCast_zero, Int.zero_mul, Int.add_zero]
  | k + 1 => by
    have ih := keep_bgn hs h0 hn hk j hj k
    have e : begs span rs (k + 2) = (begs span rs (k + 1)).map (· + span) := by
      show bgn span ((k + 2 : Nat) : Int) rs (free0 span rs (k + 2)) = (bgn span ((k + 1 : Nat) : Int) rs (free0 span rs (k + 1))).map _
      rw [keep_step hs h0 hn hk k, show ((k + 2 : Nat) : Int) = ((k + 1 : Nat) : Int) + 1 by omega]
      exact (bgn_shift span ((k + 1 : Nat) : Int) rs (free0 span rs (k + 1))).1
    have hl : j < (begs span rs (k + 1)).length := by
      unfold begs
      rw [bgn_len]
      exact hj
    have e2 : bAt span rs (k + 2) j = bAt span rs (k + 1) j + span := by
      unfold bAt
      rw [e, List.getD_eq_getElem?_getD, List.getD_eq_getElem?_getD, List.getElem?_map, List.getElem?_eq_getElem hl]
      rfl
    show bAt span rs (k + 2) j = _
    rw [e2, ih]
    have : (((k + 1 : Nat) : Int)) * span = (k : Int) * span + span := by
      rw [show ((k + 1 : Nat) : Int) = (k : Int) + 1 by omega, Int.add_mul, Int.one_mul]
    omega
/-! never free -/
def Full (span k : Int) : List Row → Int → Prop
  | [], _ => True
  | r :: rs, f => k * span + r.1 ≤ f ∧ Full span k rs (f + r.2.2)
theorem Full.up {span k k' : Int} {d : Int} (hd : k' * span ≤ k * span + d) : ∀ {rs : List Row} {f : Int}, Full span k rs f → Full span k' rs (f + d)
  | [], _, _ => trivial
  | r :: rs, f, ⟨h1, h2⟩ => ⟨by omega, by have := Full.up hd h2; rwa [show f + r.2.2 + d = f + d + r.2.2 by omega] at this⟩
theorem Full.fin {span k : Int} : ∀ {rs : List Row} {f : Int}, Full span k rs f → fin span k rs f = f + tot rs
  | [], f, _ => by
    show f = f + 0
    omega
  | r :: rs, f, ⟨h1, h2⟩ => by
    show Bz.fin span k rs (max f (k * span + r.1) + r.2.2) = _
    rw [show max f (k * span + r.1) = f by omega, h2.fin, tot_cons]
    omega
theorem Full.at {span k : Int} : ∀ {rs : List Row} {f : Int} (j : Nat), Full span k rs f → j < rs.length → (bgn span k rs f).getD j 0 = f + tot (rs.take j)
  | [], _, _, _, h => absurd h (by simp)
  | r :: rs, f, 0, ⟨h1, h2⟩, _ => by
    show max f (k * span + r.1) = f + 0
    omega
  | r :: rs, f, j + 1, ⟨h1, h2⟩, h => by
    have e : max f (k * span + r.1) = f := by omega
    show (bgn span k rs (max f (k * span + r.1) + r.2.2)).getD j 0 = _
    rw [e, h2.at j (by rw [List.length_cons] at h; omega), List.take_succ_cons, tot_cons]
    omega
/-- the first round's end is late enough for all that comes in the next one -/
theorem full_of (span k : Int) : ∀ (rs : List Row) (f g d : Int), fin span k rs f + d ≤ g + tot rs → Full span k rs (g - d)
  | [], _, _, _, _ => trivial
  | r :: rs, f, g, d, h => by
    have h1 := fin_ge span k rs (max f (k * span + r.1) + r.2.2)
    have h2 : fin span k (r :: rs) f = fin span k rs (max f (k * span + r.1) + r.2.2) := rfl
    rw [h2, tot_cons] at h
    refine ⟨by omega, ?_⟩
    have := full_of span k rs (max f (k * span + r.1) + r.2.2) (g + r.2.2) d (by omega)
    rwa [show g + r.2.2 - d = g - d + r.2.2 by omega] at this
theorem full1 {span : Int} {rs : List Row} (hk : span < tot rs) : ∀ k : Nat, Full span ((k + 1 : Nat) : Int) rs (free0 span rs (k + 1)) ∧ free0 span rs (k + 1) = free0 span rs 1 + k * tot rs
  | 0 => by
    refine ⟨?_, by rw [Int.natCast_zero, Int.zero_mul, Int.add_zero]⟩
    have h := full_of span 0 rs 0 (fin span 0 rs 0) (tot rs) (by omega)
    have e : ((0 + 1 : Nat) : Int) * span ≤ 0 * span + tot rs := by
      rw [Int.zero_mul]
      omega
    have := Full.up e h
    rwa [Int.sub_add_cancel] at this
  | k + 1 => by
    obtain ⟨h1, h2⟩ := full1 hk k
    have e : free0 span rs (k + 2) = free0 span rs (k + 1) + tot rs := h1.fin
    have e3 : (((k + 1 : Nat) : Int)) * tot rs = (k : Int) * tot rs + tot rs := by
      rw [show ((k + 1 : Nat) : Int) = (k : Int) + 1 by omega, Int.add_mul, Int.one_mul]
    refine ⟨?_, by rw [e, h2, e3]; omega⟩
    rw [e]
    refine Full.up ?_ h1
    rw [show ((k + 1 + 1 : Nat) : Int) = ((k + 1 : Nat) : Int) + 1 by omega, Int.add_mul, Int.one_mul]
    omega
theorem full_bgn {span : Int} {rs : List Row} (hk : span < tot rs) (k j : Nat) (hj : j < rs.length) : bAt span rs (k + 1) j = fin span 0 rs 0 + k * tot rs + tot (rs.take j) := by
  obtain ⟨h1, h2⟩ := full1 hk k
  unfold bAt begs
  rw [h1.at j hj, h2]
  rfl
/-! one behind the other -/
theorem bgn_0 (span k : Int) (r : Row) (rs : List Row) (f : Int) : (bgn span k (r :: rs) f).getD 0 0 = max f (k * span + r.1) := rfl
theorem bgn_next (span k : Int) : ∀ (rs : List Row) (f : Int) (j : Nat) (r r' : Row), rs[j]? = some r → rs[j + 1]? = some r' → (bgn span k rs f).getD (j + 1) 0 = max ((bgn span k rs f).getD j 0 + r.2.2) (k * span + r'.1)
  | [], _, _, _, _, h, _ => by cases h
  | [_], _, 0, _, _, _, h => by cases h
  | a :: b :: rs, f, 0, r, r', h, h' => by
    cases h
    cases h'
    rfl
  | a :: rs, f, j + 1, r, r', h, h' => by
    show (bgn span k rs _).getD (j + 1) 0 = max ((bgn span k rs _).getD j 0 + _) _
    exact bgn_next span k rs _ j r r' h h'
theorem fin_last (span k : Int) : ∀ (rs : List Row) (f : Int) (j : Nat) (r : Row), rs[j]? = some r → j + 1 = rs.length → fin span k rs f = (bgn span k rs f).getD j 0 + r.2.2
  | [], _, _, _, h, _ => by cases h
  | [a], f, 0, r, h, _ => by
    cases h
    rfl
  | a :: b :: rs, f, 0, r, h, hl => by
    simp at hl
  | a :: rs, f, j + 1, r, h, hl => by
    show fin span k rs _ = (bgn span k rs _).getD j 0 + _
    exact fin_last span k rs _ j r h (by rw [List.length_cons] at hl; omega)
/-- a row begins when the press is free and it has come -/
theorem bAt_next {span : Int} {rs : List Row} (k j : Nat) {r r' : Row} (h : rs[j]? = some r) (h' : rs[j + 1]? = some r') : bAt span rs k (j + 1) = max (bAt span rs k j + r.2.2) (k * span + r'.1) := bgn_next span k rs _ j r r' h h'
theorem bAt_first {span : Int} {rs : List Row} (k j : Nat) {r r' : Row} (h : rs[j]? = some r) (hl : j + 1 = rs.length) (h' : rs[0]? = some r') : bAt span rs (k + 1) 0 = max (bAt span rs k j + r.2.2) (((k + 1 : Nat) : Int) * span + r'.1) := by
  have e : free0 span rs (k + 1) = bAt span rs k j + r.2.2 := fin_last span k rs _ j r h hl
  cases rs with
  | nil => cases h
  | cons a rs =>
    cases h'
    rw [← e]
    rfl
end Bz
namespace Bz
open PySem PySem.Spec PyProof.Rows L2
/-! ### which stretch an hour falls into -/
def wAt (rs : List Row) (j : Nat) : Int := ((rs[j]?).map (·.2.2)).getD 0
/-- row j of round k is on the press at hour d -/
def On (span : Int) (rs : List Row) (d : Int) (k j : Nat) : Prop := j < rs.length ∧ bAt span rs k j ≤ d ∧ d < bAt span rs k j + wAt rs j
theorem wAt_eq {rs : List Row} {j : Nat} {r : Row} (h : rs[j]? = some r) : wAt rs j = r.2.2 := by
  unfold wAt
  rw [h]
  rfl
theorem getR {rs : List Row} {j : Nat} (h : j < rs.length) : ∃ r, rs[j]? = some r := ⟨_, List.getElem?_eq_getElem h⟩
section
variable {span : Int} {rs : List Row}
theorem wAt_pos (hw : ∀ r ∈ rs, 1 ≤ r.2.2) {j : Nat} (h : j < rs.length) : 1 ≤ wAt rs j := by
  obtain ⟨r, hr⟩ := getR h
  rw [wAt_eq hr]
  exact hw r (List.mem_of_getElem? hr)
/-- within a round: later rows begin when the earlier ones have ended -/
theorem in_round (hw : ∀ r ∈ rs, 1 ≤ r.2.2) (k : Nat) : ∀ (m i : Nat), i + m + 1 < rs.length → bAt span rs k i + wAt rs i ≤ bAt span rs k (i + m + 1)
  | 0, i, h => by
    obtain ⟨r, hr⟩ := getR (rs := rs) (j := i) (by omega)
    obtain ⟨r', hr'⟩ := getR (rs := rs) (j := i + 1) h
    have := bAt_next (span := span) k i hr hr'
    rw [wAt_eq hr]
    show _ ≤ bAt span rs k (i + 1)
    omega
  | m + 1, i, h => by
    have h1 := in_round hw k m i (by omega)
    obtain ⟨r, hr⟩ := getR (rs := rs) (j := i + m + 1) (by omega)
    obtain ⟨r', hr'⟩ := getR (rs := rs) (j := i + m + 1 + 1) h
    have h2 := bAt_next (span := span) k (i + m + 1) hr hr'
    have h3 := hw r (List.mem_of_getElem? hr)
    show _ ≤ bAt span rs k (i + m + 1 + 1)
    omega
/-- the round's rows lie between when it is free and when the next one is -/
theorem round_lo (hw : ∀ r ∈ rs, 1 ≤ r.2.2) (k : Nat) {j : Nat} (h : j < rs.length) : free0 span rs k ≤ bAt span rs k j := by
  have h0 : free0 span rs k ≤ bAt span rs k 0 := by
    cases rs with
    | nil => simp at h
    | cons r l =>
      show _ ≤ max (free0 span (r :: l) k) _
      omega
  cases j with
  | zero => exact h0
  | succ j =>
    have := in_round (span := span) hw k j 0 (by omega)
    have h2 := wAt_pos hw (j := 0) (by omega)
    rw [show 0 + j + 1 = j + 1 by omega] at this
    omega
theorem round_hi (hw : ∀ r ∈ rs, 1 ≤ r.2.2) (k : Nat) {j : Nat} (h : j < rs.length) : bAt span rs k j + wAt rs j ≤ free0 span rs (k + 1) := by
  obtain ⟨r, hr⟩ := getR (rs := rs) (j := rs.length - 1) (by omega)
  have e : free0 span rs (k + 1) = bAt span rs k (rs.length - 1) + r.2.2 := fin_last span k rs _ (rs.length - 1) r hr (by omega)
  rw [e]
  rcases Nat.lt_or_ge j (rs.length - 1) with hl | hl
  · have := in_round (span := span) hw k (rs.length - 1 - j - 1) j (by omega)
    rw [show j + (rs.length - 1 - j - 1) + 1 = rs.length - 1 by omega] at this
    have := hw r (List.mem_of_getElem? hr)
    omega
  · have : j = rs.length - 1 := by omega
    subst this
    rw [wAt_eq hr]
    omega
theorem free_up (hw : ∀ r ∈ rs, 1 ≤ r.2.2) : ∀ {k k' : Nat}, k ≤ k' → free0 span rs k ≤ free0 span rs k' := by
  intro k k' h
  induction h with
  | refl => exact Int.le_refl _
  | @step m _ ih =>
    have h1 := fin_ge span (m : Int) rs (free0 span rs m)
    have h2 : 0 ≤ tot rs := by
      clear ih h1
      induction rs with
      | nil => exact Int.le_refl _
      | cons a l ihl =>
        rw [tot_cons]
        have := hw a List.mem_cons_self
        have := ihl fun y hy => hw y (List.mem_cons_of_mem _ hy)
        omega
    show free0 span rs k ≤ fin span (m : Int) rs (free0 span rs m)
    omega
/-- no two at an hour -/
theorem On.one (hw : ∀ r ∈ rs, 1 ≤ r.2.2) {d : Int} {k j k' j' : Nat} (h : On span rs d k j) (h' : On span rs d k' j') : k = k' ∧ j = j' := by
  have key : ∀ {k j k' j' : Nat}, On span rs d k j → On span rs d k' j' → k < k' → False := by
    intro k j k' j' h h' hk
    have h1 := round_hi (span := span) hw k h.1
    have h2 := free_up (span := span) hw (k := k + 1) (k' := k') hk
    have h3 := round_lo (span := span) hw k' h'.1
    have := h.2.2
    have := h'.2.1
    omega
  have key2 : ∀ {k j j' : Nat}, On span rs d k j → On span rs d k j' → j < j' → False := by
    intro k j j' h h' hj
    have h1 := in_round (span := span) hw k (j' - j - 1) j (by have := h'.1; omega)
    rw [show j + (j' - j - 1) + 1 = j' by omega] at h1
    have := h.2.2
    have := h'.2.1
    omega
  have ek : k = k' := by
    rcases Nat.lt_trichotomy k k' with e | e | e
    · exact (key h h' e).elim
    · exact e
    · exact (key h' h e).elim
  subst ek
  refine ⟨rfl, ?_⟩
  rcases Nat.lt_trichotomy j j' with e | e | e
  · exact (key2 h h' e).elim
  · exact e
  · exact (key2 h' h e).elim
/-! near which round -/
theorem fin0_up (h : ∀ r ∈ rs, r.1 < span ∧ 0 ≤ r.2.2) (hs : 1 ≤ span) : fin span 0 rs 0 ≤ span + tot rs := by
  have key : ∀ (l : List Row) (f : Int), (∀ r ∈ l, r.1 < span ∧ 0 ≤ r.2.2) → fin span 0 l f ≤ max f span + tot l := by
    intro l
    induction l with
    | nil =>
      intro f _
      show f ≤ max f span + 0
      omega
    | cons r l ih =>
      intro f hl
      have h0 := hl r List.mem_cons_self
      have := ih (max f (0 * span + r.1) + r.2.2) fun y hy => hl y (List.mem_cons_of_mem _ hy)
      rw [tot_cons]
      show fin span 0 l (max f (0 * span + r.1) + r.2.2) ≤ _
      rw [Int.zero_mul] at this ⊢
      omega
  have := key rs 0 h
  omega
theorem bAt_come (k : Nat) {j : Nat} {r : Row} (h : rs[j]? = some r) : (k : Int) * span + r.1 ≤ bAt span rs k j := by
  cases j with
  | zero =>
    cases rs with
    | nil => cases h
    | cons a l =>
      cases h
      show _ ≤ max _ _
      omega
  | succ j =>
    have hl := (List.getElem?_eq_some_iff.mp h).1
    obtain ⟨r', hr'⟩ := getR (rs := rs) (j := j) (by omega)
    have := bAt_next (span := span) k j hr' h
    omega
theorem near_lo (h0 : ∀ r ∈ rs, 0 ≤ r.1) {d : Int} {k j : Nat} (h : On span rs d k j) : (k : Int) * span ≤ d := by
  obtain ⟨r, hr⟩ := getR h.1
  have := bAt_come (span := span) k hr
  have := h0 r (List.mem_of_getElem? hr)
  have := h.2.1
  omega
theorem free_keep (hs : 1 ≤ span) (h0 : ∀ r ∈ rs, 0 ≤ r.1) (hn : rs ≠ []) (hk : tot rs ≤ span) : ∀ k : Nat, free0 span rs (k + 1) = free0 span rs 1 + k * span
  | 0 => by rw [Int.natCast_zero, Int.zero_mul, Int.add_zero]
  | k + 1 => by
    rw [keep_step hs h0 hn hk k, free_keep hs h0 hn hk k, show ((k + 1 : Nat) : Int) = (k : Int) + 1 by omega, Int.add_mul, Int.one_mul]
    omega
theorem near_keep (hs : 1 ≤ span) (h0 : ∀ r ∈ rs, 0 ≤ r.1) (h1 : ∀ r ∈ rs, r.1 < span) (hw : ∀ r ∈ rs, 1 ≤ r.2.2) (hk : tot rs ≤ span) {d : Int} {k j : Nat} (h : On span rs d k j) : (k : Int) * span ≤ d ∧ d < ((k : Int) + 2) * span := by
  refine ⟨near_lo h0 h, ?_⟩
  have hn : rs ≠ [] := fun e => by
    have := h.1
    rw [e] at this
    simp at this
  have e1 := round_hi (span := span) hw k h.1
  rw [free_keep hs h0 hn hk k] at e1
  have e2 := fin0_up (span := span) (rs := rs) (fun r hr => ⟨h1 r hr, by have := hw r hr; omega⟩) hs
  have e3 : free0 span rs 1 = fin span 0 rs 0 := rfl
  have e4 : ((k : Int) + 2) * span = (k : Int) * span + span + span := by
    rw [Int.add_mul, show (2 : Int) * span = span + span by omega]
    omega
  have := h.2.2
  omega
theorem near_full (hs : 1 ≤ span) (h1 : ∀ r ∈ rs, r.1 < span) (hw : ∀ r ∈ rs, 1 ≤ r.2.2) (hk : span < tot rs) {d : Int} {k j : Nat} (hd : span ≤ d) (h : On span rs d k j) :
    (k : Int) * tot rs ≤ d - (fin span 0 rs 0 - tot rs) ∧ d - (fin span 0 rs 0 - tot rs) < ((k : Int) + 1) * tot rs := by
  have e1 := round_hi (span := span) hw k h.1
  have e2 := fin0_up (span := span) (rs := rs) (fun r hr => ⟨h1 r hr, by have := hw r hr; omega⟩) hs
  have e3 : free0 span rs 1 = fin span 0 rs 0 := rfl
  have hh := h.2.2
  have hl := h.2.1
  have e5 : ((k : Int) + 1) * tot rs = (k : Int) * tot rs + tot rs := by rw [Int.add_mul, Int.one_mul]
  have e4 := (full1 (span := span) hk k).2
  rw [e4] at e1
  refine ⟨?_, by omega⟩
  cases k with
  | zero =>
    rw [Int.natCast_zero, Int.zero_mul]
    omega
  | succ k =>
    have e6 := round_lo (span := span) hw (k + 1) h.1
    have e7 := (full1 (span := span) hk k).2
    rw [e7] at e6
    have e8 : ((k + 1 : Nat) : Int) * tot rs = (k : Int) * tot rs + tot rs := by rw [show ((k + 1 : Nat) : Int) = (k : Int) + 1 by omega, Int.add_mul, Int.one_mul]
    omega
/-- where nothing is on the press, all that came has ended -/
theorem ended (hs : 1 ≤ span) (h0 : ∀ r ∈ rs, 0 ≤ r.1) (h1 : ∀ r ∈ rs, r.1 < span) (up : ∀ (i : Nat) (r r' : Row), rs[i]? = some r → rs[i + 1]? = some r' → r.1 ≤ r'.1) {d : Int} (hd : 0 ≤ d) (no : ∀ k j, ¬ On span rs d k j) :
    ∀ (k j : Nat) (r : Row), rs[j]? = some r → (k : Int) * span + r.1 ≤ d → bAt span rs k j + r.2.2 ≤ d := by
  have turn : ∀ (k j : Nat) (r : Row), rs[j]? = some r → bAt span rs k j ≤ d → bAt span rs k j + r.2.2 ≤ d := by
    intro k j r hr hb
    rcases Int.lt_or_le d (bAt span rs k j + r.2.2) with z | z
    · exact (no k j ⟨(List.getElem?_eq_some_iff.mp hr).1, hb, by rw [wAt_eq hr]; exact z⟩).elim
    · exact z
  intro k
  induction k with
  | zero =>
    intro j
    induction j with
    | zero =>
      intro r hr hc
      refine turn 0 0 r hr ?_
      cases rs with
      | nil => cases hr
      | cons a l =>
        cases hr
        show max (0 : Int) _ ≤ d
        omega
    | succ j ih =>
      intro r hr hc
      have hl := (List.getElem?_eq_some_iff.mp hr).1
      obtain ⟨r', hr'⟩ := getR (rs := rs) (j := j) (by omega)
      have := ih r' hr' (by have := up j r' r hr' hr; omega)
      refine turn 0 (j + 1) r hr ?_
      rw [bAt_next (span := span) 0 j hr' hr]
      omega
  | succ k ihk =>
    intro j
    induction j with
    | zero =>
      intro r hr hc
      refine turn (k + 1) 0 r hr ?_
      have hl := (List.getElem?_eq_some_iff.mp hr).1
      obtain ⟨r', hr'⟩ := getR (rs := rs) (j := rs.length - 1) (by omega)
      have e : ((k + 1 : Nat) : Int) * span = (k : Int) * span + span := by rw [show ((k + 1 : Nat) : Int) = (k : Int) + 1 by omega, Int.add_mul, Int.one_mul]
      have g0 := h0 r (List.mem_of_getElem? hr)
      have g1 := h1 r' (List.mem_of_getElem? hr')
      have := ihk (rs.length - 1) r' hr' (by omega)
      rw [bAt_first (span := span) k (rs.length - 1) hr' (by omega) hr]
      omega
    | succ j ih =>
      intro r hr hc
      have hl := (List.getElem?_eq_some_iff.mp hr).1
      obtain ⟨r', hr'⟩ := getR (rs := rs) (j := j) (by omega)
      have := ih r' hr' (by have := up j r' r hr' hr; omega)
      refine turn (k + 1) (j + 1) r hr ?_
      rw [bAt_next (span := span) (k + 1) j hr' hr]
      omega
end
end Bz
namespace Bz
open PySem PySem.Spec PyProof.Rows L2
def topS (i : Nat) : Stmt := PySem.Challenge.pw_bindbench_k40_told_and_read.main.body.getD i (.Pass ⟨0, 0, 0, 0⟩)
def dd_is_whole : He.DefD := ⟨("is_whole", none), "is_whole", "is_whole", defArgs (topS 16), defBody (topS 16), defScope (topS 16), [.int 1000000], []⟩
def dd_is_name : He.DefD := ⟨("is_name", none), "is_name", "is_name", defArgs (topS 17), defBody (topS 17), defScope (topS 17), [], []⟩
def dd_kind_of : He.DefD := ⟨("kind_of", none), "kind_of", "kind_of", defArgs (topS 18), defBody (topS 18), defScope (topS 18), [], []⟩
def dd_is_step : He.DefD := ⟨("is_step", none), "is_step", "is_step", defArgs (topS 19), defBody (topS 19), defScope (topS 19), [], []⟩
def dd_number_of : He.DefD := ⟨("number_of", none), "number_of", "number_of", defArgs (topS 20), defBody (topS 20), defScope (topS 20), [], []⟩
def dd_words_of : He.DefD := ⟨("words_of", none), "words_of", "words_of", defArgs (topS 21), defBody (topS 21), defScope (topS 21), [], []⟩
def dd_is_call : He.DefD := ⟨("is_call", none), "is_call", "is_call", defArgs (topS 25), defBody (topS 25), defScope (topS 25), [], []⟩
def dd_are_calls : He.DefD := ⟨("are_calls", none), "are_calls", "are_calls", defArgs (topS 26), defBody (topS 26), defScope (topS 26), [], []⟩
def dd_Round_init : He.DefD := ⟨("Round", some "__init__"), "__init__", "Round.__init__", defArgs (inClass (topS 27) 0), defBody (inClass (topS 27) 0), defScope (inClass (topS 27) 0), [.non], []⟩
def dd_Round_length : He.DefD := ⟨("Round", some "length"), "length", "Round.length", defArgs (inClass (topS 27) 1), defBody (inClass (topS 27) 1), defScope (inClass (topS 27) 1), [], []⟩
def dd_Round_calls : He.DefD := ⟨("Round", some "calls"), "calls", "Round.calls", defArgs (inClass (topS 27) 3), defBody (inClass (topS 27) 3), defScope (inClass (topS 27) 3), [], []⟩
def dd_Round_eq : He.DefD := ⟨("Round", some "__eq__"), "__eq__", "Round.__eq__", defArgs (inClass (topS 27) 23), defBody (inClass (topS 27) 23), defScope (inClass (topS 27) 23), [], []⟩
def dd_Round_str : He.DefD := ⟨("Round", some "__str__"), "__str__", "Round.__str__", defArgs (inClass (topS 27) 25), defBody (inClass (topS 27) 25), defScope (inClass (topS 27) 25), [], []⟩
def dd_are_steps : He.DefD := ⟨("are_steps", none), "are_steps", "are_steps", defArgs (topS 31), defBody (topS 31), defScope (topS 31), [], []⟩
def dd_Style_init : He.DefD := ⟨("Style", some "__init__"), "__init__", "Style.__init__", defArgs (inClass (topS 32) 0), defBody (inClass (topS 32) 0), defScope (inClass (topS 32) 0), [], []⟩
def dd_Style_named : He.DefD := ⟨("Style", some "named"), "named", "Style.named", defArgs (inClass (topS 32) 1), defBody (inClass (topS 32) 1), defScope (inClass (topS 32) 1), [], []⟩
def dd_Style_steps : He.DefD := ⟨("Style", some "steps"), "steps", "Style.steps", defArgs (inClass (topS 32) 2), defBody (inClass (topS 32) 2), defScope (inClass (topS 32) 2), [], []⟩
def dd_Style_span : He.DefD := ⟨("Style", some "span"), "span", "Style.span", defArgs (inClass (topS 32) 4), defBody (inClass (topS 32) 4), defScope (inClass (topS 32) 4), [], []⟩
def dd_Style_eq : He.DefD := ⟨("Style", some "__eq__"), "__eq__", "Style.__eq__", defArgs (inClass (topS 32) 8), defBody (inClass (topS 32) 8), defScope (inClass (topS 32) 8), [], []⟩
def dd_Style_str : He.DefD := ⟨("Style", some "__str__"), "__str__", "Style.__str__", defArgs (inClass (topS 32) 10), defBody (inClass (topS 32) 10), defScope (inClass (topS 32) 10), [], []⟩
def dd_Job_init : He.DefD := ⟨("Job", some "__init__"), "__init__", "Job.__init__", defArgs (inClass (topS 33) 0), defBody (inClass (topS 33) 0), defScope (inClass (topS 33) 0), [.int 0, .non, .bl false], []⟩
def dd_Job_of_style : He.DefD := ⟨("Job", some "of_style"), "of_style", "Job.of_style", defArgs (inClass (topS 33) 2), defBody (inClass (topS 33) 2), defScope (inClass (topS 33) 2), [], []⟩
def dd_Job_in_haste : He.DefD := ⟨("Job", some "in_haste"), "in_haste", "Job.in_haste", defArgs (inClass (topS 33) 5), defBody (inClass (topS 33) 5), defScope (inClass (topS 33) 5), [], []⟩
def dd_Job_rank : He.DefD := ⟨("Job", some "rank"), "rank", "Job.rank", defArgs (inClass (topS 33) 6), defBody (inClass (topS 33) 6), defScope (inClass (topS 33) 6), [], []⟩
def dd_Job_eq : He.DefD := ⟨("Job", some "__eq__"), "__eq__", "Job.__eq__", defArgs (inClass (topS 33) 9), defBody (inClass (topS 33) 9), defScope (inClass (topS 33) 9), [], []⟩
def dd_Job_str : He.DefD := ⟨("Job", some "__str__"), "__str__", "Job.__str__", defArgs (inClass (topS 33) 10), defBody (inClass (topS 33) 10), defScope (inClass (topS 33) 10), [], []⟩
def dd_Line_init : He.DefD := ⟨("Line", some "__init__"), "__init__", "Line.__init__", defArgs (inClass (topS 35) 0), defBody (inClass (topS 35) 0), defScope (inClass (topS 35) 0), [], []⟩
def dd_Line_ahead : He.DefD := ⟨("Line", some "ahead"), "ahead", "Line.ahead", defArgs (inClass (topS 35) 1), defBody (inClass (topS 35) 1), defScope (inClass (topS 35) 1), [], []⟩
def dd_Line_take : He.DefD := ⟨("Line", some "take"), "take", "Line.take", defArgs (inClass (topS 35) 2), defBody (inClass (topS 35) 2), defScope (inClass (topS 35) 2), [], []⟩
def dd_Line_take_word : He.DefD := ⟨("Line", some "take_word"), "take_word", "Line.take_word", defArgs (inClass (topS 35) 3), defBody (inClass (topS 35) 3), defScope (inClass (topS 35) 3), [], []⟩
def dd_Line_take_name : He.DefD := ⟨("Line", some "take_name"), "take_name", "Line.take_name", defArgs (inClass (topS 35) 4), defBody (inClass (topS 35) 4), defScope (inClass (topS 35) 4), [], []⟩
def dd_Line_take_number : He.DefD := ⟨("Line", some "take_number"), "take_number", "Line.take_number", defArgs (inClass (topS 35) 5), defBody (inClass (topS 35) 5), defScope (inClass (topS 35) 5), [], []⟩
def dd_Line_over : He.DefD := ⟨("Line", some "over"), "over", "Line.over", defArgs (inClass (topS 35) 6), defBody (inClass (topS 35) 6), defScope (inClass (topS 35) 6), [], []⟩
def dd_rows_of : He.DefD := ⟨("rows_of", none), "rows_of", "rows_of", defArgs (topS 36), defBody (topS 36), defScope (topS 36), [], []⟩
def dd_read_style : He.DefD := ⟨("read_style", none), "read_style", "read_style", defArgs (topS 37), defBody (topS 37), defScope (topS 37), [], []⟩
def dd_read_job : He.DefD := ⟨("read_job", none), "read_job", "read_job", defArgs (topS 38), defBody (topS 38), defScope (topS 38), [], []⟩
def dd_read_round : He.DefD := ⟨("read_round", none), "read_round", "read_round", defArgs (topS 39), defBody (topS 39), defScope (topS 39), [], []⟩
def dd_law_mixed : He.DefD := ⟨("_law_mixed", none), "_law_mixed", "_law_mixed", defArgs (topS 41), defBody (topS 41), defScope (topS 41), [], []⟩
def dd_law_folded : He.DefD := ⟨("_law_folded", none), "_law_folded", "_law_folded", defArgs (topS 42), defBody (topS 42), defScope (topS 42), [], []⟩
def dd_law_draw : He.DefD := ⟨("_law_draw", none), "_law_draw", "_law_draw", defArgs (topS 43), defBody (topS 43), defScope (topS 43), [], []⟩
def dd_law_begun : He.DefD := ⟨("_law_begun", none), "_law_begun", "_law_begun", defArgs (topS 44), defBody (topS 44), defScope (topS 44), [], []⟩
def dd_law_called : He.DefD := ⟨("_law_called", none), "_law_called", "_law_called", defArgs (topS 45), defBody (topS 45), defScope (topS 45), [], []⟩
def dd_law_step : He.DefD := ⟨("_law_step", none), "_law_step", "_law_step", defArgs (topS 46), defBody (topS 46), defScope (topS 46), [], []⟩
def dd_law_steps : He.DefD := ⟨("_law_steps", none), "_law_steps", "_law_steps", defArgs (topS 47), defBody (topS 47), defScope (topS 47), [], []⟩
def dd_law_styles : He.DefD := ⟨("_law_styles", none), "_law_styles", "_law_styles", defArgs (topS 48), defBody (topS 48), defScope (topS 48), [], []⟩
def dd_law_numbers : He.DefD := ⟨("_law_numbers", none), "_law_numbers", "_law_numbers", defArgs (topS 49), defBody (topS 49), defScope (topS 49), [], []⟩
def dd_law_plain_job : He.DefD := ⟨("_law_plain_job", none), "_law_plain_job", "_law_plain_job", defArgs (topS 50), defBody (topS 50), defScope (topS 50), [], []⟩
def dd_law_plain_jobs : He.DefD := ⟨("_law_plain_jobs", none), "_law_plain_jobs", "_law_plain_jobs", defArgs (topS 51), defBody (topS 51), defScope (topS 51), [], []⟩
def dd_law_style : He.DefD := ⟨("_law_style", none), "_law_style", "_law_style", defArgs (topS 52), defBody (topS 52), defScope (topS 52), [], []⟩
def dd_law_job : He.DefD := ⟨("_law_job", none), "_law_job", "_law_job", defArgs (topS 53), defBody (topS 53), defScope (topS 53), [], []⟩
def dd_law_plain_round : He.DefD := ⟨("_law_plain_round", none), "_law_plain_round", "_law_plain_round", defArgs (topS 54), defBody (topS 54), defScope (topS 54), [], []⟩
def dd_law_round : He.DefD := ⟨("_law_round", none), "_law_round", "_law_round", defArgs (topS 55), defBody (topS 55), defScope (topS 55), [], []⟩
def dd_law_style_rows : He.DefD := ⟨("_law_style_rows", none), "_law_style_rows", "_law_style_rows", defArgs (topS 56), defBody (topS 56), defScope (topS 56), [], []⟩
def dd_law_job_text : He.DefD := ⟨("_law_job_text", none), "_law_job_text", "_law_job_text", defArgs (topS 57), defBody (topS 57), defScope (topS 57), [], []⟩
def dd_law_round_rows : He.DefD := ⟨("_law_round_rows", none), "_law_round_rows", "_law_round_rows", defArgs (topS 58), defBody (topS 58), defScope (topS 58), [], []⟩
def dd_law_style_right : He.DefD := ⟨("_law_style_right", none), "_law_style_right", "_law_style_right", defArgs (topS 59), defBody (topS 59), defScope (topS 59), [], []⟩
def dd_law_job_right : He.DefD := ⟨("_law_job_right", none), "_law_job_right", "_law_job_right", defArgs (topS 60), defBody (topS 60), defScope (topS 60), [], []⟩
def dd_law_round_right : He.DefD := ⟨("_law_round_right", none), "_law_round_right", "_law_round_right", defArgs (topS 61), defBody (topS 61), defScope (topS 61), [], []⟩
def dd_law : He.DefD := ⟨("law", none), "law", "law", defArgs (topS 62), defBody (topS 62), defScope (topS 62), [], []⟩
def fnL : List He.DefD := [dd_is_whole, dd_is_name, dd_kind_of, dd_is_step, dd_number_of, dd_words_of, dd_is_call, dd_are_calls, dd_Round_init, dd_Round_length, dd_Round_calls, dd_Round_eq, dd_Round_str, dd_are_steps, dd_Style_init, dd_Style_named, dd_Style_steps, dd_Style_span, dd_Style_eq, dd_Style_str, dd_Job_init, dd_Job_of_style, dd_Job_in_haste, dd_Job_rank, dd_Job_eq, dd_Job_str, dd_Line_init, dd_Line_ahead, dd_Line_take, dd_Line_take_word, dd_Line_take_name, dd_Line_take_number, dd_Line_over, dd_rows_of, dd_read_style, dd_read_job, dd_read_round, dd_law_mixed, dd_law_folded, dd_law_draw, dd_law_begun, dd_law_called, dd_law_step, dd_law_steps, dd_law_styles, dd_law_numbers, dd_law_plain_job, dd_law_plain_jobs, dd_law_style, dd_law_job, dd_law_plain_round, dd_law_round, dd_law_style_rows, dd_law_job_text, dd_law_round_rows, dd_law_style_right, dd_law_job_right, dd_law_round_right, dd_law]
def faL : List He.Fa := [.int "MOST_LETTERS" 8, .int "MOST_FIGURES" 7, .int "MOST_NUMBER" 99999, .int "MOST_HOUR" 1000000, .int "MOST_HOURS" 240, .int "MOST_LENGTH" 1000, .int "MOST_CALLS" 12, .int "MOST_STEPS" 12, .str "LETTERS" "abcdefghijklmnopqrstuvwxyz", .str "FIGURES" "0123456789", .glo "BARRED_WORDS", .glo "KINDS", .free "all", .free "bool", .free "enumerate", .free "int", .free "isinstance", .free "len", .free "list", .free "max", .free "min", .free "range", .free "repr", .free "sorted", .free "str", .free "sum", .free "tuple", .free "zip", .glo "Round", .cls "Round", .mkr "Round", .noat "Round" "begun", .noat "Round" "call_rows", .noat "Round" "hours_long", .glo "Style", .cls "Style", .mkr "Style", .noat "Style" "called", .noat "Style" "step_rows", .glo "Job", .cls "Job", .mkr "Job", .noat "Job" "came", .noat "Job" "has_number", .noat "Job" "has_style", .noat "Job" "hasty", .noat "Job" "wanted", .glo "Line", .cls "Line", .mkr "Line", .noat "Line" "left_words", .noat "Line" "on_row", .noat "Line" "taken", .glo "is_whole", .glo "is_name", .glo "kind_of", .glo "is_step", .glo "number_of", .glo "words_of", .glo "is_call", .glo "are_calls", .meth "Round" "length", .meth "Round" "calls", .meth "Round" "__eq__", .meth "Round" "__str__", .glo "are_steps", .meth "Style" "named", .meth "Style" "steps", .meth "Style" "span", .meth "Style" "__eq__", .meth "Style" "__str__", .meth "Job" "of_style", .meth "Job" "in_haste", .meth "Job" "rank", .meth "Job" "__eq__", .meth "Job" "__str__", .meth "Line" "ahead", .meth "Line" "take", .meth "Line" "take_word", .meth "Line" "take_name", .meth "Line" "take_number", .meth "Line" "over", .glo "rows_of", .glo "read_style", .glo "read_job", .glo "read_round", .glo "_law_mixed", .glo "_law_folded", .glo "_law_draw", .glo "_law_begun", .glo "_law_called", .glo "_law_step", .glo "_law_steps", .glo "_law_styles", .glo "_law_numbers", .glo "_law_plain_job", .glo "_law_plain_jobs", .glo "_law_style", .glo "_law_job", .glo "_law_plain_round", .glo "_law_round", .glo "_law_style_rows", .glo "_law_job_text", .glo "_law_round_rows", .glo "_law_style_right", .glo "_law_job_right", .glo "_law_round_right", .glo "law"]
def tsL : List He.Tab := [(fun K => He.ga K "KINDS", ["sew", "glue", "cover", "letter", "press"])]
def bsL : List Ask := [fun K => He.tupB K "BARRED_WORDS" [.str "style", .str "job", .str "round", .str "sew", .str "glue", .str "cover", .str "letter", .str "press", .str "hand", .str "haste"], fun K => He.valsB K (He.ga K "KINDS") (([("sew", "hand"), ("glue", "hand"), ("cover", "hand"), ("letter", "hand"), ("press", "press")] : List (Str × Str)).map fun q => (q.1, He.Dv.str q.2)), fun K => ownB K (He.ga K "Round"), fun K => ownB K (He.ga K "Style"), fun K => ownB K (He.ga K "Job")]
abbrev RR : PySem.W.OpenRow := PySem.W.OpenLaw.row PySem.Challenge.rw_bindbench_k40_told_and_read
abbrev hkL : PySem.W.Hook := hookB 5 faL fnL tsL bsL
def obL (s : PySem.W.SharedT) : AlB := obsBG 5 faL fnL tsL bsL (HandSHeadRun.getT s)
theorem obL_eq (s : PySem.W.SharedT) : obL s = hkL.obs s.abs := obsBG_eq (HandSHeadRun.getT_eq s)
def looseL : List Str := (["_wall", "BadValue", "BadText", "NoSuch", "LETTERS", "FIGURES", "MOST_LETTERS", "MOST_FIGURES", "MOST_NUMBER", "MOST_HOUR", "FARTHEST", "MOST_HOURS", "KINDS", "BARRED_WORDS", "is_whole", "is_name", "kind_of", "is_step", "number_of", "words_of", "MOST_LENGTH", "MOST_CALLS", "is_call", "are_calls", "Round", "need_hour", "MOST_STEPS", "are_steps", "Style", "Job"] : List Str) ++ (["Line", "rows_of", "read_style", "read_job", "read_round", "_law_mixed", "_law_folded", "_law_draw", "_law_begun", "_law_called", "_law_step", "_law_steps", "_law_styles", "_law_numbers", "_law_plain_job", "_law_plain_jobs", "_law_style", "_law_job", "_law_plain_round", "_law_round", "_law_style_rows", "_law_job_text", "_law_round_rows", "_law_style_right", "_law_job_right", "_law_round_right"] : List Str)
theorem runL_false (w : World) : HandSHeadRun.RunEq RR (PySem.W.view RR.prog [62]) hkL obL 8000 looseL (w.withFollow "special-get-raises" false) := by
  intro os
  kernel_rfl
theorem runL_true (w : World) : HandSHeadRun.RunEq RR (PySem.W.view RR.prog [62]) hkL obL 8000 looseL (w.withFollow "special-get-raises" true) := by
  intro os
  kernel_rfl
theorem runL (w : World) : HandSHeadRun.RunEq RR (PySem.W.view RR.prog [62]) hkL obL 8000 looseL w :=
  PySem.W.byRow2 "special-get-raises" (P := fun w => HandSHeadRun.RunEq RR (PySem.W.view RR.prog [62]) hkL obL 8000 looseL w) runL_false runL_true w
end Bz
namespace Bz
open PySem PySem.Spec PyProof.Rows L2
set_option maxRecDepth 1500
set_option hygiene false
local macro_rules | `(tactic| tm_at "at") => `(tactic| (first | exact At.z | (apply At.s; tm_at "at")))
local macro_rules | `(tactic| tm_at "set") => `(tactic| (first | exact SetAt.z | (apply SetAt.s; tm_at "set")))
local macro_rules | `(tactic| tm_at "wiped") => `(tactic| (first | exact Wiped.nil | (apply Wiped.cons; tm_at "wiped"; tm_at "set")))
local macro_rules | `(tactic| tm_at "mem") => `(tactic| (first | exact List.Mem.head _ | (apply List.Mem.tail; tm_at "mem")))
local macro_rules | `(tactic| tm_at "put") => `(tactic| (first | exact Put.here | (apply Put.there; tm_at "put")))
local macro_rules | `(tactic| tm_at "hp") => `(tactic| (first | assumption | (refine' Is.get ?i1 ?i2; (case i1 => assumption); (case i2 => tm_at "mem")) | (refine' Is.getM ?i1 ?i2; (case i1 => assumption); (case i2 => tm_at "mem")) | (refine' Is.b ?i1 ?i2; (case i1 => assumption); (case i2 => assumption))))
local macro_rules | `(tactic| tm_at "sq") => `(tactic| (first | assumption | (refine' SqL.of ?i1; (case i1 => tm_at "hp")) | (refine' Is.sq ?i1 ?i2; (case i1 => assumption); (case i2 => assumption))))
local macro_rules | `(tactic| tm_at "st") => `(tactic| (first | assumption | (refine' SqT.of ?i1; (case i1 => tm_at "hp")) | (refine' Is.st ?i1 ?i2; (case i1 => assumption); (case i2 => assumption))))
local macro_rules | `(tactic| tm_at "arith") => `(tactic| (first | omega | decide | (simp only [List.length_map]; omega) | (simp only [List.length_cons, List.length_nil, List.length_append, List.length_map, List.length_replicate, List.length_set] <;> omega) | (simp only [List.length_cons, List.length_nil, List.length_append, List.length_map, List.length_replicate, List.length_set] at * <;> omega)))
local macro_rules | `(tactic| tm_at "kne") => `(tactic| (first | assumption | decide +kernel))
local macro_rules | `(tactic| tm_at "kget") => `(tactic| (first | exact KGet.here | (apply KGet.there; tm_at "kne"; tm_at "kget")))
local macro_rules | `(tactic| tm_at "nokey") => `(tactic| (first | exact NoKey.nil | (apply NoKey.cons; tm_at "kne"; tm_at "nokey")))
local macro_rules | `(tactic| tm_at "kput") => `(tactic| (first | (apply KPut.here; tm_at "nokey"; done) | (apply KPut.there; tm_at "kne"; tm_at "kput")))
local macro_rules | `(tactic| tm_at "snoc") => `(tactic| (first | exact Snoc.nil | (apply Snoc.cons; tm_at "snoc")))
local macro_rules | `(tactic| tm_at "mrg") => `(tactic| (first | exact Mrg.nil | (apply Mrg.str; tm_at "nokey"; tm_at "snoc"; tm_at "mrg") | (apply Mrg.int; tm_at "nokey"; tm_at "snoc"; tm_at "mrg")))
local macro_rules | `(tactic| tm_at "del") => `(tactic| (first | exact Del.here | (apply Del.there; tm_at "del")))
local macro_rules | `(tactic| tm_at "slen") => `(tactic| (first | assumption | omega | (apply plainS.len; assumption) | decide +kernel))
local macro_rules | `(tactic| tm_at "fget") => `(tactic| (first | exact FGet.here | (apply FGet.there; (case _ => decide +kernel); tm_at "fget")))
local macro_rules | `(tactic| tm_at "nof") => `(tactic| (first | exact NoF.nil | (apply NoF.cons; (case _ => decide +kernel); tm_at "nof")))
local macro_rules | `(tactic| tm_at "fput") => `(tactic| (first | exact FPut.nil | exact FPut.here | (apply FPut.there; (case _ => decide +kernel); tm_at "fput")))
local macro_rules | `(tactic| tm_at "thing") => `(tactic| first | assumption | exact Thing.same (Is.ex (by assumption)) (by assumption))
local macro_rules | `(tactic| tm_at "go1") => `(tactic| first
  | with_reducible refine' g_seq ?_
  | with_reducible refine' g_op ?_
  | ((with_reducible refine' g_var ?h1 ?_); (case h1 => tm_at "at"))
  | with_reducible refine' g_c ?_
  | with_reducible refine' g_asg ?_
  | ((with_reducible refine' g_name ?h1 ?_); (case h1 => tm_at "set"))
  | with_reducible refine' g_cons ?_
  | with_reducible refine' g_nil ?_
  | with_reducible refine' g_cl ?_
  | with_reducible refine' g_cb ?_
  | with_reducible refine' g_add_i ?_
  | with_reducible refine' g_rI0 ?_
  | with_reducible refine' g_rU ?_
  | ((with_reducible refine' g_mul_i ?h1 ?_); (case h1 => (unfold CMul; omega)))
  | ((with_reducible refine' g_pow ?h1 ?h2 ?_); (case h1 => first | decide | (unfold CPow; omega)); (case h2 => (simp only [Int.reduceToNat, Int.reducePow]; exact rfl)))
  | ((with_reducible refine' g_rI ?h1 ?_); (case h1 => first | omega | (unfold CDiv; omega) | (unfold CPow; omega) | decide | (simp only [List.length_map, List.length_cons, List.length_append]; omega)))
  | with_reducible refine' g_ifS ?_
  | with_reducible refine' g_test ?_
  | with_reducible refine' g_bl ?_
  | with_reducible refine' g_tr ?_
  | with_reducible refine' g_tru_bl ?_
  | with_reducible refine' g_tru_non ?_
  | with_reducible refine' g_true ?_
  | with_reducible refine' g_false ?_
  | with_reducible refine' g_ntrue ?_
  | with_reducible refine' g_nfalse ?_
  | with_reducible refine' g_and ?_
  | with_reducible refine' g_or ?_
  | with_reducible refine' g_not ?_
  | with_reducible refine' g_andV ?_
  | with_reducible refine' g_orV ?_
  | with_reducible refine' g_ifV ?_
  | with_reducible refine' g_notV ?_
  | with_reducible refine' g_aNot ?_
  | with_reducible refine' g_ifE ?_
  | with_reducible refine' g_chain ?_
  | with_reducible refine' g_chain3 ?_
  | with_reducible refine' g_un ?_
  | with_reducible refine' g_ret ?_
  | with_reducible refine' g_retN ?_
  | with_reducible refine' g_drop ?_
  | with_reducible refine' g_next ?_
  | with_reducible refine' g_par ?_
  | ((with_reducible refine' g_par2 ?h1 ?h2 ?_); (case h1 => tm_at "set"); (case h2 => tm_at "set"))
  | with_reducible refine' g_lst ?_
  | with_reducible refine' g_tup ?_
  | with_reducible refine' g_isNo ?_
  | ((with_reducible refine' g_isiT ?h1 ?h2 ?h3 ?_); (case h1 => tm_at "thing"); (case h2 => decide); (case h3 => decide))
  | ((with_reducible refine' g_isiF ?h1 ?h2 ?h3 ?_); (case h1 => tm_at "thing"); (case h2 => decide); (case h3 => decide))
  | ((with_reducible refine' g_isi2T ?h0 ?h1 ?h2 ?h3 ?h4 ?_); (case h0 => tm_at "hp"); (case h1 => tm_at "thing"); (case h2 => decide); (case h3 => decide); (case h4 => decide))
  | ((with_reducible refine' g_isi2F ?h0 ?h1 ?h2 ?h3 ?h4 ?_); (case h0 => tm_at "hp"); (case h1 => tm_at "thing"); (case h2 => decide); (case h3 => decide); (case h4 => decide))
  | with_reducible refine' g_noNo ?_
  | ((with_reducible refine' g_eq_s ?h1 ?_); (case h1 => rfl))
  | ((with_reducible refine' g_ne_s ?h1 ?_); (case h1 => rfl))
  | with_reducible refine' g_in_c ?_
  | with_reducible refine' g_nin_c ?_
  | with_reducible refine' g_dget ?_
  | with_reducible refine' g_dput ?_
  | with_reducible refine' g_pnil ?_
  | with_reducible refine' g_pcons ?_
  | ((with_reducible refine' g_disp ?h1 ?_); (case h1 => assumption); clear hI; intro p H hI)
  | ((with_reducible refine' g_newK ?h1 ?_); (case h1 => assumption); clear hI; intro p H hI)
  | ((with_reducible refine' g_aDisp ?h0 ?h1 ?h2 ?h3 ?h4 ?_); (case h0 => assumption); (case h1 => tm_at "hp"); (case h2 => tm_at "mrg"); (case h3 => tm_at "arith"); (case h4 => tm_at "put"); clear hI; intro H hI)
  | ((with_reducible refine' g_aDGet ?h1 ?h2 ?_); (case h1 => tm_at "hp"); (case h2 => tm_at "kget"))
  | ((with_reducible refine' g_aDPut ?h0 ?h1 ?h2 ?h3 ?h4 ?_); (case h0 => assumption); (case h1 => tm_at "hp"); (case h2 => tm_at "arith"); (case h3 => tm_at "kput"); (case h4 => tm_at "put"); clear hI; intro H hI)
  | ((with_reducible refine' g_aDPutM ?h0 ?h1 ?h2 ?h3 ?h4 ?_); (case h0 => assumption); (case h1 => tm_at "hp"); (case h2 => tm_at "arith"); (case h3 => tm_at "kput"); (case h4 => tm_at "put"); clear hI; intro H hI)
  | ((with_reducible refine' g_setL ?h0 ?h1 ?h2 ?h3 ?h4 ?_); (case h0 => assumption); (case h1 => tm_at "hp"); (case h2 => tm_at "arith"); (case h3 => tm_at "arith"); (case h4 => tm_at "put"); clear hI; intro H hI)
  | ((with_reducible refine' g_setLM ?h0 ?h1 ?h2 ?h3 ?h4 ?_); (case h0 => assumption); (case h1 => tm_at "hp"); (case h2 => tm_at "arith"); (case h3 => tm_at "arith"); (case h4 => tm_at "put"); clear hI; intro H hI)
  | ((with_reducible refine' g_len_s ?h1 ?_); (case h1 => tm_at "slen"))
  | ((with_reducible refine' g_len_l ?h1 ?_); (case h1 => tm_at "sq"))
  | ((with_reducible refine' g_len_t ?h1 ?_); (case h1 => tm_at "st"))
  | ((with_reducible refine' g_app ?h0 ?h1 ?h2 ?h3 ?_); (case h0 => assumption); (case h1 => tm_at "hp"); (case h2 => tm_at "arith"); (case h3 => tm_at "put"); clear hI; intro H hI)
  | with_reducible refine' g_sub ?_
  | with_reducible refine' g_sl ?_
  | with_reducible refine' g_noPart ?_
  | with_reducible refine' g_part ?_
  | with_reducible refine' g_aPart ?_
  | with_reducible refine' g_bm ?_
  | with_reducible refine' g_bm0 ?_
  | with_reducible refine' g_m1 ?_
  | with_reducible refine' g_isStr ?_
  | with_reducible refine' mt_tyS ?_
  | ((with_reducible refine' g_tyL ?h1 ?_); (case h1 => tm_at "hp"))
  | with_reducible refine' g_lc ?_
  | with_reducible refine' g_for ?_
  | with_reducible refine' g_iAny ?_
  | with_reducible refine' g_rng1 ?_
  | with_reducible refine' g_rng2 ?_
  | with_reducible refine' g_enumA ?_
  | ((with_reducible refine' g_aEnumL ?h1 ?_); (case h1 => tm_at "sq"))
  | ((with_reducible refine' g_aEnumT ?h1 ?_); (case h1 => tm_at "st"))
  | with_reducible refine' g_zipA ?_
  | with_reducible refine' g_zip3 ?_
  | ((with_reducible refine' g_aZip3 ?h1 ?h2 ?h3 ?_); (case h1 => tm_at "sq"); (case h2 => tm_at "sq"); (case h3 => tm_at "sq"))
  | ((with_reducible refine' g_aZipL ?h1 ?h2 ?_); (case h1 => tm_at "sq"); (case h2 => tm_at "sq"))
  | ((with_reducible refine' g_aZipT ?h1 ?h2 ?_); (case h1 => tm_at "st"); (case h2 => tm_at "st"))
  | with_reducible refine' g_par3 ?_
  | ((with_reducible refine' g_par3b ?h1 ?h2 ?h3 ?_); (case h1 => tm_at "set"); (case h2 => tm_at "set"); (case h3 => tm_at "set"))
  | with_reducible refine' g_me ?_
  | ((with_reducible refine' g_aMe ?h1 ?h2 ?_); (case h1 => tm_at "hp"); (case h2 => tm_at "nof"))
  | with_reducible refine' g_mk ?_
  | ((with_reducible refine' g_aMk ?h0 ?h1 ?h2 ?_); (case h0 => assumption); (case h1 => exact rfl); (case h2 => exact rfl); clear hI; intro x dx H hI; (dsimp only [pick, nth, List.cons_append, List.nil_append]))
  | with_reducible refine' g_fld ?_
  | ((with_reducible refine' g_aFld ?h1 ?h2 ?h3 ?h4 ?_); (case h1 => tm_at "hp"); (case h2 => assumption); (case h3 => assumption); (case h4 => tm_at "fget"))
  | with_reducible refine' g_setF ?_
  | ((with_reducible refine' g_aSetF ?h0 ?h1 ?h2 ?h3 ?h4 ?h5 ?h6 ?_); (case h0 => assumption); (case h1 => tm_at "hp"); (case h2 => assumption); (case h3 => assumption); (case h4 => tm_at "arith"); (case h5 => tm_at "fput"); (case h6 => tm_at "put"); clear hI; intro H hI)
  | ((with_reducible refine' g_aug ?h1 ?_); (case h1 => tm_at "at"))
  | ((with_reducible refine' g_set ?h1 ?_); (case h1 => tm_at "set"))
  | with_reducible refine' g_ipI ?_
  | with_reducible refine' g_max2 ?_
  | with_reducible refine' g_min2 ?_
  | ((with_reducible refine' g_tupOf ?h1 ?h2 ?_); (case h1 => assumption); (case h2 => tm_at "sq"); clear hI; intro p H hI)
  | ((with_reducible refine' g_listOfL ?h1 ?h2 ?_); (case h1 => assumption); (case h2 => tm_at "sq"); clear hI; intro p H hI)
  | ((with_reducible refine' g_listOfT ?h1 ?h2 ?_); (case h1 => assumption); (case h2 => tm_at "st"); clear hI; intro p H hI)
  | ((with_reducible refine' g_aRng1 ?h1 ?_); (case h1 => tm_at "arith"))
  | ((with_reducible refine' g_aRng2 ?h1 ?_); (case h1 => tm_at "arith"))
  | with_reducible refine' g_it_s ?_
  | ((with_reducible refine' g_it_l ?h1 ?_); (case h1 => tm_at "sq"))
  | ((with_reducible refine' g_it_t ?h1 ?_); (case h1 => tm_at "st"))
  | with_reducible refine' g_yes ?_
  | with_reducible refine' g_gCons ?_
  | ((with_reducible refine' g_gTup ?h1 ?h2 ?_); (case h1 => tm_at "st"); (case h2 => exact rfl))
  | with_reducible refine' g_gNil ?_
  | ((with_reducible refine' g_aLst ?h1 ?h2 ?_); (case h1 => assumption); (case h2 => tm_at "arith"); clear hI; intro p H hI)
  | ((with_reducible refine' g_aTup ?h1 ?h2 ?_); (case h1 => assumption); (case h2 => tm_at "arith"); clear hI; intro p H hI)
  | ((with_reducible refine' g_aCl ?h1 ?h2 ?_); (case h1 => exact rfl); (case h2 => exact rfl); (dsimp only [pick, nth, List.cons_append, List.nil_append]))
)
local macro_rules | `(tactic| tm_at "go") => `(tactic| repeat (tm_at "go1"))
local macro_rules | `(tactic| tm_at "sub") => `(tactic| (first | exact List.Sublist.refl _ | exact List.nil_sublist _ | (apply List.Sublist.cons₂; tm_at "sub") | (apply List.Sublist.cons; tm_at "sub")))
local macro_rules | `(tactic| tm_at "is") => `(tactic| (first | assumption | (refine' Is.forget ?s1 ?s2; (case s1 => assumption); (case s2 => tm_at "sub"))))
local macro_rules | `(tactic| tm_at "next") => `(tactic| (repeat (first | with_reducible refine' g_next ?_ | with_reducible refine' g_bl ?_ | with_reducible refine' g_true ?_ | with_reducible refine' g_false ?_)))
local macro_rules | `(tactic| tm_at "draw") => `(tactic| ((refine' ap_law_draw (K := K) hI hd (by omega) (by tm_at "arith") (by tm_at "arith") ?_); clear hI hd; intro r H M hr0 hr1 hI hd))
local macro_rules | `(tactic| tm_at "stop") => `(tactic| (repeat (first | with_reducible refine' g_asg ?_ | with_reducible refine' g_c ?_ | ((with_reducible refine' g_var ?h1 ?_); (case h1 => tm_at "at")) | ((with_reducible refine' g_name ?h1 ?_); (case h1 => tm_at "set")) | with_reducible refine' g_next ?_)))
local macro_rules | `(tactic| tm_at "prm") => `(tactic| (first | exact List.Perm.refl _ | (apply List.Perm.cons; tm_at "prm") | exact List.Perm.swap _ _ _ | (refine' List.Perm.trans ?p1 (List.Perm.swap _ _ _); (case p1 => apply List.Perm.cons; tm_at "prm"))))
def sp_law_mixed (K : PySem.W.Frag) : Sp := fun vs H Q _ => vs.length = 2 ∧ ∃ c k : Int, vs = [.int c, .int k] ∧ 0 ≤ k ∧ k < 2 ^ 60 ∧ ∀ r : Int, 0 ≤ r → r < 400000000 → Q (.int r) H
theorem ap_law_mixed {K : PySem.W.Frag} {H : Hp} {Q : VK} {E : XK} {c k : Int} (h0 : 0 ≤ k) (h1 : k < 2 ^ 60) (q : ∀ r : Int, 0 ≤ r → r < 400000000 → Q (.int r) H) : sp_law_mixed K [.int c, .int k] H Q E :=
  ⟨rfl, c, k, rfl, h0, h1, q⟩
/-- the state of the draws at m: at most n draws so far -/
def Dr (m : Addr) (n : Int) (B : Hp) (M : List (Addr × HO)) : Prop := ∃ (c l : Addr) (cs ls : List Int) (k : Int),
  M = [(m, .dK [(Sum.inr "cells", .ref c), (Sum.inr "left", .ref l), (Sum.inr "spot", .int k)]), (l, .lst (ls.map V.int))] ∧
  B c = some (.lst (cs.map V.int)) ∧ cs.length = 64 ∧ (∀ x ∈ cs, 0 ≤ x ∧ x < 2147483647) ∧ 0 ≤ k ∧ k ≤ n
theorem Dr.same {m : Addr} {n : Int} {B B' : Hp} {M : List (Addr × HO)} (s : Same B B') (d : Dr m n B M) : Dr m n B' M := by
  obtain ⟨c, l, cs, ls, k, h1, h2, h3⟩ := d
  exact ⟨c, l, cs, ls, k, h1, s _ _ h2, h3⟩
theorem Dr.mono {m : Addr} {n n' : Int} {B : Hp} {M : List (Addr × HO)} (h : n ≤ n') (d : Dr m n B M) : Dr m n' B M := by
  obtain ⟨c, l, cs, ls, k, h1, h2, h3, h4, h5, h6⟩ := d
  exact ⟨c, l, cs, ls, k, h1, h2, h3, h4, h5, by omega⟩
def sp_law_draw (K : PySem.W.Frag) : Sp := fun vs H Q _ => vs.length = 2 ∧ ∃ (m : Addr) (many n : Int) (B : Hp) (M L : List (Addr × HO)), vs = [.ref m, .int many] ∧ Is B M L H ∧ Dr m n B M ∧ n < 2 ^ 40 ∧ 0 < many ∧ many < 1073741824 ∧
  ∀ (r : Int) (H' : Hp) (M' : List (Addr × HO)), 0 ≤ r → r < many → Is B M' L H' → Dr m (n + 1) B M' → Q (.int r) H'
theorem ap_law_draw {K : PySem.W.Frag} {H : Hp} {Q : VK} {E : XK} {m : Addr} {many n : Int} {B : Hp} {M L : List (Addr × HO)} (I : Is B M L H) (d : Dr m n B M) (h1 : n < 2 ^ 40) (h2 : 0 < many) (h3 : many < 1073741824)
    (q : ∀ (r : Int) (H' : Hp) (M' : List (Addr × HO)), 0 ≤ r → r < many → Is B M' L H' → Dr m (n + 1) B M' → Q (.int r) H') : sp_law_draw K [.ref m, .int many] H Q E :=
  ⟨rfl, m, many, n, B, M, L, rfl, I, d, h1, h2, h3, q⟩
abbrev t_law_mixed_0 (K : PySem.W.Frag) : TS := (tRet (tOp (rI CDiv fun i j => .int (i / j)) (tOp (rI (fun _ j => 0 < j) fun i j => .int (i % j)) (tOp rMulA (tVar 2) (tC (.int 69621))) (tC (.int 2147483629))) (tC (.int 7))))
def t_law_mixed (K : PySem.W.Frag) : TS := (tSeq (tAsg (tOp (rAddA K) (tOp (rAddA K) (tOp (rI (fun _ j => 0 < j) fun i j => .int (i % j)) (tOp rMulA (tOp rMulA (tVar 0) (tOp (rAddA K) (tC (.int 1)) (tOp rMulA (tC (.int 2)) (tVar 1)))) (tC (.int 48271))) (tC (.int 2147483647))) (tOp rMulA (tOp rMulA (tC (.int 7919)) (tVar 1)) (tVar 1))) (tOp rMulA (tC (.int 104729)) (tVar 1))) (gName 2)) (t_law_mixed_0 K))
theorem rd_law_mixed {K : PySem.W.Frag} (vs : List V) (H : Hp) (Q : VK) (E : XK) (h : sp_law_mixed K vs H Q E) : t_law_mixed K { nx := fun _ H' => Q .non H', rt := Q } (start ["cell", "k", "turned"] vs) H := by
  obtain ⟨_, c, k, rfl, h0, h1, q⟩ := h
  show t_law_mixed K ⟨_, _, _, _⟩ [some (.int c), some (.int k), none] H
  unfold t_law_mixed
  tm_at "go"
  exact q _ (by omega) (by omega)
theorem ints_get {ns : List Int} {i : Nat} (h : i < ns.length) : (ns.map V.int)[i]? = some (.int (ns[i])) := by simp [h]
theorem dp_ints {K : PySem.W.Frag} {H : Hp} : ∀ ns : List Int, DpAll K H (ns.map V.int) (ns.map PyData.int)
  | [] => .nil
  | n :: ns => .cons (.int n) (dp_ints ns)
abbrev t_law_draw_0 (K : PySem.W.Frag) : TS := (tRet (tOp (rI (fun _ j => 0 < j) fun i j => .int (i % j)) (tVar 4) (tVar 1)))
abbrev t_law_draw_1 (K : PySem.W.Frag) : TS := (tIfS (tTest (tOp (rI0 fun i j => .bl (decide (j < i))) (tVar 4) (tC (.int 0)))) (tSeq (tAsg (tOp (rI CDiv fun i j => .int (i / j)) (tVar 4) (tVar 1)) (gSub (tDGet (tVar 0) (tC (.str "left"))) (tVar 3) rSetL)) (t_law_draw_0 K)) tNext)
abbrev t_law_draw_2 (K : PySem.W.Frag) : TS := (tSeq (tAsg (tOp (rIx K) (tDGet (tVar 0) (tC (.str "left"))) (tVar 3)) (gName 4)) (t_law_draw_1 K))
abbrev t_law_draw_3 (K : PySem.W.Frag) : TS := (tRet (tOp (rI (fun _ j => 0 < j) fun i j => .int (i % j)) (tCl 2 0 (sp_law_mixed K) (fun vs zs => pick .non [0, 1] (vs ++ zs)) E0 (tCons (tCl 2 0 (sp_law_mixed K) (fun vs zs => pick .non [0, 1] (vs ++ zs)) E0 (tCons (tOp (rAddA K) (tOp (rIx K) (tDGet (tVar 0) (tC (.str "cells"))) (tOp (rI (fun _ j => 0 < j) fun i j => .int (i % j)) (tVar 2) (tC (.int 64)))) (tOp rMulA (tC (.int 31)) (tOp (rI CDiv fun i j => .int (i / j)) (tVar 2) (tC (.int 64))))) (tCons (tVar 2) tNil)) tNil) (tCons (tOp (rAddA K) (tVar 2) (tC (.int 7))) tNil)) tNil) (tVar 1)))
abbrev t_law_draw_4 (K : PySem.W.Frag) : TS := (tSeq (tIfS (tTest (tOp (rNeA K) (tDGet (tVar 0) (tC (.str "left"))) (tLst tNil))) (tSeq (tAsg (tOp (rI (fun _ j => 0 < j) fun i j => .int (i % j)) (tVar 2) (tCB (rLen K) (tCons (tDGet (tVar 0) (tC (.str "left"))) tNil))) (gName 3)) (t_law_draw_2 K)) tNext) (t_law_draw_3 K))
abbrev t_law_draw_5 (K : PySem.W.Frag) : TS := (tSeq (sDPut (tVar 0) (tC (.str "spot")) (tOp (rAddA K) (tVar 2) (tC (.int 1)))) (t_law_draw_4 K))
def t_law_draw (K : PySem.W.Frag) : TS := (tSeq (tAsg (tDGet (tVar 0) (tC (.str "spot"))) (gName 2)) (t_law_draw_5 K))
theorem rd_law_draw {K : PySem.W.Frag} (vs : List V) (H : Hp) (Q : VK) (E : XK) (h : sp_law_draw K vs H Q E) : t_law_draw K { nx := fun _ H' => Q .non H', rt := Q } (start ["m", "many", "k", "spot", "cell"] vs) H := by
  obtain ⟨_, m, many, n, B, M, L, rfl, hI, ⟨c, l, cs, ls, k, rfl, hc, hcs, hb, hk0, hkn⟩, h1, h2, h3, q⟩ := h
  show t_law_draw K ⟨_, _, _, _⟩ [some (.ref m), some (.int many), none, none, none] H
  unfold t_law_draw
  tm_at "go"
  refine g_ne_d (.lst (by tm_at "sq") (dp_ints ls)) (.lst (xs := []) (by tm_at "sq") .nil) (PySem.W.ke_shaped_ints ls) rfl ?_
  tm_at "go"
  -- the last row: by the cells
  have last : ∀ (H : Hp) (x y : Option V), Is B [(m, HO.dK [(Sum.inr "cells", V.ref c), (Sum.inr "left", V.ref l), (Sum.inr "spot", V.int (k + 1))]), (l, HO.lst (List.map V.int ls))] ((p, HO.lst []) :: L) H →
      t_law_draw_3 K ⟨fun _ H' => Q .non H', Q, fun _ _ => False, fun _ _ => False⟩ [some (V.ref m), some (V.int many), some (V.int k), x, y] H := by
    intro H x y hI
    tm_at "go"
    have hk : (k % 64).toNat < cs.length := by omega
    refine g_ix_l (by tm_at "sq") (atI_of (by omega) (ints_get hk)) ?_
    tm_at "go"
    refine' ap_law_mixed (K := K) (by omega) (by omega) ?_
    intro r hr0 hr1
    tm_at "go"
    refine' ap_law_mixed (K := K) (by omega) (by omega) ?_
    intro r2 hr2 hr3
    tm_at "go"
    exact q _ _ _ (Int.emod_nonneg _ (by omega)) (Int.emod_lt_of_pos _ h2) (by tm_at "is") ⟨c, l, cs, ls, k + 1, rfl, hc, hcs, hb, by omega, by omega⟩
  cases ls with
  | nil =>
    refine g_nb (fun e => ?_) (fun e => ?_)
    · simp [PyData.eqv, PyData.eqvAll] at e
    · exact g_next (last _ _ _ hI)
  | cons z zs =>
    refine g_nb (fun e => ?_) (fun e => ?_)
    · tm_at "go"
      have hp : 0 < ((z :: zs).length : Int) := by simp only [List.length_cons]; omega
      have hlt := Int.emod_lt_of_pos k hp
      have hge := Int.emod_nonneg k (by omega : ((z :: zs).length : Int) ≠ 0)
      rw [List.length_map]
      generalize hi : k % ((z :: zs).length : Int) = i at *
      have hk : i.toNat < (z :: zs).length := by omega
      refine g_ix_l (by tm_at "sq") (atI_of hge (ints_get hk)) ?_
      tm_at "go"
      refine g_dec (fun h => ?_) (fun h => ?_)
      · tm_at "go"
        refine q _ _ _ (Int.emod_nonneg _ (by omega)) (Int.emod_lt_of_pos _ h2) (by tm_at "is") ⟨c, l, cs, (z :: zs).set i.toNat ((z :: zs)[i.toNat] / many), k + 1, ?_, hc, hcs, hb, by omega, by omega⟩
        rw [List.map_set]
      · tm_at "next"
        exact last _ _ _ hI
    · simp [PyData.eqv, PyData.eqvAll] at e
/-! the cells that all is drawn by -/
def sp_law_folded (K : PySem.W.Frag) : Sp := fun vs H Q _ => vs.length = 1 ∧ ∃ (a : Addr) (ns : List Int) (B : Hp) (M L : List (Addr × HO)), vs = [.ref a] ∧ Is B M L H ∧ SqL K B a (ns.map V.int) ∧ ns.length ≤ 63 ∧
  ∀ (p : Addr) (cs : List Int) (H' : Hp), cs.length = 64 → (∀ x ∈ cs, 0 ≤ x ∧ x < 2147483647) → Is B M ((p, .lst (cs.map V.int)) :: L) H' → Q (.ref p) H'
abbrev t_law_folded_0 (K : PySem.W.Frag) : TS := (tAsg (tOp (rI (fun _ j => 0 < j) fun i j => .int (i % j)) (tOp (rAddA K) (tOp rMulA (tOp (rIx K) (tVar 1) (tOp (rI (fun _ j => 0 < j) fun i j => .int (i % j)) (tVar 2) (tC (.int 64)))) (tC (.int 48271))) (tVar 3)) (tC (.int 2147483647))) (gSub (tVar 1) (tOp (rI (fun _ j => 0 < j) fun i j => .int (i % j)) (tVar 2) (tC (.int 64))) rSetL))
abbrev t_law_folded_1 (K : PySem.W.Frag) : TS := (tAsg (tOp (rI (fun _ j => 0 < j) fun i j => .int (i % j)) (tOp (rAddA K) (tOp (rIx K) (tVar 1) (tVar 2)) (tOp rMulA (tOp (rIx K) (tVar 1) (tOp (rI0 fun i j => .int (i - j)) (tVar 2) (tC (.int 1)))) (tC (.int 16807)))) (tC (.int 2147483647))) (gSub (tVar 1) (tVar 2) rSetL))
abbrev t_law_folded_2 (K : PySem.W.Frag) : TS := (tRet (tVar 1))
abbrev t_law_folded_3 (K : PySem.W.Frag) : TS := (tSeq (tFor (iRng2 (tCons (tC (.int 1)) (tCons (tC (.int 64)) tNil))) (gName 2) (t_law_folded_1 K)) (t_law_folded_2 K))
abbrev t_law_folded_4 (K : PySem.W.Frag) : TS := (tSeq (tFor (iEnumA K (tCons (tVar 0) tNil)) (gTup K 2 (gCons (gName 2) (gCons (gName 3) gNil))) (t_law_folded_0 K)) (t_law_folded_3 K))
def t_law_folded (K : PySem.W.Frag) : TS := (tSeq (tAsg (tLc (iRng1 (tCons (tC (.int 64)) tNil)) (gName 2) tYes (tOp (rAddA K) (tC (.int 17)) (tVar 2)) [2]) (gName 1)) (t_law_folded_4 K))
theorem rd_law_folded {K : PySem.W.Frag} (vs : List V) (H : Hp) (Q : VK) (E : XK) (h : sp_law_folded K vs H Q E) : t_law_folded K { nx := fun _ H' => Q .non H', rt := Q } (start ["script", "found", "k", "cell"] vs) H := by
  obtain ⟨_, a, ns, B, M, L, rfl, hI, ha, hl, q⟩ := h
  show t_law_folded K ⟨_, _, _, _⟩ [some (.ref a), none, none, none] H
  unfold t_law_folded
  tm_at "go"
  refine' g_aLc walk_range hI (by tm_at "wiped") (by decide) (fun i acc B' M' => B' = B ∧ M' = M ∧ ∃ cs : List Int, acc = cs.map V.int ∧ cs.length = i ∧ ∀ x ∈ cs, 0 ≤ x ∧ x < 2147483647) ⟨rfl, rfl, [], rfl, rfl, fun x hx => by cases hx⟩ (fun _ _ _ _ _ _ _ _ _ _ => trivial) ?_ ?_
  · rintro i x acc B' M' D H' H'' hi s hI' ⟨rfl, rfl, cs, rfl, hl, hb⟩ ⟨rfl, rfl⟩ hz
    tm_at "go"
    refine' g_wiped (by tm_at "wiped") ?_
    tm_at "go"
    refine' lcY s hI' hz ⟨rfl, rfl, cs ++ [17 + (0 + (i : Int))], by simp, by simp [hl], ?_⟩
    intro y hy
    rcases List.mem_append.mp hy with e | e
    · exact hb y e
    · rw [List.mem_singleton.mp e]
      have : i < 64 := hi
      omega
  rintro acc B' M' p H' s hI ⟨rfl, rfl, cs, rfl, hcl, hcb⟩ _
  have hcl : cs.length = 64 := hcl
  tm_at "go"
  -- for k, cell in enumerate(script)
  refine' g_aFor walk_enum (fun i σ H => ∃ (x y : Option V) (cs : List Int), σ = [some (.ref a), some (.ref p), x, y] ∧ Is B' M' ((p, .lst (cs.map V.int)) :: L) H ∧ cs.length = 64 ∧ ∀ x ∈ cs, 0 ≤ x ∧ x < 2147483647)
    ⟨_, _, cs, rfl, hI, hcl, hcb⟩ (fun i σ H _ ⟨_, _, cs, _, hI, _⟩ => Is.sq hI ha) ?_ ?_
  · rintro i x σ H H' hi ⟨x0, y0, cs, rfl, hI, hcl, hcb⟩ ⟨T, y, z, rfl, hT, rfl, e1, e2⟩
    cases e1
    have hin : i < ns.length := by rwa [List.length_map] at hi
    have e2 : (ns.map V.int)[i]? = some z := e2
    rw [ints_get hin] at e2
    cases e2
    have hI := hI.new (o := .tup [V.int (i : Int), V.int ns[i]]) hT
    tm_at "go"
    have hk : ((i : Int) % 64).toNat < cs.length := by omega
    refine g_ix_l (by tm_at "sq") (atI_of (by omega) (ints_get hk)) ?_
    have hv := hcb _ (List.getElem_mem hk)
    tm_at "go"
    refine' ⟨_, _, cs.set ((i : Int) % 64).toNat ((cs[((i : Int) % 64).toNat] * 48271 + ns[i]) % 2147483647), rfl, ?_, by simpa using hcl, ?_⟩
    · rw [List.map_set]
      exact hI.forget (by tm_at "sub")
    · intro x hx
      rcases List.mem_or_eq_of_mem_set hx with e | e
      · exact hcb x e
      · rw [e]
        omega
  rintro σ H ⟨x0, y0, cs, rfl, hI, hcl, hcb⟩
  tm_at "go"
  -- for k in range(1, 64)
  refine' g_aFor walk_range (fun i σ H => ∃ (x y : Option V) (cs : List Int), σ = [some (.ref a), some (.ref p), x, y] ∧ Is B' M' ((p, .lst (cs.map V.int)) :: L) H ∧ cs.length = 64 ∧ ∀ x ∈ cs, 0 ≤ x ∧ x < 2147483647)
    ⟨_, _, cs, rfl, hI, hcl, hcb⟩ (fun _ _ _ _ _ => trivial) ?_ ?_
  · rintro i x σ H H' hi ⟨x0, y0, cs, rfl, hI, hcl, hcb⟩ ⟨rfl, rfl⟩
    have hi : i < 63 := hi
    tm_at "go"
    have hk : (1 + (i : Int)).toNat < cs.length := by omega
    have hk1 : (1 + (i : Int) - 1).toNat < cs.length := by omega
    refine g_ix_l (by tm_at "sq") (atI_of (by omega) (ints_get hk)) ?_
    have hv := hcb _ (List.getElem_mem hk)
    tm_at "go"
    refine g_ix_l (by tm_at "sq") (atI_of (by omega) (ints_get hk1)) ?_
    have hv1 := hcb _ (List.getElem_mem hk1)
    tm_at "go"
    refine' ⟨_, _, cs.set (1 + (i : Int)).toNat ((cs[(1 + (i : Int)).toNat] + cs[(1 + (i : Int) - 1).toNat] * 16807) % 2147483647), rfl, ?_, by simpa using hcl, ?_⟩
    · rw [List.map_set]
      exact hI.forget (by tm_at "sub")
    · intro x hx
      rcases List.mem_or_eq_of_mem_set hx with e | e
      · exact hcb x e
      · rw [e]
        omega
  rintro σ H ⟨x0, y0, cs, rfl, hI, hcl, hcb⟩
  tm_at "go"
  exact q p cs H hcl hcb hI
def sp_law_begun (K : PySem.W.Frag) : Sp := fun vs H Q _ => vs.length = 1 ∧ ∃ (a : Addr) (ns : List Int) (B : Hp) (L : List (Addr × HO)), vs = [.ref a] ∧ Is B [] L H ∧ SqL K B a (ns.map V.int) ∧ ns.length ≤ 63 ∧
  ∀ (m : Addr) (B' : Hp) (M' : List (Addr × HO)) (H' : Hp), Same B B' → Is B' M' L H' → Dr m 0 B' M' → Q (.ref m) H'
abbrev t_law_begun_0 (K : PySem.W.Frag) : TS := (tRet (tVar 1))
abbrev t_law_begun_1 (K : PySem.W.Frag) : TS := (tSeq (sDPut (tVar 1) (tC (.str "left")) (tLc (iAny K (tVar 0)) (gName 2) tYes (tIf (tTest (tOp (rI0 fun i j => .bl (decide (j ≤ i))) (tVar 2) (tOp (rI CPow fun i j => .int (i ^ j.toNat)) (tC (.int 10)) (tC (.int 18))))) (tVar 2) (tC (.int 0))) [2])) (t_law_begun_0 K))
def t_law_begun (K : PySem.W.Frag) : TS := (tSeq (tAsg (tDisp [((tC (.str "cells")), (tCl 1 0 (sp_law_folded K) (fun vs zs => pick .non [0] (vs ++ zs)) E0 (tCons (tVar 0) tNil) tNil)), ((tC (.str "left")), (tLst tNil)), ((tC (.str "spot")), (tC (.int 0)))]) (gName 1)) (t_law_begun_1 K))
theorem rd_law_begun {K : PySem.W.Frag} (vs : List V) (H : Hp) (Q : VK) (E : XK) (h : sp_law_begun K vs H Q E) : t_law_begun K { nx := fun _ H' => Q .non H', rt := Q } (start ["script", "m", "cell"] vs) H := by
  obtain ⟨_, a, ns, B, L, rfl, hI, ha, hl, q⟩ := h
  show t_law_begun K ⟨_, _, _, _⟩ [some (.ref a), none, none] H
  unfold t_law_begun
  tm_at "go"
  revert p
  intro m hI
  refine' ⟨rfl, a, ns, B, [], _, rfl, hI, ha, hl, ?_⟩
  clear hI
  intro c cs H hcs hcb hI
  tm_at "go"
  refine' g_aLc walk_list hI (by tm_at "wiped") (by rw [List.length_map]; omega) (fun i acc B' M' => B' = B ∧ M' = [] ∧ ∃ ls : List Int, acc = ls.map V.int) ⟨rfl, rfl, [], rfl⟩ (fun _ _ _ _ _ _ _ s hI' _ => Is.sq hI' (Same.seq s ha)) ?_ ?_
  · rintro i x acc B' M' D H' H'' hi s hI' ⟨rfl, rfl, ls, rfl⟩ ⟨rfl, hx⟩ hz
    have hin : i < ns.length := by rwa [List.length_map] at hi
    rw [ints_get hin] at hx
    cases hx
    tm_at "go"
    refine' g_wiped (by tm_at "wiped") ?_
    tm_at "go"
    refine g_dec (fun h => ?_) (fun h => ?_)
    · tm_at "go"
      exact lcY s hI' hz ⟨rfl, rfl, ls ++ [ns[i]], by simp⟩
    · tm_at "go"
      exact lcY s hI' hz ⟨rfl, rfl, ls ++ [0], by simp⟩
  rintro acc B' M' l H' s hI ⟨rfl, rfl, ls, rfl⟩ _
  tm_at "go"
  have hI := hI.pull (a := l) (by tm_at "del")
  have hI := hI.pull (a := m) (by tm_at "del")
  refine' hI.give (a := c) (by tm_at "del") ?_
  clear hI
  intro B2 s2 hc hI
  exact q m B2 _ _ s2 (by tm_at "is") ⟨c, l, cs, ls, 0, rfl, hc, hcs, hcb, by omega, by omega⟩
def Ints (lo hi : Int) (xs : List V) : Prop := ∀ x ∈ xs, ∃ w, x = .int w ∧ lo ≤ w ∧ w ≤ hi
theorem Ints.nil {lo hi : Int} : Ints lo hi [] := fun _ h => by cases h
theorem Ints.cons {lo hi w : Int} {xs : List V} (h : lo ≤ w ∧ w ≤ hi) (t : Ints lo hi xs) : Ints lo hi (.int w :: xs) := fun x hx => by
  rcases List.mem_cons.mp hx with e | e
  · exact ⟨w, e, h⟩
  · exact t x e
theorem g_ix_ints {K : PySem.W.Frag} {H : Hp} {Q : VK} {a : Addr} {xs : List V} {i lo hi : Int} (hs : SqL K H a xs) (h : Ints lo hi xs) (h0 : 0 ≤ i) (h1 : i < (xs.length : Int)) (q : ∀ w, lo ≤ w → w ≤ hi → Q (.int w) H) : rIx K (.ref a) (.int i) H Q := by
  have hl : i.toNat < xs.length := by omega
  obtain ⟨w, e, s1, s2⟩ := h _ (List.getElem_mem hl)
  exact g_ix_l hs (atI_of h0 (by rw [List.getElem?_eq_getElem hl, e])) (q w s1 s2)
/-! ### things of any kind, as isinstance sees them -/
inductive Kn where
  | non | bl | int | str | lst | tup | dct | obj
  deriving DecidableEq
def Kn.is : Kn → String → Bool
  | .bl, T => T == "bool" || T == "int"
  | .int, T => T == "int"
  | .str, T => T == "str"
  | .lst, T => T == "list"
  | .tup, T => T == "tuple"
  | _, _ => false
abbrev TYS : List String := ["int", "bool", "str", "list", "tuple"]
def Kn.fits (k : Kn) : V → Prop
  | .non => k = .non
  | .bl _ => k = .bl
  | .int _ => k = .int
  | .str z => k = .str ∧ plainS z
  | .ref _ => k = .lst ∨ k = .tup ∨ k = .dct ∨ k = .obj
  | _ => False
structure Thing (K : PySem.W.Frag) (H : Hp) (x : V) (k : Kn) : Prop where
  ty : ∃ t, TyX K H x t ∧ ∀ T ∈ TYS, PySem.W.kitOne K t (.type T) = some (k.is T)
  fit : k.fits x
theorem TyX.same {K : PySem.W.Frag} {H H' : Hp} {x : V} {t : Value} (s : Same H H') (h : TyX K H x t) : TyX K H' x t := by
  cases h with
  | base b =>
    refine .base ?_
    cases b with
    | non => exact .non
    | bl y => exact .bl y
    | int i => exact .int i
    | str y => exact .str y
    | flt y => exact .flt y
    | lst e => exact .lst (s _ _ e)
    | frz e => exact .frz (s _ _ e)
    | tup e => exact .tup (s _ _ e)
    | dK e => exact .dK (s _ _ e)
    | dT e => exact .dT (s _ _ e)
    | ins e a b c d f => exact .ins (s _ _ e) a b c d f
  | byt b => exact .byt b
  | set e => exact .set (s _ _ e)
  | kList e c => exact .kList e c
  | kTuple e c => exact .kTuple e c
  | kDict e c => exact .kDict e c
  | fTuple e => exact .fTuple (s _ _ e)
  | fDict e => exact .fDict (s _ _ e)
theorem Thing.same {K : PySem.W.Frag} {H H' : Hp} {x : V} {k : Kn} (s : Same H H') (h : Thing K H x k) : Thing K H' x k := by
  obtain ⟨⟨t, h1, h2⟩, f⟩ := h
  exact ⟨⟨t, TyX.same s h1, h2⟩, f⟩
theorem tys_mem {p : String → Prop} (h : p "int" ∧ p "bool" ∧ p "str" ∧ p "list" ∧ p "tuple") : ∀ T ∈ TYS, p T := by
  intro T hT
  obtain ⟨h1, h2, h3, h4, h5⟩ := h
  rcases List.mem_cons.mp hT with rfl | hT
  · exact h1
  rcases List.mem_cons.mp hT with rfl | hT
  · exact h2
  rcases List.mem_cons.mp hT with rfl | hT
  · exact h3
  rcases List.mem_cons.mp hT with rfl | hT
  · exact h4
  rcases List.mem_cons.mp hT with rfl | hT
  · exact h5
  cases hT
section
variable {K : PySem.W.Frag} {H : Hp} {a : Addr} {xs : List V}
theorem thing_non : Thing K H .non .non := ⟨⟨_, .base .non, tys_mem ⟨kit_ty (by decide +kernel), kit_ty (by decide +kernel), kit_ty (by decide +kernel), kit_ty (by decide +kernel), kit_ty (by decide +kernel)⟩⟩, rfl⟩
theorem thing_bl (b : Bool) : Thing K H (.bl b) .bl := ⟨⟨_, .base (.bl b), tys_mem ⟨kit_ty (by decide +kernel), kit_ty (by decide +kernel), kit_ty (by decide +kernel), kit_ty (by decide +kernel), kit_ty (by decide +kernel)⟩⟩, rfl⟩
theorem thing_int (i : Int) : Thing K H (.int i) .int := ⟨⟨_, .base (.int i), tys_mem ⟨kit_ty (by decide +kernel), kit_ty (by decide +kernel), kit_ty (by decide +kernel), kit_ty (by decide +kernel), kit_ty (by decide +kernel)⟩⟩, rfl⟩
theorem thing_str {z : Str} (h : plainS z) : Thing K H (.str z) .str := ⟨⟨_, .base (.str z), tys_mem ⟨kit_ty (by decide +kernel), kit_ty (by decide +kernel), kit_ty (by decide +kernel), kit_ty (by decide +kernel), kit_ty (by decide +kernel)⟩⟩, rfl, h⟩
theorem kit_list : ∀ T ∈ TYS, PySem.W.kitOne K (.type "list") (.type T) = some (Kn.lst.is T) := tys_mem ⟨kit_ty (by decide +kernel), kit_ty (by decide +kernel), kit_ty (by decide +kernel), kit_ty (by decide +kernel), kit_ty (by decide +kernel)⟩
theorem kit_tuple : ∀ T ∈ TYS, PySem.W.kitOne K (.type "tuple") (.type T) = some (Kn.tup.is T) := tys_mem ⟨kit_ty (by decide +kernel), kit_ty (by decide +kernel), kit_ty (by decide +kernel), kit_ty (by decide +kernel), kit_ty (by decide +kernel)⟩
theorem kit_dict : ∀ T ∈ TYS, PySem.W.kitOne K (.type "dict") (.type T) = some (Kn.dct.is T) := tys_mem ⟨kit_ty (by decide +kernel), kit_ty (by decide +kernel), kit_ty (by decide +kernel), kit_ty (by decide +kernel), kit_ty (by decide +kernel)⟩
theorem thing_lst (h : H a = some (.lst xs)) : Thing K H (.ref a) .lst := ⟨⟨_, .base (.lst h), kit_list⟩, .inl rfl⟩
theorem thing_tup (h : H a = some (.tup xs)) : Thing K H (.ref a) .tup := ⟨⟨_, .base (.tup h), kit_tuple⟩, .inr (.inl rfl)⟩
theorem thing_dct {kvs : List (Key × V)} (h : H a = some (.dK kvs)) : Thing K H (.ref a) .dct := ⟨⟨_, .base (.dK h), kit_dict⟩, .inr (.inr (.inl rfl))⟩
theorem g_isi {x : V} {k : Kn} {T : String} {Q : VK} (h : Thing K H x k) (hT : T ∈ TYS) (q : Q (.bl (k.is T)) H) : rIsi K [x, .ty T] H Q := by
  obtain ⟨⟨t, h1, h2⟩, _⟩ := h
  exact ⟨x, .ty T, t, _, _, rfl, .ty T, h1, h2 T hT, q⟩
theorem g_isiT {x : V} {k : Kn} {T : String} {Q : VK} (h : Thing K H x k) (hT : T ∈ TYS) (e : k.is T = true) (q : Q (.bl true) H) : rIsi K [x, .ty T] H Q := g_isi h hT (by rw [e]; exact q)
theorem g_isiF {x : V} {k : Kn} {T : String} {Q : VK} (h : Thing K H x k) (hT : T ∈ TYS) (e : k.is T = false) (q : Q (.bl false) H) : rIsi K [x, .ty T] H Q := g_isi h hT (by rw [e]; exact q)
theorem kit_of {t : Value} {k : Kn} {T : String} (h : ∀ T ∈ TYS, PySem.W.kitOne K t (.type T) = some (k.is T)) (hT : T ∈ TYS) : PySem.W.kitOne K t (.type T) = some (k.is T) := h T hT
/-- isinstance of one of two -/
theorem g_isi2 {x : V} {k : Kn} {T1 T2 : String} {tp : Addr} {Q : VK} (ht : H tp = some (.tup [.ty T1, .ty T2])) (h : Thing K H x k) (m1 : T1 ∈ TYS) (m2 : T2 ∈ TYS) (q : Q (.bl (k.is T1 || k.is T2)) H) : rIsiT K [x, .ref tp] H Q := by
  obtain ⟨⟨t, h1, h2⟩, _⟩ := h
  refine ⟨x, tp, _, t, _, k.is T1 || k.is T2, rfl, ht, .cons (.ty T1) (.cons (.ty T2) .nil), h1, ?_, q⟩
  refine kitAny_cons (kit_of h2 m1) (fun e => ?_) (fun e => by rw [e]; rfl)
  rw [e, Bool.false_or]
  exact kitAny_cons (kit_of h2 m2) (fun e => by rw [e]; rfl) (fun e => e)
theorem g_isi2T {x : V} {k : Kn} {T1 T2 : String} {tp : Addr} {Q : VK} (ht : H tp = some (.tup [.ty T1, .ty T2])) (h : Thing K H x k) (m1 : T1 ∈ TYS) (m2 : T2 ∈ TYS) (e : (k.is T1 || k.is T2) = true) (q : Q (.bl true) H) : rIsiT K [x, .ref tp] H Q := g_isi2 ht h m1 m2 (by rw [e]; exact q)
theorem g_isi2F {x : V} {k : Kn} {T1 T2 : String} {tp : Addr} {Q : VK} (ht : H tp = some (.tup [.ty T1, .ty T2])) (h : Thing K H x k) (m1 : T1 ∈ TYS) (m2 : T2 ∈ TYS) (e : (k.is T1 || k.is T2) = false) (q : Q (.bl false) H) : rIsiT K [x, .ref tp] H Q := g_isi2 ht h m1 m2 (by rw [e]; exact q)
theorem Thing.cases {x : V} {k : Kn} (h : Thing K H x k) {G : Prop} (h1 : x = .non → k = .non → G) (h2 : ∀ b, x = .bl b → k = .bl → G) (h3 : ∀ i, x = .int i → k = .int → G) (h4 : ∀ z, x = .str z → k = .str → plainS z → G)
    (h5 : ∀ a, x = .ref a → (k = .lst ∨ k = .tup ∨ k = .dct ∨ k = .obj) → G) : G := by
  have f := h.fit
  cases x with
  | non => exact h1 rfl f
  | bl b => exact h2 b rfl f
  | int i => exact h3 i rfl f
  | str z => exact h4 z rfl f.1 f.2
  | ref a => exact h5 a rfl f
  | _ => exact f.elim
theorem Kn.noInt {k : Kn} (h : k = .lst ∨ k = .tup ∨ k = .dct ∨ k = .obj) : k.is "int" = false ∧ k.is "bool" = false ∧ k.is "str" = false := by
  rcases h with rfl | rfl | rfl | rfl <;> decide
end
/-! ### whole numbers -/
def isWhole (x : V) (lo hi : Int) : Bool := match x with
  | .int n => decide (lo ≤ n) && decide (n ≤ hi)
  | _ => false
def sp_is_whole (K : PySem.W.Frag) : Sp := fun vs H Q _ => vs.length = 3 ∧ ∃ (x : V) (k : Kn) (lo hi : Int), vs = [x, .int lo, .int hi] ∧ Thing K H x k ∧ Q (.bl (isWhole x lo hi)) H
def t_is_whole (K : PySem.W.Frag) : TS := (tRet (tAndV (tCB (rIsi K) (tCons (tVar 0) (tCons (tC (.ty "int")) tNil))) (tAndV (tNotV (tCB (rIsi K) (tCons (tVar 0) (tCons (tC (.ty "bool")) tNil)))) (tChain (rI0 fun i j => .bl (decide (i ≤ j))) (rI0 fun i j => .bl (decide (i ≤ j))) (tVar 1) (tVar 0) (tVar 2)))))
theorem rd_is_whole {K : PySem.W.Frag} (vs : List V) (H : Hp) (Q : VK) (E : XK) (h : sp_is_whole K vs H Q E) : t_is_whole K { nx := fun _ H' => Q .non H', rt := Q } (start ["thing", "least", "most"] vs) H := by
  obtain ⟨_, x, k, lo, hi, rfl, hx, q⟩ := h
  show t_is_whole K ⟨_, _, _, _⟩ [some x, some (.int lo), some (.int hi)] H
  unfold t_is_whole
  tm_at "go"
  refine hx.cases ?_ ?_ ?_ ?_ ?_
  · rintro rfl rfl
    tm_at "go"
    exact q
  · rintro b rfl rfl
    tm_at "go"
    exact q
  · rintro n rfl rfl
    tm_at "go"
    refine g_dec (fun h => ?_) (fun h => ?_)
    · tm_at "go"
      have e : isWhole (.int n) lo hi = decide (n ≤ hi) := by
        show (decide (lo ≤ n) && decide (n ≤ hi)) = _
        rw [decide_eq_true h, Bool.true_and]
      rw [e] at q
      exact q
    · tm_at "go"
      have e : isWhole (.int n) lo hi = false := by
        show (decide (lo ≤ n) && decide (n ≤ hi)) = _
        rw [decide_eq_false h, Bool.false_and]
      rw [e] at q
      exact q
  · rintro z rfl rfl hp
    tm_at "go"
    exact q
  · rintro a rfl hk
    refine g_isiF hx (by decide) (Kn.noInt hk).1 ?_
    tm_at "go"
    exact q
/-! ### names -/
def letS : Str := "abcdefghijklmnopqrstuvwxyz"
def barVs : List V := [.str "style", .str "job", .str "round", .str "sew", .str "glue", .str "cover", .str "letter", .str "press", .str "hand", .str "haste"]
def isName (x : V) : Bool := match x with
  | .str z => decide (1 ≤ (z.length : Int)) && (decide ((z.length : Int) ≤ 8) && (!inV (.str z) barVs && z.cps.toList.all fun c => decide (c ∈ letS.cps.toList)))
  | _ => false
def sp_is_name (K : PySem.W.Frag) : Sp := fun vs H Q _ => vs.length = 1 ∧ ∃ (x : V) (k : Kn) (B : Hp) (M L : List (Addr × HO)), vs = [x] ∧ Is B M L H ∧ Thing K H x k ∧ ∀ H', Is B M L H' → Q (.bl (isName x)) H'
abbrev t_is_name_0 (K : PySem.W.Frag) : TS := (tRet (tCB (rAll K) (tCons (tLc (iAny K (tVar 0)) (gName 1) tYes (tOp (rInA K) (tVar 1) (tC (.str "abcdefghijklmnopqrstuvwxyz"))) [1]) tNil)))
def t_is_name (K : PySem.W.Frag) : TS := (tSeq (tIfS (tOr (tNot (tTr K (tCB (rIsi K) (tCons (tVar 0) (tCons (tC (.ty "str")) tNil))))) (tOr (tNot (tTest (tChain (rI0 fun i j => .bl (decide (i ≤ j))) (rI0 fun i j => .bl (decide (i ≤ j))) (tC (.int 1)) (tCB (rLen K) (tCons (tVar 0) tNil)) (tC (.int 8))))) (tTest (tOp (rInA K) (tVar 0) (tC (.ref (He.ga K "BARRED_WORDS"))))))) (tRet (tC (.bl false))) tNext) (t_is_name_0 K))
theorem rd_is_name {K : PySem.W.Frag} (hbar : ∀ H, SqT K H (He.ga K "BARRED_WORDS") barVs) (vs : List V) (H : Hp) (Q : VK) (E : XK) (h : sp_is_name K vs H Q E) : t_is_name K { nx := fun _ H' => Q .non H', rt := Q } (start ["thing", "sign"] vs) H := by
  obtain ⟨_, x, k, B, M, L, rfl, hI, hx, q⟩ := h
  show t_is_name K ⟨_, _, _, _⟩ [some x, none] H
  unfold t_is_name
  tm_at "go"
  refine hx.cases ?_ ?_ ?_ ?_ ?_
  · rintro rfl rfl
    tm_at "go"
    exact q _ hI
  · rintro b rfl rfl
    tm_at "go"
    exact q _ hI
  · rintro n rfl rfl
    tm_at "go"
    exact q _ hI
  · rintro z rfl rfl hp
    tm_at "go"
    have qq : Q (.bl (decide (1 ≤ (z.length : Int)) && (decide ((z.length : Int) ≤ 8) && (!inV (.str z) barVs && z.cps.toList.all fun c => decide (c ∈ letS.cps.toList))))) = Q (.bl (isName (.str z))) := rfl
    refine g_dec (fun h1 => ?_) (fun h1 => ?_)
    · tm_at "go"
      refine g_ndec (fun h2 => ?_) (fun h2 => ?_)
      · tm_at "go"
        have := q _ hI
        rw [← qq, decide_eq_true h1, decide_eq_false h2] at this
        exact this
      · tm_at "go"
        refine g_in_t (hbar H) rfl (by decide +kernel) ?_
        tm_at "go"
        refine g_b (fun h3 => ?_) (fun h3 => ?_)
        · tm_at "go"
          have := q _ hI
          rw [← qq, decide_eq_true h1, decide_eq_true h2, h3] at this
          exact this
        · tm_at "go"
          refine' g_lcS1 hI (by tm_at "wiped") (Nat.le_trans hp.1 (by decide)) (fun c => .bl (decide (c ∈ letS.cps.toList))) ?_ ?_
          · intro c D acc H' hc hI' PY hY
            tm_at "go"
            refine' g_wiped (by tm_at "wiped") ?_
            tm_at "go"
            exact hY _ hI'
          · intro D H' hI'
            tm_at "go"
            refine g_all (by tm_at "sq") ?_
            have := q _ (hI'.forget (by tm_at "sub"))
            rw [← qq, decide_eq_true h1, decide_eq_true h2, h3] at this
            exact this
    · tm_at "go"
      have := q _ hI
      rw [← qq, decide_eq_false h1] at this
      exact this
  · rintro a rfl hk
    refine g_isiF hx (by decide) (Kn.noInt hk).2.2 ?_
    tm_at "go"
    exact q _ hI
/-! ### numbers and words of texts -/
def digS : Str := "0123456789"
def digB (c : Nat) : Bool := decide (c ∈ digS.cps.toList)
def digV (l : List Nat) : Int := l.foldl (fun (n : Int) (c : Nat) => 10 * n + ((c : Int) - 48)) 0
theorem digB_bd {c : Nat} (h : digB c = true) : 48 ≤ c ∧ c ≤ 57 := by
  have e : digS.cps.toList = [48, 49, 50, 51, 52, 53, 54, 55, 56, 57] := by decide +kernel
  unfold digB at h
  rw [e] at h
  have := of_decide_eq_true h
  simp only [List.mem_cons, List.not_mem_nil, or_false] at this
  omega
theorem digV_nat : ∀ (l : List Nat) (a : Nat), (∀ c ∈ l, 48 ≤ c ∧ c ≤ 57) → l.foldl (fun (n : Int) (c : Nat) => 10 * n + ((c : Int) - 48)) (a : Int) = ((l.foldl (fun acc c => acc * 10 + (c - 48)) a : Nat) : Int)
  | [], _, _ => rfl
  | c :: l, a, h => by
    have hc := h c List.mem_cons_self
    rw [List.foldl_cons, List.foldl_cons, ← digV_nat l _ fun x hx => h x (List.mem_cons_of_mem _ hx)]
    congr 1
    omega
theorem intText_dig {z : Str} (h : z.cps.toList.all digB = true) (h0 : 1 ≤ z.length) (h1 : z.length ≤ 4300) : PySem.intText? z = some (digV z.cps.toList) := by
  have hb : ∀ c ∈ z.cps.toList, 48 ≤ c ∧ c ≤ 57 := fun c hc => digB_bd (List.all_eq_true.mp h c hc)
  have hne : z.cps.toList ≠ [] := fun e => by
    have : z.length = z.cps.toList.length := by simp [Str.length]
    rw [e] at this
    simp at this
    omega
  rw [PySem.intText_digits hb hne h1]
  congr 1
  exact (digV_nat z.cps.toList 0 hb).symm
theorem g_intS {K : PySem.W.Frag} {H : Hp} {Q : VK} {z : Str} (h : z.cps.toList.all digB = true) (h0 : 1 ≤ z.length) (h1 : z.length ≤ 600) (q : Q (.int (digV z.cps.toList)) H) : rIntS [.str z] H Q :=
  ⟨z, _, rfl, intText_dig h h0 (by omega), by omega, q⟩
def numOf (x : V) : V := match x with
  | .str z => if 1 ≤ z.length ∧ z.length ≤ 7 ∧ z.cps.toList.all digB = true ∧ ¬ (z.cps.toList.head? = some 48 ∧ z ≠ "0") then .int (digV z.cps.toList) else .non
  | _ => .non
theorem str_at0 {z : Str} (h : 1 ≤ z.length) : ∃ c, atI z.cps.toList 0 = some c ∧ z.cps.toList.head? = some c ∧ (decide (V.str ⟨#[c]⟩ = V.str "0") = decide (c = 48)) := by
  have e : z.length = z.cps.toList.length := by simp [Str.length]
  cases hz : z.cps.toList with
  | nil =>
    rw [hz] at e
    simp at e
    omega
  | cons c l =>
    refine ⟨c, atI_of (by omega) rfl, rfl, ?_⟩
    have h0 : ("0" : Str) = ⟨#[48]⟩ := by decide +kernel
    rw [h0]
    simp
def sp_number_of (K : PySem.W.Frag) : Sp := fun vs H Q _ => vs.length = 1 ∧ ∃ (x : V) (k : Kn) (B : Hp) (M L : List (Addr × HO)), vs = [x] ∧ Is B M L H ∧ Thing K H x k ∧ ∀ H', Is B M L H' → Q (numOf x) H'
abbrev t_number_of_0 (K : PySem.W.Frag) : TS := (tRet (tCB rIntS (tCons (tVar 0) tNil)))
abbrev t_number_of_1 (K : PySem.W.Frag) : TS := (tSeq (tIfS (tOr (tNot (tTr K (tCB (rAll K) (tCons (tLc (iAny K (tVar 0)) (gName 1) tYes (tOp (rInA K) (tVar 1) (tC (.str "0123456789"))) [1]) tNil)))) (tAnd (tTest (tOp (rEqA K) (tOp (rIx K) (tVar 0) (tC (.int 0))) (tC (.str "0")))) (tTest (tOp (rNeA K) (tVar 0) (tC (.str "0")))))) (tRet (tC .non)) tNext) (t_number_of_0 K))
def t_number_of (K : PySem.W.Frag) : TS := (tSeq (tIfS (tOr (tNot (tTr K (tCB (rIsi K) (tCons (tVar 0) (tCons (tC (.ty "str")) tNil))))) (tNot (tTest (tChain (rI0 fun i j => .bl (decide (i ≤ j))) (rI0 fun i j => .bl (decide (i ≤ j))) (tC (.int 1)) (tCB (rLen K) (tCons (tVar 0) tNil)) (tC (.int 7)))))) (tRet (tC .non)) tNext) (t_number_of_1 K))
theorem rd_number_of {K : PySem.W.Frag} (vs : List V) (H : Hp) (Q : VK) (E : XK) (h : sp_number_of K vs H Q E) : t_number_of K { nx := fun _ H' => Q .non H', rt := Q } (start ["word", "sign"] vs) H := by
  obtain ⟨_, x, k, B, M, L, rfl, hI, hx, q⟩ := h
  show t_number_of K ⟨_, _, _, _⟩ [some x, none] H
  unfold t_number_of
  tm_at "go"
  refine hx.cases ?_ ?_ ?_ ?_ ?_
  · rintro rfl rfl
    tm_at "go"
    exact q _ hI
  · rintro b rfl rfl
    tm_at "go"
    exact q _ hI
  · rintro n rfl rfl
    tm_at "go"
    exact q _ hI
  · rintro z rfl rfl hp
    tm_at "go"
    have no : ¬ (1 ≤ z.length ∧ z.length ≤ 7 ∧ z.cps.toList.all digB = true ∧ ¬ (z.cps.toList.head? = some 48 ∧ z ≠ "0")) → ∀ H', Is B M L H' → Q .non H' := fun hn H' hI' => by
      have := q _ hI'
      rwa [show numOf (.str z) = .non from if_neg hn] at this
    have ye : (1 ≤ z.length ∧ z.length ≤ 7 ∧ z.cps.toList.all digB = true ∧ ¬ (z.cps.toList.head? = some 48 ∧ z ≠ "0")) → ∀ H', Is B M L H' → Q (.int (digV z.cps.toList)) H' := fun hn H' hI' => by
      have := q _ hI'
      rwa [show numOf (.str z) = .int _ from if_pos hn] at this
    refine g_dec (fun h1 => ?_) (fun h1 => ?_)
    · tm_at "go"
      refine g_ndec (fun h2 => ?_) (fun h2 => ?_)
      · tm_at "go"
        exact no (fun hh => by omega) _ hI
      · tm_at "go"
        refine' g_lcS1 hI (by tm_at "wiped") (Nat.le_trans hp.1 (by decide)) (fun c => .bl (digB c)) ?_ ?_
        · intro c D acc H' hc hI' PY hY
          tm_at "go"
          refine' g_wiped (by tm_at "wiped") ?_
          tm_at "go"
          exact hY _ hI'
        · intro D H' hI'
          tm_at "go"
          refine g_all (by tm_at "sq") ?_
          tm_at "go"
          refine g_nb (fun h3 => ?_) (fun h3 => ?_)
          · tm_at "go"
            exact no (fun hh => by rw [hh.2.2.1] at h3; cases h3) _ (hI'.forget (by tm_at "sub"))
          · tm_at "go"
            have hI := hI'.forget (L' := L) (by tm_at "sub")
            obtain ⟨c, e1, e2, e3⟩ := str_at0 (z := z) (by omega)
            refine g_ix_s (hp.len) e1 ?_
            tm_at "go"
            rw [e3]
            refine g_dec (fun h4 => ?_) (fun h4 => ?_)
            · tm_at "go"
              refine g_ndec (fun h5 => ?_) (fun h5 => ?_)
              · tm_at "go"
                refine no (fun hh => hh.2.2.2 ⟨by rw [e2, h4], fun e => h5 (by rw [e])⟩) _ hI
              · tm_at "go"
                exact g_intS (K := K) h3 (by omega) (by omega) (ye ⟨by omega, by omega, h3, fun hh => hh.2 (V.str.inj h5)⟩ _ hI)
            · tm_at "go"
              exact g_intS (K := K) h3 (by omega) (by omega) (ye ⟨by omega, by omega, h3, fun hh => h4 (Option.some.inj (e2.symm.trans hh.1))⟩ _ hI)
    · tm_at "go"
      exact no (fun hh => by omega) _ hI
  · rintro a rfl hk
    refine g_isiF hx (by decide) (Kn.noInt hk).2.2 ?_
    tm_at "go"
    exact q _ hI
/-! words of a row -/
def blkS : Str := " "
def partsL (z : Str) : List (List Nat) := TL.spl [32] 0 [] z.cps.toList
def wordsV (x : V) : Option (List Str) := match x with
  | .str z => if [] ∈ partsL z then none else some ((partsL z).map fun l => ⟨l.toArray⟩)
  | _ => none
theorem split_parts (z : Str) : Txt.split z " " = (partsL z).map fun l => (⟨l.toArray⟩ : Str) := by
  have h := TL.split_spl z " " (by decide +kernel) (TL.kind_ok (by decide +kernel))
  have e : TL.tl (" " : Str) = [32] := by decide +kernel
  rw [e] at h
  refine TL.map_tl_inj ?_
  rw [h, List.map_map]
  have : (TL.tl ∘ fun l : List Nat => (⟨l.toArray⟩ : Str)) = id := by
    funext l
    rfl
  rw [this, List.map_id]
  rfl
theorem inV_parts : ∀ l : List (List Nat), inV (.str "") ((l.map fun l => (⟨l.toArray⟩ : Str)).map V.str) = decide ([] ∈ l)
  | [] => rfl
  | x :: l => by
    have ih := inV_parts l
    have e0 : ("" : Str) = ⟨#[]⟩ := by decide +kernel
    rw [e0] at ih ⊢
    unfold inV at ih ⊢
    rw [List.map_cons, List.map_cons, List.any_cons, ih]
    cases x with
    | nil =>
      show ((⟨#[]⟩ : Str) == ⟨#[]⟩ || decide ([] ∈ l)) = _
      simp
    | cons c r =>
      show ((⟨(c :: r).toArray⟩ : Str) == ⟨#[]⟩ || decide ([] ∈ l)) = _
      have e1 : ((⟨(c :: r).toArray⟩ : Str) == ⟨#[]⟩) = false := beq_eq_false_iff_ne.mpr fun e => by
        have := congrArg (fun z : Str => z.cps.toList) e
        cases this
      rw [e1]
      simp
theorem flat_strs (l : List Str) : (l.map V.str).all flatV = true := by
  rw [List.all_map, List.all_eq_true]
  intro x _
  rfl
def sp_words_of (K : PySem.W.Frag) : Sp := fun vs H Q _ => vs.length = 1 ∧ ∃ (x : V) (k : Kn) (B : Hp) (M L : List (Addr × HO)), vs = [x] ∧ Is B M L H ∧ Thing K H x k ∧
  (wordsV x = none → ∀ H', Is B M L H' → Q .non H') ∧ (∀ ws, wordsV x = some ws → ∀ p H', Is B M ((p, .lst (ws.map V.str)) :: L) H' → Q (.ref p) H')
abbrev t_words_of_0 (K : PySem.W.Frag) : TS := (tRet (tIf (tTest (tOp (rInA K) (tC (.str "")) (tVar 1))) (tC .non) (tVar 1)))
abbrev t_words_of_1 (K : PySem.W.Frag) : TS := (tSeq (tAsg (tM1 rSplit (tVar 0) (tC (.str " "))) (gName 1)) (t_words_of_0 K))
def t_words_of (K : PySem.W.Frag) : TS := (tSeq (tIfS (tNot (tTr K (tCB (rIsi K) (tCons (tVar 0) (tCons (tC (.ty "str")) tNil))))) (tRet (tC .non)) tNext) (t_words_of_1 K))
theorem rd_words_of {K : PySem.W.Frag} (vs : List V) (H : Hp) (Q : VK) (E : XK) (h : sp_words_of K vs H Q E) : t_words_of K { nx := fun _ H' => Q .non H', rt := Q } (start ["row", "found"] vs) H := by
  obtain ⟨_, x, k, B, M, L, rfl, hI, hx, q1, q2⟩ := h
  show t_words_of K ⟨_, _, _, _⟩ [some x, none] H
  unfold t_words_of
  tm_at "go"
  refine hx.cases ?_ ?_ ?_ ?_ ?_
  · rintro rfl rfl
    tm_at "go"
    exact q1 rfl _ hI
  · rintro b rfl rfl
    tm_at "go"
    exact q1 rfl _ hI
  · rintro n rfl rfl
    tm_at "go"
    exact q1 rfl _ hI
  · rintro z rfl rfl hp
    tm_at "go"
    refine ⟨z, " ", rfl, rfl, by decide +kernel, Nat.le_trans (Nat.add_le_add_right hp.1 2) (by decide +kernel), ?_⟩
    rw [split_parts]
    refine g_newS hI ?_
    clear hI
    intro p H hI
    tm_at "go"
    refine g_in_l (by tm_at "sq") rfl (flat_strs _) ?_
    tm_at "go"
    rw [inV_parts]
    refine g_dec (fun h1 => ?_) (fun h1 => ?_)
    · tm_at "go"
      exact q1 (if_pos h1) _ (hI.forget (by tm_at "sub"))
    · tm_at "go"
      exact q2 _ (if_neg h1) _ _ hI
  · rintro a rfl hk
    refine g_isiF hx (by decide) (Kn.noInt hk).2.2 ?_
    tm_at "go"
    exact q1 rfl _ hI
theorem cutV_take {xs : List V} {j : Nat} (h : j ≤ xs.length) : cutV xs none (some (j : Int)) = xs.take j := by
  unfold cutV
  rw [HT.sIx_none, HT.sIx_nat, List.drop_zero, Nat.sub_zero, Nat.min_eq_left h]
theorem atI_back {α : Type} {xs : List α} {a : α} (h0 : 0 < xs.length) (h : xs[xs.length - 1]? = some a) : atI xs (-1) = some a := by
  unfold atI ixN
  rw [if_neg (by decide), if_pos (by omega)]
  show xs[((-1 : Int) + (xs.length : Int)).toNat]? = _
  rw [show ((-1 : Int) + (xs.length : Int)).toNat = xs.length - 1 by omega]
  exact h
/-! ### rows of a round -/
inductive RowsB (B : Hp) : List V → List Row → Prop
  | nil : RowsB B [] []
  | cons {a : Addr} {xs : List V} {c w : Int} {s : Str} {rs : List Row} : B a = some (.tup [.int c, .str s, .int w]) → RowsB B xs rs → RowsB B (.ref a :: xs) ((c, s, w) :: rs)
theorem RowsB.same {B B' : Hp} (e : Same B B') : ∀ {xs : List V} {rs : List Row}, RowsB B xs rs → RowsB B' xs rs
  | _, _, .nil => .nil
  | _, _, .cons h t => .cons (e _ _ h) (t.same e)
theorem RowsB.len {B : Hp} : ∀ {xs : List V} {rs : List Row}, RowsB B xs rs → xs.length = rs.length
  | _, _, .nil => rfl
  | _, _, .cons _ t => by rw [List.length_cons, List.length_cons, t.len]
theorem RowsB.get {B : Hp} : ∀ {xs : List V} {rs : List Row} {i : Nat} {x : V}, RowsB B xs rs → xs[i]? = some x → ∃ a c s w, x = .ref a ∧ rs[i]? = some (c, s, w) ∧ B a = some (.tup [.int c, .str s, .int w])
  | _, _, 0, _, .cons h _, e => by
    cases e
    exact ⟨_, _, _, _, rfl, rfl, h⟩
  | _, _, i + 1, _, .cons _ t, e => t.get (i := i) e
theorem RowsB.get' {B : Hp} {xs : List V} {rs : List Row} {i : Nat} {c w : Int} {s : Str} (h : RowsB B xs rs) (e : rs[i]? = some (c, s, w)) : ∃ a, xs[i]? = some (.ref a) ∧ B a = some (.tup [.int c, .str s, .int w]) := by
  have hl : i < xs.length := by rw [h.len]; exact (List.getElem?_eq_some_iff.mp e).1
  obtain ⟨a, c', s', w', h1, h2, h3⟩ := h.get (List.getElem?_eq_getElem hl)
  rw [e] at h2
  cases h2
  exact ⟨a, by rw [List.getElem?_eq_getElem hl, h1], h3⟩
theorem RowsB.take {B : Hp} : ∀ {xs : List V} {rs : List Row} (n : Nat), RowsB B xs rs → RowsB B (xs.take n) (rs.take n)
  | _, _, 0, _ => by rw [List.take_zero, List.take_zero]; exact .nil
  | _, _, _ + 1, .nil => .nil
  | _, _, n + 1, .cons h t => .cons h (t.take n)
/-- what a round asks of its rows -/
structure GoodR (span : Int) (rs : List Row) : Prop where
  s0 : 1 ≤ span
  s1 : span ≤ 1000
  len : rs.length ≤ 12
  row : ∀ r ∈ rs, 0 ≤ r.1 ∧ r.1 < span ∧ isName (.str r.2.1) = true ∧ plainS r.2.1 ∧ 1 ≤ r.2.2 ∧ r.2.2 ≤ 1000
  up : ∀ i c s w c' s' w', rs[i]? = some (c, s, w) → rs[i + 1]? = some (c', s', w') → c ≤ c'
/-- the begins that are kept, of two rounds -/
def begunL (span : Int) (rs : List Row) : List Int := begs span rs 0 ++ begs span rs 1
theorem begunL_len (span : Int) (rs : List Row) : (begunL span rs).length = 2 * rs.length := by
  unfold begunL begs
  rw [List.length_append, bgn_len, bgn_len]
  omega
theorem begunL_0 {span : Int} {rs : List Row} {j : Nat} (h : j < rs.length) : (begunL span rs)[j]? = some (bAt span rs 0 j) := by
  unfold begunL bAt
  have hl : j < (begs span rs 0).length := by unfold begs; rw [bgn_len]; exact h
  rw [List.getElem?_append_left hl, List.getD_eq_getElem?_getD, List.getElem?_eq_getElem hl]
  rfl
theorem begunL_1 {span : Int} {rs : List Row} {j : Nat} (h : j < rs.length) : (begunL span rs)[rs.length + j]? = some (bAt span rs 1 j) := by
  unfold begunL bAt
  have hl : j < (begs span rs 1).length := by unfold begs; rw [bgn_len]; exact h
  have h0 : (begs span rs 0).length = rs.length := by unfold begs; rw [bgn_len]
  rw [List.getElem?_append_right (by omega), h0, Nat.add_sub_cancel_left, List.getD_eq_getElem?_getD, List.getElem?_eq_getElem hl]
  rfl
theorem tot_bd : ∀ {rs : List Row} {n : Nat}, (∀ r ∈ rs, 1 ≤ r.2.2 ∧ r.2.2 ≤ 1000) → rs.length ≤ n → 0 ≤ tot rs ∧ tot rs ≤ 1000 * n
  | [], n, _, _ => ⟨Int.le_refl _, by show (0 : Int) ≤ _; omega⟩
  | r :: rs, 0, _, h => absurd h (by simp)
  | r :: rs, n + 1, h, hl => by
    have h1 := h r List.mem_cons_self
    obtain ⟨h2, h3⟩ := tot_bd (n := n) (fun x hx => h x (List.mem_cons_of_mem _ hx)) (by rw [List.length_cons] at hl; omega)
    rw [tot_cons]
    omega
/-! ### the class -/
structure RoundC (K : PySem.W.Frag) : Prop where
  cl : Cls K (He.ga K "Round")
  n1 : NoAttr K (He.ga K "Round") "hours_long"
  n2 : NoAttr K (He.ga K "Round") "call_rows"
  n3 : NoAttr K (He.ga K "Round") "begun"
structure RoundAt (K : PySem.W.Frag) (B : Hp) (x : Addr) (span : Int) (rs : List Row) : Prop where
  ex : ∃ (dx cr bg : Addr) (xs : List V), B x = some (.ins (He.ga K "Round") dx [("hours_long", .int span), ("call_rows", .ref cr), ("begun", .ref bg)]) ∧ B cr = some (.lst xs) ∧ RowsB B xs rs ∧ B bg = some (.lst ((begunL span rs).map V.int))
  good : GoodR span rs
theorem RoundAt.same {K : PySem.W.Frag} {B B' : Hp} {x : Addr} {span : Int} {rs : List Row} (e : Same B B') (h : RoundAt K B x span rs) : RoundAt K B' x span rs := by
  obtain ⟨⟨dx, cr, bg, xs, h1, h2, h3, h4⟩, g⟩ := h
  exact ⟨⟨dx, cr, bg, xs, e _ _ h1, e _ _ h2, h3.same e, e _ _ h4⟩, g⟩
def sp_Round_total (K : PySem.W.Frag) : Sp := fun vs H Q _ => vs.length = 1 ∧ ∃ (x : Addr) (span : Int) (rs : List Row) (B : Hp) (M L : List (Addr × HO)), vs = [.ref x] ∧ Is B M L H ∧ RoundAt K B x span rs ∧ ∀ H', Is B M L H' → Q (.int (tot rs)) H'
def t_Round_total (K : PySem.W.Frag) : TS := (tRet (tCB (rSum K) (tCons (tLc (iAny K (tFld K (tVar 0) "call_rows")) (gName 1) tYes (tOp (rIx K) (tVar 1) (tC (.int 2))) [1]) tNil)))
theorem rd_Round_total {K : PySem.W.Frag} (C : RoundC K) (vs : List V) (H : Hp) (Q : VK) (E : XK) (h : sp_Round_total K vs H Q E) : t_Round_total K { nx := fun _ H' => Q .non H', rt := Q } (start ["self", "row"] vs) H := by
  obtain ⟨_, x, span, rs, B, M, L, rfl, hI, ⟨⟨dx, cr, bg, xs, h1, h2, h3, h4⟩, hg⟩, q⟩ := h
  show t_Round_total K ⟨_, _, _, _⟩ [some (.ref x), none] H
  obtain ⟨cl, n1, n2, n3⟩ := C
  unfold t_Round_total
  tm_at "go"
  have hl := h3.len
  have hg2 := hg.len
  refine' g_lcX ((rs.map (·.2.2)).map V.int) (by simp [hl]) walk_list hI (by tm_at "wiped") (by omega) (fun D acc H' I => SqL.of (I.b h2)) ?_ ?_
  · intro i x y D acc H' hx hy hI PY q
    obtain ⟨a, c, s, w, rfl, e, ha⟩ := h3.get hx
    tm_at "go"
    refine' g_wiped (by tm_at "wiped") ?_
    tm_at "go"
    refine g_ix_t (by tm_at "st") (atI_of (by decide) rfl) ?_
    have ey : y = .int w := by
      rw [List.getElem?_map, List.getElem?_map, e] at hy
      exact (Option.some.inj hy).symm
    rw [ey] at q
    exact q _ hI
  · intro D H' hI
    tm_at "go"
    refine g_sum (by tm_at "sq") ?_
    exact q _ (hI.forget (by tm_at "sub"))
theorem ap_Round_total {K : PySem.W.Frag} {H : Hp} {Q : VK} {E : XK} {x : Addr} {span : Int} {rs : List Row} {B : Hp} {M L : List (Addr × HO)} (I : Is B M L H) (h : RoundAt K B x span rs) (q : ∀ H', Is B M L H' → Q (.int (tot rs)) H') : sp_Round_total K [.ref x] H Q E :=
  ⟨rfl, x, span, rs, B, M, L, rfl, I, h, q⟩
def sp_Round_keeps_up (K : PySem.W.Frag) : Sp := fun vs H Q _ => vs.length = 1 ∧ ∃ (x : Addr) (span : Int) (rs : List Row) (B : Hp) (M L : List (Addr × HO)), vs = [.ref x] ∧ Is B M L H ∧ RoundAt K B x span rs ∧ ∀ H', Is B M L H' → Q (.bl (decide (tot rs ≤ span))) H'
def t_Round_keeps_up (K : PySem.W.Frag) : TS := (tRet (tOp (rI0 fun i j => .bl (decide (i ≤ j))) (tMe (He.ga K "Round") "total" 0 0 (sp_Round_total K) (fun vs zs => pick .non [0] (vs ++ zs)) E0 (tVar 0) tNil tNil) (tFld K (tVar 0) "hours_long")))
theorem rd_Round_keeps_up {K : PySem.W.Frag} (C : RoundC K) (vs : List V) (H : Hp) (Q : VK) (E : XK) (h : sp_Round_keeps_up K vs H Q E) : t_Round_keeps_up K { nx := fun _ H' => Q .non H', rt := Q } (start ["self"] vs) H := by
  obtain ⟨_, x, span, rs, B, M, L, rfl, hI, hR, q⟩ := h
  show t_Round_keeps_up K ⟨_, _, _, _⟩ [some (.ref x)] H
  obtain ⟨cl, n1, n2, n3⟩ := C
  obtain ⟨⟨dx, cr, bg, xs, h1, h2, h3, h4⟩, hg⟩ := id hR
  unfold t_Round_keeps_up
  tm_at "go"
  refine' ap_Round_total (K := K) hI hR ?_
  clear hI
  intro H hI
  tm_at "go"
  exact q _ hI
theorem ap_Round_keeps_up {K : PySem.W.Frag} {H : Hp} {Q : VK} {E : XK} {x : Addr} {span : Int} {rs : List Row} {B : Hp} {M L : List (Addr × HO)} (I : Is B M L H) (h : RoundAt K B x span rs) (q : ∀ H', Is B M L H' → Q (.bl (decide (tot rs ≤ span))) H') : sp_Round_keeps_up K [.ref x] H Q E :=
  ⟨rfl, x, span, rs, B, M, L, rfl, I, h, q⟩
/-! the last row -/
theorem last_row {rs : List Row} (h : 0 < rs.length) : ∃ r, rs[rs.length - 1]? = some r := ⟨_, List.getElem?_eq_getElem (by omega)⟩
theorem idle_eq {span : Int} {rs : List Row} {r : Row} (h : rs[rs.length - 1]? = some r) (hn : 0 < rs.length) : bAt span rs 0 (rs.length - 1) + r.2.2 = fin span 0 rs 0 :=
  (fin_last span 0 rs 0 (rs.length - 1) r h (by omega)).symm
def sp_Round_idle_first (K : PySem.W.Frag) : Sp := fun vs H Q _ => vs.length = 1 ∧ ∃ (x : Addr) (span : Int) (rs : List Row) (B : Hp) (M L : List (Addr × HO)), vs = [.ref x] ∧ Is B M L H ∧ RoundAt K B x span rs ∧ 0 < rs.length ∧ ∀ H', Is B M L H' → Q (.int (fin span 0 rs 0 - tot rs)) H'
def t_Round_idle_first (K : PySem.W.Frag) : TS := (tRet (tOp (rI0 fun i j => .int (i - j)) (tOp (rAddA K) (tOp (rIx K) (tFld K (tVar 0) "begun") (tOp (rI0 fun i j => .int (i - j)) (tCB (rLen K) (tCons (tFld K (tVar 0) "call_rows") tNil)) (tC (.int 1)))) (tOp (rIx K) (tOp (rIx K) (tFld K (tVar 0) "call_rows") (tUn (rU fun i => .int (-i)) (tC (.int 1)))) (tC (.int 2)))) (tMe (He.ga K "Round") "total" 0 0 (sp_Round_total K) (fun vs zs => pick .non [0] (vs ++ zs)) E0 (tVar 0) tNil tNil)))
theorem rd_Round_idle_first {K : PySem.W.Frag} (C : RoundC K) (vs : List V) (H : Hp) (Q : VK) (E : XK) (h : sp_Round_idle_first K vs H Q E) : t_Round_idle_first K { nx := fun _ H' => Q .non H', rt := Q } (start ["self"] vs) H := by
  obtain ⟨_, x, span, rs, B, M, L, rfl, hI, hR, hn, q⟩ := h
  show t_Round_idle_first K ⟨_, _, _, _⟩ [some (.ref x)] H
  obtain ⟨cl, n1, n2, n3⟩ := C
  obtain ⟨⟨dx, cr, bg, xs, h1, h2, h3, h4⟩, hg⟩ := id hR
  have hl := h3.len
  obtain ⟨⟨c, s, w⟩, hr⟩ := last_row hn
  obtain ⟨a, ha, hat⟩ := h3.get' hr
  unfold t_Round_idle_first
  tm_at "go"
  refine g_ix_l (by tm_at "sq") (atI_of (by omega) (by rw [List.getElem?_map, show ((xs.length : Int) - 1).toNat = rs.length - 1 by omega, begunL_0 (by omega)]; rfl)) ?_
  tm_at "go"
  refine g_ix_l (by tm_at "sq") (atI_back (by rw [hl]; omega) (by rw [hl]; exact ha)) ?_
  tm_at "go"
  refine g_ix_t (by tm_at "st") (atI_of (by decide) rfl) ?_
  tm_at "go"
  refine' ap_Round_total (K := K) hI hR ?_
  clear hI
  intro H hI
  tm_at "go"
  have e := idle_eq (span := span) hr hn
  have e2 : bAt span rs 0 (rs.length - 1) + w = fin span 0 rs 0 := e
  rw [e2]
  exact q _ hI
theorem ap_Round_idle_first {K : PySem.W.Frag} {H : Hp} {Q : VK} {E : XK} {x : Addr} {span : Int} {rs : List Row} {B : Hp} {M L : List (Addr × HO)} (I : Is B M L H) (h : RoundAt K B x span rs) (hn : 0 < rs.length) (q : ∀ H', Is B M L H' → Q (.int (fin span 0 rs 0 - tot rs)) H') : sp_Round_idle_first K [.ref x] H Q E :=
  ⟨rfl, x, span, rs, B, M, L, rfl, I, h, hn, q⟩
/-! a begin -/
def sp_Round_begin_at (K : PySem.W.Frag) : Sp := fun vs H Q _ => vs.length = 3 ∧ ∃ (x : Addr) (k j : Nat) (span : Int) (rs : List Row) (B : Hp) (M L : List (Addr × HO)), vs = [.ref x, .int (k : Int), .int (j : Int)] ∧ Is B M L H ∧ RoundAt K B x span rs ∧ j < rs.length ∧ k < 2 ^ 62 ∧ ∀ H', Is B M L H' → Q (.int (bAt span rs k j)) H'
abbrev t_Round_begin_at_0 (K : PySem.W.Frag) : TS := (tRet (tOp (rAddA K) (tOp (rAddA K) (tMe (He.ga K "Round") "idle_first" 0 0 (sp_Round_idle_first K) (fun vs zs => pick .non [0] (vs ++ zs)) E0 (tVar 0) tNil tNil) (tOp rMulA (tVar 1) (tMe (He.ga K "Round") "total" 0 0 (sp_Round_total K) (fun vs zs => pick .non [0] (vs ++ zs)) E0 (tVar 0) tNil tNil))) (tCB (rSum K) (tCons (tLc (iAny K (tSl (rSlA K) (tFld K (tVar 0) "call_rows") tNoPart (tPart (tVar 2)))) (gName 4) tYes (tOp (rIx K) (tVar 4) (tC (.int 2))) [4]) tNil))))
abbrev t_Round_begin_at_1 (K : PySem.W.Frag) : TS := (tSeq (tIfS (tTr K (tMe (He.ga K "Round") "keeps_up" 0 0 (sp_Round_keeps_up K) (fun vs zs => pick .non [0] (vs ++ zs)) E0 (tVar 0) tNil tNil)) (tRet (tOp (rAddA K) (tOp (rIx K) (tFld K (tVar 0) "begun") (tOp (rAddA K) (tVar 3) (tVar 2))) (tOp rMulA (tOp (rI0 fun i j => .int (i - j)) (tVar 1) (tC (.int 1))) (tFld K (tVar 0) "hours_long")))) tNext) (t_Round_begin_at_0 K))
abbrev t_Round_begin_at_2 (K : PySem.W.Frag) : TS := (tSeq (tIfS (tTest (tOp (rI0 fun i j => .bl (decide (i < j))) (tVar 1) (tC (.int 2)))) (tRet (tOp (rIx K) (tFld K (tVar 0) "begun") (tOp (rAddA K) (tOp rMulA (tVar 1) (tVar 3)) (tVar 2)))) tNext) (t_Round_begin_at_1 K))
def t_Round_begin_at (K : PySem.W.Frag) : TS := (tSeq (tAsg (tCB (rLen K) (tCons (tFld K (tVar 0) "call_rows") tNil)) (gName 3)) (t_Round_begin_at_2 K))
theorem rd_Round_begin_at {K : PySem.W.Frag} (C : RoundC K) (vs : List V) (H : Hp) (Q : VK) (E : XK) (h : sp_Round_begin_at K vs H Q E) : t_Round_begin_at K { nx := fun _ H' => Q .non H', rt := Q } (start ["self", "k", "call", "many", "row"] vs) H := by
  obtain ⟨_, x, k, j, span, rs, B, M, L, rfl, hI, hR, hj, hk, q⟩ := h
  show t_Round_begin_at K ⟨_, _, _, _⟩ [some (.ref x), some (.int (k : Int)), some (.int (j : Int)), none, none] H
  obtain ⟨cl, n1, n2, n3⟩ := C
  obtain ⟨⟨dx, cr, bg, xs, h1, h2, h3, h4⟩, hg⟩ := id hR
  have hl := h3.len
  have hlen := hg.len
  have h0 : ∀ r ∈ rs, 0 ≤ r.1 := fun r hr => (hg.row r hr).1
  have hn : rs ≠ [] := fun e => by rw [e] at hj; simp at hj
  have hs0 := hg.s0
  have hs1 := hg.s1
  have hb := tot_bd (rs := rs) (n := 12) (fun r hr => ⟨(hg.row r hr).2.2.2.2.1, (hg.row r hr).2.2.2.2.2⟩) hlen
  unfold t_Round_begin_at
  tm_at "go"
  refine g_dec (fun hk2 => ?_) (fun hk2 => ?_)
  · tm_at "go"
    have e : (((k : Int) * (xs.length : Int) + (j : Int)).toNat) = k * rs.length + j := by
      rw [hl, ← Int.natCast_mul]
      omega
    have hz : 0 ≤ (k : Int) * (xs.length : Int) + (j : Int) := by
      rw [hl, ← Int.natCast_mul]
      omega
    refine g_ix_l (v := .int (bAt span rs k j)) (by tm_at "sq") (atI_of hz ?_) (q _ hI)
    rw [e, List.getElem?_map]
    match k, hk2 with
    | 0, _ =>
      rw [Nat.zero_mul, Nat.zero_add, begunL_0 hj]
      rfl
    | 1, _ =>
      rw [Nat.one_mul, begunL_1 hj]
      rfl
    | k + 2, h => omega
  · tm_at "go"
    obtain ⟨k', rfl⟩ : ∃ k', k = k' + 2 := ⟨k - 2, by omega⟩
    refine' ap_Round_keeps_up (K := K) hI hR ?_
    clear hI
    intro H hI
    tm_at "go"
    refine g_dec (fun hu => ?_) (fun hu => ?_)
    · tm_at "go"
      refine g_ix_l (v := .int (bAt span rs 1 j)) (by tm_at "sq") (atI_of (by omega) (by rw [List.getElem?_map, show ((xs.length : Int) + (j : Int)).toNat = rs.length + j by omega, begunL_1 hj]; rfl)) ?_
      tm_at "go"
      have e := keep_bgn hs0 h0 hn hu j hj (k' + 1)
      rw [show ((k' + 2 : Nat) : Int) - 1 = ((k' + 1 : Nat) : Int) by omega, ← e]
      exact q _ hI
    · tm_at "go"
      refine' ap_Round_idle_first (K := K) hI hR (by omega) ?_
      clear hI
      intro H hI
      tm_at "go"
      refine' ap_Round_total (K := K) hI hR ?_
      clear hI
      intro H hI
      tm_at "go"
      refine g_sl_l hI (SqL.of (hI.b h2)) ?_
      clear hI
      intro p H hI
      rw [cutV_take (by omega)] at hI
      tm_at "go"
      have h5 := h3.take j
      have hl5 := h5.len
      have hj5 : (rs.take j).length = j := by rw [List.length_take]; omega
      refine' g_lcX (xs := xs.take j) (((rs.take j).map (·.2.2)).map V.int) (by rw [List.length_map, List.length_map, hl5]) walk_list hI (by tm_at "wiped") (by omega) (fun D acc H' I => SqL.of (I.get (by tm_at "mem"))) ?_ ?_
      · intro i y z D acc H' hx hy hI PY q
        obtain ⟨a, c, s, w, rfl, e, ha⟩ := h5.get hx
        tm_at "go"
        refine' g_wiped (by tm_at "wiped") ?_
        tm_at "go"
        refine g_ix_t (by tm_at "st") (atI_of (by decide) rfl) ?_
        have ey : z = .int w := by
          rw [List.getElem?_map, List.getElem?_map, e] at hy
          exact (Option.some.inj hy).symm
        rw [ey] at q
        exact q _ hI
      · intro D H' hI
        tm_at "go"
        refine g_sum (by tm_at "sq") ?_
        tm_at "go"
        have e := full_bgn (span := span) (rs := rs) (by omega) (k' + 1) j hj
        have e1 : (((k' + 1 : Nat) : Int)) * tot rs + tot rs = ((k' + 2 : Nat) : Int) * tot rs := by
          rw [show ((k' + 2 : Nat) : Int) = ((k' + 1 : Nat) : Int) + 1 by omega, Int.add_mul, Int.one_mul]
        have e2 : fin span 0 rs 0 - tot rs + ((k' + 2 : Nat) : Int) * tot rs + ((rs.take j).map (·.2.2)).sum = bAt span rs (k' + 2) j := by
          have e3 : bAt span rs (k' + 2) j = fin span 0 rs 0 + ((k' + 1 : Nat) : Int) * tot rs + tot (rs.take j) := e
          rw [e3]
          unfold tot at *
          omega
        rw [e2]
        exact q _ (hI.forget (by tm_at "sub"))
theorem ap_Round_begin_at {K : PySem.W.Frag} {H : Hp} {Q : VK} {E : XK} {x : Addr} {k j : Nat} {span : Int} {rs : List Row} {B : Hp} {M L : List (Addr × HO)} (I : Is B M L H) (h : RoundAt K B x span rs) (hj : j < rs.length) (hk : k < 2 ^ 62) (q : ∀ H', Is B M L H' → Q (.int (bAt span rs k j)) H') : sp_Round_begin_at K [.ref x, .int (k : Int), .int (j : Int)] H Q E :=
  ⟨rfl, x, k, j, span, rs, B, M, L, rfl, I, h, hj, hk, q⟩
/-! asked for a call -/
def sp_Round_need_call (K : PySem.W.Frag) : Sp := fun vs H Q _ => vs.length = 3 ∧ ∃ (x : Addr) (k j : Nat) (span : Int) (rs : List Row) (B : Hp) (M L : List (Addr × HO)), vs = [.ref x, .int (k : Int), .int (j : Int)] ∧ Is B M L H ∧ RoundAt K B x span rs ∧ j < rs.length ∧ k ≤ 10 ^ 18 ∧ ∀ H', Is B M L H' → Q .non H'
theorem ap_Round_need_call {K : PySem.W.Frag} {H : Hp} {Q : VK} {E : XK} {x : Addr} {k j : Nat} {span : Int} {rs : List Row} {B : Hp} {M L : List (Addr × HO)} (I : Is B M L H) (h : RoundAt K B x span rs) (hj : j < rs.length) (hk : k ≤ 10 ^ 18) (q : ∀ H', Is B M L H' → Q .non H') : sp_Round_need_call K [.ref x, .int (k : Int), .int (j : Int)] H Q E :=
  ⟨rfl, x, k, j, span, rs, B, M, L, rfl, I, h, hj, hk, q⟩
theorem isWhole_t {n lo hi : Int} (h1 : lo ≤ n) (h2 : n ≤ hi) : isWhole (.int n) lo hi = true := by
  show (decide (lo ≤ n) && decide (n ≤ hi)) = true
  rw [decide_eq_true h1, decide_eq_true h2]
  rfl
theorem ap_is_whole {K : PySem.W.Frag} {H : Hp} {Q : VK} {E : XK} {x : V} {k : Kn} {lo hi : Int} {B : Hp} {M L : List (Addr × HO)} (I : Is B M L H) (hx : Thing K B x k) (q : Q (.bl (isWhole x lo hi)) H) : sp_is_whole K [x, .int lo, .int hi] H Q E := ⟨rfl, x, k, lo, hi, rfl, hx.same I.ex, q⟩
theorem ap_is_whole_t {K : PySem.W.Frag} {H : Hp} {Q : VK} {E : XK} {n lo hi : Int} (h1 : lo ≤ n) (h2 : n ≤ hi) (q : Q (.bl true) H) : sp_is_whole K [.int n, .int lo, .int hi] H Q E := ⟨rfl, .int n, .int, lo, hi, rfl, thing_int n, by rw [isWhole_t h1 h2]; exact q⟩
abbrev t_Round_need_call_0 (K : PySem.W.Frag) : TS := (tIfS (tNot (tTr K (tCl 2 1 (sp_is_whole K) (fun vs zs => pick .non [0, 1, 2] (vs ++ (zs ++ [.int 1000000]))) E0 (tCons (tVar 2) (tCons (tC (.int 0)) tNil)) (tCons (tOp (rI0 fun i j => .int (i - j)) (tCB (rLen K) (tCons (tFld K (tVar 0) "call_rows") tNil)) (tC (.int 1))) tNil)))) tNoS tNext)
def t_Round_need_call (K : PySem.W.Frag) : TS := (tSeq (tIfS (tNot (tTr K (tCl 2 1 (sp_is_whole K) (fun vs zs => pick .non [0, 1, 2] (vs ++ (zs ++ [.int 1000000]))) E0 (tCons (tVar 1) (tCons (tC (.int 0)) tNil)) (tCons (tC (.int 1000000000000000000)) tNil)))) tNoS tNext) (t_Round_need_call_0 K))
theorem rd_Round_need_call {K : PySem.W.Frag} (C : RoundC K) (vs : List V) (H : Hp) (Q : VK) (E : XK) (h : sp_Round_need_call K vs H Q E) : t_Round_need_call K { nx := fun _ H' => Q .non H', rt := Q } (start ["self", "k", "call"] vs) H := by
  obtain ⟨_, x, k, j, span, rs, B, M, L, rfl, hI, hR, hj, hk, q⟩ := h
  show t_Round_need_call K ⟨_, _, _, _⟩ [some (.ref x), some (.int (k : Int)), some (.int (j : Int))] H
  obtain ⟨cl, n1, n2, n3⟩ := C
  obtain ⟨⟨dx, cr, bg, xs, h1, h2, h3, h4⟩, hg⟩ := id hR
  have hl := h3.len
  unfold t_Round_need_call
  tm_at "go"
  refine' ap_is_whole_t (K := K) (by omega) (by omega) ?_
  tm_at "go"
  refine' ap_is_whole_t (K := K) (by omega) (by omega) ?_
  tm_at "go"
  exact q _ hI
def sp_Round_begins (K : PySem.W.Frag) : Sp := fun vs H Q _ => vs.length = 3 ∧ ∃ (x : Addr) (k j : Nat) (span : Int) (rs : List Row) (B : Hp) (M L : List (Addr × HO)), vs = [.ref x, .int (k : Int), .int (j : Int)] ∧ Is B M L H ∧ RoundAt K B x span rs ∧ j < rs.length ∧ k ≤ 10 ^ 18 ∧ ∀ H', Is B M L H' → Q (.int (bAt span rs k j)) H'
theorem ap_Round_begins {K : PySem.W.Frag} {H : Hp} {Q : VK} {E : XK} {x : Addr} {k j : Nat} {span : Int} {rs : List Row} {B : Hp} {M L : List (Addr × HO)} (I : Is B M L H) (h : RoundAt K B x span rs) (hj : j < rs.length) (hk : k ≤ 10 ^ 18) (q : ∀ H', Is B M L H' → Q (.int (bAt span rs k j)) H') : sp_Round_begins K [.ref x, .int (k : Int), .int (j : Int)] H Q E :=
  ⟨rfl, x, k, j, span, rs, B, M, L, rfl, I, h, hj, hk, q⟩
abbrev t_Round_begins_0 (K : PySem.W.Frag) : TS := (tRet (tMe (He.ga K "Round") "begin_at" 2 0 (sp_Round_begin_at K) (fun vs zs => pick .non [0, 1, 2] (vs ++ zs)) E0 (tVar 0) (tCons (tVar 1) (tCons (tVar 2) tNil)) tNil))
def t_Round_begins (K : PySem.W.Frag) : TS := (tSeq (tDrop (tMe (He.ga K "Round") "need_call" 2 0 (sp_Round_need_call K) (fun vs zs => pick .non [0, 1, 2] (vs ++ zs)) E0 (tVar 0) (tCons (tVar 1) (tCons (tVar 2) tNil)) tNil)) (t_Round_begins_0 K))
theorem rd_Round_begins {K : PySem.W.Frag} (C : RoundC K) (vs : List V) (H : Hp) (Q : VK) (E : XK) (h : sp_Round_begins K vs H Q E) : t_Round_begins K { nx := fun _ H' => Q .non H', rt := Q } (start ["self", "turn", "call"] vs) H := by
  obtain ⟨_, x, k, j, span, rs, B, M, L, rfl, hI, hR, hj, hk, q⟩ := h
  show t_Round_begins K ⟨_, _, _, _⟩ [some (.ref x), some (.int (k : Int)), some (.int (j : Int))] H
  obtain ⟨cl, n1, n2, n3⟩ := C
  obtain ⟨⟨dx, cr, bg, xs, h1, h2, h3, h4⟩, hg⟩ := id hR
  unfold t_Round_begins
  tm_at "go"
  refine' ap_Round_need_call (K := K) hI hR hj hk ?_
  clear hI
  intro H hI
  tm_at "go"
  refine' ap_Round_begin_at (K := K) hI hR hj (by omega) ?_
  clear hI
  intro H hI
  exact q _ hI
def workAt (rs : List Row) (j : Nat) : Int := ((rs[j]?).map (·.2.2)).getD 0
theorem ap_is_name {K : PySem.W.Frag} {H : Hp} {Q : VK} {E : XK} {x : V} {k : Kn} {B : Hp} {M L : List (Addr × HO)} (I : Is B M L H) (hx : Thing K B x k) (q : ∀ H', Is B M L H' → Q (.bl (isName x)) H') : sp_is_name K [x] H Q E := ⟨rfl, x, k, B, M, L, rfl, I, hx.same I.ex, q⟩
def sp_is_call (K : PySem.W.Frag) : Sp := fun vs H Q _ => vs.length = 2 ∧ ∃ (a : Addr) (c w span : Int) (s : Str) (B : Hp) (M L : List (Addr × HO)), vs = [.ref a, .int span] ∧ Is B M L H ∧ B a = some (.tup [.int c, .str s, .int w]) ∧
  0 ≤ c ∧ c < span ∧ isName (.str s) = true ∧ plainS s ∧ 1 ≤ w ∧ w ≤ 1000 ∧ ∀ H', Is B M L H' → Q (.bl true) H'
abbrev t_is_call_0 (K : PySem.W.Frag) : TS := (tRet (tAndV (tCl 1 0 (sp_is_name K) (fun vs zs => pick .non [0] (vs ++ zs)) E0 (tCons (tOp (rIx K) (tVar 0) (tC (.int 1))) tNil) tNil) (tCl 2 1 (sp_is_whole K) (fun vs zs => pick .non [0, 1, 2] (vs ++ (zs ++ [.int 1000000]))) E0 (tCons (tOp (rIx K) (tVar 0) (tC (.int 2))) (tCons (tC (.int 1)) tNil)) (tCons (tC (.int 1000)) tNil))))
def t_is_call (K : PySem.W.Frag) : TS := (tSeq (tIfS (tOr (tNot (tTr K (tCB (rIsi K) (tCons (tVar 0) (tCons (tC (.ty "tuple")) tNil))))) (tOr (tTest (tOp (rNeA K) (tCB (rLen K) (tCons (tVar 0) tNil)) (tC (.int 3)))) (tNot (tTr K (tCl 2 1 (sp_is_whole K) (fun vs zs => pick .non [0, 1, 2] (vs ++ (zs ++ [.int 1000000]))) E0 (tCons (tOp (rIx K) (tVar 0) (tC (.int 0))) (tCons (tC (.int 0)) tNil)) (tCons (tOp (rI0 fun i j => .int (i - j)) (tVar 1) (tC (.int 1))) tNil)))))) (tRet (tC (.bl false))) tNext) (t_is_call_0 K))
theorem rd_is_call {K : PySem.W.Frag} (vs : List V) (H : Hp) (Q : VK) (E : XK) (h : sp_is_call K vs H Q E) : t_is_call K { nx := fun _ H' => Q .non H', rt := Q } (start ["thing", "length"] vs) H := by
  obtain ⟨_, a, c, w, span, s, B, M, L, rfl, hI, ha, h1, h2, h3, h4, h5, h6, q⟩ := h
  show t_is_call K ⟨_, _, _, _⟩ [some (.ref a), some (.int span)] H
  have hT : Thing K B (.ref a) .tup := thing_tup ha
  unfold t_is_call
  tm_at "go"
  refine g_ndec (fun h => absurd rfl h) (fun _ => ?_)
  tm_at "go"
  refine g_ix_t (by tm_at "st") (atI_of (by decide) rfl) ?_
  tm_at "go"
  refine' ap_is_whole_t (K := K) h1 (by omega) ?_
  tm_at "go"
  refine g_ix_t (by tm_at "st") (atI_of (by decide) rfl) ?_
  tm_at "go"
  refine' ap_is_name (K := K) hI (thing_str h4) ?_
  clear hI
  intro H hI
  rw [h3]
  tm_at "go"
  refine g_ix_t (by tm_at "st") (atI_of (by decide) rfl) ?_
  tm_at "go"
  refine' ap_is_whole_t (K := K) h5 h6 ?_
  exact q _ hI
theorem ap_is_call {K : PySem.W.Frag} {H : Hp} {Q : VK} {E : XK} {a : Addr} {c w span : Int} {s : Str} {B : Hp} {M L : List (Addr × HO)} (I : Is B M L H) (ha : B a = some (.tup [.int c, .str s, .int w]))
    (h : 0 ≤ c ∧ c < span ∧ isName (.str s) = true ∧ plainS s ∧ 1 ≤ w ∧ w ≤ 1000) (q : ∀ H', Is B M L H' → Q (.bl true) H') : sp_is_call K [.ref a, .int span] H Q E :=
  ⟨rfl, a, c, w, span, s, B, M, L, rfl, I, ha, h.1, h.2.1, h.2.2.1, h.2.2.2.1, h.2.2.2.2.1, h.2.2.2.2.2, q⟩
/-! rows in a tuple, or in a list -/
theorem Is.thaw {B H : Hp} {M L : List (Addr × HO)} {a : Addr} {o : HO} (I : Is (upd B a o) M L H) (h : B a = none) : Is B M ((a, o) :: L) H := by
  have hne : ∀ q ∈ L ++ M, q.1 ≠ a := fun q hq z => by
    have := (I.own q hq).2
    rw [z, upd_same] at this
    cases this
  refine ⟨fun b x e => I.ex b x (by rw [upd_ne (fun z => by rw [z, h] at e; cases e)]; exact e), fun q hq => ?_, ?_⟩
  · rcases List.mem_cons.mp (show q ∈ (a, o) :: (L ++ M) from hq) with rfl | hq
    · exact ⟨I.ex _ _ upd_same, h⟩
    · have h2 := I.own q hq
      refine ⟨h2.1, ?_⟩
      have := h2.2
      rw [upd_ne (hne q hq)] at this
      exact this
  · show ((((a, o) :: (L ++ M)).map (·.1))).Nodup
    refine List.nodup_cons.mpr ⟨fun z => ?_, I.nd⟩
    obtain ⟨q, hq, e⟩ := List.mem_map.mp z
    exact hne q hq e
theorem walk_zipLL {K : PySem.W.Frag} {a b : Addr} {xs ys : List V} {n : Nat} (hn : n = min xs.length ys.length) : Walk (Itz K a b) n (fun H => SqL K H a xs ∧ SqL K H b ys) (YPair (fun i => xs[i]?) (fun i => ys[i]?)) := by
  subst hn
  refine ⟨fun i _ hi q => ?_, fun _ q => ⟨xs, ys, q.1, q.2, by omega⟩, fun i H v H' _ q y => ?_⟩
  · have h1 : i < xs.length := by omega
    have h2 : i < ys.length := by omega
    exact ⟨xs, ys, xs[i], ys[i], q.1, q.2, by simp [h1], by simp [h2]⟩
  · obtain ⟨T, x, z, h1, h2, h3, h4, h5⟩ := y
    exact ⟨T, x, z, h1, h2, h3, h4 xs q.1, h5 ys q.2⟩
def sp_are_calls (K : PySem.W.Frag) : Sp := fun vs H Q _ => vs.length = 2 ∧ ∃ (a : Addr) (span : Int) (xs : List V) (rs : List Row) (B : Hp) (M L : List (Addr × HO)), vs = [.ref a, .int span] ∧ Is B M L H ∧ (B a = some (.tup xs) ∨ B a = some (.lst xs)) ∧ RowsB B xs rs ∧ GoodR span rs ∧ ∀ H', Is B M L H' → Q (.bl true) H'
theorem ap_are_calls {K : PySem.W.Frag} {H : Hp} {Q : VK} {E : XK} {a : Addr} {span : Int} {xs : List V} {rs : List Row} {B : Hp} {M L : List (Addr × HO)} (I : Is B M L H) (h : B a = some (.tup xs)) (hr : RowsB B xs rs) (hg : GoodR span rs) (q : ∀ H', Is B M L H' → Q (.bl true) H') : sp_are_calls K [.ref a, .int span] H Q E :=
  ⟨rfl, a, span, xs, rs, B, M, L, rfl, I, .inl h, hr, hg, q⟩
/-- a list that is owned -/
theorem ap_are_callsL {K : PySem.W.Frag} {H : Hp} {Q : VK} {E : XK} {a : Addr} {span : Int} {xs : List V} {rs : List Row} {B : Hp} {M L : List (Addr × HO)} (I : Is B M ((a, .lst xs) :: L) H) (hr : RowsB B xs rs) (hg : GoodR span rs) (q : ∀ H', Is B M ((a, .lst xs) :: L) H' → Q (.bl true) H') : sp_are_calls K [.ref a, .int span] H Q E := by
  have hb : B a = none := (I.own (a, .lst xs) (List.mem_append_left _ List.mem_cons_self)).2
  obtain ⟨I1, s⟩ := I.frz .here
  exact ⟨rfl, a, span, xs, rs, _, M, L, rfl, I1, .inr upd_same, hr.same s, hg, fun H' I2 => q H' (I2.thaw hb)⟩
theorem all_true {α : Type} {l : List α} : l.all (fun _ => true) = true := List.all_eq_true.mpr fun _ _ => rfl
abbrev t_are_calls_0 (K : PySem.W.Frag) : TS := (tRet (tCB (rAll K) (tCons (tLc (RZ.iZipA K (tCons (tVar 0) (tCons (tSl (rSlA K) (tVar 0) (tPart (tC (.int 1))) tNoPart) tNil))) (gTup K 2 (gCons (gName 2) (gCons (gName 3) gNil))) tYes (tOp (rI0 fun i j => .bl (decide (i ≤ j))) (tOp (rIx K) (tVar 2) (tC (.int 0))) (tOp (rIx K) (tVar 3) (tC (.int 0)))) [2, 3]) tNil)))
abbrev t_are_calls_1 (K : PySem.W.Frag) : TS := (tSeq (tIfS (tNot (tTr K (tCB (rAll K) (tCons (tLc (iAny K (tVar 0)) (gName 2) tYes (tCl 2 0 (sp_is_call K) (fun vs zs => pick .non [0, 1] (vs ++ zs)) E0 (tCons (tVar 2) (tCons (tVar 1) tNil)) tNil) [2]) tNil)))) (tRet (tC (.bl false))) tNext) (t_are_calls_0 K))
def t_are_calls (K : PySem.W.Frag) : TS := (tSeq (tIfS (tOr (tNot (tTr K (tCB (rIsiT K) (tCons (tVar 0) (tCons (tTup (tCons (tC (.ty "list")) (tCons (tC (.ty "tuple")) tNil))) tNil))))) (tTest (tOp (rI0 fun i j => .bl (decide (j < i))) (tCB (rLen K) (tCons (tVar 0) tNil)) (tC (.int 12))))) (tRet (tC (.bl false))) tNext) (t_are_calls_1 K))
theorem rd_are_calls {K : PySem.W.Frag} (vs : List V) (H : Hp) (Q : VK) (E : XK) (h : sp_are_calls K vs H Q E) : t_are_calls K { nx := fun _ H' => Q .non H', rt := Q } (start ["thing", "length", "one", "other"] vs) H := by
  obtain ⟨_, a, span, xs, rs, B, M, L, rfl, hI, ha, hr, hg, q⟩ := h
  show t_are_calls K ⟨_, _, _, _⟩ [some (.ref a), some (.int span), none, none] H
  have hl := hr.len
  have hlen := hg.len
  unfold t_are_calls
  rcases ha with ha | ha
  · have hT : Thing K B (.ref a) .tup := thing_tup ha
    tm_at "go"
    refine g_dec (fun h => absurd h (by omega)) (fun _ => ?_)
    tm_at "go"
    refine' g_lcX (xs := xs) (rs.map fun _ => V.bl true) (by rw [List.length_map, hl]) walk_tup hI (by tm_at "wiped") (by omega) (fun D acc H' I => Is.st I (SqT.of ha)) ?_ ?_
    · intro i x y D acc H' hx hy hI PY q
      obtain ⟨b, c, s, w, rfl, e, hb⟩ := hr.get hx
      have hy : y = .bl true := by
        rw [List.getElem?_map, e] at hy
        exact (Option.some.inj hy).symm
      have hrow := hg.row _ (List.mem_of_getElem? e)
      tm_at "go"
      refine' g_wiped (by tm_at "wiped") ?_
      tm_at "go"
      refine' ap_is_call (K := K) hI hb hrow ?_
      intro H4 hI
      rw [← hy]
      exact q _ hI
    · intro D H' hI
      tm_at "go"
      refine g_all (l := rs) (P := fun _ => true) (by tm_at "sq") ?_
      rw [all_true]
      tm_at "go"
      have hI := hI.forget (L' := L) (by tm_at "sub")
      refine g_sl_tB hI (SqT.of ha) ?_
      clear hI
      intro p B' H sB hI hp
      tm_at "go"
      have hc : cutV xs (some 1) none = xs.drop 1 := by
        unfold cutV
        rw [HT.sIx_none]
        have e1 : HT.sIx xs.length 0 (some 1) = min 1 xs.length := HT.sIx_nat xs.length 0 1
        rw [e1, List.take_of_length_le (by rw [List.length_drop]; omega)]
        rcases Nat.lt_or_ge xs.length 1 with h | h
        · rw [Nat.min_eq_right (by omega), List.drop_length, List.drop_eq_nil_of_le (by omega)]
        · rw [Nat.min_eq_left h]
      rw [hc] at hp
      refine g_aZipT (Is.st hI (SqT.of (sB _ _ ha))) (Is.st hI hp) ?_
      refine' g_lcI (n := rs.length - 1) ((rs.drop 1).map fun _ => V.bl true) (by rw [List.length_map, List.length_drop]) (walk_zipTT (xs := xs) (ys := xs.drop 1) (by rw [List.length_drop]; omega)) hI (by tm_at "wiped") (by omega) (fun D acc H' I => ⟨Is.st I (SqT.of (sB _ _ ha)), Is.st I hp⟩) ?_ ?_
      · intro i x y D acc H' H'' hi hY hy hI PY q
        obtain ⟨T, x1, x2, rfl, hT, rfl, e1, e2⟩ := hY
        have e2 : xs[i + 1]? = some x2 := by
          have e2 : (xs.drop 1)[i]? = some x2 := e2
          rwa [List.getElem?_drop, Nat.add_comm] at e2
        obtain ⟨a1, c1, s1, w1, rfl, f1, b1⟩ := hr.get e1
        obtain ⟨a2, c2, s2, w2, rfl, f2, b2⟩ := hr.get e2
        have hup := hg.up _ _ _ _ _ _ _ f1 f2
        have b1 := sB _ _ b1
        have b2 := sB _ _ b2
        have hy : y = .bl true := by
          rw [List.getElem?_map, List.getElem?_drop, Nat.add_comm, f2] at hy
          exact (Option.some.inj hy).symm
        have hI := hI.new (o := .tup [.ref a1, .ref a2]) hT
        tm_at "go"
        refine' g_wiped (by tm_at "wiped") ?_
        tm_at "go"
        refine g_ix_t (by tm_at "st") (atI_of (by decide) rfl) ?_
        tm_at "go"
        refine g_ix_t (by tm_at "st") (atI_of (by decide) rfl) ?_
        tm_at "go"
        rw [decide_eq_true hup, ← hy]
        exact q _ (hI.forget (by tm_at "sub"))
      · intro D H' hI
        tm_at "go"
        refine g_all (l := rs.drop 1) (P := fun _ => true) (by tm_at "sq") ?_
        rw [all_true]
        exact q _ ((hI.forget (by tm_at "sub")).back sB)
  · have hT : Thing K B (.ref a) .lst := thing_lst ha
    tm_at "go"
    refine g_dec (fun h => absurd h (by omega)) (fun _ => ?_)
    tm_at "go"
    refine' g_lcX (xs := xs) (rs.map fun _ => V.bl true) (by rw [List.length_map, hl]) walk_list hI (by tm_at "wiped") (by omega) (fun D acc H' I => Is.sq I (SqL.of ha)) ?_ ?_
    · intro i x y D acc H' hx hy hI PY q
      obtain ⟨b, c, s, w, rfl, e, hb⟩ := hr.get hx
      have hy : y = .bl true := by
        rw [List.getElem?_map, e] at hy
        exact (Option.some.inj hy).symm
      have hrow := hg.row _ (List.mem_of_getElem? e)
      tm_at "go"
      refine' g_wiped (by tm_at "wiped") ?_
      tm_at "go"
      refine' ap_is_call (K := K) hI hb hrow ?_
      intro H4 hI
      rw [← hy]
      exact q _ hI
    · intro D H' hI
      tm_at "go"
      refine g_all (l := rs) (P := fun _ => true) (by tm_at "sq") ?_
      rw [all_true]
      tm_at "go"
      have hI := hI.forget (L' := L) (by tm_at "sub")
      refine g_sl_l hI (Is.sq hI (SqL.of ha)) ?_
      clear hI
      intro p H hI
      tm_at "go"
      have hc : cutV xs (some 1) none = xs.drop 1 := by
        unfold cutV
        rw [HT.sIx_none]
        have e1 : HT.sIx xs.length 0 (some 1) = min 1 xs.length := HT.sIx_nat xs.length 0 1
        rw [e1, List.take_of_length_le (by rw [List.length_drop]; omega)]
        rcases Nat.lt_or_ge xs.length 1 with h | h
        · rw [Nat.min_eq_right (by omega), List.drop_length, List.drop_eq_nil_of_le (by omega)]
        · rw [Nat.min_eq_left h]
      rw [hc] at hI
      refine' g_lcI (n := rs.length - 1) ((rs.drop 1).map fun _ => V.bl true) (by rw [List.length_map, List.length_drop]) (walk_zipLL (K := K) (xs := xs) (ys := xs.drop 1) (by rw [List.length_drop]; omega)) hI (by tm_at "wiped") (by omega) (fun D acc H' I => ⟨Is.sq I (SqL.of ha), SqL.of (I.get (List.Mem.tail _ (List.Mem.head _)))⟩) ?_ ?_
      · intro i x y D acc H' H'' hi hY hy hI PY q
        obtain ⟨T, x1, x2, rfl, hT, rfl, e1, e2⟩ := hY
        have e2 : xs[i + 1]? = some x2 := by
          have e2 : (xs.drop 1)[i]? = some x2 := e2
          rwa [List.getElem?_drop, Nat.add_comm] at e2
        obtain ⟨a1, c1, s1, w1, rfl, f1, b1⟩ := hr.get e1
        obtain ⟨a2, c2, s2, w2, rfl, f2, b2⟩ := hr.get e2
        have hup := hg.up _ _ _ _ _ _ _ f1 f2
        have hy : y = .bl true := by
          rw [List.getElem?_map, List.getElem?_drop, Nat.add_comm, f2] at hy
          exact (Option.some.inj hy).symm
        have hI := hI.new (o := .tup [.ref a1, .ref a2]) hT
        tm_at "go"
        refine' g_wiped (by tm_at "wiped") ?_
        tm_at "go"
        refine g_ix_t (by tm_at "st") (atI_of (by decide) rfl) ?_
        tm_at "go"
        refine g_ix_t (by tm_at "st") (atI_of (by decide) rfl) ?_
        tm_at "go"
        rw [decide_eq_true hup, ← hy]
        exact q _ (hI.forget (by tm_at "sub"))
      · intro D H' hI
        tm_at "go"
        refine g_all (l := rs.drop 1) (P := fun _ => true) (by tm_at "sq") ?_
        rw [all_true]
        exact q _ (hI.forget (by tm_at "sub"))
/-- the filling, row by row: the begins so far, when the press is free -/
def stepR (span k : Int) (st : List Int × Int) (r : Row) : List Int × Int := (st.1 ++ [max st.2 (k * span + r.1)], max st.2 (k * span + r.1) + r.2.2)
theorem steps_eq (span k : Int) : ∀ (rs : List Row) (l : List Int) (f : Int), rs.foldl (stepR span k) (l, f) = (l ++ bgn span k rs f, fin span k rs f)
  | [], l, f => by
    show (l, f) = (l ++ [], f)
    rw [List.append_nil]
  | r :: rs, l, f => by
    rw [List.foldl_cons]
    show rs.foldl (stepR span k) (l ++ [max f (k * span + r.1)], max f (k * span + r.1) + r.2.2) = _
    rw [steps_eq span k rs]
    show (l ++ [_] ++ _, _) = (l ++ (_ :: _), _)
    rw [List.append_assoc]
    rfl
def begPre (span : Int) (rs : List Row) : Nat → List Int
  | 0 => []
  | k + 1 => begPre span rs k ++ begs span rs k
theorem begPre_two (span : Int) (rs : List Row) : begPre span rs 2 = begunL span rs := rfl
theorem begPre_len {span : Int} {rs : List Row} (h : rs.length ≤ 12) : ∀ {k : Nat}, k < 2 → (begPre span rs k).length ≤ 24
  | 0, _ => by simp [begPre]
  | 1, _ => by
    show ([] ++ begs span rs 0).length ≤ 24
    rw [List.nil_append]
    unfold begs
    rw [bgn_len]
    omega
/-- what is handed in as calls: a tuple, an owned list, none -/
def Handed (B : Hp) (L : List (Addr × HO)) (y : V) (xs : List V) : Prop := (∃ a, y = .ref a ∧ B a = some (.tup xs)) ∨ (∃ a, y = .ref a ∧ (a, HO.lst xs) ∈ L) ∨ (y = .non ∧ xs = []) ∨ ∃ a, y = .ref a ∧ B a = some (.lst xs)
def sp_Round_init (K : PySem.W.Frag) : Sp := fun vs H Q _ => vs.length = 3 ∧ ∃ (x dx : Addr) (y : V) (span : Int) (xs : List V) (rs : List Row) (B : Hp) (M L : List (Addr × HO)), vs = [.ref x, .int span, y] ∧ Is B M ((x, .ins (He.ga K "Round") dx []) :: (dx, .own x) :: L) H ∧ Handed B L y xs ∧ RowsB B xs rs ∧ GoodR span rs ∧
  ∀ (B' H' : Hp), Same B B' → Is B' M L H' → RoundAt K B' x span rs → Q .non H'
abbrev t_Round_init_0 (K : PySem.W.Frag) : TS := (tAug 3 (tVar 7) (ipI fun i j => i + j))
abbrev t_Round_init_1 (K : PySem.W.Frag) : TS := (tSeq (tDrop (tBM K "list" rAppend (tFld K (tVar 0) "begun") (tCons (tVar 3) tNil))) (t_Round_init_0 K))
abbrev t_Round_init_2 (K : PySem.W.Frag) : TS := (tSeq (tAsg (tCB rMax2 (tCons (tVar 3) (tCons (tOp (rAddA K) (tOp rMulA (tVar 4) (tVar 1)) (tVar 5)) tNil))) (gName 3)) (t_Round_init_1 K))
abbrev t_Round_init_3 (K : PySem.W.Frag) : TS := (tFor (iAny K (tFld K (tVar 0) "call_rows")) (gTup K 3 (gCons (gName 5) (gCons (gName 6) (gCons (gName 7) gNil)))) (t_Round_init_2 K))
abbrev t_Round_init_4 (K : PySem.W.Frag) : TS := (tFor (iRng1 (tCons (tC (.int 2)) tNil)) (gName 4) (t_Round_init_3 K))
abbrev t_Round_init_5 (K : PySem.W.Frag) : TS := (tSeq (tAsg (tC (.int 0)) (gName 3)) (t_Round_init_4 K))
abbrev t_Round_init_6 (K : PySem.W.Frag) : TS := (tSeq (sFld K (tVar 0) (tLst tNil) "begun") (t_Round_init_5 K))
abbrev t_Round_init_7 (K : PySem.W.Frag) : TS := (tSeq (sFld K (tVar 0) (tIf (tTest (tOp rIsNo (tVar 2) (tC .non))) (tLst tNil) (tCB (rListOf K) (tCons (tVar 2) tNil))) "call_rows") (t_Round_init_6 K))
abbrev t_Round_init_8 (K : PySem.W.Frag) : TS := (tSeq (sFld K (tVar 0) (tVar 1) "hours_long") (t_Round_init_7 K))
abbrev t_Round_init_9 (K : PySem.W.Frag) : TS := (tSeq (tIfS (tAnd (tTest (tOp rNoNo (tVar 2) (tC .non))) (tNot (tTr K (tCl 2 0 (sp_are_calls K) (fun vs zs => pick .non [0, 1] (vs ++ zs)) E0 (tCons (tVar 2) (tCons (tVar 1) tNil)) tNil)))) tNoS tNext) (t_Round_init_8 K))
def t_Round_init (K : PySem.W.Frag) : TS := (tSeq (tIfS (tNot (tTr K (tCl 2 1 (sp_is_whole K) (fun vs zs => pick .non [0, 1, 2] (vs ++ (zs ++ [.int 1000000]))) E0 (tCons (tVar 1) (tCons (tC (.int 1)) tNil)) (tCons (tC (.int 1000)) tNil)))) tNoS tNext) (t_Round_init_9 K))
theorem rd_Round_init {K : PySem.W.Frag} (C : RoundC K) (vs : List V) (H : Hp) (Q : VK) (E : XK) (h : sp_Round_init K vs H Q E) : t_Round_init K { nx := fun _ H' => Q .non H', rt := Q } (start ["self", "length", "calls", "over", "k", "at", "name", "hours"] vs) H := by
  obtain ⟨_, x, dx, y, span, xs, rs, B, M, L, rfl, hI, ha, hr, hg, q⟩ := h
  show t_Round_init K ⟨_, _, _, _⟩ [some (.ref x), some (.int span), some y, none, none, none, none, none] H
  obtain ⟨cl, n1, n2, n3⟩ := C
  have hl := hr.len
  have hlen := hg.len
  have key : ∀ (bk ct : St → Hp → Prop) (cr : Addr) (H : Hp), Is B M ((cr, .lst xs) :: (x, .ins (He.ga K "Round") dx [("hours_long", .int span), ("call_rows", .ref cr)]) :: (dx, .own x) :: L) H →
      t_Round_init_6 K ⟨fun _ H' => Q .non H', Q, bk, ct⟩ [some (.ref x), some (.int span), some y, none, none, none, none, none] H := by
    intro bk ct cr H hI
    tm_at "go"
    obtain ⟨bg, rfl⟩ : ∃ q, q = p := ⟨_, rfl⟩
    refine' g_aFor walk_range (fun k σ H => ∃ (s1 s2 s3 s4 : Option V), σ = [some (.ref x), some (.int span), some y, some (.int (free0 span rs k)), s1, s2, s3, s4] ∧
      Is B M ((bg, .lst ((begPre span rs k).map V.int)) :: (cr, .lst xs) :: (x, .ins (He.ga K "Round") dx [("hours_long", .int span), ("call_rows", .ref cr), ("begun", .ref bg)]) :: (dx, .own x) :: L) H)
      ⟨_, _, _, _, rfl, hI⟩ (fun _ _ _ _ _ => trivial) ?_ ?_
    · rintro k y σ H H' hk ⟨s1, s2, s3, s4, rfl, hI⟩ ⟨rfl, hy⟩
      have hk : k < 2 := hk
      have hy : y = .int (k : Int) := by
        rw [hy]
        show V.int (0 + (k : Int)) = _
        rw [Int.zero_add]
      subst hy
      tm_at "go"
      refine' g_aFor (walk_list (xs := xs)) (fun i σ H => ∃ (s2 s3 s4 : Option V), σ = [some (.ref x), some (.int span), some y, some (.int ((rs.take i).foldl (stepR span k) (begPre span rs k, free0 span rs k)).2), some (.int (k : Int)), s2, s3, s4] ∧
        Is B M ((bg, .lst (((rs.take i).foldl (stepR span k) (begPre span rs k, free0 span rs k)).1.map V.int)) :: (cr, .lst xs) :: (x, .ins (He.ga K "Round") dx [("hours_long", .int span), ("call_rows", .ref cr), ("begun", .ref bg)]) :: (dx, .own x) :: L) H)
        ⟨_, _, _, rfl, hI⟩ (fun i σ H _ ⟨_, _, _, _, hI⟩ => (by tm_at "sq" : SqL K H cr xs)) ?_ ?_
      · rintro i y σ H H' hi ⟨s2, s3, s4, rfl, hI⟩ ⟨rfl, hy⟩
        obtain ⟨b, c, s, w, rfl, e, hb⟩ := hr.get hy
        have hrow := hg.row _ (List.mem_of_getElem? e)
        have e5 : (rs.take (i + 1)).foldl (stepR span k) (begPre span rs k, free0 span rs k) = stepR span k ((rs.take i).foldl (stepR span k) (begPre span rs k, free0 span rs k)) (c, s, w) := by
          rw [take_snocI e, List.foldl_append]
          rfl
        have hlen2 : ((rs.take i).foldl (stepR span k) (begPre span rs k, free0 span rs k)).1.length ≤ 100 := by
          have e6 : (rs.take i).foldl (stepR span k) (begPre span rs k, free0 span rs k) = _ := steps_eq span k (rs.take i) (begPre span rs k) (free0 span rs k)
          rw [e6]
          show (begPre span rs k ++ bgn span k (rs.take i) (free0 span rs k)).length ≤ 100
          have : (begPre span rs k).length ≤ 24 := begPre_len hlen hk
          rw [List.length_append, bgn_len, List.length_take]
          omega
        rw [e5]
        generalize (rs.take i).foldl (stepR span k) (begPre span rs k, free0 span rs k) = st at *
        obtain ⟨l, f⟩ := st
        have hlen2 : l.length ≤ 100 := hlen2
        tm_at "go"
        refine ⟨_, _, _, rfl, ?_⟩
        have e6 : stepR span k (l, f) (c, s, w) = (l ++ [max f ((k : Int) * span + c)], max f ((k : Int) * span + c) + w) := rfl
        rw [e6, List.map_append]
        exact hI
      · rintro σ H ⟨s2, s3, s4, rfl, hI⟩
        rw [List.take_of_length_le (by omega), steps_eq] at hI
        rw [List.take_of_length_le (by omega), steps_eq]
        exact ⟨_, s2, s3, s4, rfl, hI⟩
    · rintro σ H ⟨s1, s2, s3, s4, rfl, hI⟩
      tm_at "go"
      have hI : Is B M ((bg, .lst ((begunL span rs).map V.int)) :: (cr, .lst xs) :: (x, .ins (He.ga K "Round") dx [("hours_long", .int span), ("call_rows", .ref cr), ("begun", .ref bg)]) :: (dx, .own x) :: L) H := hI
      refine' hI.give (a := bg) (by tm_at "del") ?_
      clear hI
      intro B1 s1 h1 hI
      refine' hI.give (a := x) (by tm_at "del") ?_
      clear hI
      intro B2 s2 h2 hI
      refine' hI.give (a := cr) (by tm_at "del") ?_
      clear hI
      intro B3 s3 h3 hI
      exact q B3 H ((s1.trans s2).trans s3) (hI.forget (by tm_at "sub")) ⟨⟨dx, cr, bg, xs, s3 _ _ h2, h3, hr.same ((s1.trans s2).trans s3), (s2.trans s3) _ _ h1⟩, hg⟩
  unfold t_Round_init
  tm_at "go"
  refine' ap_is_whole_t (K := K) hg.s0 hg.s1 ?_
  tm_at "go"
  rcases ha with ⟨a, rfl, ha⟩ | ⟨a, rfl, ha⟩ | ⟨rfl, rfl⟩ | ⟨a, rfl, ha⟩
  · refine g_ndec (fun _ => ?_) (fun h => by cases h)
    tm_at "go"
    refine' ap_are_calls (K := K) hI ha hr hg ?_
    clear hI
    intro H hI
    repeat (first | with_reducible exact key _ _ _ _ hI | tm_at "go1")
    refine g_dec (fun h => by cases h) (fun _ => ?_)
    repeat (first | with_reducible exact key _ _ _ _ hI | tm_at "go1")
  · obtain ⟨L1, hp⟩ : ∃ L1, L.Perm ((a, .lst xs) :: L1) := by
      obtain ⟨l1, l2, e⟩ := List.append_of_mem ha
      exact ⟨l1 ++ l2, by rw [e]; exact List.perm_middle⟩
    refine g_ndec (fun _ => ?_) (fun h => by cases h)
    tm_at "go"
    have hI := hI.perm (L' := (a, .lst xs) :: (x, .ins (He.ga K "Round") dx []) :: (dx, .own x) :: L1) (by
      refine List.Perm.symm ?_
      refine ((hp.cons _).cons _).trans ?_
      refine (((List.Perm.swap _ _ _).cons _)).trans ?_
      exact List.Perm.swap _ _ _)
    refine' ap_are_callsL (K := K) hI hr hg ?_
    clear hI
    intro H hI
    have hI := hI.perm (L' := (x, .ins (He.ga K "Round") dx []) :: (dx, .own x) :: L) (by
      refine ((hp.cons _).cons _).trans ?_
      refine (((List.Perm.swap _ _ _).cons _)).trans ?_
      exact List.Perm.swap _ _ _)
    have hs : ∀ (H' : Hp) (p q : Addr × HO), Is B M (p :: q :: L) H' → SqL K H' a xs := fun H' p q I => SqL.of (I.get (List.Mem.tail _ (List.Mem.tail _ ha)))
    repeat (first | with_reducible exact key _ _ _ _ hI | tm_at "go1")
    refine g_dec (fun h => by cases h) (fun _ => ?_)
    repeat (first | with_reducible exact key _ _ _ _ hI | tm_at "go1")
    refine' g_listOfL hI (hs _ _ _ hI) ?_
    clear hI
    intro p H hI
    repeat (first | with_reducible exact key _ _ _ _ hI | tm_at "go1")
  · refine g_ndec (fun h => absurd rfl h) (fun _ => ?_)
    repeat (first | with_reducible exact key _ _ _ _ hI | tm_at "go1")
    refine g_dec (fun _ => ?_) (fun h => absurd rfl h)
    repeat (first | with_reducible exact key _ _ _ _ hI | tm_at "go1")
  · refine g_ndec (fun _ => ?_) (fun h => by cases h)
    tm_at "go"
    refine' (show sp_are_calls K _ _ _ _ from ⟨rfl, a, span, xs, rs, B, M, _, rfl, hI, .inr ha, hr, hg, ?_⟩)
    clear hI
    intro H hI
    repeat (first | with_reducible exact key _ _ _ _ hI | tm_at "go1")
    refine g_dec (fun h => by cases h) (fun _ => ?_)
    repeat (first | with_reducible exact key _ _ _ _ hI | tm_at "go1")
/-! ### names that are made -/
def Lets (n : Nat) (z : Str) : Prop := z.length ≤ n ∧ ∀ c ∈ z.cps.toList, c ∈ letS.cps.toList
theorem Lets.mono {n m : Nat} {z : Str} (h : Lets n z) (hn : n ≤ m) : Lets m z := ⟨Nat.le_trans h.1 hn, h.2⟩
theorem Lets.add {n m : Nat} {x y : Str} (h1 : Lets n x) (h2 : Lets m y) : Lets (n + m) (x ++ y) := by
  refine ⟨by rw [len_app]; have := h1.1; have := h2.1; omega, fun c hc => ?_⟩
  rw [cps_app] at hc
  rcases List.mem_append.mp hc with h | h
  · exact h1.2 c h
  · exact h2.2 c h
theorem letS_bd : ∀ c ∈ letS.cps.toList, c < 128 := by decide +kernel
theorem Lets.sh {n : Nat} {z : Str} (h : Lets n z) : Sh n z := ⟨h.1, fun c hc => letS_bd c (h.2 c hc)⟩
theorem Lets.sign {c : Nat} (h : c ∈ letS.cps.toList) : Lets 1 ⟨#[c]⟩ := by
  refine ⟨Nat.le_refl _, fun d hd => ?_⟩
  have : d = c := by simpa using hd
  rw [this]
  exact h
theorem Lets.name {n : Nat} {z : Str} (h : Lets n z) (hn : n ≤ 8) (h1 : 1 ≤ z.length) (hb : inV (.str z) barVs = false) : isName (.str z) = true := by
  show (decide (1 ≤ (z.length : Int)) && (decide ((z.length : Int) ≤ 8) && (!inV (.str z) barVs && z.cps.toList.all fun c => decide (c ∈ letS.cps.toList)))) = true
  have := h.1
  rw [decide_eq_true (by omega), decide_eq_true (by omega), hb, List.all_eq_true.mpr fun c hc => decide_eq_true (h.2 c hc)]
  rfl
theorem barV_cases {z : Str} (h : inV (.str z) barVs = true) : Lets 6 z ∧ 1 ≤ z.length ∧ inV (.str ("q" ++ z)) barVs = false ∧ inV (.str (z ++ "q")) barVs = false := by
  unfold inV at h
  obtain ⟨y, hy, e⟩ := List.any_eq_true.mp h
  have key : ∀ y ∈ barVs, ∃ w, y = .str w ∧ (Lets 6 w ∧ 1 ≤ w.length ∧ inV (.str ("q" ++ w)) barVs = false ∧ inV (.str (w ++ "q")) barVs = false) := by
    intro y hy
    have : y ∈ [V.str "style", .str "job", .str "round", .str "sew", .str "glue", .str "cover", .str "letter", .str "press", .str "hand", .str "haste"] := hy
    simp only [List.mem_cons, List.not_mem_nil, or_false] at this
    unfold Lets
    rcases this with rfl | rfl | rfl | rfl | rfl | rfl | rfl | rfl | rfl | rfl <;> exact ⟨_, rfl, by decide +kernel⟩
  obtain ⟨w, rfl, hw⟩ := key y hy
  have e2 : w = z := eq_of_beq (show (w == z) = true from e)
  rw [← e2]
  exact hw
/-- the name made at turn t: at most 7 letters, 8 at an odd one -/
def NmAt (t : Nat) (x : V) : Prop := ∃ z, x = .str z ∧ Lets (7 + t % 2) z ∧ 1 ≤ z.length ∧ inV (.str z) barVs = false
def Nms (xs : List V) : Prop := ∀ t x, xs[t]? = some x → NmAt t x
theorem Nms.nil : Nms [] := fun _ _ h => by cases h
theorem Nms.snoc {xs : List V} {x : V} (h : Nms xs) (hx : NmAt xs.length x) : Nms (xs ++ [x]) := fun t y e => by
  rcases Nat.lt_or_ge t xs.length with hl | hl
  · rw [List.getElem?_append_left hl] at e
    exact h t y e
  · rw [List.getElem?_append_right hl] at e
    have ht : t = xs.length := by
      rcases Nat.lt_or_ge (t - xs.length) 1 with z | z
      · omega
      · rw [List.getElem?_eq_none (by simpa using z)] at e
        cases e
    subst ht
    rw [Nat.sub_self] at e
    cases e
    exact hx
/-- a name as a round wants it -/
def IsNm (x : V) : Prop := ∃ z, x = .str z ∧ isName (.str z) = true ∧ plainS z
theorem Nms.nm {xs : List V} {t : Nat} {x : V} (h : Nms xs) (e : xs[t]? = some x) : IsNm x := by
  obtain ⟨z, rfl, h1, h2, h3⟩ := h t x e
  exact ⟨z, rfl, h1.name (by omega) h2 h3, h1.sh.plain (by omega)⟩
/-! the names are unlike: by their last letters, or by their first ones -/
def sgC (shift stride : Int) (t : Nat) : Nat := 97 + ((shift + stride * (t : Int)) % 26).toNat
theorem let_at : ∀ k, k < 26 → letS.cps.toList[k]? = some (97 + k) := by decide +kernel
theorem let_sg (shift stride : Int) (t : Nat) : atI letS.cps.toList ((shift + stride * (t : Int)) % 26) = some (sgC shift stride t) :=
  atI_of (Int.emod_nonneg _ (by decide)) (let_at _ (by have := Int.emod_lt_of_pos (shift + stride * (t : Int)) (show (0 : Int) < 26 by decide); have := Int.emod_nonneg (shift + stride * (t : Int)) (show (26 : Int) ≠ 0 by decide); omega))
def STR : List Int := [1, 3, 5, 7, 9, 11, 15, 17, 19, 21, 23, 25]
theorem sg_ne {shift stride : Int} (h : stride ∈ STR) {t u : Nat} (h1 : t < u) (h2 : u < 26) : sgC shift stride t ≠ sgC shift stride u := by
  unfold sgC
  unfold STR at h
  simp only [List.mem_cons, List.not_mem_nil, or_false] at h
  rcases h with rfl | rfl | rfl | rfl | rfl | rfl | rfl | rfl | rfl | rfl | rfl | rfl <;> omega
/-- where a name's sign stands: a name made at turn t ends, or begins, with it; or goes on from the one ahead -/
def NdAt (last : Bool) (sg : Nat → Nat) (xs : List V) (t : Nat) (z : Str) : Prop := (last = true → z.cps.toList.getLast? = some (sg t)) ∧ (last = false → z.cps.toList.head? = some (sg t) ∨ (t % 2 = 1 ∧ ∃ y r, xs[t - 1]? = some (.str y) ∧ z = y ++ r ∧ 1 ≤ r.length))
def NmD (last : Bool) (sg : Nat → Nat) (xs : List V) : Prop := ∀ t z, xs[t]? = some (.str z) → NdAt last sg xs t z
theorem NdAt.app {last : Bool} {sg : Nat → Nat} {xs : List V} {t : Nat} {z : Str} {x : V} (h : NdAt last sg xs t z) (ht : t ≤ xs.length) : NdAt last sg (xs ++ [x]) t z := by
  refine ⟨h.1, fun hl => ?_⟩
  rcases h.2 hl with e | ⟨e, y, r, e1, e2⟩
  · exact .inl e
  · refine .inr ⟨e, y, r, ?_, e2⟩
    rw [List.getElem?_append_left (by omega)]
    exact e1
theorem NmD.snoc {last : Bool} {sg : Nat → Nat} {xs : List V} {z : Str} (h : NmD last sg xs) (hz : NdAt last sg xs xs.length z) : NmD last sg (xs ++ [.str z]) := fun t y e => by
  rcases Nat.lt_or_ge t xs.length with hl | hl
  · rw [List.getElem?_append_left hl] at e
    exact (h t y e).app (by omega)
  · rw [List.getElem?_append_right hl] at e
    have ht : t = xs.length := by
      rcases Nat.lt_or_ge (t - xs.length) 1 with z | z
      · omega
      · rw [List.getElem?_eq_none (by simpa using z)] at e
        cases e
    subst ht
    rw [Nat.sub_self] at e
    cases e
    exact hz.app (Nat.le_refl _)
/-- all names are unlike -/
def Dst (xs : List V) : Prop := ∀ t u x y, t < u → u < 26 → xs[t]? = some x → xs[u]? = some y → x ≠ y
theorem NmD.dst {last : Bool} {shift stride : Int} {xs : List V} (h : NmD last (sgC shift stride) xs) (hn : Nms xs) (hs : stride ∈ STR) : Dst xs := by
  intro t u x y h1 h2 ex ey e
  subst e
  obtain ⟨z, rfl, hz, hz1, _⟩ := hn t _ ex
  have a := h t z ex
  have b := h u z ey
  have hzl : z.cps.toList ≠ [] := fun e => by
    rw [len_cps, e] at hz1
    simp at hz1
  cases last with
  | true =>
    have := (a.1 rfl).symm.trans (b.1 rfl)
    exact sg_ne (shift := shift) hs h1 h2 (Option.some.inj this)
  | false =>
    have key : ∀ v, v < 26 → xs[v]? = some (.str z) → z.cps.toList.head? = some (sgC shift stride v) ∨ (v % 2 = 1 ∧ z.cps.toList.head? = some (sgC shift stride (v - 1)) ∧ ∃ y, xs[v - 1]? = some (.str y) ∧ y.length < z.length) := by
      intro v hv ev
      rcases (h v z ev).2 rfl with e | ⟨ho, y, r, e1, e2, e3⟩
      · exact .inl e
      · refine .inr ⟨ho, ?_, y, e1, by rw [e2, len_app]; omega⟩
        obtain ⟨y', ey', hy', hy1, _⟩ := hn _ _ e1
        cases ey'
        have hyl : y.cps.toList ≠ [] := fun e => by
          rw [len_cps, e] at hy1
          simp at hy1
        rcases (h (v - 1) y e1).2 rfl with e | ⟨ho2, _⟩
        · rw [e2, cps_app, List.head?_append, e]
          rfl
        · omega
    rcases key t (by omega) ex with a1 | ⟨ho, a1, _⟩
    · rcases key u h2 ey with b1 | ⟨ho2, b1, y, ey2, hlt⟩
      · exact sg_ne (shift := shift) hs h1 h2 (Option.some.inj (a1.symm.trans b1))
      · have hd := Option.some.inj (a1.symm.trans b1)
        rcases Nat.lt_or_ge t (u - 1) with hl | hl
        · exact sg_ne (shift := shift) hs hl (by omega) hd
        · have : t = u - 1 := by omega
          rw [← this, ex] at ey2
          cases ey2
          omega
    · rcases key u h2 ey with b1 | ⟨ho2, b1, _⟩
      · exact sg_ne (shift := shift) hs (show t - 1 < u by omega) h2 (Option.some.inj (a1.symm.trans b1))
      · exact sg_ne (shift := shift) hs (show t - 1 < u - 1 by omega) (by omega) (Option.some.inj (a1.symm.trans b1))
theorem g_ix_in {K : PySem.W.Frag} {H : Hp} {Q : VK} {a : Addr} {ns : List Int} {i : Int} (hs : SqL K H a (ns.map V.int)) (h0 : 0 ≤ i) (h1 : i < (ns.length : Int)) (q : ∀ n, n ∈ ns → Q (.int n) H) : rIx K (.ref a) (.int i) H Q := by
  have hl : i.toNat < ns.length := by omega
  exact g_ix_l hs (atI_of h0 (by rw [List.getElem?_map, List.getElem?_eq_getElem hl]; rfl)) (q _ (List.getElem_mem hl))
theorem atI_mem {α : Type} {xs : List α} {i : Int} {a : α} (h : atI xs i = some a) : a ∈ xs := by
  unfold atI at h
  obtain ⟨j, _, e⟩ := Option.bind_eq_some_iff.mp h
  exact List.mem_of_getElem? e
theorem atI_last {α : Type} {xs : List α} {a : α} (h : atI xs (-1) = some a) (h0 : 0 < xs.length) : xs[xs.length - 1]? = some a := by
  have e : xs[xs.length - 1]? = some (xs[xs.length - 1]'(by omega)) := List.getElem?_eq_getElem (by omega)
  have e2 := atI_back h0 e
  rw [e2] at h
  rw [e]
  exact h
theorem app_assoc (x y z : Str) : x ++ y ++ z = x ++ (y ++ z) := by
  apply TL.ext_tl
  simp only [TL.tl_append, List.append_assoc]
theorem last_app {x y : Str} {c : Nat} (h : y.cps.toList.getLast? = some c) : (x ++ y).cps.toList.getLast? = some c := by
  rw [cps_app, List.getLast?_append, h]
  rfl
theorem head_app {x y : Str} {c : Nat} (h : x.cps.toList.head? = some c) : (x ++ y).cps.toList.head? = some c := by
  rw [cps_app, List.head?_append, h]
  rfl
theorem Ints.ns {lo hi : Int} : ∀ {xs : List V}, Ints lo hi xs → ∃ ns : List Int, xs = ns.map V.int ∧ ∀ n ∈ ns, lo ≤ n ∧ n ≤ hi
  | [], _ => ⟨[], rfl, fun _ h => by cases h⟩
  | x :: xs, h => by
    obtain ⟨w, rfl, h1⟩ := h x List.mem_cons_self
    obtain ⟨ns, rfl, h2⟩ := Ints.ns fun y hy => h y (List.mem_cons_of_mem _ hy)
    refine ⟨w :: ns, rfl, fun n hn => ?_⟩
    rcases List.mem_cons.mp hn with e | e
    · rw [e]
      exact h1
    · exact h2 n e
theorem Ints.snoc {lo hi w : Int} {xs : List V} (h : Ints lo hi xs) (hw : lo ≤ w ∧ w ≤ hi) : Ints lo hi (xs ++ [.int w]) := fun x hx => by
  rcases List.mem_append.mp hx with e | e
  · exact h x e
  · exact ⟨w, List.mem_singleton.mp e, hw⟩
theorem cutV_ints (ns : List Int) (lo hi : Option Int) : ∃ ms : List Int, cutV (ns.map V.int) lo hi = ms.map V.int ∧ ∀ x ∈ ms, x ∈ ns := by
  unfold cutV
  rw [← List.map_drop, ← List.map_take]
  exact ⟨_, rfl, fun x hx => List.mem_of_mem_drop (List.mem_of_mem_take hx)⟩
theorem sum_nn : ∀ (ns : List Int), (∀ x ∈ ns, 0 ≤ x) → 0 ≤ ns.sum
  | [], _ => Int.le_refl _
  | n :: ns, h => by
    rw [List.sum_cons]
    have := h n List.mem_cons_self
    have := sum_nn ns fun x hx => h x (List.mem_cons_of_mem _ hx)
    omega
theorem g_setLb {B H : Hp} {M L L' : List (Addr × HO)} {l : Addr} {xs : List V} {v : V} {QH : Hp → Prop} (I : Is B M L H) (hl : H l = some (.lst xs)) (h1 : 0 < xs.length) (u : Put l (.lst (xs.set (xs.length - 1) v)) L L') (q : ∀ H', Is B M L' H' → QH H') : rSetL (.ref l) (.int (-1)) v H QH := by
  refine ⟨l, xs, -1, xs.length - 1, rfl, rfl, hl, ?_, q _ (I.put u)⟩
  unfold ixN
  rw [if_neg (by decide), if_pos (by omega)]
  congr 1
  omega
/-- a drawn round, plain -/
structure PlainAt (B : Hp) (p : Addr) (span : Int) (rs : List Row) : Prop where
  ex : ∃ (a : Addr) (xs : List V), B p = some (.tup [.int span, .ref a]) ∧ B a = some (.tup xs) ∧ RowsB B xs rs
  good : GoodR span rs
theorem PlainAt.same {B B' : Hp} {p : Addr} {span : Int} {rs : List Row} (e : Same B B') (h : PlainAt B p span rs) : PlainAt B' p span rs := by
  obtain ⟨⟨a, xs, h1, h2, h3⟩, g⟩ := h
  exact ⟨⟨a, xs, e _ _ h1, e _ _ h2, h3.same e⟩, g⟩
/-- the names come from the first four -/
def In4 (ws : List V) (s : Str) : Prop := ∃ t, t < 4 ∧ ws[t]? = some (.str s)
def NIn (ws : List V) (rs : List Row) : Prop := ∀ r ∈ rs, In4 ws r.2.1
/-- how long and how much a drawn round has -/
def SmallR (top span : Int) (rs : List Row) : Prop := span ≤ max 24 top ∧ ∀ r ∈ rs, r.2.2 ≤ 2 * span + 3
def RowsIn (ws : List V) (B : Hp) (cs wk : List Int) (acc : List V) (i : Nat) : Prop := ∃ rs : List Row, RowsB B acc rs ∧ rs.length = i ∧ ∀ (t : Nat) (c : Int) (s : Str) (v : Int), rs[t]? = some (c, s, v) → cs[t]? = some c ∧ wk[t]? = some v ∧ isName (.str s) = true ∧ plainS s ∧ In4 ws s
theorem RowsIn.nil {ws : List V} {B : Hp} {cs wk : List Int} : RowsIn ws B cs wk [] 0 := ⟨[], .nil, rfl, fun t c s v h => by simp at h⟩
theorem RowsB.snoc {B : Hp} {a : Addr} {c v : Int} {s : Str} : ∀ {xs : List V} {rs : List Row}, RowsB B xs rs → B a = some (.tup [.int c, .str s, .int v]) → RowsB B (xs ++ [.ref a]) (rs ++ [(c, s, v)])
  | _, _, .nil, h => .cons h .nil
  | _, _, .cons h t, h2 => .cons h (t.snoc h2)
theorem RowsIn.snoc {ws : List V} {B : Hp} {cs wk : List Int} {acc : List V} {i : Nat} {a : Addr} {c v : Int} {s : Str} (h : RowsIn ws B cs wk acc i) (ha : B a = some (.tup [.int c, .str s, .int v])) (h1 : cs[i]? = some c) (h2 : wk[i]? = some v) (h3 : isName (.str s) = true) (h4 : plainS s) (h5 : In4 ws s) : RowsIn ws B cs wk (acc ++ [.ref a]) (i + 1) := by
  obtain ⟨rs, r1, r2, r3⟩ := h
  refine ⟨rs ++ [(c, s, v)], r1.snoc ha, by simp [r2], fun t c' s' v' e => ?_⟩
  rcases Nat.lt_or_ge t rs.length with hl | hl
  · rw [List.getElem?_append_left hl] at e
    exact r3 t c' s' v' e
  · rw [List.getElem?_append_right hl] at e
    have ht : t = rs.length := by
      rcases Nat.lt_or_ge (t - rs.length) 1 with z | z
      · omega
      · rw [List.getElem?_eq_none (by simpa using z)] at e
        cases e
    subst ht
    rw [Nat.sub_self] at e
    cases e
    rw [r2]
    exact ⟨h1, h2, h3, h4, h5⟩
theorem RowsIn.same {ws : List V} {B B' : Hp} {cs wk : List Int} {acc : List V} {i : Nat} (e : Same B B') (h : RowsIn ws B cs wk acc i) : RowsIn ws B' cs wk acc i := by
  obtain ⟨rs, r1, r2⟩ := h
  exact ⟨rs, r1.same e, r2⟩
theorem ints_at {ns : List Int} {i : Nat} {x : V} (h : (ns.map V.int)[i]? = some x) : ∃ n, x = .int n ∧ ns[i]? = some n := by
  rw [List.getElem?_map] at h
  cases e : ns[i]? with
  | none => rw [e] at h; cases h
  | some n =>
    rw [e] at h
    exact ⟨n, (Option.some.inj h).symm, rfl⟩
theorem g_ix_nm {K : PySem.W.Frag} {H : Hp} {Q : VK} {a : Addr} {xs : List V} {i : Int} (hs : SqL K H a xs) (h : ∀ x ∈ xs, IsNm x) (h0 : 0 ≤ i) (h1 : i < (xs.length : Int)) (q : ∀ s, isName (.str s) = true → plainS s → xs[i.toNat]? = some (.str s) → Q (.str s) H) : rIx K (.ref a) (.int i) H Q := by
  have hl : i.toNat < xs.length := by omega
  obtain ⟨z, e, s1, s2⟩ := h _ (List.getElem_mem hl)
  exact g_ix_l hs (atI_of h0 (by rw [List.getElem?_eq_getElem hl, e])) (q z s1 s2 (by rw [List.getElem?_eq_getElem hl, e]))
theorem sorted_up {cs : List Int} (h : cs.Pairwise (· ≤ ·)) {i : Nat} {a b : Int} (h1 : cs[i]? = some a) (h2 : cs[i + 1]? = some b) : a ≤ b := by
  obtain ⟨l1, e1⟩ := List.getElem?_eq_some_iff.mp h1
  obtain ⟨l2, e2⟩ := List.getElem?_eq_some_iff.mp h2
  rw [← e1, ← e2]
  exact List.pairwise_iff_getElem.mp h i (i + 1) l1 l2 (by omega)
def sp_law_plain (K : PySem.W.Frag) : Sp := fun vs H Q _ => vs.length = 3 ∧ ∃ (m w : Addr) (ws : List V) (n top : Int) (B : Hp) (M L : List (Addr × HO)), vs = [.ref m, .ref w, .int top] ∧ (4 ≤ top ∧ top ≤ 1000) ∧ Is B M L H ∧ Dr m n B M ∧ n < 2 ^ 39 ∧ B w = some (.lst ws) ∧ 4 ≤ ws.length ∧ (∀ x ∈ ws, IsNm x) ∧
  ∀ (p : Addr) (span : Int) (rs : List Row) (B' H' : Hp) (M' : List (Addr × HO)), Same B B' → Is B' M' L H' → Dr m (n + 100) B' M' → PlainAt B' p span rs → NIn ws rs → SmallR top span rs → Q (.ref p) H'
/-! ### the law's own walk -/
abbrev WRow : Type := Int × Int × Int × Int × Int
def WR (B : Hp) (x : V) (r : WRow) : Prop := ∃ a, x = .ref a ∧ B a = some (.tup [.int r.1, .int r.2.1, .int r.2.2.1, .int r.2.2.2.1, .int r.2.2.2.2])
theorem WR.same {B B' : Hp} (e : Same B B') (x : V) (r : WRow) (h : WR B x r) : WR B' x r := by
  obtain ⟨a, h1, h2⟩ := h
  exact ⟨a, h1, e _ _ h2⟩
def comeAt (rs : List Row) (j : Nat) : Int := ((rs[j]?).map (·.1)).getD 0
def walkRow (span : Int) (rs : List Row) (k j : Nat) : WRow := ((k : Int), (j : Int), (k : Int) * span + comeAt rs j, bAt span rs k j, bAt span rs k j + workAt rs j)
def walkOf (span : Int) (rs : List Row) (k : Nat) : List WRow := (List.range rs.length).map (walkRow span rs k)
def walkL (span : Int) (rs : List Row) : Nat → List WRow
  | 0 => []
  | k + 1 => walkL span rs k ++ walkOf span rs k
/-- when the press is free for row j of round k -/
def freeAt (span : Int) (rs : List Row) (k : Nat) : Nat → Int
  | 0 => free0 span rs k
  | j + 1 => bAt span rs k j + workAt rs j
theorem workAt_eq {rs : List Row} {j : Nat} {c w : Int} {s : Str} (h : rs[j]? = some (c, s, w)) : workAt rs j = w := by
  unfold workAt
  rw [h]
  rfl
theorem comeAt_eq {rs : List Row} {j : Nat} {c w : Int} {s : Str} (h : rs[j]? = some (c, s, w)) : comeAt rs j = c := by
  unfold comeAt
  rw [h]
  rfl
theorem bAt_free {span : Int} {rs : List Row} {k j : Nat} {c w : Int} {s : Str} (h : rs[j]? = some (c, s, w)) : bAt span rs k j = max (freeAt span rs k j) ((k : Int) * span + c) := by
  cases j with
  | zero =>
    cases rs with
    | nil => cases h
    | cons r rs =>
      cases h
      rfl
  | succ j =>
    have hl := (List.getElem?_eq_some_iff.mp h).1
    obtain ⟨r, hr⟩ : ∃ r, rs[j]? = some r := ⟨_, List.getElem?_eq_getElem (by omega)⟩
    rw [bAt_next k j hr h]
    show _ = max (bAt span rs k j + workAt rs j) _
    rw [workAt_eq (c := r.1) (s := r.2.1) (w := r.2.2) hr]
theorem freeAt_end {span : Int} {rs : List Row} {k : Nat} : freeAt span rs k rs.length = free0 span rs (k + 1) := by
  cases hl : rs.length with
  | zero =>
    have : rs = [] := List.eq_nil_of_length_eq_zero hl
    subst this
    rfl
  | succ n =>
    obtain ⟨r, hr⟩ : ∃ r, rs[n]? = some r := ⟨_, List.getElem?_eq_getElem (by omega)⟩
    show bAt span rs k n + workAt rs n = _
    rw [workAt_eq (c := r.1) (s := r.2.1) (w := r.2.2) hr]
    exact (fin_last span k rs _ n r hr (by omega)).symm
def sp_law_walk (K : PySem.W.Frag) : Sp := fun vs H Q _ => vs.length = 2 ∧ ∃ (p : Addr) (many : Nat) (span : Int) (rs : List Row) (B : Hp) (M L : List (Addr × HO)), vs = [.ref p, .int (many : Int)] ∧ Is B M L H ∧ PlainAt B p span rs ∧ many ≤ 10 ∧
  ∀ (p' : Addr) (xs : List V) (B' H' : Hp), Same B B' → Is B' M ((p', .lst xs) :: L) H' → All2 (WR B') xs (walkL span rs many) → Q (.ref p') H'
theorem ap_law_walk {K : PySem.W.Frag} {B H : Hp} {M L : List (Addr × HO)} {Q : VK} {E : XK} {p : Addr} {many : Nat} {span : Int} {rs : List Row} (I : Is B M L H) (h : PlainAt B p span rs) (hm : many ≤ 10) (q : ∀ (p' : Addr) (xs : List V) (B' H' : Hp), Same B B' → Is B' M ((p', .lst xs) :: L) H' → All2 (WR B') xs (walkL span rs many) → Q (.ref p') H') : sp_law_walk K [.ref p, .int (many : Int)] H Q E :=
  ⟨rfl, p, many, span, rs, B, M, L, rfl, I, h, hm, q⟩
theorem walkL_len (span : Int) (rs : List Row) : ∀ k, (walkL span rs k).length = k * rs.length
  | 0 => by simp [walkL]
  | k + 1 => by
    show (walkL span rs k ++ walkOf span rs k).length = _
    rw [List.length_append, walkL_len span rs k]
    unfold walkOf
    rw [List.length_map, List.length_range, Nat.add_mul, Nat.one_mul]
/-! ### bounds -/
theorem bgn_bd (span k : Int) : ∀ (rs : List Row) (f : Int), (∀ r ∈ rs, 0 ≤ r.2.2) → ∀ x ∈ bgn span k rs f, f ≤ x ∧ x ≤ fin span k rs f
  | [], _, _, x, h => by cases h
  | r :: rs, f, hw, x, h => by
    have h0 := hw r List.mem_cons_self
    have ht := fin_ge span k rs (max f (k * span + r.1) + r.2.2)
    have htp : 0 ≤ tot rs := by
      clear ht h
      induction rs with
      | nil => exact Int.le_refl _
      | cons a l ih =>
        rw [tot_cons]
        have := hw a (List.mem_cons_of_mem _ List.mem_cons_self)
        have := ih fun y hy => by
          rcases List.mem_cons.mp hy with e | e
          · rw [e]
            exact h0
          · exact hw y (List.mem_cons_of_mem _ (List.mem_cons_of_mem _ e))
        omega
    show f ≤ x ∧ x ≤ fin span k rs (max f (k * span + r.1) + r.2.2)
    rcases List.mem_cons.mp h with e | e
    · rw [e]
      omega
    · have := bgn_bd span k rs _ (fun y hy => hw y (List.mem_cons_of_mem _ hy)) x e
      omega
theorem fin_up {span k : Int} : ∀ (rs : List Row) (f : Int), (∀ r ∈ rs, r.1 < span ∧ 0 ≤ r.2.2) → fin span k rs f ≤ max f (k * span + span) + tot rs
  | [], f, _ => by
    show f ≤ max f _ + 0
    omega
  | r :: rs, f, h => by
    have h0 := h r List.mem_cons_self
    have ih := fin_up (span := span) (k := k) rs (max f (k * span + r.1) + r.2.2) fun y hy => h y (List.mem_cons_of_mem _ hy)
    rw [tot_cons]
    show fin span k rs (max f (k * span + r.1) + r.2.2) ≤ _
    omega
theorem free_bd {span : Int} {rs : List Row} (hg : GoodR span rs) : ∀ k : Nat, 0 ≤ free0 span rs k ∧ free0 span rs k ≤ 13000 * (k : Int)
  | 0 => ⟨Int.le_refl _, by show (0 : Int) ≤ _; omega⟩
  | k + 1 => by
    obtain ⟨h1, h2⟩ := free_bd hg k
    have hb := tot_bd (rs := rs) (n := 12) (fun r hr => ⟨(hg.row r hr).2.2.2.2.1, (hg.row r hr).2.2.2.2.2⟩) hg.len
    have up := fin_up (span := span) (k := (k : Int)) rs (free0 span rs k) fun r hr => ⟨(hg.row r hr).2.1, by have := (hg.row r hr).2.2.2.2.1; omega⟩
    have lo := fin_ge span (k : Int) rs (free0 span rs k)
    have hs := hg.s1
    have e : (k : Int) * span + span ≤ 1000 * ((k : Int) + 1) := by
      have : (k : Int) * span ≤ (k : Int) * 1000 := Int.mul_le_mul_of_nonneg_left hs (by omega)
      omega
    show 0 ≤ fin span (k : Int) rs (free0 span rs k) ∧ fin span (k : Int) rs (free0 span rs k) ≤ _
    omega
theorem bAt_bd {span : Int} {rs : List Row} (hg : GoodR span rs) {k j : Nat} (hj : j < rs.length) : 0 ≤ bAt span rs k j ∧ bAt span rs k j ≤ 13000 * ((k : Int) + 1) := by
  have h1 := free_bd hg k
  have h2 := (free_bd hg (k + 1)).2
  have hl : j < (begs span rs k).length := by unfold begs; rw [bgn_len]; exact hj
  have hm : bAt span rs k j ∈ begs span rs k := by
    unfold bAt
    rw [List.getD_eq_getElem?_getD, List.getElem?_eq_getElem hl]
    exact List.getElem_mem hl
  have := bgn_bd span (k : Int) rs (free0 span rs k) (fun r hr => by have := (hg.row r hr).2.2.2.2.1; omega) _ hm
  have e : free0 span rs (k + 1) = fin span (k : Int) rs (free0 span rs k) := rfl
  rw [e] at h2
  omega
theorem log2_small {n : Int} (h0 : -(2 ^ 200) < n) (h : n < 2 ^ 200) : n.natAbs.log2 < 1920 := by
  by_cases hz : n.natAbs = 0
  · rw [hz]
    decide
  · refine Nat.lt_of_lt_of_le ((Nat.log2_lt hz).mpr (?_ : n.natAbs < 2 ^ 200)) (by decide)
    omega
theorem shn_int {n : Int} {k : Nat} (h0 : -(2 ^ 200) < n) (h : n < 2 ^ 200) : Shn (.int n) 2000 k := .int (log2_small h0 h)
theorem workAt_bd {span : Int} {rs : List Row} (hg : GoodR span rs) {j : Nat} (hj : j < rs.length) : 1 ≤ workAt rs j ∧ workAt rs j ≤ 1000 := by
  obtain ⟨⟨c, s, w⟩, hr⟩ : ∃ r, rs[j]? = some r := ⟨_, List.getElem?_eq_getElem hj⟩
  rw [workAt_eq hr]
  have := hg.row _ (List.mem_of_getElem? hr)
  exact this.2.2.2.2
/-! rows as data -/
def rowD (r : Row) : PyData := .tuple [.int r.1, .str r.2.1, .int r.2.2]
theorem dp_rows {K : PySem.W.Frag} {B H : Hp} (e : Same B H) : ∀ {xs : List V} {rs : List Row}, RowsB B xs rs → DpAll K H xs (rs.map rowD)
  | _, _, .nil => .nil
  | _, _, .cons h t => .cons (.tup (SqT.of (e _ _ h)) (.cons (.int _) (.cons (.str _) (.cons (.int _) .nil)))) (dp_rows e t)
theorem shn_rows : ∀ (rs : List Row), (∀ r ∈ rs, 0 ≤ r.1 ∧ r.1 < 1000 ∧ plainS r.2.1 ∧ 1 ≤ r.2.2 ∧ r.2.2 ≤ 1000) → ∃ n, ShnAll (rs.map rowD) n 2
  | [], _ => ⟨0, .nil⟩
  | r :: rs, h => by
    obtain ⟨n, hn⟩ := shn_rows rs fun x hx => h x (List.mem_cons_of_mem _ hx)
    have h0 := h r List.mem_cons_self
    refine ⟨_, .cons (.tup (.cons (shn_int (by omega) (by omega)) (.cons (.str h0.2.2.1.2) (.cons (shn_int (by omega) (by omega)) .nil)))) hn⟩
theorem eqv_tup_nil (ds : List PyData) : PyData.eqv (.tuple ds) (.tuple []) = ds.isEmpty := by
  cases ds with
  | nil => simp [PyData.eqv, PyData.eqvAll]
  | cons c l => simp [PyData.eqv, PyData.eqvAll]
theorem eqv_lst_nil (ds : List PyData) : PyData.eqv (.list ds) (.list []) = ds.isEmpty := by
  cases ds with
  | nil => simp [PyData.eqv, PyData.eqvAll]
  | cons c l => simp [PyData.eqv, PyData.eqvAll]
theorem GoodR.shn {span : Int} {rs : List Row} (hg : GoodR span rs) : ∃ n, ShnAll (rs.map rowD) n 2 := shn_rows rs fun r hr => by
  have := hg.row r hr
  have := hg.s1
  exact ⟨by omega, by omega, (hg.row r hr).2.2.2.1, (hg.row r hr).2.2.2.2.1, (hg.row r hr).2.2.2.2.2⟩
theorem ap_law_begun {K : PySem.W.Frag} {B H : Hp} {L : List (Addr × HO)} {Q : VK} {E : XK} {a : Addr} {ns : List Int} (I : Is B [] L H) (h : SqL K B a (ns.map V.int)) (hl : ns.length ≤ 63) (q : ∀ (m : Addr) (B' : Hp) (M' : List (Addr × HO)) (H' : Hp), Same B B' → Is B' M' L H' → Dr m 0 B' M' → Q (.ref m) H') : sp_law_begun K [.ref a] H Q E :=
  ⟨rfl, a, ns, B, L, rfl, I, h, hl, q⟩
theorem ap_law_plain {K : PySem.W.Frag} {B H : Hp} {M L : List (Addr × HO)} {Q : VK} {E : XK} {m w : Addr} {ws : List V} {n : Int} (I : Is B M L H) (d : Dr m n B M) (hn : n < 2 ^ 39) (h : B w = some (.lst ws)) (h4 : 4 ≤ ws.length) (hw : ∀ x ∈ ws, IsNm x)
    (q : ∀ (p : Addr) (span : Int) (rs : List Row) (B' H' : Hp) (M' : List (Addr × HO)), Same B B' → Is B' M' L H' → Dr m (n + 100) B' M' → PlainAt B' p span rs → Q (.ref p) H') : sp_law_plain K [.ref m, .ref w, .int 1000] H Q E :=
  ⟨rfl, m, w, ws, n, 1000, B, M, L, rfl, by decide, I, d, hn, h, h4, hw, fun p span rs B' H' M' a b c e _ _ => q p span rs B' H' M' a b c e⟩
theorem ap_Round_init {K : PySem.W.Frag} {B H : Hp} {M L : List (Addr × HO)} {Q : VK} {E : XK} {x dx a : Addr} {span : Int} {xs : List V} {rs : List Row} (I : Is B M ((x, .ins (He.ga K "Round") dx []) :: (dx, .own x) :: L) H) (h : B a = some (.tup xs)) (hr : RowsB B xs rs) (hg : GoodR span rs)
    (q : ∀ (B' H' : Hp), Same B B' → Is B' M L H' → RoundAt K B' x span rs → Q .non H') : sp_Round_init K [.ref x, .int span, .ref a] H Q E :=
  ⟨rfl, x, dx, .ref a, span, xs, rs, B, M, L, rfl, I, .inl ⟨a, rfl, h⟩, hr, hg, q⟩
/-! things told side by side: plain rounds, rounds, walks -/
abbrev PR : Type := Int × List Row
def PL (B : Hp) (x : V) (r : PR) : Prop := ∃ a, x = .ref a ∧ PlainAt B a r.1 r.2
def CR (K : PySem.W.Frag) (B : Hp) (x : V) (r : PR) : Prop := ∃ a, x = .ref a ∧ RoundAt K B a r.1 r.2
def WK (many : Nat) (B : Hp) (x : V) (r : PR) : Prop := ∃ a xs, x = .ref a ∧ B a = some (.lst xs) ∧ All2 (WR B) xs (walkL r.1 r.2 many)
theorem PL.same {B B' : Hp} (e : Same B B') (x : V) (r : PR) (h : PL B x r) : PL B' x r := by
  obtain ⟨a, h1, h2⟩ := h
  exact ⟨a, h1, h2.same e⟩
theorem CR.same {K : PySem.W.Frag} {B B' : Hp} (e : Same B B') (x : V) (r : PR) (h : CR K B x r) : CR K B' x r := by
  obtain ⟨a, h1, h2⟩ := h
  exact ⟨a, h1, h2.same e⟩
theorem WK.same {many : Nat} {B B' : Hp} (e : Same B B') (x : V) (r : PR) (h : WK many B x r) : WK many B' x r := by
  obtain ⟨a, xs, h1, h2, h3⟩ := h
  exact ⟨a, xs, h1, e _ _ h2, h3.mono (WR.same e)⟩
theorem walkL_at {span : Int} {rs : List Row} : ∀ {many : Nat} {r : WRow}, r ∈ walkL span rs many → ∃ k j, k < many ∧ j < rs.length ∧ r = walkRow span rs k j
  | 0, _, h => by cases h
  | many + 1, r, h => by
    rcases List.mem_append.mp h with e | e
    · obtain ⟨k, j, h1, h2, h3⟩ := walkL_at e
      exact ⟨k, j, by omega, h2, h3⟩
    · obtain ⟨j, hj, e⟩ := List.mem_map.mp e
      exact ⟨many, j, by omega, List.mem_range.mp hj, e.symm⟩
/-! rows of a walk as data -/
def wrD (r : WRow) : PyData := .tuple [.int r.1, .int r.2.1, .int r.2.2.1, .int r.2.2.2.1, .int r.2.2.2.2]
theorem dp_walk {K : PySem.W.Frag} {B H : Hp} (e : Same B H) : ∀ {xs : List V} {rs : List WRow}, All2 (WR B) xs rs → DpAll K H xs (rs.map wrD)
  | _, _, .nil => .nil
  | _, _, .cons h t => by
    obtain ⟨a, rfl, h2⟩ := h
    exact .cons (.tup (SqT.of (e _ _ h2)) (.cons (.int _) (.cons (.int _) (.cons (.int _) (.cons (.int _) (.cons (.int _) .nil)))))) (dp_walk e t)
theorem shn_walk {span : Int} {rs : List Row} (hg : GoodR span rs) {many : Nat} (hm : many ≤ 10) : ∀ l : List WRow, (∀ r ∈ l, r ∈ walkL span rs many) → ∃ n, ShnAll (l.map wrD) n 2
  | [], _ => ⟨0, .nil⟩
  | r :: l, h => by
    obtain ⟨n, hn⟩ := shn_walk hg hm l fun x hx => h x (List.mem_cons_of_mem _ hx)
    obtain ⟨k, j, h1, h2, h3⟩ := walkL_at (h r List.mem_cons_self)
    have b1 := bAt_bd hg (k := k) h2
    have b2 := workAt_bd hg h2
    obtain ⟨⟨c, s, w⟩, hr⟩ : ∃ r, rs[j]? = some r := ⟨_, List.getElem?_eq_getElem h2⟩
    have b3 := hg.row _ (List.mem_of_getElem? hr)
    have b4 : comeAt rs j = c := comeAt_eq hr
    have b5 : 0 ≤ c ∧ c < span := ⟨b3.1, b3.2.1⟩
    have hs0 := hg.s0
    have hs1 := hg.s1
    have hl := hg.len
    have e5 : (k : Int) * span ≤ (k : Int) * 1000 := Int.mul_le_mul_of_nonneg_left hs1 (by omega)
    have e6 : 0 ≤ (k : Int) * span := Int.mul_nonneg (by omega) (by omega)
    subst h3
    refine ⟨_, .cons (.tup (.cons (shn_int (n := (k : Int)) (by omega) (by omega)) (.cons (shn_int (n := (j : Int)) (by omega) (by omega)) (.cons (shn_int (n := (k : Int) * span + comeAt rs j) (by omega) (by omega)) (.cons (shn_int (n := bAt span rs k j) (by omega) (by omega)) (.cons (shn_int (n := bAt span rs k j + workAt rs j) (by omega) (by omega)) .nil)))))) hn⟩
/-! ### a round's text -/
def numT (i : Int) : Str := Str.ofString (toString i)
def rowT (r : Row) : Str := Str.empty ++ numT r.1 ++ " " ++ r.2.1 ++ " " ++ numT r.2.2
def headT (span : Int) : Str := "round " ++ numT span
def rtxt (span : Int) (rs : List Row) : Str := Txt.join "\n" (headT span :: rs.map rowT)
theorem tlInj {x y : Str} (h : TL.tl x = TL.tl y) : x = y := by
  have e := congrArg (fun l : List Nat => (⟨l.toArray⟩ : Str)) h
  exact (TL.mk_tl x).symm.trans (e.trans (TL.mk_tl y))
theorem tl_numT {i : Int} (h : 0 ≤ i) : TL.tl (numT i) = TL.numL i.toNat := by
  obtain ⟨n, rfl⟩ := Int.eq_ofNat_of_zero_le h
  exact TL.tl_num n
theorem numT_inj {i j : Int} (h0 : 0 ≤ i) (h1 : 0 ≤ j) (e : numT i = numT j) : i = j := by
  have e2 : TL.numL i.toNat = TL.numL j.toNat := by rw [← tl_numT h0, ← tl_numT h1, e]
  have := TL.numL_inj e2
  omega
theorem numT_sign {i : Int} (h : 0 ≤ i) {c : Nat} (hc : c ∈ TL.tl (numT i)) : 48 ≤ c ∧ c ≤ 57 := by
  rw [tl_numT h] at hc
  have := TL.numL_digits _ c hc
  omega
theorem letS_97 : ∀ c ∈ letS.cps.toList, 97 ≤ c := by decide +kernel
theorem name_sign {z : Str} (h : isName (.str z) = true) {c : Nat} (hc : c ∈ TL.tl z) : 97 ≤ c := by
  have h' : (decide (1 ≤ (z.length : Int)) && (decide ((z.length : Int) ≤ 8) && (!inV (.str z) barVs && z.cps.toList.all fun c => decide (c ∈ letS.cps.toList)))) = true := h
  simp only [Bool.and_eq_true] at h'
  exact letS_97 c (of_decide_eq_true (List.all_eq_true.mp h'.2.2.2 c hc))
theorem name_len {z : Str} (h : isName (.str z) = true) : z.length ≤ 8 := by
  have h' : (decide (1 ≤ (z.length : Int)) && (decide ((z.length : Int) ≤ 8) && (!inV (.str z) barVs && z.cps.toList.all fun c => decide (c ∈ letS.cps.toList)))) = true := h
  simp only [Bool.and_eq_true] at h'
  have := of_decide_eq_true h'.2.1
  omega
theorem empty_app (x : Str) : Str.empty ++ x = x := by
  apply tlInj
  rw [TL.tl_append]
  rfl
theorem rowT_join (r : Row) : rowT r = Txt.join " " [numT r.1, r.2.1, numT r.2.2] := by
  apply tlInj
  rw [TL.join_eq, TL.tl_join]
  unfold rowT
  rw [empty_app]
  simp only [TL.tl_append, List.map_cons, List.map_nil, TL.joinL, List.append_assoc]
/-- what a row's parts are -/
structure RowOk (r : Row) : Prop where
  c : 0 ≤ r.1
  s : isName (.str r.2.1) = true
  w : 0 ≤ r.2.2
theorem GoodR.ok {span : Int} {rs : List Row} (g : GoodR span rs) {r : Row} (h : r ∈ rs) : RowOk r := by
  obtain ⟨h1, _, h3, _, h5, _⟩ := g.row r h
  exact ⟨h1, h3, by omega⟩
theorem RowOk.parts {r : Row} (h : RowOk r) {c : Nat} (hc : 57 < c ∧ c < 97 ∨ c < 48) : ∀ p ∈ [numT r.1, r.2.1, numT r.2.2], c ∉ TL.tl p := by
  intro p hp hm
  simp only [List.mem_cons, List.not_mem_nil, or_false] at hp
  rcases hp with rfl | rfl | rfl
  · have := numT_sign h.c hm
    omega
  · have := name_sign h.s hm
    omega
  · have := numT_sign h.w hm
    omega
theorem rowT_inj {r r' : Row} (h : RowOk r) (h' : RowOk r') (e : rowT r = rowT r') : r = r' := by
  rw [rowT_join, rowT_join] at e
  have e1 := TL.split_join (y := " ") (s := 32) (S := []) rfl (by decide +kernel) (by simp) (h.parts (c := 32) (by omega))
  have e2 := TL.split_join (y := " ") (s := 32) (S := []) rfl (by decide +kernel) (by simp) (h'.parts (c := 32) (by omega))
  rw [e] at e1
  have e3 := e1.symm.trans e2
  simp only [List.cons.injEq, and_true] at e3
  obtain ⟨a, b, c⟩ := e3
  obtain ⟨r1, r2, r3⟩ := r
  obtain ⟨q1, q2, q3⟩ := r'
  have := numT_inj h.c h'.c a
  have := numT_inj h.w h'.w c
  simp only at *
  subst_vars
  rfl
theorem rowT_nl {r : Row} (h : RowOk r) : 10 ∉ TL.tl (rowT r) := by
  intro hm
  have p := h.parts (c := 10) (by omega)
  unfold rowT at hm
  rw [empty_app] at hm
  simp only [TL.tl_append, List.mem_append] at hm
  have e : TL.tl (" " : Str) = [32] := rfl
  rw [e] at hm
  simp only [List.mem_singleton] at hm
  rcases hm with (((h1 | h1) | h1) | h1) | h1
  · exact p _ (by simp) h1
  · omega
  · exact p _ (by simp) h1
  · omega
  · exact p _ (by simp) h1
theorem headT_nl {span : Int} (h : 0 ≤ span) : 10 ∉ TL.tl (headT span) := by
  intro hm
  unfold headT at hm
  rw [TL.tl_append] at hm
  rcases List.mem_append.mp hm with h1 | h1
  · revert h1
    decide +kernel
  · have := numT_sign h h1
    omega
theorem headT_inj {a b : Int} (h0 : 0 ≤ a) (h1 : 0 ≤ b) (e : headT a = headT b) : a = b := by
  unfold headT at e
  have e2 : TL.tl ("round " ++ numT a) = TL.tl ("round " ++ numT b) := by rw [e]
  rw [TL.tl_append, TL.tl_append] at e2
  exact numT_inj h0 h1 (tlInj (List.append_cancel_left e2))
theorem map_rowT_inj : ∀ {rs qs : List Row}, (∀ r ∈ rs, RowOk r) → (∀ r ∈ qs, RowOk r) → rs.map rowT = qs.map rowT → rs = qs
  | [], [], _, _, _ => rfl
  | [], _ :: _, _, _, e => by cases e
  | _ :: _, [], _, _, e => by cases e
  | r :: rs, q :: qs, h1, h2, e => by
    simp only [List.map_cons, List.cons.injEq] at e
    rw [rowT_inj (h1 r List.mem_cons_self) (h2 q List.mem_cons_self) e.1, map_rowT_inj (fun x hx => h1 x (List.mem_cons_of_mem _ hx)) (fun x hx => h2 x (List.mem_cons_of_mem _ hx)) e.2]
theorem rtxt_inj {a b : Int} {rs qs : List Row} (g : GoodR a rs) (g' : GoodR b qs) (e : rtxt a rs = rtxt b qs) : a = b ∧ rs = qs := by
  have h0 := g.s0
  have h1 := g'.s0
  unfold rtxt at e
  have p1 : ∀ p ∈ headT a :: rs.map rowT, 10 ∉ TL.tl p := by
    intro p hp
    rcases List.mem_cons.mp hp with rfl | hp
    · exact headT_nl (by omega)
    · obtain ⟨r, hr, rfl⟩ := List.mem_map.mp hp
      exact rowT_nl (g.ok hr)
  have p2 : ∀ p ∈ headT b :: qs.map rowT, 10 ∉ TL.tl p := by
    intro p hp
    rcases List.mem_cons.mp hp with rfl | hp
    · exact headT_nl (by omega)
    · obtain ⟨r, hr, rfl⟩ := List.mem_map.mp hp
      exact rowT_nl (g'.ok hr)
  have e1 := TL.split_join (y := "\n") (s := 10) (S := []) rfl (by decide +kernel) (by simp) p1
  have e2 := TL.split_join (y := "\n") (s := 10) (S := []) rfl (by decide +kernel) (by simp) p2
  rw [e] at e1
  have e3 := e1.symm.trans e2
  simp only [List.cons.injEq] at e3
  exact ⟨headT_inj (by omega) (by omega) e3.1, map_rowT_inj (fun r hr => g.ok hr) (fun r hr => g'.ok hr) e3.2⟩
theorem rtxt_ne {a b : Int} {rs qs : List Row} (g : GoodR a rs) (g' : GoodR b qs) (h : ¬ (a = b ∧ rs = qs)) : decide (rtxt a rs = rtxt b qs) = false := decide_eq_false fun e => h (rtxt_inj g g' e)
/-! short -/
theorem numT_sh {i : Int} (h0 : 0 ≤ i) (h1 : i < 10 ^ 18) : Sh 18 (numT i) := Sh.num h0 (by decide) (by omega)
theorem name_sh {z : Str} (h : isName (.str z) = true) (hp : plainS z) : Sh 8 z := ⟨name_len h, hp.2⟩
theorem ap_Round_initH {K : PySem.W.Frag} {B H : Hp} {M L : List (Addr × HO)} {Q : VK} {E : XK} {x dx : Addr} {y : V} {span : Int} {xs : List V} {rs : List Row} (I : Is B M ((x, .ins (He.ga K "Round") dx []) :: (dx, .own x) :: L) H) (h : Handed B L y xs) (hr : RowsB B xs rs) (hg : GoodR span rs)
    (q : ∀ (B' H' : Hp), Same B B' → Is B' M L H' → RoundAt K B' x span rs → Q .non H') : sp_Round_init K [.ref x, .int span, y] H Q E :=
  ⟨rfl, x, dx, y, span, xs, rs, B, M, L, rfl, I, h, hr, hg, q⟩
def sp_Round_length (K : PySem.W.Frag) : Sp := fun vs H Q _ => vs.length = 1 ∧ ∃ (x : Addr) (span : Int) (rs : List Row) (B : Hp) (M L : List (Addr × HO)), vs = [.ref x] ∧ Is B M L H ∧ RoundAt K B x span rs ∧ Q (.int span) H
def t_Round_length (K : PySem.W.Frag) : TS := (tRet (tFld K (tVar 0) "hours_long"))
theorem rd_Round_length {K : PySem.W.Frag} (C : RoundC K) (vs : List V) (H : Hp) (Q : VK) (E : XK) (h : sp_Round_length K vs H Q E) : t_Round_length K { nx := fun _ H' => Q .non H', rt := Q } (start ["self"] vs) H := by
  obtain ⟨_, x, span, rs, B, M, L, rfl, hI, hR, q⟩ := h
  show t_Round_length K ⟨_, _, _, _⟩ [some (.ref x)] H
  obtain ⟨cl, n1, n2, n3⟩ := C
  obtain ⟨⟨dx, cr, bg, xs, h1, h2, h3, h4⟩, hg⟩ := id hR
  unfold t_Round_length
  tm_at "go"
  exact q
theorem ap_Round_length {K : PySem.W.Frag} {H : Hp} {Q : VK} {E : XK} {x : Addr} {span : Int} {rs : List Row} {B : Hp} {M L : List (Addr × HO)} (I : Is B M L H) (h : RoundAt K B x span rs) (q : Q (.int span) H) : sp_Round_length K [.ref x] H Q E :=
  ⟨rfl, x, span, rs, B, M, L, rfl, I, h, q⟩
def sp_Round_len (K : PySem.W.Frag) : Sp := fun vs H Q _ => vs.length = 1 ∧ ∃ (x : Addr) (span : Int) (rs : List Row) (B : Hp) (M L : List (Addr × HO)), vs = [.ref x] ∧ Is B M L H ∧ RoundAt K B x span rs ∧ Q (.int (rs.length : Int)) H
def t_Round_len (K : PySem.W.Frag) : TS := (tRet (tCB (rLen K) (tCons (tFld K (tVar 0) "call_rows") tNil)))
theorem rd_Round_len {K : PySem.W.Frag} (C : RoundC K) (vs : List V) (H : Hp) (Q : VK) (E : XK) (h : sp_Round_len K vs H Q E) : t_Round_len K { nx := fun _ H' => Q .non H', rt := Q } (start ["self"] vs) H := by
  obtain ⟨_, x, span, rs, B, M, L, rfl, hI, hR, q⟩ := h
  show t_Round_len K ⟨_, _, _, _⟩ [some (.ref x)] H
  obtain ⟨cl, n1, n2, n3⟩ := C
  obtain ⟨⟨dx, cr, bg, xs, h1, h2, h3, h4⟩, hg⟩ := id hR
  have hl := h3.len
  unfold t_Round_len
  tm_at "go"
  rw [hl]
  exact q
theorem ap_Round_len {K : PySem.W.Frag} {H : Hp} {Q : VK} {E : XK} {x : Addr} {span : Int} {rs : List Row} {B : Hp} {M L : List (Addr × HO)} (I : Is B M L H) (h : RoundAt K B x span rs) (q : Q (.int (rs.length : Int)) H) : sp_Round_len K [.ref x] H Q E :=
  ⟨rfl, x, span, rs, B, M, L, rfl, I, h, q⟩
/-- its calls, a new list -/
def sp_Round_calls (K : PySem.W.Frag) : Sp := fun vs H Q _ => vs.length = 1 ∧ ∃ (x : Addr) (span : Int) (rs : List Row) (B : Hp) (M L : List (Addr × HO)), vs = [.ref x] ∧ Is B M L H ∧ RoundAt K B x span rs ∧ ∀ p xs H', RowsB B xs rs → Is B M ((p, .lst xs) :: L) H' → Q (.ref p) H'
def t_Round_calls (K : PySem.W.Frag) : TS := (tRet (tCB (rListOf K) (tCons (tFld K (tVar 0) "call_rows") tNil)))
theorem rd_Round_calls {K : PySem.W.Frag} (C : RoundC K) (vs : List V) (H : Hp) (Q : VK) (E : XK) (h : sp_Round_calls K vs H Q E) : t_Round_calls K { nx := fun _ H' => Q .non H', rt := Q } (start ["self"] vs) H := by
  obtain ⟨_, x, span, rs, B, M, L, rfl, hI, hR, q⟩ := h
  show t_Round_calls K ⟨_, _, _, _⟩ [some (.ref x)] H
  obtain ⟨cl, n1, n2, n3⟩ := C
  obtain ⟨⟨dx, cr, bg, xs, h1, h2, h3, h4⟩, hg⟩ := id hR
  unfold t_Round_calls
  tm_at "go"
  exact q _ _ _ h3 hI
theorem ap_Round_calls {K : PySem.W.Frag} {H : Hp} {Q : VK} {E : XK} {x : Addr} {span : Int} {rs : List Row} {B : Hp} {M L : List (Addr × HO)} (I : Is B M L H) (h : RoundAt K B x span rs) (q : ∀ p xs H', RowsB B xs rs → Is B M ((p, .lst xs) :: L) H' → Q (.ref p) H') : sp_Round_calls K [.ref x] H Q E :=
  ⟨rfl, x, span, rs, B, M, L, rfl, I, h, q⟩
/-! the text -/
theorem len_join (y : Str) : ∀ {zs : List Str} {n : Nat}, (∀ z ∈ zs, z.length ≤ n) → (zs.map (·.length)).sum ≤ n * zs.length
  | [], _, _ => Nat.zero_le _
  | z :: zs, n, h => by
    rw [List.map_cons, List.sum_cons, List.length_cons, Nat.mul_succ]
    have := h z List.mem_cons_self
    have := len_join y (zs := zs) (n := n) fun x hx => h x (List.mem_cons_of_mem _ hx)
    omega
theorem GoodR.sh {span : Int} {rs : List Row} (g : GoodR span rs) {r : Row} (h : r ∈ rs) : Sh 18 (numT r.1) ∧ Sh 8 r.2.1 ∧ Sh 18 (numT r.2.2) := by
  obtain ⟨h1, h2, h3, h4, h5, h6⟩ := g.row r h
  have := g.s1
  exact ⟨numT_sh h1 (by omega), name_sh h3 h4, numT_sh (by omega) (by omega)⟩
theorem sh_bl : Sh 1 (" " : Str) := Sh.lit (by decide +kernel)
theorem sh_rd : Sh 6 ("round " : Str) := Sh.lit (by decide +kernel)
theorem GoodR.shRow {span : Int} {rs : List Row} (g : GoodR span rs) {r : Row} (h : r ∈ rs) : Sh 46 (rowT r) := by
  obtain ⟨h1, h2, h3⟩ := g.sh h
  exact (((((sh_empty.add h1).add sh_bl).add h2).add sh_bl).add h3).mono (by decide)
theorem GoodR.shHead {span : Int} {rs : List Row} (g : GoodR span rs) : Sh 24 (headT span) := by
  have := g.s0
  have := g.s1
  exact (sh_rd.add (numT_sh (by omega) (by omega))).mono (by decide)
theorem GoodR.joins {span : Int} {rs : List Row} (g : GoodR span rs) : ((headT span :: rs.map rowT).map (·.length)).sum + (headT span :: rs.map rowT).length * ("\n" : Str).length ≤ 16777216 := by
  have h : ∀ z ∈ headT span :: rs.map rowT, z.length ≤ 46 := by
    intro z hz
    rcases List.mem_cons.mp hz with rfl | hz
    · exact Nat.le_trans g.shHead.1 (by decide)
    · obtain ⟨r, hr, rfl⟩ := List.mem_map.mp hz
      exact (g.shRow hr).1
  have h2 := len_join "\n" h
  have h3 : ("\n" : Str).length = 1 := by decide +kernel
  have h4 : (headT span :: rs.map rowT).length ≤ 13 := by
    have := g.len
    rw [List.length_cons, List.length_map]
    omega
  rw [h3]
  omega
theorem map_str (zs : List Str) (z : Str) : (zs.map V.str) ++ [V.str z] = (zs ++ [z]).map V.str := by simp
theorem take_rows {rs : List Row} {i : Nat} {r : Row} (e : rs[i]? = some r) : (rs.take (i + 1)).map rowT = (rs.take i).map rowT ++ [rowT r] := by
  rw [take_snocI e, List.map_append]
  rfl
def sp_Round_str (K : PySem.W.Frag) : Sp := fun vs H Q _ => vs.length = 1 ∧ ∃ (x : Addr) (span : Int) (rs : List Row) (B : Hp) (M L : List (Addr × HO)), vs = [.ref x] ∧ Is B M L H ∧ RoundAt K B x span rs ∧ ∀ H', Is B M L H' → Q (.str (rtxt span rs)) H'
abbrev t_Round_str_0 (K : PySem.W.Frag) : TS := (tDrop (tBM K "list" rAppend (tVar 1) (tCons (tFS [(tFmt (tVar 2)), (tC (.str " ")), (tFmt (tVar 3)), (tC (.str " ")), (tFmt (tVar 4))]) tNil)))
abbrev t_Round_str_1 (K : PySem.W.Frag) : TS := (tRet (tM1 (rJoin K) (tC (.str "\n")) (tVar 1)))
abbrev t_Round_str_2 (K : PySem.W.Frag) : TS := (tSeq (tFor (iAny K (tFld K (tVar 0) "call_rows")) (gTup K 3 (gCons (gName 2) (gCons (gName 3) (gCons (gName 4) gNil)))) (t_Round_str_0 K)) (t_Round_str_1 K))
def t_Round_str (K : PySem.W.Frag) : TS := (tSeq (tAsg (tLst (tCons (tFS [(tC (.str "round ")), (tFmt (tFld K (tVar 0) "hours_long"))]) tNil)) (gName 1)) (t_Round_str_2 K))
theorem rd_Round_str {K : PySem.W.Frag} (C : RoundC K) (vs : List V) (H : Hp) (Q : VK) (E : XK) (h : sp_Round_str K vs H Q E) : t_Round_str K { nx := fun _ H' => Q .non H', rt := Q } (start ["self", "rows", "at", "name", "hours"] vs) H := by
  obtain ⟨_, x, span, rs, B, M, L, rfl, hI, hR, q⟩ := h
  show t_Round_str K ⟨_, _, _, _⟩ [some (.ref x), none, none, none, none] H
  obtain ⟨cl, n1, n2, n3⟩ := C
  obtain ⟨⟨dx, cr, bg, xs, h1, h2, h3, h4⟩, hg⟩ := id hR
  have hl := h3.len
  have hs0 := hg.s0
  have hs1 := hg.s1
  have hlen := hg.len
  unfold t_Round_str
  tm_at "go"
  refine' g_fs ?_
  refine' g_jsC ?_
  tm_at "go"
  refine' g_aJs sh_empty sh_rd (by decide) fun ha => ?_
  refine' g_jsC ?_
  refine' g_fmt ?_
  tm_at "go"
  refine' g_aFmtI (k := 18) (by omega) (by decide) (by omega) fun hb => ?_
  refine' g_aJs ha hb (by decide) fun ha => ?_
  refine' g_jsN ?_
  have eh : Str.empty ++ "round " ++ numT span = headT span := by
    unfold headT
    rw [empty_app]
  have eh' : Str.empty ++ "round " ++ Str.ofString (toString span) = headT span := eh
  rw [eh']
  tm_at "go"
  obtain ⟨rw_, rfl⟩ : ∃ q, q = p := ⟨_, rfl⟩
  refine' g_aFor (walk_list (xs := xs)) (fun i σ H => ∃ (s2 s3 s4 : Option V), σ = [some (.ref x), some (.ref rw_), s2, s3, s4] ∧ Is B M ((rw_, .lst ((headT span :: (rs.take i).map rowT).map V.str)) :: L) H)
    ⟨_, _, _, rfl, hI⟩ (fun i σ H _ ⟨_, _, _, _, hI⟩ => SqL.of (hI.b h2)) ?_ ?_
  · rintro i y σ H H' hi ⟨s2, s3, s4, rfl, hI⟩ ⟨rfl, hy⟩
    obtain ⟨b, c, s, w, rfl, e, hb⟩ := h3.get hy
    have hmem := List.mem_of_getElem? e
    have hrow := hg.row _ hmem
    obtain ⟨k1, k2, k3⟩ := hg.sh hmem
    have hlx : ((headT span :: (rs.take i).map rowT).map V.str).length ≤ 13 := by
      rw [List.length_map, List.length_cons, List.length_map, List.length_take]
      omega
    tm_at "go"
    refine' g_fs ?_
    refine' g_jsC ?_
    refine' g_fmt ?_
    tm_at "go"
    refine' g_aFmtI (k := 18) hrow.1 (by decide) (by have := hrow.2.1; show c < _; have : c < span := this; omega) fun _ => ?_
    refine' g_aJs sh_empty k1 (by decide) fun ha => ?_
    refine' g_jsC ?_
    tm_at "go"
    refine' g_aJs ha sh_bl (by decide) fun ha => ?_
    refine' g_jsC ?_
    refine' g_fmt ?_
    tm_at "go"
    refine' g_aFmtS k2 (by decide) ?_
    refine' g_aJs ha k2 (by decide) fun ha => ?_
    refine' g_jsC ?_
    tm_at "go"
    refine' g_aJs ha sh_bl (by decide) fun ha => ?_
    refine' g_jsC ?_
    refine' g_fmt ?_
    tm_at "go"
    refine' g_aFmtI (k := 18) (by have := hrow.2.2.2.2.1; show 0 ≤ w; have : 1 ≤ w := this; omega) (by decide) (by have := hrow.2.2.2.2.2; show w < _; have : w ≤ 1000 := this; omega) fun _ => ?_
    refine' g_aJs ha k3 (by decide) fun ha => ?_
    refine' g_jsN ?_
    have er : Str.empty ++ Str.ofString (toString c) ++ " " ++ s ++ " " ++ Str.ofString (toString w) = rowT (c, s, w) := rfl
    rw [er]
    tm_at "go"
    refine ⟨_, _, _, rfl, ?_⟩
    rw [take_rows e]
    rw [map_str] at hI
    exact hI
  · rintro σ H ⟨s2, s3, s4, rfl, hI⟩
    rw [List.take_of_length_le (by omega)] at hI
    tm_at "go"
    exact ⟨_, _, _, rfl, rfl, .inl (SqL.of (hI.get (List.Mem.head _))), hg.joins, q _ (hI.forget (by tm_at "sub"))⟩
theorem ap_Round_str {K : PySem.W.Frag} {H : Hp} {Q : VK} {E : XK} {x : Addr} {span : Int} {rs : List Row} {B : Hp} {M L : List (Addr × HO)} (I : Is B M L H) (h : RoundAt K B x span rs) (q : ∀ H', Is B M L H' → Q (.str (rtxt span rs)) H') : sp_Round_str K [.ref x] H Q E :=
  ⟨rfl, x, span, rs, B, M, L, rfl, I, h, q⟩
def sp_Round_eq (K : PySem.W.Frag) : Sp := fun vs H Q _ => vs.length = 2 ∧ ∃ (x : Addr) (y : V) (span : Int) (rs : List Row) (B : Hp) (M L : List (Addr × HO)), vs = [.ref x, y] ∧ Is B M L H ∧ RoundAt K B x span rs ∧
  ((∃ (z : Addr) (span' : Int) (rs' : List Row), y = .ref z ∧ RoundAt K B z span' rs' ∧ ∀ H', Is B M L H' → Q (.bl (decide (rtxt span rs = rtxt span' rs'))) H') ∨ (∃ T, Oth K H y T ∧ Q (.bl false) H))
def t_Round_eq (K : PySem.W.Frag) : TS := (tRet (tAndV (tCB (rIsi K) (tCons (tVar 1) (tCons (tC (.ref (He.ga K "Round"))) tNil))) (tOp (rEqA K) (tCB (rStrOwn (He.ga K "Round") (sp_Round_str K) (fun vs zs => pick .non [0] (vs ++ zs)) E0) (tCons (tVar 0) tNil)) (tCB (rStrOwn (He.ga K "Round") (sp_Round_str K) (fun vs zs => pick .non [0] (vs ++ zs)) E0) (tCons (tVar 1) tNil)))))
theorem rd_Round_eq {K : PySem.W.Frag} (C : RoundC K) (D : OwnD K (He.ga K "Round")) (vs : List V) (H : Hp) (Q : VK) (E : XK) (h : sp_Round_eq K vs H Q E) : t_Round_eq K { nx := fun _ H' => Q .non H', rt := Q } (start ["self", "other"] vs) H := by
  obtain ⟨_, x, y, span, rs, B, M, L, rfl, hI, hR, h⟩ := h
  show t_Round_eq K ⟨_, _, _, _⟩ [some (.ref x), some y] H
  obtain ⟨cl, n1, n2, n3⟩ := C
  obtain ⟨⟨dx, cr, bg, xs, h1, h2, h3, h4⟩, hg⟩ := id hR
  unfold t_Round_eq
  rcases h with ⟨z, span', rs', rfl, hR', q⟩ | ⟨T, o, q⟩
  · obtain ⟨⟨dx', cr', bg', xs', h1', h2', h3', h4'⟩, hg'⟩ := id hR'
    tm_at "go"
    refine' g_isiO D cl (hI.b h1') ?_
    tm_at "go"
    refine' g_strOwn (hI.b h1) ?_
    refine' ap_Round_str (K := K) hI hR ?_
    clear hI
    intro H hI
    refine' g_aStrV ?_
    tm_at "go"
    refine' g_strOwn (hI.b h1') ?_
    refine' ap_Round_str (K := K) hI hR' ?_
    clear hI
    intro H hI
    refine' g_aStrV ?_
    tm_at "go"
    have e : decide (V.str (rtxt span rs) = V.str (rtxt span' rs')) = decide (rtxt span rs = rtxt span' rs') := by
      by_cases h : rtxt span rs = rtxt span' rs'
      · rw [h, decide_eq_true rfl, decide_eq_true rfl]
      · rw [decide_eq_false h, decide_eq_false (fun e => h (V.str.inj e))]
    rw [e]
    exact q _ hI
  · tm_at "go"
    refine' g_isiN D o ?_
    tm_at "go"
    exact q
theorem ap_Round_eqI {K : PySem.W.Frag} {H : Hp} {Q : VK} {E : XK} {x z : Addr} {span span' : Int} {rs rs' : List Row} {B : Hp} {M L : List (Addr × HO)} (I : Is B M L H) (h : RoundAt K B x span rs) (h' : RoundAt K B z span' rs') (q : ∀ H', Is B M L H' → Q (.bl (decide (rtxt span rs = rtxt span' rs'))) H') : sp_Round_eq K [.ref x, .ref z] H Q E :=
  ⟨rfl, x, _, span, rs, B, M, L, rfl, I, h, .inl ⟨z, span', rs', rfl, h', q⟩⟩
theorem ap_Round_eqO {K : PySem.W.Frag} {H : Hp} {Q : VK} {E : XK} {x : Addr} {y : V} {T : String} {span : Int} {rs : List Row} {B : Hp} {M L : List (Addr × HO)} (I : Is B M L H) (h : RoundAt K B x span rs) (o : Oth K H y T) (q : Q (.bl false) H) : sp_Round_eq K [.ref x, y] H Q E :=
  ⟨rfl, x, _, span, rs, B, M, L, rfl, I, h, .inr ⟨T, o, q⟩⟩
/-! ### steps and styles -/
abbrev StepT : Type := Str × Int × Int
def kndL : List (Str × Str) := [("sew", "hand"), ("glue", "hand"), ("cover", "hand"), ("letter", "hand"), ("press", "press")]
def StepR (B : Hp) (x : V) (r : StepT) : Prop := ∃ a, x = .ref a ∧ B a = some (.tup [.str r.1, .int r.2.1, .int r.2.2])
abbrev StepsB (B : Hp) (xs : List V) (rs : List StepT) : Prop := All2 (StepR B) xs rs
theorem StepsB.same {B B' : Hp} {xs : List V} {rs : List StepT} (h : StepsB B xs rs) (s : Same B B') : StepsB B' xs rs := All2.mono (fun _ _ ⟨a, e, h⟩ => ⟨a, e, s _ _ h⟩) h
def WorkOk (z : Str) : Prop := ∃ k, (z, k) ∈ kndL
theorem work_sh {z : Str} (h : WorkOk z) : Sh 6 z := by
  obtain ⟨k, h⟩ := h
  simp only [kndL, List.mem_cons, Prod.mk.injEq, List.not_mem_nil, or_false] at h
  rcases h with ⟨rfl, _⟩ | ⟨rfl, _⟩ | ⟨rfl, _⟩ | ⟨rfl, _⟩ | ⟨rfl, _⟩ <;> exact Sh.lit (by decide +kernel)
def StepG (r : StepT) : Prop := WorkOk r.1 ∧ 1 ≤ r.2.1 ∧ r.2.1 ≤ 240 ∧ 0 ≤ r.2.2 ∧ r.2.2 ≤ 240
structure GoodT (nm : Str) (rs : List StepT) : Prop where
  nm : isName (.str nm) = true ∧ plainS nm
  l0 : 1 ≤ rs.length
  l1 : rs.length ≤ 12
  row : ∀ r ∈ rs, StepG r
def sp_kind_of (K : PySem.W.Frag) : Sp := fun vs H Q _ => vs.length = 1 ∧ ∃ z k, vs = [.str z] ∧ (z, k) ∈ kndL ∧ Q (.str k) H
theorem ap_kind_of {K : PySem.W.Frag} {H : Hp} {Q : VK} {E : XK} {z k : Str} (h : (z, k) ∈ kndL) (q : Q (.str k) H) : sp_kind_of K [.str z] H Q E := ⟨rfl, z, k, rfl, h, q⟩
def t_kind_of (K : PySem.W.Frag) : TS := (tRet (tIf (tTr K (tCB (rIsi K) (tCons (tVar 0) (tCons (tC (.ty "str")) tNil)))) (tKGet (He.ga K "KINDS") [("sew", "hand"), ("glue", "hand"), ("cover", "hand"), ("letter", "hand"), ("press", "press")] (tVar 0)) (tC .non)))
theorem rd_kind_of {K : PySem.W.Frag} (vs : List V) (H : Hp) (Q : VK) (E : XK) (h : sp_kind_of K vs H Q E) : t_kind_of K { nx := fun _ H' => Q .non H', rt := Q } (start ["work"] vs) H := by
  obtain ⟨_, z, k, rfl, h, q⟩ := h
  show t_kind_of K ⟨_, _, _, _⟩ [some (.str z)] H
  have hx : Thing K H (.str z) .str := thing_str ((work_sh ⟨k, h⟩).plain (by decide))
  unfold t_kind_of
  tm_at "go"
  refine' g_kget ?_
  tm_at "go"
  exact g_kgot h q
def sp_is_step (K : PySem.W.Frag) : Sp := fun vs H Q _ => vs.length = 1 ∧ ∃ (a : Addr) (r : StepT) (B : Hp) (M L : List (Addr × HO)), vs = [.ref a] ∧ Is B M L H ∧ B a = some (.tup [.str r.1, .int r.2.1, .int r.2.2]) ∧ StepG r ∧ ∀ H', Is B M L H' → Q (.bl true) H'
theorem ap_is_step {K : PySem.W.Frag} {H : Hp} {Q : VK} {E : XK} {a : Addr} {r : StepT} {B : Hp} {M L : List (Addr × HO)} (I : Is B M L H) (ha : B a = some (.tup [.str r.1, .int r.2.1, .int r.2.2])) (h : StepG r) (q : ∀ H', Is B M L H' → Q (.bl true) H') : sp_is_step K [.ref a] H Q E := ⟨rfl, a, r, B, M, L, rfl, I, ha, h, q⟩
abbrev t_is_step_0 (K : PySem.W.Frag) : TS := (tRet (tAndV (tCl 2 1 (sp_is_whole K) (fun vs zs => pick .non [0, 1, 2] (vs ++ (zs ++ [.int 1000000]))) E0 (tCons (tOp (rIx K) (tVar 0) (tC (.int 1))) (tCons (tC (.int 1)) tNil)) (tCons (tC (.int 240)) tNil)) (tCl 2 1 (sp_is_whole K) (fun vs zs => pick .non [0, 1, 2] (vs ++ (zs ++ [.int 1000000]))) E0 (tCons (tOp (rIx K) (tVar 0) (tC (.int 2))) (tCons (tC (.int 0)) tNil)) (tCons (tC (.int 240)) tNil))))
def t_is_step (K : PySem.W.Frag) : TS := (tSeq (tIfS (tOr (tNot (tTr K (tCB (rIsi K) (tCons (tVar 0) (tCons (tC (.ty "tuple")) tNil))))) (tOr (tTest (tOp (rNeA K) (tCB (rLen K) (tCons (tVar 0) tNil)) (tC (.int 3)))) (tTest (tOp rIsNo (tCl 1 0 (sp_kind_of K) (fun vs zs => pick .non [0] (vs ++ zs)) E0 (tCons (tOp (rIx K) (tVar 0) (tC (.int 0))) tNil) tNil) (tC .non))))) (tRet (tC (.bl false))) tNext) (t_is_step_0 K))
theorem rd_is_step {K : PySem.W.Frag} (vs : List V) (H : Hp) (Q : VK) (E : XK) (h : sp_is_step K vs H Q E) : t_is_step K { nx := fun _ H' => Q .non H', rt := Q } (start ["thing"] vs) H := by
  obtain ⟨_, a, ⟨z, n, t⟩, B, M, L, rfl, hI, ha, ⟨⟨k, hk⟩, h1, h2, h3, h4⟩, q⟩ := h
  show t_is_step K ⟨_, _, _, _⟩ [some (.ref a)] H
  have hT : Thing K B (.ref a) .tup := thing_tup ha
  unfold t_is_step
  tm_at "go"
  refine g_ndec (fun h => absurd rfl h) (fun _ => ?_)
  tm_at "go"
  refine g_ix_t (by tm_at "st") (atI_of (by decide) rfl) ?_
  tm_at "go"
  refine' ap_kind_of (K := K) hk ?_
  tm_at "go"
  refine g_dec (fun h => by cases h) (fun _ => ?_)
  tm_at "go"
  refine g_ix_t (by tm_at "st") (atI_of (by decide) rfl) ?_
  tm_at "go"
  refine' ap_is_whole_t (K := K) h1 h2 ?_
  tm_at "go"
  refine g_ix_t (by tm_at "st") (atI_of (by decide) rfl) ?_
  tm_at "go"
  refine' ap_is_whole_t (K := K) h3 h4 ?_
  exact q _ hI
def sp_are_steps (K : PySem.W.Frag) : Sp := fun vs H Q _ => vs.length = 1 ∧ ∃ (a : Addr) (xs : List V) (rs : List StepT) (B : Hp) (M L : List (Addr × HO)), vs = [.ref a] ∧ Is B M L H ∧ B a = some (.lst xs) ∧ StepsB B xs rs ∧ 1 ≤ rs.length ∧ rs.length ≤ 12 ∧ (∀ r ∈ rs, StepG r) ∧ ∀ H', Is B M L H' → Q (.bl true) H'
theorem ap_are_stepsL {K : PySem.W.Frag} {H : Hp} {Q : VK} {E : XK} {a : Addr} {xs : List V} {rs : List StepT} {B : Hp} {M L : List (Addr × HO)} (I : Is B M ((a, .lst xs) :: L) H) (hr : StepsB B xs rs) (h0 : 1 ≤ rs.length) (h1 : rs.length ≤ 12) (hg : ∀ r ∈ rs, StepG r) (q : ∀ H', Is B M ((a, .lst xs) :: L) H' → Q (.bl true) H') : sp_are_steps K [.ref a] H Q E := by
  have hb : B a = none := (I.own (a, .lst xs) (List.mem_append_left _ List.mem_cons_self)).2
  obtain ⟨I1, s⟩ := I.frz .here
  exact ⟨rfl, a, xs, rs, _, M, L, rfl, I1, upd_same, hr.same s, h0, h1, hg, fun H' I2 => q H' (I2.thaw hb)⟩
abbrev t_are_steps_0 (K : PySem.W.Frag) : TS := (tRet (tCB (rAll K) (tCons (tLc (iAny K (tVar 0)) (gName 1) tYes (tCl 1 0 (sp_is_step K) (fun vs zs => pick .non [0] (vs ++ zs)) E0 (tCons (tVar 1) tNil) tNil) [1]) tNil)))
def t_are_steps (K : PySem.W.Frag) : TS := (tSeq (tIfS (tOr (tNot (tTr K (tCB (rIsiT K) (tCons (tVar 0) (tCons (tTup (tCons (tC (.ty "list")) (tCons (tC (.ty "tuple")) tNil))) tNil))))) (tNot (tTest (tChain (rI0 fun i j => .bl (decide (i ≤ j))) (rI0 fun i j => .bl (decide (i ≤ j))) (tC (.int 1)) (tCB (rLen K) (tCons (tVar 0) tNil)) (tC (.int 12)))))) (tRet (tC (.bl false))) tNext) (t_are_steps_0 K))
theorem rd_are_steps {K : PySem.W.Frag} (vs : List V) (H : Hp) (Q : VK) (E : XK) (h : sp_are_steps K vs H Q E) : t_are_steps K { nx := fun _ H' => Q .non H', rt := Q } (start ["thing", "step"] vs) H := by
  obtain ⟨_, a, xs, rs, B, M, L, rfl, hI, ha, hr, h0, h1, hg, q⟩ := h
  show t_are_steps K ⟨_, _, _, _⟩ [some (.ref a), none] H
  have hl := hr.len
  have hT : Thing K B (.ref a) .lst := thing_lst ha
  unfold t_are_steps
  tm_at "go"
  refine g_dec (fun _ => ?_) (fun h => absurd (by omega) h)
  tm_at "go"
  refine g_ndec (fun h => absurd (by omega) h) (fun _ => ?_)
  tm_at "go"
  refine' g_lcX (xs := xs) (rs.map fun _ => V.bl true) (by rw [List.length_map, hl]) walk_list hI (by tm_at "wiped") (by omega) (fun D acc H' I => Is.sq I (SqL.of ha)) ?_ ?_
  · intro i x y D acc H' hx hy hI PY q
    obtain ⟨r, e, b, rfl, hb⟩ := hr.get hx
    have hy : y = .bl true := by
      rw [List.getElem?_map, e] at hy
      exact (Option.some.inj hy).symm
    tm_at "go"
    refine' g_wiped (by tm_at "wiped") ?_
    tm_at "go"
    refine' ap_is_step (K := K) hI hb (hg _ (List.mem_of_getElem? e)) ?_
    intro H4 hI
    rw [← hy]
    exact q _ hI
  · intro D H' hI
    tm_at "go"
    refine g_all (l := rs) (P := fun _ => true) (by tm_at "sq") ?_
    rw [all_true]
    exact q _ (hI.forget (by tm_at "sub"))
/-! the class -/
structure StyleC (K : PySem.W.Frag) : Prop where
  cl : Cls K (He.ga K "Style")
  n1 : NoAttr K (He.ga K "Style") "called"
  n2 : NoAttr K (He.ga K "Style") "step_rows"
structure StyleAt (K : PySem.W.Frag) (B : Hp) (x : Addr) (nm : Str) (rs : List StepT) : Prop where
  ex : ∃ (dx cr : Addr) (xs : List V), B x = some (.ins (He.ga K "Style") dx [("called", .str nm), ("step_rows", .ref cr)]) ∧ B cr = some (.lst xs) ∧ StepsB B xs rs
  good : GoodT nm rs
theorem StyleAt.same {K : PySem.W.Frag} {B B' : Hp} {x : Addr} {nm : Str} {rs : List StepT} (h : StyleAt K B x nm rs) (e : Same B B') : StyleAt K B' x nm rs := by
  obtain ⟨⟨dx, cr, xs, h1, h2, h3⟩, g⟩ := h
  exact ⟨⟨dx, cr, xs, e _ _ h1, e _ _ h2, h3.same e⟩, g⟩
def sp_Style_init (K : PySem.W.Frag) : Sp := fun vs H Q _ => vs.length = 3 ∧ ∃ (x dx a : Addr) (nm : Str) (xs : List V) (rs : List StepT) (B : Hp) (M L : List (Addr × HO)), vs = [.ref x, .str nm, .ref a] ∧ Is B M ((x, .ins (He.ga K "Style") dx []) :: (dx, .own x) :: (a, .lst xs) :: L) H ∧ StepsB B xs rs ∧ GoodT nm rs ∧
  ∀ (B' H' : Hp), Same B B' → Is B' M ((a, .lst xs) :: L) H' → StyleAt K B' x nm rs → Q .non H'
theorem ap_Style_init {K : PySem.W.Frag} {H : Hp} {Q : VK} {E : XK} {x dx a : Addr} {nm : Str} {xs : List V} {rs : List StepT} {B : Hp} {M L : List (Addr × HO)} (I : Is B M ((x, .ins (He.ga K "Style") dx []) :: (dx, .own x) :: (a, .lst xs) :: L) H) (hr : StepsB B xs rs) (hg : GoodT nm rs)
    (q : ∀ (B' H' : Hp), Same B B' → Is B' M ((a, .lst xs) :: L) H' → StyleAt K B' x nm rs → Q .non H') : sp_Style_init K [.ref x, .str nm, .ref a] H Q E := ⟨rfl, x, dx, a, nm, xs, rs, B, M, L, rfl, I, hr, hg, q⟩
abbrev t_Style_init_0 (K : PySem.W.Frag) : TS := (sFld K (tVar 0) (tCB (rListOf K) (tCons (tVar 2) tNil)) "step_rows")
abbrev t_Style_init_1 (K : PySem.W.Frag) : TS := (tSeq (sFld K (tVar 0) (tVar 1) "called") (t_Style_init_0 K))
abbrev t_Style_init_2 (K : PySem.W.Frag) : TS := (tSeq (tIfS (tNot (tTr K (tCl 1 0 (sp_are_steps K) (fun vs zs => pick .non [0] (vs ++ zs)) E0 (tCons (tVar 2) tNil) tNil))) tNoS tNext) (t_Style_init_1 K))
def t_Style_init (K : PySem.W.Frag) : TS := (tSeq (tIfS (tNot (tTr K (tCl 1 0 (sp_is_name K) (fun vs zs => pick .non [0] (vs ++ zs)) E0 (tCons (tVar 1) tNil) tNil))) tNoS tNext) (t_Style_init_2 K))
theorem rd_Style_init {K : PySem.W.Frag} (C : StyleC K) (vs : List V) (H : Hp) (Q : VK) (E : XK) (h : sp_Style_init K vs H Q E) : t_Style_init K { nx := fun _ H' => Q .non H', rt := Q } (start ["self", "name", "steps"] vs) H := by
  obtain ⟨_, x, dx, a, nm, xs, rs, B, M, L, rfl, hI, hr, hg, q⟩ := h
  show t_Style_init K ⟨_, _, _, _⟩ [some (.ref x), some (.str nm), some (.ref a)] H
  obtain ⟨cl, n1, n2⟩ := C
  have hl := hr.len
  have hl1 := hg.l1
  unfold t_Style_init
  tm_at "go"
  refine' ap_is_name (K := K) hI (thing_str hg.nm.2) ?_
  clear hI
  intro H hI
  rw [hg.nm.1]
  tm_at "go"
  have hI := hI.perm (L' := (a, .lst xs) :: (x, .ins (He.ga K "Style") dx []) :: (dx, .own x) :: L) (by first | exact List.perm_middle (l₁ := [_, _]) | exact (List.perm_middle (l₁ := [_, _])).symm)
  refine' ap_are_stepsL (K := K) hI hr hg.l0 hg.l1 hg.row ?_
  clear hI
  intro H hI
  tm_at "go"
  obtain ⟨cr, rfl⟩ : ∃ q, q = p := ⟨_, rfl⟩
  refine' hI.give (a := x) (by tm_at "del") ?_
  clear hI
  intro B1 s1 h1 hI
  refine' hI.give (a := cr) (by tm_at "del") ?_
  clear hI
  intro B2 s2 h2 hI
  exact q B2 _ (s1.trans s2) (hI.forget (by tm_at "sub")) ⟨⟨dx, cr, xs, s2 _ _ h1, h2, hr.same (s1.trans s2)⟩, hg⟩
def sp_Style_named (K : PySem.W.Frag) : Sp := fun vs H Q _ => vs.length = 1 ∧ ∃ (x : Addr) (nm : Str) (rs : List StepT) (B : Hp) (M L : List (Addr × HO)), vs = [.ref x] ∧ Is B M L H ∧ StyleAt K B x nm rs ∧ Q (.str nm) H
theorem ap_Style_named {K : PySem.W.Frag} {H : Hp} {Q : VK} {E : XK} {x : Addr} {nm : Str} {rs : List StepT} {B : Hp} {M L : List (Addr × HO)} (I : Is B M L H) (h : StyleAt K B x nm rs) (q : Q (.str nm) H) : sp_Style_named K [.ref x] H Q E := ⟨rfl, x, nm, rs, B, M, L, rfl, I, h, q⟩
def t_Style_named (K : PySem.W.Frag) : TS := (tRet (tFld K (tVar 0) "called"))
theorem rd_Style_named {K : PySem.W.Frag} (C : StyleC K) (vs : List V) (H : Hp) (Q : VK) (E : XK) (h : sp_Style_named K vs H Q E) : t_Style_named K { nx := fun _ H' => Q .non H', rt := Q } (start ["self"] vs) H := by
  obtain ⟨_, x, nm, rs, B, M, L, rfl, hI, hS, q⟩ := h
  show t_Style_named K ⟨_, _, _, _⟩ [some (.ref x)] H
  obtain ⟨cl, n1, n2⟩ := C
  obtain ⟨⟨dx, cr, xs, h1, h2, h3⟩, hg⟩ := id hS
  unfold t_Style_named
  tm_at "go"
  exact q
def sp_Style_steps (K : PySem.W.Frag) : Sp := fun vs H Q _ => vs.length = 1 ∧ ∃ (x : Addr) (nm : Str) (rs : List StepT) (B : Hp) (M L : List (Addr × HO)), vs = [.ref x] ∧ Is B M L H ∧ StyleAt K B x nm rs ∧ ∀ p xs H', StepsB B xs rs → Is B M ((p, .lst xs) :: L) H' → Q (.ref p) H'
theorem ap_Style_steps {K : PySem.W.Frag} {H : Hp} {Q : VK} {E : XK} {x : Addr} {nm : Str} {rs : List StepT} {B : Hp} {M L : List (Addr × HO)} (I : Is B M L H) (h : StyleAt K B x nm rs) (q : ∀ p xs H', StepsB B xs rs → Is B M ((p, .lst xs) :: L) H' → Q (.ref p) H') : sp_Style_steps K [.ref x] H Q E := ⟨rfl, x, nm, rs, B, M, L, rfl, I, h, q⟩
def t_Style_steps (K : PySem.W.Frag) : TS := (tRet (tCB (rListOf K) (tCons (tFld K (tVar 0) "step_rows") tNil)))
theorem rd_Style_steps {K : PySem.W.Frag} (C : StyleC K) (vs : List V) (H : Hp) (Q : VK) (E : XK) (h : sp_Style_steps K vs H Q E) : t_Style_steps K { nx := fun _ H' => Q .non H', rt := Q } (start ["self"] vs) H := by
  obtain ⟨_, x, nm, rs, B, M, L, rfl, hI, hS, q⟩ := h
  show t_Style_steps K ⟨_, _, _, _⟩ [some (.ref x)] H
  obtain ⟨cl, n1, n2⟩ := C
  obtain ⟨⟨dx, cr, xs, h1, h2, h3⟩, hg⟩ := id hS
  unfold t_Style_steps
  tm_at "go"
  exact q _ _ _ h3 hI
/-- all hours and rests -/
def spanT (rs : List StepT) : Int := (rs.map fun r => r.2.1 + r.2.2).sum
def sp_Style_span (K : PySem.W.Frag) : Sp := fun vs H Q _ => vs.length = 1 ∧ ∃ (x : Addr) (nm : Str) (rs : List StepT) (B : Hp) (M L : List (Addr × HO)), vs = [.ref x] ∧ Is B M L H ∧ StyleAt K B x nm rs ∧ ∀ H', Is B M L H' → Q (.int (spanT rs)) H'
theorem ap_Style_span {K : PySem.W.Frag} {H : Hp} {Q : VK} {E : XK} {x : Addr} {nm : Str} {rs : List StepT} {B : Hp} {M L : List (Addr × HO)} (I : Is B M L H) (h : StyleAt K B x nm rs) (q : ∀ H', Is B M L H' → Q (.int (spanT rs)) H') : sp_Style_span K [.ref x] H Q E := ⟨rfl, x, nm, rs, B, M, L, rfl, I, h, q⟩
def t_Style_span (K : PySem.W.Frag) : TS := (tRet (tCB (rSum K) (tCons (tLc (iAny K (tFld K (tVar 0) "step_rows")) (gName 1) tYes (tOp (rAddA K) (tOp (rIx K) (tVar 1) (tC (.int 1))) (tOp (rIx K) (tVar 1) (tC (.int 2)))) [1]) tNil)))
theorem rd_Style_span {K : PySem.W.Frag} (C : StyleC K) (vs : List V) (H : Hp) (Q : VK) (E : XK) (h : sp_Style_span K vs H Q E) : t_Style_span K { nx := fun _ H' => Q .non H', rt := Q } (start ["self", "row"] vs) H := by
  obtain ⟨_, x, nm, rs, B, M, L, rfl, hI, hS, q⟩ := h
  show t_Style_span K ⟨_, _, _, _⟩ [some (.ref x), none] H
  obtain ⟨cl, n1, n2⟩ := C
  obtain ⟨⟨dx, cr, xs, h1, h2, h3⟩, hg⟩ := id hS
  have hl := h3.len
  have hl1 := hg.l1
  unfold t_Style_span
  tm_at "go"
  refine' g_lcX ((rs.map fun r => r.2.1 + r.2.2).map V.int) (by simp [hl]) walk_list hI (by tm_at "wiped") (by omega) (fun D acc H' I => SqL.of (I.b h2)) ?_ ?_
  · intro i x y D acc H' hx hy hI PY q
    obtain ⟨r, e, a, rfl, ha⟩ := h3.get hx
    tm_at "go"
    refine' g_wiped (by tm_at "wiped") ?_
    tm_at "go"
    refine g_ix_t (by tm_at "st") (atI_of (by decide) rfl) ?_
    tm_at "go"
    refine g_ix_t (by tm_at "st") (atI_of (by decide) rfl) ?_
    tm_at "go"
    have ey : y = .int (r.2.1 + r.2.2) := by
      rw [List.getElem?_map, List.getElem?_map, e] at hy
      exact (Option.some.inj hy).symm
    rw [ey] at q
    exact q _ hI
  · intro D H' hI
    tm_at "go"
    refine g_sum (by tm_at "sq") ?_
    exact q _ (hI.forget (by tm_at "sub"))
/-! data of steps -/
def stepD (r : StepT) : PyData := .tuple [.str r.1, .int r.2.1, .int r.2.2]
theorem dp_steps {K : PySem.W.Frag} {B H : Hp} (e : Same B H) : ∀ {xs : List V} {rs : List StepT}, StepsB B xs rs → DpAll K H xs (rs.map stepD)
  | _, _, .nil => .nil
  | _, _, .cons ⟨a, rfl, h⟩ t => .cons (.tup (SqT.of (e _ _ h)) (.cons (.str _) (.cons (.int _) (.cons (.int _) .nil)))) (dp_steps e t)
theorem shn_steps : ∀ (rs : List StepT), (∀ r ∈ rs, StepG r) → ∃ n, n ≤ 5000 * rs.length ∧ ShnAll (rs.map stepD) n 2
  | [], _ => ⟨0, by simp, .nil⟩
  | r :: rs, h => by
    obtain ⟨n, hn1, hn⟩ := shn_steps rs fun x hx => h x (List.mem_cons_of_mem _ hx)
    obtain ⟨h0, h1, h2, h3, h4⟩ := h r List.mem_cons_self
    have hs := work_sh h0
    refine ⟨_, ?_, .cons (.tup (.cons (.str hs.2) (.cons (shn_int (by omega) (by omega)) (.cons (shn_int (by omega) (by omega)) .nil)))) hn⟩
    have := hs.1
    rw [List.length_cons]
    omega
theorem eqv_steps : ∀ rs : List StepT, PyData.eqvAll (rs.map stepD) (rs.map stepD) = true
  | [] => by simp [PyData.eqvAll]
  | r :: rs => by
    have ih := eqv_steps rs
    rw [List.map_cons]
    simp [PyData.eqvAll, PyData.eqv, stepD, ih]
theorem eqv_stepsL (rs : List StepT) : PyData.eqv (.list (rs.map stepD)) (.list (rs.map stepD)) = true := by
  have := eqv_steps rs
  simp [PyData.eqv, this]
theorem eqv_ints4 (a b c d : Int) : PyData.eqv (.tuple [.int a, .int b, .int c, .int d]) (.tuple [.int a, .int b, .int c, .int d]) = true := by simp [PyData.eqvAll, PyData.eqv]
/-! == of two that are made alike -/
def sp_Style_eq (K : PySem.W.Frag) : Sp := fun vs H Q _ => vs.length = 2 ∧ ∃ (x z : Addr) (nm : Str) (rs : List StepT) (B : Hp) (M L : List (Addr × HO)), vs = [.ref x, .ref z] ∧ Is B M L H ∧ StyleAt K B x nm rs ∧ StyleAt K B z nm rs ∧ ∀ H', Is B M L H' → Q (.bl true) H'
theorem ap_Style_eq {K : PySem.W.Frag} {H : Hp} {Q : VK} {E : XK} {x z : Addr} {nm : Str} {rs : List StepT} {B : Hp} {M L : List (Addr × HO)} (I : Is B M L H) (h : StyleAt K B x nm rs) (h' : StyleAt K B z nm rs) (q : ∀ H', Is B M L H' → Q (.bl true) H') : sp_Style_eq K [.ref x, .ref z] H Q E := ⟨rfl, x, z, nm, rs, B, M, L, rfl, I, h, h', q⟩
def t_Style_eq (K : PySem.W.Frag) : TS := (tRet (tAndV (tCB (rIsi K) (tCons (tVar 1) (tCons (tC (.ref (He.ga K "Style"))) tNil))) (tAndV (tOp (rEqA K) (tFld K (tVar 0) "called") (tFld K (tVar 1) "called")) (tOp (rEqA K) (tFld K (tVar 0) "step_rows") (tFld K (tVar 1) "step_rows")))))
theorem rd_Style_eq {K : PySem.W.Frag} (C : StyleC K) (D : OwnD K (He.ga K "Style")) (vs : List V) (H : Hp) (Q : VK) (E : XK) (h : sp_Style_eq K vs H Q E) : t_Style_eq K { nx := fun _ H' => Q .non H', rt := Q } (start ["self", "other"] vs) H := by
  obtain ⟨_, x, z, nm, rs, B, M, L, rfl, hI, hS, hZ, q⟩ := h
  show t_Style_eq K ⟨_, _, _, _⟩ [some (.ref x), some (.ref z)] H
  obtain ⟨cl, n1, n2⟩ := C
  obtain ⟨⟨dx, cr, xs, h1, h2, h3⟩, hg⟩ := id hS
  obtain ⟨⟨dz, cz, zs, k1, k2, k3⟩, _⟩ := id hZ
  obtain ⟨nn, hnn, hsh⟩ := shn_steps rs hg.row
  unfold t_Style_eq
  tm_at "go"
  refine' g_isiO D cl (hI.b k1) ?_
  tm_at "go"
  refine g_dec (fun _ => ?_) (fun h => absurd rfl h)
  tm_at "go"
  refine g_eq_d (.lst (SqL.of (hI.b h2)) (dp_steps hI.ex h3)) (.lst (SqL.of (hI.b k2)) (dp_steps hI.ex k3)) (Shn.shaped (.lst hsh) (by decide)) (Shn.shaped (.lst hsh) (by decide)) ?_
  rw [eqv_stepsL]
  exact q _ hI
/-! its text -/
def stT (r : StepT) : Str := Str.empty ++ r.1 ++ " " ++ numT r.2.1 ++ " " ++ numT r.2.2
def stxt (nm : Str) (rs : List StepT) : Str := Txt.join "\n" (("style " ++ nm) :: rs.map stT)
theorem sh_st : Sh 6 ("style " : Str) := Sh.lit (by decide +kernel)
theorem StepG.sh {r : StepT} (h : StepG r) : Sh 6 r.1 ∧ Sh 18 (numT r.2.1) ∧ Sh 18 (numT r.2.2) := by
  obtain ⟨h0, h1, h2, h3, h4⟩ := h
  exact ⟨work_sh h0, numT_sh (by omega) (by omega), numT_sh h3 (by omega)⟩
theorem StepG.shT {r : StepT} (h : StepG r) : Sh 46 (stT r) := by
  obtain ⟨h1, h2, h3⟩ := h.sh
  exact (((((sh_empty.add h1).add sh_bl).add h2).add sh_bl).add h3).mono (by decide)
theorem GoodT.shHead {nm : Str} {rs : List StepT} (g : GoodT nm rs) : Sh 14 ("style " ++ nm) := sh_st.add (name_sh g.nm.1 g.nm.2)
theorem GoodT.shAll {nm : Str} {rs : List StepT} (g : GoodT nm rs) : ∀ y ∈ ("style " ++ nm) :: rs.map stT, Sh 46 y := by
  intro y hy
  rcases List.mem_cons.mp hy with rfl | hy
  · exact g.shHead.mono (by decide)
  · obtain ⟨r, hr, rfl⟩ := List.mem_map.mp hy
    exact (g.row r hr).shT
theorem GoodT.joins {nm : Str} {rs : List StepT} (g : GoodT nm rs) : ((("style " ++ nm) :: rs.map stT).map (·.length)).sum + (("style " ++ nm) :: rs.map stT).length * ("\n" : Str).length ≤ 16777216 := by
  have h2 := len_join "\n" fun y hy => (g.shAll y hy).1
  have h3 : ("\n" : Str).length = 1 := by decide +kernel
  have h4 : (("style " ++ nm) :: rs.map stT).length ≤ 13 := by
    have := g.l1
    rw [List.length_cons, List.length_map]
    omega
  rw [h3]
  omega
theorem take_stT {rs : List StepT} {i : Nat} {r : StepT} (e : rs[i]? = some r) : (rs.take (i + 1)).map stT = (rs.take i).map stT ++ [stT r] := by
  rw [take_snocI e, List.map_append]
  rfl
def sp_Style_str (K : PySem.W.Frag) : Sp := fun vs H Q _ => vs.length = 1 ∧ ∃ (x : Addr) (nm : Str) (rs : List StepT) (B : Hp) (M L : List (Addr × HO)), vs = [.ref x] ∧ Is B M L H ∧ StyleAt K B x nm rs ∧ ∀ H', Is B M L H' → Q (.str (stxt nm rs)) H'
theorem ap_Style_str {K : PySem.W.Frag} {H : Hp} {Q : VK} {E : XK} {x : Addr} {nm : Str} {rs : List StepT} {B : Hp} {M L : List (Addr × HO)} (I : Is B M L H) (h : StyleAt K B x nm rs) (q : ∀ H', Is B M L H' → Q (.str (stxt nm rs)) H') : sp_Style_str K [.ref x] H Q E := ⟨rfl, x, nm, rs, B, M, L, rfl, I, h, q⟩
abbrev t_Style_str_0 (K : PySem.W.Frag) : TS := (tDrop (tBM K "list" rAppend (tVar 1) (tCons (tFS [(tFmt (tVar 2)), (tC (.str " ")), (tFmt (tVar 3)), (tC (.str " ")), (tFmt (tVar 4))]) tNil)))
abbrev t_Style_str_1 (K : PySem.W.Frag) : TS := (tRet (tM1 (rJoin K) (tC (.str "\n")) (tVar 1)))
abbrev t_Style_str_2 (K : PySem.W.Frag) : TS := (tSeq (tFor (iAny K (tFld K (tVar 0) "step_rows")) (gTup K 3 (gCons (gName 2) (gCons (gName 3) (gCons (gName 4) gNil)))) (t_Style_str_0 K)) (t_Style_str_1 K))
def t_Style_str (K : PySem.W.Frag) : TS := (tSeq (tAsg (tLst (tCons (tOp (rAddA K) (tC (.str "style ")) (tFld K (tVar 0) "called")) tNil)) (gName 1)) (t_Style_str_2 K))
theorem rd_Style_str {K : PySem.W.Frag} (C : StyleC K) (vs : List V) (H : Hp) (Q : VK) (E : XK) (h : sp_Style_str K vs H Q E) : t_Style_str K { nx := fun _ H' => Q .non H', rt := Q } (start ["self", "rows", "work", "hours", "rest"] vs) H := by
  obtain ⟨_, x, nm, rs, B, M, L, rfl, hI, hS, q⟩ := h
  show t_Style_str K ⟨_, _, _, _⟩ [some (.ref x), none, none, none, none] H
  obtain ⟨cl, n1, n2⟩ := C
  obtain ⟨⟨dx, cr, xs, h1, h2, h3⟩, hg⟩ := id hS
  have hl := h3.len
  have hl1 := hg.l1
  unfold t_Style_str
  tm_at "go"
  refine g_add_sh sh_st (name_sh hg.nm.1 hg.nm.2) (by decide) fun _ => ?_
  tm_at "go"
  obtain ⟨rw_, rfl⟩ : ∃ q, q = p := ⟨_, rfl⟩
  refine' g_aFor (walk_list (xs := xs)) (fun i σ H => ∃ (s2 s3 s4 : Option V), σ = [some (.ref x), some (.ref rw_), s2, s3, s4] ∧ Is B M ((rw_, .lst ((("style " ++ nm) :: (rs.take i).map stT).map V.str)) :: L) H)
    ⟨_, _, _, rfl, hI⟩ (fun i σ H _ ⟨_, _, _, _, hI⟩ => SqL.of (hI.b h2)) ?_ ?_
  · rintro i y σ H H' hi ⟨s2, s3, s4, rfl, hI⟩ ⟨rfl, hy⟩
    obtain ⟨⟨z, n, t⟩, e, b, rfl, hb⟩ := h3.get hy
    have hmem := List.mem_of_getElem? e
    have hrow := hg.row _ hmem
    obtain ⟨k1, k2, k3⟩ := hrow.sh
    obtain ⟨_, w1, w2, w3, w4⟩ := hrow
    have w1 : 1 ≤ n := w1
    have w2 : n ≤ 240 := w2
    have w3 : 0 ≤ t := w3
    have w4 : t ≤ 240 := w4
    have hlx : ((("style " ++ nm) :: (rs.take i).map stT).map V.str).length ≤ 13 := by
      rw [List.length_map, List.length_cons, List.length_map, List.length_take]
      omega
    tm_at "go"
    refine' g_fs ?_
    refine' g_jsC ?_
    refine' g_fmt ?_
    tm_at "go"
    refine' g_aFmtS k1 (by decide) ?_
    refine' g_aJs sh_empty k1 (by decide) fun ha => ?_
    refine' g_jsC ?_
    tm_at "go"
    refine' g_aJs ha sh_bl (by decide) fun ha => ?_
    refine' g_jsC ?_
    refine' g_fmt ?_
    tm_at "go"
    refine' g_aFmtI (k := 18) (by omega) (by decide) (by omega) fun _ => ?_
    refine' g_aJs ha k2 (by decide) fun ha => ?_
    refine' g_jsC ?_
    tm_at "go"
    refine' g_aJs ha sh_bl (by decide) fun ha => ?_
    refine' g_jsC ?_
    refine' g_fmt ?_
    tm_at "go"
    refine' g_aFmtI (k := 18) (by omega) (by decide) (by omega) fun _ => ?_
    refine' g_aJs ha k3 (by decide) fun ha => ?_
    refine' g_jsN ?_
    have er : Str.empty ++ z ++ " " ++ Str.ofString (toString n) ++ " " ++ Str.ofString (toString t) = stT (z, n, t) := rfl
    rw [er]
    tm_at "go"
    refine ⟨_, _, _, rfl, ?_⟩
    rw [take_stT e]
    rw [map_str] at hI
    exact hI
  · rintro σ H ⟨s2, s3, s4, rfl, hI⟩
    rw [List.take_of_length_le (by omega)] at hI
    tm_at "go"
    exact ⟨_, _, _, rfl, rfl, .inl (SqL.of (hI.get (List.Mem.head _))), hg.joins, q _ (hI.forget (by tm_at "sub"))⟩
/-! ### jobs -/
structure JobC (K : PySem.W.Frag) : Prop where
  cl : Cls K (He.ga K "Job")
  n1 : NoAttr K (He.ga K "Job") "has_number"
  n2 : NoAttr K (He.ga K "Job") "has_style"
  n3 : NoAttr K (He.ga K "Job") "came"
  n4 : NoAttr K (He.ga K "Job") "wanted"
  n5 : NoAttr K (He.ga K "Job") "hasty"
/-- a job, plain: number, style, brought, due, haste -/
structure JobT where
  n : Int
  nm : Str
  rs : List StepT
  c : Int
  w : Int
  q : Bool
structure GoodJ (j : JobT) : Prop where
  t : GoodT j.nm j.rs
  n0 : 1 ≤ j.n
  n1 : j.n ≤ 99999
  c0 : 0 ≤ j.c
  c1 : j.c ≤ 1000000
  w0 : j.c ≤ j.w
  w1 : j.w ≤ 1000000
structure JobAt (K : PySem.W.Frag) (B : Hp) (x : Addr) (j : JobT) : Prop where
  ex : ∃ (dx st : Addr), B x = some (.ins (He.ga K "Job") dx [("has_number", .int j.n), ("has_style", .ref st), ("came", .int j.c), ("wanted", .int j.w), ("hasty", .bl j.q)]) ∧ StyleAt K B st j.nm j.rs
  good : GoodJ j
theorem JobAt.same {K : PySem.W.Frag} {B B' : Hp} {x : Addr} {j : JobT} (h : JobAt K B x j) (e : Same B B') : JobAt K B' x j := by
  obtain ⟨⟨dx, st, h1, h2⟩, g⟩ := h
  exact ⟨⟨dx, st, e _ _ h1, h2.same e⟩, g⟩
def sp_Job_init (K : PySem.W.Frag) : Sp := fun vs H Q _ => vs.length = 6 ∧ ∃ (x dx st : Addr) (j : JobT) (B : Hp) (M L : List (Addr × HO)), vs = [.ref x, .int j.n, .ref st, .int j.c, .int j.w, .bl j.q] ∧ Is B M ((x, .ins (He.ga K "Job") dx []) :: (dx, .own x) :: L) H ∧ StyleAt K B st j.nm j.rs ∧ GoodJ j ∧
  ∀ (B' H' : Hp), Same B B' → Is B' M L H' → JobAt K B' x j → Q .non H'
theorem ap_Job_init {K : PySem.W.Frag} {H : Hp} {Q : VK} {E : XK} {x dx st : Addr} (j : JobT) {B : Hp} {M L : List (Addr × HO)} (I : Is B M ((x, .ins (He.ga K "Job") dx []) :: (dx, .own x) :: L) H) (h : StyleAt K B st j.nm j.rs) (hg : GoodJ j)
    (q : ∀ (B' H' : Hp), Same B B' → Is B' M L H' → JobAt K B' x j → Q .non H') : sp_Job_init K [.ref x, .int j.n, .ref st, .int j.c, .int j.w, .bl j.q] H Q E := ⟨rfl, x, dx, st, j, B, M, L, rfl, I, h, hg, q⟩
abbrev t_Job_init_0 (K : PySem.W.Frag) : TS := (sFld K (tVar 0) (tVar 5) "hasty")
abbrev t_Job_init_1 (K : PySem.W.Frag) : TS := (tSeq (sFld K (tVar 0) (tVar 6) "wanted") (t_Job_init_0 K))
abbrev t_Job_init_2 (K : PySem.W.Frag) : TS := (tSeq (sFld K (tVar 0) (tVar 3) "came") (t_Job_init_1 K))
abbrev t_Job_init_3 (K : PySem.W.Frag) : TS := (tSeq (sFld K (tVar 0) (tVar 2) "has_style") (t_Job_init_2 K))
abbrev t_Job_init_4 (K : PySem.W.Frag) : TS := (tSeq (sFld K (tVar 0) (tVar 1) "has_number") (t_Job_init_3 K))
abbrev t_Job_init_5 (K : PySem.W.Frag) : TS := (tSeq (tIfS (tNot (tTr K (tCB (rIsi K) (tCons (tVar 5) (tCons (tC (.ty "bool")) tNil))))) tNoS tNext) (t_Job_init_4 K))
abbrev t_Job_init_6 (K : PySem.W.Frag) : TS := (tSeq (tIfS (tNot (tTr K (tCl 2 1 (sp_is_whole K) (fun vs zs => pick .non [0, 1, 2] (vs ++ (zs ++ [.int 1000000]))) E0 (tCons (tVar 6) (tCons (tVar 3) tNil)) (tCons (tC (.int 1000000)) tNil)))) tNoS tNext) (t_Job_init_5 K))
abbrev t_Job_init_7 (K : PySem.W.Frag) : TS := (tSeq (tAsg (tIf (tTest (tOp rIsNo (tVar 4) (tC .non))) (tOp (rAddA K) (tVar 3) (tMe (He.ga K "Style") "span" 0 0 (sp_Style_span K) (fun vs zs => pick .non [0] (vs ++ zs)) E0 (tVar 2) tNil tNil)) (tVar 4)) (gName 6)) (t_Job_init_6 K))
abbrev t_Job_init_8 (K : PySem.W.Frag) : TS := (tSeq (tIfS (tNot (tTr K (tCl 2 1 (sp_is_whole K) (fun vs zs => pick .non [0, 1, 2] (vs ++ (zs ++ [.int 1000000]))) E0 (tCons (tVar 3) (tCons (tC (.int 0)) tNil)) (tCons (tC (.int 1000000)) tNil)))) tNoS tNext) (t_Job_init_7 K))
abbrev t_Job_init_9 (K : PySem.W.Frag) : TS := (tSeq (tIfS (tNot (tTr K (tCB (rIsi K) (tCons (tVar 2) (tCons (tC (.ref (He.ga K "Style"))) tNil))))) tNoS tNext) (t_Job_init_8 K))
def t_Job_init (K : PySem.W.Frag) : TS := (tSeq (tIfS (tNot (tTr K (tCl 2 1 (sp_is_whole K) (fun vs zs => pick .non [0, 1, 2] (vs ++ (zs ++ [.int 1000000]))) E0 (tCons (tVar 1) (tCons (tC (.int 1)) tNil)) (tCons (tC (.int 99999)) tNil)))) tNoS tNext) (t_Job_init_9 K))
theorem rd_Job_init {K : PySem.W.Frag} (C : JobC K) (C2 : StyleC K) (D : OwnD K (He.ga K "Style")) (vs : List V) (H : Hp) (Q : VK) (E : XK) (h : sp_Job_init K vs H Q E) : t_Job_init K { nx := fun _ H' => Q .non H', rt := Q } (start ["self", "number", "style", "brought", "due", "haste", "wanted"] vs) H := by
  obtain ⟨_, x, dx, st, ⟨n, nm, rs, c, w, qk⟩, B, M, L, rfl, hI, hS, hg, q⟩ := h
  show t_Job_init K ⟨_, _, _, _⟩ [some (.ref x), some (.int n), some (.ref st), some (.int c), some (.int w), some (.bl qk), none] H
  obtain ⟨cl, n1, n2, n3, n4, n5⟩ := C
  obtain ⟨⟨ds, cr, xs, h1, h2, h3⟩, _⟩ := id hS
  obtain ⟨_, g1, g2, g3, g4, g5, g6⟩ := id hg
  unfold t_Job_init
  tm_at "go"
  refine' ap_is_whole_t (K := K) g1 g2 ?_
  tm_at "go"
  refine' g_isiO D C2.cl (hI.b h1) ?_
  tm_at "go"
  refine' ap_is_whole_t (K := K) g3 g4 ?_
  tm_at "go"
  refine g_dec (fun h => by cases h) (fun _ => ?_)
  tm_at "go"
  refine' ap_is_whole_t (K := K) g5 g6 ?_
  have hb : Thing K H (.bl qk) .bl := thing_bl qk
  tm_at "go"
  refine' hI.give (a := x) (by tm_at "del") ?_
  clear hI
  intro B1 s1 k1 hI
  exact q B1 _ s1 (hI.forget (by tm_at "sub")) ⟨⟨dx, st, k1, hS.same s1⟩, hg⟩
def sp_Job_rank (K : PySem.W.Frag) : Sp := fun vs H Q _ => vs.length = 1 ∧ ∃ (x : Addr) (j : JobT) (B : Hp) (M L : List (Addr × HO)), vs = [.ref x] ∧ Is B M L H ∧ JobAt K B x j ∧ ∀ p H', Is B M ((p, .tup [.int (if j.q = true then 0 else 1), .int j.w, .int j.c, .int j.n]) :: L) H' → Q (.ref p) H'
theorem ap_Job_rank {K : PySem.W.Frag} {H : Hp} {Q : VK} {E : XK} {x : Addr} {j : JobT} {B : Hp} {M L : List (Addr × HO)} (I : Is B M L H) (h : JobAt K B x j) (q : ∀ p H', Is B M ((p, .tup [.int (if j.q = true then 0 else 1), .int j.w, .int j.c, .int j.n]) :: L) H' → Q (.ref p) H') : sp_Job_rank K [.ref x] H Q E := ⟨rfl, x, j, B, M, L, rfl, I, h, q⟩
def t_Job_rank (K : PySem.W.Frag) : TS := (tRet (tTup (tCons (tIf (tTr K (tFld K (tVar 0) "hasty")) (tC (.int 0)) (tC (.int 1))) (tCons (tFld K (tVar 0) "wanted") (tCons (tFld K (tVar 0) "came") (tCons (tFld K (tVar 0) "has_number") tNil))))))
theorem rd_Job_rank {K : PySem.W.Frag} (C : JobC K) (vs : List V) (H : Hp) (Q : VK) (E : XK) (h : sp_Job_rank K vs H Q E) : t_Job_rank K { nx := fun _ H' => Q .non H', rt := Q } (start ["self"] vs) H := by
  obtain ⟨_, x, ⟨n, nm, rs, c, w, qk⟩, B, M, L, rfl, hI, hJ, q⟩ := h
  show t_Job_rank K ⟨_, _, _, _⟩ [some (.ref x)] H
  obtain ⟨cl, n1, n2, n3, n4, n5⟩ := C
  obtain ⟨⟨dx, st, h1, h2⟩, hg⟩ := id hJ
  unfold t_Job_rank
  tm_at "go"
  refine g_b (fun hq => ?_) (fun hq => ?_)
  · subst hq
    tm_at "go"
    exact q _ _ hI
  · subst hq
    tm_at "go"
    exact q _ _ hI
def sp_Job_eq (K : PySem.W.Frag) : Sp := fun vs H Q _ => vs.length = 2 ∧ ∃ (x z : Addr) (j : JobT) (B : Hp) (M L : List (Addr × HO)), vs = [.ref x, .ref z] ∧ Is B M L H ∧ JobAt K B x j ∧ JobAt K B z j ∧ ∀ H', Is B M L H' → Q (.bl true) H'
theorem ap_Job_eq {K : PySem.W.Frag} {H : Hp} {Q : VK} {E : XK} {x z : Addr} {j : JobT} {B : Hp} {M L : List (Addr × HO)} (I : Is B M L H) (h : JobAt K B x j) (h' : JobAt K B z j) (q : ∀ H', Is B M L H' → Q (.bl true) H') : sp_Job_eq K [.ref x, .ref z] H Q E := ⟨rfl, x, z, j, B, M, L, rfl, I, h, h', q⟩
def t_Job_eq (K : PySem.W.Frag) : TS := (tRet (tAndV (tCB (rIsi K) (tCons (tVar 1) (tCons (tC (.ref (He.ga K "Job"))) tNil))) (tAndV (tOp (rEqA K) (tMe (He.ga K "Job") "rank" 0 0 (sp_Job_rank K) (fun vs zs => pick .non [0] (vs ++ zs)) E0 (tVar 0) tNil tNil) (tMe (He.ga K "Job") "rank" 0 0 (sp_Job_rank K) (fun vs zs => pick .non [0] (vs ++ zs)) E0 (tVar 1) tNil tNil)) (tOp (rOwnEq K (He.ga K "Style") (sp_Style_eq K) (fun vs zs => pick .non [0, 1] (vs ++ zs)) E0) (tFld K (tVar 0) "has_style") (tFld K (tVar 1) "has_style")))))
theorem rd_Job_eq {K : PySem.W.Frag} (C : JobC K) (C2 : StyleC K) (D : OwnD K (He.ga K "Job")) (D2 : OwnD K (He.ga K "Style")) (vs : List V) (H : Hp) (Q : VK) (E : XK) (h : sp_Job_eq K vs H Q E) : t_Job_eq K { nx := fun _ H' => Q .non H', rt := Q } (start ["self", "other"] vs) H := by
  obtain ⟨_, x, z, j, B, M, L, rfl, hI, hX, hZ, q⟩ := h
  show t_Job_eq K ⟨_, _, _, _⟩ [some (.ref x), some (.ref z)] H
  obtain ⟨cl, n1, n2, n3, n4, n5⟩ := C
  obtain ⟨⟨dx, st, h1, h2⟩, hg⟩ := id hX
  obtain ⟨⟨dz, sz, k1, k2⟩, _⟩ := id hZ
  obtain ⟨⟨_, _, _, i1, _, _⟩, _⟩ := id h2
  obtain ⟨⟨_, _, _, i2, _, _⟩, _⟩ := id k2
  obtain ⟨_, g1, g2, g3, g4, g5, g6⟩ := id hg
  have hsh : Shn (.tuple [.int (if j.q = true then 0 else 1), .int j.w, .int j.c, .int j.n]) _ 1 := .tup (.cons (shn_int (by split <;> omega) (by split <;> omega)) (.cons (shn_int (by omega) (by omega)) (.cons (shn_int (by omega) (by omega)) (.cons (shn_int (by omega) (by omega)) .nil))))
  unfold t_Job_eq
  tm_at "go"
  refine' g_isiO D cl (hI.b k1) ?_
  tm_at "go"
  refine' ap_Job_rank (K := K) hI hX ?_
  clear hI
  intro p1 H hI
  tm_at "go"
  refine' ap_Job_rank (K := K) hI hZ ?_
  clear hI
  intro p2 H hI
  refine g_eq_d (.tup (by tm_at "st") (.cons (.int _) (.cons (.int _) (.cons (.int _) (.cons (.int _) .nil))))) (.tup (by tm_at "st") (.cons (.int _) (.cons (.int _) (.cons (.int _) (.cons (.int _) .nil))))) (Shn.shaped hsh (by decide)) (Shn.shaped hsh (by decide)) ?_
  rw [eqv_ints4]
  tm_at "go"
  refine' g_ownEqI D2 C2.cl (hI.b i1) (hI.b i2) ?_
  refine' ap_Style_eq (K := K) hI h2 k2 ?_
  clear hI
  intro H hI
  exact q _ (hI.forget (by tm_at "sub"))
def jobL (j : JobT) : List Str := [("job" : Str), numT j.n, j.nm, numT j.c, numT j.w] ++ (if j.q = true then [("haste" : Str)] else [])
def jtxt (j : JobT) : Str := Txt.join " " (jobL j)
theorem GoodJ.shAll {j : JobT} (g : GoodJ j) : ∀ y ∈ jobL j, Sh 18 y := by
  obtain ⟨t, g1, g2, g3, g4, g5, g6⟩ := g
  intro y hy
  unfold jobL at hy
  rcases List.mem_append.mp hy with hy | hy
  · simp only [List.mem_cons, List.not_mem_nil, or_false] at hy
    rcases hy with rfl | rfl | rfl | rfl | rfl
    · exact (show Sh 3 ("job" : Str) from Sh.lit (by decide +kernel)).mono (by decide)
    · exact numT_sh (by omega) (by omega)
    · exact (name_sh t.nm.1 t.nm.2).mono (by decide)
    · exact numT_sh (by omega) (by omega)
    · exact numT_sh (by omega) (by omega)
  · split at hy
    · rw [List.mem_singleton.mp hy]
      exact (show Sh 5 ("haste" : Str) from Sh.lit (by decide +kernel)).mono (by decide)
    · cases hy
theorem GoodJ.joins {j : JobT} (g : GoodJ j) : ((jobL j).map (·.length)).sum + (jobL j).length * (" " : Str).length ≤ 16777216 := by
  have h2 := len_join " " fun y hy => (g.shAll y hy).1
  have h3 : (" " : Str).length = 1 := by decide +kernel
  have h4 : (jobL j).length ≤ 6 := by
    unfold jobL
    rw [List.length_append]
    split <;> simp
  rw [h3]
  omega
def sp_Job_str (K : PySem.W.Frag) : Sp := fun vs H Q _ => vs.length = 1 ∧ ∃ (x : Addr) (j : JobT) (B : Hp) (M L : List (Addr × HO)), vs = [.ref x] ∧ Is B M L H ∧ JobAt K B x j ∧ ∀ H', Is B M L H' → Q (.str (jtxt j)) H'
theorem ap_Job_str {K : PySem.W.Frag} {H : Hp} {Q : VK} {E : XK} {x : Addr} {j : JobT} {B : Hp} {M L : List (Addr × HO)} (I : Is B M L H) (h : JobAt K B x j) (q : ∀ H', Is B M L H' → Q (.str (jtxt j)) H') : sp_Job_str K [.ref x] H Q E := ⟨rfl, x, j, B, M, L, rfl, I, h, q⟩
abbrev t_Job_str_0 (K : PySem.W.Frag) : TS := (tRet (tM1 (rJoin K) (tC (.str " ")) (tVar 1)))
abbrev t_Job_str_1 (K : PySem.W.Frag) : TS := (tSeq (tIfS (tTr K (tFld K (tVar 0) "hasty")) (tDrop (tBM K "list" rAppend (tVar 1) (tCons (tC (.str "haste")) tNil))) tNext) (t_Job_str_0 K))
def t_Job_str (K : PySem.W.Frag) : TS := (tSeq (tAsg (tLst (tCons (tC (.str "job")) (tCons (tCB rStrI (tCons (tFld K (tVar 0) "has_number") tNil)) (tCons (tMe (He.ga K "Style") "named" 0 0 (sp_Style_named K) (fun vs zs => pick .non [0] (vs ++ zs)) E0 (tFld K (tVar 0) "has_style") tNil tNil) (tCons (tCB rStrI (tCons (tFld K (tVar 0) "came") tNil)) (tCons (tCB rStrI (tCons (tFld K (tVar 0) "wanted") tNil)) tNil)))))) (gName 1)) (t_Job_str_1 K))
theorem rd_Job_str {K : PySem.W.Frag} (C : JobC K) (C2 : StyleC K) (vs : List V) (H : Hp) (Q : VK) (E : XK) (h : sp_Job_str K vs H Q E) : t_Job_str K { nx := fun _ H' => Q .non H', rt := Q } (start ["self", "words"] vs) H := by
  obtain ⟨_, x, j, B, M, L, rfl, hI, hX, q⟩ := h
  show t_Job_str K ⟨_, _, _, _⟩ [some (.ref x), none] H
  obtain ⟨cl, n1, n2, n3, n4, n5⟩ := C
  obtain ⟨⟨dx, st, h1, h2⟩, hg⟩ := id hX
  obtain ⟨⟨_, _, _, i1, _, _⟩, _⟩ := id h2
  obtain ⟨_, g1, g2, g3, g4, g5, g6⟩ := id hg
  unfold t_Job_str
  tm_at "go"
  refine' g_strI (k := 18) (by omega) (by decide) (by omega) fun _ => ?_
  tm_at "go"
  refine' ap_Style_named (K := K) hI h2 ?_
  tm_at "go"
  refine' g_strI (k := 18) (by omega) (by decide) (by omega) fun _ => ?_
  tm_at "go"
  refine' g_strI (k := 18) (by omega) (by decide) (by omega) fun _ => ?_
  tm_at "go"
  refine g_b (fun hq => ?_) (fun hq => ?_)
  · have e : jobL j = [("job" : Str), numT j.n, j.nm, numT j.c, numT j.w] ++ [("haste" : Str)] := by
      unfold jobL
      rw [hq]
      rfl
    tm_at "go"
    replace hI : Is B M ((p, .lst ((jobL j).map V.str)) :: L) H := by rw [e]; exact hI
    exact ⟨_, _, _, rfl, rfl, .inl (SqL.of (hI.get (List.Mem.head _))), hg.joins, q _ (hI.forget (by tm_at "sub"))⟩
  · have e : jobL j = [("job" : Str), numT j.n, j.nm, numT j.c, numT j.w] := by
      unfold jobL
      rw [hq]
      rfl
    tm_at "go"
    replace hI : Is B M ((p, .lst ((jobL j).map V.str)) :: L) H := by rw [e]; exact hI
    exact ⟨_, _, _, rfl, rfl, .inl (SqL.of (hI.get (List.Mem.head _))), hg.joins, q _ (hI.forget (by tm_at "sub"))⟩
def sp_Job_of_style (K : PySem.W.Frag) : Sp := fun vs H Q _ => vs.length = 1 ∧ ∃ (x : Addr) (j : JobT) (B : Hp) (M L : List (Addr × HO)), vs = [.ref x] ∧ Is B M L H ∧ JobAt K B x j ∧ ∀ st, StyleAt K B st j.nm j.rs → Q (.ref st) H
theorem ap_Job_of_style {K : PySem.W.Frag} {H : Hp} {Q : VK} {E : XK} {x : Addr} {j : JobT} {B : Hp} {M L : List (Addr × HO)} (I : Is B M L H) (h : JobAt K B x j) (q : ∀ st, StyleAt K B st j.nm j.rs → Q (.ref st) H) : sp_Job_of_style K [.ref x] H Q E := ⟨rfl, x, j, B, M, L, rfl, I, h, q⟩
def t_Job_of_style (K : PySem.W.Frag) : TS := (tRet (tFld K (tVar 0) "has_style"))
theorem rd_Job_of_style {K : PySem.W.Frag} (C : JobC K) (vs : List V) (H : Hp) (Q : VK) (E : XK) (h : sp_Job_of_style K vs H Q E) : t_Job_of_style K { nx := fun _ H' => Q .non H', rt := Q } (start ["self"] vs) H := by
  obtain ⟨_, x, j, B, M, L, rfl, hI, hX, q⟩ := h
  show t_Job_of_style K ⟨_, _, _, _⟩ [some (.ref x)] H
  obtain ⟨cl, n1, n2, n3, n4, n5⟩ := C
  obtain ⟨⟨dx, st, h1, h2⟩, hg⟩ := id hX
  unfold t_Job_of_style
  tm_at "go"
  exact q _ h2
def sp_Job_in_haste (K : PySem.W.Frag) : Sp := fun vs H Q _ => vs.length = 1 ∧ ∃ (x : Addr) (j : JobT) (B : Hp) (M L : List (Addr × HO)), vs = [.ref x] ∧ Is B M L H ∧ JobAt K B x j ∧ Q (.bl j.q) H
theorem ap_Job_in_haste {K : PySem.W.Frag} {H : Hp} {Q : VK} {E : XK} {x : Addr} {j : JobT} {B : Hp} {M L : List (Addr × HO)} (I : Is B M L H) (h : JobAt K B x j) (q : Q (.bl j.q) H) : sp_Job_in_haste K [.ref x] H Q E := ⟨rfl, x, j, B, M, L, rfl, I, h, q⟩
def t_Job_in_haste (K : PySem.W.Frag) : TS := (tRet (tFld K (tVar 0) "hasty"))
theorem rd_Job_in_haste {K : PySem.W.Frag} (C : JobC K) (vs : List V) (H : Hp) (Q : VK) (E : XK) (h : sp_Job_in_haste K vs H Q E) : t_Job_in_haste K { nx := fun _ H' => Q .non H', rt := Q } (start ["self"] vs) H := by
  obtain ⟨_, x, j, B, M, L, rfl, hI, hX, q⟩ := h
  show t_Job_in_haste K ⟨_, _, _, _⟩ [some (.ref x)] H
  obtain ⟨cl, n1, n2, n3, n4, n5⟩ := C
  obtain ⟨⟨dx, st, h1, h2⟩, hg⟩ := id hX
  unfold t_Job_in_haste
  tm_at "go"
  exact q
/-! ### words of a text that was joined -/
theorem tl_bl : TL.tl (" " : Str) = [32] := by decide +kernel
theorem tl_nl : TL.tl ("\n" : Str) = [10] := by decide +kernel
theorem words_join {ps : List Str} (hne : ps ≠ []) (h : ∀ p ∈ ps, 32 ∉ TL.tl p ∧ TL.tl p ≠ []) : wordsV (.str (Txt.join " " ps)) = some ps := by
  have e : partsL (Txt.join " " ps) = ps.map TL.tl := by
    unfold partsL
    show TL.spl [32] 0 [] (TL.tl (Txt.join " " ps)) = _
    rw [TL.join_eq, TL.tl_join, tl_bl]
    exact TL.spl_join (by simpa using hne) fun p hp => by
      obtain ⟨q, hq, rfl⟩ := List.mem_map.mp hp
      exact (h q hq).1
  show (if [] ∈ partsL (Txt.join " " ps) then none else some ((partsL (Txt.join " " ps)).map fun l => (⟨l.toArray⟩ : Str))) = some ps
  rw [e, if_neg fun hm => ?_]
  · congr 1
    rw [List.map_map]
    conv => rhs; rw [← List.map_id ps]
    exact List.map_congr_left fun p _ => TL.mk_tl p
  · obtain ⟨q, hq, e2⟩ := List.mem_map.mp hm
    exact (h q hq).2 e2
theorem rows_join {ps : List Str} (hne : ps ≠ []) (h : ∀ p ∈ ps, 10 ∉ TL.tl p) : Txt.split (Txt.join "\n" ps) "\n" = ps := by
  exact TL.split_join tl_nl (by decide +kernel) hne h
/-! numbers in words -/
theorem head_num : ∀ n : Nat, 1 ≤ n → (TL.numL n).head? ≠ some 48 := by
  intro n
  induction n using Nat.strongRecOn with
  | ind n ih =>
    intro h1
    rcases Nat.lt_or_ge n 10 with h | h
    · rw [TL.numL_lt h]
      intro e
      have : 48 + n = 48 := Option.some.inj e
      omega
    · rw [TL.numL_step h]
      have hne := TL.numL_ne (n / 10)
      intro e
      refine ih (n / 10) (by omega) (by omega) ?_
      cases hz : TL.numL (n / 10) with
      | nil => exact absurd hz hne
      | cons c l =>
        rw [hz] at e
        exact e
theorem digV_num (n : Nat) : digV (TL.numL n) = n := by
  have e := TL.fold_num n
  unfold digV
  rw [← e]
  congr 1
  funext a c
  omega
theorem numOf_num {i : Int} (h0 : 0 ≤ i) (h1 : i < 10000000) : numOf (.str (numT i)) = .int i := by
  obtain ⟨n, rfl⟩ := Int.eq_ofNat_of_zero_le h0
  have ht : (numT (n : Int)).cps.toList = TL.numL n := TL.tl_num n
  have hl : (numT (n : Int)).length = (TL.numL n).length := by
    rw [TL.len_tl]
    exact congrArg List.length (TL.tl_num n)
  have hl7 : (TL.numL n).length ≤ 7 := TL.numL_len (by decide) (by omega)
  have hne := TL.numL_ne n
  have hl1 : 1 ≤ (TL.numL n).length := List.length_pos_iff.mpr hne
  have hd : (TL.numL n).all digB = true := by
    rw [List.all_eq_true]
    intro c hc
    have := TL.numL_digits n c hc
    have e : digS.cps.toList = [48, 49, 50, 51, 52, 53, 54, 55, 56, 57] := by decide +kernel
    unfold digB
    rw [e]
    refine decide_eq_true ?_
    simp only [List.mem_cons, List.not_mem_nil, or_false]
    omega
  show (if 1 ≤ (numT (n : Int)).length ∧ (numT (n : Int)).length ≤ 7 ∧ (numT (n : Int)).cps.toList.all digB = true ∧ ¬ ((numT (n : Int)).cps.toList.head? = some 48 ∧ numT (n : Int) ≠ "0") then V.int (digV (numT (n : Int)).cps.toList) else .non) = _
  have hz : ¬ ((TL.numL n).head? = some 48 ∧ numT (n : Int) ≠ "0") := by
    rintro ⟨e1, e2⟩
    rcases Nat.lt_or_ge n 1 with h | h
    · have : n = 0 := by omega
      subst this
      exact e2 (by decide +kernel)
    · exact head_num n h e1
  rw [ht, hl, if_pos ⟨hl1, hl7, hd, hz⟩, digV_num]
/-! ### a line -/
structure LineC (K : PySem.W.Frag) : Prop where
  cl : Cls K (He.ga K "Line")
  n1 : NoAttr K (He.ga K "Line") "on_row"
  n2 : NoAttr K (He.ga K "Line") "left_words"
  n3 : NoAttr K (He.ga K "Line") "taken"
abbrev lnO (K : PySem.W.Frag) (x dx lw : Addr) (r t : Int) (ws : List Str) (L : List (Addr × HO)) : List (Addr × HO) :=
  (x, .ins (He.ga K "Line") dx [("on_row", .int r), ("left_words", .ref lw), ("taken", .int t)]) :: (dx, .own x) :: (lw, .lst (ws.map V.str)) :: L
/-- words that a line may have -/
def Wds (ws : List Str) : Prop := ws.length ≤ 20 ∧ ∀ p ∈ ws, Sh 20 p
theorem Wds.tail {p : Str} {ws : List Str} (h : Wds (p :: ws)) : Wds ws := ⟨by have := h.1; rw [List.length_cons] at this; omega, fun q hq => h.2 q (List.mem_cons_of_mem _ hq)⟩
theorem dp_strs {K : PySem.W.Frag} {H : Hp} : ∀ ws : List Str, DpAll K H (ws.map V.str) (ws.map PyData.str)
  | [] => .nil
  | w :: ws => .cons (.str w) (dp_strs ws)
theorem shn_strW : ∀ ws : List Str, (∀ p ∈ ws, Sh 20 p) → ∃ n, n ≤ 300 * ws.length ∧ ShnAll (ws.map PyData.str) n 1
  | [], _ => ⟨0, by simp, .nil⟩
  | w :: ws, h => by
    obtain ⟨n, h1, h2⟩ := shn_strW ws fun p hp => h p (List.mem_cons_of_mem _ hp)
    have hs := h w List.mem_cons_self
    refine ⟨_, ?_, .cons (.str hs.2) h2⟩
    have := hs.1
    rw [List.length_cons]
    omega
def sp_Line_init (K : PySem.W.Frag) : Sp := fun vs H Q _ => vs.length = 3 ∧ ∃ (x dx : Addr) (z : Str) (r : Int) (ws : List Str) (B : Hp) (M L : List (Addr × HO)), vs = [.ref x, .str z, .int r] ∧ Is B M ((x, .ins (He.ga K "Line") dx []) :: (dx, .own x) :: L) H ∧ plainS z ∧ wordsV (.str z) = some ws ∧
  ∀ lw H', Is B M (lnO K x dx lw r 0 ws L) H' → Q .non H'
theorem ap_Line_init {K : PySem.W.Frag} {H : Hp} {Q : VK} {E : XK} {x dx : Addr} {z : Str} {r : Int} {ws : List Str} {B : Hp} {M L : List (Addr × HO)} (I : Is B M ((x, .ins (He.ga K "Line") dx []) :: (dx, .own x) :: L) H) (h : plainS z) (hw : wordsV (.str z) = some ws) (q : ∀ lw H', Is B M (lnO K x dx lw r 0 ws L) H' → Q .non H') : sp_Line_init K [.ref x, .str z, .int r] H Q E := ⟨rfl, x, dx, z, r, ws, B, M, L, rfl, I, h, hw, q⟩
abbrev t_Line_init_0 (K : PySem.W.Frag) : TS := (sFld K (tVar 0) (tC (.int 0)) "taken")
abbrev t_Line_init_1 (K : PySem.W.Frag) : TS := (tSeq (sFld K (tVar 0) (tVar 3) "left_words") (t_Line_init_0 K))
abbrev t_Line_init_2 (K : PySem.W.Frag) : TS := (tSeq (sFld K (tVar 0) (tVar 2) "on_row") (t_Line_init_1 K))
abbrev t_Line_init_3 (K : PySem.W.Frag) : TS := (tSeq (tIfS (tTest (tOp rIsNo (tVar 3) (tC .non))) tNoS tNext) (t_Line_init_2 K))
def t_Line_init (K : PySem.W.Frag) : TS := (tSeq (tAsg (tCl 1 0 (sp_words_of K) (fun vs zs => pick .non [0] (vs ++ zs)) E0 (tCons (tVar 1) tNil) tNil) (gName 3)) (t_Line_init_3 K))
theorem rd_Line_init {K : PySem.W.Frag} (C : LineC K) (vs : List V) (H : Hp) (Q : VK) (E : XK) (h : sp_Line_init K vs H Q E) : t_Line_init K { nx := fun _ H' => Q .non H', rt := Q } (start ["self", "text", "row", "found"] vs) H := by
  obtain ⟨_, x, dx, z, r, ws, B, M, L, rfl, hI, hp, hw, q⟩ := h
  show t_Line_init K ⟨_, _, _, _⟩ [some (.ref x), some (.str z), some (.int r), none] H
  obtain ⟨cl, n1, n2, n3⟩ := C
  unfold t_Line_init
  tm_at "go"
  refine' (show sp_words_of K [.str z] H _ _ from ⟨rfl, .str z, .str, B, M, _, rfl, hI, thing_str hp, (fun h => by rw [hw] at h; cases h), ?_⟩)
  intro ws' h
  rw [hw] at h
  cases h
  clear hI
  intro lw H hI
  tm_at "go"
  refine g_dec (fun h => by cases h) (fun _ => ?_)
  tm_at "go"
  exact q lw _ (hI.perm (by first | exact List.perm_middle (l₁ := [_, _]) | exact (List.perm_middle (l₁ := [_, _])).symm))
def sp_Line_ahead (K : PySem.W.Frag) : Sp := fun vs H Q _ => vs.length = 1 ∧ ∃ (x dx lw : Addr) (r t : Int) (ws : List Str) (B : Hp) (M L : List (Addr × HO)), vs = [.ref x] ∧ Is B M (lnO K x dx lw r t ws L) H ∧ Wds ws ∧ ∀ H', Is B M (lnO K x dx lw r t ws L) H' → Q (.str (ws.headD "")) H'
theorem ap_Line_ahead {K : PySem.W.Frag} {H : Hp} {Q : VK} {E : XK} {x dx lw : Addr} {r t : Int} {ws : List Str} {B : Hp} {M L : List (Addr × HO)} (I : Is B M (lnO K x dx lw r t ws L) H) (hw : Wds ws) (q : ∀ H', Is B M (lnO K x dx lw r t ws L) H' → Q (.str (ws.headD "")) H') : sp_Line_ahead K [.ref x] H Q E := ⟨rfl, x, dx, lw, r, t, ws, B, M, L, rfl, I, hw, q⟩
def t_Line_ahead (K : PySem.W.Frag) : TS := (tRet (tIf (tTest (tOp (rNeA K) (tFld K (tVar 0) "left_words") (tLst tNil))) (tOp (rIx K) (tFld K (tVar 0) "left_words") (tC (.int 0))) (tC (.str ""))))
theorem rd_Line_ahead {K : PySem.W.Frag} (C : LineC K) (vs : List V) (H : Hp) (Q : VK) (E : XK) (h : sp_Line_ahead K vs H Q E) : t_Line_ahead K { nx := fun _ H' => Q .non H', rt := Q } (start ["self"] vs) H := by
  obtain ⟨_, x, dx, lw, r, t, ws, B, M, L, rfl, hI, hws, q⟩ := h
  show t_Line_ahead K ⟨_, _, _, _⟩ [some (.ref x)] H
  obtain ⟨cl, n1, n2, n3⟩ := C
  obtain ⟨nn, hnn, hsh⟩ := shn_strW ws hws.2
  unfold t_Line_ahead
  tm_at "go"
  refine g_ne_d (.lst (by tm_at "sq") (dp_strs ws)) (.lst (xs := []) (by tm_at "sq") .nil) (Shn.shaped (.lst hsh) (by decide)) rfl ?_
  rw [eqv_lst_nil, List.isEmpty_map]
  replace hI := hI.forget (L' := lnO K x dx lw r t ws L) (by tm_at "sub")
  tm_at "go"
  cases ws with
  | nil =>
    refine g_nb (fun h => by cases h) (fun _ => ?_)
    tm_at "go"
    exact q _ hI
  | cons w ws =>
    refine g_nb (fun _ => ?_) (fun h => by cases h)
    tm_at "go"
    refine g_ix_l (by tm_at "sq") (atI_of (by decide) rfl) ?_
    exact q _ hI
def sp_Line_take (K : PySem.W.Frag) : Sp := fun vs H Q _ => vs.length = 2 ∧ ∃ (x dx lw : Addr) (r t : Int) (w : Str) (ws : List Str) (B : Hp) (M L : List (Addr × HO)), vs = [.ref x, .bl true] ∧ Is B M (lnO K x dx lw r t (w :: ws) L) H ∧ ∀ H', Is B M (lnO K x dx lw r (t + 1) ws L) H' → Q (.str w) H'
theorem ap_Line_take {K : PySem.W.Frag} {H : Hp} {Q : VK} {E : XK} {x dx lw : Addr} {r t : Int} {w : Str} {ws : List Str} {B : Hp} {M L : List (Addr × HO)} (I : Is B M (lnO K x dx lw r t (w :: ws) L) H) (q : ∀ H', Is B M (lnO K x dx lw r (t + 1) ws L) H' → Q (.str w) H') : sp_Line_take K [.ref x, .bl true] H Q E := ⟨rfl, x, dx, lw, r, t, w, ws, B, M, L, rfl, I, q⟩
abbrev t_Line_take_0 (K : PySem.W.Frag) : TS := (tRet (tBM K "list" rPopAt (tFld K (tVar 0) "left_words") (tCons (tC (.int 0)) tNil)))
abbrev t_Line_take_1 (K : PySem.W.Frag) : TS := (tSeq (sFldAug K (tVar 0) (tC (.int 1)) rAdd "taken") (t_Line_take_0 K))
def t_Line_take (K : PySem.W.Frag) : TS := (tSeq (tIfS (tNot (tTr K (tVar 1))) tNoS tNext) (t_Line_take_1 K))
theorem rd_Line_take {K : PySem.W.Frag} (C : LineC K) (vs : List V) (H : Hp) (Q : VK) (E : XK) (h : sp_Line_take K vs H Q E) : t_Line_take K { nx := fun _ H' => Q .non H', rt := Q } (start ["self", "good"] vs) H := by
  obtain ⟨_, x, dx, lw, r, t, w, ws, B, M, L, rfl, hI, q⟩ := h
  show t_Line_take K ⟨_, _, _, _⟩ [some (.ref x), some (.bl true)] H
  obtain ⟨cl, n1, n2, n3⟩ := C
  unfold t_Line_take
  tm_at "go"
  refine' g_fldAdd (var_mono (i := 0)) ?_
  tm_at "go"
  refine' g_aFAdd hI (by tm_at "hp") cl n3 (by tm_at "fget") (by simp) (by tm_at "fput") (by tm_at "put") ?_
  clear hI
  intro H hI
  tm_at "go"
  refine' g_pop0 hI (by tm_at "hp") (by tm_at "put") ?_
  clear hI
  intro H hI
  exact q _ hI
def sp_Line_take_word (K : PySem.W.Frag) : Sp := fun vs H Q _ => vs.length = 2 ∧ ∃ (x dx lw : Addr) (r t : Int) (w : Str) (ws : List Str) (B : Hp) (M L : List (Addr × HO)), vs = [.ref x, .str w] ∧ Is B M (lnO K x dx lw r t (w :: ws) L) H ∧ Wds (w :: ws) ∧ ∀ H', Is B M (lnO K x dx lw r (t + 1) ws L) H' → Q (.str w) H'
theorem ap_Line_take_word {K : PySem.W.Frag} {H : Hp} {Q : VK} {E : XK} {x dx lw : Addr} {r t : Int} {w : Str} {ws : List Str} {B : Hp} {M L : List (Addr × HO)} (I : Is B M (lnO K x dx lw r t (w :: ws) L) H) (hw : Wds (w :: ws)) (q : ∀ H', Is B M (lnO K x dx lw r (t + 1) ws L) H' → Q (.str w) H') : sp_Line_take_word K [.ref x, .str w] H Q E := ⟨rfl, x, dx, lw, r, t, w, ws, B, M, L, rfl, I, hw, q⟩
def t_Line_take_word (K : PySem.W.Frag) : TS := (tRet (tMe (He.ga K "Line") "take" 1 0 (sp_Line_take K) (fun vs zs => pick .non [0, 1] (vs ++ zs)) E0 (tVar 0) (tCons (tOp (rEqA K) (tMe (He.ga K "Line") "ahead" 0 0 (sp_Line_ahead K) (fun vs zs => pick .non [0] (vs ++ zs)) E0 (tVar 0) tNil tNil) (tVar 1)) tNil) tNil))
theorem rd_Line_take_word {K : PySem.W.Frag} (C : LineC K) (vs : List V) (H : Hp) (Q : VK) (E : XK) (h : sp_Line_take_word K vs H Q E) : t_Line_take_word K { nx := fun _ H' => Q .non H', rt := Q } (start ["self", "word"] vs) H := by
  obtain ⟨_, x, dx, lw, r, t, w, ws, B, M, L, rfl, hI, hws, q⟩ := h
  show t_Line_take_word K ⟨_, _, _, _⟩ [some (.ref x), some (.str w)] H
  obtain ⟨cl, n1, n2, n3⟩ := C
  unfold t_Line_take_word
  tm_at "go"
  refine' ap_Line_ahead (K := K) hI hws ?_
  clear hI
  intro H hI
  tm_at "go"
  rw [show decide (V.str ((w :: ws).headD "") = V.str w) = true from decide_eq_true rfl]
  refine' ap_Line_take (K := K) hI ?_
  exact q
def sp_Line_take_name (K : PySem.W.Frag) : Sp := fun vs H Q _ => vs.length = 1 ∧ ∃ (x dx lw : Addr) (r t : Int) (w : Str) (ws : List Str) (B : Hp) (M L : List (Addr × HO)), vs = [.ref x] ∧ Is B M (lnO K x dx lw r t (w :: ws) L) H ∧ Wds (w :: ws) ∧ isName (.str w) = true ∧ plainS w ∧ ∀ H', Is B M (lnO K x dx lw r (t + 1) ws L) H' → Q (.str w) H'
theorem ap_Line_take_name {K : PySem.W.Frag} {H : Hp} {Q : VK} {E : XK} {x dx lw : Addr} {r t : Int} {w : Str} {ws : List Str} {B : Hp} {M L : List (Addr × HO)} (I : Is B M (lnO K x dx lw r t (w :: ws) L) H) (hw : Wds (w :: ws)) (h1 : isName (.str w) = true) (h2 : plainS w) (q : ∀ H', Is B M (lnO K x dx lw r (t + 1) ws L) H' → Q (.str w) H') : sp_Line_take_name K [.ref x] H Q E := ⟨rfl, x, dx, lw, r, t, w, ws, B, M, L, rfl, I, hw, h1, h2, q⟩
def t_Line_take_name (K : PySem.W.Frag) : TS := (tRet (tMe (He.ga K "Line") "take" 1 0 (sp_Line_take K) (fun vs zs => pick .non [0, 1] (vs ++ zs)) E0 (tVar 0) (tCons (tCl 1 0 (sp_is_name K) (fun vs zs => pick .non [0] (vs ++ zs)) E0 (tCons (tMe (He.ga K "Line") "ahead" 0 0 (sp_Line_ahead K) (fun vs zs => pick .non [0] (vs ++ zs)) E0 (tVar 0) tNil tNil) tNil) tNil) tNil) tNil))
theorem rd_Line_take_name {K : PySem.W.Frag} (C : LineC K) (vs : List V) (H : Hp) (Q : VK) (E : XK) (h : sp_Line_take_name K vs H Q E) : t_Line_take_name K { nx := fun _ H' => Q .non H', rt := Q } (start ["self"] vs) H := by
  obtain ⟨_, x, dx, lw, r, t, w, ws, B, M, L, rfl, hI, hws, h1, h2, q⟩ := h
  show t_Line_take_name K ⟨_, _, _, _⟩ [some (.ref x)] H
  obtain ⟨cl, n1, n2, n3⟩ := C
  unfold t_Line_take_name
  tm_at "go"
  refine' ap_Line_ahead (K := K) hI hws ?_
  clear hI
  intro H hI
  tm_at "go"
  refine' ap_is_name (K := K) (x := .str w) hI (thing_str h2) ?_
  clear hI
  intro H hI
  rw [h1]
  tm_at "go"
  refine' ap_Line_take (K := K) hI ?_
  exact q
def sp_Line_take_number (K : PySem.W.Frag) : Sp := fun vs H Q _ => vs.length = 3 ∧ ∃ (x dx lw : Addr) (r t i lo hi : Int) (ws : List Str) (B : Hp) (M L : List (Addr × HO)), vs = [.ref x, .int lo, .int hi] ∧ Is B M (lnO K x dx lw r t (numT i :: ws) L) H ∧ Wds (numT i :: ws) ∧ 0 ≤ i ∧ i < 10000000 ∧ lo ≤ i ∧ i ≤ hi ∧ ∀ H', Is B M (lnO K x dx lw r (t + 1) ws L) H' → Q (.int i) H'
theorem ap_Line_take_number {K : PySem.W.Frag} {H : Hp} {Q : VK} {E : XK} {x dx lw : Addr} {r t i lo hi : Int} {ws : List Str} {B : Hp} {M L : List (Addr × HO)} (I : Is B M (lnO K x dx lw r t (numT i :: ws) L) H) (hw : Wds (numT i :: ws)) (h0 : 0 ≤ i) (h1 : i < 10000000) (h2 : lo ≤ i) (h3 : i ≤ hi) (q : ∀ H', Is B M (lnO K x dx lw r (t + 1) ws L) H' → Q (.int i) H') : sp_Line_take_number K [.ref x, .int lo, .int hi] H Q E := ⟨rfl, x, dx, lw, r, t, i, lo, hi, ws, B, M, L, rfl, I, hw, h0, h1, h2, h3, q⟩
theorem ap_number_of {K : PySem.W.Frag} {H : Hp} {Q : VK} {E : XK} {i : Int} {B : Hp} {M L : List (Addr × HO)} (I : Is B M L H) (h0 : 0 ≤ i) (h1 : i < 10000000) (q : ∀ H', Is B M L H' → Q (.int i) H') : sp_number_of K [.str (numT i)] H Q E :=
  ⟨rfl, .str (numT i), .str, B, M, L, rfl, I, thing_str ((numT_sh h0 (by omega)).plain (by decide)), by rw [numOf_num h0 h1]; exact q⟩
abbrev t_Line_take_number_0 (K : PySem.W.Frag) : TS := (tRet (tVar 3))
abbrev t_Line_take_number_1 (K : PySem.W.Frag) : TS := (tSeq (tDrop (tMe (He.ga K "Line") "take" 1 0 (sp_Line_take K) (fun vs zs => pick .non [0, 1] (vs ++ zs)) E0 (tVar 0) (tCons (tAndV (tOp rNoNo (tVar 3) (tC .non)) (tCl 2 1 (sp_is_whole K) (fun vs zs => pick .non [0, 1, 2] (vs ++ (zs ++ [.int 1000000]))) E0 (tCons (tVar 3) (tCons (tVar 1) tNil)) (tCons (tVar 2) tNil))) tNil) tNil)) (t_Line_take_number_0 K))
def t_Line_take_number (K : PySem.W.Frag) : TS := (tSeq (tAsg (tCl 1 0 (sp_number_of K) (fun vs zs => pick .non [0] (vs ++ zs)) E0 (tCons (tMe (He.ga K "Line") "ahead" 0 0 (sp_Line_ahead K) (fun vs zs => pick .non [0] (vs ++ zs)) E0 (tVar 0) tNil tNil) tNil) tNil) (gName 3)) (t_Line_take_number_1 K))
theorem rd_Line_take_number {K : PySem.W.Frag} (C : LineC K) (vs : List V) (H : Hp) (Q : VK) (E : XK) (h : sp_Line_take_number K vs H Q E) : t_Line_take_number K { nx := fun _ H' => Q .non H', rt := Q } (start ["self", "least", "most", "found"] vs) H := by
  obtain ⟨_, x, dx, lw, r, t, i, lo, hi, ws, B, M, L, rfl, hI, hws, h0, h1, h2, h3, q⟩ := h
  show t_Line_take_number K ⟨_, _, _, _⟩ [some (.ref x), some (.int lo), some (.int hi), none] H
  obtain ⟨cl, n1, n2, n3⟩ := C
  unfold t_Line_take_number
  tm_at "go"
  refine' ap_Line_ahead (K := K) hI hws ?_
  clear hI
  intro H hI
  tm_at "go"
  refine' ap_number_of (K := K) (i := i) hI h0 h1 ?_
  clear hI
  intro H hI
  tm_at "go"
  refine g_ndec (fun _ => ?_) (fun h => by cases h)
  tm_at "go"
  refine' ap_is_whole_t (K := K) h2 h3 ?_
  tm_at "go"
  refine' ap_Line_take (K := K) hI ?_
  clear hI
  intro H hI
  tm_at "go"
  exact q _ hI
def sp_Line_over (K : PySem.W.Frag) : Sp := fun vs H Q _ => vs.length = 1 ∧ ∃ (x dx lw : Addr) (r t : Int) (B : Hp) (M L : List (Addr × HO)), vs = [.ref x] ∧ Is B M (lnO K x dx lw r t [] L) H ∧ ∀ H', Is B M L H' → Q .non H'
theorem ap_Line_over {K : PySem.W.Frag} {H : Hp} {Q : VK} {E : XK} {x dx lw : Addr} {r t : Int} {B : Hp} {M L : List (Addr × HO)} (I : Is B M (lnO K x dx lw r t [] L) H) (q : ∀ H', Is B M L H' → Q .non H') : sp_Line_over K [.ref x] H Q E := ⟨rfl, x, dx, lw, r, t, B, M, L, rfl, I, q⟩
def t_Line_over (K : PySem.W.Frag) : TS := (tIfS (tTest (tOp (rNeA K) (tFld K (tVar 0) "left_words") (tLst tNil))) tNoS tNext)
theorem rd_Line_over {K : PySem.W.Frag} (C : LineC K) (vs : List V) (H : Hp) (Q : VK) (E : XK) (h : sp_Line_over K vs H Q E) : t_Line_over K { nx := fun _ H' => Q .non H', rt := Q } (start ["self"] vs) H := by
  obtain ⟨_, x, dx, lw, r, t, B, M, L, rfl, hI, q⟩ := h
  show t_Line_over K ⟨_, _, _, _⟩ [some (.ref x)] H
  obtain ⟨cl, n1, n2, n3⟩ := C
  have hI : Is B M ((x, .ins (He.ga K "Line") dx [("on_row", .int r), ("left_words", .ref lw), ("taken", .int t)]) :: (dx, .own x) :: (lw, .lst []) :: L) H := hI
  unfold t_Line_over
  tm_at "go"
  refine g_ne_d (.lst (xs := []) (by tm_at "sq") .nil) (.lst (xs := []) (by tm_at "sq") .nil) rfl rfl ?_
  rw [eqv_lst_nil]
  tm_at "go"
  refine g_nb (fun h => by cases h) (fun _ => ?_)
  tm_at "go"
  exact q _ (hI.forget (by tm_at "sub"))
def sp_rows_of (K : PySem.W.Frag) : Sp := fun vs H Q _ => vs.length = 1 ∧ ∃ (ps : List Str) (B : Hp) (M L : List (Addr × HO)), vs = [.str (Txt.join "\n" ps)] ∧ Is B M L H ∧ ps ≠ [] ∧ (∀ p ∈ ps, 10 ∉ TL.tl p) ∧ plainS (Txt.join "\n" ps) ∧ ∀ p H', Is B M ((p, .lst (ps.map V.str)) :: L) H' → Q (.ref p) H'
theorem ap_rows_of {K : PySem.W.Frag} {H : Hp} {Q : VK} {E : XK} {ps : List Str} {B : Hp} {M L : List (Addr × HO)} (I : Is B M L H) (h1 : ps ≠ []) (h2 : ∀ p ∈ ps, 10 ∉ TL.tl p) (h3 : plainS (Txt.join "\n" ps)) (q : ∀ p H', Is B M ((p, .lst (ps.map V.str)) :: L) H' → Q (.ref p) H') : sp_rows_of K [.str (Txt.join "\n" ps)] H Q E := ⟨rfl, ps, B, M, L, rfl, I, h1, h2, h3, q⟩
abbrev t_rows_of_0 (K : PySem.W.Frag) : TS := (tRet (tM1 rSplit (tVar 0) (tC (.str "\n"))))
def t_rows_of (K : PySem.W.Frag) : TS := (tSeq (tIfS (tNot (tTr K (tCB (rIsi K) (tCons (tVar 0) (tCons (tC (.ty "str")) tNil))))) tNoS tNext) (t_rows_of_0 K))
theorem rd_rows_of {K : PySem.W.Frag} (vs : List V) (H : Hp) (Q : VK) (E : XK) (h : sp_rows_of K vs H Q E) : t_rows_of K { nx := fun _ H' => Q .non H', rt := Q } (start ["text"] vs) H := by
  obtain ⟨_, ps, B, M, L, rfl, hI, h1, h2, h3, q⟩ := h
  have e := rows_join h1 h2
  generalize Txt.join "\n" ps = z at *
  show t_rows_of K ⟨_, _, _, _⟩ [some (.str z)] H
  have hx : Thing K H (.str z) .str := thing_str h3
  unfold t_rows_of
  tm_at "go"
  refine ⟨z, "\n", rfl, rfl, by decide +kernel, Nat.le_trans (Nat.add_le_add_right h3.1 2) (by decide +kernel), ?_⟩
  rw [e]
  refine g_newS hI ?_
  exact q
/-! rows changed in one thing -/
theorem pw_of_up : ∀ {rs : List Row}, (∀ i (a b : Row), rs[i]? = some a → rs[i + 1]? = some b → a.1 ≤ b.1) → rs.Pairwise (fun a b => a.1 ≤ b.1)
  | [], _ => .nil
  | [r], _ => List.pairwise_singleton _ _
  | r :: q :: l, h => by
    have t := pw_of_up (rs := q :: l) fun i a b h1 h2 => h (i + 1) a b h1 h2
    have h0 := h 0 r q rfl rfl
    refine List.pairwise_cons.mpr ⟨fun b hb => ?_, t⟩
    rcases List.mem_cons.mp hb with rfl | hb
    · exact h0
    · exact Int.le_trans h0 ((List.pairwise_cons.mp t).1 b hb)
theorem GoodR.pw {span : Int} {rs : List Row} (g : GoodR span rs) : rs.Pairwise (fun a b => a.1 ≤ b.1) := pw_of_up fun i ⟨c, s, w⟩ ⟨c', s', w'⟩ h1 h2 => g.up i c s w c' s' w' h1 h2
/-- what a row is asked -/
def RowG (span : Int) (r : Row) : Prop := 0 ≤ r.1 ∧ r.1 < span ∧ isName (.str r.2.1) = true ∧ plainS r.2.1 ∧ 1 ≤ r.2.2 ∧ r.2.2 ≤ 1000
theorem GoodR.of {span : Int} {rs : List Row} (h0 : 1 ≤ span) (h1 : span ≤ 1000) (hl : rs.length ≤ 12) (hr : ∀ r ∈ rs, RowG span r) (hp : rs.Pairwise (fun a b => a.1 ≤ b.1)) : GoodR span rs :=
  ⟨h0, h1, hl, hr, fun i c s w c' s' w' e1 e2 => by
    obtain ⟨l1, f1⟩ := List.getElem?_eq_some_iff.mp e1
    obtain ⟨l2, f2⟩ := List.getElem?_eq_some_iff.mp e2
    have := List.pairwise_iff_getElem.mp hp i (i + 1) l1 l2 (by omega)
    rw [f1, f2] at this
    exact this⟩
theorem cut_at {rs : List Row} {j : Nat} {r : Row} (e : rs[j]? = some r) : rs = rs.take j ++ r :: rs.drop (j + 1) := by
  obtain ⟨l, f⟩ := List.getElem?_eq_some_iff.mp e
  rw [← f, ← List.drop_eq_getElem_cons l, List.take_append_drop]
/-- another length -/
theorem GoodR.longer {span : Int} {rs : List Row} (g : GoodR span rs) (h : span < 1000) : GoodR (span + 1) rs :=
  ⟨by have := g.s0; omega, by omega, g.len, fun r hr => by
    obtain ⟨h1, h2, h3⟩ := g.row r hr
    exact ⟨h1, by omega, h3⟩, g.up⟩
/-- another row -/
theorem GoodR.put {span : Int} {A Bs : List Row} {r r' : Row} (g : GoodR span (A ++ r :: Bs)) (hr : RowG span r') (h1 : ∀ a ∈ A, a.1 ≤ r'.1) (h2 : ∀ b ∈ Bs, r'.1 ≤ b.1) : GoodR span (A ++ r' :: Bs) := by
  have hp := g.pw
  obtain ⟨p1, p2, p3⟩ := List.pairwise_append.mp hp
  obtain ⟨p4, p5⟩ := List.pairwise_cons.mp p2
  refine .of g.s0 g.s1 (by have := g.len; simp only [List.length_append, List.length_cons] at *; omega) (fun x hx => ?_) (List.pairwise_append.mpr ⟨p1, List.pairwise_cons.mpr ⟨h2, p5⟩, fun a ha b hb => ?_⟩)
  · rcases List.mem_append.mp hx with hx | hx
    · exact g.row x (List.mem_append_left _ hx)
    · rcases List.mem_cons.mp hx with rfl | hx
      · exact hr
      · exact g.row x (List.mem_append_right _ (List.mem_cons_of_mem _ hx))
  · rcases List.mem_cons.mp hb with rfl | hb
    · exact h1 a ha
    · exact p3 a ha b (List.mem_cons_of_mem _ hb)
/-- a row less -/
theorem GoodR.less {span : Int} {A Bs : List Row} {r : Row} (g : GoodR span (A ++ r :: Bs)) : GoodR span (A ++ Bs) := by
  have hs : (A ++ Bs).Sublist (A ++ r :: Bs) := (List.Sublist.refl A).append (List.sublist_cons_self r Bs)
  exact .of g.s0 g.s1 (Nat.le_trans hs.length_le g.len) (fun x hx => g.row x (hs.subset hx)) (g.pw.sublist hs)
/-- two of an hour turned about -/
theorem GoodR.swap {span : Int} {A Bs : List Row} {r q : Row} (g : GoodR span (A ++ q :: r :: Bs)) (h : q.1 = r.1) : GoodR span (A ++ r :: q :: Bs) := by
  have hp := g.pw
  obtain ⟨p1, p2, p3⟩ := List.pairwise_append.mp hp
  obtain ⟨p4, p5⟩ := List.pairwise_cons.mp p2
  obtain ⟨p6, p7⟩ := List.pairwise_cons.mp p5
  have pm : (A ++ r :: q :: Bs).Perm (A ++ q :: r :: Bs) := (List.Perm.refl A).append (List.Perm.swap _ _ _)
  refine .of g.s0 g.s1 (by rw [pm.length_eq]; exact g.len) (fun x hx => g.row x (pm.mem_iff.mp hx)) (List.pairwise_append.mpr ⟨p1, List.pairwise_cons.mpr ⟨fun b hb => ?_, List.pairwise_cons.mpr ⟨fun b hb => p4 b (List.mem_cons_of_mem _ hb), p7⟩⟩, fun a ha b hb => ?_⟩)
  · rcases List.mem_cons.mp hb with rfl | hb
    · omega
    · exact p6 b hb
  · refine p3 a ha b ?_
    rcases List.mem_cons.mp hb with rfl | hb
    · exact List.mem_cons_of_mem _ List.mem_cons_self
    · rcases List.mem_cons.mp hb with rfl | hb
      · exact List.mem_cons_self
      · exact List.mem_cons_of_mem _ (List.mem_cons_of_mem _ hb)
/-- the hours of rows ahead and behind -/
theorem GoodR.ahead {span : Int} {rs : List Row} (g : GoodR span rs) {i : Nat} {q : Row} (e : rs[i]? = some q) : ∀ a ∈ rs.take (i + 1), a.1 ≤ q.1 := by
  intro a ha
  obtain ⟨k, hk⟩ := List.getElem?_of_mem ha
  have hlk := (List.getElem?_eq_some_iff.mp hk).1
  rw [List.length_take] at hlk
  rw [List.getElem?_take_of_lt (by omega)] at hk
  obtain ⟨l1, f1⟩ := List.getElem?_eq_some_iff.mp hk
  obtain ⟨l2, f2⟩ := List.getElem?_eq_some_iff.mp e
  rcases Nat.lt_or_ge k i with h | h
  · have := List.pairwise_iff_getElem.mp g.pw k i l1 l2 h
    rw [f1, f2] at this
    exact this
  · have : k = i := by omega
    subst this
    rw [hk] at e
    cases e
    exact Int.le_refl _
theorem GoodR.behind {span : Int} {rs : List Row} (g : GoodR span rs) {i : Nat} {q : Row} (e : rs[i]? = some q) : ∀ b ∈ rs.drop i, q.1 ≤ b.1 := by
  intro b hb
  obtain ⟨k, hk⟩ := List.getElem?_of_mem hb
  rw [List.getElem?_drop] at hk
  obtain ⟨l1, f1⟩ := List.getElem?_eq_some_iff.mp hk
  obtain ⟨l2, f2⟩ := List.getElem?_eq_some_iff.mp e
  rcases Nat.lt_or_ge i (i + k) with h | h
  · have := List.pairwise_iff_getElem.mp g.pw i (i + k) l2 l1 h
    rw [f1, f2] at this
    exact this
  · have : k = 0 := by omega
    subst this
    rw [Nat.add_zero, e] at hk
    cases hk
    exact Int.le_refl _
/-! rows that lie there, cut and put together -/
theorem RowsB.drop {B : Hp} : ∀ {xs : List V} {rs : List Row} (n : Nat), RowsB B xs rs → RowsB B (xs.drop n) (rs.drop n)
  | _, _, 0, h => h
  | _, _, _ + 1, .nil => .nil
  | _, _, n + 1, .cons _ t => t.drop n
theorem RowsB.app {B : Hp} : ∀ {xs ys : List V} {rs qs : List Row}, RowsB B xs rs → RowsB B ys qs → RowsB B (xs ++ ys) (rs ++ qs)
  | _, _, _, _, .nil, k => k
  | _, _, _, _, .cons h t, k => .cons h (t.app k)
theorem cutV_drop {xs : List V} {j : Nat} : cutV xs (some (j : Int)) none = xs.drop j := by
  unfold cutV
  rw [HT.sIx_none]
  have e1 : HT.sIx xs.length 0 (some (j : Int)) = min j xs.length := HT.sIx_nat xs.length 0 j
  rw [e1, List.take_of_length_le (by rw [List.length_drop]; omega)]
  rcases Nat.lt_or_ge xs.length j with h | h
  · rw [Nat.min_eq_right (by omega), List.drop_length, List.drop_eq_nil_of_le (by omega)]
  · rw [Nat.min_eq_left h]
section
variable {B H : Hp} {M L : List (Addr × HO)} {Q : VK} {K : PySem.W.Frag} {a b : Addr} {xs ys : List V} {rs qs : List Row}
/-- rows in a tuple that stays -/
def TupR (B : Hp) (a : Addr) (rs : List Row) : Prop := ∃ xs, B a = some (.tup xs) ∧ RowsB B xs rs
theorem TupR.same {B B' : Hp} (h : TupR B a rs) (s : Same B B') : TupR B' a rs := by
  obtain ⟨xs, h1, h2⟩ := h
  exact ⟨xs, s _ _ h1, h2.same s⟩
theorem g_sl_R {lo hi : Option Int} {f : ∀ {α : Type}, List α → List α} (I : Is B M L H) (ha : TupR B a rs) (hf : ∀ xs, RowsB B xs rs → cutV xs lo hi = f xs) (hr : ∀ xs, RowsB B xs rs → RowsB B (f xs) (f rs))
    (q : ∀ p B' H', Same B B' → Is B' M L H' → TupR B' p (f rs) → Q (.ref p) H') : rSlA K (.ref a) lo hi H Q := by
  obtain ⟨xs, h1, h2⟩ := ha
  refine .inr (.inr ⟨a, xs, rfl, Is.st I (SqT.of h1), fun h => ?_, fun _ p hp => ?_⟩)
  · exact q a B H (fun _ _ e => e) I ⟨f xs, by rw [← hf xs h2, cutV_whole h]; exact h1, hr xs h2⟩
  · obtain ⟨k1, k2⟩ := (I.new (o := .tup (cutV xs lo hi)) hp).frz .here
    exact q p _ _ k2 k1 ⟨f xs, by rw [upd_same, hf xs h2], (hr xs h2).same k2⟩
theorem g_sl_to {j : Nat} (I : Is B M L H) (ha : TupR B a rs) (hj : j ≤ rs.length) (q : ∀ p B' H', Same B B' → Is B' M L H' → TupR B' p (rs.take j) → Q (.ref p) H') : rSlA K (.ref a) none (some (j : Int)) H Q :=
  g_sl_R (f := fun l => l.take j) I ha (fun xs h => cutV_take (by rw [h.len]; exact hj)) (fun xs h => h.take j) q
theorem g_sl_from {j : Nat} (I : Is B M L H) (ha : TupR B a rs) (q : ∀ p B' H', Same B B' → Is B' M L H' → TupR B' p (rs.drop j) → Q (.ref p) H') : rSlA K (.ref a) (some (j : Int)) none H Q :=
  g_sl_R (f := fun l => l.drop j) I ha (fun xs h => cutV_drop) (fun xs h => h.drop j) q
theorem g_add_R (I : Is B M L H) (ha : TupR B a rs) (hb : TupR B b qs) (h : rs.length + qs.length ≤ 1000)
    (q : ∀ p B' H', Same B B' → Is B' M L H' → TupR B' p (rs ++ qs) → Q (.ref p) H') : rAddA K (.ref a) (.ref b) H Q := by
  obtain ⟨xs, h1, h2⟩ := ha
  obtain ⟨ys, k1, k2⟩ := hb
  have l1 := h2.len
  have l2 := k2.len
  refine .inr (.inr (.inr ⟨a, b, xs, ys, rfl, rfl, Is.st I (SqT.of h1), Is.st I (SqT.of k1), sz6 (by omega), fun e => ?_, fun _ e => ?_, fun _ _ p hp => ?_⟩))
  · refine q b B H (fun _ _ e => e) I ?_
    have : rs = [] := List.length_eq_zero_iff.mp (by rw [← l1, e]; rfl)
    rw [this]
    exact ⟨ys, k1, k2⟩
  · refine q a B H (fun _ _ e => e) I ?_
    have : qs = [] := List.length_eq_zero_iff.mp (by rw [← l2, e]; rfl)
    rw [this, List.append_nil]
    exact ⟨xs, h1, h2⟩
  · obtain ⟨m1, m2⟩ := (I.new (o := .tup (xs ++ ys)) hp).frz .here
    exact q p _ _ m2 m1 ⟨xs ++ ys, upd_same, (h2.same m2).app (k2.same m2)⟩
end
theorem joinL_signE {S : List Nat} {c : Nat} : ∀ {ps : List (List Nat)}, c ∈ TL.joinL S ps → c ∈ S ∨ ∃ p ∈ ps, c ∈ p
  | [], h => by cases h
  | [p], h => .inr ⟨p, List.mem_cons_self, h⟩
  | p :: q :: r, h => by
    rcases List.mem_append.mp (show c ∈ p ++ (S ++ TL.joinL S (q :: r)) from h) with h | h
    · exact .inr ⟨p, List.mem_cons_self, h⟩
    · rcases List.mem_append.mp h with h | h
      · exact .inl h
      · rcases joinL_signE h with h | ⟨p', h1, h2⟩
        · exact .inl h
        · exact .inr ⟨p', List.mem_cons_of_mem _ h1, h2⟩
theorem sh_joinE {y : Str} (hy : Sh 1 y) {ps : List Str} {k m : Nat} (h : ∀ z ∈ ps, Sh k z) (hl : ps.length ≤ m) (hm : m ≤ 20) : Sh (20 * k + 20) (Txt.join y ps) := by
  rw [TL.join_eq]
  have h2 := len_join y fun z hz => (h z hz).1
  refine ⟨?_, fun c hc => ?_⟩
  · have a := StrLaws.join_length_le y ps
    have b := hy.1
    have e1 : ps.length * y.length ≤ 20 * 1 := Nat.mul_le_mul (by omega) b
    have e2 : k * ps.length ≤ k * 20 := Nat.mul_le_mul_left _ (by omega)
    omega
  · have hc' : c ∈ TL.tl (Str.join y ps) := hc
    rw [TL.tl_join] at hc'
    rcases joinL_signE hc' with h1 | ⟨p, h1, h3⟩
    · exact hy.2 c h1
    · obtain ⟨z, hz, rfl⟩ := List.mem_map.mp h1
      exact (h z hz).2 c h3
theorem free_joinE {y : Str} {c : Nat} (hy : c ∉ TL.tl y) {ps : List Str} (h : ∀ z ∈ ps, c ∉ TL.tl z) : c ∉ TL.tl (Txt.join y ps) := fun hc => by
  rw [TL.join_eq, TL.tl_join] at hc
  rcases joinL_signE hc with h1 | ⟨p, h1, h3⟩
  · exact hy h1
  · obtain ⟨z, hz, rfl⟩ := List.mem_map.mp h1
    exact h z hz h3
theorem sh_nl : Sh 1 ("\n" : Str) := Sh.lit (by decide +kernel)
theorem num_ne {i : Int} (h : 0 ≤ i) : TL.tl (numT i) ≠ [] := by
  rw [tl_numT h]
  exact TL.numL_ne _
theorem num_free {i : Int} (h : 0 ≤ i) {c : Nat} (hc : c < 48) : c ∉ TL.tl (numT i) := fun hm => by
  have := numT_sign h hm
  omega
theorem name_free {z : Str} (h : isName (.str z) = true) {c : Nat} (hc : c < 97) : c ∉ TL.tl z := fun hm => by
  have := name_sign h hm
  omega
theorem name_ne {z : Str} (h : isName (.str z) = true) : TL.tl z ≠ [] := fun e => by
  have h' : (decide (1 ≤ (z.length : Int)) && (decide ((z.length : Int) ≤ 8) && (!inV (.str z) barVs && z.cps.toList.all fun c => decide (c ∈ letS.cps.toList)))) = true := h
  simp only [Bool.and_eq_true] at h'
  have h1 := of_decide_eq_true h'.1
  have := TL.len_tl z
  rw [e] at this
  simp at this
  omega
theorem work_ne {z : Str} (h : WorkOk z) : TL.tl z ≠ [] ∧ (∀ c, c < 97 → c ∉ TL.tl z) := by
  obtain ⟨k, h⟩ := h
  simp only [kndL, List.mem_cons, Prod.mk.injEq, List.not_mem_nil, or_false] at h
  have key : ∀ y : Str, TL.tl y ≠ [] → (∀ c ∈ TL.tl y, 97 ≤ c) → TL.tl y ≠ [] ∧ (∀ c, c < 97 → c ∉ TL.tl y) := fun y h1 h2 => ⟨h1, fun c hc hm => by have := h2 c hm; omega⟩
  rcases h with ⟨rfl, _⟩ | ⟨rfl, _⟩ | ⟨rfl, _⟩ | ⟨rfl, _⟩ | ⟨rfl, _⟩ <;> exact key _ (by decide +kernel) (by decide +kernel)
/-! a style's rows -/
theorem stT_join (r : StepT) : stT r = Txt.join " " [r.1, numT r.2.1, numT r.2.2] := by
  apply tlInj
  rw [TL.join_eq, TL.tl_join]
  unfold stT
  rw [empty_app]
  simp only [TL.tl_append, List.map_cons, List.map_nil, TL.joinL, List.append_assoc]
theorem StepG.parts {r : StepT} (h : StepG r) : ∀ p ∈ [r.1, numT r.2.1, numT r.2.2], (∀ c, c < 48 → c ∉ TL.tl p) ∧ TL.tl p ≠ [] := by
  obtain ⟨h0, h1, h2, h3, h4⟩ := h
  intro p hp
  simp only [List.mem_cons, List.not_mem_nil, or_false] at hp
  rcases hp with rfl | rfl | rfl
  · exact ⟨fun c hc => (work_ne h0).2 c (by omega), (work_ne h0).1⟩
  · exact ⟨fun c hc => num_free (by omega) hc, num_ne (by omega)⟩
  · exact ⟨fun c hc => num_free (by omega) hc, num_ne (by omega)⟩
theorem StepG.words {r : StepT} (h : StepG r) : wordsV (.str (stT r)) = some [r.1, numT r.2.1, numT r.2.2] := by
  rw [stT_join]
  exact words_join (by simp) fun p hp => ⟨(h.parts p hp).1 32 (by decide), (h.parts p hp).2⟩
theorem StepG.nl {r : StepT} (h : StepG r) : 10 ∉ TL.tl (stT r) := by
  rw [stT_join]
  exact free_joinE (by decide +kernel) fun p hp => (h.parts p hp).1 10 (by decide)
theorem StepG.wds {r : StepT} (h : StepG r) : Wds [r.1, numT r.2.1, numT r.2.2] := by
  obtain ⟨h1, h2, h3⟩ := h.sh
  refine ⟨by simp, fun p hp => ?_⟩
  simp only [List.mem_cons, List.not_mem_nil, or_false] at hp
  rcases hp with rfl | rfl | rfl
  · exact h1.mono (by decide)
  · exact h2.mono (by decide)
  · exact h3.mono (by decide)
theorem style_join (nm : Str) : "style " ++ nm = Txt.join " " [("style" : Str), nm] := by
  apply tlInj
  rw [TL.join_eq, TL.tl_join, TL.tl_append]
  simp only [List.map_cons, List.map_nil, TL.joinL]
  rw [← List.append_assoc]
  congr 1
theorem GoodT.head {nm : Str} {rs : List StepT} (g : GoodT nm rs) : wordsV (.str ("style " ++ nm)) = some [("style" : Str), nm] ∧ 10 ∉ TL.tl ("style " ++ nm) ∧ Wds [("style" : Str), nm] := by
  refine ⟨?_, ?_, by simp, fun p hp => ?_⟩
  · rw [style_join]
    refine words_join (by simp) fun p hp => ?_
    simp only [List.mem_cons, List.not_mem_nil, or_false] at hp
    rcases hp with rfl | rfl
    · exact ⟨by decide +kernel, by decide +kernel⟩
    · exact ⟨name_free g.nm.1 (by decide), name_ne g.nm.1⟩
  · rw [TL.tl_append]
    intro hm
    rcases List.mem_append.mp hm with h1 | h1
    · revert h1
      decide +kernel
    · exact name_free g.nm.1 (by decide) h1
  · simp only [List.mem_cons, List.not_mem_nil, or_false] at hp
    rcases hp with rfl | rfl
    · exact (show Sh 5 ("style" : Str) from Sh.lit (by decide +kernel)).mono (by decide)
    · exact (name_sh g.nm.1 g.nm.2).mono (by decide)
theorem GoodT.plain {nm : Str} {rs : List StepT} (g : GoodT nm rs) : plainS (stxt nm rs) := (sh_joinE sh_nl g.shAll (m := 13) (by rw [List.length_cons, List.length_map]; have := g.l1; omega) (by decide)).plain (by decide)
theorem GoodT.nls {nm : Str} {rs : List StepT} (g : GoodT nm rs) : ∀ p ∈ ("style " ++ nm) :: rs.map stT, 10 ∉ TL.tl p := by
  intro p hp
  rcases List.mem_cons.mp hp with rfl | hp
  · exact g.head.2.1
  · obtain ⟨r, hr, rfl⟩ := List.mem_map.mp hp
    exact (g.row r hr).nl
def sp_read_style (K : PySem.W.Frag) : Sp := fun vs H Q _ => vs.length = 1 ∧ ∃ (nm : Str) (rs : List StepT) (B : Hp) (M L : List (Addr × HO)), vs = [.str (stxt nm rs)] ∧ Is B M L H ∧ GoodT nm rs ∧ ∀ x B' H', Same B B' → Is B' M L H' → StyleAt K B' x nm rs → Q (.ref x) H'
theorem ap_read_style {K : PySem.W.Frag} {H : Hp} {Q : VK} {E : XK} {nm : Str} {rs : List StepT} {B : Hp} {M L : List (Addr × HO)} (I : Is B M L H) (h : GoodT nm rs) (q : ∀ x B' H', Same B B' → Is B' M L H' → StyleAt K B' x nm rs → Q (.ref x) H') : sp_read_style K [.str (stxt nm rs)] H Q E := ⟨rfl, nm, rs, B, M, L, rfl, I, h, q⟩
abbrev t_read_style_0 (K : PySem.W.Frag) : TS := (tDrop (tMe (He.ga K "Line") "over" 0 0 (sp_Line_over K) (fun vs zs => pick .non [0] (vs ++ zs)) E0 (tVar 3) tNil tNil))
abbrev t_read_style_1 (K : PySem.W.Frag) : TS := (tSeq (tDrop (tBM K "list" rAppend (tVar 2) (tCons (tTup (tCons (tVar 7) (tCons (tVar 8) (tCons (tMe (He.ga K "Line") "take_number" 2 0 (sp_Line_take_number K) (fun vs zs => pick .non [0, 1, 2] (vs ++ zs)) E0 (tVar 3) (tCons (tC (.int 0)) (tCons (tC (.int 240)) tNil)) tNil) tNil)))) tNil))) (t_read_style_0 K))
abbrev t_read_style_2 (K : PySem.W.Frag) : TS := (tSeq (tAsg (tMe (He.ga K "Line") "take_number" 2 0 (sp_Line_take_number K) (fun vs zs => pick .non [0, 1, 2] (vs ++ zs)) E0 (tVar 3) (tCons (tC (.int 1)) (tCons (tC (.int 240)) tNil)) tNil) (gName 8)) (t_read_style_1 K))
abbrev t_read_style_3 (K : PySem.W.Frag) : TS := (tSeq (tAsg (tMe (He.ga K "Line") "take" 1 0 (sp_Line_take K) (fun vs zs => pick .non [0, 1] (vs ++ zs)) E0 (tVar 3) (tCons (tAndV (tOp (rI0 fun i j => .bl (decide (i < j))) (tVar 5) (tC (.int 12))) (tOp rNoNo (tCl 1 0 (sp_kind_of K) (fun vs zs => pick .non [0] (vs ++ zs)) E0 (tCons (tMe (He.ga K "Line") "ahead" 0 0 (sp_Line_ahead K) (fun vs zs => pick .non [0] (vs ++ zs)) E0 (tVar 3) tNil tNil) tNil) tNil) (tC .non))) tNil) tNil) (gName 7)) (t_read_style_2 K))
abbrev t_read_style_4 (K : PySem.W.Frag) : TS := (tSeq (tAsg (tMk (He.ga K "Line") 2 0 (sp_Line_init K) (fun vs zs => pick .non [0, 1, 2] (vs ++ zs)) E0 (tCons (tVar 6) (tCons (tOp (rAddA K) (tVar 5) (tC (.int 2))) tNil)) tNil) (gName 3)) (t_read_style_3 K))
abbrev t_read_style_5 (K : PySem.W.Frag) : TS := (tRet (tMk (He.ga K "Style") 2 0 (sp_Style_init K) (fun vs zs => pick .non [0, 1, 2] (vs ++ zs)) E0 (tCons (tVar 4) (tCons (tVar 2) tNil)) tNil))
abbrev t_read_style_6 (K : PySem.W.Frag) : TS := (tSeq (tIfS (tTest (tOp (rEqA K) (tVar 2) (tLst tNil))) tNoS tNext) (t_read_style_5 K))
abbrev t_read_style_7 (K : PySem.W.Frag) : TS := (tSeq (tFor (iEnumA K (tCons (tSl (rSlA K) (tVar 1) (tPart (tC (.int 1))) tNoPart) tNil)) (gTup K 2 (gCons (gName 5) (gCons (gName 6) gNil))) (t_read_style_4 K)) (t_read_style_6 K))
abbrev t_read_style_8 (K : PySem.W.Frag) : TS := (tSeq (tDrop (tMe (He.ga K "Line") "over" 0 0 (sp_Line_over K) (fun vs zs => pick .non [0] (vs ++ zs)) E0 (tVar 3) tNil tNil)) (t_read_style_7 K))
abbrev t_read_style_9 (K : PySem.W.Frag) : TS := (tSeq (tAsg (tMe (He.ga K "Line") "take_name" 0 0 (sp_Line_take_name K) (fun vs zs => pick .non [0] (vs ++ zs)) E0 (tVar 3) tNil tNil) (gName 4)) (t_read_style_8 K))
abbrev t_read_style_10 (K : PySem.W.Frag) : TS := (tSeq (tDrop (tMe (He.ga K "Line") "take_word" 1 0 (sp_Line_take_word K) (fun vs zs => pick .non [0, 1] (vs ++ zs)) E0 (tVar 3) (tCons (tC (.str "style")) tNil) tNil)) (t_read_style_9 K))
abbrev t_read_style_11 (K : PySem.W.Frag) : TS := (tSeq (tAsg (tMk (He.ga K "Line") 2 0 (sp_Line_init K) (fun vs zs => pick .non [0, 1, 2] (vs ++ zs)) E0 (tCons (tOp (rIx K) (tVar 1) (tC (.int 0))) (tCons (tC (.int 1)) tNil)) tNil) (gName 3)) (t_read_style_10 K))
def t_read_style (K : PySem.W.Frag) : TS := (tSeq (tPar 1 2 (tCons (tCl 1 0 (sp_rows_of K) (fun vs zs => pick .non [0] (vs ++ zs)) E0 (tCons (tVar 0) tNil) tNil) (tCons (tLst tNil) tNil))) (t_read_style_11 K))
theorem rd_read_style {K : PySem.W.Frag} (vs : List V) (H : Hp) (Q : VK) (E : XK) (h : sp_read_style K vs H Q E) : t_read_style K { nx := fun _ H' => Q .non H', rt := Q } (start ["text", "rows", "steps", "line", "name", "k", "row", "work", "hours"] vs) H := by
  obtain ⟨_, nm, rs, B, M, L, rfl, hI, hg, q⟩ := h
  show t_read_style K ⟨_, _, _, _⟩ [some (.str (stxt nm rs)), none, none, none, none, none, none, none, none] H
  have hl1 := hg.l1
  have hl0 := hg.l0
  obtain ⟨hh1, hh2, hh3⟩ := hg.head
  unfold t_read_style
  tm_at "go"
  refine' ap_rows_of (K := K) hI (by simp) hg.nls hg.plain ?_
  clear hI
  intro rw_ H hI
  tm_at "go"
  obtain ⟨stl, rfl⟩ : ∃ q, q = p := ⟨_, rfl⟩
  refine g_ix_l (by tm_at "sq") (atI_of (by decide) rfl) ?_
  tm_at "go"
  refine' ap_Line_init (K := K) hI (hg.shHead.plain (by decide)) hh1 ?_
  clear hI
  intro lw H hI
  refine ⟨rfl, ?_⟩
  tm_at "go"
  refine' ap_Line_take_word (K := K) hI hh3 ?_
  clear hI
  intro H hI
  tm_at "go"
  refine' ap_Line_take_name (K := K) hI hh3.tail hg.nm.1 hg.nm.2 ?_
  clear hI
  intro H hI
  tm_at "go"
  refine' ap_Line_over (K := K) hI ?_
  clear hI
  intro H hI
  tm_at "go"
  refine g_sl_l hI (by tm_at "sq") ?_
  clear hI
  intro sl H hI
  replace hI : Is B M ((sl, .lst ((rs.map stT).map V.str)) :: (stl, .lst []) :: (rw_, .lst ((("style " ++ nm) :: rs.map stT).map V.str)) :: L) H := by
    have e : cutV ((("style " ++ nm) :: rs.map stT).map V.str) (some 1) none = (rs.map stT).map V.str := cutV_drop (j := 1)
    rw [← e]
    exact hI
  replace hI := hI.forget (L' := (sl, .lst ((rs.map stT).map V.str)) :: (stl, .lst []) :: L) (by tm_at "sub")
  replace hI := hI.perm (L' := (stl, .lst []) :: (sl, .lst ((rs.map stT).map V.str)) :: L) (List.Perm.swap _ _ _)
  tm_at "go"
  refine' g_aFor (walk_enum (xs := (rs.map stT).map V.str)) (fun i σ H => ∃ (s3 s5 s6 s7 s8 : Option V) (B1 : Hp) (xs : List V), σ = [some (.str (stxt nm rs)), some (.ref rw_), some (.ref stl), s3, some (.str nm), s5, s6, s7, s8] ∧ Same B B1 ∧ Is B1 M ((stl, .lst xs) :: (sl, .lst ((rs.map stT).map V.str)) :: L) H ∧ StepsB B1 xs (rs.take i))
    ⟨_, _, _, _, _, B, [], rfl, fun _ _ e => e, hI, .nil⟩ (fun i σ H _ ⟨_, _, _, _, _, _, _, _, _, hI, _⟩ => SqL.of (hI.get (by tm_at "mem"))) ?_ ?_
  · rintro i y σ H H' hi ⟨s3, s5, s6, s7, s8, B1, xs, rfl, t1, hI, hxs⟩ ⟨T, x1, x2, rfl, hT, rfl, e1, e2⟩
    have hi : i < rs.length := by rw [List.length_map, List.length_map] at hi; exact hi
    obtain ⟨r, hr⟩ : ∃ r, rs[i]? = some r := ⟨_, List.getElem?_eq_getElem hi⟩
    have hrow := hg.row r (List.mem_of_getElem? hr)
    have e2 : ((rs.map stT).map V.str)[i]? = some x2 := e2
    rw [List.getElem?_map, List.getElem?_map, hr] at e2
    cases e2
    cases e1
    have hxl := hxs.len
    rw [List.length_take] at hxl
    replace hI := (hI.new (o := .tup [.int (i : Int), .str (stT r)]) hT)
    obtain ⟨⟨kk, hkk⟩, g1, g2, g3, g4⟩ := id hrow
    have hwd := hrow.wds
    tm_at "go"
    refine' ap_Line_init (K := K) hI (hrow.shT.plain (by decide)) hrow.words ?_
    clear hI
    intro lw2 H hI
    refine ⟨rfl, ?_⟩
    tm_at "go"
    refine g_dec (fun _ => ?_) (fun h => absurd (by omega) h)
    tm_at "go"
    refine' ap_Line_ahead (K := K) hI hwd ?_
    clear hI
    intro H hI
    tm_at "go"
    refine' ap_kind_of (K := K) (z := r.1) hkk ?_
    tm_at "go"
    rw [show (!decide (V.str kk = V.non)) = true from rfl]
    refine' ap_Line_take (K := K) hI ?_
    clear hI
    intro H hI
    tm_at "go"
    refine' ap_Line_take_number (K := K) hI hwd.tail (by omega) (by omega) g1 g2 ?_
    clear hI
    intro H hI
    tm_at "go"
    refine' ap_Line_take_number (K := K) hI hwd.tail.tail (by omega) (by omega) g3 g4 ?_
    clear hI
    intro H hI
    tm_at "go"
    obtain ⟨tp, rfl⟩ : ∃ q, q = p := ⟨_, rfl⟩
    refine' hI.give (a := tp) (by tm_at "del") ?_
    clear hI
    intro B2 t2 htp hI
    refine' ap_Line_over (K := K) (t := 0 + 1 + 1 + 1) hI ?_
    clear hI
    intro H hI
    exact ⟨_, _, _, _, _, B2, _, rfl, t1.trans t2, hI.forget (by tm_at "sub"), by rw [take_snocI hr]; exact (StepsB.same hxs t2).snoc ⟨tp, rfl, htp⟩⟩
  · rintro σ H ⟨s3, s5, s6, s7, s8, B1, xs, rfl, t1, hI, hxs⟩
    rw [List.take_of_length_le (by rw [List.length_map, List.length_map]; exact Nat.le_refl _)] at hxs
    replace hI := hI.forget (L' := (stl, .lst xs) :: L) (by tm_at "sub")
    obtain ⟨nn, hnn, hsh⟩ := shn_steps rs hg.row
    tm_at "go"
    refine g_eq_d (.lst (by tm_at "sq") (dp_steps hI.ex hxs)) (.lst (xs := []) (by tm_at "sq") .nil) (Shn.shaped (.lst hsh) (by decide)) rfl ?_
    rw [eqv_lst_nil, List.isEmpty_map]
    replace hI := hI.forget (L' := (stl, .lst xs) :: L) (by tm_at "sub")
    tm_at "go"
    refine g_b (fun he => ?_) (fun _ => ?_)
    · have := List.isEmpty_iff.mp he
      rw [this] at hl0
      simp at hl0
    · tm_at "go"
      obtain ⟨x1, rfl⟩ : ∃ q, q = x := ⟨_, rfl⟩
      refine' ap_Style_init (K := K) hI hxs hg ?_
      clear hI
      intro B2 H s2 hI hS
      refine ⟨rfl, ?_⟩
      exact q x1 B2 _ (t1.trans s2) (hI.forget (by tm_at "sub")) hS
theorem GoodJ.parts {j : JobT} (g : GoodJ j) : ∀ p ∈ jobL j, 32 ∉ TL.tl p ∧ TL.tl p ≠ [] := by
  obtain ⟨t, g1, g2, g3, g4, g5, g6⟩ := g
  intro p hp
  unfold jobL at hp
  rcases List.mem_append.mp hp with hp | hp
  · simp only [List.mem_cons, List.not_mem_nil, or_false] at hp
    rcases hp with rfl | rfl | rfl | rfl | rfl
    · exact ⟨by decide +kernel, by decide +kernel⟩
    · exact ⟨num_free (by omega) (by decide), num_ne (by omega)⟩
    · exact ⟨name_free t.nm.1 (by decide), name_ne t.nm.1⟩
    · exact ⟨num_free (by omega) (by decide), num_ne (by omega)⟩
    · exact ⟨num_free (by omega) (by decide), num_ne (by omega)⟩
  · split at hp
    · rw [List.mem_singleton.mp hp]
      exact ⟨by decide +kernel, by decide +kernel⟩
    · cases hp
theorem jobL_len (j : JobT) : (jobL j).length ≤ 6 := by
  unfold jobL
  rw [List.length_append]
  split <;> simp
theorem GoodJ.words {j : JobT} (g : GoodJ j) : wordsV (.str (jtxt j)) = some (jobL j) := words_join (by unfold jobL; simp) g.parts
theorem GoodJ.wds {j : JobT} (g : GoodJ j) : Wds (jobL j) := ⟨by have := jobL_len j; omega, fun p hp => (g.shAll p hp).mono (by decide)⟩
theorem GoodJ.plain {j : JobT} (g : GoodJ j) : plainS (jtxt j) := (sh_joinE sh_bl g.shAll (jobL_len j) (by decide)).plain (by decide)
def sp_read_job (K : PySem.W.Frag) : Sp := fun vs H Q _ => vs.length = 2 ∧ ∃ (st : Addr) (j : JobT) (B : Hp) (M L : List (Addr × HO)), vs = [.ref st, .str (jtxt j)] ∧ Is B M L H ∧ StyleAt K B st j.nm j.rs ∧ GoodJ j ∧ ∀ x B' H', Same B B' → Is B' M L H' → JobAt K B' x j → Q (.ref x) H'
theorem ap_read_job {K : PySem.W.Frag} {H : Hp} {Q : VK} {E : XK} {st : Addr} {j : JobT} {B : Hp} {M L : List (Addr × HO)} (I : Is B M L H) (h : StyleAt K B st j.nm j.rs) (hg : GoodJ j) (q : ∀ x B' H', Same B B' → Is B' M L H' → JobAt K B' x j → Q (.ref x) H') : sp_read_job K [.ref st, .str (jtxt j)] H Q E := ⟨rfl, st, j, B, M, L, rfl, I, h, hg, q⟩
abbrev t_read_job_0 (K : PySem.W.Frag) : TS := (tRet (tMk (He.ga K "Job") 2 3 (sp_Job_init K) (fun vs zs => pick .non [0, 1, 2, 3, 4, 5] (vs ++ (zs ++ [.int 0, .non, .bl false]))) E0 (tCons (tVar 3) (tCons (tVar 0) tNil)) (tCons (tVar 4) (tCons (tVar 5) (tCons (tVar 6) tNil)))))
abbrev t_read_job_1 (K : PySem.W.Frag) : TS := (tSeq (tDrop (tMe (He.ga K "Line") "over" 0 0 (sp_Line_over K) (fun vs zs => pick .non [0] (vs ++ zs)) E0 (tVar 2) tNil tNil)) (t_read_job_0 K))
abbrev t_read_job_2 (K : PySem.W.Frag) : TS := (tSeq (tIfS (tTr K (tVar 6)) (tDrop (tMe (He.ga K "Line") "take" 1 0 (sp_Line_take K) (fun vs zs => pick .non [0, 1] (vs ++ zs)) E0 (tVar 2) (tCons (tC (.bl true)) tNil) tNil)) tNext) (t_read_job_1 K))
abbrev t_read_job_3 (K : PySem.W.Frag) : TS := (tSeq (tAsg (tOp (rEqA K) (tMe (He.ga K "Line") "ahead" 0 0 (sp_Line_ahead K) (fun vs zs => pick .non [0] (vs ++ zs)) E0 (tVar 2) tNil tNil) (tC (.str "haste"))) (gName 6)) (t_read_job_2 K))
abbrev t_read_job_4 (K : PySem.W.Frag) : TS := (tSeq (tAsg (tMe (He.ga K "Line") "take_number" 2 0 (sp_Line_take_number K) (fun vs zs => pick .non [0, 1, 2] (vs ++ zs)) E0 (tVar 2) (tCons (tVar 4) (tCons (tC (.int 1000000)) tNil)) tNil) (gName 5)) (t_read_job_3 K))
abbrev t_read_job_5 (K : PySem.W.Frag) : TS := (tSeq (tAsg (tMe (He.ga K "Line") "take_number" 2 0 (sp_Line_take_number K) (fun vs zs => pick .non [0, 1, 2] (vs ++ zs)) E0 (tVar 2) (tCons (tC (.int 0)) (tCons (tC (.int 1000000)) tNil)) tNil) (gName 4)) (t_read_job_4 K))
abbrev t_read_job_6 (K : PySem.W.Frag) : TS := (tSeq (tDrop (tMe (He.ga K "Line") "take_word" 1 0 (sp_Line_take_word K) (fun vs zs => pick .non [0, 1] (vs ++ zs)) E0 (tVar 2) (tCons (tMe (He.ga K "Style") "named" 0 0 (sp_Style_named K) (fun vs zs => pick .non [0] (vs ++ zs)) E0 (tVar 0) tNil tNil) tNil) tNil)) (t_read_job_5 K))
abbrev t_read_job_7 (K : PySem.W.Frag) : TS := (tSeq (tAsg (tMe (He.ga K "Line") "take_number" 2 0 (sp_Line_take_number K) (fun vs zs => pick .non [0, 1, 2] (vs ++ zs)) E0 (tVar 2) (tCons (tC (.int 1)) (tCons (tC (.int 99999)) tNil)) tNil) (gName 3)) (t_read_job_6 K))
abbrev t_read_job_8 (K : PySem.W.Frag) : TS := (tSeq (tDrop (tMe (He.ga K "Line") "take_word" 1 0 (sp_Line_take_word K) (fun vs zs => pick .non [0, 1] (vs ++ zs)) E0 (tVar 2) (tCons (tC (.str "job")) tNil) tNil)) (t_read_job_7 K))
abbrev t_read_job_9 (K : PySem.W.Frag) : TS := (tSeq (tAsg (tMk (He.ga K "Line") 2 0 (sp_Line_init K) (fun vs zs => pick .non [0, 1, 2] (vs ++ zs)) E0 (tCons (tVar 1) (tCons (tC (.int 1)) tNil)) tNil) (gName 2)) (t_read_job_8 K))
def t_read_job (K : PySem.W.Frag) : TS := (tSeq (tIfS (tNot (tTr K (tCB (rIsi K) (tCons (tVar 1) (tCons (tC (.ty "str")) tNil))))) tNoS tNext) (t_read_job_9 K))
theorem rd_read_job {K : PySem.W.Frag} (vs : List V) (H : Hp) (Q : VK) (E : XK) (h : sp_read_job K vs H Q E) : t_read_job K { nx := fun _ H' => Q .non H', rt := Q } (start ["style", "text", "line", "number", "brought", "due", "haste"] vs) H := by
  obtain ⟨_, st, j, B, M, L, rfl, hI, hS, hg, q⟩ := h
  show t_read_job K ⟨_, _, _, _⟩ [some (.ref st), some (.str (jtxt j)), none, none, none, none, none] H
  obtain ⟨ds, cr, xs0, i1, _⟩ := hS.ex
  obtain ⟨gt, g1, g2, g3, g4, g5, g6⟩ := id hg
  have hx : Thing K H (.str (jtxt j)) .str := thing_str hg.plain
  have hwd := hg.wds
  obtain ⟨hst, hhst⟩ : ∃ l : List Str, l = if j.q = true then [("haste" : Str)] else [] := ⟨_, rfl⟩
  have ej : jobL j = ("job" : Str) :: numT j.n :: j.nm :: numT j.c :: numT j.w :: hst := by
    unfold jobL
    rw [← hhst]
    rfl
  have hwords := hg.words
  rw [ej] at hwords hwd
  unfold t_read_job
  tm_at "go"
  refine' ap_Line_init (K := K) hI hg.plain hwords ?_
  clear hI
  intro lw H hI
  refine ⟨rfl, ?_⟩
  tm_at "go"
  refine' ap_Line_take_word (K := K) hI hwd ?_
  clear hI
  intro H hI
  tm_at "go"
  refine' ap_Line_take_number (K := K) hI hwd.tail (by omega) (by omega) g1 g2 ?_
  clear hI
  intro H hI
  tm_at "go"
  refine' ap_Style_named (K := K) hI hS ?_
  tm_at "go"
  refine' ap_Line_take_word (K := K) hI hwd.tail.tail ?_
  clear hI
  intro H hI
  tm_at "go"
  refine' ap_Line_take_number (K := K) hI hwd.tail.tail.tail (by omega) (by omega) g3 g4 ?_
  clear hI
  intro H hI
  tm_at "go"
  refine' ap_Line_take_number (K := K) hI hwd.tail.tail.tail.tail (by omega) (by omega) g5 g6 ?_
  clear hI
  intro H hI
  tm_at "go"
  refine' ap_Line_ahead (K := K) hI hwd.tail.tail.tail.tail.tail ?_
  clear hI
  intro H hI
  tm_at "go"
  have fin : ∀ (H : Hp) (t : Int), Is B M (lnO K x dx lw 1 t [] L) H → t_read_job_1 K { nx := fun _ H' => Q .non H', rt := Q } [some (.ref st), some (.str (jtxt j)), some (.ref x), some (.int j.n), some (.int j.c), some (.int j.w), some (.bl j.q)] H := by
    intro H t hI
    tm_at "go"
    refine' ap_Line_over (K := K) hI ?_
    clear hI
    intro H hI
    tm_at "go"
    rename_i x2 dx2 _
    refine' ap_Job_init (K := K) j hI hS hg ?_
    clear hI
    intro B2 H s2 hI hJ
    refine ⟨rfl, ?_⟩
    exact q _ B2 _ s2 hI hJ
  cases hq : j.q with
  | true =>
    rw [hq] at hhst
    have : hst = [("haste" : Str)] := hhst
    subst this
    rw [hq] at fin
    rw [show decide (V.str (([("haste" : Str)] : List Str).headD "") = V.str "haste") = true from decide_eq_true rfl]
    tm_at "stop"
    refine g_true ?_
    tm_at "go"
    refine' ap_Line_take (K := K) hI ?_
    clear hI
    intro H hI
    exact fin _ _ hI
  | false =>
    rw [hq] at hhst
    have : hst = [] := hhst
    subst this
    rw [hq] at fin
    rw [show decide (V.str (([] : List Str).headD "") = V.str "haste") = false from by decide +kernel]
    tm_at "stop"
    refine g_false ?_
    refine g_next ?_
    exact fin _ _ hI
/-! a round -/
theorem RowOk.words {r : Row} (h : RowOk r) : wordsV (.str (rowT r)) = some [numT r.1, r.2.1, numT r.2.2] := by
  rw [rowT_join]
  refine words_join (by simp) fun p hp => ⟨h.parts (c := 32) (by omega) p hp, ?_⟩
  simp only [List.mem_cons, List.not_mem_nil, or_false] at hp
  rcases hp with rfl | rfl | rfl
  · exact num_ne h.c
  · exact name_ne h.s
  · exact num_ne h.w
theorem round_join (span : Int) : headT span = Txt.join " " [("round" : Str), numT span] := by
  unfold headT
  apply tlInj
  rw [TL.join_eq, TL.tl_join, TL.tl_append]
  simp only [List.map_cons, List.map_nil, TL.joinL]
  rw [← List.append_assoc]
  congr 1
theorem head_words {span : Int} (h : 0 ≤ span) : wordsV (.str (headT span)) = some [("round" : Str), numT span] := by
  rw [round_join]
  refine words_join (by simp) fun p hp => ?_
  simp only [List.mem_cons, List.not_mem_nil, or_false] at hp
  rcases hp with rfl | rfl
  · exact ⟨by decide +kernel, by decide +kernel⟩
  · exact ⟨num_free h (by decide), num_ne h⟩
theorem GoodR.nls {span : Int} {rs : List Row} (g : GoodR span rs) : ∀ p ∈ headT span :: rs.map rowT, 10 ∉ TL.tl p := by
  intro p hp
  have := g.s0
  rcases List.mem_cons.mp hp with rfl | hp
  · exact headT_nl (by omega)
  · obtain ⟨r, hr, rfl⟩ := List.mem_map.mp hp
    exact rowT_nl (g.ok hr)
theorem GoodR.plainE {span : Int} {rs : List Row} (g : GoodR span rs) : plainS (rtxt span rs) := by
  refine (sh_joinE sh_nl (k := 46) (m := 13) (fun z hz => ?_) (by rw [List.length_cons, List.length_map]; have := g.len; omega) (by decide)).plain (by decide)
  rcases List.mem_cons.mp hz with rfl | hz
  · exact g.shHead.mono (by decide)
  · obtain ⟨r, hr, rfl⟩ := List.mem_map.mp hz
    exact g.shRow hr
def sp_read_round (K : PySem.W.Frag) : Sp := fun vs H Q _ => vs.length = 1 ∧ ∃ (span : Int) (rs : List Row) (B : Hp) (M L : List (Addr × HO)), vs = [.str (rtxt span rs)] ∧ Is B M L H ∧ GoodR span rs ∧ ∀ x B' H', Same B B' → Is B' M L H' → RoundAt K B' x span rs → Q (.ref x) H'
theorem ap_read_round {K : PySem.W.Frag} {H : Hp} {Q : VK} {E : XK} {span : Int} {rs : List Row} {B : Hp} {M L : List (Addr × HO)} (I : Is B M L H) (h : GoodR span rs) (q : ∀ x B' H', Same B B' → Is B' M L H' → RoundAt K B' x span rs → Q (.ref x) H') : sp_read_round K [.str (rtxt span rs)] H Q E := ⟨rfl, span, rs, B, M, L, rfl, I, h, q⟩
abbrev t_read_round_0 (K : PySem.W.Frag) : TS := (tDrop (tMe (He.ga K "Line") "over" 0 0 (sp_Line_over K) (fun vs zs => pick .non [0] (vs ++ zs)) E0 (tVar 4) tNil tNil))
abbrev t_read_round_1 (K : PySem.W.Frag) : TS := (tSeq (tDrop (tBM K "list" rAppend (tVar 2) (tCons (tTup (tCons (tVar 8) (tCons (tVar 9) (tCons (tMe (He.ga K "Line") "take_number" 2 0 (sp_Line_take_number K) (fun vs zs => pick .non [0, 1, 2] (vs ++ zs)) E0 (tVar 4) (tCons (tC (.int 1)) (tCons (tC (.int 1000)) tNil)) tNil) tNil)))) tNil))) (t_read_round_0 K))
abbrev t_read_round_2 (K : PySem.W.Frag) : TS := (tSeq (tAsg (tMe (He.ga K "Line") "take_name" 0 0 (sp_Line_take_name K) (fun vs zs => pick .non [0] (vs ++ zs)) E0 (tVar 4) tNil tNil) (gName 9)) (t_read_round_1 K))
abbrev t_read_round_3 (K : PySem.W.Frag) : TS := (tSeq (tAsg (tVar 8) (gName 3)) (t_read_round_2 K))
abbrev t_read_round_4 (K : PySem.W.Frag) : TS := (tSeq (tDrop (tMe (He.ga K "Line") "take" 1 0 (sp_Line_take K) (fun vs zs => pick .non [0, 1] (vs ++ zs)) E0 (tVar 4) (tCons (tAndV (tOp (rI0 fun i j => .bl (decide (i < j))) (tVar 6) (tC (.int 12))) (tAndV (tOp rNoNo (tVar 8) (tC .non)) (tChain (rI0 fun i j => .bl (decide (i ≤ j))) (rI0 fun i j => .bl (decide (i < j))) (tVar 3) (tVar 8) (tVar 5)))) tNil) tNil)) (t_read_round_3 K))
abbrev t_read_round_5 (K : PySem.W.Frag) : TS := (tSeq (tAsg (tCl 1 0 (sp_number_of K) (fun vs zs => pick .non [0] (vs ++ zs)) E0 (tCons (tMe (He.ga K "Line") "ahead" 0 0 (sp_Line_ahead K) (fun vs zs => pick .non [0] (vs ++ zs)) E0 (tVar 4) tNil tNil) tNil) tNil) (gName 8)) (t_read_round_4 K))
abbrev t_read_round_6 (K : PySem.W.Frag) : TS := (tSeq (tAsg (tMk (He.ga K "Line") 2 0 (sp_Line_init K) (fun vs zs => pick .non [0, 1, 2] (vs ++ zs)) E0 (tCons (tVar 7) (tCons (tOp (rAddA K) (tVar 6) (tC (.int 2))) tNil)) tNil) (gName 4)) (t_read_round_5 K))
abbrev t_read_round_7 (K : PySem.W.Frag) : TS := (tRet (tMk (He.ga K "Round") 1 1 (sp_Round_init K) (fun vs zs => pick .non [0, 1, 2] (vs ++ (zs ++ [.non]))) E0 (tCons (tVar 5) tNil) (tCons (tVar 2) tNil)))
abbrev t_read_round_8 (K : PySem.W.Frag) : TS := (tSeq (tFor (iEnumA K (tCons (tSl (rSlA K) (tVar 1) (tPart (tC (.int 1))) tNoPart) tNil)) (gTup K 2 (gCons (gName 6) (gCons (gName 7) gNil))) (t_read_round_6 K)) (t_read_round_7 K))
abbrev t_read_round_9 (K : PySem.W.Frag) : TS := (tSeq (tDrop (tMe (He.ga K "Line") "over" 0 0 (sp_Line_over K) (fun vs zs => pick .non [0] (vs ++ zs)) E0 (tVar 4) tNil tNil)) (t_read_round_8 K))
abbrev t_read_round_10 (K : PySem.W.Frag) : TS := (tSeq (tAsg (tMe (He.ga K "Line") "take_number" 2 0 (sp_Line_take_number K) (fun vs zs => pick .non [0, 1, 2] (vs ++ zs)) E0 (tVar 4) (tCons (tC (.int 1)) (tCons (tC (.int 1000)) tNil)) tNil) (gName 5)) (t_read_round_9 K))
abbrev t_read_round_11 (K : PySem.W.Frag) : TS := (tSeq (tDrop (tMe (He.ga K "Line") "take_word" 1 0 (sp_Line_take_word K) (fun vs zs => pick .non [0, 1] (vs ++ zs)) E0 (tVar 4) (tCons (tC (.str "round")) tNil) tNil)) (t_read_round_10 K))
abbrev t_read_round_12 (K : PySem.W.Frag) : TS := (tSeq (tAsg (tMk (He.ga K "Line") 2 0 (sp_Line_init K) (fun vs zs => pick .non [0, 1, 2] (vs ++ zs)) E0 (tCons (tOp (rIx K) (tVar 1) (tC (.int 0))) (tCons (tC (.int 1)) tNil)) tNil) (gName 4)) (t_read_round_11 K))
def t_read_round (K : PySem.W.Frag) : TS := (tSeq (tPar3 1 2 3 (tCons (tCl 1 0 (sp_rows_of K) (fun vs zs => pick .non [0] (vs ++ zs)) E0 (tCons (tVar 0) tNil) tNil) (tCons (tLst tNil) (tCons (tC (.int 0)) tNil)))) (t_read_round_12 K))
theorem rd_read_round {K : PySem.W.Frag} (vs : List V) (H : Hp) (Q : VK) (E : XK) (h : sp_read_round K vs H Q E) : t_read_round K { nx := fun _ H' => Q .non H', rt := Q } (start ["text", "rows", "calls", "least", "line", "length", "k", "row", "word", "name"] vs) H := by
  obtain ⟨_, span, rs, B, M, L, rfl, hI, hg, q⟩ := h
  show t_read_round K ⟨_, _, _, _⟩ [some (.str (rtxt span rs)), none, none, none, none, none, none, none, none, none] H
  have hl1 := hg.len
  have hs0 := hg.s0
  have hs1 := hg.s1
  have hh3 : Wds [("round" : Str), numT span] := by
    refine ⟨by simp, fun p hp => ?_⟩
    simp only [List.mem_cons, List.not_mem_nil, or_false] at hp
    rcases hp with rfl | rfl
    · exact (show Sh 5 ("round" : Str) from Sh.lit (by decide +kernel)).mono (by decide)
    · exact (numT_sh (by omega) (by omega)).mono (by decide)
  unfold t_read_round
  tm_at "go"
  refine' ap_rows_of (K := K) hI (by simp) hg.nls hg.plainE ?_
  clear hI
  intro rw_ H hI
  tm_at "go"
  obtain ⟨stl, rfl⟩ : ∃ q, q = p := ⟨_, rfl⟩
  refine g_ix_l (by tm_at "sq") (atI_of (by decide) rfl) ?_
  tm_at "go"
  refine' ap_Line_init (K := K) hI (hg.shHead.plain (by decide)) (head_words (by omega)) ?_
  clear hI
  intro lw H hI
  refine ⟨rfl, ?_⟩
  tm_at "go"
  refine' ap_Line_take_word (K := K) hI hh3 ?_
  clear hI
  intro H hI
  tm_at "go"
  refine' ap_Line_take_number (K := K) hI hh3.tail (by omega) (by omega) hs0 hs1 ?_
  clear hI
  intro H hI
  tm_at "go"
  refine' ap_Line_over (K := K) hI ?_
  clear hI
  intro H hI
  tm_at "go"
  refine g_sl_l hI (by tm_at "sq") ?_
  clear hI
  intro sl H hI
  replace hI : Is B M ((sl, .lst ((rs.map rowT).map V.str)) :: (stl, .lst []) :: (rw_, .lst ((headT span :: rs.map rowT).map V.str)) :: L) H := by
    have e : cutV ((headT span :: rs.map rowT).map V.str) (some 1) none = (rs.map rowT).map V.str := cutV_drop (j := 1)
    rw [← e]
    exact hI
  replace hI := hI.forget (L' := (sl, .lst ((rs.map rowT).map V.str)) :: (stl, .lst []) :: L) (by tm_at "sub")
  replace hI := hI.perm (L' := (stl, .lst []) :: (sl, .lst ((rs.map rowT).map V.str)) :: L) (List.Perm.swap _ _ _)
  tm_at "go"
  refine' g_aFor (walk_enum (xs := (rs.map rowT).map V.str)) (fun i σ H => ∃ (le : Int) (s4 s6 s7 s8 s9 : Option V) (B1 : Hp) (xs : List V), σ = [some (.str (rtxt span rs)), some (.ref rw_), some (.ref stl), some (.int le), s4, some (.int span), s6, s7, s8, s9] ∧ Same B B1 ∧ Is B1 M ((stl, .lst xs) :: (sl, .lst ((rs.map rowT).map V.str)) :: L) H ∧ RowsB B1 xs (rs.take i) ∧ ∀ r, rs[i]? = some r → le ≤ r.1)
    ⟨0, _, _, _, _, _, B, [], rfl, fun _ _ e => e, hI, .nil, fun r hr => (hg.row r (List.mem_of_getElem? hr)).1⟩ (fun i σ H _ ⟨_, _, _, _, _, _, _, _, _, _, hI, _⟩ => SqL.of (hI.get (by tm_at "mem"))) ?_ ?_
  · rintro i y σ H H' hi ⟨le, s4, s6, s7, s8, s9, B1, xs, rfl, t1, hI, hxs, hle⟩ ⟨T, x1, x2, rfl, hT, rfl, e1, e2⟩
    have hi : i < rs.length := by rw [List.length_map, List.length_map] at hi; exact hi
    obtain ⟨⟨c, s, w⟩, hr⟩ : ∃ r, rs[i]? = some r := ⟨_, List.getElem?_eq_getElem hi⟩
    have hrow := hg.row _ (List.mem_of_getElem? hr)
    have hok := hg.ok (List.mem_of_getElem? hr)
    have hle := hle _ hr
    have e2 : ((rs.map rowT).map V.str)[i]? = some x2 := e2
    rw [List.getElem?_map, List.getElem?_map, hr] at e2
    cases e2
    cases e1
    have hxl := hxs.len
    rw [List.length_take] at hxl
    replace hI := (hI.new (o := .tup [.int (i : Int), .str (rowT (c, s, w))]) hT)
    obtain ⟨q1, q2, q3, q4, q5, q6⟩ := id hrow
    have q1 : 0 ≤ c := q1
    have q2 : c < span := q2
    have q5 : 1 ≤ w := q5
    have q6 : w ≤ 1000 := q6
    have hle : le ≤ c := hle
    obtain ⟨k1, k2, k3⟩ := hg.sh (List.mem_of_getElem? hr)
    have hwd : Wds [numT c, s, numT w] := by
      refine ⟨by simp, fun p hp => ?_⟩
      simp only [List.mem_cons, List.not_mem_nil, or_false] at hp
      rcases hp with rfl | rfl | rfl
      · exact k1.mono (by decide)
      · exact k2.mono (by decide)
      · exact k3.mono (by decide)
    tm_at "go"
    refine' ap_Line_init (K := K) hI ((hg.shRow (List.mem_of_getElem? hr)).plain (by decide)) hok.words ?_
    clear hI
    intro lw2 H hI
    refine ⟨rfl, ?_⟩
    tm_at "go"
    refine' ap_Line_ahead (K := K) hI hwd ?_
    clear hI
    intro H hI
    tm_at "go"
    refine' ap_number_of (K := K) (i := c) hI q1 (by omega) ?_
    clear hI
    intro H hI
    tm_at "go"
    refine g_dec (fun _ => ?_) (fun h => absurd (by omega) h)
    tm_at "go"
    refine g_ndec (fun _ => ?_) (fun h => by cases h)
    tm_at "go"
    refine g_dec (fun _ => ?_) (fun h => absurd hle h)
    tm_at "go"
    rw [show decide (c < span) = true from decide_eq_true q2]
    refine' ap_Line_take (K := K) hI ?_
    clear hI
    intro H hI
    tm_at "go"
    refine' ap_Line_take_name (K := K) hI hwd.tail q3 q4 ?_
    clear hI
    intro H hI
    tm_at "go"
    refine' ap_Line_take_number (K := K) hI hwd.tail.tail (by omega) (by omega) q5 q6 ?_
    clear hI
    intro H hI
    tm_at "go"
    obtain ⟨tp, rfl⟩ : ∃ q, q = p := ⟨_, rfl⟩
    refine' hI.give (a := tp) (by tm_at "del") ?_
    clear hI
    intro B2 t2 htp hI
    refine' ap_Line_over (K := K) (t := 0 + 1 + 1 + 1) hI ?_
    clear hI
    intro H hI
    refine ⟨c, _, _, _, _, _, B2, _, rfl, t1.trans t2, hI.forget (by tm_at "sub"), by rw [take_snocI hr]; exact (hxs.same t2).snoc htp, fun ⟨c', s', w'⟩ hr' => hg.up _ _ _ _ _ _ _ hr hr'⟩
  · rintro σ H ⟨le, s4, s6, s7, s8, s9, B1, xs, rfl, t1, hI, hxs, _⟩
    rw [List.take_of_length_le (by rw [List.length_map, List.length_map]; exact Nat.le_refl _)] at hxs
    tm_at "go"
    obtain ⟨x1, rfl⟩ : ∃ q, q = x := ⟨_, rfl⟩
    refine' ap_Round_initH (K := K) hI (.inr (.inl ⟨stl, rfl, List.mem_cons_self⟩)) hxs hg ?_
    clear hI
    intro B2 H s2 hI hR
    refine ⟨rfl, ?_⟩
    exact q x1 B2 _ (t1.trans s2) (hI.forget (by tm_at "sub")) hR
/-! ### what is drawn, plain -/
structure PlainS (B : Hp) (p : Addr) (nm : Str) (rs : List StepT) : Prop where
  ex : ∃ (a : Addr) (xs : List V), B p = some (.tup [.str nm, .ref a]) ∧ B a = some (.lst xs) ∧ StepsB B xs rs
  good : GoodT nm rs
theorem PlainS.same {B B' : Hp} {p : Addr} {nm : Str} {rs : List StepT} (h : PlainS B p nm rs) (e : Same B B') : PlainS B' p nm rs := by
  obtain ⟨⟨a, xs, h1, h2, h3⟩, g⟩ := h
  exact ⟨⟨a, xs, e _ _ h1, e _ _ h2, h3.same e⟩, g⟩
structure PlainJ (B : Hp) (p : Addr) (j : JobT) : Prop where
  ex : ∃ s : Addr, B p = some (.tup [.int j.n, .ref s, .int j.c, .int j.w, .bl j.q]) ∧ PlainS B s j.nm j.rs
  good : GoodJ j
theorem PlainJ.same {B B' : Hp} {p : Addr} {j : JobT} (h : PlainJ B p j) (e : Same B B') : PlainJ B' p j := by
  obtain ⟨⟨s, h1, h2⟩, g⟩ := h
  exact ⟨⟨s, e _ _ h1, h2.same e⟩, g⟩
structure PlainR (B : Hp) (p : Addr) (span : Int) (rs : List Row) : Prop where
  ex : ∃ (a : Addr) (xs : List V), B p = some (.tup [.int span, .ref a]) ∧ B a = some (.lst xs) ∧ RowsB B xs rs
  good : GoodR span rs
theorem PlainR.same {B B' : Hp} {p : Addr} {span : Int} {rs : List Row} (h : PlainR B p span rs) (e : Same B B') : PlainR B' p span rs := by
  obtain ⟨⟨a, xs, h1, h2, h3⟩, g⟩ := h
  exact ⟨⟨a, xs, e _ _ h1, e _ _ h2, h3.same e⟩, g⟩
def sp_law_style (K : PySem.W.Frag) : Sp := fun vs H Q _ => vs.length = 1 ∧ ∃ (p : Addr) (nm : Str) (rs : List StepT) (B : Hp) (M L : List (Addr × HO)), vs = [.ref p] ∧ Is B M L H ∧ PlainS B p nm rs ∧ ∀ x B' H', Same B B' → Is B' M L H' → StyleAt K B' x nm rs → Q (.ref x) H'
theorem ap_law_style {K : PySem.W.Frag} {H : Hp} {Q : VK} {E : XK} {p : Addr} {nm : Str} {rs : List StepT} {B : Hp} {M L : List (Addr × HO)} (I : Is B M L H) (h : PlainS B p nm rs) (q : ∀ x B' H', Same B B' → Is B' M L H' → StyleAt K B' x nm rs → Q (.ref x) H') : sp_law_style K [.ref p] H Q E := ⟨rfl, p, nm, rs, B, M, L, rfl, I, h, q⟩
def t_law_style (K : PySem.W.Frag) : TS := (tRet (tMk (He.ga K "Style") 2 0 (sp_Style_init K) (fun vs zs => pick .non [0, 1, 2] (vs ++ zs)) E0 (tCons (tOp (rIx K) (tVar 0) (tC (.int 0))) (tCons (tCB (rListOf K) (tCons (tOp (rIx K) (tVar 0) (tC (.int 1))) tNil)) tNil)) tNil))
theorem rd_law_style {K : PySem.W.Frag} (vs : List V) (H : Hp) (Q : VK) (E : XK) (h : sp_law_style K vs H Q E) : t_law_style K { nx := fun _ H' => Q .non H', rt := Q } (start ["plain"] vs) H := by
  obtain ⟨_, pl, nm, rs, B, M, L, rfl, hI, hP, q⟩ := h
  show t_law_style K ⟨_, _, _, _⟩ [some (.ref pl)] H
  obtain ⟨⟨a, xs, h1, h2, h3⟩, hg⟩ := id hP
  unfold t_law_style
  tm_at "go"
  refine g_ix_t (by tm_at "st") (atI_of (by decide) rfl) ?_
  tm_at "go"
  refine g_ix_t (by tm_at "st") (atI_of (by decide) rfl) ?_
  tm_at "go"
  obtain ⟨x1, rfl⟩ : ∃ q, q = x := ⟨_, rfl⟩
  refine' ap_Style_init (K := K) hI h3 hg ?_
  clear hI
  intro B2 H s2 hI hS
  refine ⟨rfl, ?_⟩
  exact q x1 B2 _ s2 (hI.forget (by tm_at "sub")) hS
def sp_law_job (K : PySem.W.Frag) : Sp := fun vs H Q _ => vs.length = 1 ∧ ∃ (p : Addr) (j : JobT) (B : Hp) (M L : List (Addr × HO)), vs = [.ref p] ∧ Is B M L H ∧ PlainJ B p j ∧ ∀ x B' H', Same B B' → Is B' M L H' → JobAt K B' x j → Q (.ref x) H'
theorem ap_law_job {K : PySem.W.Frag} {H : Hp} {Q : VK} {E : XK} {p : Addr} {j : JobT} {B : Hp} {M L : List (Addr × HO)} (I : Is B M L H) (h : PlainJ B p j) (q : ∀ x B' H', Same B B' → Is B' M L H' → JobAt K B' x j → Q (.ref x) H') : sp_law_job K [.ref p] H Q E := ⟨rfl, p, j, B, M, L, rfl, I, h, q⟩
def t_law_job (K : PySem.W.Frag) : TS := (tRet (tMk (He.ga K "Job") 2 3 (sp_Job_init K) (fun vs zs => pick .non [0, 1, 2, 3, 4, 5] (vs ++ (zs ++ [.int 0, .non, .bl false]))) E0 (tCons (tOp (rIx K) (tVar 0) (tC (.int 0))) (tCons (tCl 1 0 (sp_law_style K) (fun vs zs => pick .non [0] (vs ++ zs)) E0 (tCons (tOp (rIx K) (tVar 0) (tC (.int 1))) tNil) tNil) tNil)) (tCons (tOp (rIx K) (tVar 0) (tC (.int 2))) (tCons (tOp (rIx K) (tVar 0) (tC (.int 3))) (tCons (tOp (rIx K) (tVar 0) (tC (.int 4))) tNil)))))
theorem rd_law_job {K : PySem.W.Frag} (vs : List V) (H : Hp) (Q : VK) (E : XK) (h : sp_law_job K vs H Q E) : t_law_job K { nx := fun _ H' => Q .non H', rt := Q } (start ["plain"] vs) H := by
  obtain ⟨_, pl, j, B, M, L, rfl, hI, hP, q⟩ := h
  show t_law_job K ⟨_, _, _, _⟩ [some (.ref pl)] H
  obtain ⟨⟨s, h1, h2⟩, hg⟩ := id hP
  unfold t_law_job
  tm_at "go"
  refine g_ix_t (by tm_at "st") (atI_of (by decide) rfl) ?_
  tm_at "go"
  refine g_ix_t (by tm_at "st") (atI_of (by decide) rfl) ?_
  tm_at "go"
  refine' ap_law_style (K := K) hI h2 ?_
  clear hI
  intro st B1 H s1 hI hS
  replace h1 := s1 _ _ h1
  tm_at "go"
  refine g_ix_t (by tm_at "st") (atI_of (by decide) rfl) ?_
  tm_at "go"
  refine g_ix_t (by tm_at "st") (atI_of (by decide) rfl) ?_
  tm_at "go"
  refine g_ix_t (by tm_at "st") (atI_of (by decide) rfl) ?_
  tm_at "go"
  obtain ⟨x1, rfl⟩ : ∃ q, q = x := ⟨_, rfl⟩
  refine' ap_Job_init (K := K) j hI hS hg ?_
  clear hI
  intro B2 H s2 hI hJ
  refine ⟨rfl, ?_⟩
  exact q x1 B2 _ (s1.trans s2) hI hJ
def sp_law_round (K : PySem.W.Frag) : Sp := fun vs H Q _ => vs.length = 1 ∧ ∃ (p : Addr) (span : Int) (rs : List Row) (B : Hp) (M L : List (Addr × HO)), vs = [.ref p] ∧ Is B M L H ∧ PlainR B p span rs ∧ ∀ x B' H', Same B B' → Is B' M L H' → RoundAt K B' x span rs → Q (.ref x) H'
theorem ap_law_round {K : PySem.W.Frag} {H : Hp} {Q : VK} {E : XK} {p : Addr} {span : Int} {rs : List Row} {B : Hp} {M L : List (Addr × HO)} (I : Is B M L H) (h : PlainR B p span rs) (q : ∀ x B' H', Same B B' → Is B' M L H' → RoundAt K B' x span rs → Q (.ref x) H') : sp_law_round K [.ref p] H Q E := ⟨rfl, p, span, rs, B, M, L, rfl, I, h, q⟩
def t_law_round (K : PySem.W.Frag) : TS := (tRet (tMk (He.ga K "Round") 1 1 (sp_Round_init K) (fun vs zs => pick .non [0, 1, 2] (vs ++ (zs ++ [.non]))) E0 (tCons (tOp (rIx K) (tVar 0) (tC (.int 0))) tNil) (tCons (tCB (rListOf K) (tCons (tOp (rIx K) (tVar 0) (tC (.int 1))) tNil)) tNil)))
theorem rd_law_round {K : PySem.W.Frag} (vs : List V) (H : Hp) (Q : VK) (E : XK) (h : sp_law_round K vs H Q E) : t_law_round K { nx := fun _ H' => Q .non H', rt := Q } (start ["plain"] vs) H := by
  obtain ⟨_, pl, span, rs, B, M, L, rfl, hI, hP, q⟩ := h
  show t_law_round K ⟨_, _, _, _⟩ [some (.ref pl)] H
  obtain ⟨⟨a, xs, h1, h2, h3⟩, hg⟩ := id hP
  unfold t_law_round
  tm_at "go"
  refine g_ix_t (by tm_at "st") (atI_of (by decide) rfl) ?_
  tm_at "go"
  refine g_ix_t (by tm_at "st") (atI_of (by decide) rfl) ?_
  tm_at "go"
  obtain ⟨x1, rfl⟩ : ∃ q, q = x := ⟨_, rfl⟩
  refine' ap_Round_initH (K := K) hI (.inr (.inl ⟨_, rfl, List.mem_cons_self⟩)) h3 hg ?_
  clear hI
  intro B2 H s2 hI hR
  refine ⟨rfl, ?_⟩
  exact q x1 B2 _ s2 (hI.forget (by tm_at "sub")) hR
/-! rows of texts -/
theorem stT_eq (r : StepT) : r.1 ++ " " ++ numT r.2.1 ++ " " ++ numT r.2.2 = stT r := by
  unfold stT
  rw [empty_app]
theorem rowT_eq (r : Row) : numT r.1 ++ " " ++ r.2.1 ++ " " ++ numT r.2.2 = rowT r := by
  unfold rowT
  rw [empty_app]
def sp_law_style_rows (K : PySem.W.Frag) : Sp := fun vs H Q _ => vs.length = 1 ∧ ∃ (p : Addr) (nm : Str) (rs : List StepT) (B : Hp) (M L : List (Addr × HO)), vs = [.ref p] ∧ Is B M L H ∧ PlainS B p nm rs ∧ ∀ l H', Is B M ((l, .lst ((("style " ++ nm) :: rs.map stT).map V.str)) :: L) H' → Q (.ref l) H'
theorem ap_law_style_rows {K : PySem.W.Frag} {H : Hp} {Q : VK} {E : XK} {p : Addr} {nm : Str} {rs : List StepT} {B : Hp} {M L : List (Addr × HO)} (I : Is B M L H) (h : PlainS B p nm rs) (q : ∀ l H', Is B M ((l, .lst ((("style " ++ nm) :: rs.map stT).map V.str)) :: L) H' → Q (.ref l) H') : sp_law_style_rows K [.ref p] H Q E := ⟨rfl, p, nm, rs, B, M, L, rfl, I, h, q⟩
def t_law_style_rows (K : PySem.W.Frag) : TS := (tRet (tOp (rAddA K) (tLst (tCons (tOp (rAddA K) (tC (.str "style ")) (tOp (rIx K) (tVar 0) (tC (.int 0)))) tNil)) (tLc (iAny K (tOp (rIx K) (tVar 0) (tC (.int 1)))) (gName 1) tYes (tOp (rAddA K) (tOp (rAddA K) (tOp (rAddA K) (tOp (rAddA K) (tOp (rIx K) (tVar 1) (tC (.int 0))) (tC (.str " "))) (tCB rStrI (tCons (tOp (rIx K) (tVar 1) (tC (.int 1))) tNil))) (tC (.str " "))) (tCB rStrI (tCons (tOp (rIx K) (tVar 1) (tC (.int 2))) tNil))) [1])))
theorem rd_law_style_rows {K : PySem.W.Frag} (vs : List V) (H : Hp) (Q : VK) (E : XK) (h : sp_law_style_rows K vs H Q E) : t_law_style_rows K { nx := fun _ H' => Q .non H', rt := Q } (start ["plain", "row"] vs) H := by
  obtain ⟨_, pl, nm, rs, B, M, L, rfl, hI, hP, q⟩ := h
  show t_law_style_rows K ⟨_, _, _, _⟩ [some (.ref pl), none] H
  obtain ⟨⟨a, xs, h1, h2, h3⟩, hg⟩ := id hP
  have hl := h3.len
  have hl1 := hg.l1
  unfold t_law_style_rows
  tm_at "go"
  refine g_ix_t (by tm_at "st") (atI_of (by decide) rfl) ?_
  refine g_add_sh sh_st (name_sh hg.nm.1 hg.nm.2) (by decide) fun _ => ?_
  tm_at "go"
  obtain ⟨p1, rfl⟩ : ∃ q, q = p := ⟨_, rfl⟩
  refine g_ix_t (by tm_at "st") (atI_of (by decide) rfl) ?_
  tm_at "go"
  refine' g_lcX (xs := xs) ((rs.map stT).map V.str) (by simp [hl]) walk_list hI (by tm_at "wiped") (by omega) (fun D acc H' I => SqL.of (I.b h2)) ?_ ?_
  · intro i x y D acc H' hx hy hI PY hPY
    obtain ⟨r, e, b, rfl, hb⟩ := h3.get hx
    have hrow := hg.row _ (List.mem_of_getElem? e)
    obtain ⟨k1, k2, k3⟩ := hrow.sh
    obtain ⟨_, w1, w2, w3, w4⟩ := hrow
    tm_at "go"
    refine' g_wiped (by tm_at "wiped") ?_
    tm_at "go"
    refine g_ix_t (by tm_at "st") (atI_of (by decide) rfl) ?_
    tm_at "go"
    refine g_add_sh k1 sh_bl (by decide) fun a1 => ?_
    tm_at "go"
    refine g_ix_t (by tm_at "st") (atI_of (by decide) rfl) ?_
    tm_at "go"
    refine' g_strI (k := 18) (by omega) (by decide) (by omega) fun _ => ?_
    refine g_add_sh a1 k2 (by decide) fun a2 => ?_
    tm_at "go"
    refine g_add_sh a2 sh_bl (by decide) fun a3 => ?_
    tm_at "go"
    refine g_ix_t (by tm_at "st") (atI_of (by decide) rfl) ?_
    tm_at "go"
    refine' g_strI (k := 18) (by omega) (by decide) (by omega) fun _ => ?_
    refine g_add_sh a3 k3 (by decide) fun a4 => ?_
    have ey : y = .str (stT r) := by
      rw [List.getElem?_map, List.getElem?_map, e] at hy
      exact (Option.some.inj hy).symm
    have er : r.1 ++ " " ++ Str.ofString (toString r.2.1) ++ " " ++ Str.ofString (toString r.2.2) = stT r := stT_eq r
    rw [ey, ← er] at hPY
    exact hPY _ hI
  clear hI
  intro D H hI
  tm_at "go"
  refine g_add_l hI (by tm_at "hp") (by tm_at "hp") (by simp only [List.length_map, List.length_cons, List.length_nil]; omega) ?_
  clear hI
  intro l H hI
  exact q l _ (hI.forget (by tm_at "sub"))
def sp_law_round_rows (K : PySem.W.Frag) : Sp := fun vs H Q _ => vs.length = 1 ∧ ∃ (p : Addr) (span : Int) (rs : List Row) (B : Hp) (M L : List (Addr × HO)), vs = [.ref p] ∧ Is B M L H ∧ PlainR B p span rs ∧ ∀ l H', Is B M ((l, .lst ((headT span :: rs.map rowT).map V.str)) :: L) H' → Q (.ref l) H'
theorem ap_law_round_rows {K : PySem.W.Frag} {H : Hp} {Q : VK} {E : XK} {p : Addr} {span : Int} {rs : List Row} {B : Hp} {M L : List (Addr × HO)} (I : Is B M L H) (h : PlainR B p span rs) (q : ∀ l H', Is B M ((l, .lst ((headT span :: rs.map rowT).map V.str)) :: L) H' → Q (.ref l) H') : sp_law_round_rows K [.ref p] H Q E := ⟨rfl, p, span, rs, B, M, L, rfl, I, h, q⟩
def t_law_round_rows (K : PySem.W.Frag) : TS := (tRet (tOp (rAddA K) (tLst (tCons (tOp (rAddA K) (tC (.str "round ")) (tCB rStrI (tCons (tOp (rIx K) (tVar 0) (tC (.int 0))) tNil))) tNil)) (tLc (iAny K (tOp (rIx K) (tVar 0) (tC (.int 1)))) (gName 1) tYes (tOp (rAddA K) (tOp (rAddA K) (tOp (rAddA K) (tOp (rAddA K) (tCB rStrI (tCons (tOp (rIx K) (tVar 1) (tC (.int 0))) tNil)) (tC (.str " "))) (tOp (rIx K) (tVar 1) (tC (.int 1)))) (tC (.str " "))) (tCB rStrI (tCons (tOp (rIx K) (tVar 1) (tC (.int 2))) tNil))) [1])))
theorem rd_law_round_rows {K : PySem.W.Frag} (vs : List V) (H : Hp) (Q : VK) (E : XK) (h : sp_law_round_rows K vs H Q E) : t_law_round_rows K { nx := fun _ H' => Q .non H', rt := Q } (start ["plain", "row"] vs) H := by
  obtain ⟨_, pl, span, rs, B, M, L, rfl, hI, hP, q⟩ := h
  show t_law_round_rows K ⟨_, _, _, _⟩ [some (.ref pl), none] H
  obtain ⟨⟨a, xs, h1, h2, h3⟩, hg⟩ := id hP
  have hl := h3.len
  have hl1 := hg.len
  have hs0 := hg.s0
  have hs1 := hg.s1
  unfold t_law_round_rows
  tm_at "go"
  refine g_ix_t (by tm_at "st") (atI_of (by decide) rfl) ?_
  tm_at "go"
  refine' g_strI (k := 18) (by omega) (by decide) (by omega) fun k0 => ?_
  refine g_add_sh sh_rd k0 (by decide) fun _ => ?_
  have eh : "round " ++ Str.ofString (toString span) = headT span := rfl
  rw [eh]
  tm_at "go"
  obtain ⟨p1, rfl⟩ : ∃ q, q = p := ⟨_, rfl⟩
  refine g_ix_t (by tm_at "st") (atI_of (by decide) rfl) ?_
  tm_at "go"
  refine' g_lcX (xs := xs) ((rs.map rowT).map V.str) (by simp [hl]) walk_list hI (by tm_at "wiped") (by omega) (fun D acc H' I => SqL.of (I.b h2)) ?_ ?_
  · intro i x y D acc H' hx hy hI PY hPY
    obtain ⟨b, c, s, w, rfl, e, hb⟩ := h3.get hx
    have hmem := List.mem_of_getElem? e
    obtain ⟨k1, k2, k3⟩ := hg.sh hmem
    obtain ⟨q1, q2, q3, q4, q5, q6⟩ := hg.row _ hmem
    have q1 : 0 ≤ c := q1
    have q2 : c < span := q2
    have q5 : 1 ≤ w := q5
    have q6 : w ≤ 1000 := q6
    tm_at "go"
    refine' g_wiped (by tm_at "wiped") ?_
    tm_at "go"
    refine g_ix_t (by tm_at "st") (atI_of (by decide) rfl) ?_
    tm_at "go"
    refine' g_strI (k := 18) (by omega) (by decide) (by omega) fun _ => ?_
    refine g_add_sh k1 sh_bl (by decide) fun a1 => ?_
    tm_at "go"
    refine g_ix_t (by tm_at "st") (atI_of (by decide) rfl) ?_
    refine g_add_sh a1 k2 (by decide) fun a2 => ?_
    tm_at "go"
    refine g_add_sh a2 sh_bl (by decide) fun a3 => ?_
    tm_at "go"
    refine g_ix_t (by tm_at "st") (atI_of (by decide) rfl) ?_
    tm_at "go"
    refine' g_strI (k := 18) (by omega) (by decide) (by omega) fun _ => ?_
    refine g_add_sh a3 k3 (by decide) fun a4 => ?_
    have ey : y = .str (rowT (c, s, w)) := by
      rw [List.getElem?_map, List.getElem?_map, e] at hy
      exact (Option.some.inj hy).symm
    have er : Str.ofString (toString c) ++ " " ++ s ++ " " ++ Str.ofString (toString w) = rowT (c, s, w) := rowT_eq (c, s, w)
    rw [ey, ← er] at hPY
    exact hPY _ hI
  clear hI
  intro D H hI
  tm_at "go"
  refine g_add_l hI (by tm_at "hp") (by tm_at "hp") (by simp only [List.length_map, List.length_cons, List.length_nil]; omega) ?_
  clear hI
  intro l H hI
  exact q l _ (hI.forget (by tm_at "sub"))
def sp_law_job_text (K : PySem.W.Frag) : Sp := fun vs H Q _ => vs.length = 1 ∧ ∃ (p : Addr) (j : JobT) (B : Hp) (M L : List (Addr × HO)), vs = [.ref p] ∧ Is B M L H ∧ PlainJ B p j ∧ ∀ H', Is B M L H' → Q (.str (jtxt j)) H'
theorem ap_law_job_text {K : PySem.W.Frag} {H : Hp} {Q : VK} {E : XK} {p : Addr} {j : JobT} {B : Hp} {M L : List (Addr × HO)} (I : Is B M L H) (h : PlainJ B p j) (q : ∀ H', Is B M L H' → Q (.str (jtxt j)) H') : sp_law_job_text K [.ref p] H Q E := ⟨rfl, p, j, B, M, L, rfl, I, h, q⟩
abbrev t_law_job_text_0 (K : PySem.W.Frag) : TS := (tRet (tM1 (rJoin K) (tC (.str " ")) (tOp (rAddA K) (tVar 1) (tOp rMulA (tLst (tCons (tC (.str "haste")) tNil)) (tCB rIntB (tCons (tOp (rIx K) (tVar 0) (tC (.int 4))) tNil))))))
def t_law_job_text (K : PySem.W.Frag) : TS := (tSeq (tAsg (tLst (tCons (tC (.str "job")) (tCons (tCB rStrI (tCons (tOp (rIx K) (tVar 0) (tC (.int 0))) tNil)) (tCons (tOp (rIx K) (tOp (rIx K) (tVar 0) (tC (.int 1))) (tC (.int 0))) (tCons (tCB rStrI (tCons (tOp (rIx K) (tVar 0) (tC (.int 2))) tNil)) (tCons (tCB rStrI (tCons (tOp (rIx K) (tVar 0) (tC (.int 3))) tNil)) tNil)))))) (gName 1)) (t_law_job_text_0 K))
theorem rd_law_job_text {K : PySem.W.Frag} (vs : List V) (H : Hp) (Q : VK) (E : XK) (h : sp_law_job_text K vs H Q E) : t_law_job_text K { nx := fun _ H' => Q .non H', rt := Q } (start ["plain", "words"] vs) H := by
  obtain ⟨_, pl, j, B, M, L, rfl, hI, hP, q⟩ := h
  show t_law_job_text K ⟨_, _, _, _⟩ [some (.ref pl), none] H
  obtain ⟨⟨s, h1, h2⟩, hg⟩ := id hP
  obtain ⟨⟨a, xs, i1, i2, i3⟩, _⟩ := id h2
  obtain ⟨gt, g1, g2, g3, g4, g5, g6⟩ := id hg
  unfold t_law_job_text
  tm_at "go"
  refine g_ix_t (by tm_at "st") (atI_of (by decide) rfl) ?_
  tm_at "go"
  refine' g_strI (k := 18) (by omega) (by decide) (by omega) fun _ => ?_
  tm_at "go"
  refine g_ix_t (by tm_at "st") (atI_of (by decide) rfl) ?_
  tm_at "go"
  refine g_ix_t (by tm_at "st") (atI_of (by decide) rfl) ?_
  tm_at "go"
  refine g_ix_t (by tm_at "st") (atI_of (by decide) rfl) ?_
  tm_at "go"
  refine' g_strI (k := 18) (by omega) (by decide) (by omega) fun _ => ?_
  tm_at "go"
  refine g_ix_t (by tm_at "st") (atI_of (by decide) rfl) ?_
  tm_at "go"
  refine' g_strI (k := 18) (by omega) (by decide) (by omega) fun _ => ?_
  tm_at "go"
  refine g_ix_t (by tm_at "st") (atI_of (by decide) rfl) ?_
  tm_at "go"
  refine' g_intB ?_
  have fin : ∀ (H' : Hp) (l : Addr), Is B M ((l, .lst ((jobL j).map V.str)) :: L) H' → rJoin K (.str " ") [.ref l] H' Q := fun H' l hI =>
    ⟨_, _, _, rfl, rfl, .inl (SqL.of (hI.get (List.Mem.head _))), hg.joins, q _ (hI.forget (by tm_at "sub"))⟩
  obtain ⟨hst, hhst⟩ : ∃ l : List Str, l = if j.q = true then [("haste" : Str)] else [] := ⟨_, rfl⟩
  have ej : jobL j = ("job" : Str) :: numT j.n :: j.nm :: numT j.c :: numT j.w :: hst := by
    unfold jobL
    rw [← hhst]
    rfl
  cases hq : j.q with
  | true =>
    rw [hq] at hhst
    have : hst = [("haste" : Str)] := hhst
    subst this
    rw [if_pos rfl]
    refine g_mul_l (n := 1) hI (by tm_at "hp") (by decide) (by decide) ?_
    clear hI
    intro l2 H hI
    refine g_add_l hI (by tm_at "hp") (by tm_at "hp") (by simp only [List.length_cons, List.length_nil, List.length_flatten, List.map_replicate, List.sum_replicate_nat]; omega) ?_
    clear hI
    intro l3 H hI
    rw [ej] at fin
    exact fin _ _ (hI.forget (by tm_at "sub"))
  | false =>
    rw [hq] at hhst
    have : hst = [] := hhst
    subst this
    rw [if_neg (by decide)]
    refine g_mul_l (n := 0) hI (by tm_at "hp") (by decide) (by decide) ?_
    clear hI
    intro l2 H hI
    refine g_add_l hI (by tm_at "hp") (by tm_at "hp") (by simp only [List.length_cons, List.length_nil, List.length_flatten, List.map_replicate, List.sum_replicate_nat]; omega) ?_
    clear hI
    intro l3 H hI
    rw [ej] at fin
    exact fin _ _ (hI.forget (by tm_at "sub"))
def sp_law_style_right (K : PySem.W.Frag) : Sp := fun vs H Q _ => vs.length = 1 ∧ ∃ (p : Addr) (nm : Str) (rs : List StepT) (B : Hp) (M L : List (Addr × HO)), vs = [.ref p] ∧ Is B M L H ∧ PlainS B p nm rs ∧ ∀ B' H', Same B B' → Is B' M L H' → Q (.bl true) H'
theorem ap_law_style_right {K : PySem.W.Frag} {H : Hp} {Q : VK} {E : XK} {p : Addr} {nm : Str} {rs : List StepT} {B : Hp} {M L : List (Addr × HO)} (I : Is B M L H) (h : PlainS B p nm rs) (q : ∀ B' H', Same B B' → Is B' M L H' → Q (.bl true) H') : sp_law_style_right K [.ref p] H Q E := ⟨rfl, p, nm, rs, B, M, L, rfl, I, h, q⟩
abbrev t_law_style_right_0 (K : PySem.W.Frag) : TS := (tRet (tAndV (tOp (rEqA K) (tMe (He.ga K "Style") "steps" 0 0 (sp_Style_steps K) (fun vs zs => pick .non [0] (vs ++ zs)) E0 (tVar 3) tNil tNil) (tOp (rIx K) (tVar 0) (tC (.int 1)))) (tAndV (tOp (rEqA K) (tMe (He.ga K "Style") "named" 0 0 (sp_Style_named K) (fun vs zs => pick .non [0] (vs ++ zs)) E0 (tVar 3) tNil tNil) (tOp (rIx K) (tVar 0) (tC (.int 0)))) (tOp (rOwnEq K (He.ga K "Style") (sp_Style_eq K) (fun vs zs => pick .non [0, 1] (vs ++ zs)) E0) (tCl 1 0 (sp_read_style K) (fun vs zs => pick .non [0] (vs ++ zs)) E0 (tCons (tCB (rStrOwn (He.ga K "Style") (sp_Style_str K) (fun vs zs => pick .non [0] (vs ++ zs)) E0) (tCons (tVar 1) tNil)) tNil) tNil) (tVar 1)))))
abbrev t_law_style_right_1 (K : PySem.W.Frag) : TS := (tSeq (tIfS (tOr (tTest (tOp (rNeA K) (tCB (rStrOwn (He.ga K "Style") (sp_Style_str K) (fun vs zs => pick .non [0] (vs ++ zs)) E0) (tCons (tVar 1) tNil)) (tVar 2))) (tOr (tNot (tTr K (tCB (rIsi K) (tCons (tVar 3) (tCons (tC (.ref (He.ga K "Style"))) tNil))))) (tOr (tTest (tOp (rOwnNe K (He.ga K "Style") (sp_Style_eq K) (fun vs zs => pick .non [0, 1] (vs ++ zs)) E0) (tVar 3) (tVar 1))) (tTest (tOp (rNeA K) (tCB (rStrOwn (He.ga K "Style") (sp_Style_str K) (fun vs zs => pick .non [0] (vs ++ zs)) E0) (tCons (tVar 3) tNil)) (tVar 2)))))) (tRet (tC (.bl false))) tNext) (t_law_style_right_0 K))
abbrev t_law_style_right_2 (K : PySem.W.Frag) : TS := (tSeq (tAsg (tCl 0 1 (sp_read_style K) (fun vs zs => pick .non [0] (vs ++ zs)) E0 tNil (tCons (tVar 2) tNil)) (gName 3)) (t_law_style_right_1 K))
def t_law_style_right (K : PySem.W.Frag) : TS := (tSeq (tPar 1 2 (tCons (tCl 1 0 (sp_law_style K) (fun vs zs => pick .non [0] (vs ++ zs)) E0 (tCons (tVar 0) tNil) tNil) (tCons (tM1 (rJoin K) (tC (.str "\n")) (tCl 1 0 (sp_law_style_rows K) (fun vs zs => pick .non [0] (vs ++ zs)) E0 (tCons (tVar 0) tNil) tNil)) tNil))) (t_law_style_right_2 K))
theorem rd_law_style_right {K : PySem.W.Frag} (C : StyleC K) (D : OwnD K (He.ga K "Style")) (vs : List V) (H : Hp) (Q : VK) (E : XK) (h : sp_law_style_right K vs H Q E) : t_law_style_right K { nx := fun _ H' => Q .non H', rt := Q } (start ["plain", "made", "told", "found"] vs) H := by
  obtain ⟨_, pl, nm, rs, B, M, L, rfl, hI, hP, q⟩ := h
  show t_law_style_right K ⟨_, _, _, _⟩ [some (.ref pl), none, none, none] H
  obtain ⟨cl, n1, n2⟩ := C
  obtain ⟨⟨a, xs, h1, h2, h3⟩, hg⟩ := id hP
  unfold t_law_style_right
  tm_at "go"
  refine' ap_law_style (K := K) hI hP ?_
  clear hI
  intro made B1 H s1 hI hS
  replace hP := hP.same s1
  replace h1 := s1 _ _ h1
  replace h2 := s1 _ _ h2
  replace h3 := h3.same s1
  tm_at "go"
  refine' ap_law_style_rows (K := K) hI hP ?_
  clear hI
  intro rw_ H hI
  refine ⟨_, _, _, rfl, rfl, .inl (SqL.of (hI.get (List.Mem.head _))), hg.joins, ?_⟩
  replace hI := hI.forget (L' := L) (by tm_at "sub")
  rw [show Txt.join "\n" (("style " ++ nm) :: rs.map stT) = stxt nm rs from rfl]
  tm_at "go"
  refine' ap_read_style (K := K) hI hg ?_
  clear hI
  intro fnd B2 H s2 hI hF
  replace hP := hP.same s2
  replace hS := hS.same s2
  replace h1 := s2 _ _ h1
  replace h2 := s2 _ _ h2
  replace h3 := h3.same s2
  obtain ⟨⟨_, _, _, i1, _, _⟩, _⟩ := id hS
  obtain ⟨⟨_, _, _, i2, _, _⟩, _⟩ := id hF
  tm_at "go"
  refine' g_strOwn (hI.b i1) ?_
  refine' ap_Style_str (K := K) hI hS ?_
  clear hI
  intro H hI
  refine' g_aStrV ?_
  tm_at "go"
  refine g_ndec (fun h => absurd rfl h) (fun _ => ?_)
  tm_at "go"
  refine' g_isiO D cl (hI.b i2) ?_
  tm_at "go"
  refine' g_ownNeI D cl (hI.b i2) (hI.b i1) ?_
  refine' ap_Style_eq (K := K) hI hF hS ?_
  clear hI
  intro H hI
  refine' g_aNeg ?_
  tm_at "go"
  refine' g_strOwn (hI.b i2) ?_
  refine' ap_Style_str (K := K) hI hF ?_
  clear hI
  intro H hI
  refine' g_aStrV ?_
  tm_at "go"
  refine g_ndec (fun h => absurd rfl h) (fun _ => ?_)
  tm_at "go"
  obtain ⟨nn, hnn, hsh⟩ := shn_steps rs hg.row
  refine' ap_Style_steps (K := K) hI hF ?_
  clear hI
  intro sp xs2 H hx2 hI
  tm_at "go"
  refine g_ix_t (SqT.of (hI.b h1)) (atI_of (by decide) rfl) ?_
  refine g_eq_d (.lst (by tm_at "sq") (dp_steps hI.ex hx2)) (.lst (SqL.of (hI.b h2)) (dp_steps hI.ex h3)) (Shn.shaped (.lst hsh) (by decide)) (Shn.shaped (.lst hsh) (by decide)) ?_
  rw [eqv_stepsL]
  tm_at "go"
  refine' ap_Style_named (K := K) hI hF ?_
  tm_at "go"
  refine g_ix_t (SqT.of (hI.b h1)) (atI_of (by decide) rfl) ?_
  tm_at "go"
  refine g_dec (fun _ => ?_) (fun h => absurd rfl h)
  tm_at "go"
  refine' g_strOwn (hI.b i1) ?_
  refine' ap_Style_str (K := K) hI hS ?_
  clear hI
  intro H hI
  refine' g_aStrV ?_
  tm_at "go"
  refine' ap_read_style (K := K) hI hg ?_
  clear hI
  intro anew B3 H s3 hI hA
  replace hS := hS.same s3
  replace i1 := s3 _ _ i1
  obtain ⟨⟨_, _, _, i3, _, _⟩, _⟩ := id hA
  tm_at "go"
  refine' g_ownEqI D cl (hI.b i3) (hI.b i1) ?_
  refine' ap_Style_eq (K := K) hI hA hS ?_
  clear hI
  intro H hI
  tm_at "go"
  exact q B3 _ ((s1.trans s2).trans s3) (hI.forget (by tm_at "sub"))
def sp_law_job_right (K : PySem.W.Frag) : Sp := fun vs H Q _ => vs.length = 1 ∧ ∃ (p : Addr) (j : JobT) (B : Hp) (M L : List (Addr × HO)), vs = [.ref p] ∧ Is B M L H ∧ PlainJ B p j ∧ ∀ B' H', Same B B' → Is B' M L H' → Q (.bl true) H'
theorem ap_law_job_right {K : PySem.W.Frag} {H : Hp} {Q : VK} {E : XK} {p : Addr} {j : JobT} {B : Hp} {M L : List (Addr × HO)} (I : Is B M L H) (h : PlainJ B p j) (q : ∀ B' H', Same B B' → Is B' M L H' → Q (.bl true) H') : sp_law_job_right K [.ref p] H Q E := ⟨rfl, p, j, B, M, L, rfl, I, h, q⟩
abbrev t_law_job_right_0 (K : PySem.W.Frag) : TS := (tRet (tAndV (tOp (rEqA K) (tMe (He.ga K "Job") "rank" 0 0 (sp_Job_rank K) (fun vs zs => pick .non [0] (vs ++ zs)) E0 (tVar 3) tNil tNil) (tMe (He.ga K "Job") "rank" 0 0 (sp_Job_rank K) (fun vs zs => pick .non [0] (vs ++ zs)) E0 (tVar 1) tNil tNil)) (tOp (rEqA K) (tCB (rRepr K) (tCons (tMe (He.ga K "Job") "in_haste" 0 0 (sp_Job_in_haste K) (fun vs zs => pick .non [0] (vs ++ zs)) E0 (tVar 4) tNil tNil) tNil)) (tCB (rRepr K) (tCons (tOp (rIx K) (tVar 0) (tC (.int 4))) tNil)))))
abbrev t_law_job_right_1 (K : PySem.W.Frag) : TS := (tSeq (tAsg (tCl 2 0 (sp_read_job K) (fun vs zs => pick .non [0, 1] (vs ++ zs)) E0 (tCons (tMe (He.ga K "Job") "of_style" 0 0 (sp_Job_of_style K) (fun vs zs => pick .non [0] (vs ++ zs)) E0 (tVar 1) tNil tNil) (tCons (tCB (rStrOwn (He.ga K "Job") (sp_Job_str K) (fun vs zs => pick .non [0] (vs ++ zs)) E0) (tCons (tVar 1) tNil)) tNil)) tNil) (gName 4)) (t_law_job_right_0 K))
abbrev t_law_job_right_2 (K : PySem.W.Frag) : TS := (tSeq (tIfS (tOr (tTest (tOp (rNeA K) (tCB (rStrOwn (He.ga K "Job") (sp_Job_str K) (fun vs zs => pick .non [0] (vs ++ zs)) E0) (tCons (tVar 1) tNil)) (tVar 2))) (tOr (tNot (tTr K (tCB (rIsi K) (tCons (tVar 3) (tCons (tC (.ref (He.ga K "Job"))) tNil))))) (tOr (tTest (tOp (rOwnNe K (He.ga K "Job") (sp_Job_eq K) (fun vs zs => pick .non [0, 1] (vs ++ zs)) E0) (tVar 3) (tVar 1))) (tTest (tOp (rNeA K) (tCB (rStrOwn (He.ga K "Job") (sp_Job_str K) (fun vs zs => pick .non [0] (vs ++ zs)) E0) (tCons (tVar 3) tNil)) (tVar 2)))))) (tRet (tC (.bl false))) tNext) (t_law_job_right_1 K))
abbrev t_law_job_right_3 (K : PySem.W.Frag) : TS := (tSeq (tAsg (tCl 0 2 (sp_read_job K) (fun vs zs => pick .non [1, 0] (vs ++ zs)) E0 tNil (tCons (tVar 2) (tCons (tCl 1 0 (sp_law_style K) (fun vs zs => pick .non [0] (vs ++ zs)) E0 (tCons (tOp (rIx K) (tVar 0) (tC (.int 1))) tNil) tNil) tNil))) (gName 3)) (t_law_job_right_2 K))
def t_law_job_right (K : PySem.W.Frag) : TS := (tSeq (tPar 1 2 (tCons (tCl 1 0 (sp_law_job K) (fun vs zs => pick .non [0] (vs ++ zs)) E0 (tCons (tVar 0) tNil) tNil) (tCons (tCl 1 0 (sp_law_job_text K) (fun vs zs => pick .non [0] (vs ++ zs)) E0 (tCons (tVar 0) tNil) tNil) tNil))) (t_law_job_right_3 K))
theorem rd_law_job_right {K : PySem.W.Frag} (C : JobC K) (D : OwnD K (He.ga K "Job")) (vs : List V) (H : Hp) (Q : VK) (E : XK) (h : sp_law_job_right K vs H Q E) : t_law_job_right K { nx := fun _ H' => Q .non H', rt := Q } (start ["plain", "made", "told", "found", "anew"] vs) H := by
  obtain ⟨_, pl, j, B, M, L, rfl, hI, hP, q⟩ := h
  show t_law_job_right K ⟨_, _, _, _⟩ [some (.ref pl), none, none, none, none] H
  obtain ⟨cl, n1, n2, n3, n4, n5⟩ := C
  obtain ⟨⟨s, h1, h2⟩, hg⟩ := id hP
  obtain ⟨_, g1, g2, g3, g4, g5, g6⟩ := id hg
  have hsh : Shn (.tuple [.int (if j.q = true then 0 else 1), .int j.w, .int j.c, .int j.n]) _ 1 := .tup (.cons (shn_int (by split <;> omega) (by split <;> omega)) (.cons (shn_int (by omega) (by omega)) (.cons (shn_int (by omega) (by omega)) (.cons (shn_int (by omega) (by omega)) .nil))))
  unfold t_law_job_right
  tm_at "go"
  refine' ap_law_job (K := K) hI hP ?_
  clear hI
  intro made B1 H s1 hI hS
  replace hP := hP.same s1
  tm_at "go"
  refine' ap_law_job_text (K := K) hI hP ?_
  clear hI
  intro H hI
  tm_at "go"
  obtain ⟨⟨s, h1, h2⟩, _⟩ := id hP
  refine g_ix_t (SqT.of (hI.b h1)) (atI_of (by decide) rfl) ?_
  tm_at "go"
  refine' ap_law_style (K := K) hI h2 ?_
  clear hI
  intro st B2 H s2 hI hT
  replace hS := hS.same s2
  replace h1 := s2 _ _ h1
  tm_at "go"
  refine' ap_read_job (K := K) hI hT hg ?_
  clear hI
  intro fnd B3 H s3 hI hF
  replace hS := hS.same s3
  replace h1 := s3 _ _ h1
  obtain ⟨⟨_, _, i1, _⟩, _⟩ := id hS
  obtain ⟨⟨_, _, i2, _⟩, _⟩ := id hF
  tm_at "go"
  refine' g_strOwn (hI.b i1) ?_
  refine' ap_Job_str (K := K) hI hS ?_
  clear hI
  intro H hI
  refine' g_aStrV ?_
  tm_at "go"
  refine g_ndec (fun h => absurd rfl h) (fun _ => ?_)
  tm_at "go"
  refine' g_isiO D cl (hI.b i2) ?_
  tm_at "go"
  refine' g_ownNeI D cl (hI.b i2) (hI.b i1) ?_
  refine' ap_Job_eq (K := K) hI hF hS ?_
  clear hI
  intro H hI
  refine' g_aNeg ?_
  tm_at "go"
  refine' g_strOwn (hI.b i2) ?_
  refine' ap_Job_str (K := K) hI hF ?_
  clear hI
  intro H hI
  refine' g_aStrV ?_
  tm_at "go"
  refine g_ndec (fun h => absurd rfl h) (fun _ => ?_)
  tm_at "go"
  refine' ap_Job_of_style (K := K) hI hS ?_
  intro st2 hT2
  tm_at "go"
  refine' g_strOwn (hI.b i1) ?_
  refine' ap_Job_str (K := K) hI hS ?_
  clear hI
  intro H hI
  refine' g_aStrV ?_
  tm_at "go"
  refine' ap_read_job (K := K) hI hT2 hg ?_
  clear hI
  intro anew B4 H s4 hI hA
  replace hS := hS.same s4
  replace hF := hF.same s4
  replace h1 := s4 _ _ h1
  obtain ⟨⟨_, _, i1, _⟩, _⟩ := id hS
  obtain ⟨⟨_, _, i2, _⟩, _⟩ := id hF
  obtain ⟨⟨_, _, i3, _⟩, _⟩ := id hA
  tm_at "go"
  refine' ap_Job_rank (K := K) hI hF ?_
  clear hI
  intro p1 H hI
  tm_at "go"
  refine' ap_Job_rank (K := K) hI hS ?_
  clear hI
  intro p2 H hI
  refine g_eq_d (.tup (by tm_at "st") (.cons (.int _) (.cons (.int _) (.cons (.int _) (.cons (.int _) .nil))))) (.tup (by tm_at "st") (.cons (.int _) (.cons (.int _) (.cons (.int _) (.cons (.int _) .nil))))) (Shn.shaped hsh (by decide)) (Shn.shaped hsh (by decide)) ?_
  rw [eqv_ints4]
  tm_at "go"
  refine' ap_Job_in_haste (K := K) hI hA ?_
  tm_at "go"
  refine g_repr (.bl _) (Shn.bl : Shn (.bool j.q) 5 1) (by decide) (by decide) ?_
  tm_at "go"
  refine g_ix_t (SqT.of (hI.b h1)) (atI_of (by decide) rfl) ?_
  tm_at "go"
  refine g_repr (.bl _) (Shn.bl : Shn (.bool j.q) 5 1) (by decide) (by decide) ?_
  tm_at "go"
  rw [decide_eq_true rfl]
  exact q B4 _ (((s1.trans s2).trans s3).trans s4) (hI.forget (by tm_at "sub"))
/-! a round -/
theorem eqv_rows : ∀ rs : List Row, PyData.eqvAll (rs.map rowD) (rs.map rowD) = true
  | [] => by simp [PyData.eqvAll]
  | r :: rs => by
    have ih := eqv_rows rs
    rw [List.map_cons]
    simp [PyData.eqvAll, PyData.eqv, rowD, ih]
theorem eqv_rowsL (rs : List Row) : PyData.eqv (.list (rs.map rowD)) (.list (rs.map rowD)) = true := by
  have := eqv_rows rs
  simp [PyData.eqv, this]
def sp_law_round_right (K : PySem.W.Frag) : Sp := fun vs H Q _ => vs.length = 1 ∧ ∃ (p : Addr) (span : Int) (rs : List Row) (B : Hp) (M L : List (Addr × HO)), vs = [.ref p] ∧ Is B M L H ∧ PlainR B p span rs ∧ ∀ B' H', Same B B' → Is B' M L H' → Q (.bl true) H'
theorem ap_law_round_right {K : PySem.W.Frag} {H : Hp} {Q : VK} {E : XK} {p : Addr} {span : Int} {rs : List Row} {B : Hp} {M L : List (Addr × HO)} (I : Is B M L H) (h : PlainR B p span rs) (q : ∀ B' H', Same B B' → Is B' M L H' → Q (.bl true) H') : sp_law_round_right K [.ref p] H Q E := ⟨rfl, p, span, rs, B, M, L, rfl, I, h, q⟩
abbrev t_law_round_right_0 (K : PySem.W.Frag) : TS := (tRet (tAndV (tOp (rEqA K) (tMe (He.ga K "Round") "calls" 0 0 (sp_Round_calls K) (fun vs zs => pick .non [0] (vs ++ zs)) E0 (tVar 3) tNil tNil) (tOp (rIx K) (tVar 0) (tC (.int 1)))) (tAndV (tOp (rEqA K) (tMe (He.ga K "Round") "length" 0 0 (sp_Round_length K) (fun vs zs => pick .non [0] (vs ++ zs)) E0 (tVar 3) tNil tNil) (tOp (rIx K) (tVar 0) (tC (.int 0)))) (tOp (rOwnEq K (He.ga K "Round") (sp_Round_eq K) (fun vs zs => pick .non [0, 1] (vs ++ zs)) E0) (tCl 1 0 (sp_read_round K) (fun vs zs => pick .non [0] (vs ++ zs)) E0 (tCons (tCB (rStrOwn (He.ga K "Round") (sp_Round_str K) (fun vs zs => pick .non [0] (vs ++ zs)) E0) (tCons (tVar 1) tNil)) tNil) tNil) (tVar 1)))))
abbrev t_law_round_right_1 (K : PySem.W.Frag) : TS := (tSeq (tIfS (tOr (tTest (tOp (rNeA K) (tCB (rStrOwn (He.ga K "Round") (sp_Round_str K) (fun vs zs => pick .non [0] (vs ++ zs)) E0) (tCons (tVar 1) tNil)) (tVar 2))) (tOr (tNot (tTr K (tCB (rIsi K) (tCons (tVar 3) (tCons (tC (.ref (He.ga K "Round"))) tNil))))) (tOr (tTest (tOp (rOwnNe K (He.ga K "Round") (sp_Round_eq K) (fun vs zs => pick .non [0, 1] (vs ++ zs)) E0) (tVar 3) (tVar 1))) (tTest (tOp (rNeA K) (tCB (rStrOwn (He.ga K "Round") (sp_Round_str K) (fun vs zs => pick .non [0] (vs ++ zs)) E0) (tCons (tVar 3) tNil)) (tVar 2)))))) (tRet (tC (.bl false))) tNext) (t_law_round_right_0 K))
abbrev t_law_round_right_2 (K : PySem.W.Frag) : TS := (tSeq (tAsg (tCl 0 1 (sp_read_round K) (fun vs zs => pick .non [0] (vs ++ zs)) E0 tNil (tCons (tVar 2) tNil)) (gName 3)) (t_law_round_right_1 K))
def t_law_round_right (K : PySem.W.Frag) : TS := (tSeq (tPar 1 2 (tCons (tCl 1 0 (sp_law_round K) (fun vs zs => pick .non [0] (vs ++ zs)) E0 (tCons (tVar 0) tNil) tNil) (tCons (tM1 (rJoin K) (tC (.str "\n")) (tCl 1 0 (sp_law_round_rows K) (fun vs zs => pick .non [0] (vs ++ zs)) E0 (tCons (tVar 0) tNil) tNil)) tNil))) (t_law_round_right_2 K))
theorem rd_law_round_right {K : PySem.W.Frag} (C : RoundC K) (D : OwnD K (He.ga K "Round")) (vs : List V) (H : Hp) (Q : VK) (E : XK) (h : sp_law_round_right K vs H Q E) : t_law_round_right K { nx := fun _ H' => Q .non H', rt := Q } (start ["plain", "made", "told", "found"] vs) H := by
  obtain ⟨_, pl, span, rs, B, M, L, rfl, hI, hP, q⟩ := h
  show t_law_round_right K ⟨_, _, _, _⟩ [some (.ref pl), none, none, none] H
  obtain ⟨cl, n1, n2, n3⟩ := C
  obtain ⟨⟨a, xs, h1, h2, h3⟩, hg⟩ := id hP
  unfold t_law_round_right
  tm_at "go"
  refine' ap_law_round (K := K) hI hP ?_
  clear hI
  intro made B1 H s1 hI hS
  replace hP := hP.same s1
  replace h1 := s1 _ _ h1
  replace h2 := s1 _ _ h2
  replace h3 := RowsB.same s1 h3
  tm_at "go"
  refine' ap_law_round_rows (K := K) hI hP ?_
  clear hI
  intro rw_ H hI
  refine ⟨_, _, _, rfl, rfl, .inl (SqL.of (hI.get (List.Mem.head _))), hg.joins, ?_⟩
  replace hI := hI.forget (L' := L) (by tm_at "sub")
  rw [show Txt.join "\n" (headT span :: rs.map rowT) = rtxt span rs from rfl]
  tm_at "go"
  refine' ap_read_round (K := K) hI hg ?_
  clear hI
  intro fnd B2 H s2 hI hF
  replace hP := hP.same s2
  replace hS := hS.same s2
  replace h1 := s2 _ _ h1
  replace h2 := s2 _ _ h2
  replace h3 := RowsB.same s2 h3
  obtain ⟨⟨_, _, _, _, i1, _⟩, _⟩ := id hS
  obtain ⟨⟨_, _, _, _, i2, _⟩, _⟩ := id hF
  tm_at "go"
  refine' g_strOwn (hI.b i1) ?_
  refine' ap_Round_str (K := K) hI hS ?_
  clear hI
  intro H hI
  refine' g_aStrV ?_
  tm_at "go"
  refine g_ndec (fun h => absurd rfl h) (fun _ => ?_)
  tm_at "go"
  refine' g_isiO D cl (hI.b i2) ?_
  tm_at "go"
  refine' g_ownNeI D cl (hI.b i2) (hI.b i1) ?_
  refine' ap_Round_eqI (K := K) hI hF hS ?_
  clear hI
  intro H hI
  rw [decide_eq_true rfl]
  refine' g_aNeg ?_
  tm_at "go"
  refine' g_strOwn (hI.b i2) ?_
  refine' ap_Round_str (K := K) hI hF ?_
  clear hI
  intro H hI
  refine' g_aStrV ?_
  tm_at "go"
  refine g_ndec (fun h => absurd rfl h) (fun _ => ?_)
  tm_at "go"
  obtain ⟨nn, hsh⟩ := hg.shn
  refine' ap_Round_calls (K := K) hI hF ?_
  clear hI
  intro sp xs2 H hx2 hI
  tm_at "go"
  refine g_ix_t (SqT.of (hI.b h1)) (atI_of (by decide) rfl) ?_
  refine g_eq_d (.lst (by tm_at "sq") (dp_rows hI.ex hx2)) (.lst (SqL.of (hI.b h2)) (dp_rows hI.ex h3)) (Shn.shaped (.lst hsh) (by decide)) (Shn.shaped (.lst hsh) (by decide)) ?_
  rw [eqv_rowsL]
  tm_at "go"
  refine' ap_Round_length (K := K) hI hF ?_
  tm_at "go"
  refine g_ix_t (SqT.of (hI.b h1)) (atI_of (by decide) rfl) ?_
  tm_at "go"
  refine g_dec (fun _ => ?_) (fun h => absurd rfl h)
  tm_at "go"
  refine' g_strOwn (hI.b i1) ?_
  refine' ap_Round_str (K := K) hI hS ?_
  clear hI
  intro H hI
  refine' g_aStrV ?_
  tm_at "go"
  refine' ap_read_round (K := K) hI hg ?_
  clear hI
  intro anew B3 H s3 hI hA
  replace hS := hS.same s3
  replace i1 := s3 _ _ i1
  obtain ⟨⟨_, _, _, _, i3, _⟩, _⟩ := id hA
  tm_at "go"
  refine' g_ownEqI D cl (hI.b i3) (hI.b i1) ?_
  refine' ap_Round_eqI (K := K) hI hA hS ?_
  clear hI
  intro H hI
  rw [decide_eq_true rfl]
  tm_at "go"
  exact q B3 _ ((s1.trans s2).trans s3) (hI.forget (by tm_at "sub"))
/-! names of two letters and vowels -/
def VowS (n : Nat) (z : Str) : Prop := Lets (2 + n) z ∧ 2 ≤ z.length ∧ ∀ c ∈ z.cps.toList.drop 2, c ∈ [97, 101, 105, 111, 117]
theorem VowS.add {n : Nat} {z : Str} {c : Nat} (h : VowS n z) (hc : c ∈ [97, 101, 105, 111, 117]) (hl : Lets 1 (⟨#[c]⟩ : Str)) : VowS (n + 1) (z ++ ⟨#[c]⟩) := by
  obtain ⟨h1, h2, h3⟩ := h
  refine ⟨(h1.add hl).mono (by omega), by rw [len_app]; omega, fun d hd => ?_⟩
  have hz : 2 ≤ z.cps.toList.length := by rw [← len_cps]; exact h2
  rw [cps_app, List.drop_append_of_le_length hz] at hd
  rcases List.mem_append.mp hd with h | h
  · exact h3 d h
  · have : d = c := by simpa using h
    rw [this]
    exact hc
theorem VowS.bar {n : Nat} {z : Str} (h : VowS n z) (hg : z ≠ "glue") : inV (.str z) barVs = false := by
  cases hb : inV (.str z) barVs with
  | false => rfl
  | true =>
    exfalso
    unfold inV at hb
    obtain ⟨y, hy, e⟩ := List.any_eq_true.mp hb
    have key : ∀ y ∈ barVs, ∃ w : Str, y = .str w ∧ (w = "glue" ∨ ∃ c ∈ w.cps.toList.drop 2, c ∉ [97, 101, 105, 111, 117]) := by
      intro y hy
      have : y ∈ [V.str "style", .str "job", .str "round", .str "sew", .str "glue", .str "cover", .str "letter", .str "press", .str "hand", .str "haste"] := hy
      simp only [List.mem_cons, List.not_mem_nil, or_false] at this
      rcases this with rfl | rfl | rfl | rfl | rfl | rfl | rfl | rfl | rfl | rfl
      · exact ⟨_, rfl, .inr (by decide +kernel)⟩
      · exact ⟨_, rfl, .inr (by decide +kernel)⟩
      · exact ⟨_, rfl, .inr (by decide +kernel)⟩
      · exact ⟨_, rfl, .inr (by decide +kernel)⟩
      · exact ⟨_, rfl, .inl rfl⟩
      · exact ⟨_, rfl, .inr (by decide +kernel)⟩
      · exact ⟨_, rfl, .inr (by decide +kernel)⟩
      · exact ⟨_, rfl, .inr (by decide +kernel)⟩
      · exact ⟨_, rfl, .inr (by decide +kernel)⟩
      · exact ⟨_, rfl, .inr (by decide +kernel)⟩
    obtain ⟨w, rfl, hw⟩ := key y hy
    have e2 : w = z := eq_of_beq (show (w == z) = true from e)
    subst e2
    rcases hw with hw | ⟨c, h1, h2⟩
    · exact hg hw
    · exact h2 (h.2.2 c h1)
theorem bar_y {z : Str} : inV (.str (z ++ "y")) barVs = false := by
  cases hb : inV (.str (z ++ "y")) barVs with
  | false => rfl
  | true =>
    exfalso
    unfold inV at hb
    obtain ⟨y, hy, e⟩ := List.any_eq_true.mp hb
    have key : ∀ y ∈ barVs, ∃ w : Str, y = .str w ∧ w.cps.toList.getLast? ≠ some 121 := by
      intro y hy
      have : y ∈ [V.str "style", .str "job", .str "round", .str "sew", .str "glue", .str "cover", .str "letter", .str "press", .str "hand", .str "haste"] := hy
      simp only [List.mem_cons, List.not_mem_nil, or_false] at this
      rcases this with rfl | rfl | rfl | rfl | rfl | rfl | rfl | rfl | rfl | rfl <;> exact ⟨_, rfl, by decide +kernel⟩
    obtain ⟨w, rfl, hw⟩ := key y hy
    have e2 : w = z ++ "y" := eq_of_beq (show (w == z ++ "y") = true from e)
    rw [e2] at hw
    exact hw (last_app (by decide +kernel))
def NmY (x : V) : Prop := ∃ z, x = .str z ∧ Lets 8 z ∧ 1 ≤ z.length ∧ inV (.str z) barVs = false
theorem NmY.nm {x : V} (h : NmY x) : IsNm x := by
  obtain ⟨z, rfl, h1, h2, h3⟩ := h
  exact ⟨z, rfl, h1.name (Nat.le_refl _) h2 h3, h1.sh.plain (by decide)⟩
def sp_law_called (K : PySem.W.Frag) : Sp := fun vs H Q _ => vs.length = 2 ∧ ∃ (m : Addr) (many n : Int) (B : Hp) (M L : List (Addr × HO)), vs = [.ref m, .int many] ∧ Is B M L H ∧ Dr m n B M ∧ n < 2 ^ 39 ∧ 0 ≤ many ∧ many < 1000 ∧
  ∀ (p : Addr) (xs : List V) (H' : Hp) (M' : List (Addr × HO)), Is B M' ((p, .lst xs) :: L) H' → Dr m (n + 2 + 8 * many) B M' → (∀ x ∈ xs, IsNm x) → (xs.length : Int) = many → Q (.ref p) H'
theorem ap_law_called {K : PySem.W.Frag} {B H : Hp} {M L : List (Addr × HO)} {Q : VK} {E : XK} {n : Int} {m : Addr} {many : Int} (I : Is B M L H) (d : Dr m n B M) (h : n < 2 ^ 39) (h0 : 0 ≤ many) (h1 : many < 1000) (q : ∀ (p : Addr) (xs : List V) (H' : Hp) (M' : List (Addr × HO)), Is B M' ((p, .lst xs) :: L) H' → Dr m (n + 2 + 8 * many) B M' → (∀ x ∈ xs, IsNm x) → (xs.length : Int) = many → Q (.ref p) H') : sp_law_called K [.ref m, .int many] H Q E :=
  ⟨rfl, m, many, n, B, M, L, rfl, I, d, h, h0, h1, q⟩
abbrev t_law_called_0 (K : PySem.W.Frag) : TS := (tAsg (tOp (rAddA K) (tVar 7) (tOp (rIx K) (tC (.str "aeiou")) (tCl 2 0 (sp_law_draw K) (fun vs zs => pick .non [0, 1] (vs ++ zs)) E0 (tCons (tVar 0) (tCons (tC (.int 5)) tNil)) tNil))) (gName 7))
abbrev t_law_called_1 (K : PySem.W.Frag) : TS := (tDrop (tBM K "list" rAppend (tVar 3) (tCons (tVar 7) tNil)))
abbrev t_law_called_2 (K : PySem.W.Frag) : TS := (tSeq (tIfS (tAnd (tTest (tOp (rEqA K) (tOp (rI (fun _ j => 0 < j) fun i j => .int (i % j)) (tVar 6) (tC (.int 2))) (tC (.int 1)))) (tTest (tOp (rEqA K) (tCl 2 0 (sp_law_draw K) (fun vs zs => pick .non [0, 1] (vs ++ zs)) E0 (tCons (tVar 0) (tCons (tC (.int 5)) tNil)) tNil) (tC (.int 0))))) (tAsg (tOp (rAddA K) (tSl (rSlA K) (tOp (rIx K) (tVar 3) (tUn (rU fun i => .int (-i)) (tC (.int 1)))) tNoPart (tPart (tC (.int 7)))) (tC (.str "y"))) (gName 7)) tNext) (t_law_called_1 K))
abbrev t_law_called_3 (K : PySem.W.Frag) : TS := (tSeq (tIfS (tTest (tOp (rEqA K) (tVar 7) (tC (.str "glue")))) (tAsg (tC (.str "gluea")) (gName 7)) tNext) (t_law_called_2 K))
abbrev t_law_called_4 (K : PySem.W.Frag) : TS := (tSeq (tFor (iRng1 (tCons (tOp (rIx K) (tLst (tCons (tC (.int 0)) (tCons (tC (.int 0)) (tCons (tC (.int 1)) (tCons (tCl 2 0 (sp_law_draw K) (fun vs zs => pick .non [0, 1] (vs ++ zs)) E0 (tCons (tVar 0) (tCons (tC (.int 6)) tNil)) tNil) tNil))))) (tCl 2 0 (sp_law_draw K) (fun vs zs => pick .non [0, 1] (vs ++ zs)) E0 (tCons (tVar 0) (tCons (tC (.int 4)) tNil)) tNil)) tNil)) (gName 8) (t_law_called_0 K)) (t_law_called_3 K))
abbrev t_law_called_5 (K : PySem.W.Frag) : TS := (tSeq (tAsg (tOp (rAddA K) (tVar 7) (tOp (rIx K) (tVar 2) (tOp (rI (fun _ j => 0 < j) fun i j => .int (i % j)) (tOp (rAddA K) (tVar 4) (tOp (rI CDiv fun i j => .int (i / j)) (tVar 6) (tC (.int 26)))) (tC (.int 26))))) (gName 7)) (t_law_called_4 K))
abbrev t_law_called_6 (K : PySem.W.Frag) : TS := (tSeq (tAsg (tOp (rIx K) (tVar 2) (tOp (rI (fun _ j => 0 < j) fun i j => .int (i % j)) (tOp (rAddA K) (tVar 4) (tOp rMulA (tVar 5) (tVar 6))) (tC (.int 26)))) (gName 7)) (t_law_called_5 K))
abbrev t_law_called_7 (K : PySem.W.Frag) : TS := (tRet (tVar 3))
abbrev t_law_called_8 (K : PySem.W.Frag) : TS := (tSeq (tFor (iRng1 (tCons (tVar 1) tNil)) (gName 6) (t_law_called_6 K)) (t_law_called_7 K))
abbrev t_law_called_9 (K : PySem.W.Frag) : TS := (tSeq (tAsg (tOp (rIx K) (tLst (tCons (tC (.int 1)) (tCons (tC (.int 3)) (tCons (tC (.int 5)) (tCons (tC (.int 7)) (tCons (tC (.int 9)) (tCons (tC (.int 11)) (tCons (tC (.int 15)) (tCons (tC (.int 17)) (tCons (tC (.int 19)) (tCons (tC (.int 21)) (tCons (tC (.int 23)) (tCons (tC (.int 25)) tNil))))))))))))) (tCl 2 0 (sp_law_draw K) (fun vs zs => pick .non [0, 1] (vs ++ zs)) E0 (tCons (tVar 0) (tCons (tC (.int 12)) tNil)) tNil)) (gName 5)) (t_law_called_8 K))
abbrev t_law_called_10 (K : PySem.W.Frag) : TS := (tSeq (tAsg (tCl 2 0 (sp_law_draw K) (fun vs zs => pick .non [0, 1] (vs ++ zs)) E0 (tCons (tVar 0) (tCons (tC (.int 26)) tNil)) tNil) (gName 4)) (t_law_called_9 K))
def t_law_called (K : PySem.W.Frag) : TS := (tSeq (tPar 2 3 (tCons (tC (.str "abcdefghijklmnopqrstuvwxyz")) (tCons (tLst tNil) tNil))) (t_law_called_10 K))
def PvC (m : Addr) (many n : Int) (B : Hp) (L : List (Addr × HO)) (found : Addr) (shift stride : Int) (i : Nat) (σ : St) (H : Hp) : Prop :=
  ∃ (a b c : Option V) (M : List (Addr × HO)) (xs : List V), σ = [some (.ref m), some (.int many), some (.str "abcdefghijklmnopqrstuvwxyz"), some (.ref found), some (.int shift), some (.int stride), a, b, c] ∧
    Is B M ((found, .lst xs) :: L) H ∧ Dr m (n + 2 + 8 * (i : Int)) B M ∧ (∀ x ∈ xs, NmY x) ∧ xs.length = i
theorem rd_law_called {K : PySem.W.Frag} (vs : List V) (H : Hp) (Q : VK) (E : XK) (h : sp_law_called K vs H Q E) : t_law_called K { nx := fun _ H' => Q .non H', rt := Q } (start ["m", "many", "letters", "found", "shift", "stride", "k", "said", "j"] vs) H := by
  obtain ⟨_, m, many, n, B, M, L, rfl, hI, hd, h1, h2, h3, q⟩ := h
  show t_law_called K ⟨_, _, _, _⟩ [some (.ref m), some (.int many), none, none, none, none, none, none, none] H
  unfold t_law_called
  have hlet : Sh 26 ("abcdefghijklmnopqrstuvwxyz" : Str) := Sh.lit (by decide +kernel)
  have hlet2 : ("abcdefghijklmnopqrstuvwxyz" : Str).length = 26 := by decide +kernel
  have hlet3 : ∀ c ∈ ("abcdefghijklmnopqrstuvwxyz" : Str).cps.toList, Lets 1 ⟨#[c]⟩ := fun c hc => Lets.sign hc
  have hvow : Sh 5 ("aeiou" : Str) := Sh.lit (by decide +kernel)
  have hvow2 : ("aeiou" : Str).length = 5 := by decide +kernel
  have hvow3 : ∀ c ∈ ("aeiou" : Str).cps.toList, c ∈ [97, 101, 105, 111, 117] ∧ c ∈ letS.cps.toList := by decide +kernel
  have hy : Lets 1 ("y" : Str) := ⟨by decide +kernel, by decide +kernel⟩
  tm_at "go"
  obtain ⟨found, rfl⟩ : ∃ q, q = p := ⟨_, rfl⟩
  tm_at "draw"
  revert r
  intro shift hs0 hs1
  tm_at "go"
  tm_at "draw"
  tm_at "go"
  refine g_ix_in (ns := STR) (by tm_at "sq") hr0 (by simp only [STR, List.length_cons, List.length_nil]; omega) ?_
  intro stride hst
  tm_at "go"
  have hI := hI.forget (L' := (found, .lst []) :: L) (by tm_at "sub")
  refine' g_aFor walk_range (PvC m many n B L found shift stride)
    ⟨_, _, _, _, [], rfl, hI, hd.mono (by omega), (fun _ h => by cases h), rfl⟩ (fun _ _ _ _ _ => trivial) ?_ ?_
  · rintro i x σ H H' hi ⟨a, b, c, M, xs, rfl, hI, hd, hx, hl⟩ ⟨rfl, hy'⟩
    have hi : i < many.toNat := hi
    have hy' : x = .int (i : Int) := by
      rw [hy']
      show V.int (0 + (i : Int)) = _
      rw [Int.zero_add]
    subst hy'
    tm_at "go"
    refine g_ix_sh hlet (by decide) (Int.emod_nonneg _ (by decide)) (by rw [hlet2]; exact Int.emod_lt_of_pos _ (by decide)) ?_
    intro c1 hc1 _
    have hl1 := hlet3 c1 hc1
    tm_at "go"
    refine g_ix_sh hlet (by decide) (Int.emod_nonneg _ (by decide)) (by rw [hlet2]; exact Int.emod_lt_of_pos _ (by decide)) ?_
    intro c2 hc2 _
    have hl2 := hlet3 c2 hc2
    refine g_add_sh hl1.sh hl2.sh (by decide) ?_
    intro _
    have hsaid : VowS 0 ((⟨#[c1]⟩ : Str) ++ ⟨#[c2]⟩) := ⟨hl1.add hl2, Nat.le_refl _, fun d hd => by cases hd⟩
    generalize ((⟨#[c1]⟩ : Str) ++ ⟨#[c2]⟩) = said0 at *
    tm_at "go"
    tm_at "draw"
    revert r
    intro r6 h60 h61
    tm_at "go"
    tm_at "draw"
    refine g_ix_ints (lo := 0) (hi := 5) (by tm_at "sq") (by repeat (first | exact Ints.nil | refine Ints.cons (by omega) ?_)) hr0 (by tm_at "arith") ?_
    intro w hw0 hw1
    tm_at "go"
    have hI := hI.forget (L' := (found, .lst xs) :: L) (by tm_at "sub")
    have hd : Dr m (n + 2 + 8 * (i : Int) + 2 + ((0 : Nat) : Int)) B M := hd.mono (by omega)
    have key1 : ∀ (bk : St → Hp → Prop) (said : Str) (d : Option V) (H : Hp) (M : List (Addr × HO)), Is B M ((found, .lst xs) :: L) H → Dr m (n + 2 + 8 * (i : Int) + 8) B M → NmY (.str said) →
        t_law_called_1 K ⟨PvC m many n B L found shift stride (i + 1), Q, bk, PvC m many n B L found shift stride (i + 1)⟩
          [some (.ref m), some (.int many), some (.str "abcdefghijklmnopqrstuvwxyz"), some (.ref found), some (.int shift), some (.int stride), some (.int (i : Int)), some (.str said), d] H := by
      intro bk said d H M hI hd hs
      tm_at "go"
      refine ⟨_, _, _, M, _, rfl, hI, hd.mono (by omega), (fun x hx' => ?_), by simp [hl]⟩
      rcases List.mem_append.mp hx' with h | h
      · exact hx x h
      · rw [List.mem_singleton.mp h]
        exact hs
    have key2 : ∀ (bk : St → Hp → Prop) (said : Str) (d : Option V) (H : Hp) (M : List (Addr × HO)), Is B M ((found, .lst xs) :: L) H → Dr m (n + 2 + 8 * (i : Int) + 7) B M → NmY (.str said) →
        t_law_called_2 K ⟨PvC m many n B L found shift stride (i + 1), Q, bk, PvC m many n B L found shift stride (i + 1)⟩
          [some (.ref m), some (.int many), some (.str "abcdefghijklmnopqrstuvwxyz"), some (.ref found), some (.int shift), some (.int stride), some (.int (i : Int)), some (.str said), d] H := by
      intro bk said d H M hI hd hs
      tm_at "go"
      refine g_dec (fun h => ?_) (fun h => ?_)
      · have ho : i % 2 = 1 := by
          have : (i : Int) % 2 = 1 := V.int.inj h
          omega
        tm_at "go"
        tm_at "draw"
        tm_at "go"
        refine g_dec (fun h5 => ?_) (fun h5 => ?_)
        · tm_at "go"
          obtain ⟨x, hxx⟩ : ∃ x, xs[xs.length - 1]? = some x := ⟨_, List.getElem?_eq_getElem (by omega)⟩
          obtain ⟨z, rfl, hz, hz1, _⟩ := hx _ (List.mem_of_getElem? hxx)
          refine g_ix_l (by tm_at "sq") (atI_back (by omega) hxx) ?_
          tm_at "go"
          refine g_sl_sh hz.sh (by decide) fun hcut => ?_
          have h7 : Sh 7 (cutS z none (some 7)) := hz.sh.cut_to (k := 7) none
          have hL : Lets 7 (cutS z none (some 7)) := ⟨h7.1, fun c hc => hz.2 c (List.mem_of_mem_drop (List.mem_of_mem_take hc))⟩
          tm_at "go"
          refine g_add_sh h7 hy.sh (by decide) fun _ => ?_
          tm_at "stop"
          exact key1 _ _ _ _ _ hI (hd.mono (by omega)) ⟨_, rfl, (hL.add hy).mono (by decide), by rw [len_app]; exact Nat.le_trans (show 1 ≤ ("y" : Str).length by decide +kernel) (Nat.le_add_left _ _), bar_y⟩
        · tm_at "next"
          exact key1 _ _ _ _ _ hI (hd.mono (by omega)) hs
      · tm_at "next"
        exact key1 _ _ _ _ _ hI (hd.mono (by omega)) hs
    refine' g_aFor walk_range (fun j σ H => ∃ (s : Str) (c : Option V) (M : List (Addr × HO)), σ = [some (.ref m), some (.int many), some (.str "abcdefghijklmnopqrstuvwxyz"), some (.ref found), some (.int shift), some (.int stride), some (.int (i : Int)), some (.str s), c] ∧
      Is B M ((found, .lst xs) :: L) H ∧ Dr m (n + 2 + 8 * (i : Int) + 2 + (j : Int)) B M ∧ VowS j s)
      ⟨_, _, _, rfl, hI, hd, hsaid⟩ (fun _ _ _ _ _ => trivial) ?_ ?_
    · rintro j x σ H H' hj ⟨s, c, M, rfl, hI, hd, hs⟩ ⟨rfl, rfl⟩
      have hj : j < w.toNat := hj
      tm_at "go"
      tm_at "draw"
      refine g_ix_sh hvow (by decide) (by omega) (by rw [hvow2]; omega) ?_
      intro c3 hc3 _
      obtain ⟨hv1, hv2⟩ := hvow3 c3 hc3
      have hs3 := Lets.sign hv2
      refine g_add_sh hs.1.sh hs3.sh (by omega) ?_
      intro _
      tm_at "go"
      exact ⟨_, _, M, rfl, hI, hd.mono (by omega), hs.add hv1 hs3⟩
    · rintro σ H ⟨s, c, M, rfl, hI, hd, hs⟩
      have hw : w.toNat ≤ 5 := by omega
      have hs7 : Lets 7 s := hs.1.mono (by omega)
      tm_at "go"
      refine g_dec (fun h => ?_) (fun h => ?_)
      · tm_at "stop"
        exact key2 _ _ _ _ _ hI (hd.mono (by omega)) ⟨_, rfl, ⟨by decide +kernel, by decide +kernel⟩, by decide +kernel, by decide +kernel⟩
      · tm_at "next"
        exact key2 _ _ _ _ _ hI (hd.mono (by omega)) ⟨_, rfl, hs7.mono (by decide), by have := hs.2.1; omega, hs.bar fun e => h (by rw [e])⟩
  · rintro σ H ⟨a, b, c, M, xs, rfl, hI, hd, hx, hl⟩
    tm_at "go"
    exact q _ _ _ _ hI (hd.mono (by omega)) (fun x hx' => (hx x hx').nm) (by omega)
theorem g_ix_all {K : PySem.W.Frag} {H : Hp} {Q : VK} {a : Addr} {xs : List V} {i : Int} (P : V → Prop) (hs : SqL K H a xs) (h : ∀ x ∈ xs, P x) (h0 : 0 ≤ i) (h1 : i < (xs.length : Int)) (q : ∀ x, P x → Q x H) : rIx K (.ref a) (.int i) H Q := by
  have hl : i.toNat < xs.length := by omega
  exact g_ix_l hs (atI_of h0 (List.getElem?_eq_getElem hl)) (q _ (h _ (List.getElem_mem hl)))
/-! steps are drawn -/
def IsWk (x : V) : Prop := ∃ z, x = .str z ∧ WorkOk z
theorem wk_sew : WorkOk "sew" := ⟨"hand", by decide +kernel⟩
theorem wk_glue : WorkOk "glue" := ⟨"hand", by decide +kernel⟩
theorem wk_cover : WorkOk "cover" := ⟨"hand", by decide +kernel⟩
theorem wk_letter : WorkOk "letter" := ⟨"hand", by decide +kernel⟩
theorem wk_press : WorkOk "press" := ⟨"press", by decide +kernel⟩
def sp_law_step (K : PySem.W.Frag) : Sp := fun vs H Q _ => vs.length = 1 ∧ ∃ (m : Addr) (n : Int) (B : Hp) (M L : List (Addr × HO)), vs = [.ref m] ∧ Is B M L H ∧ Dr m n B M ∧ n < 2 ^ 39 ∧
  ∀ (p : Addr) (r : StepT) (B' H' : Hp) (M' : List (Addr × HO)), Same B B' → Is B' M' L H' → Dr m (n + 9) B' M' → StepG r → B' p = some (.tup [.str r.1, .int r.2.1, .int r.2.2]) → Q (.ref p) H'
theorem ap_law_step {K : PySem.W.Frag} {B H : Hp} {M L : List (Addr × HO)} {Q : VK} {E : XK} {n : Int} {m : Addr} (I : Is B M L H) (d : Dr m n B M) (h : n < 2 ^ 39) (q : ∀ (p : Addr) (r : StepT) (B' H' : Hp) (M' : List (Addr × HO)), Same B B' → Is B' M' L H' → Dr m (n + 9) B' M' → StepG r → B' p = some (.tup [.str r.1, .int r.2.1, .int r.2.2]) → Q (.ref p) H') : sp_law_step K [.ref m] H Q E :=
  ⟨rfl, m, n, B, M, L, rfl, I, d, h, q⟩
abbrev t_law_step_0 (K : PySem.W.Frag) : TS := (tRet (tTup (tCons (tVar 1) (tCons (tVar 2) (tCons (tOp (rIx K) (tLst (tCons (tC (.int 0)) (tCons (tC (.int 0)) (tCons (tCl 2 0 (sp_law_draw K) (fun vs zs => pick .non [0, 1] (vs ++ zs)) E0 (tCons (tVar 0) (tCons (tC (.int 5)) tNil)) tNil) (tCons (tCl 2 0 (sp_law_draw K) (fun vs zs => pick .non [0, 1] (vs ++ zs)) E0 (tCons (tVar 0) (tCons (tC (.int 40)) tNil)) tNil) (tCons (tOp (rI0 fun i j => .int (i - j)) (tC (.int 240)) (tCl 2 0 (sp_law_draw K) (fun vs zs => pick .non [0, 1] (vs ++ zs)) E0 (tCons (tVar 0) (tCons (tC (.int 2)) tNil)) tNil)) tNil)))))) (tCl 2 0 (sp_law_draw K) (fun vs zs => pick .non [0, 1] (vs ++ zs)) E0 (tCons (tVar 0) (tCons (tC (.int 5)) tNil)) tNil)) tNil)))))
abbrev t_law_step_1 (K : PySem.W.Frag) : TS := (tSeq (tAsg (tOp (rAddA K) (tC (.int 1)) (tOp (rIx K) (tLst (tCons (tCl 2 0 (sp_law_draw K) (fun vs zs => pick .non [0, 1] (vs ++ zs)) E0 (tCons (tVar 0) (tCons (tC (.int 4)) tNil)) tNil) (tCons (tCl 2 0 (sp_law_draw K) (fun vs zs => pick .non [0, 1] (vs ++ zs)) E0 (tCons (tVar 0) (tCons (tC (.int 30)) tNil)) tNil) (tCons (tOp (rI0 fun i j => .int (i - j)) (tC (.int 239)) (tCl 2 0 (sp_law_draw K) (fun vs zs => pick .non [0, 1] (vs ++ zs)) E0 (tCons (tVar 0) (tCons (tC (.int 2)) tNil)) tNil)) tNil)))) (tCl 2 0 (sp_law_draw K) (fun vs zs => pick .non [0, 1] (vs ++ zs)) E0 (tCons (tVar 0) (tCons (tC (.int 3)) tNil)) tNil))) (gName 2)) (t_law_step_0 K))
def t_law_step (K : PySem.W.Frag) : TS := (tSeq (tAsg (tOp (rIx K) (tLst (tCons (tC (.str "sew")) (tCons (tC (.str "glue")) (tCons (tC (.str "cover")) (tCons (tC (.str "letter")) (tCons (tC (.str "press")) (tCons (tC (.str "press")) (tCons (tC (.str "press")) tNil)))))))) (tCl 2 0 (sp_law_draw K) (fun vs zs => pick .non [0, 1] (vs ++ zs)) E0 (tCons (tVar 0) (tCons (tC (.int 7)) tNil)) tNil)) (gName 1)) (t_law_step_1 K))
theorem rd_law_step {K : PySem.W.Frag} (vs : List V) (H : Hp) (Q : VK) (E : XK) (h : sp_law_step K vs H Q E) : t_law_step K { nx := fun _ H' => Q .non H', rt := Q } (start ["m", "said", "few"] vs) H := by
  obtain ⟨_, m, n, B, M, L, rfl, hI, hd, h1, q⟩ := h
  show t_law_step K ⟨_, _, _, _⟩ [some (.ref m), none, none] H
  unfold t_law_step
  tm_at "go"
  tm_at "draw"
  refine g_ix_all IsWk (by tm_at "sq") (by
    intro x hx
    simp only [List.mem_cons, List.not_mem_nil, or_false] at hx
    rcases hx with rfl | rfl | rfl | rfl | rfl | rfl | rfl
    · exact ⟨_, rfl, wk_sew⟩
    · exact ⟨_, rfl, wk_glue⟩
    · exact ⟨_, rfl, wk_cover⟩
    · exact ⟨_, rfl, wk_letter⟩
    · exact ⟨_, rfl, wk_press⟩
    · exact ⟨_, rfl, wk_press⟩
    · exact ⟨_, rfl, wk_press⟩) hr0 (by tm_at "arith") ?_
  rintro _ ⟨z, rfl, hz⟩
  tm_at "go"
  tm_at "draw"
  tm_at "go"
  tm_at "draw"
  tm_at "go"
  tm_at "draw"
  tm_at "go"
  tm_at "draw"
  refine g_ix_ints (lo := 0) (hi := 239) (by tm_at "sq") (by repeat (first | exact Ints.nil | refine Ints.cons (by omega) ?_)) hr0 (by tm_at "arith") ?_
  intro w hw0 hw1
  tm_at "go"
  tm_at "draw"
  tm_at "go"
  tm_at "draw"
  tm_at "go"
  tm_at "draw"
  tm_at "go"
  tm_at "draw"
  refine g_ix_ints (lo := 0) (hi := 240) (by tm_at "sq") (by repeat (first | exact Ints.nil | refine Ints.cons (by omega) ?_)) hr0 (by tm_at "arith") ?_
  intro t ht0 ht1
  tm_at "go"
  refine' hI.give (a := p) (by tm_at "del") ?_
  clear hI
  intro B2 s2 hp hI
  exact q p (z, 1 + w, t) B2 _ _ s2 (hI.forget (by tm_at "sub")) ((hd.mono (by omega)).same s2) ⟨hz, by show (1 : Int) ≤ 1 + w; omega, by show 1 + w ≤ (240 : Int); omega, ht0, ht1⟩ hp
/-! steps -/
def sp_law_steps (K : PySem.W.Frag) : Sp := fun vs H Q _ => vs.length = 2 ∧ ∃ (m : Addr) (many n : Int) (B : Hp) (M L : List (Addr × HO)), vs = [.ref m, .int many] ∧ Is B M L H ∧ Dr m n B M ∧ n < 2 ^ 38 ∧ 1 ≤ many ∧ many ≤ 12 ∧
  ∀ (p : Addr) (xs : List V) (rs : List StepT) (B' H' : Hp) (M' : List (Addr × HO)), Same B B' → Is B' M' L H' → Dr m (n + 109) B' M' → StepsB B' xs rs → (∀ r ∈ rs, StepG r) → 1 ≤ rs.length → rs.length ≤ 12 → B' p = some (.lst xs) → Q (.ref p) H'
theorem ap_law_steps {K : PySem.W.Frag} {B H : Hp} {M L : List (Addr × HO)} {Q : VK} {E : XK} {many n : Int} {m : Addr} (I : Is B M L H) (d : Dr m n B M) (h : n < 2 ^ 38) (h1 : 1 ≤ many) (h2 : many ≤ 12) (q : ∀ (p : Addr) (xs : List V) (rs : List StepT) (B' H' : Hp) (M' : List (Addr × HO)), Same B B' → Is B' M' L H' → Dr m (n + 109) B' M' → StepsB B' xs rs → (∀ r ∈ rs, StepG r) → 1 ≤ rs.length → rs.length ≤ 12 → B' p = some (.lst xs) → Q (.ref p) H') : sp_law_steps K [.ref m, .int many] H Q E :=
  ⟨rfl, m, many, n, B, M, L, rfl, I, d, h, h1, h2, q⟩
def t_law_steps (K : PySem.W.Frag) : TS := (tRet (tLc (iRng1 (tCons (tOp (rAddA K) (tC (.int 1)) (tCl 2 0 (sp_law_draw K) (fun vs zs => pick .non [0, 1] (vs ++ zs)) E0 (tCons (tVar 0) (tCons (tVar 1) tNil)) tNil)) tNil)) (gName 2) tYes (tCl 1 0 (sp_law_step K) (fun vs zs => pick .non [0] (vs ++ zs)) E0 (tCons (tVar 0) tNil) tNil) [2]))
theorem rd_law_steps {K : PySem.W.Frag} (vs : List V) (H : Hp) (Q : VK) (E : XK) (h : sp_law_steps K vs H Q E) : t_law_steps K { nx := fun _ H' => Q .non H', rt := Q } (start ["m", "many", "k"] vs) H := by
  obtain ⟨_, m, many, n, B, M, L, rfl, hI, hd, h1, h2, h3, q⟩ := h
  show t_law_steps K ⟨_, _, _, _⟩ [some (.ref m), some (.int many), none] H
  unfold t_law_steps
  tm_at "go"
  tm_at "draw"
  tm_at "go"
  have hd : Dr m (n + 1 + 9 * ((0 : Nat) : Int)) B M := hd.mono (by omega)
  refine' g_aLc walk_range hI (by tm_at "wiped") (by omega) (fun i acc B2 M' => Dr m (n + 1 + 9 * (i : Int)) B2 M' ∧ ∃ rs, StepsB B2 acc rs ∧ rs.length = i ∧ ∀ r ∈ rs, StepG r) ⟨hd, [], .nil, rfl, fun _ h => by cases h⟩ (fun _ _ _ _ _ _ _ _ _ _ => trivial) ?_ ?_
  · rintro i x acc B2 M' D H' H'' hi s2 hI ⟨hd, rs, hrs, hrl, hrg⟩ ⟨rfl, rfl⟩ hz
    have hi : i < (1 + r).toNat := hi
    tm_at "go"
    refine' g_wiped (by tm_at "wiped") ?_
    tm_at "go"
    refine' ap_law_step (K := K) hI hd (by omega) ?_
    clear hI hd
    intro p st B3 H M3 s3 hI hd hg hp
    refine lcY (s2.trans s3) hI hz ⟨hd.mono (by omega), rs ++ [st], (hrs.same s3).snoc ⟨p, rfl, hp⟩, by simp [hrl], fun y hy => ?_⟩
    rcases List.mem_append.mp hy with h | h
    · exact hrg y h
    · rw [List.mem_singleton.mp h]
      exact hg
  clear hI hd
  rintro acc B2 M D H s2 hI ⟨hd, rs, hrs, hrl, hrg⟩ _
  have hrl : rs.length = (1 + r).toNat := hrl
  refine' hI.give (a := D) (by tm_at "del") ?_
  clear hI
  intro B3 s3 hp hI
  exact q D acc rs B3 _ _ (s2.trans s3) hI ((hd.mono (by omega)).same s3) (hrs.same s3) hrg (by omega) (by omega) hp
/-! styles -/
def IsPS (B : Hp) (x : V) : Prop := ∃ a nm rs, x = .ref a ∧ PlainS B a nm rs
theorem IsPS.same {B B' : Hp} {x : V} (h : IsPS B x) (e : Same B B') : IsPS B' x := by
  obtain ⟨a, nm, rs, rfl, h⟩ := h
  exact ⟨a, nm, rs, rfl, h.same e⟩
def sp_law_styles (K : PySem.W.Frag) : Sp := fun vs H Q _ => vs.length = 3 ∧ ∃ (m w : Addr) (ws : List V) (many n : Int) (B : Hp) (M L : List (Addr × HO)), vs = [.ref m, .ref w, .int many] ∧ Is B M L H ∧ Dr m n B M ∧ n < 2 ^ 37 ∧ 1 ≤ many ∧ many ≤ 4 ∧ B w = some (.lst ws) ∧ 4 ≤ ws.length ∧ (∀ x ∈ ws, IsNm x) ∧
  ∀ (p : Addr) (xs : List V) (B' H' : Hp) (M' : List (Addr × HO)), Same B B' → Is B' M' L H' → Dr m (n + 441) B' M' → (∀ x ∈ xs, IsPS B' x) → 1 ≤ xs.length → xs.length ≤ 4 → B' p = some (.lst xs) → Q (.ref p) H'
theorem ap_law_styles {K : PySem.W.Frag} {B H : Hp} {M L : List (Addr × HO)} {Q : VK} {E : XK} {many n : Int} {m w : Addr} {ws : List V} (I : Is B M L H) (d : Dr m n B M) (h : n < 2 ^ 37) (h1 : 1 ≤ many) (h2 : many ≤ 4) (hw : B w = some (.lst ws)) (hw4 : 4 ≤ ws.length) (hnm : ∀ x ∈ ws, IsNm x) (q : ∀ (p : Addr) (xs : List V) (B' H' : Hp) (M' : List (Addr × HO)), Same B B' → Is B' M' L H' → Dr m (n + 441) B' M' → (∀ x ∈ xs, IsPS B' x) → 1 ≤ xs.length → xs.length ≤ 4 → B' p = some (.lst xs) → Q (.ref p) H') : sp_law_styles K [.ref m, .ref w, .int many] H Q E :=
  ⟨rfl, m, w, ws, many, n, B, M, L, rfl, I, d, h, h1, h2, hw, hw4, hnm, q⟩
abbrev t_law_styles_0 (K : PySem.W.Frag) : TS := (tDrop (tBM K "list" rAppend (tVar 3) (tCons (tTup (tCons (tOp (rIx K) (tVar 1) (tVar 4)) (tCons (tCl 2 0 (sp_law_steps K) (fun vs zs => pick .non [0, 1] (vs ++ zs)) E0 (tCons (tVar 0) (tCons (tOp (rIx K) (tLst (tCons (tC (.int 4)) (tCons (tC (.int 4)) (tCons (tC (.int 12)) tNil)))) (tCl 2 0 (sp_law_draw K) (fun vs zs => pick .non [0, 1] (vs ++ zs)) E0 (tCons (tVar 0) (tCons (tC (.int 3)) tNil)) tNil)) tNil)) tNil) tNil))) tNil)))
abbrev t_law_styles_1 (K : PySem.W.Frag) : TS := (tRet (tVar 3))
abbrev t_law_styles_2 (K : PySem.W.Frag) : TS := (tSeq (tFor (iRng1 (tCons (tOp (rAddA K) (tC (.int 1)) (tCl 2 0 (sp_law_draw K) (fun vs zs => pick .non [0, 1] (vs ++ zs)) E0 (tCons (tVar 0) (tCons (tVar 2) tNil)) tNil)) tNil)) (gName 4) (t_law_styles_0 K)) (t_law_styles_1 K))
def t_law_styles (K : PySem.W.Frag) : TS := (tSeq (tAsg (tLst tNil) (gName 3)) (t_law_styles_2 K))
theorem rd_law_styles {K : PySem.W.Frag} (vs : List V) (H : Hp) (Q : VK) (E : XK) (h : sp_law_styles K vs H Q E) : t_law_styles K { nx := fun _ H' => Q .non H', rt := Q } (start ["m", "w", "many", "found", "k"] vs) H := by
  obtain ⟨_, m, w, ws, many, n, B, M, L, rfl, hI, hd, h1, h2, h3, hw, hw4, hnm, q⟩ := h
  show t_law_styles K ⟨_, _, _, _⟩ [some (.ref m), some (.ref w), some (.int many), none, none] H
  unfold t_law_styles
  tm_at "go"
  obtain ⟨found, rfl⟩ : ∃ q, q = p := ⟨_, rfl⟩
  tm_at "draw"
  tm_at "go"
  have hd : Dr m (n + 1 + 110 * ((0 : Nat) : Int)) B M := hd.mono (by omega)
  refine' g_aFor walk_range (fun i σ H => ∃ (c : Option V) (B2 : Hp) (M : List (Addr × HO)) (xs : List V), σ = [some (.ref m), some (.ref w), some (.int many), some (.ref found), c] ∧
      Same B B2 ∧ Is B2 M ((found, .lst xs) :: L) H ∧ Dr m (n + 1 + 110 * (i : Int)) B2 M ∧ (∀ x ∈ xs, IsPS B2 x) ∧ xs.length = i)
      ⟨_, B, _, [], rfl, fun _ _ e => e, hI, hd, (fun _ h => by cases h), rfl⟩ (fun _ _ _ _ _ => trivial) ?_ ?_
  · rintro i x σ H H' hi ⟨c, B2, M, xs, rfl, s2, hI, hd, hx, hl⟩ ⟨rfl, rfl⟩
    have hi : i < (1 + r).toNat := hi
    replace hw := s2 _ _ hw
    tm_at "go"
    refine g_ix_nm (by tm_at "sq") hnm (by omega) (by omega) ?_
    intro nm g1 g2 _
    tm_at "go"
    tm_at "draw"
    refine g_ix_ints (lo := 4) (hi := 12) (by tm_at "sq") (by repeat (first | exact Ints.nil | refine Ints.cons (by omega) ?_)) hr0 (by tm_at "arith") ?_
    intro u hu0 hu1
    tm_at "go"
    refine' ap_law_steps (K := K) hI hd (by omega) (by omega) (by omega) ?_
    clear hI hd
    intro ps ys rs B3 H M3 s3 hI hd hys hg l0 l1 hps
    tm_at "go"
    refine' hI.give (a := p) (by tm_at "del") ?_
    clear hI
    intro B4 s4 hp hI
    refine ⟨_, B4, _, _, rfl, (s2.trans s3).trans s4, hI.forget (L' := (found, .lst (xs ++ [V.ref p])) :: L) (by tm_at "sub"), (hd.mono (by omega)).same s4, fun x hx' => ?_, by simp [hl]⟩
    rcases List.mem_append.mp hx' with h | h
    · exact (hx x h).same (s3.trans s4)
    · rw [List.mem_singleton.mp h]
      exact ⟨p, nm, rs, rfl, ⟨ps, ys, hp, s4 _ _ hps, hys.same s4⟩, ⟨g1, g2⟩, l0, l1, hg⟩
  · rintro σ H ⟨c, B2, M, xs, rfl, s2, hI, hd, hx, hl⟩
    have hl : xs.length = (1 + r).toNat := hl
    tm_at "go"
    refine' hI.give (a := found) (by tm_at "del") ?_
    clear hI
    intro B4 s4 hp hI
    exact q found xs B4 _ _ (s2.trans s4) hI ((hd.mono (by omega)).same s4) (fun x hx' => (hx x hx').same s4) (by omega) (by omega) hp
/-! numbers -/
def sp_law_numbers (K : PySem.W.Frag) : Sp := fun vs H Q _ => vs.length = 2 ∧ ∃ (m : Addr) (many n : Int) (B : Hp) (M L : List (Addr × HO)), vs = [.ref m, .int many] ∧ Is B M L H ∧ Dr m n B M ∧ n < 2 ^ 38 ∧ 0 ≤ many ∧ many ≤ 1000 ∧
  ∀ (p : Addr) (xs : List V) (H' : Hp) (M' : List (Addr × HO)), Is B M' ((p, .lst xs) :: L) H' → Dr m (n + 2) B M' → Ints 1 99999 xs → (xs.length : Int) = many → Q (.ref p) H'
theorem ap_law_numbers {K : PySem.W.Frag} {B H : Hp} {M L : List (Addr × HO)} {Q : VK} {E : XK} {many n : Int} {m : Addr} (I : Is B M L H) (d : Dr m n B M) (h : n < 2 ^ 38) (h1 : 0 ≤ many) (h2 : many ≤ 1000) (q : ∀ (p : Addr) (xs : List V) (H' : Hp) (M' : List (Addr × HO)), Is B M' ((p, .lst xs) :: L) H' → Dr m (n + 2) B M' → Ints 1 99999 xs → (xs.length : Int) = many → Q (.ref p) H') : sp_law_numbers K [.ref m, .int many] H Q E :=
  ⟨rfl, m, many, n, B, M, L, rfl, I, d, h, h1, h2, q⟩
abbrev t_law_numbers_0 (K : PySem.W.Frag) : TS := (tRet (tLc (iRng1 (tCons (tVar 1) tNil)) (gName 4) tYes (tOp (rAddA K) (tC (.int 1)) (tOp (rI (fun _ j => 0 < j) fun i j => .int (i % j)) (tOp (rAddA K) (tVar 2) (tOp rMulA (tOp rMulA (tVar 3) (tVar 4)) (tOp (rAddA K) (tVar 4) (tC (.int 1))))) (tC (.int 99999)))) [4]))
def t_law_numbers (K : PySem.W.Frag) : TS := (tSeq (tAsg (tTup (tCons (tCl 2 0 (sp_law_draw K) (fun vs zs => pick .non [0, 1] (vs ++ zs)) E0 (tCons (tVar 0) (tCons (tC (.int 99999)) tNil)) tNil) (tCons (tOp (rIx K) (tLst (tCons (tC (.int 1)) (tCons (tC (.int 2)) (tCons (tC (.int 7)) (tCons (tC (.int 1009)) (tCons (tC (.int 33331)) tNil)))))) (tCl 2 0 (sp_law_draw K) (fun vs zs => pick .non [0, 1] (vs ++ zs)) E0 (tCons (tVar 0) (tCons (tC (.int 5)) tNil)) tNil)) tNil))) (gTup K 2 (gCons (gName 2) (gCons (gName 3) gNil)))) (t_law_numbers_0 K))
theorem rd_law_numbers {K : PySem.W.Frag} (vs : List V) (H : Hp) (Q : VK) (E : XK) (h : sp_law_numbers K vs H Q E) : t_law_numbers K { nx := fun _ H' => Q .non H', rt := Q } (start ["m", "many", "first", "stride", "k"] vs) H := by
  obtain ⟨_, m, many, n, B, M, L, rfl, hI, hd, h1, h2, h3, q⟩ := h
  show t_law_numbers K ⟨_, _, _, _⟩ [some (.ref m), some (.int many), none, none, none] H
  unfold t_law_numbers
  tm_at "go"
  tm_at "draw"
  revert r
  intro first hf0 hf1
  tm_at "go"
  tm_at "draw"
  refine g_ix_ints (lo := 1) (hi := 33331) (by tm_at "sq") (by repeat (first | exact Ints.nil | refine Ints.cons (by omega) ?_)) hr0 (by tm_at "arith") ?_
  intro stride ht0 ht1
  tm_at "go"
  replace hI := hI.forget (L' := L) (by tm_at "sub")
  refine' g_aLc walk_range hI (by tm_at "wiped") (by omega) (fun i acc B2 M' => B = B2 ∧ Dr m (n + 2) B M' ∧ Ints 1 99999 acc ∧ acc.length = i) ⟨rfl, hd.mono (by omega), Ints.nil, rfl⟩ (fun _ _ _ _ _ _ _ _ _ _ => trivial) ?_ ?_
  · rintro i x acc B2 M' D H' H'' hi s2 hI ⟨rfl, hd, hta, hla⟩ ⟨rfl, rfl⟩ hz
    have hi : i < many.toNat := hi
    tm_at "go"
    refine' g_wiped (by tm_at "wiped") ?_
    tm_at "go"
    refine lcY s2 hI hz ⟨rfl, hd, hta.snoc ⟨?_, ?_⟩, by simp [hla]⟩
    · have := Int.emod_nonneg (first + stride * (0 + (i : Int)) * (0 + (i : Int) + 1)) (show (99999 : Int) ≠ 0 by decide)
      omega
    · have := Int.emod_lt_of_pos (first + stride * (0 + (i : Int)) * (0 + (i : Int) + 1)) (show (0 : Int) < 99999 by decide)
      omega
  clear hI hd
  rintro ys B2 M D H s2 hI ⟨rfl, hd, hy, hyl⟩ _
  have hyl : ys.length = many.toNat := hyl
  tm_at "go"
  exact q D ys H M hI hd hy (by omega)
/-! a job -/
def stDur (r : StepT) : Int := r.2.1 + r.2.2
theorem sum_steps : ∀ (rs : List StepT), (∀ r ∈ rs, StepG r) → 0 ≤ (rs.map stDur).sum ∧ (rs.map stDur).sum ≤ 480 * (rs.length : Int)
  | [], _ => by simp
  | r :: rs, h => by
    have ih := sum_steps rs fun x hx => h x (List.mem_cons_of_mem _ hx)
    obtain ⟨_, h1, h2, h3, h4⟩ := h r List.mem_cons_self
    rw [List.map_cons, List.sum_cons, List.length_cons]
    unfold stDur at *
    omega
def sp_law_plain_job (K : PySem.W.Frag) : Sp := fun vs H Q _ => vs.length = 4 ∧ ∃ (m p : Addr) (figure early n : Int) (nm : Str) (rs : List StepT) (B : Hp) (M L : List (Addr × HO)), vs = [.ref m, .int figure, .ref p, .int early] ∧ Is B M L H ∧ Dr m n B M ∧ n < 2 ^ 38 ∧ 1 ≤ figure ∧ figure ≤ 99999 ∧ 0 ≤ early ∧ early ≤ 988000 ∧ PlainS B p nm rs ∧
  ∀ (x : Addr) (j : JobT) (B' H' : Hp) (M' : List (Addr × HO)), Same B B' → Is B' M' L H' → Dr m (n + 7) B' M' → PlainJ B' x j → Q (.ref x) H'
theorem ap_law_plain_job {K : PySem.W.Frag} {B H : Hp} {M L : List (Addr × HO)} {Q : VK} {E : XK} {m p : Addr} {figure early n : Int} {nm : Str} {rs : List StepT} (I : Is B M L H) (d : Dr m n B M) (h : n < 2 ^ 38) (h1 : 1 ≤ figure) (h2 : figure ≤ 99999) (h3 : 0 ≤ early) (h4 : early ≤ 988000) (hp : PlainS B p nm rs) (q : ∀ (x : Addr) (j : JobT) (B' H' : Hp) (M' : List (Addr × HO)), Same B B' → Is B' M' L H' → Dr m (n + 7) B' M' → PlainJ B' x j → Q (.ref x) H') : sp_law_plain_job K [.ref m, .int figure, .ref p, .int early] H Q E :=
  ⟨rfl, m, p, figure, early, n, nm, rs, B, M, L, rfl, I, d, h, h1, h2, h3, h4, hp, q⟩
abbrev t_law_plain_job_0 (K : PySem.W.Frag) : TS := (tRet (tTup (tCons (tVar 1) (tCons (tVar 2) (tCons (tVar 5) (tCons (tOp (rAddA K) (tVar 5) (tVar 6)) (tCons (tOp (rIx K) (tLst (tCons (tC (.bl false)) (tCons (tC (.bl false)) (tCons (tC (.bl true)) tNil)))) (tCl 2 0 (sp_law_draw K) (fun vs zs => pick .non [0, 1] (vs ++ zs)) E0 (tCons (tVar 0) (tCons (tC (.int 3)) tNil)) tNil)) tNil)))))))
abbrev t_law_plain_job_1 (K : PySem.W.Frag) : TS := (tSeq (tAsg (tOp (rIx K) (tLst (tCons (tC (.int 0)) (tCons (tCl 2 0 (sp_law_draw K) (fun vs zs => pick .non [0, 1] (vs ++ zs)) E0 (tCons (tVar 0) (tCons (tC (.int 9)) tNil)) tNil) (tCons (tCl 2 0 (sp_law_draw K) (fun vs zs => pick .non [0, 1] (vs ++ zs)) E0 (tCons (tVar 0) (tCons (tOp (rAddA K) (tOp rMulA (tC (.int 2)) (tVar 4)) (tC (.int 1))) tNil)) tNil) (tCons (tVar 4) tNil))))) (tCl 2 0 (sp_law_draw K) (fun vs zs => pick .non [0, 1] (vs ++ zs)) E0 (tCons (tVar 0) (tCons (tC (.int 4)) tNil)) tNil)) (gName 6)) (t_law_plain_job_0 K))
abbrev t_law_plain_job_2 (K : PySem.W.Frag) : TS := (tSeq (tAsg (tOp (rAddA K) (tVar 3) (tOp (rIx K) (tLst (tCons (tC (.int 0)) (tCons (tCl 2 0 (sp_law_draw K) (fun vs zs => pick .non [0, 1] (vs ++ zs)) E0 (tCons (tVar 0) (tCons (tC (.int 9)) tNil)) tNil) (tCons (tCl 2 0 (sp_law_draw K) (fun vs zs => pick .non [0, 1] (vs ++ zs)) E0 (tCons (tVar 0) (tCons (tC (.int 200)) tNil)) tNil) tNil)))) (tCl 2 0 (sp_law_draw K) (fun vs zs => pick .non [0, 1] (vs ++ zs)) E0 (tCons (tVar 0) (tCons (tC (.int 3)) tNil)) tNil))) (gName 5)) (t_law_plain_job_1 K))
def t_law_plain_job (K : PySem.W.Frag) : TS := (tSeq (tAsg (tCB (rSum K) (tCons (tLc (iAny K (tOp (rIx K) (tVar 2) (tC (.int 1)))) (gName 7) tYes (tOp (rAddA K) (tOp (rIx K) (tVar 7) (tC (.int 1))) (tOp (rIx K) (tVar 7) (tC (.int 2)))) [7]) tNil)) (gName 4)) (t_law_plain_job_2 K))
theorem rd_law_plain_job {K : PySem.W.Frag} (vs : List V) (H : Hp) (Q : VK) (E : XK) (h : sp_law_plain_job K vs H Q E) : t_law_plain_job K { nx := fun _ H' => Q .non H', rt := Q } (start ["m", "figure", "plain", "early", "span", "came", "room", "row"] vs) H := by
  obtain ⟨_, m, pl, figure, early, n, nm, rs, B, M, L, rfl, hI, hd, h1, f0, f1, e0, e1, hP, q⟩ := h
  show t_law_plain_job K ⟨_, _, _, _⟩ [some (.ref m), some (.int figure), some (.ref pl), some (.int early), none, none, none, none] H
  obtain ⟨⟨a, xs, p1, p2, p3⟩, hg⟩ := id hP
  have hl := p3.len
  have hl1 := hg.l1
  unfold t_law_plain_job
  tm_at "go"
  refine g_ix_t (by tm_at "st") (atI_of (by decide) rfl) ?_
  tm_at "go"
  refine' g_lcX (xs := xs) ((rs.map stDur).map V.int) (by simp [hl]) walk_list hI (by tm_at "wiped") (by omega) (fun D acc H' I => SqL.of (I.b p2)) ?_ ?_
  · intro i x y D acc H' hx hy hI PY hPY
    obtain ⟨r, e, b, rfl, hb⟩ := p3.get hx
    tm_at "go"
    refine' g_wiped (by tm_at "wiped") ?_
    tm_at "go"
    refine g_ix_t (by tm_at "st") (atI_of (by decide) rfl) ?_
    tm_at "go"
    refine g_ix_t (by tm_at "st") (atI_of (by decide) rfl) ?_
    tm_at "go"
    have ey : y = .int (stDur r) := by
      rw [List.getElem?_map, List.getElem?_map, e] at hy
      exact (Option.some.inj hy).symm
    rw [ey] at hPY
    exact hPY _ hI
  clear hI
  intro D H hI
  tm_at "go"
  refine g_sum (by tm_at "sq") ?_
  obtain ⟨q0, q1⟩ := sum_steps rs hg.row
  generalize (rs.map stDur).sum = span at *
  replace hI := hI.forget (L' := L) (by tm_at "sub")
  tm_at "go"
  tm_at "draw"
  tm_at "go"
  tm_at "draw"
  tm_at "go"
  tm_at "draw"
  refine g_ix_ints (lo := 0) (hi := 199) (by tm_at "sq") (by repeat (first | exact Ints.nil | refine Ints.cons (by omega) ?_)) hr0 (by tm_at "arith") ?_
  intro c hc0 hc1
  replace hI := hI.forget (L' := L) (by tm_at "sub")
  tm_at "go"
  tm_at "draw"
  tm_at "go"
  tm_at "draw"
  tm_at "go"
  tm_at "draw"
  refine g_ix_ints (lo := 0) (hi := 11520) (by tm_at "sq") (by repeat (first | exact Ints.nil | refine Ints.cons (by omega) ?_)) hr0 (by tm_at "arith") ?_
  intro u hu0 hu1
  replace hI := hI.forget (L' := L) (by tm_at "sub")
  tm_at "go"
  tm_at "draw"
  refine g_ix_all (fun x => ∃ b, x = V.bl b) (by tm_at "sq") (by
    intro x hx
    simp only [List.mem_cons, List.not_mem_nil, or_false] at hx
    rcases hx with rfl | rfl | rfl <;> exact ⟨_, rfl⟩) hr0 (by tm_at "arith") ?_
  rintro _ ⟨b, rfl⟩
  tm_at "go"
  refine' hI.give (a := p) (by tm_at "del") ?_
  clear hI
  intro B4 s4 hp hI
  exact q p ⟨figure, nm, rs, early + c, early + c + u, b⟩ B4 _ _ s4 (hI.forget (by tm_at "sub")) ((hd.mono (by omega)).same s4) ⟨⟨pl, hp, hP.same s4⟩, hg, f0, f1, by show 0 ≤ early + c; omega, by show early + c ≤ 1000000; omega, by show early + c ≤ early + c + u; omega, by show early + c + u ≤ 1000000; omega⟩
/-! jobs -/
def IsPJ (B : Hp) (x : V) : Prop := ∃ a j, x = .ref a ∧ PlainJ B a j
theorem IsPJ.same {B B' : Hp} {x : V} (h : IsPJ B x) (e : Same B B') : IsPJ B' x := by
  obtain ⟨a, j, rfl, h⟩ := h
  exact ⟨a, j, rfl, h.same e⟩
def sp_law_plain_jobs (K : PySem.W.Frag) : Sp := fun vs H Q _ => vs.length = 3 ∧ ∃ (m st : Addr) (ss : List V) (many n : Int) (B : Hp) (M L : List (Addr × HO)), vs = [.ref m, .ref st, .int many] ∧ Is B M L H ∧ Dr m n B M ∧ n < 2 ^ 37 ∧ 1 ≤ many ∧ many ≤ 100 ∧ B st = some (.lst ss) ∧ (∀ x ∈ ss, IsPS B x) ∧ 1 ≤ ss.length ∧ ss.length ≤ 4 ∧
  ∀ (p : Addr) (xs : List V) (B' H' : Hp) (M' : List (Addr × HO)), Same B B' → Is B' M' L H' → Dr m (n + 5 + 8 * many) B' M' → (∀ x ∈ xs, IsPJ B' x) → (xs.length : Int) ≤ many → B' p = some (.lst xs) → Q (.ref p) H'
theorem ap_law_plain_jobs {K : PySem.W.Frag} {B H : Hp} {M L : List (Addr × HO)} {Q : VK} {E : XK} {m st : Addr} {ss : List V} {many n : Int} (I : Is B M L H) (d : Dr m n B M) (h : n < 2 ^ 37) (h1 : 1 ≤ many) (h2 : many ≤ 100) (hs : B st = some (.lst ss)) (hS : ∀ x ∈ ss, IsPS B x) (hs1 : 1 ≤ ss.length) (hs2 : ss.length ≤ 4) (q : ∀ (p : Addr) (xs : List V) (B' H' : Hp) (M' : List (Addr × HO)), Same B B' → Is B' M' L H' → Dr m (n + 5 + 8 * many) B' M' → (∀ x ∈ xs, IsPJ B' x) → (xs.length : Int) ≤ many → B' p = some (.lst xs) → Q (.ref p) H') : sp_law_plain_jobs K [.ref m, .ref st, .int many] H Q E :=
  ⟨rfl, m, st, ss, many, n, B, M, L, rfl, I, d, h, h1, h2, hs, hS, hs1, hs2, q⟩
abbrev t_law_plain_jobs_0 (K : PySem.W.Frag) : TS := (tDrop (tBM K "list" rAppend (tVar 5) (tCons (tCl 4 0 (sp_law_plain_job K) (fun vs zs => pick .non [0, 1, 2, 3] (vs ++ zs)) E0 (tCons (tVar 0) (tCons (tOp (rIx K) (tVar 4) (tVar 6)) (tCons (tOp (rIx K) (tVar 1) (tCl 2 0 (sp_law_draw K) (fun vs zs => pick .non [0, 1] (vs ++ zs)) E0 (tCons (tVar 0) (tCons (tCB (rLen K) (tCons (tVar 1) tNil)) tNil)) tNil)) (tCons (tVar 3) tNil)))) tNil) tNil)))
abbrev t_law_plain_jobs_1 (K : PySem.W.Frag) : TS := (tRet (tVar 5))
abbrev t_law_plain_jobs_2 (K : PySem.W.Frag) : TS := (tSeq (tFor (iRng1 (tCons (tCl 2 0 (sp_law_draw K) (fun vs zs => pick .non [0, 1] (vs ++ zs)) E0 (tCons (tVar 0) (tCons (tOp (rAddA K) (tVar 2) (tC (.int 1))) tNil)) tNil) tNil)) (gName 6) (t_law_plain_jobs_0 K)) (t_law_plain_jobs_1 K))
abbrev t_law_plain_jobs_3 (K : PySem.W.Frag) : TS := (tSeq (tAsg (tLst tNil) (gName 5)) (t_law_plain_jobs_2 K))
abbrev t_law_plain_jobs_4 (K : PySem.W.Frag) : TS := (tSeq (tAsg (tCl 2 0 (sp_law_numbers K) (fun vs zs => pick .non [0, 1] (vs ++ zs)) E0 (tCons (tVar 0) (tCons (tVar 2) tNil)) tNil) (gName 4)) (t_law_plain_jobs_3 K))
def t_law_plain_jobs (K : PySem.W.Frag) : TS := (tSeq (tAsg (tOp (rIx K) (tLst (tCons (tC (.int 0)) (tCons (tCl 2 0 (sp_law_draw K) (fun vs zs => pick .non [0, 1] (vs ++ zs)) E0 (tCons (tVar 0) (tCons (tC (.int 1000)) tNil)) tNil) (tCons (tOp (rI0 fun i j => .int (i - j)) (tOp (rI CPow fun i j => .int (i ^ j.toNat)) (tC (.int 10)) (tC (.int 6))) (tC (.int 12000))) tNil)))) (tCl 2 0 (sp_law_draw K) (fun vs zs => pick .non [0, 1] (vs ++ zs)) E0 (tCons (tVar 0) (tCons (tC (.int 3)) tNil)) tNil)) (gName 3)) (t_law_plain_jobs_4 K))
theorem rd_law_plain_jobs {K : PySem.W.Frag} (vs : List V) (H : Hp) (Q : VK) (E : XK) (h : sp_law_plain_jobs K vs H Q E) : t_law_plain_jobs K { nx := fun _ H' => Q .non H', rt := Q } (start ["m", "styles", "many", "early", "numbers", "found", "k"] vs) H := by
  obtain ⟨_, m, st, ss, many, n, B, M, L, rfl, hI, hd, h1, h2, h3, hst, hS, hs1, hs2, q⟩ := h
  show t_law_plain_jobs K ⟨_, _, _, _⟩ [some (.ref m), some (.ref st), some (.int many), none, none, none, none] H
  unfold t_law_plain_jobs
  tm_at "go"
  tm_at "draw"
  tm_at "go"
  tm_at "draw"
  refine g_ix_ints (lo := 0) (hi := 988000) (by tm_at "sq") (by repeat (first | exact Ints.nil | refine Ints.cons (by omega) ?_)) hr0 (by tm_at "arith") ?_
  intro early he0 he1
  replace hI := hI.forget (L' := L) (by tm_at "sub")
  tm_at "go"
  refine' ap_law_numbers (K := K) hI hd (by omega) (by omega) (by omega) ?_
  clear hI hd
  intro pn ns H M hI hd hns hnl
  tm_at "go"
  obtain ⟨found, rfl⟩ : ∃ q, q = p := ⟨_, rfl⟩
  tm_at "draw"
  tm_at "go"
  have hd : Dr m (n + 5 + 8 * ((0 : Nat) : Int)) B M := hd.mono (by omega)
  refine' g_aFor walk_range (fun i σ H => ∃ (c : Option V) (B2 : Hp) (M : List (Addr × HO)) (xs : List V), σ = [some (.ref m), some (.ref st), some (.int many), some (.int early), some (.ref pn), some (.ref found), c] ∧
      Same B B2 ∧ Is B2 M ((found, .lst xs) :: (pn, .lst ns) :: L) H ∧ Dr m (n + 5 + 8 * (i : Int)) B2 M ∧ (∀ x ∈ xs, IsPJ B2 x) ∧ xs.length = i)
      ⟨_, B, _, [], rfl, fun _ _ e => e, hI, hd, (fun _ h => by cases h), rfl⟩ (fun _ _ _ _ _ => trivial) ?_ ?_
  · rintro i x σ H H' hi ⟨c, B2, M, xs, rfl, s2, hI, hd, hx, hl⟩ ⟨rfl, rfl⟩
    have hi : i < r.toNat := hi
    replace hst := s2 _ _ hst
    tm_at "go"
    refine g_ix_ints (by tm_at "sq") hns (by omega) (by omega) ?_
    intro fig hf0 hf1
    tm_at "go"
    tm_at "draw"
    refine g_ix_all (IsPS B) (SqL.of (hI.b hst)) hS (by omega) (by omega) ?_
    rintro _ ⟨a, nm, rs, rfl, hP⟩
    tm_at "go"
    refine' ap_law_plain_job (K := K) hI hd (by omega) hf0 hf1 he0 he1 (hP.same s2) ?_
    clear hI hd
    intro z j B3 H M3 s3 hI hd hJ
    tm_at "go"
    refine ⟨_, B3, _, _, rfl, s2.trans s3, hI, hd.mono (by omega), fun x hx' => ?_, by simp [hl]⟩
    rcases List.mem_append.mp hx' with h | h
    · exact (hx x h).same s3
    · rw [List.mem_singleton.mp h]
      exact ⟨z, j, rfl, hJ⟩
  · rintro σ H ⟨c, B2, M, xs, rfl, s2, hI, hd, hx, hl⟩
    have hl : xs.length = r.toNat := hl
    tm_at "go"
    refine' hI.give (a := found) (by tm_at "del") ?_
    clear hI
    intro B4 s4 hp hI
    exact q found xs B4 _ _ (s2.trans s4) (hI.forget (by tm_at "sub")) ((hd.mono (by omega)).same s4) (fun x hx' => (hx x hx').same s4) (by omega) hp
/-! a round -/
def RowsC (B : Hp) (cs : List Int) (acc : List V) (i : Nat) : Prop := ∃ rs : List Row, RowsB B acc rs ∧ rs.length = i ∧ ∀ (t : Nat) (c : Int) (s : Str) (v : Int), rs[t]? = some (c, s, v) → cs[t]? = some c ∧ (1 ≤ v ∧ v ≤ 1000) ∧ isName (.str s) = true ∧ plainS s
theorem RowsC.nil {B : Hp} {cs : List Int} : RowsC B cs [] 0 := ⟨[], .nil, rfl, fun t c s v h => by simp at h⟩
theorem RowsC.snoc {B : Hp} {cs : List Int} {acc : List V} {i : Nat} {a : Addr} {c v : Int} {s : Str} (h : RowsC B cs acc i) (ha : B a = some (.tup [.int c, .str s, .int v])) (h1 : cs[i]? = some c) (h2 : 1 ≤ v ∧ v ≤ 1000) (h3 : isName (.str s) = true) (h4 : plainS s) : RowsC B cs (acc ++ [.ref a]) (i + 1) := by
  obtain ⟨rs, r1, r2, r3⟩ := h
  refine ⟨rs ++ [(c, s, v)], r1.snoc ha, by simp [r2], fun t c' s' v' e => ?_⟩
  rcases Nat.lt_or_ge t rs.length with hl | hl
  · rw [List.getElem?_append_left hl] at e
    exact r3 t c' s' v' e
  · rw [List.getElem?_append_right hl] at e
    have ht : t = rs.length := by
      rcases Nat.lt_or_ge (t - rs.length) 1 with z | z
      · omega
      · rw [List.getElem?_eq_none (by simpa using z)] at e
        cases e
    subst ht
    rw [Nat.sub_self] at e
    cases e
    rw [r2]
    exact ⟨h1, h2, h3, h4⟩
theorem RowsC.same {B B' : Hp} {cs : List Int} {acc : List V} {i : Nat} (e : Same B B') (h : RowsC B cs acc i) : RowsC B' cs acc i := by
  obtain ⟨rs, r1, r2⟩ := h
  exact ⟨rs, r1.same e, r2⟩
def sp_law_plain_round (K : PySem.W.Frag) : Sp := fun vs H Q _ => vs.length = 3 ∧ ∃ (m w : Addr) (ws : List V) (many n : Int) (B : Hp) (M L : List (Addr × HO)), vs = [.ref m, .ref w, .int many] ∧ Is B M L H ∧ Dr m n B M ∧ n < 2 ^ 38 ∧ 1 ≤ many ∧ many ≤ 12 ∧ B w = some (.lst ws) ∧ 4 ≤ ws.length ∧ (∀ x ∈ ws, IsNm x) ∧
  ∀ (p : Addr) (span : Int) (rs : List Row) (B' H' : Hp) (M' : List (Addr × HO)), Same B B' → Is B' M' L H' → Dr m (n + 63) B' M' → PlainR B' p span rs → Q (.ref p) H'
theorem ap_law_plain_round {K : PySem.W.Frag} {B H : Hp} {M L : List (Addr × HO)} {Q : VK} {E : XK} {m w : Addr} {ws : List V} {many n : Int} (I : Is B M L H) (d : Dr m n B M) (hn : n < 2 ^ 38) (h1 : 1 ≤ many) (h2 : many ≤ 12) (hw : B w = some (.lst ws)) (hw4 : 4 ≤ ws.length) (hnm : ∀ x ∈ ws, IsNm x) (q : ∀ (p : Addr) (span : Int) (rs : List Row) (B' H' : Hp) (M' : List (Addr × HO)), Same B B' → Is B' M' L H' → Dr m (n + 63) B' M' → PlainR B' p span rs → Q (.ref p) H') : sp_law_plain_round K [.ref m, .ref w, .int many] H Q E :=
  ⟨rfl, m, w, ws, many, n, B, M, L, rfl, I, d, hn, h1, h2, hw, hw4, hnm, q⟩
abbrev t_law_plain_round_0 (K : PySem.W.Frag) : TS := (tDrop (tBM K "list" rAppend (tVar 6) (tCons (tTup (tCons (tOp (rIx K) (tVar 5) (tVar 7)) (tCons (tOp (rIx K) (tVar 1) (tCl 2 0 (sp_law_draw K) (fun vs zs => pick .non [0, 1] (vs ++ zs)) E0 (tCons (tVar 0) (tCons (tC (.int 4)) tNil)) tNil)) (tCons (tOp (rAddA K) (tC (.int 1)) (tCl 2 0 (sp_law_draw K) (fun vs zs => pick .non [0, 1] (vs ++ zs)) E0 (tCons (tVar 0) (tCons (tCB rMin2 (tCons (tVar 8) (tCons (tC (.int 1000)) tNil))) tNil)) tNil)) tNil)))) tNil)))
abbrev t_law_plain_round_1 (K : PySem.W.Frag) : TS := (tSeq (tAsg (tOp (rIx K) (tLst (tCons (tOp (rAddA K) (tC (.int 1)) (tOp (rI CDiv fun i j => .int (i / j)) (tOp rMulA (tC (.int 2)) (tVar 3)) (tVar 4))) (tCons (tC (.int 3)) (tCons (tC (.int 1000)) tNil)))) (tCl 2 0 (sp_law_draw K) (fun vs zs => pick .non [0, 1] (vs ++ zs)) E0 (tCons (tVar 0) (tCons (tC (.int 3)) tNil)) tNil)) (gName 8)) (t_law_plain_round_0 K))
abbrev t_law_plain_round_2 (K : PySem.W.Frag) : TS := (tRet (tTup (tCons (tVar 3) (tCons (tVar 6) tNil))))
abbrev t_law_plain_round_3 (K : PySem.W.Frag) : TS := (tSeq (tFor (iRng1 (tCons (tVar 4) tNil)) (gName 7) (t_law_plain_round_1 K)) (t_law_plain_round_2 K))
abbrev t_law_plain_round_4 (K : PySem.W.Frag) : TS := (tSeq (tAsg (tLst tNil) (gName 6)) (t_law_plain_round_3 K))
abbrev t_law_plain_round_5 (K : PySem.W.Frag) : TS := (tSeq (tAsg (tCB (rSortedI K) (tCons (tLc (iRng1 (tCons (tVar 4) tNil)) (gName 7) tYes (tOp (rIx K) (tLst (tCons (tC (.int 0)) (tCons (tCl 2 0 (sp_law_draw K) (fun vs zs => pick .non [0, 1] (vs ++ zs)) E0 (tCons (tVar 0) (tCons (tVar 3) tNil)) tNil) (tCons (tOp (rI0 fun i j => .int (i - j)) (tVar 3) (tC (.int 1))) tNil)))) (tCl 2 0 (sp_law_draw K) (fun vs zs => pick .non [0, 1] (vs ++ zs)) E0 (tCons (tVar 0) (tCons (tC (.int 3)) tNil)) tNil)) [7]) tNil)) (gName 5)) (t_law_plain_round_4 K))
abbrev t_law_plain_round_6 (K : PySem.W.Frag) : TS := (tSeq (tAsg (tCl 2 0 (sp_law_draw K) (fun vs zs => pick .non [0, 1] (vs ++ zs)) E0 (tCons (tVar 0) (tCons (tOp (rAddA K) (tVar 2) (tC (.int 1))) tNil)) tNil) (gName 4)) (t_law_plain_round_5 K))
def t_law_plain_round (K : PySem.W.Frag) : TS := (tSeq (tAsg (tOp (rAddA K) (tC (.int 1)) (tCl 2 0 (sp_law_draw K) (fun vs zs => pick .non [0, 1] (vs ++ zs)) E0 (tCons (tVar 0) (tCons (tOp (rIx K) (tLst (tCons (tC (.int 6)) (tCons (tC (.int 30)) (tCons (tC (.int 1000)) tNil)))) (tCl 2 0 (sp_law_draw K) (fun vs zs => pick .non [0, 1] (vs ++ zs)) E0 (tCons (tVar 0) (tCons (tC (.int 3)) tNil)) tNil)) tNil)) tNil)) (gName 3)) (t_law_plain_round_6 K))
theorem rd_law_plain_round {K : PySem.W.Frag} (vs : List V) (H : Hp) (Q : VK) (E : XK) (h : sp_law_plain_round K vs H Q E) : t_law_plain_round K { nx := fun _ H' => Q .non H', rt := Q } (start ["m", "w", "many", "long", "few", "starts", "found", "k", "top"] vs) H := by
  obtain ⟨_, m, w, ws, many, n, B, M, L, rfl, hI, hd, h1, h2, h3, hw, hw4, hnm, q⟩ := h
  show t_law_plain_round K ⟨_, _, _, _⟩ [some (.ref m), some (.ref w), some (.int many), none, none, none, none, none, none] H
  unfold t_law_plain_round
  tm_at "go"
  tm_at "draw"
  refine g_ix_ints (lo := 6) (hi := 1000) (by tm_at "sq") (by repeat (first | exact Ints.nil | refine Ints.cons (by omega) ?_)) hr0 (by tm_at "arith") ?_
  intro u hu0 hu1
  tm_at "go"
  replace hI := hI.forget (L' := L) (by tm_at "sub")
  tm_at "draw"
  tm_at "go"
  obtain ⟨span, hspan⟩ : ∃ s, s = 1 + r := ⟨_, rfl⟩
  have hs0 : 1 ≤ span := by omega
  have hs1 : span ≤ 1000 := by omega
  rw [← hspan]
  tm_at "draw"
  revert r
  intro few hm0 hm1
  tm_at "go"
  have hd : Dr m (n + 3 + 2 * ((0 : Nat) : Int)) B M := hd.mono (by omega)
  refine' g_aLc walk_range hI (by tm_at "wiped") (by omega) (fun i acc B2 M' => B = B2 ∧ Dr m (n + 3 + 2 * (i : Int)) B M' ∧ Ints 0 (span - 1) acc ∧ acc.length = i) ⟨rfl, hd, Ints.nil, rfl⟩ (fun _ _ _ _ _ _ _ _ _ _ => trivial) ?_ ?_
  · rintro i x acc B2 M' D H' H'' hi s2 hI ⟨rfl, hd, hta, hla⟩ ⟨rfl, rfl⟩ hz
    have hi : i < few.toNat := hi
    tm_at "go"
    refine' g_wiped (by tm_at "wiped") ?_
    tm_at "go"
    tm_at "draw"
    tm_at "go"
    tm_at "draw"
    refine g_ix_ints (lo := 0) (hi := span - 1) (by tm_at "sq") (by repeat (first | exact Ints.nil | refine Ints.cons (by omega) ?_)) hr0 (by tm_at "arith") ?_
    intro c hc0 hc1
    have hI := hI.forget (L' := (D, .lst acc) :: L) (by tm_at "sub")
    exact lcY s2 hI hz ⟨rfl, hd.mono (by omega), hta.snoc ⟨hc0, hc1⟩, by simp [hla]⟩
  clear hI hd
  rintro ys B2 M D H s2 hI ⟨rfl, hd, hy, hyl⟩ _
  obtain ⟨cs, rfl, hcs⟩ := hy.ns
  tm_at "go"
  refine g_sortedI hI (by tm_at "sq") ?_
  clear hI
  intro cs2 pc H hperm hsort hI
  replace hI := hI.forget (L' := (pc, .lst (cs2.map V.int)) :: L) (by tm_at "sub")
  have hcs2 : ∀ c ∈ cs2, 0 ≤ c ∧ c ≤ span - 1 := fun c hc => hcs c (hperm.mem_iff.mp hc)
  have hcl : cs2.length = few.toNat := by
    rw [hperm.length_eq, ← hyl, List.length_map]
  tm_at "go"
  obtain ⟨found, rfl⟩ : ∃ q, q = p := ⟨_, rfl⟩
  have hd : Dr m (n + 27 + 3 * ((0 : Nat) : Int)) B M := hd.mono (by omega)
  refine' g_aFor walk_range (fun i σ H => ∃ (c d : Option V) (B2 : Hp) (M : List (Addr × HO)) (xs : List V), σ = [some (.ref m), some (.ref w), some (.int many), some (.int span), some (.int few), some (.ref pc), some (.ref found), c, d] ∧
      Same B B2 ∧ Is B2 M ((found, .lst xs) :: (pc, .lst (cs2.map V.int)) :: L) H ∧ Dr m (n + 27 + 3 * (i : Int)) B2 M ∧ RowsC B2 cs2 xs i)
      ⟨_, _, B, _, [], rfl, fun _ _ e => e, hI, hd, .nil⟩ (fun _ _ _ _ _ => trivial) ?_ ?_
  · rintro i x σ H H' hi ⟨c, d, B2, M, xs, rfl, s2, hI, hd, hx⟩ ⟨rfl, rfl⟩
    have hi : i < few.toNat := hi
    have hxl : xs.length = i := by
      obtain ⟨rs, r1, r2, _⟩ := hx
      rw [← r2]
      exact r1.len
    obtain ⟨c0, hc0⟩ : ∃ c0, cs2[i]? = some c0 := ⟨_, List.getElem?_eq_getElem (by omega)⟩
    replace hw := s2 _ _ hw
    have hdiv : 0 ≤ 2 * span / few := Int.ediv_nonneg (by omega) (by omega)
    have hdiv2 : 2 * span / few ≤ 2 * span := Int.ediv_le_self _ (by omega)
    tm_at "go"
    tm_at "draw"
    refine g_ix_ints (lo := 1) (hi := 2001) (by tm_at "sq") (by repeat (first | exact Ints.nil | refine Ints.cons (by omega) ?_)) hr0 (by tm_at "arith") ?_
    intro top ht0 ht1
    replace hI := hI.forget (L' := (found, .lst xs) :: (pc, .lst (cs2.map V.int)) :: L) (by tm_at "sub")
    tm_at "go"
    refine g_ix_l (by tm_at "sq") (atI_of (by omega) (by rw [List.getElem?_map, show (0 + (i : Int)).toNat = i by omega, hc0]; rfl)) ?_
    tm_at "go"
    tm_at "draw"
    refine g_ix_nm (by tm_at "sq") hnm hr0 (by omega) ?_
    intro s g1 g2 _
    tm_at "go"
    tm_at "draw"
    tm_at "go"
    refine' hI.give (a := p) (by tm_at "del") ?_
    clear hI
    intro B4 s4 hp hI
    exact ⟨_, _, B4, _, _, rfl, s2.trans s4, hI.forget (by tm_at "sub"), (hd.mono (by omega)).same s4, (hx.same s4).snoc hp hc0 ⟨by omega, by omega⟩ g1 g2⟩
  · rintro σ H ⟨c, d, B2, M, xs, rfl, s2, hI, hd, rs, r1, r2, r3⟩
    have r2 : rs.length = few.toNat := r2
    tm_at "go"
    refine' hI.give (a := found) (by tm_at "del") ?_
    clear hI
    intro B4 s4 hp hI
    refine' hI.give (a := p) (by tm_at "del") ?_
    clear hI
    intro B5 s5 hp2 hI
    refine q p span rs B5 _ _ ((s2.trans s4).trans s5) (hI.forget (by tm_at "sub")) ((hd.mono (by omega)).same (s4.trans s5)) ⟨⟨found, xs, hp2, s5 _ _ hp, r1.same (s4.trans s5)⟩, hs0, hs1, by omega, ?_, ?_⟩
    · rintro ⟨c, s, v⟩ hr
      obtain ⟨t, ht⟩ := List.getElem?_of_mem hr
      obtain ⟨f1, f2, f3, f4⟩ := r3 t c s v ht
      have g1 := hcs2 c (List.mem_of_getElem? f1)
      exact ⟨g1.1, by show c < span; omega, f3, f4, f2.1, f2.2⟩
    · intro i c s v c' s' v' f f'
      exact sorted_up hsort (r3 _ _ _ _ f).1 (r3 _ _ _ _ f').1
theorem g_allT {K : PySem.W.Frag} {H : Hp} {Q : VK} {D : Addr} {n : Nat} (h : SqL K H D ((List.replicate n true).map V.bl)) (q : Q (.bl true) H) : rAll K [.ref D] H Q := by
  refine g_all (P := fun b => b) h ?_
  rw [show (List.replicate n true).all (fun b => b) = true from List.all_eq_true.mpr fun x hx => (List.mem_replicate.mp hx).2]
  exact q
theorem rep_snoc {i : Nat} {acc : List V} (h : acc = (List.replicate i true).map V.bl) : acc ++ [.bl true] = (List.replicate (i + 1) true).map V.bl := by
  rw [h, List.replicate_succ', List.map_append]
  rfl
def sp_law (K : PySem.W.Frag) : Sp := fun vs H Q _ => vs.length = 1 ∧ ∃ (a : Addr) (ns : List Int) (B : Hp) (L : List (Addr × HO)), vs = [.ref a] ∧ Is B [] L H ∧ SqL K B a (ns.map V.int) ∧ ns.length ≤ 63 ∧ ∀ H', Q (.bl true) H'
theorem law_asked {K : PySem.W.Frag} (H : Hp) (a : Addr) (ns : List Int) (hn : ns.length ≤ 63) (h : SqL K H a (ns.map V.int)) : sp_law K [.ref a] H (fun v _ => v = .bl true) fun _ _ _ => False :=
  ⟨rfl, a, ns, H, [], rfl, ⟨fun _ _ e => e, fun p hp => (by cases hp), .nil⟩, h, hn, fun _ => rfl⟩
abbrev t_law_0 (K : PySem.W.Frag) : TS := (tIfS (tNot (tTr K (tCl 1 0 (sp_law_round_right K) (fun vs zs => pick .non [0] (vs ++ zs)) E0 (tCons (tCl 3 0 (sp_law_plain_round K) (fun vs zs => pick .non [0, 1, 2] (vs ++ zs)) E0 (tCons (tVar 1) (tCons (tVar 3) (tCons (tC (.int 12)) tNil))) tNil) tNil) tNil))) (tRet (tC (.bl false))) tNext)
abbrev t_law_1 (K : PySem.W.Frag) : TS := (tSeq (tIfS (tNot (tTr K (tCB (rAll K) (tCons (tLc (iAny K (tCl 3 0 (sp_law_plain_jobs K) (fun vs zs => pick .non [0, 1, 2] (vs ++ zs)) E0 (tCons (tVar 1) (tCons (tVar 4) (tCons (tC (.int 4)) tNil))) tNil)) (gName 7) tYes (tCl 1 0 (sp_law_job_right K) (fun vs zs => pick .non [0] (vs ++ zs)) E0 (tCons (tVar 7) tNil) tNil) [7]) tNil)))) (tRet (tC (.bl false))) tNext) (t_law_0 K))
abbrev t_law_2 (K : PySem.W.Frag) : TS := (tSeq (tIfS (tNot (tTr K (tCB (rAll K) (tCons (tLc (iAny K (tVar 4)) (gName 7) tYes (tCl 1 0 (sp_law_style_right K) (fun vs zs => pick .non [0] (vs ++ zs)) E0 (tCons (tVar 7) tNil) tNil) [7]) tNil)))) (tRet (tC (.bl false))) tNext) (t_law_1 K))
abbrev t_law_3 (K : PySem.W.Frag) : TS := (tSeq (tAsg (tCl 3 0 (sp_law_styles K) (fun vs zs => pick .non [0, 1, 2] (vs ++ zs)) E0 (tCons (tVar 1) (tCons (tVar 3) (tCons (tC (.int 2)) tNil))) tNil) (gName 4)) (t_law_2 K))
abbrev t_law_4 (K : PySem.W.Frag) : TS := (tSeq (tAsg (tCl 2 0 (sp_law_called K) (fun vs zs => pick .non [0, 1] (vs ++ zs)) E0 (tCons (tVar 1) (tCons (tC (.int 6)) tNil)) tNil) (gName 3)) (t_law_3 K))
abbrev t_law_5 (K : PySem.W.Frag) : TS := (tRet (tAndV (tCl 1 0 (sp_law_job_right K) (fun vs zs => pick .non [0] (vs ++ zs)) E0 (tCons (tTup (tCons (tC (.int 1)) (tCons (tVar 6) (tCons (tC (.int 0)) (tCons (tC (.int 0)) (tCons (tC (.bl false)) tNil)))))) tNil) tNil) (tCl 1 0 (sp_law_job_right K) (fun vs zs => pick .non [0] (vs ++ zs)) E0 (tCons (tTup (tCons (tC (.int 1)) (tCons (tVar 6) (tCons (tC (.int 0)) (tCons (tOp (rI CPow fun i j => .int (i ^ j.toNat)) (tC (.int 10)) (tC (.int 6))) (tCons (tC (.bl true)) tNil)))))) tNil) tNil)))
abbrev t_law_6 (K : PySem.W.Frag) : TS := (tSeq (tIfS (tNot (tTr K (tCl 1 0 (sp_law_job_right K) (fun vs zs => pick .non [0] (vs ++ zs)) E0 (tCons (tTup (tCons (tC (.int 99999)) (tCons (tVar 5) (tCons (tOp (rI CPow fun i j => .int (i ^ j.toNat)) (tC (.int 10)) (tC (.int 6))) (tCons (tOp (rI CPow fun i j => .int (i ^ j.toNat)) (tC (.int 10)) (tC (.int 6))) (tCons (tC (.bl true)) tNil)))))) tNil) tNil))) (tRet (tC (.bl false))) tNext) (t_law_5 K))
abbrev t_law_7 (K : PySem.W.Frag) : TS := (tSeq (tIfS (tNot (tTr K (tCl 1 0 (sp_law_round_right K) (fun vs zs => pick .non [0] (vs ++ zs)) E0 (tCons (tTup (tCons (tC (.int 1000)) (tCons (tOp (rAddA K) (tOp rMulA (tLst (tCons (tTup (tCons (tC (.int 0)) (tCons (tC (.str "z")) (tCons (tC (.int 1000)) tNil)))) tNil)) (tC (.int 6))) (tOp rMulA (tLst (tCons (tTup (tCons (tC (.int 999)) (tCons (tC (.str "abcdefgh")) (tCons (tC (.int 1)) tNil)))) tNil)) (tC (.int 6)))) tNil))) tNil) tNil))) (tRet (tC (.bl false))) tNext) (t_law_6 K))
abbrev t_law_8 (K : PySem.W.Frag) : TS := (tSeq (tIfS (tOr (tNot (tTr K (tCl 1 0 (sp_law_style_right K) (fun vs zs => pick .non [0] (vs ++ zs)) E0 (tCons (tVar 5) tNil) tNil))) (tOr (tNot (tTr K (tCl 1 0 (sp_law_style_right K) (fun vs zs => pick .non [0] (vs ++ zs)) E0 (tCons (tVar 6) tNil) tNil))) (tNot (tTr K (tCl 1 0 (sp_law_round_right K) (fun vs zs => pick .non [0] (vs ++ zs)) E0 (tCons (tTup (tCons (tC (.int 1)) (tCons (tLst tNil) tNil))) tNil) tNil))))) (tRet (tC (.bl false))) tNext) (t_law_7 K))
abbrev t_law_9 (K : PySem.W.Frag) : TS := (tSeq (tAsg (tTup (tCons (tC (.str "a")) (tCons (tLst (tCons (tTup (tCons (tC (.str "letter")) (tCons (tC (.int 1)) (tCons (tC (.int 0)) tNil)))) tNil)) tNil))) (gName 6)) (t_law_8 K))
abbrev t_law_10 (K : PySem.W.Frag) : TS := (tSeq (tAsg (tTup (tCons (tC (.str "abcdefgh")) (tCons (tOp rMulA (tLst (tCons (tTup (tCons (tC (.str "press")) (tCons (tC (.int 240)) (tCons (tC (.int 240)) tNil)))) tNil)) (tC (.int 12))) tNil))) (gName 5)) (t_law_9 K))
abbrev t_law_11 (K : PySem.W.Frag) : TS := (tSeq (tFor (iRng1 (tCons (tC (.int 8)) tNil)) (gName 2) (t_law_4 K)) (t_law_10 K))
def t_law (K : PySem.W.Frag) : TS := (tSeq (tAsg (tCl 1 0 (sp_law_begun K) (fun vs zs => pick .non [0] (vs ++ zs)) E0 (tCons (tVar 0) tNil) tNil) (gName 1)) (t_law_11 K))
theorem all2_rep {α β : Type} {R : α → β → Prop} {a : α} {b : β} (h : R a b) : ∀ n, All2 R (List.replicate n a) (List.replicate n b)
  | 0 => .nil
  | n + 1 => .cons h (all2_rep h n)
theorem all2_app {α β : Type} {R : α → β → Prop} {as as' : List α} {bs bs' : List β} (h : All2 R as bs) (h' : All2 R as' bs') : All2 R (as ++ as') (bs ++ bs') := by
  induction h with
  | nil => exact h'
  | cons h _ ih => exact .cons h ih
def greatS : List StepT := List.replicate 12 ("press", 240, 240)
def smallS : List StepT := [("letter", 1, 0)]
theorem great_good : GoodT "abcdefgh" greatS := ⟨⟨by decide +kernel, (show Sh 8 ("abcdefgh" : Str) from Sh.lit (by decide +kernel)).plain (by decide)⟩, by decide, by decide, fun r hr => by
  rw [(List.mem_replicate.mp hr).2]
  exact ⟨wk_press, by decide, by decide, by decide, by decide⟩⟩
theorem small_good : GoodT "a" smallS := ⟨⟨by decide +kernel, (show Sh 1 ("a" : Str) from Sh.lit (by decide +kernel)).plain (by decide)⟩, by decide, by decide, fun r hr => by
  rw [List.mem_singleton.mp hr]
  exact ⟨wk_letter, by decide, by decide, by decide, by decide⟩⟩
theorem rowsB_rep {B : Hp} {a : Addr} {c w : Int} {s : Str} {xs : List V} {rs : List Row} (h : B a = some (.tup [.int c, .str s, .int w])) (t : RowsB B xs rs) : ∀ n, RowsB B (List.replicate n (.ref a) ++ xs) (List.replicate n (c, s, w) ++ rs)
  | 0 => t
  | n + 1 => .cons h (rowsB_rep h t n)
def bigR : List Row := List.replicate 6 ((0, "z", 1000) : Row) ++ (List.replicate 6 ((999, "abcdefgh", 1) : Row) ++ [])
theorem big_good : GoodR 1000 bigR := by
  have hz : isName (.str "z") = true ∧ plainS ("z" : Str) := ⟨by decide +kernel, (show Sh 1 ("z" : Str) from Sh.lit (by decide +kernel)).plain (by decide)⟩
  have hb : isName (.str "abcdefgh") = true ∧ plainS ("abcdefgh" : Str) := great_good.nm
  refine ⟨by decide, by decide, Nat.le_of_ble_eq_true rfl, ?_, ?_⟩
  · intro r hr
    rcases List.mem_append.mp hr with h | h
    · rw [(List.mem_replicate.mp h).2]
      exact ⟨by decide, by decide, hz.1, hz.2, by decide, by decide⟩
    · rcases List.mem_append.mp h with h | h
      · rw [(List.mem_replicate.mp h).2]
        exact ⟨by decide, by decide, hb.1, hb.2, by decide, by decide⟩
      · cases h
  · intro i c s w c' s' w' h h'
    refine sorted_up (cs := bigR.map (fun r => r.1)) (i := i) (by decide) ?_ ?_
    · rw [List.getElem?_map, h]
      rfl
    · rw [List.getElem?_map, h']
      rfl
theorem law_tail {K : PySem.W.Frag} {Q : VK} {bk ct : St → Hp → Prop} {s0 s1 s2 s3 s4 : Option V} {g sm l1 q1 q0 l2 q2 : Addr} {B : Hp} {M L : List (Addr × HO)} {H : Hp}
    (hI : Is B M ((sm, .tup [.str "a", .ref l2]) :: (l2, .lst [.ref q2]) :: (q2, .tup [.str "letter", .int 1, .int 0]) :: (g, .tup [.str "abcdefgh", .ref l1]) :: (l1, .lst (List.replicate 12 (.ref q0))) :: (q1, .lst [.ref q0]) :: (q0, .tup [.str "press", .int 240, .int 240]) :: L) H) (q : ∀ H', Q (.bl true) H') :
    t_law_8 K ⟨fun _ H' => Q .non H', Q, bk, ct⟩ [s0, s1, s2, s3, s4, some (.ref g), some (.ref sm), none] H := by
  refine' hI.give (a := q0) (by tm_at "del") ?_
  clear hI
  intro B1 t1 hq0 hI
  refine' hI.give (a := l1) (by tm_at "del") ?_
  clear hI
  intro B2 t2 hl1 hI
  refine' hI.give (a := g) (by tm_at "del") ?_
  clear hI
  intro B3 t3 hg hI
  refine' hI.give (a := q2) (by tm_at "del") ?_
  clear hI
  intro B4 t4 hq2 hI
  refine' hI.give (a := l2) (by tm_at "del") ?_
  clear hI
  intro B5 t5 hl2 hI
  refine' hI.give (a := sm) (by tm_at "del") ?_
  clear hI
  intro B6 t6 hsm hI
  replace hI := hI.forget (L' := L) (by tm_at "sub")
  have hG : PlainS B6 g "abcdefgh" greatS := (PlainS.same ⟨⟨l1, _, hg, t3 _ _ hl1, all2_rep ⟨q0, rfl, t3 _ _ (t2 _ _ hq0)⟩ 12⟩, great_good⟩ ((t4.trans t5).trans t6))
  have hS : PlainS B6 sm "a" smallS := ⟨⟨l2, _, hsm, t6 _ _ hl2, .cons ⟨q2, rfl, t6 _ _ (t5 _ _ hq2)⟩ .nil⟩, small_good⟩
  tm_at "go"
  refine' ap_law_style_right (K := K) hI hG ?_
  clear hI
  intro B7 H t7 hI
  replace hG := hG.same t7
  replace hS := hS.same t7
  tm_at "go"
  refine' ap_law_style_right (K := K) hI hS ?_
  clear hI
  intro B8 H t8 hI
  replace hG := hG.same t8
  replace hS := hS.same t8
  tm_at "go"
  refine' hI.give (.there .here) ?_
  clear hI
  intro B9 t9 k1 hI
  refine' hI.give .here ?_
  clear hI
  intro B10 t10 k2 hI
  replace k1 := t10 _ _ k1
  refine' ap_law_round_right (K := K) hI (span := 1) (rs := []) ⟨⟨_, _, k2, k1, .nil⟩, by decide, by decide, by decide, fun _ h => (by cases h), fun _ _ _ _ _ _ _ h => (by simp at h)⟩ ?_
  clear hI
  intro B11 H t11 hI
  replace hG := ((hG.same t9).same t10).same t11
  replace hS := ((hS.same t9).same t10).same t11
  tm_at "go"
  refine g_mul_l (n := 6) hI (by tm_at "hp") (Nat.le_of_ble_eq_true rfl) (by decide) ?_
  clear hI
  intro w1 H hI
  tm_at "go"
  refine g_mul_l (n := 6) hI (by tm_at "hp") (Nat.le_of_ble_eq_true rfl) (by decide) ?_
  clear hI
  intro w2 H hI
  refine g_add_l hI (by tm_at "hp") (by tm_at "hp") (Nat.le_of_ble_eq_true rfl) ?_
  clear hI
  intro w3 H hI
  tm_at "go"
  refine' hI.give (.there (.there (.there (.there (.there (.there (.there .here))))))) ?_
  clear hI
  intro B12 t12 k1 hI
  refine' hI.give (.there (.there (.there (.there .here)))) ?_
  clear hI
  intro B13 t13 k2 hI
  refine' hI.give (.there .here) ?_
  clear hI
  intro B14 t14 k3 hI
  refine' hI.give .here ?_
  clear hI
  intro B15 t15 k4 hI
  replace hI := hI.forget (L' := L) (by tm_at "sub")
  replace k1 := t15 _ _ (t14 _ _ (t13 _ _ k1))
  replace k2 := t15 _ _ (t14 _ _ k2)
  replace k3 := t15 _ _ k3
  refine' ap_law_round_right (K := K) hI (span := 1000) (rs := bigR) ⟨⟨_, _, k4, k3, by simpa [bigR, List.replicate] using rowsB_rep k1 (rowsB_rep k2 .nil 6) 6⟩, big_good⟩ ?_
  clear hI
  intro B16 H t16 hI
  replace hG := (((((hG.same t12).same t13).same t14).same t15).same t16)
  replace hS := (((((hS.same t12).same t13).same t14).same t15).same t16)
  tm_at "go"
  refine' hI.give .here ?_
  clear hI
  intro B17 t17 k5 hI
  replace hG := hG.same t17
  replace hS := hS.same t17
  refine' ap_law_job_right (K := K) (j := ⟨99999, "abcdefgh", greatS, 1000000, 1000000, true⟩) hI ⟨⟨g, k5, hG⟩, great_good, by decide, by decide, by decide, by decide, by decide, by decide⟩ ?_
  clear hI
  intro B18 H t18 hI
  replace hS := hS.same t18
  tm_at "go"
  refine' hI.give .here ?_
  clear hI
  intro B19 t19 k6 hI
  replace hS := hS.same t19
  refine' ap_law_job_right (K := K) (j := ⟨1, "a", smallS, 0, 0, false⟩) hI ⟨⟨sm, k6, hS⟩, small_good, by decide, by decide, by decide, by decide, by decide, by decide⟩ ?_
  clear hI
  intro B20 H t20 hI
  replace hS := hS.same t20
  tm_at "go"
  refine' hI.give .here ?_
  clear hI
  intro B21 t21 k7 hI
  replace hS := hS.same t21
  refine' ap_law_job_right (K := K) (j := ⟨1, "a", smallS, 0, 1000000, true⟩) hI ⟨⟨sm, k7, hS⟩, small_good, by decide, by decide, by decide, by decide, by decide, by decide⟩ ?_
  intro B22 H t22 hI
  exact q _
theorem law_mid {K : PySem.W.Frag} {Q : VK} {bk ct : St → Hp → Prop} {s0 s1 s2 s3 s4 : Option V} {X : TS} {B : Hp} {M L : List (Addr × HO)} {H : Hp} (hI : Is B M L H)
    (hX : ∀ (g sm l1 q1 q0 l2 q2 : Addr) (H : Hp), Is B M ((sm, .tup [.str "a", .ref l2]) :: (l2, .lst [.ref q2]) :: (q2, .tup [.str "letter", .int 1, .int 0]) :: (g, .tup [.str "abcdefgh", .ref l1]) :: (l1, .lst (List.replicate 12 (.ref q0))) :: (q1, .lst [.ref q0]) :: (q0, .tup [.str "press", .int 240, .int 240]) :: L) H → X ⟨fun _ H' => Q .non H', Q, bk, ct⟩ [s0, s1, s2, s3, s4, some (.ref g), some (.ref sm), none] H) :
    (tSeq (tAsg (tTup (tCons (tC (.str "abcdefgh")) (tCons (tOp rMulA (tLst (tCons (tTup (tCons (tC (.str "press")) (tCons (tC (.int 240)) (tCons (tC (.int 240)) tNil)))) tNil)) (tC (.int 12))) tNil))) (gName 5)) (tSeq (tAsg (tTup (tCons (tC (.str "a")) (tCons (tLst (tCons (tTup (tCons (tC (.str "letter")) (tCons (tC (.int 1)) (tCons (tC (.int 0)) tNil)))) tNil)) tNil))) (gName 6)) X)) ⟨fun _ H' => Q .non H', Q, bk, ct⟩ [s0, s1, s2, s3, s4, none, none, none] H := by
  tm_at "go"
  refine g_mul_l (n := 12) hI (by tm_at "hp") (Nat.le_of_ble_eq_true rfl) (by decide) ?_
  clear hI
  intro l1 H hI
  tm_at "go"
  exact hX _ _ _ _ _ _ _ _ hI
theorem rd_law {K : PySem.W.Frag} (vs : List V) (H : Hp) (Q : VK) (E : XK) (h : sp_law K vs H Q E) : t_law K { nx := fun _ H' => Q .non H', rt := Q } (start ["script", "m", "bout", "w", "styles", "great", "small", "plain"] vs) H := by
  obtain ⟨_, a, ns, B, L, rfl, hI, ha, hl, q⟩ := h
  show t_law K ⟨_, _, _, _⟩ [some (.ref a), none, none, none, none, none, none, none] H
  unfold t_law
  tm_at "go"
  refine' ap_law_begun (K := K) hI ha hl ?_
  clear hI
  intro m B0 M H s0 hI hd
  tm_at "go"
  refine' g_aFor walk_range (fun t σ H => ∃ (s2 s3 s4 : Option V) (B1 : Hp) (M : List (Addr × HO)), σ = [some (.ref a), some (.ref m), s2, s3, s4, none, none, none] ∧ Is B1 M L H ∧ Dr m (600 * (t : Int)) B1 M)
    ⟨_, _, _, B0, M, rfl, hI, hd.mono (by omega)⟩ (fun _ _ _ _ _ => trivial) ?_ ?_
  · rintro t y σ H H' ht ⟨s2, s3, s4, B1, M, rfl, hI, hd⟩ ⟨rfl, hy⟩
    have ht : t < 8 := ht
    tm_at "go"
    refine' ap_law_called (K := K) hI hd (by omega) (by decide) (by decide) ?_
    clear hI hd
    intro w ws H M hI hd hnm hwl
    refine' hI.give (a := w) (by tm_at "del") ?_
    clear hI
    intro B2 s12 hw hI
    have hd := hd.same s12
    tm_at "go"
    refine' ap_law_styles (K := K) hI hd (by omega) (by decide) (by decide) hw (by omega) hnm ?_
    clear hI hd
    intro st ss B3 H M s13 hI hd hss l0 l1 hst
    have hw := s13 _ _ hw
    tm_at "go"
    refine' g_aLc (walk_list (xs := ss)) hI (by tm_at "wiped") (by omega) (fun i acc B2 M' => Dr m (600 * (t : Int) + 491) B2 M' ∧ acc = (List.replicate i true).map V.bl) ⟨hd.mono (by omega), rfl⟩ (fun i acc B' M' D H' _ s I _ => SqL.of (I.b (s _ _ hst))) ?_ ?_
    · rintro i x acc B4 M' D H' H'' hi s4 hI ⟨hd, hacc⟩ ⟨rfl, hx⟩ hz
      obtain ⟨p, nm, rs, rfl, hP⟩ := hss _ (List.mem_of_getElem? hx)
      tm_at "go"
      refine' g_wiped (by tm_at "wiped") ?_
      tm_at "go"
      refine' ap_law_style_right (K := K) hI (hP.same s4) ?_
      clear hI
      intro B5 H s5 hI
      exact lcY (s4.trans s5) hI hz ⟨hd.same s5, rep_snoc hacc⟩
    clear hI hd
    rintro acc B4 M D H s14 hI ⟨hd, rfl⟩ _
    replace hw := s14 _ _ hw
    replace hst := s14 _ _ hst
    tm_at "go"
    refine g_allT (by tm_at "sq") ?_
    replace hI := hI.forget (L' := L) (by tm_at "sub")
    tm_at "go"
    refine' ap_law_plain_jobs (K := K) hI hd (by omega) (by decide) (by decide) hst (fun x hx => (hss x hx).same s14) l0 l1 ?_
    clear hI hd
    intro pj js B5 H M s15 hI hd hjs hjl hpj
    replace hw := s15 _ _ hw
    tm_at "go"
    refine' g_aLc (walk_list (xs := js)) hI (by tm_at "wiped") (by omega) (fun i acc B2 M' => Dr m (600 * (t : Int) + 530) B2 M' ∧ acc = (List.replicate i true).map V.bl) ⟨hd.mono (by omega), rfl⟩ (fun i acc B' M' D H' _ s I _ => SqL.of (I.b (s _ _ hpj))) ?_ ?_
    · rintro i x acc B6 M' D H' H'' hi s6 hI ⟨hd, hacc⟩ ⟨rfl, hx⟩ hz
      obtain ⟨p, j, rfl, hP⟩ := hjs _ (List.mem_of_getElem? hx)
      tm_at "go"
      refine' g_wiped (by tm_at "wiped") ?_
      tm_at "go"
      refine' ap_law_job_right (K := K) hI (hP.same s6) ?_
      clear hI
      intro B7 H s7 hI
      exact lcY (s6.trans s7) hI hz ⟨hd.same s7, rep_snoc hacc⟩
    clear hI hd
    rintro acc B6 M D H s16 hI ⟨hd, rfl⟩ _
    replace hw := s16 _ _ hw
    tm_at "go"
    refine g_allT (by tm_at "sq") ?_
    replace hI := hI.forget (L' := L) (by tm_at "sub")
    tm_at "go"
    refine' ap_law_plain_round (K := K) hI hd (by omega) (by decide) (by decide) hw (by omega) hnm ?_
    clear hI hd
    intro pr span rs B7 H M s17 hI hd hP
    tm_at "go"
    refine' ap_law_round_right (K := K) hI hP ?_
    clear hI
    intro B8 H s18 hI
    tm_at "go"
    exact ⟨_, _, _, B8, M, rfl, hI, (hd.mono (by omega)).same s18⟩
  · rintro σ H ⟨s2, s3, s4, B1, M, rfl, hI, _⟩
    exact law_mid (K := K) (X := t_law_8 K) hI fun _ _ _ _ _ _ _ _ hI => law_tail hI q
end Bz
namespace Bz
open PySem PySem.Spec PyProof.Rows L2
/-! ### the text -/
abbrev FnP (K : PySem.W.Frag) (x q : Str) (st : Stmt) (dvs : List V) (f : Addr) (fd : FuncData) : Prop := FunD K x q (defArgs st) (defBody st) (defScope st) dvs [] f fd
structure Txt (K : PySem.W.Frag) (w : World) (mg : Str → Option Value) : Prop where
  c_MOST_LETTERS : ∃ t, mg "MOST_LETTERS" = some (.int 8 t)
  c_MOST_FIGURES : ∃ t, mg "MOST_FIGURES" = some (.int 7 t)
  c_MOST_NUMBER : ∃ t, mg "MOST_NUMBER" = some (.int 99999 t)
  c_MOST_HOUR : ∃ t, mg "MOST_HOUR" = some (.int 1000000 t)
  c_MOST_HOURS : ∃ t, mg "MOST_HOURS" = some (.int 240 t)
  c_MOST_LENGTH : ∃ t, mg "MOST_LENGTH" = some (.int 1000 t)
  c_MOST_CALLS : ∃ t, mg "MOST_CALLS" = some (.int 12 t)
  c_MOST_STEPS : ∃ t, mg "MOST_STEPS" = some (.int 12 t)
  c_LETTERS : ∃ t, mg "LETTERS" = some (.str "abcdefghijklmnopqrstuvwxyz" t)
  c_FIGURES : ∃ t, mg "FIGURES" = some (.str "0123456789" t)
  g_BARRED_WORDS : mg "BARRED_WORDS" = some (.ref (He.ga K "BARRED_WORDS"))
  k_BARRED_WORDS : ∀ H, SqT K H (He.ga K "BARRED_WORDS") [.str "style", .str "job", .str "round", .str "sew", .str "glue", .str "cover", .str "letter", .str "press", .str "hand", .str "haste"]
  g_KINDS : mg "KINDS" = some (.ref (He.ga K "KINDS"))
  k_KINDS : KTab K w (He.ga K "KINDS") [("sew", "hand"), ("glue", "hand"), ("cover", "hand"), ("letter", "hand"), ("press", "press")]
  z_all : mg "all" = none
  z_bool : mg "bool" = none
  z_enumerate : mg "enumerate" = none
  z_int : mg "int" = none
  z_isinstance : mg "isinstance" = none
  z_len : mg "len" = none
  z_list : mg "list" = none
  z_max : mg "max" = none
  z_min : mg "min" = none
  z_range : mg "range" = none
  z_repr : mg "repr" = none
  z_sorted : mg "sorted" = none
  z_str : mg "str" = none
  z_sum : mg "sum" = none
  z_tuple : mg "tuple" = none
  z_zip : mg "zip" = none
  g_Round : mg "Round" = some (.ref (He.ga K "Round"))
  cl_Round : Cls K (He.ga K "Round")
  mk_Round : Mk K (He.ga K "Round") (He.ma K (He.ga K "Round") "__init__")
  od_Round : OwnD K (He.ga K "Round")
  n_Round_begun : NoAttr K (He.ga K "Round") "begun"
  n_Round_call_rows : NoAttr K (He.ga K "Round") "call_rows"
  n_Round_hours_long : NoAttr K (He.ga K "Round") "hours_long"
  g_Style : mg "Style" = some (.ref (He.ga K "Style"))
  cl_Style : Cls K (He.ga K "Style")
  mk_Style : Mk K (He.ga K "Style") (He.ma K (He.ga K "Style") "__init__")
  od_Style : OwnD K (He.ga K "Style")
  n_Style_called : NoAttr K (He.ga K "Style") "called"
  n_Style_step_rows : NoAttr K (He.ga K "Style") "step_rows"
  g_Job : mg "Job" = some (.ref (He.ga K "Job"))
  cl_Job : Cls K (He.ga K "Job")
  mk_Job : Mk K (He.ga K "Job") (He.ma K (He.ga K "Job") "__init__")
  od_Job : OwnD K (He.ga K "Job")
  n_Job_came : NoAttr K (He.ga K "Job") "came"
  n_Job_has_number : NoAttr K (He.ga K "Job") "has_number"
  n_Job_has_style : NoAttr K (He.ga K "Job") "has_style"
  n_Job_hasty : NoAttr K (He.ga K "Job") "hasty"
  n_Job_wanted : NoAttr K (He.ga K "Job") "wanted"
  g_Line : mg "Line" = some (.ref (He.ga K "Line"))
  cl_Line : Cls K (He.ga K "Line")
  mk_Line : Mk K (He.ga K "Line") (He.ma K (He.ga K "Line") "__init__")
  n_Line_left_words : NoAttr K (He.ga K "Line") "left_words"
  n_Line_on_row : NoAttr K (He.ga K "Line") "on_row"
  n_Line_taken : NoAttr K (He.ga K "Line") "taken"
  g_is_whole : mg "is_whole" = some (.ref (He.ga K "is_whole"))
  d_is_whole : ∃ fd, FnP K "is_whole" "is_whole" (topS 16) [.int 1000000] (He.ga K "is_whole") fd
  g_is_name : mg "is_name" = some (.ref (He.ga K "is_name"))
  d_is_name : ∃ fd, FnP K "is_name" "is_name" (topS 17) [] (He.ga K "is_name") fd
  g_kind_of : mg "kind_of" = some (.ref (He.ga K "kind_of"))
  d_kind_of : ∃ fd, FnP K "kind_of" "kind_of" (topS 18) [] (He.ga K "kind_of") fd
  g_is_step : mg "is_step" = some (.ref (He.ga K "is_step"))
  d_is_step : ∃ fd, FnP K "is_step" "is_step" (topS 19) [] (He.ga K "is_step") fd
  g_number_of : mg "number_of" = some (.ref (He.ga K "number_of"))
  d_number_of : ∃ fd, FnP K "number_of" "number_of" (topS 20) [] (He.ga K "number_of") fd
  g_words_of : mg "words_of" = some (.ref (He.ga K "words_of"))
  d_words_of : ∃ fd, FnP K "words_of" "words_of" (topS 21) [] (He.ga K "words_of") fd
  g_is_call : mg "is_call" = some (.ref (He.ga K "is_call"))
  d_is_call : ∃ fd, FnP K "is_call" "is_call" (topS 25) [] (He.ga K "is_call") fd
  g_are_calls : mg "are_calls" = some (.ref (He.ga K "are_calls"))
  d_are_calls : ∃ fd, FnP K "are_calls" "are_calls" (topS 26) [] (He.ga K "are_calls") fd
  d_Round_init : ∃ fd, FnP K "__init__" "Round.__init__" (inClass (topS 27) 0) [.non] (He.ma K (He.ga K "Round") "__init__") fd
  m_Round_length : Meth K (He.ga K "Round") "length" (He.ma K (He.ga K "Round") "length")
  d_Round_length : ∃ fd, FnP K "length" "Round.length" (inClass (topS 27) 1) [] (He.ma K (He.ga K "Round") "length") fd
  m_Round_calls : Meth K (He.ga K "Round") "calls" (He.ma K (He.ga K "Round") "calls")
  d_Round_calls : ∃ fd, FnP K "calls" "Round.calls" (inClass (topS 27) 3) [] (He.ma K (He.ga K "Round") "calls") fd
  m_Round_eq : Meth K (He.ga K "Round") "__eq__" (He.ma K (He.ga K "Round") "__eq__")
  d_Round_eq : ∃ fd, FnP K "__eq__" "Round.__eq__" (inClass (topS 27) 23) [] (He.ma K (He.ga K "Round") "__eq__") fd
  m_Round_str : Meth K (He.ga K "Round") "__str__" (He.ma K (He.ga K "Round") "__str__")
  d_Round_str : ∃ fd, FnP K "__str__" "Round.__str__" (inClass (topS 27) 25) [] (He.ma K (He.ga K "Round") "__str__") fd
  g_are_steps : mg "are_steps" = some (.ref (He.ga K "are_steps"))
  d_are_steps : ∃ fd, FnP K "are_steps" "are_steps" (topS 31) [] (He.ga K "are_steps") fd
  d_Style_init : ∃ fd, FnP K "__init__" "Style.__init__" (inClass (topS 32) 0) [] (He.ma K (He.ga K "Style") "__init__") fd
  m_Style_named : Meth K (He.ga K "Style") "named" (He.ma K (He.ga K "Style") "named")
  d_Style_named : ∃ fd, FnP K "named" "Style.named" (inClass (topS 32) 1) [] (He.ma K (He.ga K "Style") "named") fd
  m_Style_steps : Meth K (He.ga K "Style") "steps" (He.ma K (He.ga K "Style") "steps")
  d_Style_steps : ∃ fd, FnP K "steps" "Style.steps" (inClass (topS 32) 2) [] (He.ma K (He.ga K "Style") "steps") fd
  m_Style_span : Meth K (He.ga K "Style") "span" (He.ma K (He.ga K "Style") "span")
  d_Style_span : ∃ fd, FnP K "span" "Style.span" (inClass (topS 32) 4) [] (He.ma K (He.ga K "Style") "span") fd
  m_Style_eq : Meth K (He.ga K "Style") "__eq__" (He.ma K (He.ga K "Style") "__eq__")
  d_Style_eq : ∃ fd, FnP K "__eq__" "Style.__eq__" (inClass (topS 32) 8) [] (He.ma K (He.ga K "Style") "__eq__") fd
  m_Style_str : Meth K (He.ga K "Style") "__str__" (He.ma K (He.ga K "Style") "__str__")
  d_Style_str : ∃ fd, FnP K "__str__" "Style.__str__" (inClass (topS 32) 10) [] (He.ma K (He.ga K "Style") "__str__") fd
  d_Job_init : ∃ fd, FnP K "__init__" "Job.__init__" (inClass (topS 33) 0) [.int 0, .non, .bl false] (He.ma K (He.ga K "Job") "__init__") fd
  m_Job_of_style : Meth K (He.ga K "Job") "of_style" (He.ma K (He.ga K "Job") "of_style")
  d_Job_of_style : ∃ fd, FnP K "of_style" "Job.of_style" (inClass (topS 33) 2) [] (He.ma K (He.ga K "Job") "of_style") fd
  m_Job_in_haste : Meth K (He.ga K "Job") "in_haste" (He.ma K (He.ga K "Job") "in_haste")
  d_Job_in_haste : ∃ fd, FnP K "in_haste" "Job.in_haste" (inClass (topS 33) 5) [] (He.ma K (He.ga K "Job") "in_haste") fd
  m_Job_rank : Meth K (He.ga K "Job") "rank" (He.ma K (He.ga K "Job") "rank")
  d_Job_rank : ∃ fd, FnP K "rank" "Job.rank" (inClass (topS 33) 6) [] (He.ma K (He.ga K "Job") "rank") fd
  m_Job_eq : Meth K (He.ga K "Job") "__eq__" (He.ma K (He.ga K "Job") "__eq__")
  d_Job_eq : ∃ fd, FnP K "__eq__" "Job.__eq__" (inClass (topS 33) 9) [] (He.ma K (He.ga K "Job") "__eq__") fd
  m_Job_str : Meth K (He.ga K "Job") "__str__" (He.ma K (He.ga K "Job") "__str__")
  d_Job_str : ∃ fd, FnP K "__str__" "Job.__str__" (inClass (topS 33) 10) [] (He.ma K (He.ga K "Job") "__str__") fd
  d_Line_init : ∃ fd, FnP K "__init__" "Line.__init__" (inClass (topS 35) 0) [] (He.ma K (He.ga K "Line") "__init__") fd
  m_Line_ahead : Meth K (He.ga K "Line") "ahead" (He.ma K (He.ga K "Line") "ahead")
  d_Line_ahead : ∃ fd, FnP K "ahead" "Line.ahead" (inClass (topS 35) 1) [] (He.ma K (He.ga K "Line") "ahead") fd
  m_Line_take : Meth K (He.ga K "Line") "take" (He.ma K (He.ga K "Line") "take")
  d_Line_take : ∃ fd, FnP K "take" "Line.take" (inClass (topS 35) 2) [] (He.ma K (He.ga K "Line") "take") fd
  m_Line_take_word : Meth K (He.ga K "Line") "take_word" (He.ma K (He.ga K "Line") "take_word")
  d_Line_take_word : ∃ fd, FnP K "take_word" "Line.take_word" (inClass (topS 35) 3) [] (He.ma K (He.ga K "Line") "take_word") fd
  m_Line_take_name : Meth K (He.ga K "Line") "take_name" (He.ma K (He.ga K "Line") "take_name")
  d_Line_take_name : ∃ fd, FnP K "take_name" "Line.take_name" (inClass (topS 35) 4) [] (He.ma K (He.ga K "Line") "take_name") fd
  m_Line_take_number : Meth K (He.ga K "Line") "take_number" (He.ma K (He.ga K "Line") "take_number")
  d_Line_take_number : ∃ fd, FnP K "take_number" "Line.take_number" (inClass (topS 35) 5) [] (He.ma K (He.ga K "Line") "take_number") fd
  m_Line_over : Meth K (He.ga K "Line") "over" (He.ma K (He.ga K "Line") "over")
  d_Line_over : ∃ fd, FnP K "over" "Line.over" (inClass (topS 35) 6) [] (He.ma K (He.ga K "Line") "over") fd
  g_rows_of : mg "rows_of" = some (.ref (He.ga K "rows_of"))
  d_rows_of : ∃ fd, FnP K "rows_of" "rows_of" (topS 36) [] (He.ga K "rows_of") fd
  g_read_style : mg "read_style" = some (.ref (He.ga K "read_style"))
  d_read_style : ∃ fd, FnP K "read_style" "read_style" (topS 37) [] (He.ga K "read_style") fd
  g_read_job : mg "read_job" = some (.ref (He.ga K "read_job"))
  d_read_job : ∃ fd, FnP K "read_job" "read_job" (topS 38) [] (He.ga K "read_job") fd
  g_read_round : mg "read_round" = some (.ref (He.ga K "read_round"))
  d_read_round : ∃ fd, FnP K "read_round" "read_round" (topS 39) [] (He.ga K "read_round") fd
  g_law_mixed : mg "_law_mixed" = some (.ref (He.ga K "_law_mixed"))
  d_law_mixed : ∃ fd, FnP K "_law_mixed" "_law_mixed" (topS 41) [] (He.ga K "_law_mixed") fd
  g_law_folded : mg "_law_folded" = some (.ref (He.ga K "_law_folded"))
  d_law_folded : ∃ fd, FnP K "_law_folded" "_law_folded" (topS 42) [] (He.ga K "_law_folded") fd
  g_law_draw : mg "_law_draw" = some (.ref (He.ga K "_law_draw"))
  d_law_draw : ∃ fd, FnP K "_law_draw" "_law_draw" (topS 43) [] (He.ga K "_law_draw") fd
  g_law_begun : mg "_law_begun" = some (.ref (He.ga K "_law_begun"))
  d_law_begun : ∃ fd, FnP K "_law_begun" "_law_begun" (topS 44) [] (He.ga K "_law_begun") fd
  g_law_called : mg "_law_called" = some (.ref (He.ga K "_law_called"))
  d_law_called : ∃ fd, FnP K "_law_called" "_law_called" (topS 45) [] (He.ga K "_law_called") fd
  g_law_step : mg "_law_step" = some (.ref (He.ga K "_law_step"))
  d_law_step : ∃ fd, FnP K "_law_step" "_law_step" (topS 46) [] (He.ga K "_law_step") fd
  g_law_steps : mg "_law_steps" = some (.ref (He.ga K "_law_steps"))
  d_law_steps : ∃ fd, FnP K "_law_steps" "_law_steps" (topS 47) [] (He.ga K "_law_steps") fd
  g_law_styles : mg "_law_styles" = some (.ref (He.ga K "_law_styles"))
  d_law_styles : ∃ fd, FnP K "_law_styles" "_law_styles" (topS 48) [] (He.ga K "_law_styles") fd
  g_law_numbers : mg "_law_numbers" = some (.ref (He.ga K "_law_numbers"))
  d_law_numbers : ∃ fd, FnP K "_law_numbers" "_law_numbers" (topS 49) [] (He.ga K "_law_numbers") fd
  g_law_plain_job : mg "_law_plain_job" = some (.ref (He.ga K "_law_plain_job"))
  d_law_plain_job : ∃ fd, FnP K "_law_plain_job" "_law_plain_job" (topS 50) [] (He.ga K "_law_plain_job") fd
  g_law_plain_jobs : mg "_law_plain_jobs" = some (.ref (He.ga K "_law_plain_jobs"))
  d_law_plain_jobs : ∃ fd, FnP K "_law_plain_jobs" "_law_plain_jobs" (topS 51) [] (He.ga K "_law_plain_jobs") fd
  g_law_style : mg "_law_style" = some (.ref (He.ga K "_law_style"))
  d_law_style : ∃ fd, FnP K "_law_style" "_law_style" (topS 52) [] (He.ga K "_law_style") fd
  g_law_job : mg "_law_job" = some (.ref (He.ga K "_law_job"))
  d_law_job : ∃ fd, FnP K "_law_job" "_law_job" (topS 53) [] (He.ga K "_law_job") fd
  g_law_plain_round : mg "_law_plain_round" = some (.ref (He.ga K "_law_plain_round"))
  d_law_plain_round : ∃ fd, FnP K "_law_plain_round" "_law_plain_round" (topS 54) [] (He.ga K "_law_plain_round") fd
  g_law_round : mg "_law_round" = some (.ref (He.ga K "_law_round"))
  d_law_round : ∃ fd, FnP K "_law_round" "_law_round" (topS 55) [] (He.ga K "_law_round") fd
  g_law_style_rows : mg "_law_style_rows" = some (.ref (He.ga K "_law_style_rows"))
  d_law_style_rows : ∃ fd, FnP K "_law_style_rows" "_law_style_rows" (topS 56) [] (He.ga K "_law_style_rows") fd
  g_law_job_text : mg "_law_job_text" = some (.ref (He.ga K "_law_job_text"))
  d_law_job_text : ∃ fd, FnP K "_law_job_text" "_law_job_text" (topS 57) [] (He.ga K "_law_job_text") fd
  g_law_round_rows : mg "_law_round_rows" = some (.ref (He.ga K "_law_round_rows"))
  d_law_round_rows : ∃ fd, FnP K "_law_round_rows" "_law_round_rows" (topS 58) [] (He.ga K "_law_round_rows") fd
  g_law_style_right : mg "_law_style_right" = some (.ref (He.ga K "_law_style_right"))
  d_law_style_right : ∃ fd, FnP K "_law_style_right" "_law_style_right" (topS 59) [] (He.ga K "_law_style_right") fd
  g_law_job_right : mg "_law_job_right" = some (.ref (He.ga K "_law_job_right"))
  d_law_job_right : ∃ fd, FnP K "_law_job_right" "_law_job_right" (topS 60) [] (He.ga K "_law_job_right") fd
  g_law_round_right : mg "_law_round_right" = some (.ref (He.ga K "_law_round_right"))
  d_law_round_right : ∃ fd, FnP K "_law_round_right" "_law_round_right" (topS 61) [] (He.ga K "_law_round_right") fd
  g_law : mg "law" = some (.ref (He.ga K "law"))
  d_law : ∃ fd, FnP K "law" "law" (topS 62) [] (He.ga K "law") fd
theorem lineC {K : PySem.W.Frag} {w : World} {mg : Str → Option Value} (T : Txt K w mg) : LineC K := ⟨T.cl_Line, T.n_Line_on_row, T.n_Line_left_words, T.n_Line_taken⟩
theorem jobC {K : PySem.W.Frag} {w : World} {mg : Str → Option Value} (T : Txt K w mg) : JobC K := ⟨T.cl_Job, T.n_Job_has_number, T.n_Job_has_style, T.n_Job_came, T.n_Job_wanted, T.n_Job_hasty⟩
theorem styleC {K : PySem.W.Frag} {w : World} {mg : Str → Option Value} (T : Txt K w mg) : StyleC K := ⟨T.cl_Style, T.n_Style_called, T.n_Style_step_rows⟩
theorem roundC {K : PySem.W.Frag} {w : World} {mg : Str → Option Value} (T : Txt K w mg) : RoundC K := ⟨T.cl_Round, T.n_Round_hours_long, T.n_Round_call_rows, T.n_Round_begun⟩
section
variable {P : Program} {w : World} {K : PySem.W.Frag} {mg : Str → Option Value} {base : Heap}
theorem sc_is_whole : FnScope ["thing", "least", "most"] ["thing", "least", "most"] (defScope (topS 16)) := ⟨rfl, rfl, rfl, by decide +kernel, rfl, by decide +kernel, by decide +kernel⟩
theorem ok_is_whole (T : Txt K w mg) : ∃ fd, FnP K "is_whole" "is_whole" (topS 16) [.int 1000000] (He.ga K "is_whole") fd ∧ FnG P w K mg base CX0 1 (He.ga K "is_whole") fd ["thing", "least", "most"] (sp_is_whole K) := by
  obtain ⟨fd, F⟩ := T.d_is_whole
  refine ⟨fd, F, fnG_of (sp := sp_is_whole K) F sc_is_whole (fun vs H Q E h => h.1) fun cdv A outer s H vs Q E hr hg h => ?_⟩
  have hu := hu_of hr
  have nd := sc_is_whole.nd
  exact ⟨t_is_whole K, PSs.nox ((pss_one (ps_ret (pe_and (pe_callB call_isi (by rfl) T.z_isinstance (by decide +kernel) (pa_cons (pv 0) (pa_cons (pe_bltn (v := .ty "int") (by rfl) T.z_int (by decide +kernel) rfl) pa_nil))) (pe_and (pe_not (pe_callB call_isi (by rfl) T.z_isinstance (by decide +kernel) (pa_cons (pv 0) (pa_cons (pe_bltn (v := .ty "bool") (by rfl) T.z_bool (by decide +kernel) rfl) pa_nil)))) (pe_one (pe_chain op_le op_le (pv 1) (pv 0) (pv 2)))))))), rd_is_whole vs H Q E h⟩
theorem cs_is_whole_2_most (T : Txt K w mg) : CallOk P w K mg base CX0 1 "is_whole" 2 ["most"] (sp_is_whole K) (fun vs zs => pick .non [0, 1, 2] (vs ++ (zs ++ [.int 1000000]))) := by
  obtain ⟨fd, F, G⟩ := ok_is_whole (P := P) (w := w) (base := base) T
  obtain ⟨g, kb⟩ := kb1 (ps := ["thing", "least", "most"]) F (by simp) 2 ["most"] [0, 1, 2] fun T kV doc pm an cdv ct us ws its h1 h2 h3 => match us, ws, its, h1, h2, h3 with | [_, _], [_], [_], _, _, _ => ⟨_, rfl, rfl⟩
  exact ⟨⟨fd, _, g, G, kb⟩, T.g_is_whole, F.kp⟩
theorem sc_is_name : FnScope ["thing", "sign"] ["thing"] (defScope (topS 17)) := ⟨rfl, rfl, rfl, by decide +kernel, rfl, by decide +kernel, by decide +kernel⟩
theorem ok_is_name (T : Txt K w mg) : ∃ fd, FnP K "is_name" "is_name" (topS 17) [] (He.ga K "is_name") fd ∧ FnG P w K mg base CX0 1 (He.ga K "is_name") fd ["thing"] (sp_is_name K) := by
  obtain ⟨fd, F⟩ := T.d_is_name
  refine ⟨fd, F, fnG_of (sp := sp_is_name K) F sc_is_name (fun vs H Q E h => h.1) fun cdv A outer s H vs Q E hr hg h => ?_⟩
  have hu := hu_of hr
  have nd := sc_is_name.nd
  exact ⟨t_is_name K, PSs.nox ((pss_cons (ps_if (PW.pt (pw_or (pt_not (pt_tr (pe_callB call_isi (by rfl) T.z_isinstance (by decide +kernel) (pa_cons (pv 0) (pa_cons (pe_bltn (v := .ty "str") (by rfl) T.z_str (by decide +kernel) rfl) pa_nil))))) (pw_or (pt_not (pt_chain op_le op_le pe_int (pe_callB cl_len (by rfl) T.z_len PySem.boot_len (pa_cons (pv 0) pa_nil)) (pe_gI T.c_MOST_LETTERS))) (pw_or1 (pt_cmpR op_inA (pv 0) (pe_gR T.g_BARRED_WORDS) rfl))))) (pss_one (ps_ret pe_bl)) pss_nil)
    (pss_one (ps_ret (pe_callB (cr_all rfl) (by rfl) T.z_all (by decide +kernel) (pa_cons (pe_lc (own := [("sign", 1)]) rfl nd (pi_any (pv 0)) (blkOk_by (by first | decide +kernel | kernel_rfl)) (fun _ _ _ _ _ => (pg_name (i := 1) nd rfl (Or.inl rfl))) (fun _ _ _ _ _ => pts_nil) (fun _ _ _ _ _ => (pe_cmpR op_inA (pv 1) (pe_gS T.c_LETTERS) rfl))) pa_nil)))))), rd_is_name T.k_BARRED_WORDS vs H Q E h⟩
theorem cs_is_name_1 (T : Txt K w mg) : CallOk P w K mg base CX0 1 "is_name" 1 [] (sp_is_name K) (fun vs zs => pick .non [0] (vs ++ zs)) := by
  obtain ⟨fd, F, G⟩ := ok_is_name (P := P) (w := w) (base := base) T
  obtain ⟨g, kb⟩ := kb0 (ps := ["thing"]) F 1 [] [0] fun kV doc pm an cdv ct us ws h1 h2 => match us, ws, h1, h2 with | [_], [], _, _ => rfl
  exact ⟨⟨fd, _, g, G, kb⟩, T.g_is_name, F.kp⟩
theorem sc_kind_of : FnScope ["work"] ["work"] (defScope (topS 18)) := ⟨rfl, rfl, rfl, by decide +kernel, rfl, by decide +kernel, by decide +kernel⟩
theorem ok_kind_of (T : Txt K w mg) : ∃ fd, FnP K "kind_of" "kind_of" (topS 18) [] (He.ga K "kind_of") fd ∧ FnG P w K mg base CX0 1 (He.ga K "kind_of") fd ["work"] (sp_kind_of K) := by
  obtain ⟨fd, F⟩ := T.d_kind_of
  refine ⟨fd, F, fnG_of (sp := sp_kind_of K) F sc_kind_of (fun vs H Q E h => h.1) fun cdv A outer s H vs Q E hr hg h => ?_⟩
  have hu := hu_of hr
  have nd := sc_kind_of.nd
  exact ⟨t_kind_of K, PSs.nox ((pss_one (ps_ret (pe_ifExp (pt_tr (pe_callB call_isi (by rfl) T.z_isinstance (by decide +kernel) (pa_cons (pv 0) (pa_cons (pe_bltn (v := .ty "str") (by rfl) T.z_str (by decide +kernel) rfl) pa_nil)))) (pe_kget T.k_KINDS (pe_gR T.g_KINDS) (pv 0) ⟨rfl, rfl, rfl, rfl⟩) pe_non)))), rd_kind_of vs H Q E h⟩
theorem cs_kind_of_1 (T : Txt K w mg) : CallOk P w K mg base CX0 1 "kind_of" 1 [] (sp_kind_of K) (fun vs zs => pick .non [0] (vs ++ zs)) := by
  obtain ⟨fd, F, G⟩ := ok_kind_of (P := P) (w := w) (base := base) T
  obtain ⟨g, kb⟩ := kb0 (ps := ["work"]) F 1 [] [0] fun kV doc pm an cdv ct us ws h1 h2 => match us, ws, h1, h2 with | [_], [], _, _ => rfl
  exact ⟨⟨fd, _, g, G, kb⟩, T.g_kind_of, F.kp⟩
theorem sc_number_of : FnScope ["word", "sign"] ["word"] (defScope (topS 20)) := ⟨rfl, rfl, rfl, by decide +kernel, rfl, by decide +kernel, by decide +kernel⟩
theorem ok_number_of (T : Txt K w mg) : ∃ fd, FnP K "number_of" "number_of" (topS 20) [] (He.ga K "number_of") fd ∧ FnG P w K mg base CX0 1 (He.ga K "number_of") fd ["word"] (sp_number_of K) := by
  obtain ⟨fd, F⟩ := T.d_number_of
  refine ⟨fd, F, fnG_of (sp := sp_number_of K) F sc_number_of (fun vs H Q E h => h.1) fun cdv A outer s H vs Q E hr hg h => ?_⟩
  have hu := hu_of hr
  have nd := sc_number_of.nd
  exact ⟨t_number_of K, PSs.nox ((pss_cons (ps_if (PW.pt (pw_or (pt_not (pt_tr (pe_callB call_isi (by rfl) T.z_isinstance (by decide +kernel) (pa_cons (pv 0) (pa_cons (pe_bltn (v := .ty "str") (by rfl) T.z_str (by decide +kernel) rfl) pa_nil))))) (pw_or1 (pt_not (pt_chain op_le op_le pe_int (pe_callB cl_len (by rfl) T.z_len PySem.boot_len (pa_cons (pv 0) pa_nil)) (pe_gI T.c_MOST_FIGURES)))))) (pss_one (ps_ret pe_non)) pss_nil)
    (pss_cons (ps_if (PW.pt (pw_or (pt_not (pt_tr (pe_callB (cr_all rfl) (by rfl) T.z_all (by decide +kernel) (pa_cons (pe_lc (own := [("sign", 1)]) rfl nd (pi_any (pv 0)) (blkOk_by (by first | decide +kernel | kernel_rfl)) (fun _ _ _ _ _ => (pg_name (i := 1) nd rfl (Or.inl rfl))) (fun _ _ _ _ _ => pts_nil) (fun _ _ _ _ _ => (pe_cmpR op_inA (pv 1) (pe_gS T.c_FIGURES) rfl))) pa_nil)))) (pw_or1 (PW.pt (pw_and (pt_cmpR (op_eqA hr) (pe_ix ix_seq (pv 0) pe_int (fun _ _ => rfl)) pe_str (nobehind _ (by decide) (by decide))) (pw_and1 (pt_cmpR (op_neA hr) (pv 0) pe_str (nobehind _ (by decide) (by decide))))))))) (pss_one (ps_ret pe_non)) pss_nil)
    (pss_one (ps_ret (pe_callTy cl_intS (by rfl) T.z_int (by decide +kernel) (pa_cons (pv 0) pa_nil))))))), rd_number_of vs H Q E h⟩
theorem cs_number_of_1 (T : Txt K w mg) : CallOk P w K mg base CX0 1 "number_of" 1 [] (sp_number_of K) (fun vs zs => pick .non [0] (vs ++ zs)) := by
  obtain ⟨fd, F, G⟩ := ok_number_of (P := P) (w := w) (base := base) T
  obtain ⟨g, kb⟩ := kb0 (ps := ["word"]) F 1 [] [0] fun kV doc pm an cdv ct us ws h1 h2 => match us, ws, h1, h2 with | [_], [], _, _ => rfl
  exact ⟨⟨fd, _, g, G, kb⟩, T.g_number_of, F.kp⟩
theorem sc_words_of : FnScope ["row", "found"] ["row"] (defScope (topS 21)) := ⟨rfl, rfl, rfl, by decide +kernel, rfl, by decide +kernel, by decide +kernel⟩
theorem ok_words_of (T : Txt K w mg) : ∃ fd, FnP K "words_of" "words_of" (topS 21) [] (He.ga K "words_of") fd ∧ FnG P w K mg base CX0 1 (He.ga K "words_of") fd ["row"] (sp_words_of K) := by
  obtain ⟨fd, F⟩ := T.d_words_of
  refine ⟨fd, F, fnG_of (sp := sp_words_of K) F sc_words_of (fun vs H Q E h => h.1) fun cdv A outer s H vs Q E hr hg h => ?_⟩
  have hu := hu_of hr
  have nd := sc_words_of.nd
  exact ⟨t_words_of K, PSs.nox ((pss_cons (ps_if (pt_not (pt_tr (pe_callB call_isi (by rfl) T.z_isinstance (by decide +kernel) (pa_cons (pv 0) (pa_cons (pe_bltn (v := .ty "str") (by rfl) T.z_str (by decide +kernel) rfl) pa_nil))))) (pss_one (ps_ret pe_non)) pss_nil)
    (pss_cons (ps_set (i := 1) nd rfl (Or.inl rfl) (pe_split (pv 0) pe_str))
    (pss_one (ps_ret (pe_ifExp (pt_cmpR op_inA pe_str (pv 1) rfl) pe_non (pv 1))))))), rd_words_of vs H Q E h⟩
theorem cs_words_of_1 (T : Txt K w mg) : CallOk P w K mg base CX0 1 "words_of" 1 [] (sp_words_of K) (fun vs zs => pick .non [0] (vs ++ zs)) := by
  obtain ⟨fd, F, G⟩ := ok_words_of (P := P) (w := w) (base := base) T
  obtain ⟨g, kb⟩ := kb0 (ps := ["row"]) F 1 [] [0] fun kV doc pm an cdv ct us ws h1 h2 => match us, ws, h1, h2 with | [_], [], _, _ => rfl
  exact ⟨⟨fd, _, g, G, kb⟩, T.g_words_of, F.kp⟩
theorem sc_Round_length : FnScope ["self"] ["self"] (defScope (inClass (topS 27) 1)) := ⟨rfl, rfl, rfl, by decide +kernel, rfl, by decide +kernel, by decide +kernel⟩
theorem ok_Round_length (T : Txt K w mg) : ∃ fd, FnP K "length" "Round.length" (inClass (topS 27) 1) [] (He.ma K (He.ga K "Round") "length") fd ∧ FnG P w K mg base CX0 1 (He.ma K (He.ga K "Round") "length") fd ["self"] (sp_Round_length K) := by
  obtain ⟨fd, F⟩ := T.d_Round_length
  refine ⟨fd, F, fnG_of (sp := sp_Round_length K) F sc_Round_length (fun vs H Q E h => h.1) fun cdv A outer s H vs Q E hr hg h => ?_⟩
  have hu := hu_of hr
  have nd := sc_Round_length.nd
  exact ⟨t_Round_length K, PSs.nox ((pss_one (ps_ret (pe_fld (pv 0) rfl)))), rd_Round_length (roundC T) vs H Q E h⟩
theorem cs_Round_length_0 (T : Txt K w mg) : MethOk P w K mg base CX0 1 (He.ga K "Round") "length" 0 [] (sp_Round_length K) (fun vs zs => pick .non [0] (vs ++ zs)) := by
  obtain ⟨fd, F, G⟩ := ok_Round_length (P := P) (w := w) (base := base) T
  obtain ⟨g, kb⟩ := kb0 (ps := ["self"]) F 1 [] [0] fun kV doc pm an cdv ct us ws h1 h2 => match us, ws, h1, h2 with | [_], [], _, _ => rfl
  exact ⟨⟨_, fd, _, g, T.m_Round_length, G, kb⟩, T.cl_Round⟩
theorem sc_Round_calls : FnScope ["self"] ["self"] (defScope (inClass (topS 27) 3)) := ⟨rfl, rfl, rfl, by decide +kernel, rfl, by decide +kernel, by decide +kernel⟩
theorem ok_Round_calls (T : Txt K w mg) : ∃ fd, FnP K "calls" "Round.calls" (inClass (topS 27) 3) [] (He.ma K (He.ga K "Round") "calls") fd ∧ FnG P w K mg base CX0 1 (He.ma K (He.ga K "Round") "calls") fd ["self"] (sp_Round_calls K) := by
  obtain ⟨fd, F⟩ := T.d_Round_calls
  refine ⟨fd, F, fnG_of (sp := sp_Round_calls K) F sc_Round_calls (fun vs H Q E h => h.1) fun cdv A outer s H vs Q E hr hg h => ?_⟩
  have hu := hu_of hr
  have nd := sc_Round_calls.nd
  exact ⟨t_Round_calls K, PSs.nox ((pss_one (ps_ret (pe_callTy cl_listOf (by rfl) T.z_list (by decide +kernel) (pa_cons (pe_fld (pv 0) rfl) pa_nil))))), rd_Round_calls (roundC T) vs H Q E h⟩
theorem cs_Round_calls_0 (T : Txt K w mg) : MethOk P w K mg base CX0 1 (He.ga K "Round") "calls" 0 [] (sp_Round_calls K) (fun vs zs => pick .non [0] (vs ++ zs)) := by
  obtain ⟨fd, F, G⟩ := ok_Round_calls (P := P) (w := w) (base := base) T
  obtain ⟨g, kb⟩ := kb0 (ps := ["self"]) F 1 [] [0] fun kV doc pm an cdv ct us ws h1 h2 => match us, ws, h1, h2 with | [_], [], _, _ => rfl
  exact ⟨⟨_, fd, _, g, T.m_Round_calls, G, kb⟩, T.cl_Round⟩
theorem sc_Round_str : FnScope ["self", "rows", "at", "name", "hours"] ["self"] (defScope (inClass (topS 27) 25)) := ⟨rfl, rfl, rfl, by decide +kernel, rfl, by decide +kernel, by decide +kernel⟩
theorem ok_Round_str (T : Txt K w mg) : ∃ fd, FnP K "__str__" "Round.__str__" (inClass (topS 27) 25) [] (He.ma K (He.ga K "Round") "__str__") fd ∧ FnG P w K mg base CX0 1 (He.ma K (He.ga K "Round") "__str__") fd ["self"] (sp_Round_str K) := by
  obtain ⟨fd, F⟩ := T.d_Round_str
  refine ⟨fd, F, fnG_of (sp := sp_Round_str K) F sc_Round_str (fun vs H Q E h => h.1) fun cdv A outer s H vs Q E hr hg h => ?_⟩
  have hu := hu_of hr
  have nd := sc_Round_str.nd
  exact ⟨t_Round_str K, PSs.nox ((pss_cons (ps_set (i := 1) nd rfl (Or.inl rfl) (pe_lst (pa_cons (pe_joined (.cons pe_str (.cons (pe_fmt (pe_fld (pv 0) rfl)) .nil))) pa_nil)))
    (pss_cons (ps_for PassesOwn.never rfl (pi_any (pe_fld (pv 0) rfl)) (pg_tup rfl (pgs_cons (pg_name (i := 2) nd rfl (Or.inl rfl)) (pgs_cons (pg_name (i := 3) nd rfl (Or.inl rfl)) (pgs_cons (pg_name (i := 4) nd rfl (Or.inl rfl)) pgs_nil))))
    (pss_one (ps_expr (pe_bm PySem.F.plainAttrs_list PySem.F.slot_list_append PySem.F.type_list_append mt_append (pv 1) (pa_cons (pe_joined (.cons (pe_fmt (pv 2)) (.cons pe_str (.cons (pe_fmt (pv 3)) (.cons pe_str (.cons (pe_fmt (pv 4)) .nil)))))) pa_nil)))))
    (pss_one (ps_ret (pe_join pe_str (pv 1))))))), rd_Round_str (roundC T) vs H Q E h⟩
theorem cs_Round_str_0 (T : Txt K w mg) : MethOk P w K mg base CX0 1 (He.ga K "Round") "__str__" 0 [] (sp_Round_str K) (fun vs zs => pick .non [0] (vs ++ zs)) := by
  obtain ⟨fd, F, G⟩ := ok_Round_str (P := P) (w := w) (base := base) T
  obtain ⟨g, kb⟩ := kb0 (ps := ["self"]) F 1 [] [0] fun kV doc pm an cdv ct us ws h1 h2 => match us, ws, h1, h2 with | [_], [], _, _ => rfl
  exact ⟨⟨_, fd, _, g, T.m_Round_str, G, kb⟩, T.cl_Round⟩
theorem sc_Style_named : FnScope ["self"] ["self"] (defScope (inClass (topS 32) 1)) := ⟨rfl, rfl, rfl, by decide +kernel, rfl, by decide +kernel, by decide +kernel⟩
theorem ok_Style_named (T : Txt K w mg) : ∃ fd, FnP K "named" "Style.named" (inClass (topS 32) 1) [] (He.ma K (He.ga K "Style") "named") fd ∧ FnG P w K mg base CX0 1 (He.ma K (He.ga K "Style") "named") fd ["self"] (sp_Style_named K) := by
  obtain ⟨fd, F⟩ := T.d_Style_named
  refine ⟨fd, F, fnG_of (sp := sp_Style_named K) F sc_Style_named (fun vs H Q E h => h.1) fun cdv A outer s H vs Q E hr hg h => ?_⟩
  have hu := hu_of hr
  have nd := sc_Style_named.nd
  exact ⟨t_Style_named K, PSs.nox ((pss_one (ps_ret (pe_fld (pv 0) rfl)))), rd_Style_named (styleC T) vs H Q E h⟩
theorem cs_Style_named_0 (T : Txt K w mg) : MethOk P w K mg base CX0 1 (He.ga K "Style") "named" 0 [] (sp_Style_named K) (fun vs zs => pick .non [0] (vs ++ zs)) := by
  obtain ⟨fd, F, G⟩ := ok_Style_named (P := P) (w := w) (base := base) T
  obtain ⟨g, kb⟩ := kb0 (ps := ["self"]) F 1 [] [0] fun kV doc pm an cdv ct us ws h1 h2 => match us, ws, h1, h2 with | [_], [], _, _ => rfl
  exact ⟨⟨_, fd, _, g, T.m_Style_named, G, kb⟩, T.cl_Style⟩
theorem sc_Style_steps : FnScope ["self"] ["self"] (defScope (inClass (topS 32) 2)) := ⟨rfl, rfl, rfl, by decide +kernel, rfl, by decide +kernel, by decide +kernel⟩
theorem ok_Style_steps (T : Txt K w mg) : ∃ fd, FnP K "steps" "Style.steps" (inClass (topS 32) 2) [] (He.ma K (He.ga K "Style") "steps") fd ∧ FnG P w K mg base CX0 1 (He.ma K (He.ga K "Style") "steps") fd ["self"] (sp_Style_steps K) := by
  obtain ⟨fd, F⟩ := T.d_Style_steps
  refine ⟨fd, F, fnG_of (sp := sp_Style_steps K) F sc_Style_steps (fun vs H Q E h => h.1) fun cdv A outer s H vs Q E hr hg h => ?_⟩
  have hu := hu_of hr
  have nd := sc_Style_steps.nd
  exact ⟨t_Style_steps K, PSs.nox ((pss_one (ps_ret (pe_callTy cl_listOf (by rfl) T.z_list (by decide +kernel) (pa_cons (pe_fld (pv 0) rfl) pa_nil))))), rd_Style_steps (styleC T) vs H Q E h⟩
theorem cs_Style_steps_0 (T : Txt K w mg) : MethOk P w K mg base CX0 1 (He.ga K "Style") "steps" 0 [] (sp_Style_steps K) (fun vs zs => pick .non [0] (vs ++ zs)) := by
  obtain ⟨fd, F, G⟩ := ok_Style_steps (P := P) (w := w) (base := base) T
  obtain ⟨g, kb⟩ := kb0 (ps := ["self"]) F 1 [] [0] fun kV doc pm an cdv ct us ws h1 h2 => match us, ws, h1, h2 with | [_], [], _, _ => rfl
  exact ⟨⟨_, fd, _, g, T.m_Style_steps, G, kb⟩, T.cl_Style⟩
theorem sc_Style_span : FnScope ["self", "row"] ["self"] (defScope (inClass (topS 32) 4)) := ⟨rfl, rfl, rfl, by decide +kernel, rfl, by decide +kernel, by decide +kernel⟩
theorem ok_Style_span (T : Txt K w mg) : ∃ fd, FnP K "span" "Style.span" (inClass (topS 32) 4) [] (He.ma K (He.ga K "Style") "span") fd ∧ FnG P w K mg base CX0 1 (He.ma K (He.ga K "Style") "span") fd ["self"] (sp_Style_span K) := by
  obtain ⟨fd, F⟩ := T.d_Style_span
  refine ⟨fd, F, fnG_of (sp := sp_Style_span K) F sc_Style_span (fun vs H Q E h => h.1) fun cdv A outer s H vs Q E hr hg h => ?_⟩
  have hu := hu_of hr
  have nd := sc_Style_span.nd
  exact ⟨t_Style_span K, PSs.nox ((pss_one (ps_ret (pe_callB (cr_sum rfl) (by rfl) T.z_sum (by decide +kernel) (pa_cons (pe_lc (own := [("row", 1)]) rfl nd (pi_any (pe_fld (pv 0) rfl)) (blkOk_by (by first | decide +kernel | kernel_rfl)) (fun _ _ _ _ _ => (pg_name (i := 1) nd rfl (Or.inl rfl))) (fun _ _ _ _ _ => pts_nil) (fun _ _ _ _ _ => (pe_op op_addA (pe_ix ix_seq (pv 1) pe_int (fun _ _ => rfl)) (pe_ix ix_seq (pv 1) pe_int (fun _ _ => rfl))))) pa_nil))))), rd_Style_span (styleC T) vs H Q E h⟩
theorem cs_Style_span_0 (T : Txt K w mg) : MethOk P w K mg base CX0 1 (He.ga K "Style") "span" 0 [] (sp_Style_span K) (fun vs zs => pick .non [0] (vs ++ zs)) := by
  obtain ⟨fd, F, G⟩ := ok_Style_span (P := P) (w := w) (base := base) T
  obtain ⟨g, kb⟩ := kb0 (ps := ["self"]) F 1 [] [0] fun kV doc pm an cdv ct us ws h1 h2 => match us, ws, h1, h2 with | [_], [], _, _ => rfl
  exact ⟨⟨_, fd, _, g, T.m_Style_span, G, kb⟩, T.cl_Style⟩
theorem sc_Style_eq : FnScope ["self", "other"] ["self", "other"] (defScope (inClass (topS 32) 8)) := ⟨rfl, rfl, rfl, by decide +kernel, rfl, by decide +kernel, by decide +kernel⟩
theorem ok_Style_eq (T : Txt K w mg) : ∃ fd, FnP K "__eq__" "Style.__eq__" (inClass (topS 32) 8) [] (He.ma K (He.ga K "Style") "__eq__") fd ∧ FnG P w K mg base CX0 1 (He.ma K (He.ga K "Style") "__eq__") fd ["self", "other"] (sp_Style_eq K) := by
  obtain ⟨fd, F⟩ := T.d_Style_eq
  refine ⟨fd, F, fnG_of (sp := sp_Style_eq K) F sc_Style_eq (fun vs H Q E h => h.1) fun cdv A outer s H vs Q E hr hg h => ?_⟩
  have hu := hu_of hr
  have nd := sc_Style_eq.nd
  exact ⟨t_Style_eq K, PSs.nox ((pss_one (ps_ret (pe_and (pe_callB call_isi (by rfl) T.z_isinstance (by decide +kernel) (pa_cons (pv 1) (pa_cons (pe_gR T.g_Style) pa_nil))) (pe_and (pe_cmpR (op_eqA hr) (pe_fld (pv 0) rfl) (pe_fld (pv 1) rfl) (nobehind _ (by decide) (by decide))) (pe_one (pe_cmpR (op_eqA hr) (pe_fld (pv 0) rfl) (pe_fld (pv 1) rfl) (nobehind _ (by decide) (by decide))))))))), rd_Style_eq (styleC T) T.od_Style vs H Q E h⟩
theorem cs_Style_eq_1 (T : Txt K w mg) : MethOk P w K mg base CX0 1 (He.ga K "Style") "__eq__" 1 [] (sp_Style_eq K) (fun vs zs => pick .non [0, 1] (vs ++ zs)) := by
  obtain ⟨fd, F, G⟩ := ok_Style_eq (P := P) (w := w) (base := base) T
  obtain ⟨g, kb⟩ := kb0 (ps := ["self", "other"]) F 2 [] [0, 1] fun kV doc pm an cdv ct us ws h1 h2 => match us, ws, h1, h2 with | [_, _], [], _, _ => rfl
  exact ⟨⟨_, fd, _, g, T.m_Style_eq, G, kb⟩, T.cl_Style⟩
theorem sc_Style_str : FnScope ["self", "rows", "work", "hours", "rest"] ["self"] (defScope (inClass (topS 32) 10)) := ⟨rfl, rfl, rfl, by decide +kernel, rfl, by decide +kernel, by decide +kernel⟩
theorem ok_Style_str (T : Txt K w mg) : ∃ fd, FnP K "__str__" "Style.__str__" (inClass (topS 32) 10) [] (He.ma K (He.ga K "Style") "__str__") fd ∧ FnG P w K mg base CX0 1 (He.ma K (He.ga K "Style") "__str__") fd ["self"] (sp_Style_str K) := by
  obtain ⟨fd, F⟩ := T.d_Style_str
  refine ⟨fd, F, fnG_of (sp := sp_Style_str K) F sc_Style_str (fun vs H Q E h => h.1) fun cdv A outer s H vs Q E hr hg h => ?_⟩
  have hu := hu_of hr
  have nd := sc_Style_str.nd
  exact ⟨t_Style_str K, PSs.nox ((pss_cons (ps_set (i := 1) nd rfl (Or.inl rfl) (pe_lst (pa_cons (pe_op op_addA pe_str (pe_fld (pv 0) rfl)) pa_nil)))
    (pss_cons (ps_for PassesOwn.never rfl (pi_any (pe_fld (pv 0) rfl)) (pg_tup rfl (pgs_cons (pg_name (i := 2) nd rfl (Or.inl rfl)) (pgs_cons (pg_name (i := 3) nd rfl (Or.inl rfl)) (pgs_cons (pg_name (i := 4) nd rfl (Or.inl rfl)) pgs_nil))))
    (pss_one (ps_expr (pe_bm PySem.F.plainAttrs_list PySem.F.slot_list_append PySem.F.type_list_append mt_append (pv 1) (pa_cons (pe_joined (.cons (pe_fmt (pv 2)) (.cons pe_str (.cons (pe_fmt (pv 3)) (.cons pe_str (.cons (pe_fmt (pv 4)) .nil)))))) pa_nil)))))
    (pss_one (ps_ret (pe_join pe_str (pv 1))))))), rd_Style_str (styleC T) vs H Q E h⟩
theorem cs_Style_str_0 (T : Txt K w mg) : MethOk P w K mg base CX0 1 (He.ga K "Style") "__str__" 0 [] (sp_Style_str K) (fun vs zs => pick .non [0] (vs ++ zs)) := by
  obtain ⟨fd, F, G⟩ := ok_Style_str (P := P) (w := w) (base := base) T
  obtain ⟨g, kb⟩ := kb0 (ps := ["self"]) F 1 [] [0] fun kV doc pm an cdv ct us ws h1 h2 => match us, ws, h1, h2 with | [_], [], _, _ => rfl
  exact ⟨⟨_, fd, _, g, T.m_Style_str, G, kb⟩, T.cl_Style⟩
theorem sc_Job_of_style : FnScope ["self"] ["self"] (defScope (inClass (topS 33) 2)) := ⟨rfl, rfl, rfl, by decide +kernel, rfl, by decide +kernel, by decide +kernel⟩
theorem ok_Job_of_style (T : Txt K w mg) : ∃ fd, FnP K "of_style" "Job.of_style" (inClass (topS 33) 2) [] (He.ma K (He.ga K "Job") "of_style") fd ∧ FnG P w K mg base CX0 1 (He.ma K (He.ga K "Job") "of_style") fd ["self"] (sp_Job_of_style K) := by
  obtain ⟨fd, F⟩ := T.d_Job_of_style
  refine ⟨fd, F, fnG_of (sp := sp_Job_of_style K) F sc_Job_of_style (fun vs H Q E h => h.1) fun cdv A outer s H vs Q E hr hg h => ?_⟩
  have hu := hu_of hr
  have nd := sc_Job_of_style.nd
  exact ⟨t_Job_of_style K, PSs.nox ((pss_one (ps_ret (pe_fld (pv 0) rfl)))), rd_Job_of_style (jobC T) vs H Q E h⟩
theorem cs_Job_of_style_0 (T : Txt K w mg) : MethOk P w K mg base CX0 1 (He.ga K "Job") "of_style" 0 [] (sp_Job_of_style K) (fun vs zs => pick .non [0] (vs ++ zs)) := by
  obtain ⟨fd, F, G⟩ := ok_Job_of_style (P := P) (w := w) (base := base) T
  obtain ⟨g, kb⟩ := kb0 (ps := ["self"]) F 1 [] [0] fun kV doc pm an cdv ct us ws h1 h2 => match us, ws, h1, h2 with | [_], [], _, _ => rfl
  exact ⟨⟨_, fd, _, g, T.m_Job_of_style, G, kb⟩, T.cl_Job⟩
theorem sc_Job_in_haste : FnScope ["self"] ["self"] (defScope (inClass (topS 33) 5)) := ⟨rfl, rfl, rfl, by decide +kernel, rfl, by decide +kernel, by decide +kernel⟩
theorem ok_Job_in_haste (T : Txt K w mg) : ∃ fd, FnP K "in_haste" "Job.in_haste" (inClass (topS 33) 5) [] (He.ma K (He.ga K "Job") "in_haste") fd ∧ FnG P w K mg base CX0 1 (He.ma K (He.ga K "Job") "in_haste") fd ["self"] (sp_Job_in_haste K) := by
  obtain ⟨fd, F⟩ := T.d_Job_in_haste
  refine ⟨fd, F, fnG_of (sp := sp_Job_in_haste K) F sc_Job_in_haste (fun vs H Q E h => h.1) fun cdv A outer s H vs Q E hr hg h => ?_⟩
  have hu := hu_of hr
  have nd := sc_Job_in_haste.nd
  exact ⟨t_Job_in_haste K, PSs.nox ((pss_one (ps_ret (pe_fld (pv 0) rfl)))), rd_Job_in_haste (jobC T) vs H Q E h⟩
theorem cs_Job_in_haste_0 (T : Txt K w mg) : MethOk P w K mg base CX0 1 (He.ga K "Job") "in_haste" 0 [] (sp_Job_in_haste K) (fun vs zs => pick .non [0] (vs ++ zs)) := by
  obtain ⟨fd, F, G⟩ := ok_Job_in_haste (P := P) (w := w) (base := base) T
  obtain ⟨g, kb⟩ := kb0 (ps := ["self"]) F 1 [] [0] fun kV doc pm an cdv ct us ws h1 h2 => match us, ws, h1, h2 with | [_], [], _, _ => rfl
  exact ⟨⟨_, fd, _, g, T.m_Job_in_haste, G, kb⟩, T.cl_Job⟩
theorem sc_Job_rank : FnScope ["self"] ["self"] (defScope (inClass (topS 33) 6)) := ⟨rfl, rfl, rfl, by decide +kernel, rfl, by decide +kernel, by decide +kernel⟩
theorem ok_Job_rank (T : Txt K w mg) : ∃ fd, FnP K "rank" "Job.rank" (inClass (topS 33) 6) [] (He.ma K (He.ga K "Job") "rank") fd ∧ FnG P w K mg base CX0 1 (He.ma K (He.ga K "Job") "rank") fd ["self"] (sp_Job_rank K) := by
  obtain ⟨fd, F⟩ := T.d_Job_rank
  refine ⟨fd, F, fnG_of (sp := sp_Job_rank K) F sc_Job_rank (fun vs H Q E h => h.1) fun cdv A outer s H vs Q E hr hg h => ?_⟩
  have hu := hu_of hr
  have nd := sc_Job_rank.nd
  exact ⟨t_Job_rank K, PSs.nox ((pss_one (ps_ret (pe_tup (pa_cons (pe_ifExp (pt_tr (pe_fld (pv 0) rfl)) pe_int pe_int) (pa_cons (pe_fld (pv 0) rfl) (pa_cons (pe_fld (pv 0) rfl) (pa_cons (pe_fld (pv 0) rfl) pa_nil)))))))), rd_Job_rank (jobC T) vs H Q E h⟩
theorem cs_Job_rank_0 (T : Txt K w mg) : MethOk P w K mg base CX0 1 (He.ga K "Job") "rank" 0 [] (sp_Job_rank K) (fun vs zs => pick .non [0] (vs ++ zs)) := by
  obtain ⟨fd, F, G⟩ := ok_Job_rank (P := P) (w := w) (base := base) T
  obtain ⟨g, kb⟩ := kb0 (ps := ["self"]) F 1 [] [0] fun kV doc pm an cdv ct us ws h1 h2 => match us, ws, h1, h2 with | [_], [], _, _ => rfl
  exact ⟨⟨_, fd, _, g, T.m_Job_rank, G, kb⟩, T.cl_Job⟩
theorem sc_Line_ahead : FnScope ["self"] ["self"] (defScope (inClass (topS 35) 1)) := ⟨rfl, rfl, rfl, by decide +kernel, rfl, by decide +kernel, by decide +kernel⟩
theorem ok_Line_ahead (T : Txt K w mg) : ∃ fd, FnP K "ahead" "Line.ahead" (inClass (topS 35) 1) [] (He.ma K (He.ga K "Line") "ahead") fd ∧ FnG P w K mg base CX0 1 (He.ma K (He.ga K "Line") "ahead") fd ["self"] (sp_Line_ahead K) := by
  obtain ⟨fd, F⟩ := T.d_Line_ahead
  refine ⟨fd, F, fnG_of (sp := sp_Line_ahead K) F sc_Line_ahead (fun vs H Q E h => h.1) fun cdv A outer s H vs Q E hr hg h => ?_⟩
  have hu := hu_of hr
  have nd := sc_Line_ahead.nd
  exact ⟨t_Line_ahead K, PSs.nox ((pss_one (ps_ret (pe_ifExp (pt_cmpR (op_neA hr) (pe_fld (pv 0) rfl) (pe_lst pa_nil) (nobehind _ (by decide) (by decide))) (pe_ix ix_seq (pe_fld (pv 0) rfl) pe_int (fun _ _ => rfl)) pe_str)))), rd_Line_ahead (lineC T) vs H Q E h⟩
theorem cs_Line_ahead_0 (T : Txt K w mg) : MethOk P w K mg base CX0 1 (He.ga K "Line") "ahead" 0 [] (sp_Line_ahead K) (fun vs zs => pick .non [0] (vs ++ zs)) := by
  obtain ⟨fd, F, G⟩ := ok_Line_ahead (P := P) (w := w) (base := base) T
  obtain ⟨g, kb⟩ := kb0 (ps := ["self"]) F 1 [] [0] fun kV doc pm an cdv ct us ws h1 h2 => match us, ws, h1, h2 with | [_], [], _, _ => rfl
  exact ⟨⟨_, fd, _, g, T.m_Line_ahead, G, kb⟩, T.cl_Line⟩
theorem sc_Line_take : FnScope ["self", "good"] ["self", "good"] (defScope (inClass (topS 35) 2)) := ⟨rfl, rfl, rfl, by decide +kernel, rfl, by decide +kernel, by decide +kernel⟩
theorem ok_Line_take (T : Txt K w mg) : ∃ fd, FnP K "take" "Line.take" (inClass (topS 35) 2) [] (He.ma K (He.ga K "Line") "take") fd ∧ FnG P w K mg base CX0 1 (He.ma K (He.ga K "Line") "take") fd ["self", "good"] (sp_Line_take K) := by
  obtain ⟨fd, F⟩ := T.d_Line_take
  refine ⟨fd, F, fnG_of (sp := sp_Line_take K) F sc_Line_take (fun vs H Q E h => h.1) fun cdv A outer s H vs Q E hr hg h => ?_⟩
  have hu := hu_of hr
  have nd := sc_Line_take.nd
  exact ⟨t_Line_take K, PSs.nox ((pss_cons (ps_if (pt_not (pt_tr (pv 1))) (pss_one ps_no) pss_nil)
    (pss_cons (ps_fldaug (pv 0) pe_int in_add)
    (pss_one (ps_ret (pe_bm PySem.F.plainAttrs_list PySem.F.slot_list_pop PySem.F.type_list_pop mt_popAt (pe_fld (pv 0) rfl) (pa_cons pe_int pa_nil))))))), rd_Line_take (lineC T) vs H Q E h⟩
theorem cs_Line_take_1 (T : Txt K w mg) : MethOk P w K mg base CX0 1 (He.ga K "Line") "take" 1 [] (sp_Line_take K) (fun vs zs => pick .non [0, 1] (vs ++ zs)) := by
  obtain ⟨fd, F, G⟩ := ok_Line_take (P := P) (w := w) (base := base) T
  obtain ⟨g, kb⟩ := kb0 (ps := ["self", "good"]) F 2 [] [0, 1] fun kV doc pm an cdv ct us ws h1 h2 => match us, ws, h1, h2 with | [_, _], [], _, _ => rfl
  exact ⟨⟨_, fd, _, g, T.m_Line_take, G, kb⟩, T.cl_Line⟩
theorem sc_Line_over : FnScope ["self"] ["self"] (defScope (inClass (topS 35) 6)) := ⟨rfl, rfl, rfl, by decide +kernel, rfl, by decide +kernel, by decide +kernel⟩
theorem ok_Line_over (T : Txt K w mg) : ∃ fd, FnP K "over" "Line.over" (inClass (topS 35) 6) [] (He.ma K (He.ga K "Line") "over") fd ∧ FnG P w K mg base CX0 1 (He.ma K (He.ga K "Line") "over") fd ["self"] (sp_Line_over K) := by
  obtain ⟨fd, F⟩ := T.d_Line_over
  refine ⟨fd, F, fnG_of (sp := sp_Line_over K) F sc_Line_over (fun vs H Q E h => h.1) fun cdv A outer s H vs Q E hr hg h => ?_⟩
  have hu := hu_of hr
  have nd := sc_Line_over.nd
  exact ⟨t_Line_over K, PSs.nox ((pss_one (ps_if (pt_cmpR (op_neA hr) (pe_fld (pv 0) rfl) (pe_lst pa_nil) (nobehind _ (by decide) (by decide))) (pss_one ps_no) pss_nil))), rd_Line_over (lineC T) vs H Q E h⟩
theorem cs_Line_over_0 (T : Txt K w mg) : MethOk P w K mg base CX0 1 (He.ga K "Line") "over" 0 [] (sp_Line_over K) (fun vs zs => pick .non [0] (vs ++ zs)) := by
  obtain ⟨fd, F, G⟩ := ok_Line_over (P := P) (w := w) (base := base) T
  obtain ⟨g, kb⟩ := kb0 (ps := ["self"]) F 1 [] [0] fun kV doc pm an cdv ct us ws h1 h2 => match us, ws, h1, h2 with | [_], [], _, _ => rfl
  exact ⟨⟨_, fd, _, g, T.m_Line_over, G, kb⟩, T.cl_Line⟩
theorem sc_rows_of : FnScope ["text"] ["text"] (defScope (topS 36)) := ⟨rfl, rfl, rfl, by decide +kernel, rfl, by decide +kernel, by decide +kernel⟩
theorem ok_rows_of (T : Txt K w mg) : ∃ fd, FnP K "rows_of" "rows_of" (topS 36) [] (He.ga K "rows_of") fd ∧ FnG P w K mg base CX0 1 (He.ga K "rows_of") fd ["text"] (sp_rows_of K) := by
  obtain ⟨fd, F⟩ := T.d_rows_of
  refine ⟨fd, F, fnG_of (sp := sp_rows_of K) F sc_rows_of (fun vs H Q E h => h.1) fun cdv A outer s H vs Q E hr hg h => ?_⟩
  have hu := hu_of hr
  have nd := sc_rows_of.nd
  exact ⟨t_rows_of K, PSs.nox ((pss_cons (ps_if (pt_not (pt_tr (pe_callB call_isi (by rfl) T.z_isinstance (by decide +kernel) (pa_cons (pv 0) (pa_cons (pe_bltn (v := .ty "str") (by rfl) T.z_str (by decide +kernel) rfl) pa_nil))))) (pss_one ps_no) pss_nil)
    (pss_one (ps_ret (pe_split (pv 0) pe_str))))), rd_rows_of vs H Q E h⟩
theorem cs_rows_of_1 (T : Txt K w mg) : CallOk P w K mg base CX0 1 "rows_of" 1 [] (sp_rows_of K) (fun vs zs => pick .non [0] (vs ++ zs)) := by
  obtain ⟨fd, F, G⟩ := ok_rows_of (P := P) (w := w) (base := base) T
  obtain ⟨g, kb⟩ := kb0 (ps := ["text"]) F 1 [] [0] fun kV doc pm an cdv ct us ws h1 h2 => match us, ws, h1, h2 with | [_], [], _, _ => rfl
  exact ⟨⟨fd, _, g, G, kb⟩, T.g_rows_of, F.kp⟩
theorem sc_law_mixed : FnScope ["cell", "k", "turned"] ["cell", "k"] (defScope (topS 41)) := ⟨rfl, rfl, rfl, by decide +kernel, rfl, by decide +kernel, by decide +kernel⟩
theorem ok_law_mixed (T : Txt K w mg) : ∃ fd, FnP K "_law_mixed" "_law_mixed" (topS 41) [] (He.ga K "_law_mixed") fd ∧ FnG P w K mg base CX0 1 (He.ga K "_law_mixed") fd ["cell", "k"] (sp_law_mixed K) := by
  obtain ⟨fd, F⟩ := T.d_law_mixed
  refine ⟨fd, F, fnG_of (sp := sp_law_mixed K) F sc_law_mixed (fun vs H Q E h => h.1) fun cdv A outer s H vs Q E hr hg h => ?_⟩
  have hu := hu_of hr
  have nd := sc_law_mixed.nd
  exact ⟨t_law_mixed K, PSs.nox ((pss_cons (ps_set (i := 2) nd rfl (Or.inl rfl) (pe_op op_addA (pe_op op_addA (pe_op op_mod (pe_op op_mulA (pe_op op_mulA (pv 0) (pe_op op_addA pe_int (pe_op op_mulA pe_int (pv 1)))) pe_int) pe_int) (pe_op op_mulA (pe_op op_mulA pe_int (pv 1)) (pv 1))) (pe_op op_mulA pe_int (pv 1))))
    (pss_one (ps_ret (pe_op op_fdiv (pe_op op_mod (pe_op op_mulA (pv 2) pe_int) pe_int) pe_int))))), rd_law_mixed vs H Q E h⟩
theorem cs_law_mixed_2 (T : Txt K w mg) : CallOk P w K mg base CX0 1 "_law_mixed" 2 [] (sp_law_mixed K) (fun vs zs => pick .non [0, 1] (vs ++ zs)) := by
  obtain ⟨fd, F, G⟩ := ok_law_mixed (P := P) (w := w) (base := base) T
  obtain ⟨g, kb⟩ := kb0 (ps := ["cell", "k"]) F 2 [] [0, 1] fun kV doc pm an cdv ct us ws h1 h2 => match us, ws, h1, h2 with | [_, _], [], _, _ => rfl
  exact ⟨⟨fd, _, g, G, kb⟩, T.g_law_mixed, F.kp⟩
theorem sc_law_folded : FnScope ["script", "found", "k", "cell"] ["script"] (defScope (topS 42)) := ⟨rfl, rfl, rfl, by decide +kernel, rfl, by decide +kernel, by decide +kernel⟩
theorem ok_law_folded (T : Txt K w mg) : ∃ fd, FnP K "_law_folded" "_law_folded" (topS 42) [] (He.ga K "_law_folded") fd ∧ FnG P w K mg base CX0 1 (He.ga K "_law_folded") fd ["script"] (sp_law_folded K) := by
  obtain ⟨fd, F⟩ := T.d_law_folded
  refine ⟨fd, F, fnG_of (sp := sp_law_folded K) F sc_law_folded (fun vs H Q E h => h.1) fun cdv A outer s H vs Q E hr hg h => ?_⟩
  have hu := hu_of hr
  have nd := sc_law_folded.nd
  exact ⟨t_law_folded K, PSs.nox ((pss_cons (ps_setLc (i := 1) (own := [("k", 2)]) rfl nd rfl rfl (sw_true rfl rfl rfl (by decide +kernel)) (pi_range1 (by rfl) T.z_range (pa_cons pe_int pa_nil)) (blkOk_by (by first | decide +kernel | kernel_rfl)) (fun _ _ _ _ _ => (pg_name (i := 2) nd rfl (Or.inl rfl))) (fun _ _ _ _ _ => pts_nil) (fun _ _ _ _ _ => (pe_op op_addA pe_int (pv 2))))
    (pss_cons (ps_for PassesOwn.never rfl (pi_enumA (by rfl) T.z_enumerate (pa_cons (pv 0) pa_nil)) (pg_tup rfl (pgs_cons (pg_name (i := 2) nd rfl (Or.inl rfl)) (pgs_cons (pg_name (i := 3) nd rfl (Or.inl rfl)) pgs_nil)))
    (pss_one (ps_asg (pe_op op_mod (pe_op op_addA (pe_op op_mulA (pe_ix ix_seq (pv 1) (pe_op op_mod (pv 2) pe_int) (fun _ _ => rfl)) pe_int) (pv 3)) pe_int) (pg_sub (pv 1) (pe_op op_mod (pv 2) pe_int) set_list))))
    (pss_cons (ps_for PassesOwn.never rfl (pi_range2 (by rfl) T.z_range (pa_cons pe_int (pa_cons pe_int pa_nil))) (pg_name (i := 2) nd rfl (Or.inl rfl))
    (pss_one (ps_asg (pe_op op_mod (pe_op op_addA (pe_ix ix_seq (pv 1) (pv 2) (fun _ _ => rfl)) (pe_op op_mulA (pe_ix ix_seq (pv 1) (pe_op op_sub (pv 2) pe_int) (fun _ _ => rfl)) pe_int)) pe_int) (pg_sub (pv 1) (pv 2) set_list))))
    (pss_one (ps_ret (pv 1))))))), rd_law_folded vs H Q E h⟩
theorem cs_law_folded_1 (T : Txt K w mg) : CallOk P w K mg base CX0 1 "_law_folded" 1 [] (sp_law_folded K) (fun vs zs => pick .non [0] (vs ++ zs)) := by
  obtain ⟨fd, F, G⟩ := ok_law_folded (P := P) (w := w) (base := base) T
  obtain ⟨g, kb⟩ := kb0 (ps := ["script"]) F 1 [] [0] fun kV doc pm an cdv ct us ws h1 h2 => match us, ws, h1, h2 with | [_], [], _, _ => rfl
  exact ⟨⟨fd, _, g, G, kb⟩, T.g_law_folded, F.kp⟩
theorem sc_law_style_rows : FnScope ["plain", "row"] ["plain"] (defScope (topS 56)) := ⟨rfl, rfl, rfl, by decide +kernel, rfl, by decide +kernel, by decide +kernel⟩
theorem ok_law_style_rows (T : Txt K w mg) : ∃ fd, FnP K "_law_style_rows" "_law_style_rows" (topS 56) [] (He.ga K "_law_style_rows") fd ∧ FnG P w K mg base CX0 1 (He.ga K "_law_style_rows") fd ["plain"] (sp_law_style_rows K) := by
  obtain ⟨fd, F⟩ := T.d_law_style_rows
  refine ⟨fd, F, fnG_of (sp := sp_law_style_rows K) F sc_law_style_rows (fun vs H Q E h => h.1) fun cdv A outer s H vs Q E hr hg h => ?_⟩
  have hu := hu_of hr
  have nd := sc_law_style_rows.nd
  exact ⟨t_law_style_rows K, PSs.nox ((pss_one (ps_ret (pe_op op_addA (pe_lst (pa_cons (pe_op op_addA pe_str (pe_ix ix_seq (pv 0) pe_int (fun _ _ => rfl))) pa_nil)) (pe_lc (own := [("row", 1)]) rfl nd (pi_any (pe_ix ix_seq (pv 0) pe_int (fun _ _ => rfl))) (blkOk_by (by first | decide +kernel | kernel_rfl)) (fun _ _ _ _ _ => (pg_name (i := 1) nd rfl (Or.inl rfl))) (fun _ _ _ _ _ => pts_nil) (fun _ _ _ _ _ => (pe_op op_addA (pe_op op_addA (pe_op op_addA (pe_op op_addA (pe_ix ix_seq (pv 1) pe_int (fun _ _ => rfl)) pe_str) (pe_callTy cl_strI (by rfl) T.z_str (by decide +kernel) (pa_cons (pe_ix ix_seq (pv 1) pe_int (fun _ _ => rfl)) pa_nil))) pe_str) (pe_callTy cl_strI (by rfl) T.z_str (by decide +kernel) (pa_cons (pe_ix ix_seq (pv 1) pe_int (fun _ _ => rfl)) pa_nil))))))))), rd_law_style_rows vs H Q E h⟩
theorem cs_law_style_rows_1 (T : Txt K w mg) : CallOk P w K mg base CX0 1 "_law_style_rows" 1 [] (sp_law_style_rows K) (fun vs zs => pick .non [0] (vs ++ zs)) := by
  obtain ⟨fd, F, G⟩ := ok_law_style_rows (P := P) (w := w) (base := base) T
  obtain ⟨g, kb⟩ := kb0 (ps := ["plain"]) F 1 [] [0] fun kV doc pm an cdv ct us ws h1 h2 => match us, ws, h1, h2 with | [_], [], _, _ => rfl
  exact ⟨⟨fd, _, g, G, kb⟩, T.g_law_style_rows, F.kp⟩
theorem sc_law_job_text : FnScope ["plain", "words"] ["plain"] (defScope (topS 57)) := ⟨rfl, rfl, rfl, by decide +kernel, rfl, by decide +kernel, by decide +kernel⟩
theorem ok_law_job_text (T : Txt K w mg) : ∃ fd, FnP K "_law_job_text" "_law_job_text" (topS 57) [] (He.ga K "_law_job_text") fd ∧ FnG P w K mg base CX0 1 (He.ga K "_law_job_text") fd ["plain"] (sp_law_job_text K) := by
  obtain ⟨fd, F⟩ := T.d_law_job_text
  refine ⟨fd, F, fnG_of (sp := sp_law_job_text K) F sc_law_job_text (fun vs H Q E h => h.1) fun cdv A outer s H vs Q E hr hg h => ?_⟩
  have hu := hu_of hr
  have nd := sc_law_job_text.nd
  exact ⟨t_law_job_text K, PSs.nox ((pss_cons (ps_set (i := 1) nd rfl (Or.inl rfl) (pe_lst (pa_cons pe_str (pa_cons (pe_callTy cl_strI (by rfl) T.z_str (by decide +kernel) (pa_cons (pe_ix ix_seq (pv 0) pe_int (fun _ _ => rfl)) pa_nil)) (pa_cons (pe_ix ix_seq (pe_ix ix_seq (pv 0) pe_int (fun _ _ => rfl)) pe_int (fun _ _ => rfl)) (pa_cons (pe_callTy cl_strI (by rfl) T.z_str (by decide +kernel) (pa_cons (pe_ix ix_seq (pv 0) pe_int (fun _ _ => rfl)) pa_nil)) (pa_cons (pe_callTy cl_strI (by rfl) T.z_str (by decide +kernel) (pa_cons (pe_ix ix_seq (pv 0) pe_int (fun _ _ => rfl)) pa_nil)) pa_nil)))))))
    (pss_one (ps_ret (pe_join pe_str (pe_op op_addA (pv 1) (pe_op op_mulA (pe_lst (pa_cons pe_str pa_nil)) (pe_callTy cl_intB (by rfl) T.z_int (by decide +kernel) (pa_cons (pe_ix ix_seq (pv 0) pe_int (fun _ _ => rfl)) pa_nil))))))))), rd_law_job_text vs H Q E h⟩
theorem cs_law_job_text_1 (T : Txt K w mg) : CallOk P w K mg base CX0 1 "_law_job_text" 1 [] (sp_law_job_text K) (fun vs zs => pick .non [0] (vs ++ zs)) := by
  obtain ⟨fd, F, G⟩ := ok_law_job_text (P := P) (w := w) (base := base) T
  obtain ⟨g, kb⟩ := kb0 (ps := ["plain"]) F 1 [] [0] fun kV doc pm an cdv ct us ws h1 h2 => match us, ws, h1, h2 with | [_], [], _, _ => rfl
  exact ⟨⟨fd, _, g, G, kb⟩, T.g_law_job_text, F.kp⟩
theorem sc_law_round_rows : FnScope ["plain", "row"] ["plain"] (defScope (topS 58)) := ⟨rfl, rfl, rfl, by decide +kernel, rfl, by decide +kernel, by decide +kernel⟩
theorem ok_law_round_rows (T : Txt K w mg) : ∃ fd, FnP K "_law_round_rows" "_law_round_rows" (topS 58) [] (He.ga K "_law_round_rows") fd ∧ FnG P w K mg base CX0 1 (He.ga K "_law_round_rows") fd ["plain"] (sp_law_round_rows K) := by
  obtain ⟨fd, F⟩ := T.d_law_round_rows
  refine ⟨fd, F, fnG_of (sp := sp_law_round_rows K) F sc_law_round_rows (fun vs H Q E h => h.1) fun cdv A outer s H vs Q E hr hg h => ?_⟩
  have hu := hu_of hr
  have nd := sc_law_round_rows.nd
  exact ⟨t_law_round_rows K, PSs.nox ((pss_one (ps_ret (pe_op op_addA (pe_lst (pa_cons (pe_op op_addA pe_str (pe_callTy cl_strI (by rfl) T.z_str (by decide +kernel) (pa_cons (pe_ix ix_seq (pv 0) pe_int (fun _ _ => rfl)) pa_nil))) pa_nil)) (pe_lc (own := [("row", 1)]) rfl nd (pi_any (pe_ix ix_seq (pv 0) pe_int (fun _ _ => rfl))) (blkOk_by (by first | decide +kernel | kernel_rfl)) (fun _ _ _ _ _ => (pg_name (i := 1) nd rfl (Or.inl rfl))) (fun _ _ _ _ _ => pts_nil) (fun _ _ _ _ _ => (pe_op op_addA (pe_op op_addA (pe_op op_addA (pe_op op_addA (pe_callTy cl_strI (by rfl) T.z_str (by decide +kernel) (pa_cons (pe_ix ix_seq (pv 1) pe_int (fun _ _ => rfl)) pa_nil)) pe_str) (pe_ix ix_seq (pv 1) pe_int (fun _ _ => rfl))) pe_str) (pe_callTy cl_strI (by rfl) T.z_str (by decide +kernel) (pa_cons (pe_ix ix_seq (pv 1) pe_int (fun _ _ => rfl)) pa_nil))))))))), rd_law_round_rows vs H Q E h⟩
theorem cs_law_round_rows_1 (T : Txt K w mg) : CallOk P w K mg base CX0 1 "_law_round_rows" 1 [] (sp_law_round_rows K) (fun vs zs => pick .non [0] (vs ++ zs)) := by
  obtain ⟨fd, F, G⟩ := ok_law_round_rows (P := P) (w := w) (base := base) T
  obtain ⟨g, kb⟩ := kb0 (ps := ["plain"]) F 1 [] [0] fun kV doc pm an cdv ct us ws h1 h2 => match us, ws, h1, h2 with | [_], [], _, _ => rfl
  exact ⟨⟨fd, _, g, G, kb⟩, T.g_law_round_rows, F.kp⟩
theorem sc_is_step : FnScope ["thing"] ["thing"] (defScope (topS 19)) := ⟨rfl, rfl, rfl, by decide +kernel, rfl, by decide +kernel, by decide +kernel⟩
theorem ok_is_step (T : Txt K w mg) : ∃ fd, FnP K "is_step" "is_step" (topS 19) [] (He.ga K "is_step") fd ∧ FnG P w K mg base CX0 2 (He.ga K "is_step") fd ["thing"] (sp_is_step K) := by
  obtain ⟨fd, F⟩ := T.d_is_step
  refine ⟨fd, F, fnG_of (sp := sp_is_step K) F sc_is_step (fun vs H Q E h => h.1) fun cdv A outer s H vs Q E hr hg h => ?_⟩
  have hu := hu_of hr
  have nd := sc_is_step.nd
  exact ⟨t_is_step K, PSs.nox ((pss_cons (ps_if (PW.pt (pw_or (pt_not (pt_tr (pe_callB call_isi (by rfl) T.z_isinstance (by decide +kernel) (pa_cons (pv 0) (pa_cons (pe_bltn (v := .ty "tuple") (by rfl) T.z_tuple (by decide +kernel) rfl) pa_nil))))) (pw_or (pt_cmpR (op_neA hr) (pe_callB cl_len (by rfl) T.z_len PySem.boot_len (pa_cons (pv 0) pa_nil)) pe_int (nobehind _ (by decide) (by decide))) (pw_or1 (pt_cmpR op_isNo (pe_ca (cs_kind_of_1 T) hr (by decide) hg rfl pass0 (pa_cons (pe_ix ix_seq (pv 0) pe_int (fun _ _ => rfl)) pa_nil) pk_nil) pe_non (nobehind _ (by decide) (by decide))))))) (pss_one (ps_ret pe_bl)) pss_nil)
    (pss_one (ps_ret (pe_and (pe_ca (cs_is_whole_2_most T) hr (by decide) hg rfl pass0 (pa_cons (pe_ix ix_seq (pv 0) pe_int (fun _ _ => rfl)) (pa_cons pe_int pa_nil)) (pk_cons (pe_gI T.c_MOST_HOURS) pk_nil)) (pe_one (pe_ca (cs_is_whole_2_most T) hr (by decide) hg rfl pass0 (pa_cons (pe_ix ix_seq (pv 0) pe_int (fun _ _ => rfl)) (pa_cons pe_int pa_nil)) (pk_cons (pe_gI T.c_MOST_HOURS) pk_nil)))))))), rd_is_step vs H Q E h⟩
theorem cs_is_step_1 (T : Txt K w mg) : CallOk P w K mg base CX0 2 "is_step" 1 [] (sp_is_step K) (fun vs zs => pick .non [0] (vs ++ zs)) := by
  obtain ⟨fd, F, G⟩ := ok_is_step (P := P) (w := w) (base := base) T
  obtain ⟨g, kb⟩ := kb0 (ps := ["thing"]) F 1 [] [0] fun kV doc pm an cdv ct us ws h1 h2 => match us, ws, h1, h2 with | [_], [], _, _ => rfl
  exact ⟨⟨fd, _, g, G, kb⟩, T.g_is_step, F.kp⟩
theorem sc_is_call : FnScope ["thing", "length"] ["thing", "length"] (defScope (topS 25)) := ⟨rfl, rfl, rfl, by decide +kernel, rfl, by decide +kernel, by decide +kernel⟩
theorem ok_is_call (T : Txt K w mg) : ∃ fd, FnP K "is_call" "is_call" (topS 25) [] (He.ga K "is_call") fd ∧ FnG P w K mg base CX0 2 (He.ga K "is_call") fd ["thing", "length"] (sp_is_call K) := by
  obtain ⟨fd, F⟩ := T.d_is_call
  refine ⟨fd, F, fnG_of (sp := sp_is_call K) F sc_is_call (fun vs H Q E h => h.1) fun cdv A outer s H vs Q E hr hg h => ?_⟩
  have hu := hu_of hr
  have nd := sc_is_call.nd
  exact ⟨t_is_call K, PSs.nox ((pss_cons (ps_if (PW.pt (pw_or (pt_not (pt_tr (pe_callB call_isi (by rfl) T.z_isinstance (by decide +kernel) (pa_cons (pv 0) (pa_cons (pe_bltn (v := .ty "tuple") (by rfl) T.z_tuple (by decide +kernel) rfl) pa_nil))))) (pw_or (pt_cmpR (op_neA hr) (pe_callB cl_len (by rfl) T.z_len PySem.boot_len (pa_cons (pv 0) pa_nil)) pe_int (nobehind _ (by decide) (by decide))) (pw_or1 (pt_not (pt_tr (pe_ca (cs_is_whole_2_most T) hr (by decide) hg rfl pass0 (pa_cons (pe_ix ix_seq (pv 0) pe_int (fun _ _ => rfl)) (pa_cons pe_int pa_nil)) (pk_cons (pe_op op_sub (pv 1) pe_int) pk_nil)))))))) (pss_one (ps_ret pe_bl)) pss_nil)
    (pss_one (ps_ret (pe_and (pe_ca (cs_is_name_1 T) hr (by decide) hg rfl pass0 (pa_cons (pe_ix ix_seq (pv 0) pe_int (fun _ _ => rfl)) pa_nil) pk_nil) (pe_one (pe_ca (cs_is_whole_2_most T) hr (by decide) hg rfl pass0 (pa_cons (pe_ix ix_seq (pv 0) pe_int (fun _ _ => rfl)) (pa_cons pe_int pa_nil)) (pk_cons (pe_gI T.c_MOST_LENGTH) pk_nil)))))))), rd_is_call vs H Q E h⟩
theorem cs_is_call_2 (T : Txt K w mg) : CallOk P w K mg base CX0 2 "is_call" 2 [] (sp_is_call K) (fun vs zs => pick .non [0, 1] (vs ++ zs)) := by
  obtain ⟨fd, F, G⟩ := ok_is_call (P := P) (w := w) (base := base) T
  obtain ⟨g, kb⟩ := kb0 (ps := ["thing", "length"]) F 2 [] [0, 1] fun kV doc pm an cdv ct us ws h1 h2 => match us, ws, h1, h2 with | [_, _], [], _, _ => rfl
  exact ⟨⟨fd, _, g, G, kb⟩, T.g_is_call, F.kp⟩
theorem sc_Job_init : FnScope ["self", "number", "style", "brought", "due", "haste", "wanted"] ["self", "number", "style", "brought", "due", "haste"] (defScope (inClass (topS 33) 0)) := ⟨rfl, rfl, rfl, by decide +kernel, rfl, by decide +kernel, by decide +kernel⟩
theorem ok_Job_init (T : Txt K w mg) : ∃ fd, FnP K "__init__" "Job.__init__" (inClass (topS 33) 0) [.int 0, .non, .bl false] (He.ma K (He.ga K "Job") "__init__") fd ∧ FnG P w K mg base CX0 2 (He.ma K (He.ga K "Job") "__init__") fd ["self", "number", "style", "brought", "due", "haste"] (sp_Job_init K) := by
  obtain ⟨fd, F⟩ := T.d_Job_init
  refine ⟨fd, F, fnG_of (sp := sp_Job_init K) F sc_Job_init (fun vs H Q E h => h.1) fun cdv A outer s H vs Q E hr hg h => ?_⟩
  have hu := hu_of hr
  have nd := sc_Job_init.nd
  exact ⟨t_Job_init K, PSs.nox ((pss_cons (ps_if (pt_not (pt_tr (pe_ca (cs_is_whole_2_most T) hr (by decide) hg rfl pass0 (pa_cons (pv 1) (pa_cons pe_int pa_nil)) (pk_cons (pe_gI T.c_MOST_NUMBER) pk_nil)))) (pss_one ps_no) pss_nil)
    (pss_cons (ps_if (pt_not (pt_tr (pe_callB call_isi (by rfl) T.z_isinstance (by decide +kernel) (pa_cons (pv 2) (pa_cons (pe_gR T.g_Style) pa_nil))))) (pss_one ps_no) pss_nil)
    (pss_cons (ps_if (pt_not (pt_tr (pe_ca (cs_is_whole_2_most T) hr (by decide) hg rfl pass0 (pa_cons (pv 3) (pa_cons pe_int pa_nil)) (pk_cons (pe_gI T.c_MOST_HOUR) pk_nil)))) (pss_one ps_no) pss_nil)
    (pss_cons (ps_set (i := 6) nd rfl (Or.inl rfl) (pe_ifExp (pt_cmpR op_isNo (pv 4) pe_non (nobehind _ (by decide) (by decide))) (pe_op op_addA (pv 3) (pe_me0 (cs_Style_span_0 T) hr (by decide) hg pass0 (pv 2) pk_nil)) (pv 4)))
    (pss_cons (ps_if (pt_not (pt_tr (pe_ca (cs_is_whole_2_most T) hr (by decide) hg rfl pass0 (pa_cons (pv 6) (pa_cons (pv 3) pa_nil)) (pk_cons (pe_gI T.c_MOST_HOUR) pk_nil)))) (pss_one ps_no) pss_nil)
    (pss_cons (ps_if (pt_not (pt_tr (pe_callB call_isi (by rfl) T.z_isinstance (by decide +kernel) (pa_cons (pv 5) (pa_cons (pe_bltn (v := .ty "bool") (by rfl) T.z_bool (by decide +kernel) rfl) pa_nil))))) (pss_one ps_no) pss_nil)
    (pss_cons (ps_fld (pv 0) (pv 1) rfl)
    (pss_cons (ps_fld (pv 0) (pv 2) rfl)
    (pss_cons (ps_fld (pv 0) (pv 3) rfl)
    (pss_cons (ps_fld (pv 0) (pv 6) rfl)
    (pss_one (ps_fld (pv 0) (pv 5) rfl))))))))))))), rd_Job_init (jobC T) (styleC T) T.od_Style vs H Q E h⟩
theorem cs_Job_init_2_brought_due_haste (T : Txt K w mg) : MakeOk P w K mg base CX0 2 "Job" 2 ["brought", "due", "haste"] (sp_Job_init K) (fun vs zs => pick .non [0, 1, 2, 3, 4, 5] (vs ++ (zs ++ [.int 0, .non, .bl false]))) := by
  obtain ⟨fd, F, G⟩ := ok_Job_init (P := P) (w := w) (base := base) T
  obtain ⟨g, kb⟩ := kb1 (ps := ["self", "number", "style", "brought", "due", "haste"]) F (by simp) 3 ["brought", "due", "haste"] [0, 1, 2, 3, 4, 5] fun T kV doc pm an cdv ct us ws its h1 h2 h3 => match us, ws, its, h1, h2, h3 with | [_, _, _], [_, _, _], [_, _, _], _, _, _ => ⟨_, rfl, rfl⟩
  exact ⟨⟨_, fd, _, g, T.mk_Job, G, kb⟩, T.g_Job⟩
theorem sc_Job_eq : FnScope ["self", "other"] ["self", "other"] (defScope (inClass (topS 33) 9)) := ⟨rfl, rfl, rfl, by decide +kernel, rfl, by decide +kernel, by decide +kernel⟩
theorem ok_Job_eq (T : Txt K w mg) : ∃ fd, FnP K "__eq__" "Job.__eq__" (inClass (topS 33) 9) [] (He.ma K (He.ga K "Job") "__eq__") fd ∧ FnG P w K mg base CX0 2 (He.ma K (He.ga K "Job") "__eq__") fd ["self", "other"] (sp_Job_eq K) := by
  obtain ⟨fd, F⟩ := T.d_Job_eq
  refine ⟨fd, F, fnG_of (sp := sp_Job_eq K) F sc_Job_eq (fun vs H Q E h => h.1) fun cdv A outer s H vs Q E hr hg h => ?_⟩
  have hu := hu_of hr
  have nd := sc_Job_eq.nd
  exact ⟨t_Job_eq K, PSs.nox ((pss_one (ps_ret (pe_and (pe_callB call_isi (by rfl) T.z_isinstance (by decide +kernel) (pa_cons (pv 1) (pa_cons (pe_gR T.g_Job) pa_nil))) (pe_and (pe_cmpR (op_eqA hr) (pe_me0 (cs_Job_rank_0 T) hr (by decide) hg pass0 (pv 0) pk_nil) (pe_me0 (cs_Job_rank_0 T) hr (by decide) hg pass0 (pv 1) pk_nil) (nobehind _ (by decide) (by decide))) (pe_one (pe_cmpR (op_ownEq (cs_Style_eq_1 T) hr (by decide) hg pass0) (pe_fld (pv 0) rfl) (pe_fld (pv 1) rfl) (nobehind _ (by decide) (by decide))))))))), rd_Job_eq (jobC T) (styleC T) T.od_Job T.od_Style vs H Q E h⟩
theorem cs_Job_eq_1 (T : Txt K w mg) : MethOk P w K mg base CX0 2 (He.ga K "Job") "__eq__" 1 [] (sp_Job_eq K) (fun vs zs => pick .non [0, 1] (vs ++ zs)) := by
  obtain ⟨fd, F, G⟩ := ok_Job_eq (P := P) (w := w) (base := base) T
  obtain ⟨g, kb⟩ := kb0 (ps := ["self", "other"]) F 2 [] [0, 1] fun kV doc pm an cdv ct us ws h1 h2 => match us, ws, h1, h2 with | [_, _], [], _, _ => rfl
  exact ⟨⟨_, fd, _, g, T.m_Job_eq, G, kb⟩, T.cl_Job⟩
theorem sc_Job_str : FnScope ["self", "words"] ["self"] (defScope (inClass (topS 33) 10)) := ⟨rfl, rfl, rfl, by decide +kernel, rfl, by decide +kernel, by decide +kernel⟩
theorem ok_Job_str (T : Txt K w mg) : ∃ fd, FnP K "__str__" "Job.__str__" (inClass (topS 33) 10) [] (He.ma K (He.ga K "Job") "__str__") fd ∧ FnG P w K mg base CX0 2 (He.ma K (He.ga K "Job") "__str__") fd ["self"] (sp_Job_str K) := by
  obtain ⟨fd, F⟩ := T.d_Job_str
  refine ⟨fd, F, fnG_of (sp := sp_Job_str K) F sc_Job_str (fun vs H Q E h => h.1) fun cdv A outer s H vs Q E hr hg h => ?_⟩
  have hu := hu_of hr
  have nd := sc_Job_str.nd
  exact ⟨t_Job_str K, PSs.nox ((pss_cons (ps_set (i := 1) nd rfl (Or.inl rfl) (pe_lst (pa_cons pe_str (pa_cons (pe_callTy cl_strI (by rfl) T.z_str (by decide +kernel) (pa_cons (pe_fld (pv 0) rfl) pa_nil)) (pa_cons (pe_me0 (cs_Style_named_0 T) hr (by decide) hg pass0 (pe_fld (pv 0) rfl) pk_nil) (pa_cons (pe_callTy cl_strI (by rfl) T.z_str (by decide +kernel) (pa_cons (pe_fld (pv 0) rfl) pa_nil)) (pa_cons (pe_callTy cl_strI (by rfl) T.z_str (by decide +kernel) (pa_cons (pe_fld (pv 0) rfl) pa_nil)) pa_nil)))))))
    (pss_cons (ps_if (pt_tr (pe_fld (pv 0) rfl)) (pss_one (ps_expr (pe_bm PySem.F.plainAttrs_list PySem.F.slot_list_append PySem.F.type_list_append mt_append (pv 1) (pa_cons pe_str pa_nil)))) pss_nil)
    (pss_one (ps_ret (pe_join pe_str (pv 1))))))), rd_Job_str (jobC T) (styleC T) vs H Q E h⟩
theorem cs_Job_str_0 (T : Txt K w mg) : MethOk P w K mg base CX0 2 (He.ga K "Job") "__str__" 0 [] (sp_Job_str K) (fun vs zs => pick .non [0] (vs ++ zs)) := by
  obtain ⟨fd, F, G⟩ := ok_Job_str (P := P) (w := w) (base := base) T
  obtain ⟨g, kb⟩ := kb0 (ps := ["self"]) F 1 [] [0] fun kV doc pm an cdv ct us ws h1 h2 => match us, ws, h1, h2 with | [_], [], _, _ => rfl
  exact ⟨⟨_, fd, _, g, T.m_Job_str, G, kb⟩, T.cl_Job⟩
theorem sc_Line_init : FnScope ["self", "text", "row", "found"] ["self", "text", "row"] (defScope (inClass (topS 35) 0)) := ⟨rfl, rfl, rfl, by decide +kernel, rfl, by decide +kernel, by decide +kernel⟩
theorem ok_Line_init (T : Txt K w mg) : ∃ fd, FnP K "__init__" "Line.__init__" (inClass (topS 35) 0) [] (He.ma K (He.ga K "Line") "__init__") fd ∧ FnG P w K mg base CX0 2 (He.ma K (He.ga K "Line") "__init__") fd ["self", "text", "row"] (sp_Line_init K) := by
  obtain ⟨fd, F⟩ := T.d_Line_init
  refine ⟨fd, F, fnG_of (sp := sp_Line_init K) F sc_Line_init (fun vs H Q E h => h.1) fun cdv A outer s H vs Q E hr hg h => ?_⟩
  have hu := hu_of hr
  have nd := sc_Line_init.nd
  exact ⟨t_Line_init K, PSs.nox ((pss_cons (ps_set (i := 3) nd rfl (Or.inl rfl) (pe_ca (cs_words_of_1 T) hr (by decide) hg rfl pass0 (pa_cons (pv 1) pa_nil) pk_nil))
    (pss_cons (ps_if (pt_cmpR op_isNo (pv 3) pe_non (nobehind _ (by decide) (by decide))) (pss_one ps_no) pss_nil)
    (pss_cons (ps_fld (pv 0) (pv 2) rfl)
    (pss_cons (ps_fld (pv 0) (pv 3) rfl)
    (pss_one (ps_fld (pv 0) pe_int rfl))))))), rd_Line_init (lineC T) vs H Q E h⟩
theorem cs_Line_init_2 (T : Txt K w mg) : MakeOk P w K mg base CX0 2 "Line" 2 [] (sp_Line_init K) (fun vs zs => pick .non [0, 1, 2] (vs ++ zs)) := by
  obtain ⟨fd, F, G⟩ := ok_Line_init (P := P) (w := w) (base := base) T
  obtain ⟨g, kb⟩ := kb0 (ps := ["self", "text", "row"]) F 3 [] [0, 1, 2] fun kV doc pm an cdv ct us ws h1 h2 => match us, ws, h1, h2 with | [_, _, _], [], _, _ => rfl
  exact ⟨⟨_, fd, _, g, T.mk_Line, G, kb⟩, T.g_Line⟩
theorem sc_Line_take_word : FnScope ["self", "word"] ["self", "word"] (defScope (inClass (topS 35) 3)) := ⟨rfl, rfl, rfl, by decide +kernel, rfl, by decide +kernel, by decide +kernel⟩
theorem ok_Line_take_word (T : Txt K w mg) : ∃ fd, FnP K "take_word" "Line.take_word" (inClass (topS 35) 3) [] (He.ma K (He.ga K "Line") "take_word") fd ∧ FnG P w K mg base CX0 2 (He.ma K (He.ga K "Line") "take_word") fd ["self", "word"] (sp_Line_take_word K) := by
  obtain ⟨fd, F⟩ := T.d_Line_take_word
  refine ⟨fd, F, fnG_of (sp := sp_Line_take_word K) F sc_Line_take_word (fun vs H Q E h => h.1) fun cdv A outer s H vs Q E hr hg h => ?_⟩
  have hu := hu_of hr
  have nd := sc_Line_take_word.nd
  exact ⟨t_Line_take_word K, PSs.nox ((pss_one (ps_ret (pe_me (cs_Line_take_1 T) hr (by decide) hg pass0 (pv 0) (pa_cons (pe_cmpR (op_eqA hr) (pe_me0 (cs_Line_ahead_0 T) hr (by decide) hg pass0 (pv 0) pk_nil) (pv 1) (nobehind _ (by decide) (by decide))) pa_nil) pk_nil)))), rd_Line_take_word (lineC T) vs H Q E h⟩
theorem cs_Line_take_word_1 (T : Txt K w mg) : MethOk P w K mg base CX0 2 (He.ga K "Line") "take_word" 1 [] (sp_Line_take_word K) (fun vs zs => pick .non [0, 1] (vs ++ zs)) := by
  obtain ⟨fd, F, G⟩ := ok_Line_take_word (P := P) (w := w) (base := base) T
  obtain ⟨g, kb⟩ := kb0 (ps := ["self", "word"]) F 2 [] [0, 1] fun kV doc pm an cdv ct us ws h1 h2 => match us, ws, h1, h2 with | [_, _], [], _, _ => rfl
  exact ⟨⟨_, fd, _, g, T.m_Line_take_word, G, kb⟩, T.cl_Line⟩
theorem sc_Line_take_name : FnScope ["self"] ["self"] (defScope (inClass (topS 35) 4)) := ⟨rfl, rfl, rfl, by decide +kernel, rfl, by decide +kernel, by decide +kernel⟩
theorem ok_Line_take_name (T : Txt K w mg) : ∃ fd, FnP K "take_name" "Line.take_name" (inClass (topS 35) 4) [] (He.ma K (He.ga K "Line") "take_name") fd ∧ FnG P w K mg base CX0 2 (He.ma K (He.ga K "Line") "take_name") fd ["self"] (sp_Line_take_name K) := by
  obtain ⟨fd, F⟩ := T.d_Line_take_name
  refine ⟨fd, F, fnG_of (sp := sp_Line_take_name K) F sc_Line_take_name (fun vs H Q E h => h.1) fun cdv A outer s H vs Q E hr hg h => ?_⟩
  have hu := hu_of hr
  have nd := sc_Line_take_name.nd
  exact ⟨t_Line_take_name K, PSs.nox ((pss_one (ps_ret (pe_me (cs_Line_take_1 T) hr (by decide) hg pass0 (pv 0) (pa_cons (pe_ca (cs_is_name_1 T) hr (by decide) hg rfl pass0 (pa_cons (pe_me0 (cs_Line_ahead_0 T) hr (by decide) hg pass0 (pv 0) pk_nil) pa_nil) pk_nil) pa_nil) pk_nil)))), rd_Line_take_name (lineC T) vs H Q E h⟩
theorem cs_Line_take_name_0 (T : Txt K w mg) : MethOk P w K mg base CX0 2 (He.ga K "Line") "take_name" 0 [] (sp_Line_take_name K) (fun vs zs => pick .non [0] (vs ++ zs)) := by
  obtain ⟨fd, F, G⟩ := ok_Line_take_name (P := P) (w := w) (base := base) T
  obtain ⟨g, kb⟩ := kb0 (ps := ["self"]) F 1 [] [0] fun kV doc pm an cdv ct us ws h1 h2 => match us, ws, h1, h2 with | [_], [], _, _ => rfl
  exact ⟨⟨_, fd, _, g, T.m_Line_take_name, G, kb⟩, T.cl_Line⟩
theorem sc_Line_take_number : FnScope ["self", "least", "most", "found"] ["self", "least", "most"] (defScope (inClass (topS 35) 5)) := ⟨rfl, rfl, rfl, by decide +kernel, rfl, by decide +kernel, by decide +kernel⟩
theorem ok_Line_take_number (T : Txt K w mg) : ∃ fd, FnP K "take_number" "Line.take_number" (inClass (topS 35) 5) [] (He.ma K (He.ga K "Line") "take_number") fd ∧ FnG P w K mg base CX0 2 (He.ma K (He.ga K "Line") "take_number") fd ["self", "least", "most"] (sp_Line_take_number K) := by
  obtain ⟨fd, F⟩ := T.d_Line_take_number
  refine ⟨fd, F, fnG_of (sp := sp_Line_take_number K) F sc_Line_take_number (fun vs H Q E h => h.1) fun cdv A outer s H vs Q E hr hg h => ?_⟩
  have hu := hu_of hr
  have nd := sc_Line_take_number.nd
  exact ⟨t_Line_take_number K, PSs.nox ((pss_cons (ps_set (i := 3) nd rfl (Or.inl rfl) (pe_ca (cs_number_of_1 T) hr (by decide) hg rfl pass0 (pa_cons (pe_me0 (cs_Line_ahead_0 T) hr (by decide) hg pass0 (pv 0) pk_nil) pa_nil) pk_nil))
    (pss_cons (ps_expr (pe_me (cs_Line_take_1 T) hr (by decide) hg pass0 (pv 0) (pa_cons (pe_and (pe_cmpR op_noNo (pv 3) pe_non (nobehind _ (by decide) (by decide))) (pe_one (pe_ca (cs_is_whole_2_most T) hr (by decide) hg rfl pass0 (pa_cons (pv 3) (pa_cons (pv 1) pa_nil)) (pk_cons (pv 2) pk_nil)))) pa_nil) pk_nil))
    (pss_one (ps_ret (pv 3)))))), rd_Line_take_number (lineC T) vs H Q E h⟩
theorem cs_Line_take_number_2 (T : Txt K w mg) : MethOk P w K mg base CX0 2 (He.ga K "Line") "take_number" 2 [] (sp_Line_take_number K) (fun vs zs => pick .non [0, 1, 2] (vs ++ zs)) := by
  obtain ⟨fd, F, G⟩ := ok_Line_take_number (P := P) (w := w) (base := base) T
  obtain ⟨g, kb⟩ := kb0 (ps := ["self", "least", "most"]) F 3 [] [0, 1, 2] fun kV doc pm an cdv ct us ws h1 h2 => match us, ws, h1, h2 with | [_, _, _], [], _, _ => rfl
  exact ⟨⟨_, fd, _, g, T.m_Line_take_number, G, kb⟩, T.cl_Line⟩
theorem sc_law_draw : FnScope ["m", "many", "k", "spot", "cell"] ["m", "many"] (defScope (topS 43)) := ⟨rfl, rfl, rfl, by decide +kernel, rfl, by decide +kernel, by decide +kernel⟩
theorem ok_law_draw (T : Txt K w mg) : ∃ fd, FnP K "_law_draw" "_law_draw" (topS 43) [] (He.ga K "_law_draw") fd ∧ FnG P w K mg base CX0 2 (He.ga K "_law_draw") fd ["m", "many"] (sp_law_draw K) := by
  obtain ⟨fd, F⟩ := T.d_law_draw
  refine ⟨fd, F, fnG_of (sp := sp_law_draw K) F sc_law_draw (fun vs H Q E h => h.1) fun cdv A outer s H vs Q E hr hg h => ?_⟩
  have hu := hu_of hr
  have nd := sc_law_draw.nd
  exact ⟨t_law_draw K, PSs.nox ((pss_cons (ps_set (i := 2) nd rfl (Or.inl rfl) (pe_dget hu (pv 0) pe_str (fun _ _ => rfl)))
    (pss_cons (ps_dput hu (pv 0) pe_str (pe_op op_addA (pv 2) pe_int) rfl)
    (pss_cons (ps_if (pt_cmpR (op_neA hr) (pe_dget hu (pv 0) pe_str (fun _ _ => rfl)) (pe_lst pa_nil) (nobehind _ (by decide) (by decide))) (pss_cons (ps_set (i := 3) nd rfl (Or.inl rfl) (pe_op op_mod (pv 2) (pe_callB cl_len (by rfl) T.z_len PySem.boot_len (pa_cons (pe_dget hu (pv 0) pe_str (fun _ _ => rfl)) pa_nil))))
    (pss_cons (ps_set (i := 4) nd rfl (Or.inl rfl) (pe_ix ix_seq (pe_dget hu (pv 0) pe_str (fun _ _ => rfl)) (pv 3) (fun _ _ => rfl)))
    (pss_one (ps_if (pt_cmpR op_gt (pv 4) pe_int (nobehind _ (by decide) (by decide))) (pss_cons (ps_asg (pe_op op_fdiv (pv 4) (pv 1)) (pg_sub (pe_dget hu (pv 0) pe_str (fun _ _ => rfl)) (pv 3) set_list))
    (pss_one (ps_ret (pe_op op_mod (pv 4) (pv 1))))) pss_nil)))) pss_nil)
    (pss_one (ps_ret (pe_op op_mod (pe_ca (cs_law_mixed_2 T) hr (by decide) hg rfl pass0 (pa_cons (pe_ca (cs_law_mixed_2 T) hr (by decide) hg rfl pass0 (pa_cons (pe_op op_addA (pe_ix ix_seq (pe_dget hu (pv 0) pe_str (fun _ _ => rfl)) (pe_op op_mod (pv 2) pe_int) (fun _ _ => rfl)) (pe_op op_mulA pe_int (pe_op op_fdiv (pv 2) pe_int))) (pa_cons (pv 2) pa_nil)) pk_nil) (pa_cons (pe_op op_addA (pv 2) pe_int) pa_nil)) pk_nil) (pv 1)))))))), rd_law_draw vs H Q E h⟩
theorem cs_law_draw_2 (T : Txt K w mg) : CallOk P w K mg base CX0 2 "_law_draw" 2 [] (sp_law_draw K) (fun vs zs => pick .non [0, 1] (vs ++ zs)) := by
  obtain ⟨fd, F, G⟩ := ok_law_draw (P := P) (w := w) (base := base) T
  obtain ⟨g, kb⟩ := kb0 (ps := ["m", "many"]) F 2 [] [0, 1] fun kV doc pm an cdv ct us ws h1 h2 => match us, ws, h1, h2 with | [_, _], [], _, _ => rfl
  exact ⟨⟨fd, _, g, G, kb⟩, T.g_law_draw, F.kp⟩
theorem sc_law_begun : FnScope ["script", "m", "cell"] ["script"] (defScope (topS 44)) := ⟨rfl, rfl, rfl, by decide +kernel, rfl, by decide +kernel, by decide +kernel⟩
theorem ok_law_begun (T : Txt K w mg) : ∃ fd, FnP K "_law_begun" "_law_begun" (topS 44) [] (He.ga K "_law_begun") fd ∧ FnG P w K mg base CX0 2 (He.ga K "_law_begun") fd ["script"] (sp_law_begun K) := by
  obtain ⟨fd, F⟩ := T.d_law_begun
  refine ⟨fd, F, fnG_of (sp := sp_law_begun K) F sc_law_begun (fun vs H Q E h => h.1) fun cdv A outer s H vs Q E hr hg h => ?_⟩
  have hu := hu_of hr
  have nd := sc_law_begun.nd
  exact ⟨t_law_begun K, PSs.nox ((pss_cons (ps_set (i := 1) nd rfl (Or.inl rfl) (pe_disp (pps_cons pe_str (pe_ca (cs_law_folded_1 T) hr (by decide) hg rfl pass0 (pa_cons (pv 0) pa_nil) pk_nil) (pps_cons pe_str (pe_lst pa_nil) (pps_cons pe_str pe_int pps_nil))) (by rfl) (by rfl) (fun z => by cases z) (by decide)))
    (pss_cons (ps_dput hu (pv 1) pe_str (pe_lc (own := [("cell", 2)]) rfl nd (pi_any (pv 0)) (blkOk_by (by first | decide +kernel | kernel_rfl)) (fun _ _ _ _ _ => (pg_name (i := 2) nd rfl (Or.inl rfl))) (fun _ _ _ _ _ => pts_nil) (fun _ _ _ _ _ => (pe_ifExp (pt_cmpR op_ge (pv 2) (pe_op op_pow pe_int pe_int) (nobehind _ (by decide) (by decide))) (pv 2) pe_int))) rfl)
    (pss_one (ps_ret (pv 1)))))), rd_law_begun vs H Q E h⟩
theorem cs_law_begun_1 (T : Txt K w mg) : CallOk P w K mg base CX0 2 "_law_begun" 1 [] (sp_law_begun K) (fun vs zs => pick .non [0] (vs ++ zs)) := by
  obtain ⟨fd, F, G⟩ := ok_law_begun (P := P) (w := w) (base := base) T
  obtain ⟨g, kb⟩ := kb0 (ps := ["script"]) F 1 [] [0] fun kV doc pm an cdv ct us ws h1 h2 => match us, ws, h1, h2 with | [_], [], _, _ => rfl
  exact ⟨⟨fd, _, g, G, kb⟩, T.g_law_begun, F.kp⟩
theorem sc_are_calls : FnScope ["thing", "length", "one", "other"] ["thing", "length"] (defScope (topS 26)) := ⟨rfl, rfl, rfl, by decide +kernel, rfl, by decide +kernel, by decide +kernel⟩
theorem ok_are_calls (T : Txt K w mg) : ∃ fd, FnP K "are_calls" "are_calls" (topS 26) [] (He.ga K "are_calls") fd ∧ FnG P w K mg base CX0 3 (He.ga K "are_calls") fd ["thing", "length"] (sp_are_calls K) := by
  obtain ⟨fd, F⟩ := T.d_are_calls
  refine ⟨fd, F, fnG_of (sp := sp_are_calls K) F sc_are_calls (fun vs H Q E h => h.1) fun cdv A outer s H vs Q E hr hg h => ?_⟩
  have hu := hu_of hr
  have nd := sc_are_calls.nd
  exact ⟨t_are_calls K, PSs.nox ((pss_cons (ps_if (PW.pt (pw_or (pt_not (pt_tr (pe_callB call_isiT (by rfl) T.z_isinstance (by decide +kernel) (pa_cons (pv 0) (pa_cons (pe_tup (pa_cons (pe_bltn (v := .ty "list") (by rfl) T.z_list (by decide +kernel) rfl) (pa_cons (pe_bltn (v := .ty "tuple") (by rfl) T.z_tuple (by decide +kernel) rfl) pa_nil))) pa_nil))))) (pw_or1 (pt_cmpR op_gt (pe_callB cl_len (by rfl) T.z_len PySem.boot_len (pa_cons (pv 0) pa_nil)) (pe_gI T.c_MOST_CALLS) (nobehind _ (by decide) (by decide)))))) (pss_one (ps_ret pe_bl)) pss_nil)
    (pss_cons (ps_if (pt_not (pt_tr (pe_callB (cr_all rfl) (by rfl) T.z_all (by decide +kernel) (pa_cons (pe_lc (own := [("one", 2)]) rfl nd (pi_any (pv 0)) (blkOk_by (by first | decide +kernel | kernel_rfl)) (fun _ _ _ _ _ => (pg_name (i := 2) nd rfl (Or.inl rfl))) (fun _ _ _ _ _ => pts_nil) (fun _ _ _ _ _ => (pe_ca (cs_is_call_2 T) hr (by decide) hg rfl pass0 (pa_cons (pv 2) (pa_cons (pv 1) pa_nil)) pk_nil))) pa_nil)))) (pss_one (ps_ret pe_bl)) pss_nil)
    (pss_one (ps_ret (pe_callB (cr_all rfl) (by rfl) T.z_all (by decide +kernel) (pa_cons (pe_lc (own := [("one", 2), ("other", 3)]) rfl nd (RZ.pi_zipA (by rfl) T.z_zip (pa_cons (pv 0) (pa_cons (pe_slice sl_any (pv 0) (po_some pe_int) po_none) pa_nil))) (blkOk_by (by first | decide +kernel | kernel_rfl)) (fun _ _ _ _ _ => (pg_tup rfl (pgs_cons (pg_name (i := 2) nd rfl (Or.inl rfl)) (pgs_cons (pg_name (i := 3) nd rfl (Or.inl rfl)) pgs_nil)))) (fun _ _ _ _ _ => pts_nil) (fun _ _ _ _ _ => (pe_cmpR op_le (pe_ix ix_seq (pv 2) pe_int (fun _ _ => rfl)) (pe_ix ix_seq (pv 3) pe_int (fun _ _ => rfl)) (nobehind _ (by decide) (by decide))))) pa_nil))))))), rd_are_calls vs H Q E h⟩
theorem cs_are_calls_2 (T : Txt K w mg) : CallOk P w K mg base CX0 3 "are_calls" 2 [] (sp_are_calls K) (fun vs zs => pick .non [0, 1] (vs ++ zs)) := by
  obtain ⟨fd, F, G⟩ := ok_are_calls (P := P) (w := w) (base := base) T
  obtain ⟨g, kb⟩ := kb0 (ps := ["thing", "length"]) F 2 [] [0, 1] fun kV doc pm an cdv ct us ws h1 h2 => match us, ws, h1, h2 with | [_, _], [], _, _ => rfl
  exact ⟨⟨fd, _, g, G, kb⟩, T.g_are_calls, F.kp⟩
theorem sc_are_steps : FnScope ["thing", "step"] ["thing"] (defScope (topS 31)) := ⟨rfl, rfl, rfl, by decide +kernel, rfl, by decide +kernel, by decide +kernel⟩
theorem ok_are_steps (T : Txt K w mg) : ∃ fd, FnP K "are_steps" "are_steps" (topS 31) [] (He.ga K "are_steps") fd ∧ FnG P w K mg base CX0 3 (He.ga K "are_steps") fd ["thing"] (sp_are_steps K) := by
  obtain ⟨fd, F⟩ := T.d_are_steps
  refine ⟨fd, F, fnG_of (sp := sp_are_steps K) F sc_are_steps (fun vs H Q E h => h.1) fun cdv A outer s H vs Q E hr hg h => ?_⟩
  have hu := hu_of hr
  have nd := sc_are_steps.nd
  exact ⟨t_are_steps K, PSs.nox ((pss_cons (ps_if (PW.pt (pw_or (pt_not (pt_tr (pe_callB call_isiT (by rfl) T.z_isinstance (by decide +kernel) (pa_cons (pv 0) (pa_cons (pe_tup (pa_cons (pe_bltn (v := .ty "list") (by rfl) T.z_list (by decide +kernel) rfl) (pa_cons (pe_bltn (v := .ty "tuple") (by rfl) T.z_tuple (by decide +kernel) rfl) pa_nil))) pa_nil))))) (pw_or1 (pt_not (pt_chain op_le op_le pe_int (pe_callB cl_len (by rfl) T.z_len PySem.boot_len (pa_cons (pv 0) pa_nil)) (pe_gI T.c_MOST_STEPS)))))) (pss_one (ps_ret pe_bl)) pss_nil)
    (pss_one (ps_ret (pe_callB (cr_all rfl) (by rfl) T.z_all (by decide +kernel) (pa_cons (pe_lc (own := [("step", 1)]) rfl nd (pi_any (pv 0)) (blkOk_by (by first | decide +kernel | kernel_rfl)) (fun _ _ _ _ _ => (pg_name (i := 1) nd rfl (Or.inl rfl))) (fun _ _ _ _ _ => pts_nil) (fun _ _ _ _ _ => (pe_ca (cs_is_step_1 T) hr (by decide) hg rfl pass0 (pa_cons (pv 1) pa_nil) pk_nil))) pa_nil)))))), rd_are_steps vs H Q E h⟩
theorem cs_are_steps_1 (T : Txt K w mg) : CallOk P w K mg base CX0 3 "are_steps" 1 [] (sp_are_steps K) (fun vs zs => pick .non [0] (vs ++ zs)) := by
  obtain ⟨fd, F, G⟩ := ok_are_steps (P := P) (w := w) (base := base) T
  obtain ⟨g, kb⟩ := kb0 (ps := ["thing"]) F 1 [] [0] fun kV doc pm an cdv ct us ws h1 h2 => match us, ws, h1, h2 with | [_], [], _, _ => rfl
  exact ⟨⟨fd, _, g, G, kb⟩, T.g_are_steps, F.kp⟩
theorem sc_law_called : FnScope ["m", "many", "letters", "found", "shift", "stride", "k", "said", "j"] ["m", "many"] (defScope (topS 45)) := ⟨rfl, rfl, rfl, by decide +kernel, rfl, by decide +kernel, by decide +kernel⟩
theorem ok_law_called (T : Txt K w mg) : ∃ fd, FnP K "_law_called" "_law_called" (topS 45) [] (He.ga K "_law_called") fd ∧ FnG P w K mg base CX0 3 (He.ga K "_law_called") fd ["m", "many"] (sp_law_called K) := by
  obtain ⟨fd, F⟩ := T.d_law_called
  refine ⟨fd, F, fnG_of (sp := sp_law_called K) F sc_law_called (fun vs H Q E h => h.1) fun cdv A outer s H vs Q E hr hg h => ?_⟩
  have hu := hu_of hr
  have nd := sc_law_called.nd
  exact ⟨t_law_called K, PSs.nox ((pss_cons (ps_par rfl nd (i := 2) (j := 3) rfl rfl (by decide) rfl rfl (pa_cons pe_str (pa_cons (pe_lst pa_nil) pa_nil)) (by rfl))
    (pss_cons (ps_set (i := 4) nd rfl (Or.inl rfl) (pe_ca (cs_law_draw_2 T) hr (by decide) hg rfl pass0 (pa_cons (pv 0) (pa_cons pe_int pa_nil)) pk_nil))
    (pss_cons (ps_set (i := 5) nd rfl (Or.inl rfl) (pe_ix ix_seq (pe_lst (pa_cons pe_int (pa_cons pe_int (pa_cons pe_int (pa_cons pe_int (pa_cons pe_int (pa_cons pe_int (pa_cons pe_int (pa_cons pe_int (pa_cons pe_int (pa_cons pe_int (pa_cons pe_int (pa_cons pe_int pa_nil))))))))))))) (pe_ca (cs_law_draw_2 T) hr (by decide) hg rfl pass0 (pa_cons (pv 0) (pa_cons pe_int pa_nil)) pk_nil) (fun _ _ => rfl)))
    (pss_cons (ps_for PassesOwn.never rfl (pi_range1 (by rfl) T.z_range (pa_cons (pv 1) pa_nil)) (pg_name (i := 6) nd rfl (Or.inl rfl))
    (pss_cons (ps_set (i := 7) nd rfl (Or.inl rfl) (pe_ix ix_seq (pv 2) (pe_op op_mod (pe_op op_addA (pv 4) (pe_op op_mulA (pv 5) (pv 6))) pe_int) (fun _ _ => rfl)))
    (pss_cons (ps_set (i := 7) nd rfl (Or.inl rfl) (pe_op op_addA (pv 7) (pe_ix ix_seq (pv 2) (pe_op op_mod (pe_op op_addA (pv 4) (pe_op op_fdiv (pv 6) pe_int)) pe_int) (fun _ _ => rfl))))
    (pss_cons (ps_for PassesOwn.never rfl (pi_range1 (by rfl) T.z_range (pa_cons (pe_ix ix_seq (pe_lst (pa_cons pe_int (pa_cons pe_int (pa_cons pe_int (pa_cons (pe_ca (cs_law_draw_2 T) hr (by decide) hg rfl pass0 (pa_cons (pv 0) (pa_cons pe_int pa_nil)) pk_nil) pa_nil))))) (pe_ca (cs_law_draw_2 T) hr (by decide) hg rfl pass0 (pa_cons (pv 0) (pa_cons pe_int pa_nil)) pk_nil) (fun _ _ => rfl)) pa_nil)) (pg_name (i := 8) nd rfl (Or.inl rfl))
    (pss_one (ps_set (i := 7) nd rfl (Or.inl rfl) (pe_op op_addA (pv 7) (pe_ix ix_seq pe_str (pe_ca (cs_law_draw_2 T) hr (by decide) hg rfl pass0 (pa_cons (pv 0) (pa_cons pe_int pa_nil)) pk_nil) (fun _ _ => rfl))))))
    (pss_cons (ps_if (pt_cmpR (op_eqA hr) (pv 7) pe_str (nobehind _ (by decide) (by decide))) (pss_one (ps_set (i := 7) nd rfl (Or.inl rfl) pe_str)) pss_nil)
    (pss_cons (ps_if (PW.pt (pw_and (pt_cmpR (op_eqA hr) (pe_op op_mod (pv 6) pe_int) pe_int (nobehind _ (by decide) (by decide))) (pw_and1 (pt_cmpR (op_eqA hr) (pe_ca (cs_law_draw_2 T) hr (by decide) hg rfl pass0 (pa_cons (pv 0) (pa_cons pe_int pa_nil)) pk_nil) pe_int (nobehind _ (by decide) (by decide)))))) (pss_one (ps_set (i := 7) nd rfl (Or.inl rfl) (pe_op op_addA (pe_slice sl_any (pe_ix ix_seq (pv 3) (pe_un un_neg pe_int) (fun _ _ => rfl)) po_none (po_some pe_int)) pe_str))) pss_nil)
    (pss_one (ps_expr (pe_bm PySem.F.plainAttrs_list PySem.F.slot_list_append PySem.F.type_list_append mt_append (pv 3) (pa_cons (pv 7) pa_nil))))))))))
    (pss_one (ps_ret (pv 3)))))))), rd_law_called vs H Q E h⟩
theorem cs_law_called_2 (T : Txt K w mg) : CallOk P w K mg base CX0 3 "_law_called" 2 [] (sp_law_called K) (fun vs zs => pick .non [0, 1] (vs ++ zs)) := by
  obtain ⟨fd, F, G⟩ := ok_law_called (P := P) (w := w) (base := base) T
  obtain ⟨g, kb⟩ := kb0 (ps := ["m", "many"]) F 2 [] [0, 1] fun kV doc pm an cdv ct us ws h1 h2 => match us, ws, h1, h2 with | [_, _], [], _, _ => rfl
  exact ⟨⟨fd, _, g, G, kb⟩, T.g_law_called, F.kp⟩
theorem sc_law_step : FnScope ["m", "said", "few"] ["m"] (defScope (topS 46)) := ⟨rfl, rfl, rfl, by decide +kernel, rfl, by decide +kernel, by decide +kernel⟩
theorem ok_law_step (T : Txt K w mg) : ∃ fd, FnP K "_law_step" "_law_step" (topS 46) [] (He.ga K "_law_step") fd ∧ FnG P w K mg base CX0 3 (He.ga K "_law_step") fd ["m"] (sp_law_step K) := by
  obtain ⟨fd, F⟩ := T.d_law_step
  refine ⟨fd, F, fnG_of (sp := sp_law_step K) F sc_law_step (fun vs H Q E h => h.1) fun cdv A outer s H vs Q E hr hg h => ?_⟩
  have hu := hu_of hr
  have nd := sc_law_step.nd
  exact ⟨t_law_step K, PSs.nox ((pss_cons (ps_set (i := 1) nd rfl (Or.inl rfl) (pe_ix ix_seq (pe_lst (pa_cons pe_str (pa_cons pe_str (pa_cons pe_str (pa_cons pe_str (pa_cons pe_str (pa_cons pe_str (pa_cons pe_str pa_nil)))))))) (pe_ca (cs_law_draw_2 T) hr (by decide) hg rfl pass0 (pa_cons (pv 0) (pa_cons pe_int pa_nil)) pk_nil) (fun _ _ => rfl)))
    (pss_cons (ps_set (i := 2) nd rfl (Or.inl rfl) (pe_op op_addA pe_int (pe_ix ix_seq (pe_lst (pa_cons (pe_ca (cs_law_draw_2 T) hr (by decide) hg rfl pass0 (pa_cons (pv 0) (pa_cons pe_int pa_nil)) pk_nil) (pa_cons (pe_ca (cs_law_draw_2 T) hr (by decide) hg rfl pass0 (pa_cons (pv 0) (pa_cons pe_int pa_nil)) pk_nil) (pa_cons (pe_op op_sub pe_int (pe_ca (cs_law_draw_2 T) hr (by decide) hg rfl pass0 (pa_cons (pv 0) (pa_cons pe_int pa_nil)) pk_nil)) pa_nil)))) (pe_ca (cs_law_draw_2 T) hr (by decide) hg rfl pass0 (pa_cons (pv 0) (pa_cons pe_int pa_nil)) pk_nil) (fun _ _ => rfl))))
    (pss_one (ps_ret (pe_tup (pa_cons (pv 1) (pa_cons (pv 2) (pa_cons (pe_ix ix_seq (pe_lst (pa_cons pe_int (pa_cons pe_int (pa_cons (pe_ca (cs_law_draw_2 T) hr (by decide) hg rfl pass0 (pa_cons (pv 0) (pa_cons pe_int pa_nil)) pk_nil) (pa_cons (pe_ca (cs_law_draw_2 T) hr (by decide) hg rfl pass0 (pa_cons (pv 0) (pa_cons pe_int pa_nil)) pk_nil) (pa_cons (pe_op op_sub pe_int (pe_ca (cs_law_draw_2 T) hr (by decide) hg rfl pass0 (pa_cons (pv 0) (pa_cons pe_int pa_nil)) pk_nil)) pa_nil)))))) (pe_ca (cs_law_draw_2 T) hr (by decide) hg rfl pass0 (pa_cons (pv 0) (pa_cons pe_int pa_nil)) pk_nil) (fun _ _ => rfl)) pa_nil))))))))), rd_law_step vs H Q E h⟩
theorem cs_law_step_1 (T : Txt K w mg) : CallOk P w K mg base CX0 3 "_law_step" 1 [] (sp_law_step K) (fun vs zs => pick .non [0] (vs ++ zs)) := by
  obtain ⟨fd, F, G⟩ := ok_law_step (P := P) (w := w) (base := base) T
  obtain ⟨g, kb⟩ := kb0 (ps := ["m"]) F 1 [] [0] fun kV doc pm an cdv ct us ws h1 h2 => match us, ws, h1, h2 with | [_], [], _, _ => rfl
  exact ⟨⟨fd, _, g, G, kb⟩, T.g_law_step, F.kp⟩
theorem sc_law_numbers : FnScope ["m", "many", "first", "stride", "k"] ["m", "many"] (defScope (topS 49)) := ⟨rfl, rfl, rfl, by decide +kernel, rfl, by decide +kernel, by decide +kernel⟩
theorem ok_law_numbers (T : Txt K w mg) : ∃ fd, FnP K "_law_numbers" "_law_numbers" (topS 49) [] (He.ga K "_law_numbers") fd ∧ FnG P w K mg base CX0 3 (He.ga K "_law_numbers") fd ["m", "many"] (sp_law_numbers K) := by
  obtain ⟨fd, F⟩ := T.d_law_numbers
  refine ⟨fd, F, fnG_of (sp := sp_law_numbers K) F sc_law_numbers (fun vs H Q E h => h.1) fun cdv A outer s H vs Q E hr hg h => ?_⟩
  have hu := hu_of hr
  have nd := sc_law_numbers.nd
  exact ⟨t_law_numbers K, PSs.nox ((pss_cons (ps_asg (pe_tup (pa_cons (pe_ca (cs_law_draw_2 T) hr (by decide) hg rfl pass0 (pa_cons (pv 0) (pa_cons pe_int pa_nil)) pk_nil) (pa_cons (pe_ix ix_seq (pe_lst (pa_cons pe_int (pa_cons pe_int (pa_cons pe_int (pa_cons pe_int (pa_cons pe_int pa_nil)))))) (pe_ca (cs_law_draw_2 T) hr (by decide) hg rfl pass0 (pa_cons (pv 0) (pa_cons pe_int pa_nil)) pk_nil) (fun _ _ => rfl)) pa_nil))) (pg_tup rfl (pgs_cons (pg_name (i := 2) nd rfl (Or.inr rfl)) (pgs_cons (pg_name (i := 3) nd rfl (Or.inr rfl)) pgs_nil))))
    (pss_one (ps_ret (pe_lc (own := [("k", 4)]) rfl nd (pi_range1 (by rfl) T.z_range (pa_cons (pv 1) pa_nil)) (blkOk_by (by first | decide +kernel | kernel_rfl)) (fun _ _ _ _ _ => (pg_name (i := 4) nd rfl (Or.inl rfl))) (fun _ _ _ _ _ => pts_nil) (fun _ _ _ _ _ => (pe_op op_addA pe_int (pe_op op_mod (pe_op op_addA (pv 2) (pe_op op_mulA (pe_op op_mulA (pv 3) (pv 4)) (pe_op op_addA (pv 4) pe_int))) pe_int)))))))), rd_law_numbers vs H Q E h⟩
theorem cs_law_numbers_2 (T : Txt K w mg) : CallOk P w K mg base CX0 3 "_law_numbers" 2 [] (sp_law_numbers K) (fun vs zs => pick .non [0, 1] (vs ++ zs)) := by
  obtain ⟨fd, F, G⟩ := ok_law_numbers (P := P) (w := w) (base := base) T
  obtain ⟨g, kb⟩ := kb0 (ps := ["m", "many"]) F 2 [] [0, 1] fun kV doc pm an cdv ct us ws h1 h2 => match us, ws, h1, h2 with | [_, _], [], _, _ => rfl
  exact ⟨⟨fd, _, g, G, kb⟩, T.g_law_numbers, F.kp⟩
theorem sc_law_plain_job : FnScope ["m", "figure", "plain", "early", "span", "came", "room", "row"] ["m", "figure", "plain", "early"] (defScope (topS 50)) := ⟨rfl, rfl, rfl, by decide +kernel, rfl, by decide +kernel, by decide +kernel⟩
theorem ok_law_plain_job (T : Txt K w mg) : ∃ fd, FnP K "_law_plain_job" "_law_plain_job" (topS 50) [] (He.ga K "_law_plain_job") fd ∧ FnG P w K mg base CX0 3 (He.ga K "_law_plain_job") fd ["m", "figure", "plain", "early"] (sp_law_plain_job K) := by
  obtain ⟨fd, F⟩ := T.d_law_plain_job
  refine ⟨fd, F, fnG_of (sp := sp_law_plain_job K) F sc_law_plain_job (fun vs H Q E h => h.1) fun cdv A outer s H vs Q E hr hg h => ?_⟩
  have hu := hu_of hr
  have nd := sc_law_plain_job.nd
  exact ⟨t_law_plain_job K, PSs.nox ((pss_cons (ps_set (i := 4) nd rfl (Or.inl rfl) (pe_callB (cr_sum rfl) (by rfl) T.z_sum (by decide +kernel) (pa_cons (pe_lc (own := [("row", 7)]) rfl nd (pi_any (pe_ix ix_seq (pv 2) pe_int (fun _ _ => rfl))) (blkOk_by (by first | decide +kernel | kernel_rfl)) (fun _ _ _ _ _ => (pg_name (i := 7) nd rfl (Or.inl rfl))) (fun _ _ _ _ _ => pts_nil) (fun _ _ _ _ _ => (pe_op op_addA (pe_ix ix_seq (pv 7) pe_int (fun _ _ => rfl)) (pe_ix ix_seq (pv 7) pe_int (fun _ _ => rfl))))) pa_nil)))
    (pss_cons (ps_set (i := 5) nd rfl (Or.inl rfl) (pe_op op_addA (pv 3) (pe_ix ix_seq (pe_lst (pa_cons pe_int (pa_cons (pe_ca (cs_law_draw_2 T) hr (by decide) hg rfl pass0 (pa_cons (pv 0) (pa_cons pe_int pa_nil)) pk_nil) (pa_cons (pe_ca (cs_law_draw_2 T) hr (by decide) hg rfl pass0 (pa_cons (pv 0) (pa_cons pe_int pa_nil)) pk_nil) pa_nil)))) (pe_ca (cs_law_draw_2 T) hr (by decide) hg rfl pass0 (pa_cons (pv 0) (pa_cons pe_int pa_nil)) pk_nil) (fun _ _ => rfl))))
    (pss_cons (ps_set (i := 6) nd rfl (Or.inl rfl) (pe_ix ix_seq (pe_lst (pa_cons pe_int (pa_cons (pe_ca (cs_law_draw_2 T) hr (by decide) hg rfl pass0 (pa_cons (pv 0) (pa_cons pe_int pa_nil)) pk_nil) (pa_cons (pe_ca (cs_law_draw_2 T) hr (by decide) hg rfl pass0 (pa_cons (pv 0) (pa_cons (pe_op op_addA (pe_op op_mulA pe_int (pv 4)) pe_int) pa_nil)) pk_nil) (pa_cons (pv 4) pa_nil))))) (pe_ca (cs_law_draw_2 T) hr (by decide) hg rfl pass0 (pa_cons (pv 0) (pa_cons pe_int pa_nil)) pk_nil) (fun _ _ => rfl)))
    (pss_one (ps_ret (pe_tup (pa_cons (pv 1) (pa_cons (pv 2) (pa_cons (pv 5) (pa_cons (pe_op op_addA (pv 5) (pv 6)) (pa_cons (pe_ix ix_seq (pe_lst (pa_cons pe_bl (pa_cons pe_bl (pa_cons pe_bl pa_nil)))) (pe_ca (cs_law_draw_2 T) hr (by decide) hg rfl pass0 (pa_cons (pv 0) (pa_cons pe_int pa_nil)) pk_nil) (fun _ _ => rfl)) pa_nil)))))))))))), rd_law_plain_job vs H Q E h⟩
theorem cs_law_plain_job_4 (T : Txt K w mg) : CallOk P w K mg base CX0 3 "_law_plain_job" 4 [] (sp_law_plain_job K) (fun vs zs => pick .non [0, 1, 2, 3] (vs ++ zs)) := by
  obtain ⟨fd, F, G⟩ := ok_law_plain_job (P := P) (w := w) (base := base) T
  obtain ⟨g, kb⟩ := kb0 (ps := ["m", "figure", "plain", "early"]) F 4 [] [0, 1, 2, 3] fun kV doc pm an cdv ct us ws h1 h2 => match us, ws, h1, h2 with | [_, _, _, _], [], _, _ => rfl
  exact ⟨⟨fd, _, g, G, kb⟩, T.g_law_plain_job, F.kp⟩
theorem sc_law_plain_round : FnScope ["m", "w", "many", "long", "few", "starts", "found", "k", "top"] ["m", "w", "many"] (defScope (topS 54)) := ⟨rfl, rfl, rfl, by decide +kernel, rfl, by decide +kernel, by decide +kernel⟩
theorem ok_law_plain_round (T : Txt K w mg) : ∃ fd, FnP K "_law_plain_round" "_law_plain_round" (topS 54) [] (He.ga K "_law_plain_round") fd ∧ FnG P w K mg base CX0 3 (He.ga K "_law_plain_round") fd ["m", "w", "many"] (sp_law_plain_round K) := by
  obtain ⟨fd, F⟩ := T.d_law_plain_round
  refine ⟨fd, F, fnG_of (sp := sp_law_plain_round K) F sc_law_plain_round (fun vs H Q E h => h.1) fun cdv A outer s H vs Q E hr hg h => ?_⟩
  have hu := hu_of hr
  have nd := sc_law_plain_round.nd
  exact ⟨t_law_plain_round K, PSs.nox ((pss_cons (ps_set (i := 3) nd rfl (Or.inr rfl) (pe_op op_addA pe_int (pe_ca (cs_law_draw_2 T) hr (by decide) hg rfl pass0 (pa_cons (pv 0) (pa_cons (pe_ix ix_seq (pe_lst (pa_cons pe_int (pa_cons pe_int (pa_cons pe_int pa_nil)))) (pe_ca (cs_law_draw_2 T) hr (by decide) hg rfl pass0 (pa_cons (pv 0) (pa_cons pe_int pa_nil)) pk_nil) (fun _ _ => rfl)) pa_nil)) pk_nil)))
    (pss_cons (ps_set (i := 4) nd rfl (Or.inl rfl) (pe_ca (cs_law_draw_2 T) hr (by decide) hg rfl pass0 (pa_cons (pv 0) (pa_cons (pe_op op_addA (pv 2) pe_int) pa_nil)) pk_nil))
    (pss_cons (ps_set (i := 5) nd rfl (Or.inl rfl) (pe_callB cr_sortedI (by rfl) T.z_sorted (by decide +kernel) (pa_cons (pe_lc (own := [("k", 7)]) rfl nd (pi_range1 (by rfl) T.z_range (pa_cons (pv 4) pa_nil)) (blkOk_by (by first | decide +kernel | kernel_rfl)) (fun _ _ _ _ _ => (pg_name (i := 7) nd rfl (Or.inl rfl))) (fun _ _ _ _ _ => pts_nil) (fun _ _ _ _ _ => (pe_ix ix_seq (pe_lst (pa_cons pe_int (pa_cons (pe_ca (cs_law_draw_2 T) hr (by decide) hg rfl pass0 (pa_cons (pv 0) (pa_cons (pv 3) pa_nil)) pk_nil) (pa_cons (pe_op op_sub (pv 3) pe_int) pa_nil)))) (pe_ca (cs_law_draw_2 T) hr (by decide) hg rfl pass0 (pa_cons (pv 0) (pa_cons pe_int pa_nil)) pk_nil) (fun _ _ => rfl)))) pa_nil)))
    (pss_cons (ps_set (i := 6) nd rfl (Or.inl rfl) (pe_lst pa_nil))
    (pss_cons (ps_for PassesOwn.never rfl (pi_range1 (by rfl) T.z_range (pa_cons (pv 4) pa_nil)) (pg_name (i := 7) nd rfl (Or.inl rfl))
    (pss_cons (ps_set (i := 8) nd rfl (Or.inl rfl) (pe_ix ix_seq (pe_lst (pa_cons (pe_op op_addA pe_int (pe_op op_fdiv (pe_op op_mulA pe_int (pv 3)) (pv 4))) (pa_cons pe_int (pa_cons pe_int pa_nil)))) (pe_ca (cs_law_draw_2 T) hr (by decide) hg rfl pass0 (pa_cons (pv 0) (pa_cons pe_int pa_nil)) pk_nil) (fun _ _ => rfl)))
    (pss_one (ps_expr (pe_bm PySem.F.plainAttrs_list PySem.F.slot_list_append PySem.F.type_list_append mt_append (pv 6) (pa_cons (pe_tup (pa_cons (pe_ix ix_seq (pv 5) (pv 7) (fun _ _ => rfl)) (pa_cons (pe_ix ix_seq (pv 1) (pe_ca (cs_law_draw_2 T) hr (by decide) hg rfl pass0 (pa_cons (pv 0) (pa_cons pe_int pa_nil)) pk_nil) (fun _ _ => rfl)) (pa_cons (pe_op op_addA pe_int (pe_ca (cs_law_draw_2 T) hr (by decide) hg rfl pass0 (pa_cons (pv 0) (pa_cons (pe_callB (cl_min2 rfl) (by rfl) T.z_min (by decide +kernel) (pa_cons (pv 8) (pa_cons pe_int pa_nil))) pa_nil)) pk_nil)) pa_nil)))) pa_nil))))))
    (pss_one (ps_ret (pe_tup (pa_cons (pv 3) (pa_cons (pv 6) pa_nil))))))))))), rd_law_plain_round vs H Q E h⟩
theorem cs_law_plain_round_3 (T : Txt K w mg) : CallOk P w K mg base CX0 3 "_law_plain_round" 3 [] (sp_law_plain_round K) (fun vs zs => pick .non [0, 1, 2] (vs ++ zs)) := by
  obtain ⟨fd, F, G⟩ := ok_law_plain_round (P := P) (w := w) (base := base) T
  obtain ⟨g, kb⟩ := kb0 (ps := ["m", "w", "many"]) F 3 [] [0, 1, 2] fun kV doc pm an cdv ct us ws h1 h2 => match us, ws, h1, h2 with | [_, _, _], [], _, _ => rfl
  exact ⟨⟨fd, _, g, G, kb⟩, T.g_law_plain_round, F.kp⟩
theorem sc_Round_init : FnScope ["self", "length", "calls", "over", "k", "at", "name", "hours"] ["self", "length", "calls"] (defScope (inClass (topS 27) 0)) := ⟨rfl, rfl, rfl, by decide +kernel, rfl, by decide +kernel, by decide +kernel⟩
theorem ok_Round_init (T : Txt K w mg) : ∃ fd, FnP K "__init__" "Round.__init__" (inClass (topS 27) 0) [.non] (He.ma K (He.ga K "Round") "__init__") fd ∧ FnG P w K mg base CX0 4 (He.ma K (He.ga K "Round") "__init__") fd ["self", "length", "calls"] (sp_Round_init K) := by
  obtain ⟨fd, F⟩ := T.d_Round_init
  refine ⟨fd, F, fnG_of (sp := sp_Round_init K) F sc_Round_init (fun vs H Q E h => h.1) fun cdv A outer s H vs Q E hr hg h => ?_⟩
  have hu := hu_of hr
  have nd := sc_Round_init.nd
  exact ⟨t_Round_init K, PSs.nox ((pss_cons (ps_if (pt_not (pt_tr (pe_ca (cs_is_whole_2_most T) hr (by decide) hg rfl pass0 (pa_cons (pv 1) (pa_cons pe_int pa_nil)) (pk_cons (pe_gI T.c_MOST_LENGTH) pk_nil)))) (pss_one ps_no) pss_nil)
    (pss_cons (ps_if (PW.pt (pw_and (pt_cmpR op_noNo (pv 2) pe_non (nobehind _ (by decide) (by decide))) (pw_and1 (pt_not (pt_tr (pe_ca (cs_are_calls_2 T) hr (by decide) hg rfl pass0 (pa_cons (pv 2) (pa_cons (pv 1) pa_nil)) pk_nil)))))) (pss_one ps_no) pss_nil)
    (pss_cons (ps_fld (pv 0) (pv 1) rfl)
    (pss_cons (ps_fld (pv 0) (pe_ifExp (pt_cmpR op_isNo (pv 2) pe_non (nobehind _ (by decide) (by decide))) (pe_lst pa_nil) (pe_callTy cl_listOf (by rfl) T.z_list (by decide +kernel) (pa_cons (pv 2) pa_nil))) rfl)
    (pss_cons (ps_fld (pv 0) (pe_lst pa_nil) rfl)
    (pss_cons (ps_set (i := 3) nd rfl (Or.inl rfl) pe_int)
    (pss_one (ps_for PassesOwn.never rfl (pi_range1 (by rfl) T.z_range (pa_cons pe_int pa_nil)) (pg_name (i := 4) nd rfl (Or.inl rfl))
    (pss_one (ps_for PassesOwn.never rfl (pi_any (pe_fld (pv 0) rfl)) (pg_tup rfl (pgs_cons (pg_name (i := 5) nd rfl (Or.inl rfl)) (pgs_cons (pg_name (i := 6) nd rfl (Or.inl rfl)) (pgs_cons (pg_name (i := 7) nd rfl (Or.inl rfl)) pgs_nil))))
    (pss_cons (ps_set (i := 3) nd rfl (Or.inl rfl) (pe_callB (cl_max2 rfl) (by rfl) T.z_max (by decide +kernel) (pa_cons (pv 3) (pa_cons (pe_op op_addA (pe_op op_mulA (pv 4) (pv 1)) (pv 5)) pa_nil))))
    (pss_cons (ps_expr (pe_bm PySem.F.plainAttrs_list PySem.F.slot_list_append PySem.F.type_list_append mt_append (pe_fld (pv 0) rfl) (pa_cons (pv 3) pa_nil)))
    (pss_one (ps_aug (i := 3) nd rfl (Or.inl rfl) (pv 7) ip_add))))))))))))))), rd_Round_init (roundC T) vs H Q E h⟩
theorem cs_Round_init_1_calls (T : Txt K w mg) : MakeOk P w K mg base CX0 4 "Round" 1 ["calls"] (sp_Round_init K) (fun vs zs => pick .non [0, 1, 2] (vs ++ (zs ++ [.non]))) := by
  obtain ⟨fd, F, G⟩ := ok_Round_init (P := P) (w := w) (base := base) T
  obtain ⟨g, kb⟩ := kb1 (ps := ["self", "length", "calls"]) F (by simp) 2 ["calls"] [0, 1, 2] fun T kV doc pm an cdv ct us ws its h1 h2 h3 => match us, ws, its, h1, h2, h3 with | [_, _], [_], [_], _, _, _ => ⟨_, rfl, rfl⟩
  exact ⟨⟨_, fd, _, g, T.mk_Round, G, kb⟩, T.g_Round⟩
theorem sc_Round_eq : FnScope ["self", "other"] ["self", "other"] (defScope (inClass (topS 27) 23)) := ⟨rfl, rfl, rfl, by decide +kernel, rfl, by decide +kernel, by decide +kernel⟩
theorem ok_Round_eq (T : Txt K w mg) : ∃ fd, FnP K "__eq__" "Round.__eq__" (inClass (topS 27) 23) [] (He.ma K (He.ga K "Round") "__eq__") fd ∧ FnG P w K mg base CX0 4 (He.ma K (He.ga K "Round") "__eq__") fd ["self", "other"] (sp_Round_eq K) := by
  obtain ⟨fd, F⟩ := T.d_Round_eq
  refine ⟨fd, F, fnG_of (sp := sp_Round_eq K) F sc_Round_eq (fun vs H Q E h => h.1) fun cdv A outer s H vs Q E hr hg h => ?_⟩
  have hu := hu_of hr
  have nd := sc_Round_eq.nd
  exact ⟨t_Round_eq K, PSs.nox ((pss_one (ps_ret (pe_and (pe_callB call_isi (by rfl) T.z_isinstance (by decide +kernel) (pa_cons (pv 1) (pa_cons (pe_gR T.g_Round) pa_nil))) (pe_one (pe_cmpR (op_eqA hr) (pe_callTy (cl_strOwn (cs_Round_str_0 T) hr (by decide) hg pass0) (by rfl) T.z_str (by decide +kernel) (pa_cons (pv 0) pa_nil)) (pe_callTy (cl_strOwn (cs_Round_str_0 T) hr (by decide) hg pass0) (by rfl) T.z_str (by decide +kernel) (pa_cons (pv 1) pa_nil)) (nobehind _ (by decide) (by decide)))))))), rd_Round_eq (roundC T) T.od_Round vs H Q E h⟩
theorem cs_Round_eq_1 (T : Txt K w mg) : MethOk P w K mg base CX0 4 (He.ga K "Round") "__eq__" 1 [] (sp_Round_eq K) (fun vs zs => pick .non [0, 1] (vs ++ zs)) := by
  obtain ⟨fd, F, G⟩ := ok_Round_eq (P := P) (w := w) (base := base) T
  obtain ⟨g, kb⟩ := kb0 (ps := ["self", "other"]) F 2 [] [0, 1] fun kV doc pm an cdv ct us ws h1 h2 => match us, ws, h1, h2 with | [_, _], [], _, _ => rfl
  exact ⟨⟨_, fd, _, g, T.m_Round_eq, G, kb⟩, T.cl_Round⟩
theorem sc_Style_init : FnScope ["self", "name", "steps"] ["self", "name", "steps"] (defScope (inClass (topS 32) 0)) := ⟨rfl, rfl, rfl, by decide +kernel, rfl, by decide +kernel, by decide +kernel⟩
theorem ok_Style_init (T : Txt K w mg) : ∃ fd, FnP K "__init__" "Style.__init__" (inClass (topS 32) 0) [] (He.ma K (He.ga K "Style") "__init__") fd ∧ FnG P w K mg base CX0 4 (He.ma K (He.ga K "Style") "__init__") fd ["self", "name", "steps"] (sp_Style_init K) := by
  obtain ⟨fd, F⟩ := T.d_Style_init
  refine ⟨fd, F, fnG_of (sp := sp_Style_init K) F sc_Style_init (fun vs H Q E h => h.1) fun cdv A outer s H vs Q E hr hg h => ?_⟩
  have hu := hu_of hr
  have nd := sc_Style_init.nd
  exact ⟨t_Style_init K, PSs.nox ((pss_cons (ps_if (pt_not (pt_tr (pe_ca (cs_is_name_1 T) hr (by decide) hg rfl pass0 (pa_cons (pv 1) pa_nil) pk_nil))) (pss_one ps_no) pss_nil)
    (pss_cons (ps_if (pt_not (pt_tr (pe_ca (cs_are_steps_1 T) hr (by decide) hg rfl pass0 (pa_cons (pv 2) pa_nil) pk_nil))) (pss_one ps_no) pss_nil)
    (pss_cons (ps_fld (pv 0) (pv 1) rfl)
    (pss_one (ps_fld (pv 0) (pe_callTy cl_listOf (by rfl) T.z_list (by decide +kernel) (pa_cons (pv 2) pa_nil)) rfl)))))), rd_Style_init (styleC T) vs H Q E h⟩
theorem cs_Style_init_2 (T : Txt K w mg) : MakeOk P w K mg base CX0 4 "Style" 2 [] (sp_Style_init K) (fun vs zs => pick .non [0, 1, 2] (vs ++ zs)) := by
  obtain ⟨fd, F, G⟩ := ok_Style_init (P := P) (w := w) (base := base) T
  obtain ⟨g, kb⟩ := kb0 (ps := ["self", "name", "steps"]) F 3 [] [0, 1, 2] fun kV doc pm an cdv ct us ws h1 h2 => match us, ws, h1, h2 with | [_, _, _], [], _, _ => rfl
  exact ⟨⟨_, fd, _, g, T.mk_Style, G, kb⟩, T.g_Style⟩
theorem sc_read_job : FnScope ["style", "text", "line", "number", "brought", "due", "haste"] ["style", "text"] (defScope (topS 38)) := ⟨rfl, rfl, rfl, by decide +kernel, rfl, by decide +kernel, by decide +kernel⟩
theorem ok_read_job (T : Txt K w mg) : ∃ fd, FnP K "read_job" "read_job" (topS 38) [] (He.ga K "read_job") fd ∧ FnG P w K mg base CX0 4 (He.ga K "read_job") fd ["style", "text"] (sp_read_job K) := by
  obtain ⟨fd, F⟩ := T.d_read_job
  refine ⟨fd, F, fnG_of (sp := sp_read_job K) F sc_read_job (fun vs H Q E h => h.1) fun cdv A outer s H vs Q E hr hg h => ?_⟩
  have hu := hu_of hr
  have nd := sc_read_job.nd
  exact ⟨t_read_job K, PSs.nox ((pss_cons (ps_if (pt_not (pt_tr (pe_callB call_isi (by rfl) T.z_isinstance (by decide +kernel) (pa_cons (pv 1) (pa_cons (pe_bltn (v := .ty "str") (by rfl) T.z_str (by decide +kernel) rfl) pa_nil))))) (pss_one ps_no) pss_nil)
    (pss_cons (ps_set (i := 2) nd rfl (Or.inl rfl) (pe_mk (cs_Line_init_2 T) hr (by decide) hg rfl pass0 (pa_cons (pv 1) (pa_cons pe_int pa_nil)) pk_nil))
    (pss_cons (ps_expr (pe_me (cs_Line_take_word_1 T) hr (by decide) hg pass0 (pv 2) (pa_cons pe_str pa_nil) pk_nil))
    (pss_cons (ps_set (i := 3) nd rfl (Or.inl rfl) (pe_me (cs_Line_take_number_2 T) hr (by decide) hg pass0 (pv 2) (pa_cons pe_int (pa_cons (pe_gI T.c_MOST_NUMBER) pa_nil)) pk_nil))
    (pss_cons (ps_expr (pe_me (cs_Line_take_word_1 T) hr (by decide) hg pass0 (pv 2) (pa_cons (pe_me0 (cs_Style_named_0 T) hr (by decide) hg pass0 (pv 0) pk_nil) pa_nil) pk_nil))
    (pss_cons (ps_set (i := 4) nd rfl (Or.inl rfl) (pe_me (cs_Line_take_number_2 T) hr (by decide) hg pass0 (pv 2) (pa_cons pe_int (pa_cons (pe_gI T.c_MOST_HOUR) pa_nil)) pk_nil))
    (pss_cons (ps_set (i := 5) nd rfl (Or.inl rfl) (pe_me (cs_Line_take_number_2 T) hr (by decide) hg pass0 (pv 2) (pa_cons (pv 4) (pa_cons (pe_gI T.c_MOST_HOUR) pa_nil)) pk_nil))
    (pss_cons (ps_set (i := 6) nd rfl (Or.inl rfl) (pe_cmpR (op_eqA hr) (pe_me0 (cs_Line_ahead_0 T) hr (by decide) hg pass0 (pv 2) pk_nil) pe_str (nobehind _ (by decide) (by decide))))
    (pss_cons (ps_if (pt_tr (pv 6)) (pss_one (ps_expr (pe_me (cs_Line_take_1 T) hr (by decide) hg pass0 (pv 2) (pa_cons pe_bl pa_nil) pk_nil))) pss_nil)
    (pss_cons (ps_expr (pe_me0 (cs_Line_over_0 T) hr (by decide) hg pass0 (pv 2) pk_nil))
    (pss_one (ps_ret (pe_mk (cs_Job_init_2_brought_due_haste T) hr (by decide) hg rfl pass0 (pa_cons (pv 3) (pa_cons (pv 0) pa_nil)) (pk_cons (pv 4) (pk_cons (pv 5) (pk_cons (pv 6) pk_nil))))))))))))))))), rd_read_job vs H Q E h⟩
theorem cs_read_job_0_text_style (T : Txt K w mg) : CallOk P w K mg base CX0 4 "read_job" 0 ["text", "style"] (sp_read_job K) (fun vs zs => pick .non [1, 0] (vs ++ zs)) := by
  obtain ⟨fd, F, G⟩ := ok_read_job (P := P) (w := w) (base := base) T
  obtain ⟨g, kb⟩ := kb0 (ps := ["style", "text"]) F 0 ["text", "style"] [1, 0] fun kV doc pm an cdv ct us ws h1 h2 => match us, ws, h1, h2 with | [], [_, _], _, _ => rfl
  exact ⟨⟨fd, _, g, G, kb⟩, T.g_read_job, F.kp⟩
theorem cs_read_job_2 (T : Txt K w mg) : CallOk P w K mg base CX0 4 "read_job" 2 [] (sp_read_job K) (fun vs zs => pick .non [0, 1] (vs ++ zs)) := by
  obtain ⟨fd, F, G⟩ := ok_read_job (P := P) (w := w) (base := base) T
  obtain ⟨g, kb⟩ := kb0 (ps := ["style", "text"]) F 2 [] [0, 1] fun kV doc pm an cdv ct us ws h1 h2 => match us, ws, h1, h2 with | [_, _], [], _, _ => rfl
  exact ⟨⟨fd, _, g, G, kb⟩, T.g_read_job, F.kp⟩
theorem sc_law_steps : FnScope ["m", "many", "k"] ["m", "many"] (defScope (topS 47)) := ⟨rfl, rfl, rfl, by decide +kernel, rfl, by decide +kernel, by decide +kernel⟩
theorem ok_law_steps (T : Txt K w mg) : ∃ fd, FnP K "_law_steps" "_law_steps" (topS 47) [] (He.ga K "_law_steps") fd ∧ FnG P w K mg base CX0 4 (He.ga K "_law_steps") fd ["m", "many"] (sp_law_steps K) := by
  obtain ⟨fd, F⟩ := T.d_law_steps
  refine ⟨fd, F, fnG_of (sp := sp_law_steps K) F sc_law_steps (fun vs H Q E h => h.1) fun cdv A outer s H vs Q E hr hg h => ?_⟩
  have hu := hu_of hr
  have nd := sc_law_steps.nd
  exact ⟨t_law_steps K, PSs.nox ((pss_one (ps_ret (pe_lc (own := [("k", 2)]) rfl nd (pi_range1 (by rfl) T.z_range (pa_cons (pe_op op_addA pe_int (pe_ca (cs_law_draw_2 T) hr (by decide) hg rfl pass0 (pa_cons (pv 0) (pa_cons (pv 1) pa_nil)) pk_nil)) pa_nil)) (blkOk_by (by first | decide +kernel | kernel_rfl)) (fun _ _ _ _ _ => (pg_name (i := 2) nd rfl (Or.inl rfl))) (fun _ _ _ _ _ => pts_nil) (fun _ _ _ _ _ => (pe_ca (cs_law_step_1 T) hr (by decide) hg rfl pass0 (pa_cons (pv 0) pa_nil) pk_nil)))))), rd_law_steps vs H Q E h⟩
theorem cs_law_steps_2 (T : Txt K w mg) : CallOk P w K mg base CX0 4 "_law_steps" 2 [] (sp_law_steps K) (fun vs zs => pick .non [0, 1] (vs ++ zs)) := by
  obtain ⟨fd, F, G⟩ := ok_law_steps (P := P) (w := w) (base := base) T
  obtain ⟨g, kb⟩ := kb0 (ps := ["m", "many"]) F 2 [] [0, 1] fun kV doc pm an cdv ct us ws h1 h2 => match us, ws, h1, h2 with | [_, _], [], _, _ => rfl
  exact ⟨⟨fd, _, g, G, kb⟩, T.g_law_steps, F.kp⟩
theorem sc_law_plain_jobs : FnScope ["m", "styles", "many", "early", "numbers", "found", "k"] ["m", "styles", "many"] (defScope (topS 51)) := ⟨rfl, rfl, rfl, by decide +kernel, rfl, by decide +kernel, by decide +kernel⟩
theorem ok_law_plain_jobs (T : Txt K w mg) : ∃ fd, FnP K "_law_plain_jobs" "_law_plain_jobs" (topS 51) [] (He.ga K "_law_plain_jobs") fd ∧ FnG P w K mg base CX0 4 (He.ga K "_law_plain_jobs") fd ["m", "styles", "many"] (sp_law_plain_jobs K) := by
  obtain ⟨fd, F⟩ := T.d_law_plain_jobs
  refine ⟨fd, F, fnG_of (sp := sp_law_plain_jobs K) F sc_law_plain_jobs (fun vs H Q E h => h.1) fun cdv A outer s H vs Q E hr hg h => ?_⟩
  have hu := hu_of hr
  have nd := sc_law_plain_jobs.nd
  exact ⟨t_law_plain_jobs K, PSs.nox ((pss_cons (ps_set (i := 3) nd rfl (Or.inl rfl) (pe_ix ix_seq (pe_lst (pa_cons pe_int (pa_cons (pe_ca (cs_law_draw_2 T) hr (by decide) hg rfl pass0 (pa_cons (pv 0) (pa_cons pe_int pa_nil)) pk_nil) (pa_cons (pe_op op_sub (pe_op op_pow pe_int pe_int) pe_int) pa_nil)))) (pe_ca (cs_law_draw_2 T) hr (by decide) hg rfl pass0 (pa_cons (pv 0) (pa_cons pe_int pa_nil)) pk_nil) (fun _ _ => rfl)))
    (pss_cons (ps_set (i := 4) nd rfl (Or.inl rfl) (pe_ca (cs_law_numbers_2 T) hr (by decide) hg rfl pass0 (pa_cons (pv 0) (pa_cons (pv 2) pa_nil)) pk_nil))
    (pss_cons (ps_set (i := 5) nd rfl (Or.inl rfl) (pe_lst pa_nil))
    (pss_cons (ps_for PassesOwn.never rfl (pi_range1 (by rfl) T.z_range (pa_cons (pe_ca (cs_law_draw_2 T) hr (by decide) hg rfl pass0 (pa_cons (pv 0) (pa_cons (pe_op op_addA (pv 2) pe_int) pa_nil)) pk_nil) pa_nil)) (pg_name (i := 6) nd rfl (Or.inl rfl))
    (pss_one (ps_expr (pe_bm PySem.F.plainAttrs_list PySem.F.slot_list_append PySem.F.type_list_append mt_append (pv 5) (pa_cons (pe_ca (cs_law_plain_job_4 T) hr (by decide) hg rfl pass0 (pa_cons (pv 0) (pa_cons (pe_ix ix_seq (pv 4) (pv 6) (fun _ _ => rfl)) (pa_cons (pe_ix ix_seq (pv 1) (pe_ca (cs_law_draw_2 T) hr (by decide) hg rfl pass0 (pa_cons (pv 0) (pa_cons (pe_callB cl_len (by rfl) T.z_len PySem.boot_len (pa_cons (pv 1) pa_nil)) pa_nil)) pk_nil) (fun _ _ => rfl)) (pa_cons (pv 3) pa_nil)))) pk_nil) pa_nil)))))
    (pss_one (ps_ret (pv 5)))))))), rd_law_plain_jobs vs H Q E h⟩
theorem cs_law_plain_jobs_3 (T : Txt K w mg) : CallOk P w K mg base CX0 4 "_law_plain_jobs" 3 [] (sp_law_plain_jobs K) (fun vs zs => pick .non [0, 1, 2] (vs ++ zs)) := by
  obtain ⟨fd, F, G⟩ := ok_law_plain_jobs (P := P) (w := w) (base := base) T
  obtain ⟨g, kb⟩ := kb0 (ps := ["m", "styles", "many"]) F 3 [] [0, 1, 2] fun kV doc pm an cdv ct us ws h1 h2 => match us, ws, h1, h2 with | [_, _, _], [], _, _ => rfl
  exact ⟨⟨fd, _, g, G, kb⟩, T.g_law_plain_jobs, F.kp⟩
theorem sc_law_styles : FnScope ["m", "w", "many", "found", "k"] ["m", "w", "many"] (defScope (topS 48)) := ⟨rfl, rfl, rfl, by decide +kernel, rfl, by decide +kernel, by decide +kernel⟩
theorem ok_law_styles (T : Txt K w mg) : ∃ fd, FnP K "_law_styles" "_law_styles" (topS 48) [] (He.ga K "_law_styles") fd ∧ FnG P w K mg base CX0 5 (He.ga K "_law_styles") fd ["m", "w", "many"] (sp_law_styles K) := by
  obtain ⟨fd, F⟩ := T.d_law_styles
  refine ⟨fd, F, fnG_of (sp := sp_law_styles K) F sc_law_styles (fun vs H Q E h => h.1) fun cdv A outer s H vs Q E hr hg h => ?_⟩
  have hu := hu_of hr
  have nd := sc_law_styles.nd
  exact ⟨t_law_styles K, PSs.nox ((pss_cons (ps_set (i := 3) nd rfl (Or.inl rfl) (pe_lst pa_nil))
    (pss_cons (ps_for PassesOwn.never rfl (pi_range1 (by rfl) T.z_range (pa_cons (pe_op op_addA pe_int (pe_ca (cs_law_draw_2 T) hr (by decide) hg rfl pass0 (pa_cons (pv 0) (pa_cons (pv 2) pa_nil)) pk_nil)) pa_nil)) (pg_name (i := 4) nd rfl (Or.inl rfl))
    (pss_one (ps_expr (pe_bm PySem.F.plainAttrs_list PySem.F.slot_list_append PySem.F.type_list_append mt_append (pv 3) (pa_cons (pe_tup (pa_cons (pe_ix ix_seq (pv 1) (pv 4) (fun _ _ => rfl)) (pa_cons (pe_ca (cs_law_steps_2 T) hr (by decide) hg rfl pass0 (pa_cons (pv 0) (pa_cons (pe_ix ix_seq (pe_lst (pa_cons pe_int (pa_cons pe_int (pa_cons pe_int pa_nil)))) (pe_ca (cs_law_draw_2 T) hr (by decide) hg rfl pass0 (pa_cons (pv 0) (pa_cons pe_int pa_nil)) pk_nil) (fun _ _ => rfl)) pa_nil)) pk_nil) pa_nil))) pa_nil)))))
    (pss_one (ps_ret (pv 3)))))), rd_law_styles vs H Q E h⟩
theorem cs_law_styles_3 (T : Txt K w mg) : CallOk P w K mg base CX0 5 "_law_styles" 3 [] (sp_law_styles K) (fun vs zs => pick .non [0, 1, 2] (vs ++ zs)) := by
  obtain ⟨fd, F, G⟩ := ok_law_styles (P := P) (w := w) (base := base) T
  obtain ⟨g, kb⟩ := kb0 (ps := ["m", "w", "many"]) F 3 [] [0, 1, 2] fun kV doc pm an cdv ct us ws h1 h2 => match us, ws, h1, h2 with | [_, _, _], [], _, _ => rfl
  exact ⟨⟨fd, _, g, G, kb⟩, T.g_law_styles, F.kp⟩
theorem sc_read_style : FnScope ["text", "rows", "steps", "line", "name", "k", "row", "work", "hours"] ["text"] (defScope (topS 37)) := ⟨rfl, rfl, rfl, by decide +kernel, rfl, by decide +kernel, by decide +kernel⟩
theorem ok_read_style (T : Txt K w mg) : ∃ fd, FnP K "read_style" "read_style" (topS 37) [] (He.ga K "read_style") fd ∧ FnG P w K mg base CX0 6 (He.ga K "read_style") fd ["text"] (sp_read_style K) := by
  obtain ⟨fd, F⟩ := T.d_read_style
  refine ⟨fd, F, fnG_of (sp := sp_read_style K) F sc_read_style (fun vs H Q E h => h.1) fun cdv A outer s H vs Q E hr hg h => ?_⟩
  have hu := hu_of hr
  have nd := sc_read_style.nd
  exact ⟨t_read_style K, PSs.nox ((pss_cons (ps_par rfl nd (i := 1) (j := 2) rfl rfl (by decide) rfl rfl (pa_cons (pe_ca (cs_rows_of_1 T) hr (by decide) hg rfl pass0 (pa_cons (pv 0) pa_nil) pk_nil) (pa_cons (pe_lst pa_nil) pa_nil)) (by rfl))
    (pss_cons (ps_set (i := 3) nd rfl (Or.inl rfl) (pe_mk (cs_Line_init_2 T) hr (by decide) hg rfl pass0 (pa_cons (pe_ix ix_seq (pv 1) pe_int (fun _ _ => rfl)) (pa_cons pe_int pa_nil)) pk_nil))
    (pss_cons (ps_expr (pe_me (cs_Line_take_word_1 T) hr (by decide) hg pass0 (pv 3) (pa_cons pe_str pa_nil) pk_nil))
    (pss_cons (ps_set (i := 4) nd rfl (Or.inl rfl) (pe_me0 (cs_Line_take_name_0 T) hr (by decide) hg pass0 (pv 3) pk_nil))
    (pss_cons (ps_expr (pe_me0 (cs_Line_over_0 T) hr (by decide) hg pass0 (pv 3) pk_nil))
    (pss_cons (ps_for PassesOwn.never rfl (pi_enumA (by rfl) T.z_enumerate (pa_cons (pe_slice sl_any (pv 1) (po_some pe_int) po_none) pa_nil)) (pg_tup rfl (pgs_cons (pg_name (i := 5) nd rfl (Or.inl rfl)) (pgs_cons (pg_name (i := 6) nd rfl (Or.inl rfl)) pgs_nil)))
    (pss_cons (ps_set (i := 3) nd rfl (Or.inl rfl) (pe_mk (cs_Line_init_2 T) hr (by decide) hg rfl pass0 (pa_cons (pv 6) (pa_cons (pe_op op_addA (pv 5) pe_int) pa_nil)) pk_nil))
    (pss_cons (ps_set (i := 7) nd rfl (Or.inl rfl) (pe_me (cs_Line_take_1 T) hr (by decide) hg pass0 (pv 3) (pa_cons (pe_and (pe_cmpR op_lt (pv 5) (pe_gI T.c_MOST_STEPS) (nobehind _ (by decide) (by decide))) (pe_one (pe_cmpR op_noNo (pe_ca (cs_kind_of_1 T) hr (by decide) hg rfl pass0 (pa_cons (pe_me0 (cs_Line_ahead_0 T) hr (by decide) hg pass0 (pv 3) pk_nil) pa_nil) pk_nil) pe_non (nobehind _ (by decide) (by decide))))) pa_nil) pk_nil))
    (pss_cons (ps_set (i := 8) nd rfl (Or.inl rfl) (pe_me (cs_Line_take_number_2 T) hr (by decide) hg pass0 (pv 3) (pa_cons pe_int (pa_cons (pe_gI T.c_MOST_HOURS) pa_nil)) pk_nil))
    (pss_cons (ps_expr (pe_bm PySem.F.plainAttrs_list PySem.F.slot_list_append PySem.F.type_list_append mt_append (pv 2) (pa_cons (pe_tup (pa_cons (pv 7) (pa_cons (pv 8) (pa_cons (pe_me (cs_Line_take_number_2 T) hr (by decide) hg pass0 (pv 3) (pa_cons pe_int (pa_cons (pe_gI T.c_MOST_HOURS) pa_nil)) pk_nil) pa_nil)))) pa_nil)))
    (pss_one (ps_expr (pe_me0 (cs_Line_over_0 T) hr (by decide) hg pass0 (pv 3) pk_nil))))))))
    (pss_cons (ps_if (pt_cmpR (op_eqA hr) (pv 2) (pe_lst pa_nil) (nobehind _ (by decide) (by decide))) (pss_one ps_no) pss_nil)
    (pss_one (ps_ret (pe_mk (cs_Style_init_2 T) hr (by decide) hg rfl pass0 (pa_cons (pv 4) (pa_cons (pv 2) pa_nil)) pk_nil))))))))))), rd_read_style vs H Q E h⟩
theorem cs_read_style_0_text (T : Txt K w mg) : CallOk P w K mg base CX0 6 "read_style" 0 ["text"] (sp_read_style K) (fun vs zs => pick .non [0] (vs ++ zs)) := by
  obtain ⟨fd, F, G⟩ := ok_read_style (P := P) (w := w) (base := base) T
  obtain ⟨g, kb⟩ := kb0 (ps := ["text"]) F 0 ["text"] [0] fun kV doc pm an cdv ct us ws h1 h2 => match us, ws, h1, h2 with | [], [_], _, _ => rfl
  exact ⟨⟨fd, _, g, G, kb⟩, T.g_read_style, F.kp⟩
theorem cs_read_style_1 (T : Txt K w mg) : CallOk P w K mg base CX0 6 "read_style" 1 [] (sp_read_style K) (fun vs zs => pick .non [0] (vs ++ zs)) := by
  obtain ⟨fd, F, G⟩ := ok_read_style (P := P) (w := w) (base := base) T
  obtain ⟨g, kb⟩ := kb0 (ps := ["text"]) F 1 [] [0] fun kV doc pm an cdv ct us ws h1 h2 => match us, ws, h1, h2 with | [_], [], _, _ => rfl
  exact ⟨⟨fd, _, g, G, kb⟩, T.g_read_style, F.kp⟩
theorem sc_read_round : FnScope ["text", "rows", "calls", "least", "line", "length", "k", "row", "word", "name"] ["text"] (defScope (topS 39)) := ⟨rfl, rfl, rfl, by decide +kernel, rfl, by decide +kernel, by decide +kernel⟩
theorem ok_read_round (T : Txt K w mg) : ∃ fd, FnP K "read_round" "read_round" (topS 39) [] (He.ga K "read_round") fd ∧ FnG P w K mg base CX0 6 (He.ga K "read_round") fd ["text"] (sp_read_round K) := by
  obtain ⟨fd, F⟩ := T.d_read_round
  refine ⟨fd, F, fnG_of (sp := sp_read_round K) F sc_read_round (fun vs H Q E h => h.1) fun cdv A outer s H vs Q E hr hg h => ?_⟩
  have hu := hu_of hr
  have nd := sc_read_round.nd
  exact ⟨t_read_round K, PSs.nox ((pss_cons (ps_par3 rfl nd (i := 1) (j := 2) (l := 3) rfl rfl rfl (by decide) (by decide) (by decide) rfl rfl rfl (pa_cons (pe_ca (cs_rows_of_1 T) hr (by decide) hg rfl pass0 (pa_cons (pv 0) pa_nil) pk_nil) (pa_cons (pe_lst pa_nil) (pa_cons pe_int pa_nil))) (by rfl))
    (pss_cons (ps_set (i := 4) nd rfl (Or.inl rfl) (pe_mk (cs_Line_init_2 T) hr (by decide) hg rfl pass0 (pa_cons (pe_ix ix_seq (pv 1) pe_int (fun _ _ => rfl)) (pa_cons pe_int pa_nil)) pk_nil))
    (pss_cons (ps_expr (pe_me (cs_Line_take_word_1 T) hr (by decide) hg pass0 (pv 4) (pa_cons pe_str pa_nil) pk_nil))
    (pss_cons (ps_set (i := 5) nd rfl (Or.inl rfl) (pe_me (cs_Line_take_number_2 T) hr (by decide) hg pass0 (pv 4) (pa_cons pe_int (pa_cons (pe_gI T.c_MOST_LENGTH) pa_nil)) pk_nil))
    (pss_cons (ps_expr (pe_me0 (cs_Line_over_0 T) hr (by decide) hg pass0 (pv 4) pk_nil))
    (pss_cons (ps_for PassesOwn.never rfl (pi_enumA (by rfl) T.z_enumerate (pa_cons (pe_slice sl_any (pv 1) (po_some pe_int) po_none) pa_nil)) (pg_tup rfl (pgs_cons (pg_name (i := 6) nd rfl (Or.inl rfl)) (pgs_cons (pg_name (i := 7) nd rfl (Or.inl rfl)) pgs_nil)))
    (pss_cons (ps_set (i := 4) nd rfl (Or.inl rfl) (pe_mk (cs_Line_init_2 T) hr (by decide) hg rfl pass0 (pa_cons (pv 7) (pa_cons (pe_op op_addA (pv 6) pe_int) pa_nil)) pk_nil))
    (pss_cons (ps_set (i := 8) nd rfl (Or.inl rfl) (pe_ca (cs_number_of_1 T) hr (by decide) hg rfl pass0 (pa_cons (pe_me0 (cs_Line_ahead_0 T) hr (by decide) hg pass0 (pv 4) pk_nil) pa_nil) pk_nil))
    (pss_cons (ps_expr (pe_me (cs_Line_take_1 T) hr (by decide) hg pass0 (pv 4) (pa_cons (pe_and (pe_cmpR op_lt (pv 6) (pe_gI T.c_MOST_CALLS) (nobehind _ (by decide) (by decide))) (pe_and (pe_cmpR op_noNo (pv 8) pe_non (nobehind _ (by decide) (by decide))) (pe_one (pe_chain op_le op_lt (pv 3) (pv 8) (pv 5))))) pa_nil) pk_nil))
    (pss_cons (ps_set (i := 3) nd rfl (Or.inl rfl) (pv 8))
    (pss_cons (ps_set (i := 9) nd rfl (Or.inl rfl) (pe_me0 (cs_Line_take_name_0 T) hr (by decide) hg pass0 (pv 4) pk_nil))
    (pss_cons (ps_expr (pe_bm PySem.F.plainAttrs_list PySem.F.slot_list_append PySem.F.type_list_append mt_append (pv 2) (pa_cons (pe_tup (pa_cons (pv 8) (pa_cons (pv 9) (pa_cons (pe_me (cs_Line_take_number_2 T) hr (by decide) hg pass0 (pv 4) (pa_cons pe_int (pa_cons (pe_gI T.c_MOST_LENGTH) pa_nil)) pk_nil) pa_nil)))) pa_nil)))
    (pss_one (ps_expr (pe_me0 (cs_Line_over_0 T) hr (by decide) hg pass0 (pv 4) pk_nil))))))))))
    (pss_one (ps_ret (pe_mk (cs_Round_init_1_calls T) hr (by decide) hg rfl pass0 (pa_cons (pv 5) pa_nil) (pk_cons (pv 2) pk_nil))))))))))), rd_read_round vs H Q E h⟩
theorem cs_read_round_0_text (T : Txt K w mg) : CallOk P w K mg base CX0 6 "read_round" 0 ["text"] (sp_read_round K) (fun vs zs => pick .non [0] (vs ++ zs)) := by
  obtain ⟨fd, F, G⟩ := ok_read_round (P := P) (w := w) (base := base) T
  obtain ⟨g, kb⟩ := kb0 (ps := ["text"]) F 0 ["text"] [0] fun kV doc pm an cdv ct us ws h1 h2 => match us, ws, h1, h2 with | [], [_], _, _ => rfl
  exact ⟨⟨fd, _, g, G, kb⟩, T.g_read_round, F.kp⟩
theorem cs_read_round_1 (T : Txt K w mg) : CallOk P w K mg base CX0 6 "read_round" 1 [] (sp_read_round K) (fun vs zs => pick .non [0] (vs ++ zs)) := by
  obtain ⟨fd, F, G⟩ := ok_read_round (P := P) (w := w) (base := base) T
  obtain ⟨g, kb⟩ := kb0 (ps := ["text"]) F 1 [] [0] fun kV doc pm an cdv ct us ws h1 h2 => match us, ws, h1, h2 with | [_], [], _, _ => rfl
  exact ⟨⟨fd, _, g, G, kb⟩, T.g_read_round, F.kp⟩
theorem sc_law_style : FnScope ["plain"] ["plain"] (defScope (topS 52)) := ⟨rfl, rfl, rfl, by decide +kernel, rfl, by decide +kernel, by decide +kernel⟩
theorem ok_law_style (T : Txt K w mg) : ∃ fd, FnP K "_law_style" "_law_style" (topS 52) [] (He.ga K "_law_style") fd ∧ FnG P w K mg base CX0 6 (He.ga K "_law_style") fd ["plain"] (sp_law_style K) := by
  obtain ⟨fd, F⟩ := T.d_law_style
  refine ⟨fd, F, fnG_of (sp := sp_law_style K) F sc_law_style (fun vs H Q E h => h.1) fun cdv A outer s H vs Q E hr hg h => ?_⟩
  have hu := hu_of hr
  have nd := sc_law_style.nd
  exact ⟨t_law_style K, PSs.nox ((pss_one (ps_ret (pe_mk (cs_Style_init_2 T) hr (by decide) hg rfl pass0 (pa_cons (pe_ix ix_seq (pv 0) pe_int (fun _ _ => rfl)) (pa_cons (pe_callTy cl_listOf (by rfl) T.z_list (by decide +kernel) (pa_cons (pe_ix ix_seq (pv 0) pe_int (fun _ _ => rfl)) pa_nil)) pa_nil)) pk_nil)))), rd_law_style vs H Q E h⟩
theorem cs_law_style_1 (T : Txt K w mg) : CallOk P w K mg base CX0 6 "_law_style" 1 [] (sp_law_style K) (fun vs zs => pick .non [0] (vs ++ zs)) := by
  obtain ⟨fd, F, G⟩ := ok_law_style (P := P) (w := w) (base := base) T
  obtain ⟨g, kb⟩ := kb0 (ps := ["plain"]) F 1 [] [0] fun kV doc pm an cdv ct us ws h1 h2 => match us, ws, h1, h2 with | [_], [], _, _ => rfl
  exact ⟨⟨fd, _, g, G, kb⟩, T.g_law_style, F.kp⟩
theorem sc_law_round : FnScope ["plain"] ["plain"] (defScope (topS 55)) := ⟨rfl, rfl, rfl, by decide +kernel, rfl, by decide +kernel, by decide +kernel⟩
theorem ok_law_round (T : Txt K w mg) : ∃ fd, FnP K "_law_round" "_law_round" (topS 55) [] (He.ga K "_law_round") fd ∧ FnG P w K mg base CX0 6 (He.ga K "_law_round") fd ["plain"] (sp_law_round K) := by
  obtain ⟨fd, F⟩ := T.d_law_round
  refine ⟨fd, F, fnG_of (sp := sp_law_round K) F sc_law_round (fun vs H Q E h => h.1) fun cdv A outer s H vs Q E hr hg h => ?_⟩
  have hu := hu_of hr
  have nd := sc_law_round.nd
  exact ⟨t_law_round K, PSs.nox ((pss_one (ps_ret (pe_mk (cs_Round_init_1_calls T) hr (by decide) hg rfl pass0 (pa_cons (pe_ix ix_seq (pv 0) pe_int (fun _ _ => rfl)) pa_nil) (pk_cons (pe_callTy cl_listOf (by rfl) T.z_list (by decide +kernel) (pa_cons (pe_ix ix_seq (pv 0) pe_int (fun _ _ => rfl)) pa_nil)) pk_nil))))), rd_law_round vs H Q E h⟩
theorem cs_law_round_1 (T : Txt K w mg) : CallOk P w K mg base CX0 6 "_law_round" 1 [] (sp_law_round K) (fun vs zs => pick .non [0] (vs ++ zs)) := by
  obtain ⟨fd, F, G⟩ := ok_law_round (P := P) (w := w) (base := base) T
  obtain ⟨g, kb⟩ := kb0 (ps := ["plain"]) F 1 [] [0] fun kV doc pm an cdv ct us ws h1 h2 => match us, ws, h1, h2 with | [_], [], _, _ => rfl
  exact ⟨⟨fd, _, g, G, kb⟩, T.g_law_round, F.kp⟩
theorem sc_law_job : FnScope ["plain"] ["plain"] (defScope (topS 53)) := ⟨rfl, rfl, rfl, by decide +kernel, rfl, by decide +kernel, by decide +kernel⟩
theorem ok_law_job (T : Txt K w mg) : ∃ fd, FnP K "_law_job" "_law_job" (topS 53) [] (He.ga K "_law_job") fd ∧ FnG P w K mg base CX0 7 (He.ga K "_law_job") fd ["plain"] (sp_law_job K) := by
  obtain ⟨fd, F⟩ := T.d_law_job
  refine ⟨fd, F, fnG_of (sp := sp_law_job K) F sc_law_job (fun vs H Q E h => h.1) fun cdv A outer s H vs Q E hr hg h => ?_⟩
  have hu := hu_of hr
  have nd := sc_law_job.nd
  exact ⟨t_law_job K, PSs.nox ((pss_one (ps_ret (pe_mk (cs_Job_init_2_brought_due_haste T) hr (by decide) hg rfl pass0 (pa_cons (pe_ix ix_seq (pv 0) pe_int (fun _ _ => rfl)) (pa_cons (pe_ca (cs_law_style_1 T) hr (by decide) hg rfl pass0 (pa_cons (pe_ix ix_seq (pv 0) pe_int (fun _ _ => rfl)) pa_nil) pk_nil) pa_nil)) (pk_cons (pe_ix ix_seq (pv 0) pe_int (fun _ _ => rfl)) (pk_cons (pe_ix ix_seq (pv 0) pe_int (fun _ _ => rfl)) (pk_cons (pe_ix ix_seq (pv 0) pe_int (fun _ _ => rfl)) pk_nil))))))), rd_law_job vs H Q E h⟩
theorem cs_law_job_1 (T : Txt K w mg) : CallOk P w K mg base CX0 7 "_law_job" 1 [] (sp_law_job K) (fun vs zs => pick .non [0] (vs ++ zs)) := by
  obtain ⟨fd, F, G⟩ := ok_law_job (P := P) (w := w) (base := base) T
  obtain ⟨g, kb⟩ := kb0 (ps := ["plain"]) F 1 [] [0] fun kV doc pm an cdv ct us ws h1 h2 => match us, ws, h1, h2 with | [_], [], _, _ => rfl
  exact ⟨⟨fd, _, g, G, kb⟩, T.g_law_job, F.kp⟩
theorem sc_law_style_right : FnScope ["plain", "made", "told", "found"] ["plain"] (defScope (topS 59)) := ⟨rfl, rfl, rfl, by decide +kernel, rfl, by decide +kernel, by decide +kernel⟩
theorem ok_law_style_right (T : Txt K w mg) : ∃ fd, FnP K "_law_style_right" "_law_style_right" (topS 59) [] (He.ga K "_law_style_right") fd ∧ FnG P w K mg base CX0 7 (He.ga K "_law_style_right") fd ["plain"] (sp_law_style_right K) := by
  obtain ⟨fd, F⟩ := T.d_law_style_right
  refine ⟨fd, F, fnG_of (sp := sp_law_style_right K) F sc_law_style_right (fun vs H Q E h => h.1) fun cdv A outer s H vs Q E hr hg h => ?_⟩
  have hu := hu_of hr
  have nd := sc_law_style_right.nd
  exact ⟨t_law_style_right K, PSs.nox ((pss_cons (ps_par rfl nd (i := 1) (j := 2) rfl rfl (by decide) rfl rfl (pa_cons (pe_ca (cs_law_style_1 T) hr (by decide) hg rfl pass0 (pa_cons (pv 0) pa_nil) pk_nil) (pa_cons (pe_join pe_str (pe_ca (cs_law_style_rows_1 T) hr (by decide) hg rfl pass0 (pa_cons (pv 0) pa_nil) pk_nil)) pa_nil)) (by rfl))
    (pss_cons (ps_set (i := 3) nd rfl (Or.inl rfl) (pe_ca0 (cs_read_style_0_text T) hr (by decide) hg rfl pass0 (pk_cons (pv 2) pk_nil)))
    (pss_cons (ps_if (PW.pt (pw_or (pt_cmpR (op_neA hr) (pe_callTy (cl_strOwn (cs_Style_str_0 T) hr (by decide) hg pass0) (by rfl) T.z_str (by decide +kernel) (pa_cons (pv 1) pa_nil)) (pv 2) (nobehind _ (by decide) (by decide))) (pw_or (pt_not (pt_tr (pe_callB call_isi (by rfl) T.z_isinstance (by decide +kernel) (pa_cons (pv 3) (pa_cons (pe_gR T.g_Style) pa_nil))))) (pw_or (pt_cmpR (op_ownNe (cs_Style_eq_1 T) T.od_Style.own hr (by decide) hg pass0) (pv 3) (pv 1) (nobehind _ (by decide) (by decide))) (pw_or1 (pt_cmpR (op_neA hr) (pe_callTy (cl_strOwn (cs_Style_str_0 T) hr (by decide) hg pass0) (by rfl) T.z_str (by decide +kernel) (pa_cons (pv 3) pa_nil)) (pv 2) (nobehind _ (by decide) (by decide)))))))) (pss_one (ps_ret pe_bl)) pss_nil)
    (pss_one (ps_ret (pe_and (pe_cmpR (op_eqA hr) (pe_me0 (cs_Style_steps_0 T) hr (by decide) hg pass0 (pv 3) pk_nil) (pe_ix ix_seq (pv 0) pe_int (fun _ _ => rfl)) (nobehind _ (by decide) (by decide))) (pe_and (pe_cmpR (op_eqA hr) (pe_me0 (cs_Style_named_0 T) hr (by decide) hg pass0 (pv 3) pk_nil) (pe_ix ix_seq (pv 0) pe_int (fun _ _ => rfl)) (nobehind _ (by decide) (by decide))) (pe_one (pe_cmpR (op_ownEq (cs_Style_eq_1 T) hr (by decide) hg pass0) (pe_ca (cs_read_style_1 T) hr (by decide) hg rfl pass0 (pa_cons (pe_callTy (cl_strOwn (cs_Style_str_0 T) hr (by decide) hg pass0) (by rfl) T.z_str (by decide +kernel) (pa_cons (pv 1) pa_nil)) pa_nil) pk_nil) (pv 1) (nobehind _ (by decide) (by decide)))))))))))), rd_law_style_right (styleC T) T.od_Style vs H Q E h⟩
theorem cs_law_style_right_1 (T : Txt K w mg) : CallOk P w K mg base CX0 7 "_law_style_right" 1 [] (sp_law_style_right K) (fun vs zs => pick .non [0] (vs ++ zs)) := by
  obtain ⟨fd, F, G⟩ := ok_law_style_right (P := P) (w := w) (base := base) T
  obtain ⟨g, kb⟩ := kb0 (ps := ["plain"]) F 1 [] [0] fun kV doc pm an cdv ct us ws h1 h2 => match us, ws, h1, h2 with | [_], [], _, _ => rfl
  exact ⟨⟨fd, _, g, G, kb⟩, T.g_law_style_right, F.kp⟩
theorem sc_law_round_right : FnScope ["plain", "made", "told", "found"] ["plain"] (defScope (topS 61)) := ⟨rfl, rfl, rfl, by decide +kernel, rfl, by decide +kernel, by decide +kernel⟩
theorem ok_law_round_right (T : Txt K w mg) : ∃ fd, FnP K "_law_round_right" "_law_round_right" (topS 61) [] (He.ga K "_law_round_right") fd ∧ FnG P w K mg base CX0 7 (He.ga K "_law_round_right") fd ["plain"] (sp_law_round_right K) := by
  obtain ⟨fd, F⟩ := T.d_law_round_right
  refine ⟨fd, F, fnG_of (sp := sp_law_round_right K) F sc_law_round_right (fun vs H Q E h => h.1) fun cdv A outer s H vs Q E hr hg h => ?_⟩
  have hu := hu_of hr
  have nd := sc_law_round_right.nd
  exact ⟨t_law_round_right K, PSs.nox ((pss_cons (ps_par rfl nd (i := 1) (j := 2) rfl rfl (by decide) rfl rfl (pa_cons (pe_ca (cs_law_round_1 T) hr (by decide) hg rfl pass0 (pa_cons (pv 0) pa_nil) pk_nil) (pa_cons (pe_join pe_str (pe_ca (cs_law_round_rows_1 T) hr (by decide) hg rfl pass0 (pa_cons (pv 0) pa_nil) pk_nil)) pa_nil)) (by rfl))
    (pss_cons (ps_set (i := 3) nd rfl (Or.inl rfl) (pe_ca0 (cs_read_round_0_text T) hr (by decide) hg rfl pass0 (pk_cons (pv 2) pk_nil)))
    (pss_cons (ps_if (PW.pt (pw_or (pt_cmpR (op_neA hr) (pe_callTy (cl_strOwn (cs_Round_str_0 T) hr (by decide) hg pass0) (by rfl) T.z_str (by decide +kernel) (pa_cons (pv 1) pa_nil)) (pv 2) (nobehind _ (by decide) (by decide))) (pw_or (pt_not (pt_tr (pe_callB call_isi (by rfl) T.z_isinstance (by decide +kernel) (pa_cons (pv 3) (pa_cons (pe_gR T.g_Round) pa_nil))))) (pw_or (pt_cmpR (op_ownNe (cs_Round_eq_1 T) T.od_Round.own hr (by decide) hg pass0) (pv 3) (pv 1) (nobehind _ (by decide) (by decide))) (pw_or1 (pt_cmpR (op_neA hr) (pe_callTy (cl_strOwn (cs_Round_str_0 T) hr (by decide) hg pass0) (by rfl) T.z_str (by decide +kernel) (pa_cons (pv 3) pa_nil)) (pv 2) (nobehind _ (by decide) (by decide)))))))) (pss_one (ps_ret pe_bl)) pss_nil)
    (pss_one (ps_ret (pe_and (pe_cmpR (op_eqA hr) (pe_me0 (cs_Round_calls_0 T) hr (by decide) hg pass0 (pv 3) pk_nil) (pe_ix ix_seq (pv 0) pe_int (fun _ _ => rfl)) (nobehind _ (by decide) (by decide))) (pe_and (pe_cmpR (op_eqA hr) (pe_me0 (cs_Round_length_0 T) hr (by decide) hg pass0 (pv 3) pk_nil) (pe_ix ix_seq (pv 0) pe_int (fun _ _ => rfl)) (nobehind _ (by decide) (by decide))) (pe_one (pe_cmpR (op_ownEq (cs_Round_eq_1 T) hr (by decide) hg pass0) (pe_ca (cs_read_round_1 T) hr (by decide) hg rfl pass0 (pa_cons (pe_callTy (cl_strOwn (cs_Round_str_0 T) hr (by decide) hg pass0) (by rfl) T.z_str (by decide +kernel) (pa_cons (pv 1) pa_nil)) pa_nil) pk_nil) (pv 1) (nobehind _ (by decide) (by decide)))))))))))), rd_law_round_right (roundC T) T.od_Round vs H Q E h⟩
theorem cs_law_round_right_1 (T : Txt K w mg) : CallOk P w K mg base CX0 7 "_law_round_right" 1 [] (sp_law_round_right K) (fun vs zs => pick .non [0] (vs ++ zs)) := by
  obtain ⟨fd, F, G⟩ := ok_law_round_right (P := P) (w := w) (base := base) T
  obtain ⟨g, kb⟩ := kb0 (ps := ["plain"]) F 1 [] [0] fun kV doc pm an cdv ct us ws h1 h2 => match us, ws, h1, h2 with | [_], [], _, _ => rfl
  exact ⟨⟨fd, _, g, G, kb⟩, T.g_law_round_right, F.kp⟩
theorem sc_law_job_right : FnScope ["plain", "made", "told", "found", "anew"] ["plain"] (defScope (topS 60)) := ⟨rfl, rfl, rfl, by decide +kernel, rfl, by decide +kernel, by decide +kernel⟩
theorem ok_law_job_right (T : Txt K w mg) : ∃ fd, FnP K "_law_job_right" "_law_job_right" (topS 60) [] (He.ga K "_law_job_right") fd ∧ FnG P w K mg base CX0 8 (He.ga K "_law_job_right") fd ["plain"] (sp_law_job_right K) := by
  obtain ⟨fd, F⟩ := T.d_law_job_right
  refine ⟨fd, F, fnG_of (sp := sp_law_job_right K) F sc_law_job_right (fun vs H Q E h => h.1) fun cdv A outer s H vs Q E hr hg h => ?_⟩
  have hu := hu_of hr
  have nd := sc_law_job_right.nd
  exact ⟨t_law_job_right K, PSs.nox ((pss_cons (ps_par rfl nd (i := 1) (j := 2) rfl rfl (by decide) rfl rfl (pa_cons (pe_ca (cs_law_job_1 T) hr (by decide) hg rfl pass0 (pa_cons (pv 0) pa_nil) pk_nil) (pa_cons (pe_ca (cs_law_job_text_1 T) hr (by decide) hg rfl pass0 (pa_cons (pv 0) pa_nil) pk_nil) pa_nil)) (by rfl))
    (pss_cons (ps_set (i := 3) nd rfl (Or.inl rfl) (pe_ca0 (cs_read_job_0_text_style T) hr (by decide) hg rfl pass0 (pk_cons (pv 2) (pk_cons (pe_ca (cs_law_style_1 T) hr (by decide) hg rfl pass0 (pa_cons (pe_ix ix_seq (pv 0) pe_int (fun _ _ => rfl)) pa_nil) pk_nil) pk_nil))))
    (pss_cons (ps_if (PW.pt (pw_or (pt_cmpR (op_neA hr) (pe_callTy (cl_strOwn (cs_Job_str_0 T) hr (by decide) hg pass0) (by rfl) T.z_str (by decide +kernel) (pa_cons (pv 1) pa_nil)) (pv 2) (nobehind _ (by decide) (by decide))) (pw_or (pt_not (pt_tr (pe_callB call_isi (by rfl) T.z_isinstance (by decide +kernel) (pa_cons (pv 3) (pa_cons (pe_gR T.g_Job) pa_nil))))) (pw_or (pt_cmpR (op_ownNe (cs_Job_eq_1 T) T.od_Job.own hr (by decide) hg pass0) (pv 3) (pv 1) (nobehind _ (by decide) (by decide))) (pw_or1 (pt_cmpR (op_neA hr) (pe_callTy (cl_strOwn (cs_Job_str_0 T) hr (by decide) hg pass0) (by rfl) T.z_str (by decide +kernel) (pa_cons (pv 3) pa_nil)) (pv 2) (nobehind _ (by decide) (by decide)))))))) (pss_one (ps_ret pe_bl)) pss_nil)
    (pss_cons (ps_set (i := 4) nd rfl (Or.inl rfl) (pe_ca (cs_read_job_2 T) hr (by decide) hg rfl pass0 (pa_cons (pe_me0 (cs_Job_of_style_0 T) hr (by decide) hg pass0 (pv 1) pk_nil) (pa_cons (pe_callTy (cl_strOwn (cs_Job_str_0 T) hr (by decide) hg pass0) (by rfl) T.z_str (by decide +kernel) (pa_cons (pv 1) pa_nil)) pa_nil)) pk_nil))
    (pss_one (ps_ret (pe_and (pe_cmpR (op_eqA hr) (pe_me0 (cs_Job_rank_0 T) hr (by decide) hg pass0 (pv 3) pk_nil) (pe_me0 (cs_Job_rank_0 T) hr (by decide) hg pass0 (pv 1) pk_nil) (nobehind _ (by decide) (by decide))) (pe_one (pe_cmpR (op_eqA hr) (pe_callB (call_repr hr hg) (by rfl) T.z_repr (by decide +kernel) (pa_cons (pe_me0 (cs_Job_in_haste_0 T) hr (by decide) hg pass0 (pv 4) pk_nil) pa_nil)) (pe_callB (call_repr hr hg) (by rfl) T.z_repr (by decide +kernel) (pa_cons (pe_ix ix_seq (pv 0) pe_int (fun _ _ => rfl)) pa_nil)) (nobehind _ (by decide) (by decide)))))))))))), rd_law_job_right (jobC T) T.od_Job vs H Q E h⟩
theorem cs_law_job_right_1 (T : Txt K w mg) : CallOk P w K mg base CX0 8 "_law_job_right" 1 [] (sp_law_job_right K) (fun vs zs => pick .non [0] (vs ++ zs)) := by
  obtain ⟨fd, F, G⟩ := ok_law_job_right (P := P) (w := w) (base := base) T
  obtain ⟨g, kb⟩ := kb0 (ps := ["plain"]) F 1 [] [0] fun kV doc pm an cdv ct us ws h1 h2 => match us, ws, h1, h2 with | [_], [], _, _ => rfl
  exact ⟨⟨fd, _, g, G, kb⟩, T.g_law_job_right, F.kp⟩
theorem sc_law : FnScope ["script", "m", "bout", "w", "styles", "great", "small", "plain"] ["script"] (defScope (topS 62)) := ⟨rfl, rfl, rfl, by decide +kernel, rfl, by decide +kernel, by decide +kernel⟩
theorem ok_law (T : Txt K w mg) : ∃ fd, FnP K "law" "law" (topS 62) [] (He.ga K "law") fd ∧ FnG P w K mg base CX0 9 (He.ga K "law") fd ["script"] (sp_law K) := by
  obtain ⟨fd, F⟩ := T.d_law
  refine ⟨fd, F, fnG_of (sp := sp_law K) F sc_law (fun vs H Q E h => h.1) fun cdv A outer s H vs Q E hr hg h => ?_⟩
  have hu := hu_of hr
  have nd := sc_law.nd
  exact ⟨t_law K, PSs.nox ((pss_cons (ps_set (i := 1) nd rfl (Or.inl rfl) (pe_ca (cs_law_begun_1 T) hr (by decide) hg rfl pass0 (pa_cons (pv 0) pa_nil) pk_nil))
    (pss_cons (ps_for PassesOwn.never rfl (pi_range1 (by rfl) T.z_range (pa_cons pe_int pa_nil)) (pg_name (i := 2) nd rfl (Or.inl rfl))
    (pss_cons (ps_set (i := 3) nd rfl (Or.inl rfl) (pe_ca (cs_law_called_2 T) hr (by decide) hg rfl pass0 (pa_cons (pv 1) (pa_cons pe_int pa_nil)) pk_nil))
    (pss_cons (ps_set (i := 4) nd rfl (Or.inl rfl) (pe_ca (cs_law_styles_3 T) hr (by decide) hg rfl pass0 (pa_cons (pv 1) (pa_cons (pv 3) (pa_cons pe_int pa_nil))) pk_nil))
    (pss_cons (ps_if (pt_not (pt_tr (pe_callB (cr_all rfl) (by rfl) T.z_all (by decide +kernel) (pa_cons (pe_lc (own := [("plain", 7)]) rfl nd (pi_any (pv 4)) (blkOk_by (by first | decide +kernel | kernel_rfl)) (fun _ _ _ _ _ => (pg_name (i := 7) nd rfl (Or.inl rfl))) (fun _ _ _ _ _ => pts_nil) (fun _ _ _ _ _ => (pe_ca (cs_law_style_right_1 T) hr (by decide) hg rfl pass0 (pa_cons (pv 7) pa_nil) pk_nil))) pa_nil)))) (pss_one (ps_ret pe_bl)) pss_nil)
    (pss_cons (ps_if (pt_not (pt_tr (pe_callB (cr_all rfl) (by rfl) T.z_all (by decide +kernel) (pa_cons (pe_lc (own := [("plain", 7)]) rfl nd (pi_any (pe_ca (cs_law_plain_jobs_3 T) hr (by decide) hg rfl pass0 (pa_cons (pv 1) (pa_cons (pv 4) (pa_cons pe_int pa_nil))) pk_nil)) (blkOk_by (by first | decide +kernel | kernel_rfl)) (fun _ _ _ _ _ => (pg_name (i := 7) nd rfl (Or.inl rfl))) (fun _ _ _ _ _ => pts_nil) (fun _ _ _ _ _ => (pe_ca (cs_law_job_right_1 T) hr (by decide) hg rfl pass0 (pa_cons (pv 7) pa_nil) pk_nil))) pa_nil)))) (pss_one (ps_ret pe_bl)) pss_nil)
    (pss_one (ps_if (pt_not (pt_tr (pe_ca (cs_law_round_right_1 T) hr (by decide) hg rfl pass0 (pa_cons (pe_ca (cs_law_plain_round_3 T) hr (by decide) hg rfl pass0 (pa_cons (pv 1) (pa_cons (pv 3) (pa_cons pe_int pa_nil))) pk_nil) pa_nil) pk_nil))) (pss_one (ps_ret pe_bl)) pss_nil)))))))
    (pss_cons (ps_set (i := 5) nd rfl (Or.inl rfl) (pe_tup (pa_cons pe_str (pa_cons (pe_op op_mulA (pe_lst (pa_cons (pe_tup (pa_cons pe_str (pa_cons pe_int (pa_cons pe_int pa_nil)))) pa_nil)) pe_int) pa_nil))))
    (pss_cons (ps_set (i := 6) nd rfl (Or.inl rfl) (pe_tup (pa_cons pe_str (pa_cons (pe_lst (pa_cons (pe_tup (pa_cons pe_str (pa_cons pe_int (pa_cons pe_int pa_nil)))) pa_nil)) pa_nil))))
    (pss_cons (ps_if (PW.pt (pw_or (pt_not (pt_tr (pe_ca (cs_law_style_right_1 T) hr (by decide) hg rfl pass0 (pa_cons (pv 5) pa_nil) pk_nil))) (pw_or (pt_not (pt_tr (pe_ca (cs_law_style_right_1 T) hr (by decide) hg rfl pass0 (pa_cons (pv 6) pa_nil) pk_nil))) (pw_or1 (pt_not (pt_tr (pe_ca (cs_law_round_right_1 T) hr (by decide) hg rfl pass0 (pa_cons (pe_tup (pa_cons pe_int (pa_cons (pe_lst pa_nil) pa_nil))) pa_nil) pk_nil))))))) (pss_one (ps_ret pe_bl)) pss_nil)
    (pss_cons (ps_if (pt_not (pt_tr (pe_ca (cs_law_round_right_1 T) hr (by decide) hg rfl pass0 (pa_cons (pe_tup (pa_cons pe_int (pa_cons (pe_op op_addA (pe_op op_mulA (pe_lst (pa_cons (pe_tup (pa_cons pe_int (pa_cons pe_str (pa_cons pe_int pa_nil)))) pa_nil)) pe_int) (pe_op op_mulA (pe_lst (pa_cons (pe_tup (pa_cons pe_int (pa_cons pe_str (pa_cons pe_int pa_nil)))) pa_nil)) pe_int)) pa_nil))) pa_nil) pk_nil))) (pss_one (ps_ret pe_bl)) pss_nil)
    (pss_cons (ps_if (pt_not (pt_tr (pe_ca (cs_law_job_right_1 T) hr (by decide) hg rfl pass0 (pa_cons (pe_tup (pa_cons pe_int (pa_cons (pv 5) (pa_cons (pe_op op_pow pe_int pe_int) (pa_cons (pe_op op_pow pe_int pe_int) (pa_cons pe_bl pa_nil)))))) pa_nil) pk_nil))) (pss_one (ps_ret pe_bl)) pss_nil)
    (pss_one (ps_ret (pe_and (pe_ca (cs_law_job_right_1 T) hr (by decide) hg rfl pass0 (pa_cons (pe_tup (pa_cons pe_int (pa_cons (pv 6) (pa_cons pe_int (pa_cons pe_int (pa_cons pe_bl pa_nil)))))) pa_nil) pk_nil) (pe_one (pe_ca (cs_law_job_right_1 T) hr (by decide) hg rfl pass0 (pa_cons (pe_tup (pa_cons pe_int (pa_cons (pv 6) (pa_cons pe_int (pa_cons (pe_op op_pow pe_int pe_int) (pa_cons pe_bl pa_nil)))))) pa_nil) pk_nil))))))))))))), rd_law vs H Q E h⟩
end
/-! ### the head -/
theorem txt_of {w : World} {K : PySem.W.Frag} {h : Heap} {mg : Str → Option Value} (X : K.In h) (G : h.Ns mainGlobals mg) (c : SaysB faL fnL tsL bsL w K) : Txt K w mg where
  c_MOST_LETTERS := He.int_ok X G (c.d.fact 0 (f := .int "MOST_LETTERS" 8) rfl)
  c_MOST_FIGURES := He.int_ok X G (c.d.fact 1 (f := .int "MOST_FIGURES" 7) rfl)
  c_MOST_NUMBER := He.int_ok X G (c.d.fact 2 (f := .int "MOST_NUMBER" 99999) rfl)
  c_MOST_HOUR := He.int_ok X G (c.d.fact 3 (f := .int "MOST_HOUR" 1000000) rfl)
  c_MOST_HOURS := He.int_ok X G (c.d.fact 4 (f := .int "MOST_HOURS" 240) rfl)
  c_MOST_LENGTH := He.int_ok X G (c.d.fact 5 (f := .int "MOST_LENGTH" 1000) rfl)
  c_MOST_CALLS := He.int_ok X G (c.d.fact 6 (f := .int "MOST_CALLS" 12) rfl)
  c_MOST_STEPS := He.int_ok X G (c.d.fact 7 (f := .int "MOST_STEPS" 12) rfl)
  c_LETTERS := He.str_ok X G (c.d.fact 8 (f := .str "LETTERS" "abcdefghijklmnopqrstuvwxyz") rfl)
  c_FIGURES := He.str_ok X G (c.d.fact 9 (f := .str "FIGURES" "0123456789") rfl)
  g_BARRED_WORDS := He.glo_ok X G (c.d.fact 10 (f := .glo "BARRED_WORDS") rfl)
  g_KINDS := He.glo_ok X G (c.d.fact 11 (f := .glo "KINDS") rfl)
  z_all := He.free_ok X G (c.d.fact 12 (f := .free "all") rfl)
  z_bool := He.free_ok X G (c.d.fact 13 (f := .free "bool") rfl)
  z_enumerate := He.free_ok X G (c.d.fact 14 (f := .free "enumerate") rfl)
  z_int := He.free_ok X G (c.d.fact 15 (f := .free "int") rfl)
  z_isinstance := He.free_ok X G (c.d.fact 16 (f := .free "isinstance") rfl)
  z_len := He.free_ok X G (c.d.fact 17 (f := .free "len") rfl)
  z_list := He.free_ok X G (c.d.fact 18 (f := .free "list") rfl)
  z_max := He.free_ok X G (c.d.fact 19 (f := .free "max") rfl)
  z_min := He.free_ok X G (c.d.fact 20 (f := .free "min") rfl)
  z_range := He.free_ok X G (c.d.fact 21 (f := .free "range") rfl)
  z_repr := He.free_ok X G (c.d.fact 22 (f := .free "repr") rfl)
  z_sorted := He.free_ok X G (c.d.fact 23 (f := .free "sorted") rfl)
  z_str := He.free_ok X G (c.d.fact 24 (f := .free "str") rfl)
  z_sum := He.free_ok X G (c.d.fact 25 (f := .free "sum") rfl)
  z_tuple := He.free_ok X G (c.d.fact 26 (f := .free "tuple") rfl)
  z_zip := He.free_ok X G (c.d.fact 27 (f := .free "zip") rfl)
  g_Round := He.glo_ok X G (c.d.fact 28 (f := .glo "Round") rfl)
  cl_Round := He.cls_ok (c.d.fact 29 (f := .cls "Round") rfl)
  mk_Round := He.mkr_ok (c.d.fact 30 (f := .mkr "Round") rfl)
  n_Round_begun := He.noat_ok (c.d.fact 31 (f := .noat "Round" "begun") rfl)
  n_Round_call_rows := He.noat_ok (c.d.fact 32 (f := .noat "Round" "call_rows") rfl)
  n_Round_hours_long := He.noat_ok (c.d.fact 33 (f := .noat "Round" "hours_long") rfl)
  g_Style := He.glo_ok X G (c.d.fact 34 (f := .glo "Style") rfl)
  cl_Style := He.cls_ok (c.d.fact 35 (f := .cls "Style") rfl)
  mk_Style := He.mkr_ok (c.d.fact 36 (f := .mkr "Style") rfl)
  n_Style_called := He.noat_ok (c.d.fact 37 (f := .noat "Style" "called") rfl)
  n_Style_step_rows := He.noat_ok (c.d.fact 38 (f := .noat "Style" "step_rows") rfl)
  g_Job := He.glo_ok X G (c.d.fact 39 (f := .glo "Job") rfl)
  cl_Job := He.cls_ok (c.d.fact 40 (f := .cls "Job") rfl)
  mk_Job := He.mkr_ok (c.d.fact 41 (f := .mkr "Job") rfl)
  n_Job_came := He.noat_ok (c.d.fact 42 (f := .noat "Job" "came") rfl)
  n_Job_has_number := He.noat_ok (c.d.fact 43 (f := .noat "Job" "has_number") rfl)
  n_Job_has_style := He.noat_ok (c.d.fact 44 (f := .noat "Job" "has_style") rfl)
  n_Job_hasty := He.noat_ok (c.d.fact 45 (f := .noat "Job" "hasty") rfl)
  n_Job_wanted := He.noat_ok (c.d.fact 46 (f := .noat "Job" "wanted") rfl)
  g_Line := He.glo_ok X G (c.d.fact 47 (f := .glo "Line") rfl)
  cl_Line := He.cls_ok (c.d.fact 48 (f := .cls "Line") rfl)
  mk_Line := He.mkr_ok (c.d.fact 49 (f := .mkr "Line") rfl)
  n_Line_left_words := He.noat_ok (c.d.fact 50 (f := .noat "Line" "left_words") rfl)
  n_Line_on_row := He.noat_ok (c.d.fact 51 (f := .noat "Line" "on_row") rfl)
  n_Line_taken := He.noat_ok (c.d.fact 52 (f := .noat "Line" "taken") rfl)
  g_is_whole := He.glo_ok X G (c.d.fact 53 (f := .glo "is_whole") rfl)
  g_is_name := He.glo_ok X G (c.d.fact 54 (f := .glo "is_name") rfl)
  g_kind_of := He.glo_ok X G (c.d.fact 55 (f := .glo "kind_of") rfl)
  g_is_step := He.glo_ok X G (c.d.fact 56 (f := .glo "is_step") rfl)
  g_number_of := He.glo_ok X G (c.d.fact 57 (f := .glo "number_of") rfl)
  g_words_of := He.glo_ok X G (c.d.fact 58 (f := .glo "words_of") rfl)
  g_is_call := He.glo_ok X G (c.d.fact 59 (f := .glo "is_call") rfl)
  g_are_calls := He.glo_ok X G (c.d.fact 60 (f := .glo "are_calls") rfl)
  m_Round_length := He.meth_ok (c.d.fact 61 (f := .meth "Round" "length") rfl)
  m_Round_calls := He.meth_ok (c.d.fact 62 (f := .meth "Round" "calls") rfl)
  m_Round_eq := He.meth_ok (c.d.fact 63 (f := .meth "Round" "__eq__") rfl)
  m_Round_str := He.meth_ok (c.d.fact 64 (f := .meth "Round" "__str__") rfl)
  g_are_steps := He.glo_ok X G (c.d.fact 65 (f := .glo "are_steps") rfl)
  m_Style_named := He.meth_ok (c.d.fact 66 (f := .meth "Style" "named") rfl)
  m_Style_steps := He.meth_ok (c.d.fact 67 (f := .meth "Style" "steps") rfl)
  m_Style_span := He.meth_ok (c.d.fact 68 (f := .meth "Style" "span") rfl)
  m_Style_eq := He.meth_ok (c.d.fact 69 (f := .meth "Style" "__eq__") rfl)
  m_Style_str := He.meth_ok (c.d.fact 70 (f := .meth "Style" "__str__") rfl)
  m_Job_of_style := He.meth_ok (c.d.fact 71 (f := .meth "Job" "of_style") rfl)
  m_Job_in_haste := He.meth_ok (c.d.fact 72 (f := .meth "Job" "in_haste") rfl)
  m_Job_rank := He.meth_ok (c.d.fact 73 (f := .meth "Job" "rank") rfl)
  m_Job_eq := He.meth_ok (c.d.fact 74 (f := .meth "Job" "__eq__") rfl)
  m_Job_str := He.meth_ok (c.d.fact 75 (f := .meth "Job" "__str__") rfl)
  m_Line_ahead := He.meth_ok (c.d.fact 76 (f := .meth "Line" "ahead") rfl)
  m_Line_take := He.meth_ok (c.d.fact 77 (f := .meth "Line" "take") rfl)
  m_Line_take_word := He.meth_ok (c.d.fact 78 (f := .meth "Line" "take_word") rfl)
  m_Line_take_name := He.meth_ok (c.d.fact 79 (f := .meth "Line" "take_name") rfl)
  m_Line_take_number := He.meth_ok (c.d.fact 80 (f := .meth "Line" "take_number") rfl)
  m_Line_over := He.meth_ok (c.d.fact 81 (f := .meth "Line" "over") rfl)
  g_rows_of := He.glo_ok X G (c.d.fact 82 (f := .glo "rows_of") rfl)
  g_read_style := He.glo_ok X G (c.d.fact 83 (f := .glo "read_style") rfl)
  g_read_job := He.glo_ok X G (c.d.fact 84 (f := .glo "read_job") rfl)
  g_read_round := He.glo_ok X G (c.d.fact 85 (f := .glo "read_round") rfl)
  g_law_mixed := He.glo_ok X G (c.d.fact 86 (f := .glo "_law_mixed") rfl)
  g_law_folded := He.glo_ok X G (c.d.fact 87 (f := .glo "_law_folded") rfl)
  g_law_draw := He.glo_ok X G (c.d.fact 88 (f := .glo "_law_draw") rfl)
  g_law_begun := He.glo_ok X G (c.d.fact 89 (f := .glo "_law_begun") rfl)
  g_law_called := He.glo_ok X G (c.d.fact 90 (f := .glo "_law_called") rfl)
  g_law_step := He.glo_ok X G (c.d.fact 91 (f := .glo "_law_step") rfl)
  g_law_steps := He.glo_ok X G (c.d.fact 92 (f := .glo "_law_steps") rfl)
  g_law_styles := He.glo_ok X G (c.d.fact 93 (f := .glo "_law_styles") rfl)
  g_law_numbers := He.glo_ok X G (c.d.fact 94 (f := .glo "_law_numbers") rfl)
  g_law_plain_job := He.glo_ok X G (c.d.fact 95 (f := .glo "_law_plain_job") rfl)
  g_law_plain_jobs := He.glo_ok X G (c.d.fact 96 (f := .glo "_law_plain_jobs") rfl)
  g_law_style := He.glo_ok X G (c.d.fact 97 (f := .glo "_law_style") rfl)
  g_law_job := He.glo_ok X G (c.d.fact 98 (f := .glo "_law_job") rfl)
  g_law_plain_round := He.glo_ok X G (c.d.fact 99 (f := .glo "_law_plain_round") rfl)
  g_law_round := He.glo_ok X G (c.d.fact 100 (f := .glo "_law_round") rfl)
  g_law_style_rows := He.glo_ok X G (c.d.fact 101 (f := .glo "_law_style_rows") rfl)
  g_law_job_text := He.glo_ok X G (c.d.fact 102 (f := .glo "_law_job_text") rfl)
  g_law_round_rows := He.glo_ok X G (c.d.fact 103 (f := .glo "_law_round_rows") rfl)
  g_law_style_right := He.glo_ok X G (c.d.fact 104 (f := .glo "_law_style_right") rfl)
  g_law_job_right := He.glo_ok X G (c.d.fact 105 (f := .glo "_law_job_right") rfl)
  g_law_round_right := He.glo_ok X G (c.d.fact 106 (f := .glo "_law_round_right") rfl)
  g_law := He.glo_ok X G (c.d.fact 107 (f := .glo "law") rfl)
  k_BARRED_WORDS := fun H => He.tupB_ok (c.ask 0 rfl) H
  k_KINDS := ⟨by
    obtain ⟨es, n, D⟩ := c.t.tab 0 rfl
    exact ⟨es, n, D, fun q hq => He.valsB_ok (c.ask 1 rfl) (q := (q.1, He.Dv.str q.2)) (List.mem_map_of_mem (f := fun q : Str × Str => (q.1, He.Dv.str q.2)) hq)⟩⟩
  od_Round := ownB_ok (c.ask 2 rfl)
  od_Style := ownB_ok (c.ask 3 rfl)
  od_Job := ownB_ok (c.ask 4 rfl)
  d_is_whole := c.d.def_ 0 (d := dd_is_whole) rfl
  d_is_name := c.d.def_ 1 (d := dd_is_name) rfl
  d_kind_of := c.d.def_ 2 (d := dd_kind_of) rfl
  d_is_step := c.d.def_ 3 (d := dd_is_step) rfl
  d_number_of := c.d.def_ 4 (d := dd_number_of) rfl
  d_words_of := c.d.def_ 5 (d := dd_words_of) rfl
  d_is_call := c.d.def_ 6 (d := dd_is_call) rfl
  d_are_calls := c.d.def_ 7 (d := dd_are_calls) rfl
  d_Round_init := c.d.def_ 8 (d := dd_Round_init) rfl
  d_Round_length := c.d.def_ 9 (d := dd_Round_length) rfl
  d_Round_calls := c.d.def_ 10 (d := dd_Round_calls) rfl
  d_Round_eq := c.d.def_ 11 (d := dd_Round_eq) rfl
  d_Round_str := c.d.def_ 12 (d := dd_Round_str) rfl
  d_are_steps := c.d.def_ 13 (d := dd_are_steps) rfl
  d_Style_init := c.d.def_ 14 (d := dd_Style_init) rfl
  d_Style_named := c.d.def_ 15 (d := dd_Style_named) rfl
  d_Style_steps := c.d.def_ 16 (d := dd_Style_steps) rfl
  d_Style_span := c.d.def_ 17 (d := dd_Style_span) rfl
  d_Style_eq := c.d.def_ 18 (d := dd_Style_eq) rfl
  d_Style_str := c.d.def_ 19 (d := dd_Style_str) rfl
  d_Job_init := c.d.def_ 20 (d := dd_Job_init) rfl
  d_Job_of_style := c.d.def_ 21 (d := dd_Job_of_style) rfl
  d_Job_in_haste := c.d.def_ 22 (d := dd_Job_in_haste) rfl
  d_Job_rank := c.d.def_ 23 (d := dd_Job_rank) rfl
  d_Job_eq := c.d.def_ 24 (d := dd_Job_eq) rfl
  d_Job_str := c.d.def_ 25 (d := dd_Job_str) rfl
  d_Line_init := c.d.def_ 26 (d := dd_Line_init) rfl
  d_Line_ahead := c.d.def_ 27 (d := dd_Line_ahead) rfl
  d_Line_take := c.d.def_ 28 (d := dd_Line_take) rfl
  d_Line_take_word := c.d.def_ 29 (d := dd_Line_take_word) rfl
  d_Line_take_name := c.d.def_ 30 (d := dd_Line_take_name) rfl
  d_Line_take_number := c.d.def_ 31 (d := dd_Line_take_number) rfl
  d_Line_over := c.d.def_ 32 (d := dd_Line_over) rfl
  d_rows_of := c.d.def_ 33 (d := dd_rows_of) rfl
  d_read_style := c.d.def_ 34 (d := dd_read_style) rfl
  d_read_job := c.d.def_ 35 (d := dd_read_job) rfl
  d_read_round := c.d.def_ 36 (d := dd_read_round) rfl
  d_law_mixed := c.d.def_ 37 (d := dd_law_mixed) rfl
  d_law_folded := c.d.def_ 38 (d := dd_law_folded) rfl
  d_law_draw := c.d.def_ 39 (d := dd_law_draw) rfl
  d_law_begun := c.d.def_ 40 (d := dd_law_begun) rfl
  d_law_called := c.d.def_ 41 (d := dd_law_called) rfl
  d_law_step := c.d.def_ 42 (d := dd_law_step) rfl
  d_law_steps := c.d.def_ 43 (d := dd_law_steps) rfl
  d_law_styles := c.d.def_ 44 (d := dd_law_styles) rfl
  d_law_numbers := c.d.def_ 45 (d := dd_law_numbers) rfl
  d_law_plain_job := c.d.def_ 46 (d := dd_law_plain_job) rfl
  d_law_plain_jobs := c.d.def_ 47 (d := dd_law_plain_jobs) rfl
  d_law_style := c.d.def_ 48 (d := dd_law_style) rfl
  d_law_job := c.d.def_ 49 (d := dd_law_job) rfl
  d_law_plain_round := c.d.def_ 50 (d := dd_law_plain_round) rfl
  d_law_round := c.d.def_ 51 (d := dd_law_round) rfl
  d_law_style_rows := c.d.def_ 52 (d := dd_law_style_rows) rfl
  d_law_job_text := c.d.def_ 53 (d := dd_law_job_text) rfl
  d_law_round_rows := c.d.def_ 54 (d := dd_law_round_rows) rfl
  d_law_style_right := c.d.def_ 55 (d := dd_law_style_right) rfl
  d_law_job_right := c.d.def_ 56 (d := dd_law_job_right) rfl
  d_law_round_right := c.d.def_ 57 (d := dd_law_round_right) rfl
  d_law := c.d.def_ 58 (d := dd_law) rfl
end Bz
open PySem PySem.W PySem.Calls PyProof.Rows
theorem PySem.Challenge.cw_bindbench_k40_told_and_read_holds : PySem.Challenge.rw_bindbench_k40_told_and_read.Holds := by
  w_on; o_law
  refine HandSHeadRun.head_any (r := Bz.RR) (q := view Bz.RR.prog [62]) (H := Bz.hkL) (ob := Bz.obL) (M := 8000) (loose := Bz.looseL) (d := HandSHeadRun.topDef Bz.RR.prog 62) (kwd := []) Bz.obL_eq
    (by kernel_rfl) (fun s => by kernel_rfl) Bz.runL (by kernel_rfl) (by kernel_rfl) (by kernel_rfl) (by rfl) (by first | assumption | decide +kernel) (by decide +kernel) ⟨rfl, rfl, rfl, rfl, rfl, by decide +kernel⟩ ?hw ?hc
  case hw => w_witness2
  case hc =>
    refine Bz.walk_ofG (l := PySem.Challenge.rw_bindbench_k40_told_and_read) (n := 63) (k := 9) (x := "script") (CX := L2.CX0) rfl (by decide) (by kernel_rfl) ⟨rfl, by decide, by decide⟩ ?F (fun _ _ _ _ z => z)
    intro w mg fa h Y G hmg0
    obtain ⟨K, KX, c⟩ := Y
    have T := Bz.txt_of KX G c
    have hmg : mg ("law" : PySem.Str) = some (.ref fa) := by
      have e : (HandSHeadRun.topDef Bz.RR.prog 62).name = ("law" : PySem.Str) := by kernel_rfl
      rw [← e]
      exact hmg0
    have e := hmg.symm.trans T.g_law
    cases e
    obtain ⟨fd0, F0⟩ := T.d_law
    refine ⟨K, fd0, Bz.sp_law K, KX, fun s u => L2.FunD.bindsA (ps := ["script"]) F0 (fun _ _ _ _ _ _ us hl => match us, hl with | [_], _ => rfl) s [u] rfl, Bz.law_asked, fun base _ _ => ?_⟩
    obtain ⟨fd, F, g⟩ := Bz.ok_law (P := (PySem.Challenge.rw_bindbench_k40_told_and_read).prog) (w := w) (base := base) T
    obtain ⟨_, _, _, _, _, _, _, _, _, _, e1, l1, _⟩ := F0.ex
    obtain ⟨_, _, _, _, _, _, _, _, _, _, e2, l2, _⟩ := F.ex
    have e3 := l1.symm.trans l2
    cases e3
    exact g
