import PyProof.Rows.All
import HandS.ForMost
import HandS.Defaults
import HandS.IsInst
import HandS.StrMore
import HandS.Wide
import HandS.WideBits
import HandS.HeadHook3
import HandS.HeadEnd
import HandS.Head2
import PyProof.ReprNest
import HandS.Walk
import HandS.TupMul
import HandS.Text
import KE.IntTextLaws
import PyProof.ReprLen
import HandS.Ends
import PySem.Challenge.RW_bindbench_k01_words
set_option Elab.async false
set_option linter.all false
set_option maxRecDepth 100000
set_option maxHeartbeats 4000000
namespace Bz
open PySem PySem.Spec PyProof.Rows L2
/-! a def's contract where no repr is under way -/
structure FnG (P : Program) (w : World) (K : PySem.W.Frag) (mg : Str → Option Value) (base : Heap) (CX : CXT)
    (k : Nat) (f : Addr) (fd : FuncData) (ps : List Str) (sp : Sp) : Prop where
  len : ∀ vs H Q E, sp vs H Q E → vs.length = ps.length
  go : ∀ (A : Around) (outer : List Env) (s : Shared) (H : Hp) (args : Args) (us : List Value) (vs : List V) (Q : VK) (E : XK),
    Room k A → A.guards = some [] → Env0 P w K mg base A outer s H → BindsTo s fd args (ps.zip us) → Vals vs us →
    sp vs H Q E → codeAny (model P w) A (.call (.ref f) args) (CR CX outer P w H s Q E) s
section
variable {P : Program} {w : World} {K : PySem.W.Frag} {mg : Str → Option Value} {base : Heap} {CX : CXT}
variable {k : Nat} {f : Addr} {fd : FuncData} {ps : List Str} {sp : Sp}
theorem FnG.of (F : FnOk P w K mg base CX k f fd ps sp) : FnG P w K mg base CX k f fd ps sp :=
  ⟨F.len, fun A o s H a us vs Q E r _ e b v q => F.run A o s H a us vs Q E r e b v q⟩
theorem FnG.mono {j : Nat} (F : FnG P w K mg base CX j f fd ps sp) (h : j ≤ k) : FnG P w K mg base CX k f fd ps sp :=
  ⟨F.len, fun A o s H a us vs Q E r g e b v q => F.go A o s H a us vs Q E (r.mono h) g e b v q⟩
theorem guards_deeper {A : Around} {env : Env} (h : A.guards = some []) : (A.deeper env).guards = some [] := h
theorem guards_make {A : Around} {a : Args} (h : A.guards = some []) : (A.under (.builtin "type.__call__" a)).guards = some [] := by
  have e : (Code.builtin "type.__call__" a).isGuard = false := by
    show guardIds.contains "type.__call__" = false
    decide +kernel
  simp [Around.under, Code.guards, e, h, pushGuards]
/-- a def by its body -/
theorem fnG_of {N : List Str} {x qual : Str} {params : Arguments} {body : List Stmt} {scope : Scope} {dvs : List V} {kws : List (Str × V)}
    (F : FunD K x qual params body scope dvs kws f fd) (S : FnScope N ps scope) (len : ∀ vs H Q E, sp vs H Q E → vs.length = ps.length)
    (hb : ∀ (cdv : Value) (A : Around) (outer : List Env) (s : Shared) (H : Hp) (vs : List V) (Q : VK) (E : XK),
      Room k (A.deeper (envOfC qual scope s.heap.objs.size f cdv)) → (A.deeper (envOfC qual scope s.heap.objs.size f cdv)).guards = some [] → sp vs H Q E →
      ∃ t, PSs (cxOf CX P w K mg base N qual scope f cdv A outer s H E) body t ∧ t { nx := fun _ H' => Q .non H', rt := Q } (start N vs) H) :
    FnG P w K mg base CX (k + 1) f fd ps sp := by
  obtain ⟨oc, od, dV, kV, doc, pm, an, cdv, ct, osl, rfl, lk, hcd, _, _⟩ := F.ex
  refine ⟨len, fun A outer s H args us vs Q E hr hg e0 bnd rv hq => ?_⟩
  have KX : K.In s.heap := e0.mod.kin.keeps fun b o e => (e0.bs b o e).1
  refine codeAny_call_function hr.depth (KX _ _ lk) rfl S.co S.gen rfl (PySem.W.codeRec_of KX hcd) (bnd _ _ _ _ ?_)
  refine wpAny_newFunctionEnv_cells S.kind ?_ ?_
  · rintro ⟨n, v⟩ hy
    rcases S.par n (List.of_mem_zip hy).1 with q | q
    · exact Or.inl q
    · exact Or.inr ⟨q, PySem.W.cellsFrom_some _ _ _ (Or.inl q)⟩
  · intro env he s1 x
    subst he
    have lim : s.heap.NoLimit := e0.mod.nolimit.keeps fun b o e => (e0.bs b o e).1
    refine ⟨lim.keeps x.toInCall.keep, codeAny_func ?_⟩
    obtain ⟨t, ht, q⟩ := hb cdv A outer s H vs Q E (hr.deeper _) (guards_deeper hg) hq
    have I := inv_start (CX := CX) (E := E) S hr.hd e0 (len _ _ _ _ hq) rv x
    refine wpAny_mono (ht.run [] s1 (start N vs) H _ I q) ?_ (fun _ _ z => z)
    intro fl s' z
    cases fl with
    | ret u =>
      obtain ⟨v, σ', H', J, r, q'⟩ := z
      exact ⟨v, H', J.os, J.bare, J.base, J.hok, r, q'⟩
    | next =>
      obtain ⟨σ', H', J, q'⟩ := z
      exact ⟨V.non, H', J.os, J.bare, J.base, J.hok, rfl, q'⟩
    | brk => exact z.elim fun _ z => z.elim fun _ z => z.2.elim
    | cont => exact z.elim fun _ z => z.elim fun _ z => z.2.elim
end
section
variable {X : Cx} {CX : CXT} {k : Nat} {f C : Addr} {fd : FuncData} {ps : List Str} {sp : Sp} {dvs : List V} {ds : List Value} {E : XK}
theorem run_g {pins : List (Addr × Obj)} {σ : L2.St} {H : Hp} {s : Shared} {Q : VK} {args : Args} {us : List Value} {vs : List V}
    (F : FnG X.prog X.w X.K X.mg X.base CX k f fd ps sp) (hr : Room k X.A) (hg : X.A.guards = some []) (hx : Passes CX X E)
    (I : Inv X pins σ H s) (b : BindsTo s fd args (ps.zip us)) (r : Vals vs us) (h : sp vs H Q E) :
    wpAny (model X.prog X.w) X.A (call (.ref f) args.pos args.kw) (EP X pins σ Q) X.xe s := by
  refine wpAny_call (codeAny_mono (F.go X.A X.stack s H args us vs Q E hr hg I.env0 b r h) ?_)
  intro r s' z
  cases r with
  | error e => exact hx pins σ H s e s' I z
  | ok fl =>
    cases fl with
    | ret u => exact I.after z
    | next => exact False.elim z
    | brk => exact False.elim z
    | cont => exact False.elim z
end
/-! ### the parts of a list by their places -/
def nth {α : Type} (d : α) : List α → Nat → α
  | [], _ => d
  | a :: _, 0 => a
  | _ :: l, n + 1 => nth d l n
def pick {α : Type} (d : α) : List Nat → List α → List α
  | [], _ => []
  | i :: r, l => nth d l i :: pick d r l
theorem nth_rel : ∀ {l : List V} {u : List Value} (i : Nat), Vals l u → RelV (nth .non l i) (nth .none u i)
  | _, _, _, .nil => rfl
  | _, _, 0, .cons r _ => r
  | _, _, i + 1, .cons _ t => nth_rel i t
theorem pick_rel {l : List V} {u : List Value} (r : Vals l u) : ∀ ix : List Nat, Vals (pick .non ix l) (pick .none ix u)
  | [] => .nil
  | i :: ix => .cons (nth_rel i r) (pick_rel r ix)
section
variable {K : PySem.W.Frag} {x qual : Str} {params : Arguments} {body : List Stmt} {scope : Scope} {dvs : List V} {kws : List (Str × V)} {f : Addr} {fd : FuncData} {ps : List Str}
/-- how a call binds: n places, keywords ks, no defaults -/
theorem kb0 (F : FunD K x qual params body scope [] kws f fd) (n : Nat) (ks : List Str) (ix : List Nat)
    (h : ∀ (kV doc pm : Value) (an : Option Addr) (cdv ct : Value) (us ws : List Value), us.length = n → ws.length = ks.length →
      bindArgs (PySem.W.fnOf x qual params body scope .none kV doc pm an cdv ct) ⟨us, ks.zip ws⟩ = pure (ps.zip (pick .none ix (us ++ ws)))) :
    ∃ g, KBn K fd ps n ks g (fun vs zs => pick .non ix (vs ++ zs)) := by
  obtain ⟨oc, od, dV, kV, doc, pm, an, cdv, ct, osl, rfl, lk, hcd, hD, hK⟩ := F.ex
  rcases hD with ⟨_, rfl⟩ | ⟨e, _⟩
  · exact ⟨fun us ws => pick .none ix (us ++ ws), fun s us ws _ l1 l2 => .of_eq (h kV doc pm an cdv ct us ws l1 l2), fun r1 r2 => pick_rel (r1.append r2) ix⟩
  · exact absurd rfl e
theorem kb1 (F : FunD K x qual params body scope dvs kws f fd) (hd : dvs ≠ []) (n : Nat) (ks : List Str) (ix : List Nat)
    (h : ∀ (T : Addr) (kV doc pm : Value) (an : Option Addr) (cdv ct : Value) (us ws its : List Value), us.length = n → ws.length = ks.length → its.length = dvs.length →
      ∃ k, bindArgs (PySem.W.fnOf x qual params body scope (.ref T) kV doc pm an cdv ct) ⟨us, ks.zip ws⟩ = seqItems? (.ref T) >>= k ∧ k (some its.toArray) = pure (ps.zip (pick .none ix (us ++ (ws ++ its))))) :
    ∃ g, KBn K fd ps n ks g (fun vs zs => pick .non ix (vs ++ (zs ++ dvs))) := by
  obtain ⟨oc, od, dV, kV, doc, pm, an, cdv, ct, osl, rfl, lk, hcd, hD, hK⟩ := F.ex
  rcases hD with ⟨e, _⟩ | ⟨_, T, o, its, m, rfl, lT, oT, rT⟩
  · exact absurd e hd
  · refine ⟨fun us ws => pick .none ix (us ++ (ws ++ its)), fun s us ws X l1 l2 => ?_, fun r1 r2 => pick_rel (r1.append (r2.append rT)) ix⟩
    obtain ⟨k, e1, e2⟩ := h T kV doc pm an cdv ct us ws its l1 l2 rT.length.symm
    refine L2.BindsTo.of_looks fun M => ?_
    rw [e1]
    exact looks_items X lT oT (.of_pure e2)
end
/-! ### calls by names -/
def tCl (n m : Nat) (sp : Sp) (gV : List V → List V → List V) (E : XK) (t tk : TA) : TE :=
  fun σ H Q => t σ H fun vs H1 => tk σ H1 fun zs H2 => vs.length = n ∧ zs.length = m ∧ sp (gV vs zs) H2 Q E
section
variable {X : Cx} {CX : CXT} {k n : Nat} {f C : Addr} {fd : FuncData} {ps ks : List Str} {sp : Sp} {E : XK} {x : Str} {p pos : Pos} {e : Expr} {es : List Expr} {kws : List Keyword} {t tk : TA}
variable {g : List Value → List Value → List Value} {gV : List V → List V → List V}
theorem run_gn {pins : List (Addr × Obj)} {σ : L2.St} {H : Hp} {s : Shared} {Q : VK} {us ws : List Value} {vs zs : List V}
    (F : FnG X.prog X.w X.K X.mg X.base CX k f fd ps sp) (hr : Room k X.A) (hg : X.A.guards = some []) (hb : KBn X.K fd ps n ks g gV) (hx : Passes CX X E)
    (I : Inv X pins σ H s) (r : Vals vs us) (rz : Vals zs ws) (l1 : vs.length = n) (l2 : zs.length = ks.length) (h : sp (gV vs zs) H Q E) :
    wpAny (model X.prog X.w) X.A (call (.ref f) us (ks.zip ws)) (EP X pins σ Q) X.xe s :=
  run_g (args := ⟨us, ks.zip ws⟩) F hr hg hx I (hb.to s us ws I.kIn (r.length.symm.trans l1) (rz.length.symm.trans l2)) (hb.rel r rz) h
/-- f(e, .., k = v, ..) with a place at least -/
theorem pe_cl (F : FnG X.prog X.w X.K X.mg X.base CX k f fd ps sp) (hr : Room k X.A) (hg : X.A.guards = some []) (gl : Gl X x) (hm : X.mg x = some (.ref f))
    (hk : PySem.W.keepIn X.K (.ref f) = true) (hb : KBn X.K fd ps n ks g gV) (hx : Passes CX X E) (ha : PA X (e :: es) t) (hkw : PK X kws tk)
    (h1 : (backToKw pos (keywordEach kws X.env)).all (·.1.isSome) = true := by rfl) (h2 : (backToKw pos (keywordEach kws X.env)).filterMap (·.1) = ks := by rfl)
    (h3 : (x == ("__debug__" : Str)) = false := by decide) (h4 : starEach (e :: es) X.env = (false, eval e X.env) :: starEach es X.env := by rfl)
    (h5 : ((backTo pos (starEach (e :: es) X.env)).any (·.1) || (backToKw pos (keywordEach kws X.env)).any (·.1.isNone)) = false := by rfl) :
    PE X (.Call (.Name x p) (e :: es) kws pos) (tCl n ks.length sp gV E t tk) := ⟨fun pins s σ H Q I h => by
  refine wpAny_Call_Name_kw (ld_glob I gl hm ?_ h3)
  refine PySem.W.callWith_KW (h₀ := X.base) I.ok.mod.kin hk h1 (thn (ha.run pos pins s σ H _ I h) ?_) h5 h4
  rintro us s1 ⟨vs, H1, I1, r, q⟩
  refine thn (hkw.run pos pins s1 σ H1 _ I1 q) ?_
  rintro ws s2 ⟨zs, H2, I2, rz, l1, l2, q2⟩
  refine ⟨I2.kIn, ?_⟩
  rw [h2]
  exact run_gn F hr hg hb hx I2 r rz l1 l2 q2⟩
/-- f(k = v, ..), f() -/
theorem pe_cl0 (F : FnG X.prog X.w X.K X.mg X.base CX k f fd ps sp) (hr : Room k X.A) (hg : X.A.guards = some []) (gl : Gl X x) (hm : X.mg x = some (.ref f))
    (hk : PySem.W.keepIn X.K (.ref f) = true) (hb : KBn X.K fd ps n ks g gV) (hx : Passes CX X E) (hkw : PK X kws tk)
    (h1 : (backToKw pos (keywordEach kws X.env)).all (·.1.isSome) = true := by rfl) (h2 : (backToKw pos (keywordEach kws X.env)).filterMap (·.1) = ks := by rfl)
    (h3 : (x == ("__debug__" : Str)) = false := by decide)
    (h5 : ((backTo pos (starEach [] X.env)).any (·.1) || (backToKw pos (keywordEach kws X.env)).any (·.1.isNone)) = false := by rfl) :
    PE X (.Call (.Name x p) [] kws pos) (tCl n ks.length sp gV E tNil tk) := ⟨fun pins s σ H Q I h => by
  refine wpAny_Call_Name_kw (ld_glob I gl hm ?_ h3)
  refine PySem.W.callWith_KW0 (h₀ := X.base) I.ok.mod.kin hk h1 (thn (hkw.run pos pins s σ H _ I h) ?_) h5
  rintro ws s2 ⟨zs, H2, I2, rz, l1, l2, q2⟩
  refine ⟨I2.kIn, ?_⟩
  rw [h2]
  exact run_gn (us := []) (vs := []) F hr hg hb hx I2 .nil rz l1 l2 q2⟩
end
/-! ### operators, whatever the kinds -/
section
variable {X : Cx}
abbrev rAddI : R2 := rI0 fun i j => .int (i + j)
def rAddS : R2 := fun x y H Q => ∃ i j, x = .str i ∧ y = .str j ∧ i.length + j.length ≤ sizeLine ∧ Q (.str (i ++ j)) H
def rAddA (K : PySem.W.Frag) : R2 := fun x y H Q => rAddI x y H Q ∨ rAddS x y H Q ∨ rCat x y H Q ∨ rCatT K x y H Q
theorem op_addA : OpR X (binaryOp .Add) (rAddA X.K) := OpR.or op_add (OpR.or op_add_str (OpR.or op_cat op_catT))
/-- text * number, the number 0 or more -/
def repS (x : Str) (n : Nat) : Str := ⟨(List.replicate n x.cps.toList).flatten.toArray⟩
theorem repS_fold (a : Array Nat) : ∀ (n : Nat) (acc : Array Nat), (List.replicate n a).foldl (· ++ ·) acc = acc ++ (List.replicate n a.toList).flatten.toArray
  | 0, acc => by simp
  | n + 1, acc => by
    rw [List.replicate_succ, List.foldl_cons, repS_fold a n, List.replicate_succ, List.flatten_cons]
    apply Array.ext'
    simp
def rMulS : R2 := fun x y H Q => ∃ (z : Str) (n : Nat), x = .str z ∧ y = .int n ∧ z.length * n ≤ 16777216 ∧ 1 < n ∧ 0 < z.length ∧ Q (.str (repS z n)) H
theorem op_mulS : OpR X (binaryOp .Mult) rMulS := by
  intro pins s σ H x y v u Q I rx ry h
  obtain ⟨z, n, rfl, rfl, hz, h1, h0, q⟩ := h
  obtain ⟨t, rfl⟩ := rx
  obtain ⟨t', rfl⟩ := ry
  have hn : n ≤ 16777216 := Nat.le_trans (Nat.le_mul_of_pos_left n h0) hz
  have e1 : ((n : Int) == 1 || z.length == 0) = false := by
    have a : ((n : Int) == 1) = false := beq_eq_false_iff_ne.mpr (by omega)
    have b : (z.length == 0) = false := beq_eq_false_iff_ne.mpr (by omega)
    rw [a, b]
    rfl
  have hl : z.length ≤ 16777216 := Nat.le_trans (Nat.le_mul_of_pos_right _ (by omega)) hz
  refine PySem.P.mul_str (by rw [decide_eq_false (by omega), decide_eq_false (by omega)]; rfl) (fun _ _ hc => ?_) (fun _ _ => ?_) ?_
  · have h2 : (2 ^ 63 - 1 : Int) / (n : Int) ≥ (2 ^ 63 - 1) / 16777216 := by
      rw [ge_iff_le, Int.le_ediv_iff_mul_le (by omega)]
      have : ((2 ^ 63 - 1 : Int) / 16777216) * (n : Int) ≤ (2 ^ 63 - 1) / 16777216 * 16777216 := Int.mul_le_mul_of_nonneg_left (by omega) (by decide)
      omega
    have h3 : ((2 ^ 63 - 1 : Int) / 16777216) = 549755813887 := by decide
    omega
  · show decide _ = false
    rw [Int.toNat_natCast]
    refine decide_eq_false ?_
    have e := sizeLine_eq
    omega
  · rw [if_neg (by omega), if_neg (by rw [e1]; exact Bool.false_ne_true), Int.toNat_natCast]
    have e2 : (⟨(List.replicate n z.cps).foldl (· ++ ·) #[]⟩ : Str) = repS z n := by
      unfold repS
      rw [repS_fold]
      simp
    rw [e2]
    refine ⟨?_, ⟨.str (repS z n), H, I.tok _, ⟨_, rfl⟩, q⟩⟩
    show (repS z n).cps.size ≤ sizeLine
    unfold repS
    rw [List.size_toArray, PyProof.Rows.lm_len_rep_flat, sizeLine_eq]
    have : z.cps.toList.length = z.length := by simp [Str.length]
    rw [this, Nat.mul_comm]
    exact hz
def rMulA : R2 := fun x y H Q => rI CMul (fun i j => .int (i * j)) x y H Q ∨ rMulS x y H Q ∨ rRep x y H Q
theorem op_mulA : OpR X (binaryOp .Mult) rMulA := OpR.or op_mul (OpR.or op_mulS op_rep)
/-! == of anything that is data -/
def rEqA (K : PySem.W.Frag) : R2 := fun x y H Q => rEq x y H Q ∨ rEqD K x y H Q
def rNeA (K : PySem.W.Frag) : R2 := fun x y H Q => rNe x y H Q ∨ rNeD K x y H Q
theorem op_eqA {k : Nat} (hr : Room k X.A) : OpR X (compareOp .Eq) (rEqA X.K) := OpR.or op_eq (op_eqD hr.units)
theorem op_neA {k : Nat} (hr : Room k X.A) : OpR X (compareOp .NotEq) (rNeA X.K) := OpR.or op_ne (op_neD hr.units)
/-! in: of a list or tuple of flat things, a sign in a text -/
def rInSg : R2 := fun x y H Q => ∃ (c : Nat) (z : Str), x = .str ⟨#[c]⟩ ∧ y = .str z ∧ Q (.bl (decide (c ∈ z.cps.toList))) H
def rNotInSg : R2 := fun x y H Q => ∃ (c : Nat) (z : Str), x = .str ⟨#[c]⟩ ∧ y = .str z ∧ Q (.bl (!decide (c ∈ z.cps.toList))) H
def rInA (K : PySem.W.Frag) : R2 := fun x y H Q => rIn K false x y H Q ∨ rInSg x y H Q
def rNotInA (K : PySem.W.Frag) : R2 := fun x y H Q => rIn K true x y H Q ∨ rNotInSg x y H Q
theorem op_inA : OpR X (compareOp .In) (rInA X.K) := OpR.or op_in_seq op_in_sign
theorem op_notInA : OpR X (compareOp .NotIn) (rNotInA X.K) := OpR.or op_notIn_seq op_notIn_sign
/-! repr of data -/
def rRepr (K : PySem.W.Frag) : List V → Hp → VK → Prop := fun xs H Q => ∃ a d, xs = [a] ∧ Dp K H a d ∧ d.showable = true ∧ d.hasDict = false ∧ d.shown.length ≤ sizeLine ∧ d.depth ≤ 60 ∧ Q (.str d.shown) H
theorem call_repr {k : Nat} (hr : Room k X.A) (hg : X.A.guards = some []) : CallR X (.builtin "repr") (rRepr X.K) := by
  intro pins s σ H xs us Q I r h
  obtain ⟨a, d, rfl, hd, hs, hn, hz, hw, q⟩ := h
  obtain ⟨u, rfl, ru⟩ := vals1 r
  obtain ⟨as, rd⟩ := Dp.reads I d a u hd ru
  have := hr.units
  cases hd with
  | non =>
    cases ru
    refine PySem.P.repr_of_none ⟨.str _, H, I.tok _, ⟨_, rfl⟩, ?_⟩
    simpa only [PyData.shown] using q
  | bl b =>
    cases ru
    refine PySem.P.repr_of_bool ⟨.str _, H, I.tok _, ⟨_, rfl⟩, ?_⟩
    simpa only [PyData.shown] using q
  | int i =>
    obtain ⟨t, rfl⟩ := ru
    refine PySem.P.repr_of_int (by simpa [PyData.showable] using hs) ⟨.str _, H, I.tok _, ⟨_, rfl⟩, ?_⟩
    simpa only [PyData.shown] using q
  | str x =>
    obtain ⟨t, rfl⟩ := ru
    refine PySem.P.repr_of_str ⟨.str _, H, I.tok _, ⟨_, rfl⟩, ?_⟩ (by simpa only [PyData.shown] using hz)
    simpa only [PyData.shown] using q
  | lst h1 h2 =>
    cases ru
    exact repr_of_reads' rd hs (PyData.noDict_hsm hn) hg (by omega) (fun _ _ e => e) (fun h' u tk kp => ⟨.str _, H, I.kept kp, ⟨_, rfl⟩, q⟩) hz
  | tup h1 h2 =>
    cases ru
    exact repr_of_reads' rd hs (PyData.noDict_hsm hn) hg (by omega) (fun _ _ e => e) (fun h' u tk kp => ⟨.str _, H, I.kept kp, ⟨_, rfl⟩, q⟩) hz
end
end Bz
namespace Bz
open PySem PySem.Spec PyProof.Rows L2
/-! ### what is known of the heap: B what stays for good, M and L what is owned and may change -/
structure Is (B : Hp) (M L : List (Addr × HO)) (H : Hp) : Prop where
  ex : Same B H
  own : ∀ p ∈ L ++ M, H p.1 = some p.2 ∧ B p.1 = none
  nd : ((L ++ M).map (·.1)).Nodup
inductive Put (a : Addr) (o : HO) : List (Addr × HO) → List (Addr × HO) → Prop
  | here {u : HO} {L : List (Addr × HO)} : Put a o ((a, u) :: L) ((a, o) :: L)
  | there {x : Addr × HO} {L L' : List (Addr × HO)} : Put a o L L' → Put a o (x :: L) (x :: L')
inductive Del (a : Addr) (o : HO) : List (Addr × HO) → List (Addr × HO) → Prop
  | here {L : List (Addr × HO)} : Del a o ((a, o) :: L) L
  | there {x : Addr × HO} {L L' : List (Addr × HO)} : Del a o L L' → Del a o (x :: L) (x :: L')
section
variable {a : Addr} {o : HO} {L L' : List (Addr × HO)}
theorem Put.keys : ∀ {L L'}, Put a o L L' → L'.map (·.1) = L.map (·.1)
  | _, _, .here => rfl
  | _, _, .there h => by rw [List.map_cons, List.map_cons, h.keys]
theorem Put.mem : ∀ {L L'}, Put a o L L' → ∀ p ∈ L', p ∈ L ∨ p = (a, o)
  | _, _, .here, p, hp => by
    rcases List.mem_cons.mp hp with e | e
    · exact .inr e
    · exact .inl (List.mem_cons_of_mem _ e)
  | _, _, .there h, p, hp => by
    rcases List.mem_cons.mp hp with e | e
    · exact .inl (by rw [e]; exact List.mem_cons_self)
    · rcases h.mem p e with q | q
      · exact .inl (List.mem_cons_of_mem _ q)
      · exact .inr q
theorem Put.has : ∀ {L L'}, Put a o L L' → a ∈ L.map (·.1)
  | _, _, .here => List.mem_cons_self
  | _, _, .there h => List.mem_cons_of_mem _ h.has
theorem Put.app {M : List (Addr × HO)} : ∀ {L L'}, Put a o L L' → Put a o (L ++ M) (L' ++ M)
  | _, _, .here => .here
  | _, _, .there h => .there h.app
theorem Put.app2 (h : Put a o L L') : ∀ M : List (Addr × HO), Put a o (M ++ L) (M ++ L')
  | [] => h
  | _ :: M => .there (Put.app2 h M)
theorem Del.mem : ∀ {L L'}, Del a o L L' → (a, o) ∈ L
  | _, _, .here => List.mem_cons_self
  | _, _, .there h => List.mem_cons_of_mem _ h.mem
theorem Del.perm : ∀ {L L'}, Del a o L L' → L.Perm ((a, o) :: L')
  | _, _, .here => .refl _
  | _, _, .there h => (List.Perm.cons _ h.perm).trans (.swap _ _ _)
end
section
variable {B B' H H' : Hp} {M M' L L' : List (Addr × HO)} {a p : Addr} {o u : HO} {K : PySem.W.Frag} {xs : List V}
theorem Is.get (I : Is B M L H) (h : (a, o) ∈ L) : H a = some o := (I.own (a, o) (List.mem_append_left _ h)).1
theorem Is.getM (I : Is B M L H) (h : (a, o) ∈ M) : H a = some o := (I.own (a, o) (List.mem_append_right _ h)).1
theorem Is.free (I : Is B M L H) (h : H p = none) : B p = none := I.ex.free h
theorem Is.notin (I : Is B M L H) (h : H p = none) : p ∉ (L ++ M).map (·.1) := fun z => by
  obtain ⟨q, hq, e⟩ := List.mem_map.mp z
  have := (I.own q hq).1
  rw [e, h] at this
  cases this
/-- a new object -/
theorem Is.new (I : Is B M L H) (h : H p = none) : Is B M ((p, o) :: L) (upd H p o) := by
  refine ⟨fun b x e => ?_, fun q hq => ?_, ?_⟩
  · have := I.ex b x e
    rw [upd_ne (ne_of_none this h)]
    exact this
  · rcases List.mem_cons.mp hq with e | e
    · rw [e]
      exact ⟨upd_same, I.free h⟩
    · obtain ⟨h1, h2⟩ := I.own q e
      exact ⟨by rw [upd_ne (ne_of_none h1 h)]; exact h1, h2⟩
  · exact List.nodup_cons.mpr ⟨I.notin h, I.nd⟩
/-- a new object, the rest as it was (behind a call) -/
theorem Is.new' (I : Is B M L H) (s : Same H H') (h : H p = none) (e : H' p = some o) : Is B M ((p, o) :: L) H' := by
  refine ⟨I.ex.trans s, fun q hq => ?_, List.nodup_cons.mpr ⟨I.notin h, I.nd⟩⟩
  rcases List.mem_cons.mp hq with z | z
  · rw [z]
    exact ⟨e, I.free h⟩
  · obtain ⟨h1, h2⟩ := I.own q z
    exact ⟨s _ _ h1, h2⟩
theorem Is.same (I : Is B M L H) (s : Same H H') : Is B M L H' := ⟨I.ex.trans s, fun q hq => ⟨s _ _ (I.own q hq).1, (I.own q hq).2⟩, I.nd⟩
theorem Is.put0 {l l' : List (Addr × HO)} (hl : Put a o l l') (ex : Same B H) (own : ∀ p ∈ l, H p.1 = some p.2 ∧ B p.1 = none) (nd : (l.map (·.1)).Nodup) :
    Same B (upd H a o) ∧ (∀ p ∈ l', (upd H a o) p.1 = some p.2 ∧ B p.1 = none) ∧ (l'.map (·.1)).Nodup := by
  have ha : B a = none := by
    obtain ⟨q, hq, e⟩ := List.mem_map.mp hl.has
    rw [← e]
    exact (own q hq).2
  refine ⟨fun b x e => ?_, fun q hq => ?_, by rw [hl.keys]; exact nd⟩
  · have hb : b ≠ a := fun z => by rw [z, ha] at e; cases e
    rw [upd_ne hb]
    exact ex b x e
  · by_cases hqa : q.1 = a
    · refine ⟨?_, by rw [hqa]; exact ha⟩
      -- the only entry at a is the new one
      have key : ∀ {l l'}, Put a o l l' → (l.map (·.1)).Nodup → ∀ q ∈ l', q.1 = a → q = (a, o) := by
        intro l l' h
        induction h with
        | here =>
          intro n q hq e
          rcases List.mem_cons.mp hq with z | z
          · exact z
          · have n1 := (List.nodup_cons.mp n).1
            exact absurd (show a ∈ _ from by rw [← e]; exact List.mem_map_of_mem z) n1
        | there h ih =>
          intro n q hq e
          obtain ⟨n1, n2⟩ := List.nodup_cons.mp n
          rcases List.mem_cons.mp hq with z | z
          · rw [z] at e
            have n1' : ¬ _ ∈ _ := n1
            exact absurd (by rw [← e] at h; exact h.has) n1'
          · exact ih n2 q z e
      rw [key hl nd q hq hqa]
      exact upd_same
    · rw [upd_ne hqa]
      rcases hl.mem q hq with z | z
      · exact own q z
      · rw [z] at hqa
        exact absurd rfl hqa
theorem Is.put (I : Is B M L H) (h : Put a o L L') : Is B M L' (upd H a o) := by
  obtain ⟨h1, h2, h3⟩ := Is.put0 (h.app (M := M)) I.ex I.own I.nd
  exact ⟨h1, h2, h3⟩
theorem Is.putM (I : Is B M L H) (h : Put a o M M') : Is B M' L (upd H a o) := by
  obtain ⟨h1, h2, h3⟩ := Is.put0 (h.app2 L) I.ex I.own I.nd
  exact ⟨h1, h2, h3⟩
/-- a thing is given away: it will not change any more -/
theorem Is.frz (I : Is B M L H) (d : Del a o L L') : Is (upd B a o) M L' H ∧ Same B (upd B a o) := by
  have pm : (L ++ M).Perm ((a, o) :: (L' ++ M)) := (d.perm.append_right M)
  have ha := I.own (a, o) (List.mem_append_left _ d.mem)
  have nd := (pm.map (·.1)).nodup_iff.mp I.nd
  obtain ⟨n1, n2⟩ := List.nodup_cons.mp nd
  refine ⟨⟨fun b x e => ?_, fun q hq => ?_, n2⟩, fun b x e => ?_⟩
  · by_cases hb : b = a
    · rw [hb, upd_same] at e
      rw [hb, ← e]
      exact ha.1
    · rw [upd_ne hb] at e
      exact I.ex b x e
  · have h2 := I.own q (pm.mem_iff.mpr (List.mem_cons_of_mem _ hq))
    refine ⟨h2.1, ?_⟩
    have hb : q.1 ≠ a := fun z => n1 (by rw [← z]; exact List.mem_map.mpr ⟨q, hq, rfl⟩)
    rw [upd_ne hb]
    exact h2.2
  · have hb : b ≠ a := fun z => by
      have := ha.2
      rw [z, this] at e
      cases e
    rw [upd_ne hb]
    exact e
theorem Is.forget (I : Is B M L H) (h : L'.Sublist L) : Is B M L' H :=
  ⟨I.ex, fun q hq => I.own q ((h.append (.refl M)).subset hq), I.nd.sublist ((h.append (.refl M)).map _)⟩
theorem Is.forgetM (I : Is B M L H) (h : M'.Sublist M) : Is B M' L H :=
  ⟨I.ex, fun q hq => I.own q (((List.Sublist.refl L).append h).subset hq), I.nd.sublist (((List.Sublist.refl L).append h).map _)⟩
theorem Is.perm (I : Is B M L H) (h : L'.Perm L) : Is B M L' H :=
  ⟨I.ex, fun q hq => I.own q ((h.append_right M).mem_iff.mp hq), ((h.append_right M).map _).nodup_iff.mpr I.nd⟩
/-- owned things told as M -/
theorem Is.toM (I : Is B [] (L ++ M) H) : Is B M L H := ⟨I.ex, fun q hq => I.own q (by rw [List.append_nil]; exact hq), by have := I.nd; rwa [List.append_nil] at this⟩
theorem Is.ofM (I : Is B M L H) : Is B [] (L ++ M) H := ⟨I.ex, fun q hq => I.own q (by rwa [List.append_nil] at hq), by have := I.nd; rwa [List.append_nil]⟩
theorem Same.sqT (e : Same H H') (h : SqT K H a xs) : SqT K H' a xs := by
  rcases h with (h | ⟨o, h⟩) | h
  · exact .inl (.inl (e _ _ h))
  · exact .inl (.inr ⟨o, e _ _ h⟩)
  · exact .inr h
theorem Is.sq (I : Is B M L H) (h : SqL K B a xs) : SqL K H a xs := Same.seq I.ex h
theorem Is.st (I : Is B M L H) (h : SqT K B a xs) : SqT K H a xs := Same.sqT I.ex h
theorem Is.sqL (I : Is B M L H) (h : (a, HO.lst xs) ∈ L) : SqL K H a xs := .of (I.get h)
theorem Is.stL (I : Is B M L H) (h : (a, HO.tup xs) ∈ L) : SqT K H a xs := .of (I.get h)
theorem Is.sqM (I : Is B M L H) (h : (a, HO.lst xs) ∈ M) : SqL K H a xs := .of (I.getM h)
theorem Is.b (I : Is B M L H) (h : B a = some o) : H a = some o := I.ex _ _ h
mutual
theorem Dp.same (e : Same H H') : ∀ {v : V} {d : PyData}, Dp K H v d → Dp K H' v d
  | _, _, .non => .non
  | _, _, .bl b => .bl b
  | _, _, .int i => .int i
  | _, _, .str x => .str x
  | _, _, .lst h1 h2 => .lst (Same.seq e h1) (DpAll.same e h2)
  | _, _, .tup h1 h2 => .tup (Same.sqT e h1) (DpAll.same e h2)
theorem DpAll.same (e : Same H H') : ∀ {v : List V} {d : List PyData}, DpAll K H v d → DpAll K H' v d
  | _, _, .nil => .nil
  | _, _, .cons h1 h2 => .cons (Dp.same e h1) (DpAll.same e h2)
end
end
end Bz
namespace Bz
open PySem PySem.Spec PyProof.Rows L2
abbrev St := L2.St
/-! ### slots -/
inductive At : St → Nat → V → Prop
  | z {v : V} {l : St} : At (some v :: l) 0 v
  | s {x : Option V} {l : St} {n : Nat} {v : V} : At l n v → At (x :: l) (n + 1) v
inductive SetAt : St → Nat → Option V → St → Prop
  | z {x v : Option V} {l : St} : SetAt (x :: l) 0 v (v :: l)
  | s {x v : Option V} {l l' : St} {n : Nat} : SetAt l n v l' → SetAt (x :: l) (n + 1) v (x :: l')
inductive Wiped : St → List Nat → St → Prop
  | nil {σ : St} : Wiped σ [] σ
  | cons {σ σ1 σ2 : St} {v : Nat} {vs : List Nat} : Wiped σ vs σ1 → SetAt σ1 v none σ2 → Wiped σ (v :: vs) σ2
theorem At.eq : ∀ {σ : St} {n : Nat} {v : V}, At σ n v → σ[n]? = some (some v)
  | _, _, _, .z => rfl
  | _, _, _, .s h => by
    rw [List.getElem?_cons_succ]
    exact h.eq
theorem SetAt.eq : ∀ {σ σ' : St} {n : Nat} {v : Option V}, SetAt σ n v σ' → σ.set n v = σ'
  | _, _, _, _, .z => rfl
  | _, _, _, _, .s h => by rw [List.set_cons_succ, h.eq]
theorem Wiped.eq : ∀ {σ σ' : St} {vs : List Nat}, Wiped σ vs σ' → wipe σ vs = σ'
  | _, _, _, .nil => rfl
  | _, _, _, .cons h s => by
    unfold wipe
    rw [h.eq, s.eq]
/-! ### steps of a reading -/
section
variable {σ σ' : St} {H : Hp} {Q : VK} {v x y : V} {i : Nat} {ta tb tc te : TE} {D : Ends} {t u : TS} {c c' : TT} {K : PySem.W.Frag} {R : It → Hp → Prop}
variable {nx bk ct : St → Hp → Prop} {rt : VK} {QB : Bool → Hp → Prop} {QL : List V → Hp → Prop} {QS : St → Hp → Prop} {tl tr : TA} {r r' : R2}
theorem g_seq (h : t ⟨fun σ H => u ⟨nx, rt, bk, ct⟩ σ H, rt, bk, ct⟩ σ H) : tSeq t u ⟨nx, rt, bk, ct⟩ σ H := h
theorem g_next (h : nx σ H) : tNext ⟨nx, rt, bk, ct⟩ σ H := h
theorem g_brk (h : bk σ H) : tBreak ⟨nx, rt, bk, ct⟩ σ H := h
theorem g_cont (h : ct σ H) : tCont ⟨nx, rt, bk, ct⟩ σ H := h
theorem g_drop (h : te σ H fun _ H1 => nx σ H1) : tDrop te ⟨nx, rt, bk, ct⟩ σ H := h
theorem g_ret (h : te σ H rt) : tRet te ⟨nx, rt, bk, ct⟩ σ H := h
theorem g_retN (h : rt .non H) : tRetN ⟨nx, rt, bk, ct⟩ σ H := h
theorem g_ifS (h : c σ H fun b H1 => if b = true then t ⟨nx, rt, bk, ct⟩ σ H1 else u ⟨nx, rt, bk, ct⟩ σ H1) : tIfS c t u ⟨nx, rt, bk, ct⟩ σ H := h
theorem g_asg {g : TG} (h : te σ H fun x H1 => g x σ H1 nx) : tAsg te g ⟨nx, rt, bk, ct⟩ σ H := h
theorem g_name (s : SetAt σ i (some v) σ') (q : QS σ' H) : gName i v σ H QS := by
  show QS (σ.set i (some v)) H
  rw [s.eq]
  exact q
theorem g_par {j : Nat} (h : tl σ H fun vs H1 => ∃ v w, vs = [v, w] ∧ nx ((σ.set i (some v)).set j (some w)) H1) : tPar i j tl ⟨nx, rt, bk, ct⟩ σ H := h
theorem g_par2 {j : Nat} {w : V} {σ2 : St} (s : SetAt σ i (some v) σ') (s2 : SetAt σ' j (some w) σ2) (q : nx σ2 H) :
    ∃ v' w', [v, w] = [v', w'] ∧ nx ((σ.set i (some v')).set j (some w')) H := by
  refine ⟨v, w, rfl, ?_⟩
  rw [s.eq, s2.eq]
  exact q
theorem g_var (h : At σ i v) (q : Q v H) : tVar i σ H Q := ⟨v, h.eq, q⟩
theorem g_c (q : Q v H) : tC v σ H Q := q
theorem g_op (h : ta σ H fun x H1 => tb σ H1 fun y H2 => r x y H2 Q) : tOp r ta tb σ H Q := h
theorem g_un {r : V → Hp → VK → Prop} (h : ta σ H fun x H1 => r x H1 Q) : tUn r ta σ H Q := h
theorem g_nil (q : QL [] H) : tNil σ H QL := q
theorem g_cons (h : te σ H fun x H1 => tr σ H1 fun xs H2 => QL (x :: xs) H2) : tCons te tr σ H QL := h
theorem g_cb {r : List V → Hp → VK → Prop} (h : tl σ H fun vs H1 => r vs H1 Q) : tCB r tl σ H Q := h
/-! tests -/
def aBl (x : V) (H : Hp) (Q : Bool → Hp → Prop) : Prop := ∃ k, x = .bl k ∧ Q k H
theorem g_test (h : te σ H fun x H1 => aBl x H1 QB) : tTest te σ H QB := h
theorem g_tB (h : te σ H fun x H1 => aBl x H1 QB) : tB te σ H QB := h
theorem g_bl {b : Bool} (q : QB b H) : aBl (.bl b) H QB := ⟨b, rfl, q⟩
theorem g_and (h : c σ H fun b H1 => if b = true then c' σ H1 QB else QB false H1) : tAnd c c' σ H QB := h
theorem g_or (h : c σ H fun b H1 => if b = true then QB true H1 else c' σ H1 QB) : tOr c c' σ H QB := h
theorem g_not (h : c σ H fun b H1 => QB (!b) H1) : tNot c σ H QB := h
def aIfV (x : V) (H : Hp) (A B : Hp → Prop) : Prop := ∃ c, x = .bl c ∧ if c = true then A H else B H
theorem g_andV (h : ta σ H fun x H1 => aIfV x H1 (fun H1 => tb σ H1 Q) fun H1 => Q (.bl false) H1) : tAndV ta tb σ H Q := h
theorem g_orV (h : ta σ H fun x H1 => aIfV x H1 (fun H1 => Q (.bl true) H1) fun H1 => tb σ H1 Q) : tOrV ta tb σ H Q := h
theorem g_ifV {A B : Hp → Prop} {b : Bool} (h : if b = true then A H else B H) : aIfV (.bl b) H A B := ⟨b, rfl, h⟩
def aNot (x : V) (H : Hp) (Q : VK) : Prop := ∃ c, x = .bl c ∧ Q (.bl (!c)) H
theorem g_notV (h : ta σ H fun x H1 => aNot x H1 Q) : tNotV ta σ H Q := h
theorem g_aNot {b : Bool} (q : Q (.bl (!b)) H) : aNot (.bl b) H Q := ⟨b, rfl, q⟩
theorem g_ifE (h : c σ H fun b H1 => if b = true then ta σ H1 Q else tb σ H1 Q) : tIf c ta tb σ H Q := h
theorem g_chain (h : ta σ H fun x H1 => tb σ H1 fun y H2 => r x y H2 fun z H3 => aIfV z H3 (fun H3 => tc σ H3 fun w H4 => r' y w H4 Q) fun H3 => Q (.bl false) H3) : tChain r r' ta tb tc σ H Q := h
def tTr (K : PySem.W.Frag) (ta : TE) : TT := fun σ H Q => ta σ H fun x H' => ∃ k, TruV K x H' k ∧ Q k H'
def aTru (K : PySem.W.Frag) (x : V) (H : Hp) (Q : Bool → Hp → Prop) : Prop := ∃ k, TruV K x H k ∧ Q k H
theorem pt_tr {X : Cx} {a : Expr} {ta : TE} (ha : PE X a ta) (he : ∀ whole, isTrue a X.env whole = (do let v ← whole; standAt a.pos; holding [v] (truthy v)) := by intro _; rfl) : PT X a (tTr X.K ta) := pt_truth ha he
theorem g_tr (h : ta σ H fun x H' => aTru K x H' QB) : tTr K ta σ H QB := h
theorem g_tru_bl {b : Bool} (q : QB b H) : aTru K (.bl b) H QB := ⟨b, rfl, q⟩
theorem g_tru_non (q : QB false H) : aTru K .non H QB := ⟨false, rfl, q⟩
theorem g_tru_int {n : Int} (q : QB (n != 0) H) : aTru K (.int n) H QB := ⟨_, rfl, q⟩
theorem g_tru_lst {a : Addr} {xs : List V} (h : SqL K H a xs) (q : QB (!xs.isEmpty) H) : aTru K (.ref a) H QB := ⟨_, .inl ⟨xs, h, rfl⟩, q⟩
theorem g_tru_str {z : Str} (h : z.length ≤ sizeLine) (q : QB ((z.length : Int) != 0) H) : aTru K (.str z) H QB := ⟨_, ⟨h, rfl⟩, q⟩
/-! numbers -/
theorem g_rI0 {g : Int → Int → V} {a b : Int} (q : Q (g a b) H) : rI0 g (.int a) (.int b) H Q := ⟨a, b, rfl, rfl, q⟩
theorem g_rI {C : Int → Int → Prop} {g : Int → Int → V} {a b : Int} (h : C a b) (q : Q (g a b) H) : rI C g (.int a) (.int b) H Q := ⟨a, b, rfl, rfl, h, q⟩
theorem g_rU {g : Int → V} {a : Int} (q : Q (g a) H) : rU g (.int a) H Q := ⟨a, rfl, q⟩
theorem g_add_i {a b : Int} (q : Q (.int (a + b)) H) : rAddA K (.int a) (.int b) H Q := .inl ⟨a, b, rfl, rfl, q⟩
theorem g_add_s {a b : Str} (h : a.length + b.length ≤ 1000000) (q : Q (.str (a ++ b)) H) : rAddA K (.str a) (.str b) H Q :=
  .inr (.inl ⟨a, b, rfl, rfl, Nat.le_trans h (by decide), q⟩)
theorem g_mul_i {a b : Int} (h : CMul a b) (q : Q (.int (a * b)) H) : rMulA (.int a) (.int b) H Q := .inl ⟨a, b, rfl, rfl, h, q⟩
theorem g_mul_s {z : Str} {n : Nat} (h : z.length * n ≤ 1000000) (h1 : 1 < n) (h0 : 0 < z.length) (q : Q (.str (repS z n)) H) : rMulA (.str z) (.int (n : Int)) H Q :=
  .inr (.inl ⟨z, n, rfl, rfl, Nat.le_trans h (by decide), h1, h0, q⟩)
/-! comparisons -/
theorem g_eq_s (h : scal x y = true) (q : Q (.bl (decide (x = y))) H) : rEqA K x y H Q := .inl ⟨h, q⟩
theorem g_ne_s (h : scal x y = true) (q : Q (.bl (!decide (x = y))) H) : rNeA K x y H Q := .inl ⟨h, q⟩
theorem g_eq_d {d e : PyData} (h1 : Dp K H x d) (h2 : Dp K H y e) (s1 : SeqAt.shaped d = true) (s2 : SeqAt.shaped e = true) (q : Q (.bl (PyData.eqv d e)) H) : rEqA K x y H Q := .inr ⟨d, e, h1, h2, s1, s2, q⟩
theorem g_ne_d {d e : PyData} (h1 : Dp K H x d) (h2 : Dp K H y e) (s1 : SeqAt.shaped d = true) (s2 : SeqAt.shaped e = true) (q : Q (.bl (!PyData.eqv d e)) H) : rNeA K x y H Q := .inr ⟨d, e, h1, h2, s1, s2, q⟩
theorem g_in_l {p : Addr} {xs : List V} (h : SqL K H p xs) (f : flatV x = true) (fs : xs.all flatV = true) (q : Q (.bl (inV x xs)) H) : rInA K x (.ref p) H Q := .inl ⟨p, xs, rfl, .inl h, f, fs, q⟩
theorem g_in_t {p : Addr} {xs : List V} (h : SqT K H p xs) (f : flatV x = true) (fs : xs.all flatV = true) (q : Q (.bl (inV x xs)) H) : rInA K x (.ref p) H Q := .inl ⟨p, xs, rfl, .inr h, f, fs, q⟩
theorem g_nin_l {p : Addr} {xs : List V} (h : SqL K H p xs) (f : flatV x = true) (fs : xs.all flatV = true) (q : Q (.bl (!inV x xs)) H) : rNotInA K x (.ref p) H Q := .inl ⟨p, xs, rfl, .inl h, f, fs, q⟩
theorem g_nin_t {p : Addr} {xs : List V} (h : SqT K H p xs) (f : flatV x = true) (fs : xs.all flatV = true) (q : Q (.bl (!inV x xs)) H) : rNotInA K x (.ref p) H Q := .inl ⟨p, xs, rfl, .inr h, f, fs, q⟩
theorem g_in_c {n : Nat} {z : Str} (q : Q (.bl (decide (n ∈ z.cps.toList))) H) : rInA K (.str ⟨#[n]⟩) (.str z) H Q := .inr ⟨n, z, rfl, rfl, q⟩
theorem g_nin_c {n : Nat} {z : Str} (q : Q (.bl (!decide (n ∈ z.cps.toList))) H) : rNotInA K (.str ⟨#[n]⟩) (.str z) H Q := .inr ⟨n, z, rfl, rfl, q⟩
/-! is None -/
def rIsNo : R2 := fun x y H Q => y = .non ∧ Q (.bl (decide (x = .non))) H
def rNoNo : R2 := fun x y H Q => y = .non ∧ Q (.bl (!decide (x = .non))) H
theorem op_isNo {X : Cx} : OpR X (compareOp .Is) rIsNo := op_isN
theorem op_noNo {X : Cx} : OpR X (compareOp .IsNot) rNoNo := op_notN
theorem g_isNo (q : Q (.bl (decide (x = .non))) H) : rIsNo x .non H Q := ⟨rfl, q⟩
theorem g_noNo (q : Q (.bl (!decide (x = .non))) H) : rNoNo x .non H Q := ⟨rfl, q⟩
/-! len -/
def rLen (K : PySem.W.Frag) : List V → Hp → VK → Prop := fun xs H Q => ∃ x n, xs = [x] ∧ LenV K x H n ∧ Q (.int n) H
theorem cl_len {X : Cx} : CallR X (.builtin "len") (rLen X.K) := call_len
theorem g_len_s {z : Str} (h : z.length ≤ 1000000) (q : Q (.int (z.length : Int)) H) : rLen K [.str z] H Q := ⟨_, z.length, rfl, ⟨Nat.le_trans h (by decide), rfl⟩, q⟩
theorem g_len_l {p : Addr} {xs : List V} (h : SqL K H p xs) (q : Q (.int (xs.length : Int)) H) : rLen K [.ref p] H Q := ⟨_, xs.length, rfl, .inl ⟨xs, h, rfl⟩, q⟩
theorem g_len_t {p : Addr} {xs : List V} (h : SqT K H p xs) (q : Q (.int (xs.length : Int)) H) : rLen K [.ref p] H Q := ⟨_, xs.length, rfl, .inr ⟨xs, h, rfl⟩, q⟩
/-! places -/
theorem g_ix_l {p : Addr} {xs : List V} {n : Int} (h : SqL K H p xs) (e : atI xs n = some v) (q : Q v H) : rIx K (.ref p) (.int n) H Q := .inl ⟨p, xs, n, v, rfl, rfl, h, e, q⟩
theorem g_ix_t {p : Addr} {xs : List V} {n : Int} (h : SqT K H p xs) (e : atI xs n = some v) (q : Q v H) : rIx K (.ref p) (.int n) H Q := .inr (.inl ⟨p, xs, n, v, rfl, rfl, h, e, q⟩)
theorem g_ix_s {z : Str} {n : Int} {k : Nat} (h : z.length ≤ 1000000) (e : atI z.cps.toList n = some k) (q : Q (.str ⟨#[k]⟩) H) : rIx K (.str z) (.int n) H Q := .inr (.inr ⟨z, n, k, rfl, rfl, Nat.le_trans h (by decide), e, q⟩)
theorem atI_of {α : Type} {xs : List α} {n : Int} {a : α} (h0 : 0 ≤ n) (h : xs[n.toNat]? = some a) : atI xs n = some a := by
  have hl := (List.getElem?_eq_some_iff.mp h).1
  unfold atI ixN
  rw [if_pos h0, if_pos (by omega)]
  exact h
theorem ixN_of {m : Nat} {n : Int} (h0 : 0 ≤ n) (h : n < m) : ixN m n = some n.toNat := by
  unfold ixN
  rw [if_pos h0, if_pos h]
/-! parts -/
def rSlA (K : PySem.W.Frag) : V → Option Int → Option Int → Hp → VK → Prop := fun x lo hi H Q => rSlL K x lo hi H Q ∨ rSlS x lo hi H Q ∨ rSlT K x lo hi H Q
theorem sl_any {X : Cx} : SlR X (rSlA X.K) := SlR.or sl_list (SlR.or sl_str sl_tup)
theorem g_sl {tl th : TO} {r : V → Option Int → Option Int → Hp → VK → Prop} (h : te σ H fun x H1 => tl σ H1 fun l H2 => th σ H2 fun u H3 => r x l u H3 Q) : tSl r te tl th σ H Q := h
theorem g_noPart {QO : Option Int → Hp → Prop} (q : QO none H) : tNoPart σ H QO := q
def aPart (x : V) (H : Hp) (Q : Option Int → Hp → Prop) : Prop := ∃ i, x = .int i ∧ Q (some i) H
theorem g_part {QO : Option Int → Hp → Prop} (h : te σ H fun x H1 => aPart x H1 QO) : tPart te σ H QO := h
theorem g_aPart {QO : Option Int → Hp → Prop} {n : Int} (q : QO (some n) H) : aPart (.int n) H QO := ⟨n, rfl, q⟩
theorem g_sl_s {z : Str} {lo hi : Option Int} (h : z.length ≤ 1000000) (q : Q (.str (cutS z lo hi)) H) : rSlA K (.str z) lo hi H Q := .inr (.inl ⟨z, rfl, Nat.le_trans h (by decide), q⟩)
/-! methods of built-in kinds -/
theorem g_bm {T : String} {r : V → List V → Hp → VK → Prop} (h : te σ H fun x H1 => tyV K T x H1 ∧ tl σ H1 fun xs H2 => r x xs H2 Q) : tBM K T r te tl σ H Q := h
theorem g_bm0 {T : String} {r : V → List V → Hp → VK → Prop} (h : te σ H fun x H1 => tyV K T x H1 ∧ r x [] H1 Q) : tBM0 K T r te σ H Q := h
theorem g_m1 {r : V → List V → Hp → VK → Prop} (h : te σ H fun x H1 => (∃ a, x = .str a) ∧ tb σ H1 fun y H2 => r x [y] H2 Q) : tM1 r te tb σ H Q := h
theorem g_isStr {z : Str} {A : Prop} (h : A) : (∃ a, V.str z = .str a) ∧ A := ⟨⟨z, rfl⟩, h⟩
/-! calls -/
def aCl (n m : Nat) (sp : Sp) (gV : List V → List V → List V) (E : XK) (vs zs : List V) (H : Hp) (Q : VK) : Prop := vs.length = n ∧ zs.length = m ∧ sp (gV vs zs) H Q E
theorem g_cl {n m : Nat} {sp : Sp} {gV : List V → List V → List V} {E : XK} (h : tl σ H fun vs H1 => tr σ H1 fun zs H2 => aCl n m sp gV E vs zs H2 Q) : tCl n m sp gV E tl tr σ H Q := h
theorem g_aCl {n m : Nat} {sp : Sp} {gV : List V → List V → List V} {E : XK} {vs zs : List V} (h1 : vs.length = n) (h2 : zs.length = m) (q : sp (gV vs zs) H Q E) : aCl n m sp gV E vs zs H Q := ⟨h1, h2, q⟩
/-! loops -/
def aFor (J : It) (g : TG) (tb : TS) (D : Ends) (σ : St) (H : Hp) : Prop := ∃ W : Nat → Nat → St → Hp → Prop, (∃ m, W 0 m σ H) ∧ ∀ i m σ H, W i m σ H →
  (J.stop i H ∧ D.nx σ H) ∨ (J.go i H ∧ ∃ N : St → Hp → Prop, (∀ σ' H', N σ' H' → ∃ m', m' < m ∧ W (i + 1) m' σ' H') ∧ ∀ x H', J.yld i H x H' → g x σ H' fun σ2 H2 => tb { D with nx := N, ct := N, bk := D.nx } σ2 H2)
theorem g_for {wi : TI} {g : TG} (h : wi σ H fun J H1 => aFor J g t ⟨nx, rt, bk, ct⟩ σ H1) : tFor wi g t ⟨nx, rt, bk, ct⟩ σ H := h
theorem g_aFor {J : It} {n : Nat} {G : Hp → Prop} {Y : Nat → Hp → V → Hp → Prop} {g : TG} (w : Walk J n G Y) (Pv : Nat → St → Hp → Prop) (h0 : Pv 0 σ H) (hG : ∀ i σ H, i ≤ n → Pv i σ H → G H)
    (hs : ∀ i x σ H H', i < n → Pv i σ H → Y i H x H' → g x σ H' fun σ2 H2 => t ⟨Pv (i + 1), rt, nx, Pv (i + 1)⟩ σ2 H2) (hd : ∀ σ H, Pv n σ H → nx σ H) : aFor J g t ⟨nx, rt, bk, ct⟩ σ H :=
  for_it w (D := ⟨nx, rt, bk, ct⟩) Pv h0 hG hs hd
/-! what is walked, by its kind -/
def iAny (K : PySem.W.Frag) (te : TE) : TI := fun σ H R => te σ H fun x H1 => (∃ a, x = .ref a ∧ (∃ xs, SqL K H1 a xs) ∧ R (Itl K a) H1) ∨ (∃ a, x = .ref a ∧ (∃ xs, SqT K H1 a xs) ∧ R (Itt K a) H1) ∨ ∃ z, x = .str z ∧ R (Its z) H1
def aIter (K : PySem.W.Frag) (x : V) (H : Hp) (R : It → Hp → Prop) : Prop := (∃ a, x = .ref a ∧ (∃ xs, SqL K H a xs) ∧ R (Itl K a) H) ∨ (∃ a, x = .ref a ∧ (∃ xs, SqT K H a xs) ∧ R (Itt K a) H) ∨ ∃ z, x = .str z ∧ R (Its z) H
theorem g_iAny (h : te σ H fun x H1 => aIter K x H1 R) : iAny K te σ H R := h
theorem g_it_l {a : Addr} {xs : List V} (h : SqL K H a xs) (q : R (Itl K a) H) : aIter K (.ref a) H R := .inl ⟨a, rfl, ⟨xs, h⟩, q⟩
theorem g_it_t {a : Addr} {xs : List V} (h : SqT K H a xs) (q : R (Itt K a) H) : aIter K (.ref a) H R := .inr (.inl ⟨a, rfl, ⟨xs, h⟩, q⟩)
theorem g_it_s {z : Str} (q : R (Its z) H) : aIter K (.str z) H R := .inr (.inr ⟨z, rfl, q⟩)
theorem pi_any {X : Cx} {tg e : Expr} (he : PE X e te) : PI X tg e (iAny X.K te) := by
  refine ⟨fun pins s σ H R I h => ?_⟩
  refine thn (he.run pins s σ H _ I h) fun v s1 ⟨x, H1, I1, r1, q1⟩ => ?_
  rcases q1 with ⟨a, rfl, ⟨xs, hx⟩, q⟩ | ⟨a, rfl, ⟨xs, hx⟩, q⟩ | ⟨z, rfl, q⟩
  · cases r1
    obtain ⟨its, rv, p, hz⟩ := I1.list hx
    refine wpAny_pyIter_list p.isList ?_
    refine ⟨s1.heap.objs.size, [s1.heap.objs.size], _, _, H1, rfl, I1.kept (t' := s1.toks) fun b o e => Heap.get?_push_of_some _ e, turn_list a _, ⟨_, Heap.get?_push_size _ rfl, rfl, rfl⟩, fun b hb => ?_, q⟩
    obtain rfl : b = s1.heap.objs.size := by simpa using hb
    exact I1.fpOk (Nat.le_refl _) (I1.hok.fresh (Nat.le_refl _))
  · cases r1
    obtain ⟨its, rv, p, hz⟩ := I1.tuple hx
    refine wpAny_pyIter_tuple (show s1.heap.IsTuple a its.toArray from p) ?_
    refine ⟨s1.heap.objs.size, [s1.heap.objs.size], _, _, H1, rfl, I1.kept (t' := s1.toks) fun b o e => Heap.get?_push_of_some _ e, turn_tuple a _, ⟨_, Heap.get?_push_size _ rfl, rfl, rfl⟩, fun b hb => ?_, q⟩
    obtain rfl : b = s1.heap.objs.size := by simpa using hb
    exact I1.fpOk (Nat.le_refl _) (I1.hok.fresh (Nat.le_refl _))
  · obtain ⟨t, rfl⟩ := r1
    cases ha : z.cps.all (· < 128)
    · exact wpAny_pyIter_wide ha (pi_one (tk := s1.toks) I1 _ (turn_str _ z t "str_iterator" (.inr rfl)) ⟨_, Heap.get?_push_size _ rfl, rfl, rfl⟩ q)
    · exact wpAny_pyIter_ascii ha (pi_one (tk := s1.toks) I1 _ (turn_str _ z t "str_ascii_iterator" (.inl rfl)) ⟨_, Heap.get?_push_size _ rfl, rfl, rfl⟩ q)
def aRng1 (vs : List V) (H : Hp) (R : It → Hp → Prop) : Prop := ∃ j : Int, vs = [.int j] ∧ -(2 ^ 62) ≤ j ∧ j < 2 ^ 62 ∧ R (Itr 0 j.toNat) H
theorem g_rng1 (h : tl σ H fun vs H1 => aRng1 vs H1 R) : iRng1 tl σ H R := h
theorem g_aRng1 {j : Int} (h : 0 ≤ j ∧ j < 4000000000) (q : R (Itr 0 j.toNat) H) : aRng1 [.int j] H R := ⟨j, rfl, by omega, by omega, q⟩
def aRng2 (vs : List V) (H : Hp) (R : It → Hp → Prop) : Prop := ∃ i j : Int, vs = [.int i, .int j] ∧ (-(2 ^ 62) ≤ i ∧ i < 2 ^ 62 ∧ -(2 ^ 62) ≤ j ∧ j < 2 ^ 62) ∧ R (Itr i (j - i).toNat) H
theorem g_rng2 (h : tl σ H fun vs H1 => aRng2 vs H1 R) : iRng2 tl σ H R := h
theorem g_aRng2 {i j : Int} (h : -4000000000 ≤ i ∧ i < 4000000000 ∧ -4000000000 ≤ j ∧ j < 4000000000) (q : R (Itr i (j - i).toNat) H) : aRng2 [.int i, .int j] H R := ⟨i, j, rfl, by omega, q⟩
def aEnum (K : PySem.W.Frag) (vs : List V) (H : Hp) (R : It → Hp → Prop) : Prop := ∃ a xs, vs = [.ref a] ∧ SqL K H a xs ∧ R (Ite K a) H
theorem g_enum (h : tl σ H fun vs H1 => aEnum K vs H1 R) : iEnum K tl σ H R := h
theorem g_aEnum {a : Addr} {xs : List V} (h : SqL K H a xs) (q : R (Ite K a) H) : aEnum K [.ref a] H R := ⟨a, xs, rfl, h, q⟩
def aZip (K : PySem.W.Frag) (vs : List V) (H : Hp) (R : It → Hp → Prop) : Prop := ∃ a b xs ys, vs = [.ref a, .ref b] ∧ SqL K H a xs ∧ SqL K H b ys ∧ R (Itz K a b) H
theorem g_zip (h : tl σ H fun vs H1 => aZip K vs H1 R) : iZip K tl σ H R := h
theorem g_aZip {a b : Addr} {xs ys : List V} (h : SqL K H a xs) (h2 : SqL K H b ys) (q : R (Itz K a b) H) : aZip K [.ref a, .ref b] H R := ⟨a, b, xs, ys, rfl, h, h2, q⟩
end
end Bz
namespace Bz
open PySem PySem.Spec PyProof.Rows L2
/-- texts as they are handed in: short enough, plain signs -/
def plainS (z : Str) : Prop := z.length ≤ 100000 ∧ ∀ c ∈ z.cps.toList, c < 128
theorem plainS.len {z : Str} (h : plainS z) : z.length ≤ 1000000 := Nat.le_trans h.1 (by decide)
/-! ### readings that touch the heap, over what is known of it -/
section
variable {B B' : Hp} {M M' L L' : List (Addr × HO)}
variable {σ σ' : St} {H : Hp} {Q : VK} {v x y : V} {i : Nat} {ta tb tc te : TE} {D : Ends} {t u : TS} {c c' : TT} {K : PySem.W.Frag} {R : It → Hp → Prop}
variable {nx bk ct : St → Hp → Prop} {rt : VK} {QB : Bool → Hp → Prop} {QL : List V → Hp → Prop} {QS : St → Hp → Prop} {tl tr : TA} {r r' : R2}
theorem sz6 {n : Nat} (h : n ≤ 1000000) : n ≤ sizeLine := Nat.le_trans h (by decide)
theorem sz6' {n : Nat} (h : n < 1000000) : n < sizeLine := Nat.lt_of_lt_of_le h (by decide)
def aLst (xs : List V) (H : Hp) (Q : VK) : Prop := xs.length ≤ sizeLine ∧ ∀ p, H p = none → Q (.ref p) (upd H p (.lst xs))
def aTup (xs : List V) (H : Hp) (Q : VK) : Prop := xs.length ≤ sizeLine ∧ ∀ p, H p = none → Q (.ref p) (upd H p (.tup xs))
theorem g_lst (h : tl σ H fun xs H1 => aLst xs H1 Q) : tLst tl σ H Q := h
theorem g_tup (h : tl σ H fun xs H1 => aTup xs H1 Q) : tTup tl σ H Q := h
theorem g_aLst {xs : List V} (I : Is B M L H) (h : xs.length ≤ 1000000) (q : ∀ p H', Is B M ((p, .lst xs) :: L) H' → Q (.ref p) H') : aLst xs H Q :=
  ⟨sz6 h, fun p hp => q p _ (I.new hp)⟩
theorem g_aTup {xs : List V} (I : Is B M L H) (h : xs.length ≤ 1000000) (q : ∀ p H', Is B M ((p, .tup xs) :: L) H' → Q (.ref p) H') : aTup xs H Q :=
  ⟨sz6 h, fun p hp => q p _ (I.new hp)⟩
/-- list + list -/
theorem g_add_l {a b : Addr} {xs ys : List V} (I : Is B M L H) (ha : H a = some (.lst xs)) (hb : H b = some (.lst ys)) (h : xs.length + ys.length ≤ 1000000)
    (q : ∀ p H', Is B M ((p, .lst (xs ++ ys)) :: L) H' → Q (.ref p) H') : rAddA K (.ref a) (.ref b) H Q :=
  .inr (.inr (.inl ⟨a, b, xs, ys, rfl, rfl, ha, hb, sz6 h, fun p hp => q p _ (I.new hp)⟩))
theorem g_mul_l {a : Addr} {xs : List V} {n : Nat} (I : Is B M L H) (ha : H a = some (.lst xs)) (h : xs.length * n ≤ 1000000) (hn : n ≤ 1000000)
    (q : ∀ p H', Is B M ((p, .lst (List.replicate n xs).flatten) :: L) H' → Q (.ref p) H') : rMulA (.ref a) (.int (n : Int)) H Q :=
  .inr (.inr ⟨a, n, xs, rfl, rfl, ha, by omega, by omega, by rw [Int.toNat_natCast]; exact sz6 h, fun p hp => by rw [Int.toNat_natCast]; exact q p _ (I.new hp)⟩)
theorem g_sl_l {a : Addr} {xs : List V} {lo hi : Option Int} (I : Is B M L H) (ha : SqL K H a xs) (q : ∀ p H', Is B M ((p, .lst (cutV xs lo hi)) :: L) H' → Q (.ref p) H') : rSlA K (.ref a) lo hi H Q :=
  .inl ⟨a, xs, rfl, ha, fun p hp => q p _ (I.new hp)⟩
theorem g_sl_t {a : Addr} {xs : List V} {lo hi : Option Int} (I : Is B M L H) (ha : SqT K H a xs) (hn : ¬ (HT.sIx xs.length 0 lo = 0 ∧ HT.sIx xs.length xs.length hi = xs.length)) (q : ∀ p H', Is B M ((p, .tup (cutV xs lo hi)) :: L) H' → Q (.ref p) H') : rSlA K (.ref a) lo hi H Q :=
  .inr (.inr ⟨a, xs, rfl, ha, hn, fun p hp => q p _ (I.new hp)⟩)
theorem g_add_t {a b : Addr} {xs ys : List V} (I : Is B M L H) (ha : SqT K H a xs) (hb : SqT K H b ys) (h0 : xs ≠ []) (h1 : ys ≠ []) (h : xs.length + ys.length ≤ 1000000)
    (q : ∀ p H', Is B M ((p, .tup (xs ++ ys)) :: L) H' → Q (.ref p) H') : rAddA K (.ref a) (.ref b) H Q :=
  .inr (.inr (.inr ⟨a, b, xs, ys, rfl, rfl, ha, hb, h0, sz6 h, fun e => absurd e h1, fun _ p hp => q p _ (I.new hp)⟩))
/-- new lists of texts -/
theorem g_newS {ys : List Str} (I : Is B M L H) (q : ∀ p H', Is B M ((p, .lst (ys.map V.str)) :: L) H' → Q (.ref p) H') : rNewStrs ys H Q := fun p hp => q p _ (I.new hp)
/-- append -/
theorem g_app {l : Addr} {xs : List V} (I : Is B M L H) (hl : H l = some (.lst xs)) (h : xs.length < 1000000) (u : Put l (.lst (xs ++ [v])) L L') (q : ∀ H', Is B M L' H' → Q .non H') : rAppend (.ref l) [v] H Q :=
  ⟨l, xs, v, rfl, rfl, hl, sz6' h, q _ (I.put u)⟩
theorem g_tyL {l : Addr} {xs : List V} {A : Prop} (hl : H l = some (.lst xs)) (h : A) : tyV K "list" (.ref l) H ∧ A := ⟨.inl ⟨rfl, xs, SqL.of hl⟩, h⟩
/-- xs[i] = v -/
def aSetL (o i v : V) (H : Hp) (Q : Hp → Prop) : Prop := rSetL o i v H Q
theorem g_sub {to ti : TE} {ts : TSet} (h : to σ H fun o H1 => ti σ H1 fun i H2 => ts o i v H2 fun H3 => QS σ H3) : gSub to ti ts v σ H QS := h
theorem g_setL {l : Addr} {xs : List V} {n : Int} {QH : Hp → Prop} (I : Is B M L H) (hl : H l = some (.lst xs)) (h0 : 0 ≤ n) (h1 : n < xs.length) (u : Put l (.lst (xs.set n.toNat v)) L L') (q : ∀ H', Is B M L' H' → QH H') : rSetL (.ref l) (.int n) v H QH :=
  ⟨l, xs, n, n.toNat, rfl, rfl, hl, ixN_of h0 h1, q _ (I.put u)⟩
theorem g_setLM {l : Addr} {xs : List V} {n : Int} {QH : Hp → Prop} (I : Is B M L H) (hl : H l = some (.lst xs)) (h0 : 0 ≤ n) (h1 : n < xs.length) (u : Put l (.lst (xs.set n.toNat v)) M M') (q : ∀ H', Is B M' L H' → QH H') : rSetL (.ref l) (.int n) v H QH :=
  ⟨l, xs, n, n.toNat, rfl, rfl, hl, ixN_of h0 h1, q _ (I.putM u)⟩
/-- unpacking a tuple -/
theorem g_gTup {a : Addr} {xs : List V} {n : Nat} {ts : TGs} (h : SqT K H a xs) (hl : xs.length = n) (q : ts xs σ H QS) : gTup K n ts (.ref a) σ H QS := ⟨a, xs, rfl, h, hl, q⟩
theorem g_gCons {g : TG} {ts : TGs} {rest : List V} (q : g v σ H fun σ' H' => ts rest σ' H' QS) : gCons g ts (v :: rest) σ H QS := ⟨v, rest, rfl, q⟩
theorem g_gNil (q : QS σ H) : gNil [] σ H QS := ⟨rfl, q⟩
/-! dicts with text keys -/
inductive KGet : List (Key × V) → Key → V → Prop
  | here {k : Key} {v : V} {l : List (Key × V)} : KGet ((k, v) :: l) k v
  | there {k k' : Key} {v v' : V} {l : List (Key × V)} : ¬ k' = k → KGet l k v → KGet ((k', v') :: l) k v
inductive NoKey (k : Key) : List (Key × V) → Prop
  | nil : NoKey k []
  | cons {k' : Key} {v' : V} {l : List (Key × V)} : ¬ k' = k → NoKey k l → NoKey k ((k', v') :: l)
inductive KPut (k : Key) (v : V) : List (Key × V) → List (Key × V) → Prop
  | here {u : V} {l : List (Key × V)} : NoKey k l → KPut k v ((k, u) :: l) ((k, v) :: l)
  | there {k' : Key} {u : V} {l l' : List (Key × V)} : ¬ k' = k → KPut k v l l' → KPut k v ((k', u) :: l) ((k', u) :: l')
theorem KGet.eq {kvs : List (Key × V)} {k : Key} (h : KGet kvs k v) : valV kvs k = some v := by
  induction h with
  | here => exact valV_pos rfl
  | there hne _ ih =>
    rw [valV_neg (show ¬ _ = _ from hne)]
    exact ih
theorem NoKey.map {k : Key} {kvs : List (Key × V)} (h : NoKey k kvs) : kvs.map (fun kv => if kv.1 = k then (kv.1, v) else kv) = kvs := by
  induction h with
  | nil => rfl
  | cons hne _ ih => rw [List.map_cons, if_neg hne, ih]
theorem KPut.any {k : Key} {kvs kvs' : List (Key × V)} (h : KPut k v kvs kvs') : (kvs.any fun kv => decide (kv.1 = k)) = true ∧ kvs.map (fun kv => if kv.1 = k then (kv.1, v) else kv) = kvs' := by
  induction h with
  | here hn =>
    refine ⟨by simp, ?_⟩
    rw [List.map_cons, if_pos rfl, hn.map]
  | there hne _ ih =>
    refine ⟨by rw [List.any_cons, ih.1, Bool.or_true], ?_⟩
    rw [List.map_cons, if_neg hne, ih.2]
theorem KPut.eq {k : Key} {kvs kvs' : List (Key × V)} (h : KPut k v kvs kvs') : putK kvs k v = kvs' := by
  unfold putK
  rw [if_pos h.any.1]
  exact h.any.2
def aDGet (x y : V) (H : Hp) (Q : VK) : Prop := ∃ a v, x = .ref a ∧ DGet H a y (some v) ∧ Q v H
theorem g_dget {td ty : TE} (h : td σ H fun x H1 => ty σ H1 fun y H2 => aDGet x y H2 Q) : tDGet td ty σ H Q := h
theorem g_aDGet {a : Addr} {kvs : List (Key × V)} {z : Str} (h : H a = some (.dK kvs)) (e : KGet kvs (Sum.inr z) v) (q : Q v H) : aDGet (.ref a) (.str z) H Q :=
  ⟨a, v, rfl, .inl ⟨kvs, .inr z, .inl h, rfl, e.eq.symm⟩, q⟩
def aDPut (v x y : V) (H : Hp) (Q : Hp → Prop) : Prop := ∃ a H4, x = .ref a ∧ DPut H a y v H4 ∧ Q H4
theorem g_dput {td ty tv : TE} (h : tv σ H fun v H1 => td σ H1 fun x H2 => ty σ H2 fun y H3 => aDPut v x y H3 fun H4 => nx σ H4) : sDPut td ty tv ⟨nx, rt, bk, ct⟩ σ H := by
  exact h
theorem g_aDPut {a : Addr} {kvs kvs' : List (Key × V)} {z : Str} {QH : Hp → Prop} (I : Is B M L H) (h : H a = some (.dK kvs)) (hz : kvs.length < 100000) (kp : KPut (Sum.inr z) v kvs kvs') (u : Put a (.dK kvs') L L') (q : ∀ H', Is B M L' H' → QH H') : aDPut v (.ref a) (.str z) H QH :=
  ⟨a, _, rfl, .inl ⟨kvs, .inr z, h, rfl, sz6' (by omega), rfl⟩, q _ (by rw [kp.eq]; exact I.put u)⟩
theorem g_aDPutM {a : Addr} {kvs kvs' : List (Key × V)} {z : Str} {QH : Hp → Prop} (I : Is B M L H) (h : H a = some (.dK kvs)) (hz : kvs.length < 100000) (kp : KPut (Sum.inr z) v kvs kvs') (u : Put a (.dK kvs') M M') (q : ∀ H', Is B M' L H' → QH H') : aDPut v (.ref a) (.str z) H QH :=
  ⟨a, _, rfl, .inl ⟨kvs, .inr z, h, rfl, sz6' (by omega), rfl⟩, q _ (by rw [kp.eq]; exact I.putM u)⟩
/-! a written dict -/
inductive Snoc {α : Type} (x : α) : List α → List α → Prop
  | nil : Snoc x [] [x]
  | cons {a : α} {l l' : List α} : Snoc x l l' → Snoc x (a :: l) (a :: l')
theorem Snoc.eq {α : Type} {x : α} : ∀ {l l' : List α}, Snoc x l l' → l ++ [x] = l'
  | _, _, .nil => rfl
  | _, _, .cons h => by rw [List.cons_append, h.eq]
inductive Mrg : List (Key × V) → List (V × V) → List (Key × V) → Prop
  | nil {l : List (Key × V)} : Mrg l [] l
  | str {l l' r : List (Key × V)} {z : Str} {v : V} {more : List (V × V)} : NoKey (Sum.inr z) l → Snoc (Sum.inr z, v) l l' → Mrg l' more r → Mrg l ((.str z, v) :: more) r
  | int {l l' r : List (Key × V)} {n : Int} {v : V} {more : List (V × V)} : NoKey (Sum.inl n) l → Snoc (Sum.inl n, v) l l' → Mrg l' more r → Mrg l ((.int n, v) :: more) r
theorem NoKey.any {k : Key} {kvs : List (Key × V)} (h : NoKey k kvs) : (kvs.any fun kv => decide (kv.1 = k)) = false := by
  induction h with
  | nil => rfl
  | cons hne _ ih => rw [List.any_cons, decide_eq_false hne, ih]; rfl
theorem NoKey.put {k : Key} {kvs : List (Key × V)} (h : NoKey k kvs) : putK kvs k v = kvs ++ [(k, v)] := by
  unfold putK
  rw [h.any]
  rfl
theorem Mrg.eq {l : List (Key × V)} {ps : List (V × V)} {r : List (Key × V)} (h : Mrg l ps r) : ∃ kvs : List (Key × V), ps = kvs.map (fun kv => (kV kv.1, kv.2)) ∧ mergeK l kvs = r ∧ kvs.length = ps.length := by
  induction h with
  | nil => exact ⟨[], rfl, rfl, rfl⟩
  | @str l l' r z v more hn hs _ ih =>
    obtain ⟨kvs, e1, e2, e3⟩ := ih
    refine ⟨(Sum.inr z, v) :: kvs, by rw [e1]; rfl, ?_, by simp [e3]⟩
    show mergeK (putK l (Sum.inr z) v) kvs = r
    rw [hn.put, hs.eq]
    exact e2
  | @int l l' r n v more hn hs _ ih =>
    obtain ⟨kvs, e1, e2, e3⟩ := ih
    refine ⟨(Sum.inl n, v) :: kvs, by rw [e1]; rfl, ?_, by simp [e3]⟩
    show mergeK (putK l (Sum.inl n) v) kvs = r
    rw [hn.put, hs.eq]
    exact e2
def aDisp (p : Addr) (ps : List (V × V)) (H : Hp) (Q : VK) : Prop := H p = some (.dK []) ∧ ∃ kvs : List (Key × V), ps = kvs.map (fun kv => (kV kv.1, kv.2)) ∧ kvs.length ≤ 15 ∧ Q (.ref p) (upd H p (.dK (mergeK [] kvs)))
theorem g_disp {trs : List (TE × TE)} (I : Is B M L H) (q : ∀ p H', Is B M ((p, .dK []) :: L) H' → tPairs trs σ H' fun ps H2 => aDisp p ps H2 Q) : tDisp trs σ H Q := fun p hp => q p _ (I.new hp)
theorem g_pnil {QP : List (V × V) → Hp → Prop} (q : QP [] H) : tPairs [] σ H QP := q
theorem g_pcons {tk tv : TE} {r : List (TE × TE)} {QP : List (V × V) → Hp → Prop} (q : tk σ H fun x H1 => tv σ H1 fun y H2 => tPairs r σ H2 fun ps H3 => QP ((x, y) :: ps) H3) : tPairs ((tk, tv) :: r) σ H QP := q
theorem g_aDisp {p : Addr} {ps : List (V × V)} {kvs : List (Key × V)} (I : Is B M L H) (h : H p = some (.dK [])) (m : Mrg [] ps kvs) (hz : ps.length ≤ 15) (u : Put p (.dK kvs) L L') (q : ∀ H', Is B M L' H' → Q (.ref p) H') : aDisp p ps H Q := by
  obtain ⟨k, e1, e2, e3⟩ := m.eq
  refine ⟨h, k, e1, by omega, ?_⟩
  rw [e2]
  exact q _ (I.put u)
theorem g_newK (I : Is B M L H) (q : ∀ p H', Is B M ((p, .dK []) :: L) H' → Q (.ref p) H') : tDNewK σ H Q := fun p hp => q p _ (I.new hp)
/-- an owned thing told as M -/
theorem Is.pull {a : Addr} {o : HO} (I : Is B M L H) (d : Del a o L L') : Is B ((a, o) :: M) L' H := by
  have pm : (L ++ M).Perm (L' ++ ((a, o) :: M)) := (d.perm.append_right M).trans List.perm_middle.symm
  exact ⟨I.ex, fun q hq => I.own q (pm.mem_iff.mpr hq), (pm.map (·.1)).nodup_iff.mp I.nd⟩
/-- given away, as one asks it -/
theorem Is.give {a : Addr} {o : HO} {G : Prop} (I : Is B M L H) (d : Del a o L L') (k : ∀ B', Same B B' → B' a = some o → Is B' M L' H → G) : G := by
  obtain ⟨h1, h2⟩ := I.frz d
  exact k _ h2 upd_same h1
/-! comprehensions: P of the turn, what is made so far, what stays and M -/
def aLc (J : It) (g : TG) (tt : TT) (te : TE) (vs : List Nat) (σ : St) (H1 : Hp) (Q : VK) : Prop :=
  ∀ D, H1 D = none → ∃ W : Nat → Nat → Hp → Prop, (∃ m, W 0 m (upd H1 D (.lst []))) ∧ ∀ i m H, W i m H →
    (J.stop i H ∧ Q (.ref D) H) ∨ (J.go i H ∧ ∃ Nx : Hp → Prop, (∀ H', Nx H' → ∃ m', m' < m ∧ W (i + 1) m' H') ∧ ∀ x H', J.yld i H x H' → g x (wipe σ vs) H' fun σ2 H2 => wipe σ2 vs = wipe σ vs ∧ tt σ2 H2 fun b H3 =>
      if b = true then te σ2 H3 fun y H4 => ∃ acc, H4 D = some (.lst acc) ∧ acc.length < sizeLine ∧ Nx (upd H4 D (.lst (acc ++ [y]))) else Nx H3)
theorem g_lc {wi : TI} {g : TG} {tt : TT} {vs : List Nat} (h : wi σ H fun J H1 => aLc J g tt te vs σ H1 Q) : tLc wi g tt te vs σ H Q := h
/-- between two turns; at a turn's end with an item, without one -/
def LcI (P : Nat → List V → Hp → List (Addr × HO) → Prop) (B : Hp) (L : List (Addr × HO)) (D : Addr) (i : Nat) (H : Hp) : Prop :=
  ∃ acc B' M', Same B B' ∧ acc.length ≤ i ∧ i ≤ 900000 ∧ Is B' M' ((D, .lst acc) :: L) H ∧ P i acc B' M'
def LcY (P : Nat → List V → Hp → List (Addr × HO) → Prop) (B : Hp) (L : List (Addr × HO)) (D : Addr) (i : Nat) (y : V) (H : Hp) : Prop :=
  ∃ acc, H D = some (.lst acc) ∧ acc.length < sizeLine ∧ LcI P B L D (i + 1) (upd H D (.lst (acc ++ [y])))
theorem lcY {P : Nat → List V → Hp → List (Addr × HO) → Prop} {D : Addr} {acc : List V} (s : Same B B') (I : Is B' M' ((D, .lst acc) :: L) H) (hl : acc.length ≤ i ∧ i < 900000) (p : P (i + 1) (acc ++ [y]) B' M') : LcY P B L D i y H :=
  ⟨acc, I.get List.mem_cons_self, sz6' (by omega), acc ++ [y], B', M', s, by rw [List.length_append]; simpa using hl.1, by omega, I.put .here, p⟩
theorem lcN {P : Nat → List V → Hp → List (Addr × HO) → Prop} {D : Addr} {acc : List V} (s : Same B B') (I : Is B' M' ((D, .lst acc) :: L) H) (hl : acc.length ≤ i ∧ i < 900000) (p : P (i + 1) acc B' M') : LcI P B L D (i + 1) H :=
  ⟨acc, B', M', s, by omega, by omega, I, p⟩
theorem g_aLc {J : It} {n : Nat} {G : Hp → Prop} {Y : Nat → Hp → V → Hp → Prop} {g : TG} {tt : TT} {vs : List Nat} {σ0 : St} (w : Walk J n G Y) (I : Is B M L H) (hw : Wiped σ vs σ0) (hz : n ≤ 900000)
    (P : Nat → List V → Hp → List (Addr × HO) → Prop) (h0 : P 0 [] B M)
    (hG : ∀ i acc B' M' D H', i ≤ n → Same B B' → Is B' M' ((D, .lst acc) :: L) H' → P i acc B' M' → G H')
    (hs : ∀ i x acc B' M' D H' H'', i < n → Same B B' → Is B' M' ((D, .lst acc) :: L) H' → P i acc B' M' → Y i H' x H'' → (acc.length ≤ i ∧ i < 900000) →
      g x σ0 H'' fun σ2 H2 => wipe σ2 vs = σ0 ∧ tt σ2 H2 fun b H3 => if b = true then te σ2 H3 fun y H4 => LcY P B L D i y H4 else LcI P B L D (i + 1) H3)
    (hd : ∀ acc B' M' D H', Same B B' → Is B' M' ((D, .lst acc) :: L) H' → P n acc B' M' → acc.length ≤ n → Q (.ref D) H') : aLc J g tt te vs σ H Q := by
  intro D hD
  refine lc_it w (fun i H' => LcI P B L D i H') ⟨[], B, M, Same.refl B, Nat.le_refl _, by omega, I.new hD, h0⟩ ?_ ?_ ?_
  · rintro i H' hi ⟨acc, B', M', s, hl, _, I', p⟩
    exact hG i acc B' M' D H' hi s I' p
  · rintro i x H' H'' hi ⟨acc, B', M', s, hl, _, I', p⟩ yy
    rw [hw.eq]
    exact hs i x acc B' M' D H' H'' hi s I' p yy ⟨hl, by omega⟩
  · rintro H' ⟨acc, B', M', s, hl, _, I', p⟩
    exact hd acc B' M' D H' s I' p hl
/-- a comprehension that neither draws nor changes: (xs.filter p).map f -/
theorem g_lcM {J : It} {xs : List V} {G : Hp → Prop} {g : TG} {tt : TT} {vs : List Nat} {σ0 : St} (w : Walk J xs.length G (YAt xs)) (I : Is B M L H) (hw : Wiped σ vs σ0) (hz : xs.length ≤ 900000) (p : V → Bool) (f : V → V)
    (hG : ∀ D acc H', Is B M ((D, .lst acc) :: L) H' → G H')
    (hs : ∀ (i : Nat) (x : V) (D : Addr) (acc : List V) (H' : Hp), xs[i]? = some x → Is B M ((D, .lst acc) :: L) H' → ∀ (PY : V → Hp → Prop) (PN : Hp → Prop), (∀ H4, p x = true → Is B M ((D, .lst acc) :: L) H4 → PY (f x) H4) → (∀ H3, p x = false → Is B M ((D, .lst acc) :: L) H3 → PN H3) →
      g x σ0 H' fun σ2 H2 => wipe σ2 vs = σ0 ∧ tt σ2 H2 fun b H3 => if b = true then te σ2 H3 fun y H4 => PY y H4 else PN H3)
    (hd : ∀ D H', Is B M ((D, .lst ((xs.filter p).map f)) :: L) H' → Q (.ref D) H') : aLc J g tt te vs σ H Q := by
  refine g_aLc w I hw hz (fun i acc B' M' => B' = B ∧ M' = M ∧ acc = ((xs.take i).filter p).map f) ⟨rfl, rfl, rfl⟩ ?_ ?_ ?_
  · rintro i acc B' M' D H' _ s I' ⟨rfl, rfl, rfl⟩
    exact hG D _ H' I'
  · rintro i x acc B' M' D H' H'' hi s I' ⟨rfl, rfl, e⟩ ⟨rfl, hx⟩ hl
    refine hs i x D acc H'' hx I' _ _ (fun H4 hp I4 => lcY s I4 hl ⟨rfl, rfl, ?_⟩) fun H3 hp I3 => lcN s I3 hl ⟨rfl, rfl, ?_⟩
    · rw [List.take_add_one, hx, e]
      show _ = List.map f (List.filter p (xs.take i ++ [x]))
      rw [List.filter_append, List.map_append, List.filter_cons, if_pos hp]
      rfl
    · rw [List.take_add_one, hx, e]
      show _ = List.map f (List.filter p (xs.take i ++ [x]))
      rw [List.filter_append, List.map_append, List.filter_cons, if_neg (by rw [hp]; exact Bool.false_ne_true)]
      simp
  · rintro acc B' M' D H' s I' ⟨rfl, rfl, rfl⟩ _
    rw [List.take_length] at I'
    exact hd D H' I'
/-- signs of a text -/
def sg (c : Nat) : V := .str ⟨#[c]⟩
def signs (z : Str) : List V := z.cps.toList.map sg
theorem signs_len (z : Str) : (signs z).length = z.length := by unfold signs; rw [List.length_map]; rfl
theorem walkS {z : Str} : Walk (Its z) (signs z).length (fun _ => True) (YAt (signs z)) := by
  have w := walk_str (z := z)
  have e : z.cps.size = (signs z).length := by unfold signs; simp
  rw [e] at w
  refine w.mono (fun _ _ => trivial) fun i H x H' hi _ y => ?_
  obtain ⟨h1, c, h2, h3⟩ := y
  refine ⟨h1, ?_⟩
  unfold signs
  rw [List.getElem?_map, ← Array.getElem?_toList] at *
  rw [h2, h3]
  rfl
def rng (lo : Int) (n : Nat) : List V := (List.range n).map fun (i : Nat) => V.int (lo + (i : Int))
theorem rng_len (lo : Int) (n : Nat) : (rng lo n).length = n := by unfold rng; simp
theorem walkR {lo : Int} {n : Nat} : Walk (Itr lo n) (rng lo n).length (fun _ => True) (YAt (rng lo n)) := by
  have w := walk_range (lo := lo) (n := n)
  rw [rng_len]
  refine w.mono (fun _ _ => trivial) fun i H x H' hi _ y => ?_
  obtain ⟨h1, h2⟩ := y
  refine ⟨h1, ?_⟩
  unfold rng
  rw [List.getElem?_map, List.getElem?_range hi, h2]
  rfl
theorem signs_mem {z : Str} {x : V} {i : Nat} (h : (signs z)[i]? = some x) : ∃ c, c ∈ z.cps.toList ∧ x = .str ⟨#[c]⟩ := by
  unfold signs at h
  rw [List.getElem?_map] at h
  cases e : z.cps.toList[i]? with
  | none => rw [e] at h; cases h
  | some c => rw [e] at h; exact ⟨c, List.mem_of_getElem? e, (Option.some.inj h).symm⟩
def unsg (f : Nat → V) (v : V) : V := match v with
  | .str y => f (y.cps.getD 0 0)
  | _ => .non
def unsgB (f : Nat → Bool) (v : V) : Bool := match v with
  | .str y => f (y.cps.getD 0 0)
  | _ => false
theorem map_unsg (f : Nat → V) : ∀ l : List Nat, (l.map sg).map (unsg f) = l.map f
  | [] => rfl
  | c :: l => by rw [List.map_cons, List.map_cons, List.map_cons, map_unsg f l]; rfl
theorem filter_unsg (p : Nat → Bool) : ∀ l : List Nat, (l.map sg).filter (unsgB p) = (l.filter p).map sg
  | [] => rfl
  | c :: l => by
    have e : unsgB p (sg c) = p c := rfl
    rw [List.map_cons, List.filter_cons, List.filter_cons, e, filter_unsg p l]
    cases p c <;> simp
/-- over a text's signs, with a test -/
theorem g_lcS {z : Str} {g : TG} {tt : TT} {vs : List Nat} {σ0 : St} (I : Is B M L H) (hw : Wiped σ vs σ0) (hz : z.length ≤ 900000) (p : Nat → Bool) (f : Nat → V)
    (hs : ∀ (c : Nat) (D : Addr) (acc : List V) (H' : Hp), c ∈ z.cps.toList → Is B M ((D, .lst acc) :: L) H' → ∀ (PY : V → Hp → Prop) (PN : Hp → Prop), (∀ H4, p c = true → Is B M ((D, .lst acc) :: L) H4 → PY (f c) H4) → (∀ H3, p c = false → Is B M ((D, .lst acc) :: L) H3 → PN H3) →
      g (.str ⟨#[c]⟩) σ0 H' fun σ2 H2 => wipe σ2 vs = σ0 ∧ tt σ2 H2 fun b H3 => if b = true then te σ2 H3 fun y H4 => PY y H4 else PN H3)
    (hd : ∀ D H', Is B M ((D, .lst ((z.cps.toList.filter p).map f)) :: L) H' → Q (.ref D) H') : aLc (Its z) g tt te vs σ H Q := by
  refine g_lcM walkS I hw (by rw [signs_len]; exact hz) (unsgB p) (unsg f) (fun _ _ _ _ => trivial) ?_ ?_
  · intro i x D acc H' hx hI' PY PN hY hN
    obtain ⟨c, hc, rfl⟩ := signs_mem hx
    exact hs c D acc H' hc hI' PY PN hY hN
  · intro D H' hI'
    have e : (List.filter (unsgB p) (signs z)).map (unsg f) = (z.cps.toList.filter p).map f := by
      unfold signs
      rw [filter_unsg, map_unsg]
    rw [e] at hI'
    exact hd D H' hI'
/-- .. without one -/
theorem g_lcS1 {z : Str} {g : TG} {vs : List Nat} {σ0 : St} (I : Is B M L H) (hw : Wiped σ vs σ0) (hz : z.length ≤ 900000) (f : Nat → V)
    (hs : ∀ (c : Nat) (D : Addr) (acc : List V) (H' : Hp), c ∈ z.cps.toList → Is B M ((D, .lst acc) :: L) H' → ∀ (PY : V → Hp → Prop), (∀ H4, Is B M ((D, .lst acc) :: L) H4 → PY (f c) H4) →
      g (.str ⟨#[c]⟩) σ0 H' fun σ2 H2 => wipe σ2 vs = σ0 ∧ te σ2 H2 fun y H4 => PY y H4)
    (hd : ∀ D H', Is B M ((D, .lst (z.cps.toList.map f)) :: L) H' → Q (.ref D) H') : aLc (Its z) g tYes te vs σ H Q := by
  refine g_lcS I hw hz (fun _ => true) f ?_ ?_
  · intro c D acc H' hc hI' PY PN hY hN
    exact hs c D acc H' hc hI' PY fun H4 => hY H4 rfl
  · intro D H' hI'
    have e : z.cps.toList.filter (fun _ => true) = z.cps.toList := List.filter_eq_self.mpr fun _ _ => rfl
    rw [e] at hI'
    exact hd D H' hI'
theorem g_all {α : Type} {D : Addr} {l : List α} {P : α → Bool} (h : SqL K H D (l.map fun c => V.bl (P c))) (q : Q (.bl (l.all P)) H) : rAll K [.ref D] H Q := by
  refine ⟨D, l.map P, rfl, ?_, ?_⟩
  · rw [List.map_map]
    exact h
  · rw [List.all_map]
    exact q
theorem g_wiped {σ1 : St} {vs : List Nat} {A : Prop} (w : Wiped σ vs σ1) (h : A) : wipe σ vs = σ1 ∧ A := ⟨w.eq, h⟩
theorem g_yes (h : QB true H) : tYes σ H QB := h
theorem g_true {A E : Prop} (h : A) : if true = true then A else E := by rw [if_pos rfl]; exact h
theorem g_false {A E : Prop} (h : E) : if false = true then A else E := by rw [if_neg Bool.false_ne_true]; exact h
theorem g_ntrue {A E : Prop} (h : E) : if (!true) = true then A else E := g_false h
theorem g_nfalse {A E : Prop} (h : A) : if (!false) = true then A else E := g_true h
theorem g_dec {p : Prop} [Decidable p] {A E : Prop} (h1 : p → A) (h2 : ¬ p → E) : if decide p = true then A else E := by
  by_cases h : p
  · rw [decide_eq_true h]
    exact g_true (h1 h)
  · rw [decide_eq_false h]
    exact g_false (h2 h)
theorem g_ndec {p : Prop} [Decidable p] {A E : Prop} (h1 : ¬ p → A) (h2 : p → E) : if (!decide p) = true then A else E := by
  by_cases h : p
  · rw [decide_eq_true h]
    exact g_false (h2 h)
  · rw [decide_eq_false h]
    exact g_true (h1 h)
theorem g_b {b : Bool} {A E : Prop} (h1 : b = true → A) (h2 : b = false → E) : if b = true then A else E := by
  cases b with
  | true => exact g_true (h1 rfl)
  | false => exact g_false (h2 rfl)
theorem g_nb {b : Bool} {A E : Prop} (h1 : b = false → A) (h2 : b = true → E) : if (!b) = true then A else E := by
  cases b with
  | true => exact g_false (h2 rfl)
  | false => exact g_true (h1 rfl)
end
end Bz
namespace Bz
open PySem PySem.Spec PyProof.Rows L2
/-! ### rules by their own names -/
def rIntS : List V → Hp → VK → Prop := fun xs H Q => ∃ a n, xs = [.str a] ∧ PySem.intText? a = some n ∧ a.length ≤ 640 ∧ Q (.int n) H
def rStrI : List V → Hp → VK → Prop := fun xs H Q => ∃ i, xs = [.int i] ∧ i.natAbs.log2 < 1920 ∧ Q (.str (toString i)) H
def rSplit : V → List V → Hp → VK → Prop := fun x xs H Q => ∃ a b, x = .str a ∧ xs = [.str b] ∧ (b.length == 0) = false ∧ a.length + 2 ≤ sizeLine ∧ rNewStrs (Txt.split a b) H Q
def rJoin (K : PySem.W.Frag) : V → List V → Hp → VK → Prop := fun x xs H Q => ∃ a p, ∃ ys : List Str, x = .str a ∧ xs = [.ref p] ∧ (SqL K H p (ys.map V.str) ∨ SqT K H p (ys.map V.str)) ∧ (ys.map (·.length)).sum + ys.length * a.length ≤ 16777216 ∧ Q (.str (Txt.join a ys)) H
def rIndexS : V → List V → Hp → VK → Prop := fun x xs H Q => ∃ a b k, x = .str a ∧ xs = [.str b] ∧ Txt.index0 a b = some k ∧ Q (.int (k : Nat)) H
def rListOf (K : PySem.W.Frag) : List V → Hp → VK → Prop := fun xs H Q => ∃ p ys, xs = [.ref p] ∧ (SqL K H p ys ∨ SqT K H p ys) ∧ ∀ l, H l = none → Q (.ref l) (upd H l (.lst ys))
section
variable {X : Cx}
theorem cl_intS : CallR X (.type "int") rIntS := call_int_str
theorem cl_strI : CallR X (.type "str") rStrI := call_str_int
theorem cl_listOf : CallR X (.type "list") (rListOf X.K) := call_list_of
theorem mt_indexS : MtR X "str.index" rIndexS := by
  intro pins s σ H x xs v us Q I rx rs h
  obtain ⟨a, b, k, rfl, rfl, hk, q⟩ := h
  obtain ⟨t, rfl⟩ := rx
  cases rs with
  | cons r1 rs =>
    cases rs
    obtain ⟨u, rfl⟩ := r1
    cases e : Builtin.Str.occurrences a b 0 a.length 1 with
    | nil =>
      unfold Txt.index0 at hk
      rw [e] at hk
      cases hk
    | cons j rest =>
      have ej : j = k := by
        unfold Txt.index0 at hk
        rw [e] at hk
        exact Option.some.inj hk
      subst ej
      exact PySem.SC.index e ⟨.int (j : Nat), H, I.tok _, ⟨_, rfl⟩, q⟩
/-- tuple * int -/
def rRepTT (K : PySem.W.Frag) : R2 := fun x y H Q => ∃ l k xs, x = .ref l ∧ y = .int k ∧ SqT K H l xs ∧ xs ≠ [] ∧ 2 ≤ k ∧ k ≤ 100000 ∧ xs.length ≤ 10 ∧ ∀ p, H p = none → Q (.ref p) (upd H p (.tup (List.replicate k.toNat xs).flatten))
theorem op_repTT : OpR X (binaryOp .Mult) (rRepTT X.K) := by
  intro pins s σ H x y v u Q I rx ry h
  obtain ⟨l, k, xs, rfl, rfl, hT, hne, h1, h2, hz, q⟩ := h
  cases rx
  obtain ⟨t, rfl⟩ := ry
  obtain ⟨its, r, ⟨⟨cls, dd, data, sl⟩, ho, hc, n, hd⟩, hs⟩ := I.tuple hT
  simp only at hc hd
  subst hc hd
  have hle : its.length = xs.length := r.length.symm
  have hi : its.toArray.isEmpty = false := by
    cases its with
    | nil => exact absurd (List.eq_nil_of_length_eq_zero hle.symm) hne
    | cons a b => rfl
  have hsz0 : its.toArray.size = xs.length := by rw [List.size_toArray, hle]
  have hm : ((its.toArray.size : Nat) : Int) * k ≤ 1000000 := by
    rw [hsz0]
    have a1 : ((xs.length : Nat) : Int) * k ≤ 10 * k := Int.mul_le_mul_of_nonneg_right (by omega) (by omega)
    omega
  have flen : k.toNat * its.length ≤ 1000000 := by
    have a1 : k.toNat * its.length ≤ 100000 * 10 := Nat.mul_le_mul (by omega) (by omega)
    omega
  have e0 := sizeLine_eq
  have c0 : (decide (k < -(2 ^ 63)) || decide (k ≥ 2 ^ 63)) = false := by
    rw [decide_eq_false (by omega), decide_eq_false (by omega)]
    rfl
  have c1 : (its.toArray.isEmpty || k == 1) = false := by rw [hi, Bool.false_or]; exact beq_eq_false_iff_ne.mpr (by omega)
  have c2 : (decide (k ≤ 0) || its.toArray.isEmpty) = false := by rw [hi, Bool.or_false]; exact decide_eq_false (by omega)
  have c4 : Builtin.Tuple.tupleTooMany (((its.toArray.size : Nat) : Int) * k) = false := by
    unfold Builtin.Tuple.tupleTooMany
    exact decide_eq_false (by omega)
  have g2 := call_meets (prog := X.prog) (w := X.w) (A := X.A) (E := X.xe) (s := s) (Q := EP X pins σ Q) PySem.F.slot_tuple_mul (show s.TypeIs (.ref l) "tuple" from ⟨_, ho, rfl⟩) PySem.F.entry_tuple_mul (PySem.F.args_tuple_mul_2 _ _)
    (tuple_mulW l its.toArray n dd sl k t c0 c1 c2 (by omega) c4 (by rw [size_rep, List.size_toArray, PyProof.Rows.lm_len_rep_flat]; omega)) ⟨ho, by
      rw [size_rep]
      refine ⟨.ref s.heap.objs.size, _, I.laid (t' := s.toks) (o := .tup (List.replicate k.toNat xs).flatten) (fun b ob q => Heap.get?_push_of_some _ q) (Nat.le_refl _) ?_, rfl, q _ (I.hok.fresh (Nat.le_refl _))⟩
      exact ⟨by rw [PyProof.Rows.lm_len_rep_flat, ← hle]; omega, _, r.rep k.toNat, IsTup.new _ _⟩⟩
  exact wpAny_binaryOp_repeat_ref (T := "tuple") (U := "int") (by decide) ⟨_, ho, rfl⟩ (fun s' => typeIs_int s' k t) noFill_tuple_mul PySem.F.fills_int_mul PySem.F.slot_int_rmul repeat_tuple PySem.F.slot_int_index.lookup
    (call_meets PySem.F.slot_int_rmul (typeIs_int s k t) PySem.F.entry_int_rmul (PySem.F.args_int_rmul_2 _ _) (int_rmul_tuple k t l its.toArray n dd sl) ⟨ho, rfl, ⟨_, ho, rfl⟩, g2⟩)
/-! the module's names -/
theorem pe_gI {x : Str} {i : Int} {pos : Pos} (h : ∃ t, X.mg x = some (.int i t)) (gl : Gl X x := by rfl) (hd : (x == ("__debug__" : Str)) = false := by decide) : PE X (.Name x pos) (tC (.int i)) := by
  obtain ⟨t, h⟩ := h
  exact pe_glob gl h ⟨_, rfl⟩ hd
theorem pe_gS {x z : Str} {pos : Pos} (h : ∃ t, X.mg x = some (.str z t)) (gl : Gl X x := by rfl) (hd : (x == ("__debug__" : Str)) = false := by decide) : PE X (.Name x pos) (tC (.str z)) := by
  obtain ⟨t, h⟩ := h
  exact pe_glob gl h ⟨_, rfl⟩ hd
theorem pe_gR {x : Str} {a : Addr} {pos : Pos} (h : X.mg x = some (.ref a)) (gl : Gl X x := by rfl) (hd : (x == ("__debug__" : Str)) = false := by decide) : PE X (.Name x pos) (tC (.ref a)) := pe_glob gl h rfl hd
end
/-! ### calls of the text's defs -/
structure CallOk (P : Program) (w : World) (K : PySem.W.Frag) (mg : Str → Option Value) (base : Heap) (CX : CXT) (k : Nat) (x : Str) (n : Nat) (ks : List Str) (sp : Sp) (gV : List V → List V → List V) : Prop where
  ok : ∃ fd ps g, FnG P w K mg base CX k (He.ga K x) fd ps sp ∧ KBn K fd ps n ks g gV
  at_ : mg x = some (.ref (He.ga K x))
  kp : PySem.W.keepIn K (.ref (He.ga K x)) = true
section
variable {X : Cx} {CX : CXT} {k k' n : Nat} {ks : List Str} {sp : Sp} {E : XK} {x : Str} {p pos : Pos} {e : Expr} {es : List Expr} {kws : List Keyword} {t tk : TA} {gV : List V → List V → List V}
theorem pe_ca (c : CallOk X.prog X.w X.K X.mg X.base CX k x n ks sp gV) (hr : Room k' X.A) (hk : k ≤ k') (hg : X.A.guards = some []) (gl : Gl X x) (hx : Passes CX X E) (ha : PA X (e :: es) t) (hkw : PK X kws tk)
    (h1 : (backToKw pos (keywordEach kws X.env)).all (·.1.isSome) = true := by rfl) (h2 : (backToKw pos (keywordEach kws X.env)).filterMap (·.1) = ks := by rfl)
    (h3 : (x == ("__debug__" : Str)) = false := by decide) (h4 : starEach (e :: es) X.env = (false, eval e X.env) :: starEach es X.env := by rfl)
    (h5 : ((backTo pos (starEach (e :: es) X.env)).any (·.1) || (backToKw pos (keywordEach kws X.env)).any (·.1.isNone)) = false := by rfl) :
    PE X (.Call (.Name x p) (e :: es) kws pos) (tCl n ks.length sp gV E t tk) := by
  obtain ⟨⟨fd, ps, g, F, kb⟩, a, kp⟩ := c
  exact pe_cl F (hr.mono hk) hg gl a kp kb hx ha hkw h1 h2 h3 h4 h5
theorem pe_ca0 (c : CallOk X.prog X.w X.K X.mg X.base CX k x n ks sp gV) (hr : Room k' X.A) (hk : k ≤ k') (hg : X.A.guards = some []) (gl : Gl X x) (hx : Passes CX X E) (hkw : PK X kws tk)
    (h1 : (backToKw pos (keywordEach kws X.env)).all (·.1.isSome) = true := by rfl) (h2 : (backToKw pos (keywordEach kws X.env)).filterMap (·.1) = ks := by rfl)
    (h3 : (x == ("__debug__" : Str)) = false := by decide)
    (h5 : ((backTo pos (starEach [] X.env)).any (·.1) || (backToKw pos (keywordEach kws X.env)).any (·.1.isNone)) = false := by rfl) :
    PE X (.Call (.Name x p) [] kws pos) (tCl n ks.length sp gV E tNil tk) := by
  obtain ⟨⟨fd, ps, g, F, kb⟩, a, kp⟩ := c
  exact pe_cl0 F (hr.mono hk) hg gl a kp kb hx hkw h1 h2 h3 h5
end
end Bz
namespace Bz
open PySem PySem.Spec PyProof.Rows L2
/-! ### short plain texts -/
def Sh (n : Nat) (z : Str) : Prop := z.length ≤ n ∧ ∀ c ∈ z.cps.toList, c < 128
theorem Sh.plain {n : Nat} {z : Str} (h : Sh n z) (hn : n ≤ 100000) : plainS z := ⟨Nat.le_trans h.1 hn, h.2⟩
theorem Sh.mono {n m : Nat} {z : Str} (h : Sh n z) (hn : n ≤ m) : Sh m z := ⟨Nat.le_trans h.1 hn, h.2⟩
theorem len_cps (z : Str) : z.length = z.cps.toList.length := by simp [Str.length]
theorem cps_app (x y : Str) : (x ++ y).cps.toList = x.cps.toList ++ y.cps.toList := TL.tl_append x y
theorem len_app (x y : Str) : (x ++ y).length = x.length + y.length := by rw [len_cps, len_cps, len_cps, cps_app, List.length_append]
theorem Sh.add {n m : Nat} {x y : Str} (h1 : Sh n x) (h2 : Sh m y) : Sh (n + m) (x ++ y) := by
  refine ⟨by rw [len_app]; have := h1.1; have := h2.1; omega, fun c hc => ?_⟩
  rw [cps_app] at hc
  rcases List.mem_append.mp hc with h | h
  · exact h1.2 c h
  · exact h2.2 c h
theorem Sh.sign {c : Nat} (h : c < 128) : Sh 1 ⟨#[c]⟩ := by
  refine ⟨Nat.le_refl _, fun d hd => ?_⟩
  have : d = c := by simpa using hd
  omega
def shB (n : Nat) (z : Str) : Bool := decide (z.length ≤ n) && z.cps.toList.all fun c => decide (c < 128)
theorem Sh.lit {n : Nat} {z : Str} (h : shB n z = true) : Sh n z := by
  unfold shB at h
  rw [Bool.and_eq_true] at h
  exact ⟨of_decide_eq_true h.1, fun c hc => of_decide_eq_true (List.all_eq_true.mp h.2 c hc)⟩
theorem Sh.at {n : Nat} {z : Str} {i : Int} (h : Sh n z) (h0 : 0 ≤ i) (h1 : i < (z.length : Int)) : ∃ c, atI z.cps.toList i = some c ∧ c ∈ z.cps.toList ∧ Sh 1 ⟨#[c]⟩ := by
  have hl : i.toNat < z.cps.toList.length := by rw [← len_cps]; omega
  exact ⟨_, atI_of h0 (List.getElem?_eq_getElem hl), List.getElem_mem hl, Sh.sign (h.2 _ (List.getElem_mem hl))⟩
theorem Sh.cut {n : Nat} {z : Str} (h : Sh n z) (lo hi : Option Int) : Sh n (cutS z lo hi) :=
  ⟨Nat.le_trans (cutS_length z lo hi) h.1, fun c hc => h.2 c (List.mem_of_mem_drop (List.mem_of_mem_take hc))⟩
theorem Sh.cut_to {n k : Nat} {z : Str} (h : Sh n z) (lo : Option Int) : Sh k (cutS z lo (some (k : Int))) := by
  refine ⟨?_, (h.cut _ _).2⟩
  have e : HT.sIx z.length z.length (some (k : Int)) = min k z.length := HT.sIx_nat _ _ _
  rw [len_cps]
  show (((z.cps.toList.drop _).take (HT.sIx z.length z.length (some (k : Int)) - _)).toArray.toList).length ≤ k
  rw [List.toList_toArray, List.length_take]
  omega
theorem repS_cps (z : Str) (k : Nat) : (repS z k).cps.toList = (List.replicate k z.cps.toList).flatten := rfl
theorem Sh.rep {n k : Nat} {z : Str} (h : Sh n z) : Sh (n * k) (repS z k) := by
  refine ⟨?_, fun c hc => ?_⟩
  · rw [len_cps, repS_cps, PyProof.Rows.lm_len_rep_flat, ← len_cps, Nat.mul_comm]
    exact Nat.mul_le_mul_right _ h.1
  · rw [repS_cps] at hc
    obtain ⟨l, hl, hc⟩ := List.mem_flatten.mp hc
    rw [(List.mem_replicate.mp hl).2] at hc
    exact h.2 c hc
theorem Sh.num {i : Int} {k : Nat} (h0 : 0 ≤ i) (hk : 0 < k) (h : i < (10 ^ k : Nat)) : Sh k (Str.ofString (toString i)) := by
  obtain ⟨n, rfl⟩ := Int.eq_ofNat_of_zero_le h0
  have hn : n < 10 ^ k := Int.ofNat_lt.mp h
  have e : (Str.ofString (toString ((n : Nat) : Int))).cps.toList = TL.numL n := TL.tl_num n
  refine ⟨?_, fun c hc => ?_⟩
  · rw [len_cps, e]
    exact TL.numL_len hk hn
  · rw [e] at hc
    have := TL.numL_digits n c hc
    omega
/-- a list of such texts -/
def Txs (n : Nat) (xs : List V) : Prop := ∀ x ∈ xs, ∃ z, x = .str z ∧ Sh n z
theorem Txs.nil {n : Nat} : Txs n [] := fun _ h => by cases h
theorem Txs.cons {n : Nat} {z : Str} {xs : List V} (h : Sh n z) (t : Txs n xs) : Txs n (.str z :: xs) := fun x hx => by
  rcases List.mem_cons.mp hx with e | e
  · exact ⟨z, e, h⟩
  · exact t x e
theorem Txs.app {n : Nat} {xs ys : List V} (h : Txs n xs) (t : Txs n ys) : Txs n (xs ++ ys) := fun x hx => by
  rcases List.mem_append.mp hx with e | e
  · exact h x e
  · exact t x e
theorem Txs.mono {n m : Nat} {xs : List V} (h : Txs n xs) (hn : n ≤ m) : Txs m xs := fun x hx => by
  obtain ⟨z, e, s⟩ := h x hx
  exact ⟨z, e, s.mono hn⟩
def txB (n : Nat) : List V → Bool
  | [] => true
  | .str z :: xs => shB n z && txB n xs
  | _ :: _ => false
theorem Txs.lit {n : Nat} : ∀ {xs : List V}, txB n xs = true → Txs n xs
  | [], _ => .nil
  | .str z :: xs, h => by
    have h : (shB n z && txB n xs) = true := h
    rw [Bool.and_eq_true] at h
    exact .cons (Sh.lit h.1) (Txs.lit h.2)
theorem Txs.get {n : Nat} {xs : List V} {i : Int} (h : Txs n xs) (h0 : 0 ≤ i) (h1 : i < (xs.length : Int)) : ∃ z, atI xs i = some (.str z) ∧ Sh n z := by
  have hl : i.toNat < xs.length := by omega
  obtain ⟨z, e, s⟩ := h _ (List.getElem_mem hl)
  exact ⟨z, atI_of h0 (by rw [List.getElem?_eq_getElem hl, e]), s⟩
theorem Txs.getB {n : Nat} {xs : List V} {i : Int} (h : Txs n xs) (h0 : i < 0) (h1 : -(xs.length : Int) ≤ i) : ∃ z, atI xs i = some (.str z) ∧ Sh n z := by
  have hl : (i + xs.length).toNat < xs.length := by omega
  obtain ⟨z, e, s⟩ := h _ (List.getElem_mem hl)
  refine ⟨z, ?_, s⟩
  unfold atI ixN
  rw [if_neg (by omega), if_pos h1]
  show xs[(i + xs.length).toNat]? = _
  rw [List.getElem?_eq_getElem hl, e]
/-! ### what repr shows is short -/
mutual
inductive Shn : PyData → Nat → Nat → Prop
  | non {k : Nat} : Shn .none 5 k
  | bl {b : Bool} {k : Nat} : Shn (.bool b) 5 k
  | int {i : Int} {k : Nat} : i.natAbs.log2 < 1920 → Shn (.int i) 2000 k
  | str {z : Str} {k : Nat} : (∀ c ∈ z.cps.toList, c < 128) → Shn (.str z) (10 * z.length + 2) k
  | lst {xs : List PyData} {n k : Nat} : ShnAll xs n k → Shn (.list xs) (n + 3) (k + 1)
  | tup {xs : List PyData} {n k : Nat} : ShnAll xs n k → Shn (.tuple xs) (n + 3) (k + 1)
inductive ShnAll : List PyData → Nat → Nat → Prop
  | nil {k : Nat} : ShnAll [] 0 k
  | cons {x : PyData} {xs : List PyData} {n m k : Nat} : Shn x n k → ShnAll xs m k → ShnAll (x :: xs) (n + m + 2) k
end
mutual
theorem Shn.ok : ∀ {d : PyData} {n k : Nat}, Shn d n k → d.showable = true ∧ d.hasDict = false ∧ d.shown.length ≤ n ∧ d.depth ≤ k
  | _, _, _, .non => ⟨rfl, rfl, by decide, Nat.zero_le _⟩
  | _, _, _, .bl (b := b) => ⟨rfl, rfl, by cases b <;> decide, Nat.zero_le _⟩
  | _, _, _, .int (i := i) h => by
    refine ⟨by simpa only [PyData.showable, decide_eq_true_eq] using h, by simp only [PyData.hasDict], ?_, by simp only [PyData.depth]; omega⟩
    have e := int_text_length_le (a := i) (k := 1920) (by decide) h
    simp only [PyData.shown]
    rw [PySem.ofString_length]
    omega
  | _, _, _, .str (z := z) h => by
    refine ⟨by simp only [PyData.showable], by simp only [PyData.hasDict], ?_, by simp only [PyData.depth]; omega⟩
    have e := PySem.StrLaws.reprText_len z fun c hc => Nat.lt_of_lt_of_le (h c hc) (by decide)
    simp only [PyData.shown]
    have e2 : z.length = z.cps.size := rfl
    omega
  | _, _, _, .lst (xs := xs) h => by
    obtain ⟨h1, h2, h3, h4⟩ := ShnAll.ok h
    refine ⟨by simpa only [PyData.showable] using h1, by simpa only [PyData.hasDict] using h2, ?_, by simp only [PyData.depth]; omega⟩
    have := listText_len_le (PyData.shownAll xs)
    have h5 := PyData.shownAll_length xs
    simp only [PyData.shown]
    omega
  | _, _, _, .tup (xs := xs) h => by
    obtain ⟨h1, h2, h3, h4⟩ := ShnAll.ok h
    refine ⟨by simpa only [PyData.showable] using h1, by simpa only [PyData.hasDict] using h2, ?_, by simp only [PyData.depth]; omega⟩
    have := tupleText_len_le (PyData.shownAll xs)
    have h5 := PyData.shownAll_length xs
    simp only [PyData.shown]
    omega
theorem ShnAll.ok : ∀ {d : List PyData} {n k : Nat}, ShnAll d n k → PyData.showableAll d = true ∧ PyData.hasDictAll d = false ∧ ((PyData.shownAll d).map (·.length)).sum + 2 * d.length ≤ n ∧ PyData.depthAll d ≤ k
  | _, _, _, .nil => ⟨by simp only [PyData.showableAll], by simp only [PyData.hasDictAll], by simp [PyData.shownAll], by simp only [PyData.depthAll]; omega⟩
  | _, _, _, .cons h t => by
    obtain ⟨h1, h2, h3, h4⟩ := Shn.ok h
    obtain ⟨t1, t2, t3, t4⟩ := ShnAll.ok t
    refine ⟨by simp only [PyData.showableAll, h1, t1, Bool.and_true], by simp only [PyData.hasDictAll, h2, t2, Bool.or_false], ?_, by simp only [PyData.depthAll]; omega⟩
    simp only [PyData.shownAll, List.map_cons, List.sum_cons, List.length_cons]
    omega
end
mutual
theorem Shn.lay : ∀ {d : PyData} {n k : Nat}, Shn d n k → d.canLay0 = true
  | _, _, _, .non => rfl
  | _, _, _, .bl => rfl
  | _, _, _, .int _ => rfl
  | _, _, _, .str (z := z) h => by
    simp only [PyData.canLay0]
    unfold PyData.strOk
    rw [← Array.all_toList, List.all_eq_true]
    intro c hc
    exact decide_eq_true (Nat.lt_of_lt_of_le (h c hc) (by decide))
  | _, _, _, .lst h => by simp only [PyData.canLay0, ShnAll.lay h]
  | _, _, _, .tup h => by simp only [PyData.canLay0, ShnAll.lay h]
theorem ShnAll.lay : ∀ {d : List PyData} {n k : Nat}, ShnAll d n k → PyData.canLayAll0 d = true
  | _, _, _, .nil => by simp only [PyData.canLayAll0]
  | _, _, _, .cons h t => by simp only [PyData.canLayAll0, Shn.lay h, ShnAll.lay t, Bool.and_true]
end
theorem Shn.shaped {d : PyData} {n k : Nat} (h : Shn d n k) (hk : k ≤ 60) : SeqAt.shaped d = true := by
  unfold SeqAt.shaped
  rw [h.lay, decide_eq_true (by have := h.ok.2.2.2; omega)]
  rfl
theorem shn_signs {k : Nat} : ∀ l : List Nat, (∀ c ∈ l, c < 128) → ShnAll (l.map fun c => PyData.str ⟨#[c]⟩) (14 * l.length) k
  | [], _ => .nil
  | c :: l, h => by
    have h1 : Shn (PyData.str ⟨#[c]⟩) 12 k := Shn.str (z := ⟨#[c]⟩) (Sh.sign (h c List.mem_cons_self)).2
    have h2 := ShnAll.cons h1 (shn_signs (k := k) l fun d hd => h d (List.mem_cons_of_mem _ hd))
    rwa [show 12 + 14 * l.length + 2 = 14 * (c :: l).length by rw [List.length_cons]; omega] at h2
theorem g_repr {K : PySem.W.Frag} {H : Hp} {Q : VK} {x : V} {d : PyData} {n k : Nat} (h : Dp K H x d) (s : Shn d n k) (hn : n ≤ 16000000) (hk : k ≤ 60) (q : Q (.str d.shown) H) : rRepr K [x] H Q := by
  obtain ⟨h1, h2, h3, h4⟩ := s.ok
  exact ⟨x, d, rfl, h, h1, h2, by rw [sizeLine_eq]; omega, by omega, q⟩
/-! the same, of any two texts -/
section
variable {K : PySem.W.Frag} {H : Hp} {Q : VK} {n m : Nat}
theorem g_add_sh {a b : Str} (h1 : Sh n a) (h2 : Sh m b) (h : n + m ≤ 1000000) (q : Sh (n + m) (a ++ b) → Q (.str (a ++ b)) H) : rAddA K (.str a) (.str b) H Q :=
  g_add_s (by have := h1.1; have := h2.1; omega) (q (h1.add h2))
theorem g_ix_sh {z : Str} {i : Int} (h : Sh n z) (hn : n ≤ 1000000) (h0 : 0 ≤ i) (h1 : i < (z.length : Int)) (q : ∀ c, c ∈ z.cps.toList → Sh 1 ⟨#[c]⟩ → Q (.str ⟨#[c]⟩) H) : rIx K (.str z) (.int i) H Q := by
  obtain ⟨c, e, hc, s⟩ := h.at h0 h1
  exact g_ix_s (Nat.le_trans h.1 hn) e (q c hc s)
theorem g_ix_tx {a : Addr} {xs : List V} {i : Int} (hs : SqL K H a xs) (h : Txs n xs) (h0 : 0 ≤ i) (h1 : i < (xs.length : Int)) (q : ∀ z, Sh n z → Q (.str z) H) : rIx K (.ref a) (.int i) H Q := by
  obtain ⟨z, e, s⟩ := h.get h0 h1
  exact g_ix_l hs e (q z s)
theorem g_sl_sh {z : Str} {lo hi : Option Int} (h : Sh n z) (hn : n ≤ 1000000) (q : Sh n (cutS z lo hi) → Q (.str (cutS z lo hi)) H) : rSlA K (.str z) lo hi H Q :=
  g_sl_s (Nat.le_trans h.1 hn) (q (h.cut lo hi))
theorem g_strI {i : Int} {k : Nat} (h0 : 0 ≤ i) (hk : 0 < k ∧ k ≤ 250) (h : i < (10 ^ k : Nat)) (q : Sh k (Str.ofString (toString i)) → Q (.str (Str.ofString (toString i))) H) : rStrI [.int i] H Q := by
  refine ⟨i, rfl, ?_, q (Sh.num h0 hk.1 h)⟩
  have e : i.natAbs < 2 ^ 1920 := by
    have h1 : 10 ^ k ≤ 10 ^ 250 := Nat.pow_le_pow_right (by decide) hk.2
    have h2 : (10 : Nat) ^ 500 < 2 ^ 1920 := by decide +kernel
    omega
  by_cases hz : i.natAbs = 0
  · rw [hz]
    decide
  · exact (Nat.log2_lt hz).mpr e
end
theorem mt_tyS {K : PySem.W.Frag} {H : Hp} {z : Str} {A : Prop} (h : A) : tyV K "str" (.str z) H ∧ A := ⟨rfl, h⟩
end Bz
namespace Bz
open PySem PySem.Spec PyProof.Rows L2
/-- the script as the law sees it: told by itself, unless it is one of the module's own objects -/
def scr (K : PySem.W.Frag) (a : Addr) (o : Obj) (xs : List V) : Hp := fun b => if b = a ∧ K.lookup a = none then some (.frz o (.lst xs)) else none
section
variable {K : PySem.W.Frag} {a b : Addr} {o : Obj} {xs : List V} {u : HO}
theorem scr_at (h : scr K a o xs b = some u) : b = a ∧ K.lookup a = none ∧ u = .frz o (.lst xs) := by
  unfold scr at h
  split at h
  · rename_i c
    exact ⟨c.1, c.2, (Option.some.inj h).symm⟩
  · cases h
theorem scr_else (h : ∀ u, ¬ scr K a o xs b = some u) : scr K a o xs b = none := by
  cases e : scr K a o xs b with
  | none => rfl
  | some u => exact absurd e (h u)
end
/-- a law's promise, kept where no repr is under way, is kept at the head -/
theorem walk_ofG {l : PySem.W.OpenLaw} {n k : Nat} {q : Program} {loose : List Str} {XP : (Str → Option Value) → Heap → Prop} {YP : World → Heap → Prop} {d : DefRec} {CX : CXT} {x : Str}
    (hn : l.most = some n) (hn2 : n ≤ sizeLine) (hdf : d.params.defaults = []) (hr : Room k callerA)
    (F : ∀ (w : World) (mg : Str → Option Value) (fa : Addr) (h : Heap), YP w h → h.Ns mainGlobals mg → mg d.name = some (.ref fa) →
      ∃ (K : PySem.W.Frag) (fd : FuncData) (sp : Sp), K.In h ∧ (∀ (s : Shared) (u : Value), BindsTo s fd ⟨[u], []⟩ [(x, u)]) ∧
        (∀ (H : Hp) (a : Addr) (ns : List Int), ns.length ≤ n → SqL K H a (ns.map V.int) → sp [.ref a] H (fun v _ => v = .bl true) fun _ _ _ => False) ∧
        ∀ base : Heap, K.In base → base.Ns mainGlobals mg → FnG l.prog w K mg base CX k fa fd [x] sp)
    (hCX : ∀ (H : Hp) (s : Shared) (e : Value) (s' : Shared), CX [] H s (fun _ _ _ => False) e s' → False) :
    PySem.W.WalkO q loose XP YP l.row.toRowW d [] (fun f vs => PySem.call f vs) := by
  refine Att.attach_call hn hdf fun w s₀ s₁ mg mb fa o pm cd doc a vs ns G Y ho hd hcd hmg hobj hints hlen hg => ?_
  obtain ⟨K, fd, sp, KX, hb, hsp, hF⟩ := F w mg fa _ Y G.T.g hmg
  have hv := vals_ints hints
  have hlv := hints.length
  have hsz : ns.length ≤ sizeLine := Nat.le_trans hlen hn2
  generalize hH : scr K a { cls := .type "list", data := .seq vs.toArray } (ns.map V.int) = H
  have told : ∀ {b : Addr} {u : HO}, H b = some u → b = a ∧ K.lookup a = none ∧ u = .frz { cls := .type "list", data := .seq vs.toArray } (.lst (ns.map V.int)) := fun {b u} e => by
    rw [← hH] at e
    exact scr_at e
  have free : ∀ {b : Addr}, (∀ u, ¬ H b = some u) → H b = none := fun {b} e => by
    rw [← hH] at e ⊢
    exact scr_else e
  have seen : ∀ {b : Addr} {ob : Obj}, s₁.heap.get? b = some ob → (∀ u, ¬ H b = some u) → (hidT s₁.heap H).get? b = some ob := fun e z => hidT_get e (free z)
  have names : ∀ {b : Addr} {m : Str → Option Value}, s₁.heap.Ns b m → (hidT s₁.heap H).Ns b m := by
    rintro b m ⟨ob, es, ep, e, hdd, r⟩
    refine ⟨ob, es, ep, seen e fun u z => ?_, hdd, r⟩
    rw [(told z).1, hobj] at e
    cases e
    cases hdd
  have own : K.In (hidT s₁.heap H) := fun b ob e => seen (KX b ob e) fun u z => by
    obtain ⟨h1, h2, _⟩ := told z
    rw [h1, h2] at e
    cases e
  have seq : SqL K H a (ns.map V.int) := by
    cases hk : K.lookup a with
    | none => exact .inl (.inr ⟨{ cls := .type "list", data := .seq vs.toArray }, by rw [← hH]; exact if_pos ⟨rfl, hk⟩⟩)
    | some ob =>
      have e := KX a ob hk
      rw [hobj] at e
      cases e
      exact .inr ⟨_, vs.toArray, _, hk, rfl, rfl, rfl, by rw [List.size_toArray, hlv]; exact hsz, by simpa using hv⟩
  have good : HOk l.prog w H s₁.heap := fun b u e => by
    obtain ⟨h1, _, h3⟩ := told e
    subst h1 h3
    exact ⟨hobj, by rw [List.length_map]; exact hsz, vs, _, hv, hobj⟩
  obtain ⟨mc, l1, l2⟩ := G.T.nolimit
  have env : Env0 l.prog w K mg (hidT s₁.heap H) callerA [] s₁ H :=
    ⟨rfl, ⟨own, names G.T.g, ⟨mb, names G.T.b, G.T.builtins⟩, ⟨mc, names l1, l2⟩⟩, fun b ob e => of_hidT e, Nat.le_of_eq (hidT_size _ _), trivial, fun b z => List.not_mem_nil (show b ∈ ([] : List Addr) from z) |>.elim, good, .of_eq hg⟩
  refine codeAny_mono ((hF _ own (names G.T.g)).go callerA [] s₁ H ⟨[.ref a], []⟩ [.ref a] [.ref a] _ _ hr rfl env (hb s₁ (.ref a)) (.cons rfl .nil) (hsp H a ns hlen seq)) ?_
  rintro (e | fl) s' z
  · exact (hCX H s₁ e s' z).elim
  · cases fl with
    | ret v =>
      obtain ⟨y, H', hos, hbare, keep, ok', rv, hy⟩ := z
      have hy : y = .bl true := hy
      rw [hy] at rv
      have ev : v = Value.bool true := rv
      rw [ev]
      refine ⟨rfl, OldK.of_keep fun b ob e => ?_, hos, hbare⟩
      cases hq : H b with
      | none => exact keep.keep b ob e hq (fun z => (List.not_mem_nil (show b ∈ ([] : List Addr) from z)).elim) (by simp)
      | some u =>
        obtain ⟨_, _, h3⟩ := told hq
        rw [h3] at hq
        have e1 := (good b _ hq).1
        rw [e1] at e
        cases e
        exact (ok' b _ (keep.frzs b _ _ hq)).1
    | _ => exact False.elim z
end Bz
namespace Bz
open PySem PySem.Spec PyProof.Rows L2
/-! ### the head: names, defs, tables, and what else may be asked of the top's objects -/
abbrev Ask : Type := PySem.W.Frag → Bool
abbrev AlB : Type := Bool × He.AlT
def obsB (fa : List He.Fa) (fn : List He.DefD) (ts : List He.Tab) (bs : List Ask) (K : PySem.W.Frag) : AlB := (bs.all fun b => b K, He.obsT fa fn ts K)
def valB (fn : List He.DefD) (ts : List He.Tab) (w : World) : AlB := (true, He.valT fn ts w)
def obsBG (n : Nat) (fa : List He.Fa) (fn : List He.DefD) (ts : List He.Tab) (bs : List Ask) (g : Addr → Option Obj) : AlB := obsB fa fn ts bs (He.frG g (He.asD g n))
def SaysB (fa : List He.Fa) (fn : List He.DefD) (ts : List He.Tab) (bs : List Ask) (w : World) (K : PySem.W.Frag) : Prop := obsB fa fn ts bs K = valB fn ts w
def hookB (n : Nat) (fa : List He.Fa) (fn : List He.DefD) (ts : List He.Tab) (bs : List Ask) : PySem.W.Hook where
  α := AlB
  obs := fun s => obsBG n fa fn ts bs s.heap.get?
  val := fun w => valB fn ts w
  says := fun w h => ∃ K : PySem.W.Frag, K.In h ∧ SaysB fa fn ts bs w K
  of := fun _ _ e => ⟨_, He.frG_in, e⟩
  keeps := fun _ _ _ ⟨K, hK, c⟩ k => ⟨K, PySem.W.Frag.In.keeps hK k, c⟩
theorem obsBG_eq {n : Nat} {fa : List He.Fa} {fn : List He.DefD} {ts : List He.Tab} {bs : List Ask} {g : Addr → Option Obj} {s : Shared} (h : ∀ a, g a = s.heap.get? a) : obsBG n fa fn ts bs g = (hookB n fa fn ts bs).obs s := by
  have e : g = s.heap.get? := funext h
  rw [e] <;> rfl
section
variable {fa : List He.Fa} {fn : List He.DefD} {ts : List He.Tab} {bs : List Ask} {w : World} {K : PySem.W.Frag}
theorem SaysB.t (c : SaysB fa fn ts bs w K) : He.SaysT fa fn ts w K := congrArg (fun z : AlB => z.2) c
theorem SaysB.d (c : SaysB fa fn ts bs w K) : He.SaysD fa fn K := c.t.d
theorem SaysB.ask (c : SaysB fa fn ts bs w K) (i : Nat) {b : Ask} (h : bs[i]? = some b := by rfl) : b K = true := by
  have c1 : (bs.all fun b => b K) = true := congrArg (fun z : AlB => z.1) c
  exact List.all_eq_true.mp c1 b (List.mem_of_getElem? h)
end
end Bz
namespace Bz
open PySem PySem.Spec PyProof.Rows L2
set_option maxRecDepth 1500
set_option hygiene false
local macro_rules | `(tactic| tm_at "at") => `(tactic| (first | exact At.z | (apply At.s; tm_at "at")))
local macro_rules | `(tactic| tm_at "set") => `(tactic| (first | exact SetAt.z | (apply SetAt.s; tm_at "set")))
local macro_rules | `(tactic| tm_at "wiped") => `(tactic| (first | exact Wiped.nil | (apply Wiped.cons; tm_at "wiped"; tm_at "set")))
local macro_rules | `(tactic| tm_at "mem") => `(tactic| (first | exact List.Mem.head _ | (apply List.Mem.tail; tm_at "mem")))
local macro_rules | `(tactic| tm_at "put") => `(tactic| (first | exact Put.here | (apply Put.there; tm_at "put")))
local macro_rules | `(tactic| tm_at "hp") => `(tactic| (first | assumption | (refine' Is.get ?i1 ?i2; (case i1 => assumption); (case i2 => tm_at "mem")) | (refine' Is.getM ?i1 ?i2; (case i1 => assumption); (case i2 => tm_at "mem")) | (refine' Is.b ?i1 ?i2; (case i1 => assumption); (case i2 => assumption))))
local macro_rules | `(tactic| tm_at "sq") => `(tactic| (first | assumption | (refine' SqL.of ?i1; (case i1 => tm_at "hp")) | (refine' Is.sq ?i1 ?i2; (case i1 => assumption); (case i2 => assumption))))
local macro_rules | `(tactic| tm_at "st") => `(tactic| (first | assumption | (refine' SqT.of ?i1; (case i1 => tm_at "hp")) | (refine' Is.st ?i1 ?i2; (case i1 => assumption); (case i2 => assumption))))
local macro_rules | `(tactic| tm_at "arith") => `(tactic| (first | omega | decide | (simp only [List.length_map]; omega) | (simp only [List.length_cons, List.length_nil, List.length_append, List.length_map, List.length_replicate, List.length_set] <;> omega) | (simp only [List.length_cons, List.length_nil, List.length_append, List.length_map, List.length_replicate, List.length_set] at * <;> omega)))
local macro_rules | `(tactic| tm_at "kne") => `(tactic| (first | assumption | decide +kernel))
local macro_rules | `(tactic| tm_at "kget") => `(tactic| (first | exact KGet.here | (apply KGet.there; tm_at "kne"; tm_at "kget")))
local macro_rules | `(tactic| tm_at "nokey") => `(tactic| (first | exact NoKey.nil | (apply NoKey.cons; tm_at "kne"; tm_at "nokey")))
local macro_rules | `(tactic| tm_at "kput") => `(tactic| (first | (apply KPut.here; tm_at "nokey"; done) | (apply KPut.there; tm_at "kne"; tm_at "kput")))
local macro_rules | `(tactic| tm_at "snoc") => `(tactic| (first | exact Snoc.nil | (apply Snoc.cons; tm_at "snoc")))
local macro_rules | `(tactic| tm_at "mrg") => `(tactic| (first | exact Mrg.nil | (apply Mrg.str; tm_at "nokey"; tm_at "snoc"; tm_at "mrg") | (apply Mrg.int; tm_at "nokey"; tm_at "snoc"; tm_at "mrg")))
local macro_rules | `(tactic| tm_at "del") => `(tactic| (first | exact Del.here | (apply Del.there; tm_at "del")))
local macro_rules | `(tactic| tm_at "slen") => `(tactic| (first | assumption | omega | (apply plainS.len; assumption) | decide +kernel))
local macro_rules | `(tactic| tm_at "thing") => `(tactic| first | assumption | exact Thing.same (Is.ex (by assumption)) (by assumption))
local macro_rules | `(tactic| tm_at "go1") => `(tactic| first
  | with_reducible refine' g_seq ?_
  | with_reducible refine' g_op ?_
  | ((with_reducible refine' g_var ?h1 ?_); (case h1 => tm_at "at"))
  | with_reducible refine' g_c ?_
  | with_reducible refine' g_asg ?_
  | ((with_reducible refine' g_name ?h1 ?_); (case h1 => tm_at "set"))
  | with_reducible refine' g_cons ?_
  | with_reducible refine' g_nil ?_
  | with_reducible refine' g_cl ?_
  | with_reducible refine' g_cb ?_
  | with_reducible refine' g_add_i ?_
  | with_reducible refine' g_rI0 ?_
  | with_reducible refine' g_rU ?_
  | ((with_reducible refine' g_mul_i ?h1 ?_); (case h1 => (unfold CMul; omega)))
  | ((with_reducible refine' g_rI ?h1 ?_); (case h1 => first | omega | (unfold CDiv; omega) | (unfold CPow; omega) | decide | (simp only [List.length_map, List.length_cons, List.length_append]; omega)))
  | with_reducible refine' g_ifS ?_
  | with_reducible refine' g_test ?_
  | with_reducible refine' g_bl ?_
  | with_reducible refine' g_tr ?_
  | with_reducible refine' g_tru_bl ?_
  | with_reducible refine' g_tru_non ?_
  | with_reducible refine' g_true ?_
  | with_reducible refine' g_false ?_
  | with_reducible refine' g_ntrue ?_
  | with_reducible refine' g_nfalse ?_
  | with_reducible refine' g_and ?_
  | with_reducible refine' g_or ?_
  | with_reducible refine' g_not ?_
  | with_reducible refine' g_andV ?_
  | with_reducible refine' g_orV ?_
  | with_reducible refine' g_ifV ?_
  | with_reducible refine' g_notV ?_
  | with_reducible refine' g_aNot ?_
  | with_reducible refine' g_ifE ?_
  | with_reducible refine' g_chain ?_
  | with_reducible refine' g_un ?_
  | with_reducible refine' g_ret ?_
  | with_reducible refine' g_retN ?_
  | with_reducible refine' g_drop ?_
  | with_reducible refine' g_next ?_
  | with_reducible refine' g_par ?_
  | ((with_reducible refine' g_par2 ?h1 ?h2 ?_); (case h1 => tm_at "set"); (case h2 => tm_at "set"))
  | with_reducible refine' g_lst ?_
  | with_reducible refine' g_tup ?_
  | with_reducible refine' g_isNo ?_
  | ((with_reducible refine' g_isiT ?h1 ?h2 ?h3 ?_); (case h1 => tm_at "thing"); (case h2 => decide); (case h3 => decide))
  | ((with_reducible refine' g_isiF ?h1 ?h2 ?h3 ?_); (case h1 => tm_at "thing"); (case h2 => decide); (case h3 => decide))
  | with_reducible refine' g_noNo ?_
  | ((with_reducible refine' g_eq_s ?h1 ?_); (case h1 => rfl))
  | ((with_reducible refine' g_ne_s ?h1 ?_); (case h1 => rfl))
  | with_reducible refine' g_in_c ?_
  | with_reducible refine' g_nin_c ?_
  | with_reducible refine' g_dget ?_
  | with_reducible refine' g_dput ?_
  | with_reducible refine' g_pnil ?_
  | with_reducible refine' g_pcons ?_
  | ((with_reducible refine' g_disp ?h1 ?_); (case h1 => assumption); clear hI; intro p H hI)
  | ((with_reducible refine' g_newK ?h1 ?_); (case h1 => assumption); clear hI; intro p H hI)
  | ((with_reducible refine' g_aDisp ?h0 ?h1 ?h2 ?h3 ?h4 ?_); (case h0 => assumption); (case h1 => tm_at "hp"); (case h2 => tm_at "mrg"); (case h3 => tm_at "arith"); (case h4 => tm_at "put"); clear hI; intro H hI)
  | ((with_reducible refine' g_aDGet ?h1 ?h2 ?_); (case h1 => tm_at "hp"); (case h2 => tm_at "kget"))
  | ((with_reducible refine' g_aDPut ?h0 ?h1 ?h2 ?h3 ?h4 ?_); (case h0 => assumption); (case h1 => tm_at "hp"); (case h2 => tm_at "arith"); (case h3 => tm_at "kput"); (case h4 => tm_at "put"); clear hI; intro H hI)
  | ((with_reducible refine' g_aDPutM ?h0 ?h1 ?h2 ?h3 ?h4 ?_); (case h0 => assumption); (case h1 => tm_at "hp"); (case h2 => tm_at "arith"); (case h3 => tm_at "kput"); (case h4 => tm_at "put"); clear hI; intro H hI)
  | ((with_reducible refine' g_setL ?h0 ?h1 ?h2 ?h3 ?h4 ?_); (case h0 => assumption); (case h1 => tm_at "hp"); (case h2 => tm_at "arith"); (case h3 => tm_at "arith"); (case h4 => tm_at "put"); clear hI; intro H hI)
  | ((with_reducible refine' g_setLM ?h0 ?h1 ?h2 ?h3 ?h4 ?_); (case h0 => assumption); (case h1 => tm_at "hp"); (case h2 => tm_at "arith"); (case h3 => tm_at "arith"); (case h4 => tm_at "put"); clear hI; intro H hI)
  | ((with_reducible refine' g_len_s ?h1 ?_); (case h1 => tm_at "slen"))
  | ((with_reducible refine' g_len_l ?h1 ?_); (case h1 => tm_at "sq"))
  | ((with_reducible refine' g_len_t ?h1 ?_); (case h1 => tm_at "st"))
  | ((with_reducible refine' g_app ?h0 ?h1 ?h2 ?h3 ?_); (case h0 => assumption); (case h1 => tm_at "hp"); (case h2 => tm_at "arith"); (case h3 => tm_at "put"); clear hI; intro H hI)
  | with_reducible refine' g_sub ?_
  | with_reducible refine' g_sl ?_
  | with_reducible refine' g_noPart ?_
  | with_reducible refine' g_part ?_
  | with_reducible refine' g_aPart ?_
  | with_reducible refine' g_bm ?_
  | with_reducible refine' g_bm0 ?_
  | with_reducible refine' g_m1 ?_
  | with_reducible refine' g_isStr ?_
  | with_reducible refine' mt_tyS ?_
  | ((with_reducible refine' g_tyL ?h1 ?_); (case h1 => tm_at "hp"))
  | with_reducible refine' g_lc ?_
  | with_reducible refine' g_for ?_
  | with_reducible refine' g_iAny ?_
  | with_reducible refine' g_rng1 ?_
  | with_reducible refine' g_rng2 ?_
  | with_reducible refine' g_enum ?_
  | ((with_reducible refine' g_aEnum ?h1 ?_); (case h1 => tm_at "sq"))
  | with_reducible refine' g_zip ?_
  | ((with_reducible refine' g_aZip ?h1 ?h2 ?_); (case h1 => tm_at "sq"); (case h2 => tm_at "sq"))
  | ((with_reducible refine' g_aRng1 ?h1 ?_); (case h1 => tm_at "arith"))
  | ((with_reducible refine' g_aRng2 ?h1 ?_); (case h1 => tm_at "arith"))
  | with_reducible refine' g_it_s ?_
  | ((with_reducible refine' g_it_l ?h1 ?_); (case h1 => tm_at "sq"))
  | ((with_reducible refine' g_it_t ?h1 ?_); (case h1 => tm_at "st"))
  | with_reducible refine' g_yes ?_
  | with_reducible refine' g_gCons ?_
  | ((with_reducible refine' g_gTup ?h1 ?h2 ?_); (case h1 => tm_at "st"); (case h2 => exact rfl))
  | with_reducible refine' g_gNil ?_
  | ((with_reducible refine' g_aLst ?h1 ?h2 ?_); (case h1 => assumption); (case h2 => tm_at "arith"); clear hI; intro p H hI)
  | ((with_reducible refine' g_aTup ?h1 ?h2 ?_); (case h1 => assumption); (case h2 => tm_at "arith"); clear hI; intro p H hI)
  | ((with_reducible refine' g_aCl ?h1 ?h2 ?_); (case h1 => exact rfl); (case h2 => exact rfl); (dsimp only [pick, nth, List.cons_append, List.nil_append]))
)
local macro_rules | `(tactic| tm_at "go") => `(tactic| repeat (tm_at "go1"))
local macro_rules | `(tactic| tm_at "sub") => `(tactic| (first | exact List.Sublist.refl _ | exact List.nil_sublist _ | (apply List.Sublist.cons₂; tm_at "sub") | (apply List.Sublist.cons; tm_at "sub")))
local macro_rules | `(tactic| tm_at "is") => `(tactic| (first | assumption | (refine' Is.forget ?s1 ?s2; (case s1 => assumption); (case s2 => tm_at "sub"))))
local macro_rules | `(tactic| tm_at "next") => `(tactic| (repeat (with_reducible refine' g_next ?_)))
local macro_rules | `(tactic| tm_at "draw") => `(tactic| ((refine' ap_law_draw (K := K) hI hd (by omega) (by tm_at "arith") (by tm_at "arith") ?_); clear hI hd; intro r H M hr0 hr1 hI hd))
local macro_rules | `(tactic| tm_at "stop") => `(tactic| (repeat (first | with_reducible refine' g_asg ?_ | with_reducible refine' g_c ?_ | ((with_reducible refine' g_var ?h1 ?_); (case h1 => tm_at "at")) | ((with_reducible refine' g_name ?h1 ?_); (case h1 => tm_at "set")) | with_reducible refine' g_next ?_)))
def sp_law_mixed (K : PySem.W.Frag) : Sp := fun vs H Q _ => vs.length = 2 ∧ ∃ c k : Int, vs = [.int c, .int k] ∧ 0 ≤ k ∧ k < 2 ^ 60 ∧ ∀ r : Int, 0 ≤ r → r < 400000000 → Q (.int r) H
theorem ap_law_mixed {K : PySem.W.Frag} {H : Hp} {Q : VK} {E : XK} {c k : Int} (h0 : 0 ≤ k) (h1 : k < 2 ^ 60) (q : ∀ r : Int, 0 ≤ r → r < 400000000 → Q (.int r) H) : sp_law_mixed K [.int c, .int k] H Q E :=
  ⟨rfl, c, k, rfl, h0, h1, q⟩
/-- the state of the draws at m: at most n draws so far -/
def Dr (m : Addr) (n : Int) (B : Hp) (M : List (Addr × HO)) : Prop := ∃ (c l : Addr) (cs ls : List Int) (k : Int),
  M = [(m, .dK [(Sum.inr "cells", .ref c), (Sum.inr "left", .ref l), (Sum.inr "spot", .int k)]), (l, .lst (ls.map V.int))] ∧
  B c = some (.lst (cs.map V.int)) ∧ cs.length = 64 ∧ (∀ x ∈ cs, 0 ≤ x ∧ x < 2147483647) ∧ 0 ≤ k ∧ k ≤ n
theorem Dr.same {m : Addr} {n : Int} {B B' : Hp} {M : List (Addr × HO)} (s : Same B B') (d : Dr m n B M) : Dr m n B' M := by
  obtain ⟨c, l, cs, ls, k, h1, h2, h3⟩ := d
  exact ⟨c, l, cs, ls, k, h1, s _ _ h2, h3⟩
theorem Dr.mono {m : Addr} {n n' : Int} {B : Hp} {M : List (Addr × HO)} (h : n ≤ n') (d : Dr m n B M) : Dr m n' B M := by
  obtain ⟨c, l, cs, ls, k, h1, h2, h3, h4, h5, h6⟩ := d
  exact ⟨c, l, cs, ls, k, h1, h2, h3, h4, h5, by omega⟩
def sp_law_draw (K : PySem.W.Frag) : Sp := fun vs H Q _ => vs.length = 2 ∧ ∃ (m : Addr) (many n : Int) (B : Hp) (M L : List (Addr × HO)), vs = [.ref m, .int many] ∧ Is B M L H ∧ Dr m n B M ∧ n < 2 ^ 40 ∧ 0 < many ∧ many < 1073741824 ∧
  ∀ (r : Int) (H' : Hp) (M' : List (Addr × HO)), 0 ≤ r → r < many → Is B M' L H' → Dr m (n + 1) B M' → Q (.int r) H'
theorem ap_law_draw {K : PySem.W.Frag} {H : Hp} {Q : VK} {E : XK} {m : Addr} {many n : Int} {B : Hp} {M L : List (Addr × HO)} (I : Is B M L H) (d : Dr m n B M) (h1 : n < 2 ^ 40) (h2 : 0 < many) (h3 : many < 1073741824)
    (q : ∀ (r : Int) (H' : Hp) (M' : List (Addr × HO)), 0 ≤ r → r < many → Is B M' L H' → Dr m (n + 1) B M' → Q (.int r) H') : sp_law_draw K [.ref m, .int many] H Q E :=
  ⟨rfl, m, many, n, B, M, L, rfl, I, d, h1, h2, h3, q⟩
abbrev t_law_mixed_0 (K : PySem.W.Frag) : TS := (tRet (tOp (rI CDiv fun i j => .int (i / j)) (tOp (rI (fun _ j => 0 < j) fun i j => .int (i % j)) (tOp rMulA (tVar 2) (tC (.int 69621))) (tC (.int 2147483629))) (tC (.int 7))))
def t_law_mixed (K : PySem.W.Frag) : TS := (tSeq (tAsg (tOp (rAddA K) (tOp (rAddA K) (tOp (rI (fun _ j => 0 < j) fun i j => .int (i % j)) (tOp rMulA (tOp rMulA (tVar 0) (tOp (rAddA K) (tC (.int 1)) (tOp rMulA (tC (.int 2)) (tVar 1)))) (tC (.int 48271))) (tC (.int 2147483647))) (tOp rMulA (tOp rMulA (tC (.int 7919)) (tVar 1)) (tVar 1))) (tOp rMulA (tC (.int 104729)) (tVar 1))) (gName 2)) (t_law_mixed_0 K))
theorem rd_law_mixed {K : PySem.W.Frag} (vs : List V) (H : Hp) (Q : VK) (E : XK) (h : sp_law_mixed K vs H Q E) : t_law_mixed K { nx := fun _ H' => Q .non H', rt := Q } (start ["cell", "k", "turned"] vs) H := by
  obtain ⟨_, c, k, rfl, h0, h1, q⟩ := h
  show t_law_mixed K ⟨_, _, _, _⟩ [some (.int c), some (.int k), none] H
  unfold t_law_mixed
  tm_at "go"
  exact q _ (by omega) (by omega)
theorem ints_get {ns : List Int} {i : Nat} (h : i < ns.length) : (ns.map V.int)[i]? = some (.int (ns[i])) := by simp [h]
theorem dp_ints {K : PySem.W.Frag} {H : Hp} : ∀ ns : List Int, DpAll K H (ns.map V.int) (ns.map PyData.int)
  | [] => .nil
  | n :: ns => .cons (.int n) (dp_ints ns)
abbrev t_law_draw_0 (K : PySem.W.Frag) : TS := (tRet (tOp (rI (fun _ j => 0 < j) fun i j => .int (i % j)) (tVar 4) (tVar 1)))
abbrev t_law_draw_1 (K : PySem.W.Frag) : TS := (tIfS (tTest (tOp (rI0 fun i j => .bl (decide (j < i))) (tVar 4) (tC (.int 0)))) (tSeq (tAsg (tOp (rI CDiv fun i j => .int (i / j)) (tVar 4) (tVar 1)) (gSub (tDGet (tVar 0) (tC (.str "left"))) (tVar 3) rSetL)) (t_law_draw_0 K)) tNext)
abbrev t_law_draw_2 (K : PySem.W.Frag) : TS := (tSeq (tAsg (tOp (rIx K) (tDGet (tVar 0) (tC (.str "left"))) (tVar 3)) (gName 4)) (t_law_draw_1 K))
abbrev t_law_draw_3 (K : PySem.W.Frag) : TS := (tRet (tOp (rI (fun _ j => 0 < j) fun i j => .int (i % j)) (tCl 2 0 (sp_law_mixed K) (fun vs zs => pick .non [0, 1] (vs ++ zs)) E0 (tCons (tCl 2 0 (sp_law_mixed K) (fun vs zs => pick .non [0, 1] (vs ++ zs)) E0 (tCons (tOp (rAddA K) (tOp (rIx K) (tDGet (tVar 0) (tC (.str "cells"))) (tOp (rI (fun _ j => 0 < j) fun i j => .int (i % j)) (tVar 2) (tC (.int 64)))) (tOp rMulA (tC (.int 31)) (tOp (rI CDiv fun i j => .int (i / j)) (tVar 2) (tC (.int 64))))) (tCons (tVar 2) tNil)) tNil) (tCons (tOp (rAddA K) (tVar 2) (tC (.int 7))) tNil)) tNil) (tVar 1)))
abbrev t_law_draw_4 (K : PySem.W.Frag) : TS := (tSeq (tIfS (tTest (tOp (rNeA K) (tDGet (tVar 0) (tC (.str "left"))) (tLst tNil))) (tSeq (tAsg (tOp (rI (fun _ j => 0 < j) fun i j => .int (i % j)) (tVar 2) (tCB (rLen K) (tCons (tDGet (tVar 0) (tC (.str "left"))) tNil))) (gName 3)) (t_law_draw_2 K)) tNext) (t_law_draw_3 K))
abbrev t_law_draw_5 (K : PySem.W.Frag) : TS := (tSeq (sDPut (tVar 0) (tC (.str "spot")) (tOp (rAddA K) (tVar 2) (tC (.int 1)))) (t_law_draw_4 K))
def t_law_draw (K : PySem.W.Frag) : TS := (tSeq (tAsg (tDGet (tVar 0) (tC (.str "spot"))) (gName 2)) (t_law_draw_5 K))
theorem rd_law_draw {K : PySem.W.Frag} (vs : List V) (H : Hp) (Q : VK) (E : XK) (h : sp_law_draw K vs H Q E) : t_law_draw K { nx := fun _ H' => Q .non H', rt := Q } (start ["m", "many", "k", "spot", "cell"] vs) H := by
  obtain ⟨_, m, many, n, B, M, L, rfl, hI, ⟨c, l, cs, ls, k, rfl, hc, hcs, hb, hk0, hkn⟩, h1, h2, h3, q⟩ := h
  show t_law_draw K ⟨_, _, _, _⟩ [some (.ref m), some (.int many), none, none, none] H
  unfold t_law_draw
  tm_at "go"
  refine g_ne_d (.lst (by tm_at "sq") (dp_ints ls)) (.lst (xs := []) (by tm_at "sq") .nil) (PySem.W.ke_shaped_ints ls) rfl ?_
  tm_at "go"
  -- the last row: by the cells
  have last : ∀ (H : Hp) (x y : Option V), Is B [(m, HO.dK [(Sum.inr "cells", V.ref c), (Sum.inr "left", V.ref l), (Sum.inr "spot", V.int (k + 1))]), (l, HO.lst (List.map V.int ls))] ((p, HO.lst []) :: L) H →
      t_law_draw_3 K ⟨fun _ H' => Q .non H', Q, fun _ _ => False, fun _ _ => False⟩ [some (V.ref m), some (V.int many), some (V.int k), x, y] H := by
    intro H x y hI
    tm_at "go"
    have hk : (k % 64).toNat < cs.length := by omega
    refine g_ix_l (by tm_at "sq") (atI_of (by omega) (ints_get hk)) ?_
    tm_at "go"
    refine' ap_law_mixed (K := K) (by omega) (by omega) ?_
    intro r hr0 hr1
    tm_at "go"
    refine' ap_law_mixed (K := K) (by omega) (by omega) ?_
    intro r2 hr2 hr3
    tm_at "go"
    exact q _ _ _ (Int.emod_nonneg _ (by omega)) (Int.emod_lt_of_pos _ h2) (by tm_at "is") ⟨c, l, cs, ls, k + 1, rfl, hc, hcs, hb, by omega, by omega⟩
  cases ls with
  | nil =>
    refine g_nb (fun e => ?_) (fun e => ?_)
    · simp [PyData.eqv, PyData.eqvAll] at e
    · exact g_next (last _ _ _ hI)
  | cons z zs =>
    refine g_nb (fun e => ?_) (fun e => ?_)
    · tm_at "go"
      have hp : 0 < ((z :: zs).length : Int) := by simp only [List.length_cons]; omega
      have hlt := Int.emod_lt_of_pos k hp
      have hge := Int.emod_nonneg k (by omega : ((z :: zs).length : Int) ≠ 0)
      rw [List.length_map]
      generalize hi : k % ((z :: zs).length : Int) = i at *
      have hk : i.toNat < (z :: zs).length := by omega
      refine g_ix_l (by tm_at "sq") (atI_of hge (ints_get hk)) ?_
      tm_at "go"
      refine g_dec (fun h => ?_) (fun h => ?_)
      · tm_at "go"
        refine q _ _ _ (Int.emod_nonneg _ (by omega)) (Int.emod_lt_of_pos _ h2) (by tm_at "is") ⟨c, l, cs, (z :: zs).set i.toNat ((z :: zs)[i.toNat] / many), k + 1, ?_, hc, hcs, hb, by omega, by omega⟩
        rw [List.map_set]
      · tm_at "next"
        exact last _ _ _ hI
    · simp [PyData.eqv, PyData.eqvAll] at e
/-! the cells that all is drawn by -/
def sp_law_folded (K : PySem.W.Frag) : Sp := fun vs H Q _ => vs.length = 1 ∧ ∃ (a : Addr) (ns : List Int) (B : Hp) (M L : List (Addr × HO)), vs = [.ref a] ∧ Is B M L H ∧ SqL K B a (ns.map V.int) ∧ ns.length ≤ 63 ∧
  ∀ (p : Addr) (cs : List Int) (H' : Hp), cs.length = 64 → (∀ x ∈ cs, 0 ≤ x ∧ x < 2147483647) → Is B M ((p, .lst (cs.map V.int)) :: L) H' → Q (.ref p) H'
abbrev t_law_folded_0 (K : PySem.W.Frag) : TS := (tAsg (tOp (rI (fun _ j => 0 < j) fun i j => .int (i % j)) (tOp (rAddA K) (tOp rMulA (tOp (rIx K) (tVar 1) (tOp (rI (fun _ j => 0 < j) fun i j => .int (i % j)) (tVar 2) (tC (.int 64)))) (tC (.int 48271))) (tVar 3)) (tC (.int 2147483647))) (gSub (tVar 1) (tOp (rI (fun _ j => 0 < j) fun i j => .int (i % j)) (tVar 2) (tC (.int 64))) rSetL))
abbrev t_law_folded_1 (K : PySem.W.Frag) : TS := (tAsg (tOp (rI (fun _ j => 0 < j) fun i j => .int (i % j)) (tOp (rAddA K) (tOp (rIx K) (tVar 1) (tVar 2)) (tOp rMulA (tOp (rIx K) (tVar 1) (tOp (rI0 fun i j => .int (i - j)) (tVar 2) (tC (.int 1)))) (tC (.int 16807)))) (tC (.int 2147483647))) (gSub (tVar 1) (tVar 2) rSetL))
abbrev t_law_folded_2 (K : PySem.W.Frag) : TS := (tRet (tVar 1))
abbrev t_law_folded_3 (K : PySem.W.Frag) : TS := (tSeq (tFor (iRng2 (tCons (tC (.int 1)) (tCons (tC (.int 64)) tNil))) (gName 2) (t_law_folded_1 K)) (t_law_folded_2 K))
abbrev t_law_folded_4 (K : PySem.W.Frag) : TS := (tSeq (tFor (iEnum K (tCons (tVar 0) tNil)) (gTup K 2 (gCons (gName 2) (gCons (gName 3) gNil))) (t_law_folded_0 K)) (t_law_folded_3 K))
def t_law_folded (K : PySem.W.Frag) : TS := (tSeq (tAsg (tLc (iRng1 (tCons (tC (.int 64)) tNil)) (gName 2) tYes (tOp (rAddA K) (tC (.int 17)) (tVar 2)) [2]) (gName 1)) (t_law_folded_4 K))
theorem rd_law_folded {K : PySem.W.Frag} (vs : List V) (H : Hp) (Q : VK) (E : XK) (h : sp_law_folded K vs H Q E) : t_law_folded K { nx := fun _ H' => Q .non H', rt := Q } (start ["script", "found", "k", "cell"] vs) H := by
  obtain ⟨_, a, ns, B, M, L, rfl, hI, ha, hl, q⟩ := h
  show t_law_folded K ⟨_, _, _, _⟩ [some (.ref a), none, none, none] H
  unfold t_law_folded
  tm_at "go"
  refine' g_aLc walk_range hI (by tm_at "wiped") (by decide) (fun i acc B' M' => B' = B ∧ M' = M ∧ ∃ cs : List Int, acc = cs.map V.int ∧ cs.length = i ∧ ∀ x ∈ cs, 0 ≤ x ∧ x < 2147483647) ⟨rfl, rfl, [], rfl, rfl, fun x hx => by cases hx⟩ (fun _ _ _ _ _ _ _ _ _ _ => trivial) ?_ ?_
  · rintro i x acc B' M' D H' H'' hi s hI' ⟨rfl, rfl, cs, rfl, hl, hb⟩ ⟨rfl, rfl⟩ hz
    tm_at "go"
    refine' g_wiped (by tm_at "wiped") ?_
    tm_at "go"
    refine' lcY s hI' hz ⟨rfl, rfl, cs ++ [17 + (0 + (i : Int))], by simp, by simp [hl], ?_⟩
    intro y hy
    rcases List.mem_append.mp hy with e | e
    · exact hb y e
    · rw [List.mem_singleton.mp e]
      have : i < 64 := hi
      omega
  rintro acc B' M' p H' s hI ⟨rfl, rfl, cs, rfl, hcl, hcb⟩ _
  have hcl : cs.length = 64 := hcl
  tm_at "go"
  -- for k, cell in enumerate(script)
  refine' g_aFor walk_enum (fun i σ H => ∃ (x y : Option V) (cs : List Int), σ = [some (.ref a), some (.ref p), x, y] ∧ Is B' M' ((p, .lst (cs.map V.int)) :: L) H ∧ cs.length = 64 ∧ ∀ x ∈ cs, 0 ≤ x ∧ x < 2147483647)
    ⟨_, _, cs, rfl, hI, hcl, hcb⟩ (fun i σ H _ ⟨_, _, cs, _, hI, _⟩ => Is.sq hI ha) ?_ ?_
  · rintro i x σ H H' hi ⟨x0, y0, cs, rfl, hI, hcl, hcb⟩ ⟨T, y, z, rfl, hT, rfl, e1, e2⟩
    cases e1
    have hin : i < ns.length := by rwa [List.length_map] at hi
    have e2 : (ns.map V.int)[i]? = some z := e2
    rw [ints_get hin] at e2
    cases e2
    have hI := hI.new (o := .tup [V.int (i : Int), V.int ns[i]]) hT
    tm_at "go"
    have hk : ((i : Int) % 64).toNat < cs.length := by omega
    refine g_ix_l (by tm_at "sq") (atI_of (by omega) (ints_get hk)) ?_
    have hv := hcb _ (List.getElem_mem hk)
    tm_at "go"
    refine' ⟨_, _, cs.set ((i : Int) % 64).toNat ((cs[((i : Int) % 64).toNat] * 48271 + ns[i]) % 2147483647), rfl, ?_, by simpa using hcl, ?_⟩
    · rw [List.map_set]
      exact hI.forget (by tm_at "sub")
    · intro x hx
      rcases List.mem_or_eq_of_mem_set hx with e | e
      · exact hcb x e
      · rw [e]
        omega
  rintro σ H ⟨x0, y0, cs, rfl, hI, hcl, hcb⟩
  tm_at "go"
  -- for k in range(1, 64)
  refine' g_aFor walk_range (fun i σ H => ∃ (x y : Option V) (cs : List Int), σ = [some (.ref a), some (.ref p), x, y] ∧ Is B' M' ((p, .lst (cs.map V.int)) :: L) H ∧ cs.length = 64 ∧ ∀ x ∈ cs, 0 ≤ x ∧ x < 2147483647)
    ⟨_, _, cs, rfl, hI, hcl, hcb⟩ (fun _ _ _ _ _ => trivial) ?_ ?_
  · rintro i x σ H H' hi ⟨x0, y0, cs, rfl, hI, hcl, hcb⟩ ⟨rfl, rfl⟩
    have hi : i < 63 := hi
    tm_at "go"
    have hk : (1 + (i : Int)).toNat < cs.length := by omega
    have hk1 : (1 + (i : Int) - 1).toNat < cs.length := by omega
    refine g_ix_l (by tm_at "sq") (atI_of (by omega) (ints_get hk)) ?_
    have hv := hcb _ (List.getElem_mem hk)
    tm_at "go"
    refine g_ix_l (by tm_at "sq") (atI_of (by omega) (ints_get hk1)) ?_
    have hv1 := hcb _ (List.getElem_mem hk1)
    tm_at "go"
    refine' ⟨_, _, cs.set (1 + (i : Int)).toNat ((cs[(1 + (i : Int)).toNat] + cs[(1 + (i : Int) - 1).toNat] * 16807) % 2147483647), rfl, ?_, by simpa using hcl, ?_⟩
    · rw [List.map_set]
      exact hI.forget (by tm_at "sub")
    · intro x hx
      rcases List.mem_or_eq_of_mem_set hx with e | e
      · exact hcb x e
      · rw [e]
        omega
  rintro σ H ⟨x0, y0, cs, rfl, hI, hcl, hcb⟩
  tm_at "go"
  exact q p cs H hcl hcb hI
def sp_law_begun (K : PySem.W.Frag) : Sp := fun vs H Q _ => vs.length = 1 ∧ ∃ (a : Addr) (ns : List Int) (B : Hp) (L : List (Addr × HO)), vs = [.ref a] ∧ Is B [] L H ∧ SqL K B a (ns.map V.int) ∧ ns.length ≤ 63 ∧
  ∀ (m : Addr) (B' : Hp) (M' : List (Addr × HO)) (H' : Hp), Same B B' → Is B' M' L H' → Dr m 0 B' M' → Q (.ref m) H'
abbrev t_law_begun_0 (K : PySem.W.Frag) : TS := (tRet (tVar 1))
abbrev t_law_begun_1 (K : PySem.W.Frag) : TS := (tSeq (sDPut (tVar 1) (tC (.str "left")) (tLc (iAny K (tVar 0)) (gName 2) tYes (tIf (tTest (tOp (rI0 fun i j => .bl (decide (j ≤ i))) (tVar 2) (tOp (rI CPow fun i j => .int (i ^ j.toNat)) (tC (.int 10)) (tC (.int 18))))) (tVar 2) (tC (.int 0))) [2])) (t_law_begun_0 K))
def t_law_begun (K : PySem.W.Frag) : TS := (tSeq (tAsg (tDisp [((tC (.str "cells")), (tCl 1 0 (sp_law_folded K) (fun vs zs => pick .non [0] (vs ++ zs)) E0 (tCons (tVar 0) tNil) tNil)), ((tC (.str "left")), (tLst tNil)), ((tC (.str "spot")), (tC (.int 0)))]) (gName 1)) (t_law_begun_1 K))
theorem rd_law_begun {K : PySem.W.Frag} (vs : List V) (H : Hp) (Q : VK) (E : XK) (h : sp_law_begun K vs H Q E) : t_law_begun K { nx := fun _ H' => Q .non H', rt := Q } (start ["script", "m", "cell"] vs) H := by
  obtain ⟨_, a, ns, B, L, rfl, hI, ha, hl, q⟩ := h
  show t_law_begun K ⟨_, _, _, _⟩ [some (.ref a), none, none] H
  unfold t_law_begun
  tm_at "go"
  revert p
  intro m hI
  refine' ⟨rfl, a, ns, B, [], _, rfl, hI, ha, hl, ?_⟩
  clear hI
  intro c cs H hcs hcb hI
  tm_at "go"
  refine' g_aLc walk_list hI (by tm_at "wiped") (by rw [List.length_map]; omega) (fun i acc B' M' => B' = B ∧ M' = [] ∧ ∃ ls : List Int, acc = ls.map V.int) ⟨rfl, rfl, [], rfl⟩ (fun _ _ _ _ _ _ _ s hI' _ => Is.sq hI' (Same.seq s ha)) ?_ ?_
  · rintro i x acc B' M' D H' H'' hi s hI' ⟨rfl, rfl, ls, rfl⟩ ⟨rfl, hx⟩ hz
    have hin : i < ns.length := by rwa [List.length_map] at hi
    rw [ints_get hin] at hx
    cases hx
    tm_at "go"
    refine' g_wiped (by tm_at "wiped") ?_
    tm_at "go"
    refine g_dec (fun h => ?_) (fun h => ?_)
    · tm_at "go"
      exact lcY s hI' hz ⟨rfl, rfl, ls ++ [ns[i]], by simp⟩
    · tm_at "go"
      exact lcY s hI' hz ⟨rfl, rfl, ls ++ [0], by simp⟩
  rintro acc B' M' l H' s hI ⟨rfl, rfl, ls, rfl⟩ _
  tm_at "go"
  have hI := hI.pull (a := l) (by tm_at "del")
  have hI := hI.pull (a := m) (by tm_at "del")
  refine' hI.give (a := c) (by tm_at "del") ?_
  clear hI
  intro B2 s2 hc hI
  exact q m B2 _ _ s2 (by tm_at "is") ⟨c, l, cs, ls, 0, rfl, hc, hcs, hcb, by omega, by omega⟩
/-! ### things of any kind, as isinstance sees them -/
inductive Kn where
  | non | bl | int | str | lst | tup | dct | obj
  deriving DecidableEq
def Kn.is : Kn → String → Bool
  | .bl, T => T == "bool" || T == "int"
  | .int, T => T == "int"
  | .str, T => T == "str"
  | .lst, T => T == "list"
  | .tup, T => T == "tuple"
  | _, _ => false
abbrev TYS : List String := ["int", "bool", "str", "list", "tuple"]
def Kn.fits (k : Kn) : V → Prop
  | .non => k = .non
  | .bl _ => k = .bl
  | .int _ => k = .int
  | .str z => k = .str ∧ plainS z
  | .ref _ => k = .lst ∨ k = .tup ∨ k = .dct ∨ k = .obj
  | _ => False
structure Thing (K : PySem.W.Frag) (H : Hp) (x : V) (k : Kn) : Prop where
  ty : ∃ t, TyX K H x t ∧ ∀ T ∈ TYS, PySem.W.kitOne K t (.type T) = some (k.is T)
  fit : k.fits x
theorem TyX.same {K : PySem.W.Frag} {H H' : Hp} {x : V} {t : Value} (s : Same H H') (h : TyX K H x t) : TyX K H' x t := by
  cases h with
  | base b =>
    refine .base ?_
    cases b with
    | non => exact .non
    | bl y => exact .bl y
    | int i => exact .int i
    | str y => exact .str y
    | flt y => exact .flt y
    | lst e => exact .lst (s _ _ e)
    | frz e => exact .frz (s _ _ e)
    | tup e => exact .tup (s _ _ e)
    | dK e => exact .dK (s _ _ e)
    | dT e => exact .dT (s _ _ e)
    | ins e a b c d f => exact .ins (s _ _ e) a b c d f
  | byt b => exact .byt b
  | set e => exact .set (s _ _ e)
  | kList e c => exact .kList e c
  | kTuple e c => exact .kTuple e c
  | kDict e c => exact .kDict e c
  | fTuple e => exact .fTuple (s _ _ e)
  | fDict e => exact .fDict (s _ _ e)
theorem Thing.same {K : PySem.W.Frag} {H H' : Hp} {x : V} {k : Kn} (s : Same H H') (h : Thing K H x k) : Thing K H' x k := by
  obtain ⟨⟨t, h1, h2⟩, f⟩ := h
  exact ⟨⟨t, TyX.same s h1, h2⟩, f⟩
theorem tys_mem {p : String → Prop} (h : p "int" ∧ p "bool" ∧ p "str" ∧ p "list" ∧ p "tuple") : ∀ T ∈ TYS, p T := by
  intro T hT
  obtain ⟨h1, h2, h3, h4, h5⟩ := h
  rcases List.mem_cons.mp hT with rfl | hT
  · exact h1
  rcases List.mem_cons.mp hT with rfl | hT
  · exact h2
  rcases List.mem_cons.mp hT with rfl | hT
  · exact h3
  rcases List.mem_cons.mp hT with rfl | hT
  · exact h4
  rcases List.mem_cons.mp hT with rfl | hT
  · exact h5
  cases hT
section
variable {K : PySem.W.Frag} {H : Hp} {a : Addr} {xs : List V}
theorem thing_non : Thing K H .non .non := ⟨⟨_, .base .non, tys_mem ⟨kit_ty (by decide +kernel), kit_ty (by decide +kernel), kit_ty (by decide +kernel), kit_ty (by decide +kernel), kit_ty (by decide +kernel)⟩⟩, rfl⟩
theorem thing_bl (b : Bool) : Thing K H (.bl b) .bl := ⟨⟨_, .base (.bl b), tys_mem ⟨kit_ty (by decide +kernel), kit_ty (by decide +kernel), kit_ty (by decide +kernel), kit_ty (by decide +kernel), kit_ty (by decide +kernel)⟩⟩, rfl⟩
theorem thing_int (i : Int) : Thing K H (.int i) .int := ⟨⟨_, .base (.int i), tys_mem ⟨kit_ty (by decide +kernel), kit_ty (by decide +kernel), kit_ty (by decide +kernel), kit_ty (by decide +kernel), kit_ty (by decide +kernel)⟩⟩, rfl⟩
theorem thing_str {z : Str} (h : plainS z) : Thing K H (.str z) .str := ⟨⟨_, .base (.str z), tys_mem ⟨kit_ty (by decide +kernel), kit_ty (by decide +kernel), kit_ty (by decide +kernel), kit_ty (by decide +kernel), kit_ty (by decide +kernel)⟩⟩, rfl, h⟩
theorem kit_list : ∀ T ∈ TYS, PySem.W.kitOne K (.type "list") (.type T) = some (Kn.lst.is T) := tys_mem ⟨kit_ty (by decide +kernel), kit_ty (by decide +kernel), kit_ty (by decide +kernel), kit_ty (by decide +kernel), kit_ty (by decide +kernel)⟩
theorem kit_tuple : ∀ T ∈ TYS, PySem.W.kitOne K (.type "tuple") (.type T) = some (Kn.tup.is T) := tys_mem ⟨kit_ty (by decide +kernel), kit_ty (by decide +kernel), kit_ty (by decide +kernel), kit_ty (by decide +kernel), kit_ty (by decide +kernel)⟩
theorem kit_dict : ∀ T ∈ TYS, PySem.W.kitOne K (.type "dict") (.type T) = some (Kn.dct.is T) := tys_mem ⟨kit_ty (by decide +kernel), kit_ty (by decide +kernel), kit_ty (by decide +kernel), kit_ty (by decide +kernel), kit_ty (by decide +kernel)⟩
theorem thing_lst (h : H a = some (.lst xs)) : Thing K H (.ref a) .lst := ⟨⟨_, .base (.lst h), kit_list⟩, .inl rfl⟩
theorem thing_tup (h : H a = some (.tup xs)) : Thing K H (.ref a) .tup := ⟨⟨_, .base (.tup h), kit_tuple⟩, .inr (.inl rfl)⟩
theorem thing_dct {kvs : List (Key × V)} (h : H a = some (.dK kvs)) : Thing K H (.ref a) .dct := ⟨⟨_, .base (.dK h), kit_dict⟩, .inr (.inr (.inl rfl))⟩
theorem g_isi {x : V} {k : Kn} {T : String} {Q : VK} (h : Thing K H x k) (hT : T ∈ TYS) (q : Q (.bl (k.is T)) H) : rIsi K [x, .ty T] H Q := by
  obtain ⟨⟨t, h1, h2⟩, _⟩ := h
  exact ⟨x, .ty T, t, _, _, rfl, .ty T, h1, h2 T hT, q⟩
theorem g_isiT {x : V} {k : Kn} {T : String} {Q : VK} (h : Thing K H x k) (hT : T ∈ TYS) (e : k.is T = true) (q : Q (.bl true) H) : rIsi K [x, .ty T] H Q := g_isi h hT (by rw [e]; exact q)
theorem g_isiF {x : V} {k : Kn} {T : String} {Q : VK} (h : Thing K H x k) (hT : T ∈ TYS) (e : k.is T = false) (q : Q (.bl false) H) : rIsi K [x, .ty T] H Q := g_isi h hT (by rw [e]; exact q)
theorem Thing.cases {x : V} {k : Kn} (h : Thing K H x k) {G : Prop} (h1 : x = .non → k = .non → G) (h2 : ∀ b, x = .bl b → k = .bl → G) (h3 : ∀ i, x = .int i → k = .int → G) (h4 : ∀ z, x = .str z → k = .str → plainS z → G)
    (h5 : ∀ a, x = .ref a → (k = .lst ∨ k = .tup ∨ k = .dct ∨ k = .obj) → G) : G := by
  have f := h.fit
  cases x with
  | non => exact h1 rfl f
  | bl b => exact h2 b rfl f
  | int i => exact h3 i rfl f
  | str z => exact h4 z rfl f.1 f.2
  | ref a => exact h5 a rfl f
  | _ => exact f.elim
theorem Kn.noInt {k : Kn} (h : k = .lst ∨ k = .tup ∨ k = .dct ∨ k = .obj) : k.is "int" = false ∧ k.is "bool" = false ∧ k.is "str" = false := by
  rcases h with rfl | rfl | rfl | rfl <;> decide
end
/-! ### whole numbers -/
def isWhole (x : V) (lo hi : Int) : Bool := match x with
  | .int n => decide (lo ≤ n) && decide (n ≤ hi)
  | _ => false
def sp_is_whole (K : PySem.W.Frag) : Sp := fun vs H Q _ => vs.length = 3 ∧ ∃ (x : V) (k : Kn) (lo hi : Int), vs = [x, .int lo, .int hi] ∧ Thing K H x k ∧ Q (.bl (isWhole x lo hi)) H
def t_is_whole (K : PySem.W.Frag) : TS := (tRet (tAndV (tCB (rIsi K) (tCons (tVar 0) (tCons (tC (.ty "int")) tNil))) (tAndV (tNotV (tCB (rIsi K) (tCons (tVar 0) (tCons (tC (.ty "bool")) tNil)))) (tChain (rI0 fun i j => .bl (decide (i ≤ j))) (rI0 fun i j => .bl (decide (i ≤ j))) (tVar 1) (tVar 0) (tVar 2)))))
theorem rd_is_whole {K : PySem.W.Frag} (vs : List V) (H : Hp) (Q : VK) (E : XK) (h : sp_is_whole K vs H Q E) : t_is_whole K { nx := fun _ H' => Q .non H', rt := Q } (start ["thing", "least", "most"] vs) H := by
  obtain ⟨_, x, k, lo, hi, rfl, hx, q⟩ := h
  show t_is_whole K ⟨_, _, _, _⟩ [some x, some (.int lo), some (.int hi)] H
  unfold t_is_whole
  tm_at "go"
  refine hx.cases ?_ ?_ ?_ ?_ ?_
  · rintro rfl rfl
    tm_at "go"
    exact q
  · rintro b rfl rfl
    tm_at "go"
    exact q
  · rintro n rfl rfl
    tm_at "go"
    refine g_dec (fun h => ?_) (fun h => ?_)
    · tm_at "go"
      have e : isWhole (.int n) lo hi = decide (n ≤ hi) := by
        show (decide (lo ≤ n) && decide (n ≤ hi)) = _
        rw [decide_eq_true h, Bool.true_and]
      rw [e] at q
      exact q
    · tm_at "go"
      have e : isWhole (.int n) lo hi = false := by
        show (decide (lo ≤ n) && decide (n ≤ hi)) = _
        rw [decide_eq_false h, Bool.false_and]
      rw [e] at q
      exact q
  · rintro z rfl rfl hp
    tm_at "go"
    exact q
  · rintro a rfl hk
    refine g_isiF hx (by decide) (Kn.noInt hk).1 ?_
    tm_at "go"
    exact q
/-! ### names -/
def letS : Str := "abcdefghijklmnopqrstuvwxyz"
def barVs : List V := [.str "style", .str "job", .str "round", .str "sew", .str "glue", .str "cover", .str "letter", .str "press", .str "hand", .str "haste"]
def isName (x : V) : Bool := match x with
  | .str z => decide (1 ≤ (z.length : Int)) && (decide ((z.length : Int) ≤ 8) && (!inV (.str z) barVs && z.cps.toList.all fun c => decide (c ∈ letS.cps.toList)))
  | _ => false
def sp_is_name (K : PySem.W.Frag) : Sp := fun vs H Q _ => vs.length = 1 ∧ ∃ (x : V) (k : Kn) (B : Hp) (M L : List (Addr × HO)), vs = [x] ∧ Is B M L H ∧ Thing K H x k ∧ ∀ H', Is B M L H' → Q (.bl (isName x)) H'
abbrev t_is_name_0 (K : PySem.W.Frag) : TS := (tRet (tCB (rAll K) (tCons (tLc (iAny K (tVar 0)) (gName 1) tYes (tOp (rInA K) (tVar 1) (tC (.str "abcdefghijklmnopqrstuvwxyz"))) [1]) tNil)))
def t_is_name (K : PySem.W.Frag) : TS := (tSeq (tIfS (tOr (tNot (tTr K (tCB (rIsi K) (tCons (tVar 0) (tCons (tC (.ty "str")) tNil))))) (tOr (tNot (tTest (tChain (rI0 fun i j => .bl (decide (i ≤ j))) (rI0 fun i j => .bl (decide (i ≤ j))) (tC (.int 1)) (tCB (rLen K) (tCons (tVar 0) tNil)) (tC (.int 8))))) (tTest (tOp (rInA K) (tVar 0) (tC (.ref (He.ga K "BARRED_WORDS"))))))) (tRet (tC (.bl false))) tNext) (t_is_name_0 K))
theorem rd_is_name {K : PySem.W.Frag} (hbar : ∀ H, SqT K H (He.ga K "BARRED_WORDS") barVs) (vs : List V) (H : Hp) (Q : VK) (E : XK) (h : sp_is_name K vs H Q E) : t_is_name K { nx := fun _ H' => Q .non H', rt := Q } (start ["thing", "sign"] vs) H := by
  obtain ⟨_, x, k, B, M, L, rfl, hI, hx, q⟩ := h
  show t_is_name K ⟨_, _, _, _⟩ [some x, none] H
  unfold t_is_name
  tm_at "go"
  refine hx.cases ?_ ?_ ?_ ?_ ?_
  · rintro rfl rfl
    tm_at "go"
    exact q _ hI
  · rintro b rfl rfl
    tm_at "go"
    exact q _ hI
  · rintro n rfl rfl
    tm_at "go"
    exact q _ hI
  · rintro z rfl rfl hp
    tm_at "go"
    have qq : Q (.bl (decide (1 ≤ (z.length : Int)) && (decide ((z.length : Int) ≤ 8) && (!inV (.str z) barVs && z.cps.toList.all fun c => decide (c ∈ letS.cps.toList))))) = Q (.bl (isName (.str z))) := rfl
    refine g_dec (fun h1 => ?_) (fun h1 => ?_)
    · tm_at "go"
      refine g_ndec (fun h2 => ?_) (fun h2 => ?_)
      · tm_at "go"
        have := q _ hI
        rw [← qq, decide_eq_true h1, decide_eq_false h2] at this
        exact this
      · tm_at "go"
        refine g_in_t (hbar H) rfl (by decide +kernel) ?_
        tm_at "go"
        refine g_b (fun h3 => ?_) (fun h3 => ?_)
        · tm_at "go"
          have := q _ hI
          rw [← qq, decide_eq_true h1, decide_eq_true h2, h3] at this
          exact this
        · tm_at "go"
          refine' g_lcS1 hI (by tm_at "wiped") (Nat.le_trans hp.1 (by decide)) (fun c => .bl (decide (c ∈ letS.cps.toList))) ?_ ?_
          · intro c D acc H' hc hI' PY hY
            tm_at "go"
            refine' g_wiped (by tm_at "wiped") ?_
            tm_at "go"
            exact hY _ hI'
          · intro D H' hI'
            tm_at "go"
            refine g_all (by tm_at "sq") ?_
            have := q _ (hI'.forget (by tm_at "sub"))
            rw [← qq, decide_eq_true h1, decide_eq_true h2, h3] at this
            exact this
    · tm_at "go"
      have := q _ hI
      rw [← qq, decide_eq_false h1] at this
      exact this
  · rintro a rfl hk
    refine g_isiF hx (by decide) (Kn.noInt hk).2.2 ?_
    tm_at "go"
    exact q _ hI
/-! ### numbers and words of texts -/
def digS : Str := "0123456789"
def digB (c : Nat) : Bool := decide (c ∈ digS.cps.toList)
def digV (l : List Nat) : Int := l.foldl (fun (n : Int) (c : Nat) => 10 * n + ((c : Int) - 48)) 0
theorem digB_bd {c : Nat} (h : digB c = true) : 48 ≤ c ∧ c ≤ 57 := by
  have e : digS.cps.toList = [48, 49, 50, 51, 52, 53, 54, 55, 56, 57] := by decide +kernel
  unfold digB at h
  rw [e] at h
  have := of_decide_eq_true h
  simp only [List.mem_cons, List.not_mem_nil, or_false] at this
  omega
theorem digV_nat : ∀ (l : List Nat) (a : Nat), (∀ c ∈ l, 48 ≤ c ∧ c ≤ 57) → l.foldl (fun (n : Int) (c : Nat) => 10 * n + ((c : Int) - 48)) (a : Int) = ((l.foldl (fun acc c => acc * 10 + (c - 48)) a : Nat) : Int)
  | [], _, _ => rfl
  | c :: l, a, h => by
    have hc := h c List.mem_cons_self
    rw [List.foldl_cons, List.foldl_cons, ← digV_nat l _ fun x hx => h x (List.mem_cons_of_mem _ hx)]
    congr 1
    omega
theorem intText_dig {z : Str} (h : z.cps.toList.all digB = true) (h0 : 1 ≤ z.length) (h1 : z.length ≤ 4300) : PySem.intText? z = some (digV z.cps.toList) := by
  have hb : ∀ c ∈ z.cps.toList, 48 ≤ c ∧ c ≤ 57 := fun c hc => digB_bd (List.all_eq_true.mp h c hc)
  have hne : z.cps.toList ≠ [] := fun e => by
    have : z.length = z.cps.toList.length := by simp [Str.length]
    rw [e] at this
    simp at this
    omega
  rw [PySem.intText_digits hb hne h1]
  congr 1
  exact (digV_nat z.cps.toList 0 hb).symm
theorem g_intS {K : PySem.W.Frag} {H : Hp} {Q : VK} {z : Str} (h : z.cps.toList.all digB = true) (h0 : 1 ≤ z.length) (h1 : z.length ≤ 600) (q : Q (.int (digV z.cps.toList)) H) : rIntS [.str z] H Q :=
  ⟨z, _, rfl, intText_dig h h0 (by omega), by omega, q⟩
def numOf (x : V) : V := match x with
  | .str z => if 1 ≤ z.length ∧ z.length ≤ 7 ∧ z.cps.toList.all digB = true ∧ ¬ (z.cps.toList.head? = some 48 ∧ z ≠ "0") then .int (digV z.cps.toList) else .non
  | _ => .non
theorem str_at0 {z : Str} (h : 1 ≤ z.length) : ∃ c, atI z.cps.toList 0 = some c ∧ z.cps.toList.head? = some c ∧ (decide (V.str ⟨#[c]⟩ = V.str "0") = decide (c = 48)) := by
  have e : z.length = z.cps.toList.length := by simp [Str.length]
  cases hz : z.cps.toList with
  | nil =>
    rw [hz] at e
    simp at e
    omega
  | cons c l =>
    refine ⟨c, atI_of (by omega) rfl, rfl, ?_⟩
    have h0 : ("0" : Str) = ⟨#[48]⟩ := by decide +kernel
    rw [h0]
    simp
def sp_number_of (K : PySem.W.Frag) : Sp := fun vs H Q _ => vs.length = 1 ∧ ∃ (x : V) (k : Kn) (B : Hp) (M L : List (Addr × HO)), vs = [x] ∧ Is B M L H ∧ Thing K H x k ∧ ∀ H', Is B M L H' → Q (numOf x) H'
abbrev t_number_of_0 (K : PySem.W.Frag) : TS := (tRet (tCB rIntS (tCons (tVar 0) tNil)))
abbrev t_number_of_1 (K : PySem.W.Frag) : TS := (tSeq (tIfS (tOr (tNot (tTr K (tCB (rAll K) (tCons (tLc (iAny K (tVar 0)) (gName 1) tYes (tOp (rInA K) (tVar 1) (tC (.str "0123456789"))) [1]) tNil)))) (tAnd (tTest (tOp (rEqA K) (tOp (rIx K) (tVar 0) (tC (.int 0))) (tC (.str "0")))) (tTest (tOp (rNeA K) (tVar 0) (tC (.str "0")))))) (tRet (tC .non)) tNext) (t_number_of_0 K))
def t_number_of (K : PySem.W.Frag) : TS := (tSeq (tIfS (tOr (tNot (tTr K (tCB (rIsi K) (tCons (tVar 0) (tCons (tC (.ty "str")) tNil))))) (tNot (tTest (tChain (rI0 fun i j => .bl (decide (i ≤ j))) (rI0 fun i j => .bl (decide (i ≤ j))) (tC (.int 1)) (tCB (rLen K) (tCons (tVar 0) tNil)) (tC (.int 7)))))) (tRet (tC .non)) tNext) (t_number_of_1 K))
theorem rd_number_of {K : PySem.W.Frag} (vs : List V) (H : Hp) (Q : VK) (E : XK) (h : sp_number_of K vs H Q E) : t_number_of K { nx := fun _ H' => Q .non H', rt := Q } (start ["word", "sign"] vs) H := by
  obtain ⟨_, x, k, B, M, L, rfl, hI, hx, q⟩ := h
  show t_number_of K ⟨_, _, _, _⟩ [some x, none] H
  unfold t_number_of
  tm_at "go"
  refine hx.cases ?_ ?_ ?_ ?_ ?_
  · rintro rfl rfl
    tm_at "go"
    exact q _ hI
  · rintro b rfl rfl
    tm_at "go"
    exact q _ hI
  · rintro n rfl rfl
    tm_at "go"
    exact q _ hI
  · rintro z rfl rfl hp
    tm_at "go"
    have no : ¬ (1 ≤ z.length ∧ z.length ≤ 7 ∧ z.cps.toList.all digB = true ∧ ¬ (z.cps.toList.head? = some 48 ∧ z ≠ "0")) → ∀ H', Is B M L H' → Q .non H' := fun hn H' hI' => by
      have := q _ hI'
      rwa [show numOf (.str z) = .non from if_neg hn] at this
    have ye : (1 ≤ z.length ∧ z.length ≤ 7 ∧ z.cps.toList.all digB = true ∧ ¬ (z.cps.toList.head? = some 48 ∧ z ≠ "0")) → ∀ H', Is B M L H' → Q (.int (digV z.cps.toList)) H' := fun hn H' hI' => by
      have := q _ hI'
      rwa [show numOf (.str z) = .int _ from if_pos hn] at this
    refine g_dec (fun h1 => ?_) (fun h1 => ?_)
    · tm_at "go"
      refine g_ndec (fun h2 => ?_) (fun h2 => ?_)
      · tm_at "go"
        exact no (fun hh => by omega) _ hI
      · tm_at "go"
        refine' g_lcS1 hI (by tm_at "wiped") (Nat.le_trans hp.1 (by decide)) (fun c => .bl (digB c)) ?_ ?_
        · intro c D acc H' hc hI' PY hY
          tm_at "go"
          refine' g_wiped (by tm_at "wiped") ?_
          tm_at "go"
          exact hY _ hI'
        · intro D H' hI'
          tm_at "go"
          refine g_all (by tm_at "sq") ?_
          tm_at "go"
          refine g_nb (fun h3 => ?_) (fun h3 => ?_)
          · tm_at "go"
            exact no (fun hh => by rw [hh.2.2.1] at h3; cases h3) _ (hI'.forget (by tm_at "sub"))
          · tm_at "go"
            have hI := hI'.forget (L' := L) (by tm_at "sub")
            obtain ⟨c, e1, e2, e3⟩ := str_at0 (z := z) (by omega)
            refine g_ix_s (hp.len) e1 ?_
            tm_at "go"
            rw [e3]
            refine g_dec (fun h4 => ?_) (fun h4 => ?_)
            · tm_at "go"
              refine g_ndec (fun h5 => ?_) (fun h5 => ?_)
              · tm_at "go"
                refine no (fun hh => hh.2.2.2 ⟨by rw [e2, h4], fun e => h5 (by rw [e])⟩) _ hI
              · tm_at "go"
                exact g_intS (K := K) h3 (by omega) (by omega) (ye ⟨by omega, by omega, h3, fun hh => hh.2 (V.str.inj h5)⟩ _ hI)
            · tm_at "go"
              exact g_intS (K := K) h3 (by omega) (by omega) (ye ⟨by omega, by omega, h3, fun hh => h4 (Option.some.inj (e2.symm.trans hh.1))⟩ _ hI)
    · tm_at "go"
      exact no (fun hh => by omega) _ hI
  · rintro a rfl hk
    refine g_isiF hx (by decide) (Kn.noInt hk).2.2 ?_
    tm_at "go"
    exact q _ hI
/-! words of a row -/
def blkS : Str := " "
def partsL (z : Str) : List (List Nat) := TL.spl [32] 0 [] z.cps.toList
def wordsV (x : V) : Option (List Str) := match x with
  | .str z => if [] ∈ partsL z then none else some ((partsL z).map fun l => ⟨l.toArray⟩)
  | _ => none
theorem split_parts (z : Str) : Txt.split z " " = (partsL z).map fun l => (⟨l.toArray⟩ : Str) := by
  have h := TL.split_spl z " " (by decide +kernel) (TL.kind_ok (by decide +kernel))
  have e : TL.tl (" " : Str) = [32] := by decide +kernel
  rw [e] at h
  refine TL.map_tl_inj ?_
  rw [h, List.map_map]
  have : (TL.tl ∘ fun l : List Nat => (⟨l.toArray⟩ : Str)) = id := by
    funext l
    rfl
  rw [this, List.map_id]
  rfl
theorem inV_parts : ∀ l : List (List Nat), inV (.str "") ((l.map fun l => (⟨l.toArray⟩ : Str)).map V.str) = decide ([] ∈ l)
  | [] => rfl
  | x :: l => by
    have ih := inV_parts l
    have e0 : ("" : Str) = ⟨#[]⟩ := by decide +kernel
    rw [e0] at ih ⊢
    unfold inV at ih ⊢
    rw [List.map_cons, List.map_cons, List.any_cons, ih]
    cases x with
    | nil =>
      show ((⟨#[]⟩ : Str) == ⟨#[]⟩ || decide ([] ∈ l)) = _
      simp
    | cons c r =>
      show ((⟨(c :: r).toArray⟩ : Str) == ⟨#[]⟩ || decide ([] ∈ l)) = _
      have e1 : ((⟨(c :: r).toArray⟩ : Str) == ⟨#[]⟩) = false := beq_eq_false_iff_ne.mpr fun e => by
        have := congrArg (fun z : Str => z.cps.toList) e
        cases this
      rw [e1]
      simp
theorem flat_strs (l : List Str) : (l.map V.str).all flatV = true := by
  rw [List.all_map, List.all_eq_true]
  intro x _
  rfl
def sp_words_of (K : PySem.W.Frag) : Sp := fun vs H Q _ => vs.length = 1 ∧ ∃ (x : V) (k : Kn) (B : Hp) (M L : List (Addr × HO)), vs = [x] ∧ Is B M L H ∧ Thing K H x k ∧
  (wordsV x = none → ∀ H', Is B M L H' → Q .non H') ∧ (∀ ws, wordsV x = some ws → ∀ p H', Is B M ((p, .lst (ws.map V.str)) :: L) H' → Q (.ref p) H')
abbrev t_words_of_0 (K : PySem.W.Frag) : TS := (tRet (tIf (tTest (tOp (rInA K) (tC (.str "")) (tVar 1))) (tC .non) (tVar 1)))
abbrev t_words_of_1 (K : PySem.W.Frag) : TS := (tSeq (tAsg (tM1 rSplit (tVar 0) (tC (.str " "))) (gName 1)) (t_words_of_0 K))
def t_words_of (K : PySem.W.Frag) : TS := (tSeq (tIfS (tNot (tTr K (tCB (rIsi K) (tCons (tVar 0) (tCons (tC (.ty "str")) tNil))))) (tRet (tC .non)) tNext) (t_words_of_1 K))
theorem rd_words_of {K : PySem.W.Frag} (vs : List V) (H : Hp) (Q : VK) (E : XK) (h : sp_words_of K vs H Q E) : t_words_of K { nx := fun _ H' => Q .non H', rt := Q } (start ["row", "found"] vs) H := by
  obtain ⟨_, x, k, B, M, L, rfl, hI, hx, q1, q2⟩ := h
  show t_words_of K ⟨_, _, _, _⟩ [some x, none] H
  unfold t_words_of
  tm_at "go"
  refine hx.cases ?_ ?_ ?_ ?_ ?_
  · rintro rfl rfl
    tm_at "go"
    exact q1 rfl _ hI
  · rintro b rfl rfl
    tm_at "go"
    exact q1 rfl _ hI
  · rintro n rfl rfl
    tm_at "go"
    exact q1 rfl _ hI
  · rintro z rfl rfl hp
    tm_at "go"
    refine ⟨z, " ", rfl, rfl, by decide +kernel, Nat.le_trans (Nat.add_le_add_right hp.1 2) (by decide +kernel), ?_⟩
    rw [split_parts]
    refine g_newS hI ?_
    clear hI
    intro p H hI
    tm_at "go"
    refine g_in_l (by tm_at "sq") rfl (flat_strs _) ?_
    tm_at "go"
    rw [inV_parts]
    refine g_dec (fun h1 => ?_) (fun h1 => ?_)
    · tm_at "go"
      exact q1 (if_pos h1) _ (hI.forget (by tm_at "sub"))
    · tm_at "go"
      exact q2 _ (if_neg h1) _ _ hI
  · rintro a rfl hk
    refine g_isiF hx (by decide) (Kn.noInt hk).2.2 ?_
    tm_at "go"
    exact q1 rfl _ hI
theorem dp_signs {K : PySem.W.Frag} {H : Hp} : ∀ l : List Nat, DpAll K H (l.map fun c => V.str ⟨#[c]⟩) (l.map fun c => PyData.str ⟨#[c]⟩)
  | [] => .nil
  | _ :: l => .cons (.str _) (dp_signs l)
theorem eqv_nil {α : Type} (f : α → PyData) (l : List α) : PyData.eqv (.list (l.map f)) (.list []) = l.isEmpty := by
  cases l with
  | nil => simp [PyData.eqv, PyData.eqvAll]
  | cons c l => simp [PyData.eqv, PyData.eqvAll]
theorem shaped_signs (l : List Nat) (h : ∀ c ∈ l, c < 128) : SeqAt.shaped (.list (l.map fun c => PyData.str ⟨#[c]⟩)) = true := Shn.shaped (Shn.lst (shn_signs (k := 1) l h)) (by decide)
theorem plain_filter {z : Str} (h : plainS z) (p : Nat → Bool) : ∀ c ∈ z.cps.toList.filter p, c < 128 := fun c hc => h.2 c (List.mem_filter.mp hc).1
theorem none_else (p : Nat → Bool) (l : List Nat) : (l.filter fun c => !p c).isEmpty = l.all p := by
  induction l with
  | nil => rfl
  | cons c l ih =>
    rw [List.filter_cons, List.all_cons, ← ih]
    cases p c <;> rfl
/-! ### whole numbers -/
def sp_law_whole (K : PySem.W.Frag) : Sp := fun vs H Q _ => vs.length = 3 ∧ ∃ (x : V) (k : Kn) (lo hi : Int), vs = [x, .int lo, .int hi] ∧ Thing K H x k ∧ Q (.bl (isWhole x lo hi)) H
def t_law_whole (K : PySem.W.Frag) : TS := (tRet (tAndV (tCB (rIsi K) (tCons (tVar 0) (tCons (tC (.ty "int")) tNil))) (tAndV (tNotV (tCB (rIsi K) (tCons (tVar 0) (tCons (tC (.ty "bool")) tNil)))) (tChain (rI0 fun i j => .bl (decide (i ≤ j))) (rI0 fun i j => .bl (decide (i ≤ j))) (tVar 1) (tVar 0) (tVar 2)))))
theorem rd_law_whole {K : PySem.W.Frag} (vs : List V) (H : Hp) (Q : VK) (E : XK) (h : sp_law_whole K vs H Q E) : t_law_whole K { nx := fun _ H' => Q .non H', rt := Q } (start ["odd", "low", "high"] vs) H := by
  obtain ⟨_, x, k, lo, hi, rfl, hx, q⟩ := h
  show t_law_whole K ⟨_, _, _, _⟩ [some x, some (.int lo), some (.int hi)] H
  unfold t_law_whole
  tm_at "go"
  refine hx.cases ?_ ?_ ?_ ?_ ?_
  · rintro rfl rfl
    tm_at "go"
    exact q
  · rintro b rfl rfl
    tm_at "go"
    exact q
  · rintro n rfl rfl
    tm_at "go"
    refine g_dec (fun h => ?_) (fun h => ?_)
    · tm_at "go"
      have e : isWhole (.int n) lo hi = decide (n ≤ hi) := by
        show (decide (lo ≤ n) && decide (n ≤ hi)) = _
        rw [decide_eq_true h, Bool.true_and]
      rw [e] at q
      exact q
    · tm_at "go"
      have e : isWhole (.int n) lo hi = false := by
        show (decide (lo ≤ n) && decide (n ≤ hi)) = _
        rw [decide_eq_false h, Bool.false_and]
      rw [e] at q
      exact q
  · rintro z rfl rfl hp
    tm_at "go"
    exact q
  · rintro a rfl hk
    refine g_isiF hx (by decide) (Kn.noInt hk).1 ?_
    tm_at "go"
    exact q
/-! ### names -/
def sp_law_is_name (K : PySem.W.Frag) : Sp := fun vs H Q _ => vs.length = 1 ∧ ∃ (x : V) (k : Kn) (B : Hp) (M L : List (Addr × HO)), vs = [x] ∧ Is B M L H ∧ Thing K B x k ∧ ∀ H', Is B M L H' → Q (.bl (isName x)) H'
abbrev t_law_is_name_0 (K : PySem.W.Frag) : TS := (tRet (tOp (rEqA K) (tLc (iAny K (tVar 0)) (gName 3) (tTest (tOp (rNotInA K) (tVar 3) (tVar 1))) (tVar 3) [3]) (tLst tNil)))
abbrev t_law_is_name_1 (K : PySem.W.Frag) : TS := (tSeq (tIfS (tOr (tNot (tTr K (tCB (rIsi K) (tCons (tVar 0) (tCons (tC (.ty "str")) tNil))))) (tOr (tNot (tTest (tChain (rI0 fun i j => .bl (decide (i ≤ j))) (rI0 fun i j => .bl (decide (i ≤ j))) (tC (.int 1)) (tCB (rLen K) (tCons (tVar 0) tNil)) (tC (.int 8))))) (tTest (tOp (rInA K) (tVar 0) (tVar 2))))) (tRet (tC (.bl false))) tNext) (t_law_is_name_0 K))
abbrev t_law_is_name_2 (K : PySem.W.Frag) : TS := (tSeq (tAsg (tLst (tCons (tC (.str "style")) (tCons (tC (.str "job")) (tCons (tC (.str "round")) (tCons (tC (.str "sew")) (tCons (tC (.str "glue")) (tCons (tC (.str "cover")) (tCons (tC (.str "letter")) (tCons (tC (.str "press")) (tCons (tC (.str "hand")) (tCons (tC (.str "haste")) tNil))))))))))) (gName 2)) (t_law_is_name_1 K))
def t_law_is_name (K : PySem.W.Frag) : TS := (tSeq (tAsg (tC (.str "abcdefghijklmnopqrstuvwxyz")) (gName 1)) (t_law_is_name_2 K))
theorem rd_law_is_name {K : PySem.W.Frag} (vs : List V) (H : Hp) (Q : VK) (E : XK) (h : sp_law_is_name K vs H Q E) : t_law_is_name K { nx := fun _ H' => Q .non H', rt := Q } (start ["odd", "small", "banned", "sign"] vs) H := by
  obtain ⟨_, x, k, B, M, L, rfl, hI, hx, q⟩ := h
  show t_law_is_name K ⟨_, _, _, _⟩ [some x, none, none, none] H
  unfold t_law_is_name
  tm_at "go"
  refine hx.cases ?_ ?_ ?_ ?_ ?_
  · rintro rfl rfl
    tm_at "go"
    exact q _ (by tm_at "is")
  · rintro b rfl rfl
    tm_at "go"
    exact q _ (by tm_at "is")
  · rintro n rfl rfl
    tm_at "go"
    exact q _ (by tm_at "is")
  · rintro z rfl rfl hp
    tm_at "go"
    have qq : Q (.bl (decide (1 ≤ (z.length : Int)) && (decide ((z.length : Int) ≤ 8) && (!inV (.str z) barVs && z.cps.toList.all fun c => decide (c ∈ letS.cps.toList))))) = Q (.bl (isName (.str z))) := rfl
    refine g_dec (fun h1 => ?_) (fun h1 => ?_)
    · tm_at "go"
      refine g_ndec (fun h2 => ?_) (fun h2 => ?_)
      · tm_at "go"
        have := q _ (hI.forget (by tm_at "sub"))
        rw [← qq, decide_eq_true h1, decide_eq_false h2] at this
        exact this
      · tm_at "go"
        refine g_in_l (by tm_at "sq") rfl (by decide +kernel) ?_
        tm_at "go"
        refine g_b (fun h3 => ?_) (fun h3 => ?_)
        · tm_at "go"
          have := q _ (hI.forget (by tm_at "sub"))
          rw [← qq, decide_eq_true h1, decide_eq_true h2, show inV (.str z) barVs = true from h3] at this
          exact this
        · tm_at "go"
          refine' g_lcS hI (by tm_at "wiped") (Nat.le_trans hp.1 (by decide)) (fun c => !decide (c ∈ letS.cps.toList)) (fun c => .str ⟨#[c]⟩) ?_ ?_
          · intro c D acc H' hc hI' PY PN hY hN
            tm_at "go"
            refine' g_wiped (by tm_at "wiped") ?_
            tm_at "go"
            refine g_nb (fun h => ?_) (fun h => ?_)
            · tm_at "go"
              exact hY _ (by show (!decide (c ∈ letS.cps.toList)) = true; rw [show decide (c ∈ letS.cps.toList) = false from h]; rfl) hI'
            · tm_at "go"
              exact hN _ (by show (!decide (c ∈ letS.cps.toList)) = false; rw [show decide (c ∈ letS.cps.toList) = true from h]; rfl) hI'
          · intro D H' hI
            tm_at "go"
            refine g_eq_d (.lst (by tm_at "sq") (dp_signs _)) (.lst (xs := []) (by tm_at "sq") .nil) (shaped_signs _ (plain_filter hp _)) rfl ?_
            have := q _ (hI.forget (by tm_at "sub"))
            rw [← qq, decide_eq_true h1, decide_eq_true h2, show inV (.str z) barVs = false from h3] at this
            rw [eqv_nil, none_else]
            exact this
    · tm_at "go"
      have := q _ (hI.forget (by tm_at "sub"))
      rw [← qq, decide_eq_false h1] at this
      exact this
  · rintro a rfl hk
    refine g_isiF (Thing.same hI.ex hx) (by decide) (Kn.noInt hk).2.2 ?_
    tm_at "go"
    exact q _ (by tm_at "is")
/-! ### numbers -/
theorem dig_index : ∀ c ∈ digS.cps.toList, Txt.index0 ("0123456789" : Str) ⟨#[c]⟩ = some (c - 48) := by decide +kernel
def sp_law_number (K : PySem.W.Frag) : Sp := fun vs H Q _ => vs.length = 1 ∧ ∃ (x : V) (k : Kn) (B : Hp) (M L : List (Addr × HO)), vs = [x] ∧ Is B M L H ∧ Thing K B x k ∧ ∀ H', Is B M L H' → Q (numOf x) H'
theorem digV_snoc (l : List Nat) (c : Nat) : digV (l ++ [c]) = 10 * digV l + ((c : Int) - 48) := by
  unfold digV
  rw [List.foldl_append]
  rfl
theorem take_snoc {α : Type} {l : List α} {i : Nat} (h : i < l.length) : l.take (i + 1) = l.take i ++ [l[i]] := by
  rw [List.take_add_one, List.getElem?_eq_getElem h]
  rfl
theorem digV_bd : ∀ (l : List Nat), (∀ c ∈ l, 48 ≤ c ∧ c ≤ 57) → ∀ a : Int, 0 ≤ a → 0 ≤ l.foldl (fun (n : Int) (c : Nat) => 10 * n + ((c : Int) - 48)) a ∧ l.foldl (fun (n : Int) (c : Nat) => 10 * n + ((c : Int) - 48)) a < (a + 1) * 10 ^ l.length
  | [], _, a, h => ⟨h, by show a < (a + 1) * 1; omega⟩
  | c :: l, h, a, ha => by
    have hc := h c List.mem_cons_self
    obtain ⟨h1, h2⟩ := digV_bd l (fun d hd => h d (List.mem_cons_of_mem _ hd)) (10 * a + ((c : Int) - 48)) (by omega)
    refine ⟨h1, Int.lt_of_lt_of_le h2 ?_⟩
    rw [List.length_cons, Int.pow_succ, Int.mul_comm (10 ^ l.length) 10, ← Int.mul_assoc]
    exact Int.mul_le_mul_of_nonneg_right (by omega) (Int.le_of_lt (Int.pow_pos (by decide)))
abbrev t_law_number_0 (K : PySem.W.Frag) : TS := (tAsg (tOp (rAddA K) (tOp rMulA (tC (.int 10)) (tVar 1)) (tBM K "str" rIndexS (tC (.str "0123456789")) (tCons (tVar 2) tNil))) (gName 1))
abbrev t_law_number_1 (K : PySem.W.Frag) : TS := (tRet (tVar 1))
abbrev t_law_number_2 (K : PySem.W.Frag) : TS := (tSeq (tFor (iAny K (tVar 0)) (gName 2) (t_law_number_0 K)) (t_law_number_1 K))
abbrev t_law_number_3 (K : PySem.W.Frag) : TS := (tSeq (tAsg (tC (.int 0)) (gName 1)) (t_law_number_2 K))
abbrev t_law_number_4 (K : PySem.W.Frag) : TS := (tSeq (tIfS (tOr (tTest (tOp (rNeA K) (tLc (iAny K (tVar 0)) (gName 2) (tTest (tOp (rNotInA K) (tVar 2) (tC (.str "0123456789")))) (tVar 2) [2]) (tLst tNil))) (tAnd (tTest (tOp (rEqA K) (tOp (rIx K) (tVar 0) (tC (.int 0))) (tC (.str "0")))) (tTest (tOp (rNeA K) (tVar 0) (tC (.str "0")))))) (tRet (tC .non)) tNext) (t_law_number_3 K))
def t_law_number (K : PySem.W.Frag) : TS := (tSeq (tIfS (tOr (tNot (tTr K (tCB (rIsi K) (tCons (tVar 0) (tCons (tC (.ty "str")) tNil))))) (tNot (tTest (tChain (rI0 fun i j => .bl (decide (i ≤ j))) (rI0 fun i j => .bl (decide (i ≤ j))) (tC (.int 1)) (tCB (rLen K) (tCons (tVar 0) tNil)) (tC (.int 7)))))) (tRet (tC .non)) tNext) (t_law_number_4 K))
theorem rd_law_number {K : PySem.W.Frag} (vs : List V) (H : Hp) (Q : VK) (E : XK) (h : sp_law_number K vs H Q E) : t_law_number K { nx := fun _ H' => Q .non H', rt := Q } (start ["text", "found", "sign"] vs) H := by
  obtain ⟨_, x, k, B, M, L, rfl, hI, hx, q⟩ := h
  show t_law_number K ⟨_, _, _, _⟩ [some x, none, none] H
  unfold t_law_number
  tm_at "go"
  refine hx.cases ?_ ?_ ?_ ?_ ?_
  · rintro rfl rfl
    tm_at "go"
    exact q _ hI
  · rintro b rfl rfl
    tm_at "go"
    exact q _ hI
  · rintro n rfl rfl
    tm_at "go"
    exact q _ hI
  · rintro z rfl rfl hp
    tm_at "go"
    have no : ¬ (1 ≤ z.length ∧ z.length ≤ 7 ∧ z.cps.toList.all digB = true ∧ ¬ (z.cps.toList.head? = some 48 ∧ z ≠ "0")) → ∀ H', Is B M L H' → Q .non H' := fun hn H' hI' => by
      have := q _ hI'
      rwa [show numOf (.str z) = .non from if_neg hn] at this
    have ye : (1 ≤ z.length ∧ z.length ≤ 7 ∧ z.cps.toList.all digB = true ∧ ¬ (z.cps.toList.head? = some 48 ∧ z ≠ "0")) → ∀ H', Is B M L H' → Q (.int (digV z.cps.toList)) H' := fun hn H' hI' => by
      have := q _ hI'
      rwa [show numOf (.str z) = .int _ from if_pos hn] at this
    have key : (1 ≤ z.length ∧ z.length ≤ 7 ∧ z.cps.toList.all digB = true ∧ ¬ (z.cps.toList.head? = some 48 ∧ z ≠ "0")) → ∀ (s : Option V) (H : Hp), Is B M L H → t_law_number_3 K ⟨fun _ H' => Q .non H', Q, fun _ _ => False, fun _ _ => False⟩ [some (.str z), none, s] H := by
      intro hh s H hI
      tm_at "go"
      have hb : ∀ c ∈ z.cps.toList, 48 ≤ c ∧ c ≤ 57 := fun c hc => digB_bd (List.all_eq_true.mp hh.2.2.1 c hc)
      refine' g_aFor walkS (fun i σ H => ∃ (s : Option V), σ = [some (.str z), some (.int (digV (z.cps.toList.take i))), s] ∧ Is B M L H) ⟨_, rfl, hI⟩ (fun _ _ _ _ _ => trivial) ?_ ?_
      · rintro i x σ H H' hi ⟨s, rfl, hI⟩ ⟨rfl, hx⟩
        have hi : i < z.cps.toList.length := by rwa [signs_len, len_cps] at hi
        have hx : x = .str ⟨#[z.cps.toList[i]]⟩ := by
          unfold signs at hx
          rw [List.getElem?_map, List.getElem?_eq_getElem hi] at hx
          exact (Option.some.inj hx).symm
        subst hx
        have hc := List.getElem_mem hi
        tm_at "go"
        have hb2 := digV_bd (z.cps.toList.take i) (fun c hc => hb c (List.mem_of_mem_take hc)) 0 (by omega)
        have hb3 : digV (z.cps.toList.take i) < 10 ^ 7 := by
          have h1 : digV (z.cps.toList.take i) < (0 + 1) * 10 ^ (z.cps.toList.take i).length := hb2.2
          rw [List.length_take] at h1
          have h2 : ((10 ^ (min i z.cps.toList.length) : Nat) : Int) ≤ ((10 ^ 7 : Nat) : Int) := Int.ofNat_le.mpr (Nat.pow_le_pow_right (by decide) (by rw [← len_cps]; omega))
          rw [Int.natCast_pow] at h2
          have h3 : ((10 ^ 7 : Nat) : Int) = 10 ^ 7 := rfl
          rw [h3] at h2
          have h4 : ((10 : Nat) : Int) = 10 := rfl
          rw [h4] at h2
          omega
        have hb4 : 0 ≤ digV (z.cps.toList.take i) := hb2.1
        tm_at "go"
        refine ⟨_, _, _, rfl, rfl, dig_index _ (of_decide_eq_true (List.all_eq_true.mp hh.2.2.1 _ hc)), ?_⟩
        tm_at "go"
        have := hb _ hc
        have e1 : ((z.cps.toList[i] - 48 : Nat) : Int) = (z.cps.toList[i] : Int) - 48 := by omega
        rw [e1, ← digV_snoc, ← take_snoc hi]
        exact ⟨_, rfl, hI⟩
      · rintro σ H ⟨s, rfl, hI⟩
        tm_at "go"
        have := ye hh H hI
        rwa [List.take_of_length_le (by rw [signs_len, len_cps]; exact Nat.le_refl _)]
    refine g_dec (fun h1 => ?_) (fun h1 => ?_)
    · tm_at "go"
      refine g_ndec (fun h2 => ?_) (fun h2 => ?_)
      · tm_at "go"
        exact no (fun hh => by omega) _ hI
      · tm_at "go"
        refine' g_lcS hI (by tm_at "wiped") (Nat.le_trans hp.1 (by decide)) (fun c => !digB c) (fun c => .str ⟨#[c]⟩) ?_ ?_
        · intro c D acc H' hc hI' PY PN hY hN
          tm_at "go"
          refine' g_wiped (by tm_at "wiped") ?_
          tm_at "go"
          refine g_nb (fun h => ?_) (fun h => ?_)
          · tm_at "go"
            exact hY _ (by show (!digB c) = true; rw [show digB c = false from h]; rfl) hI'
          · tm_at "go"
            exact hN _ (by show (!digB c) = false; rw [show digB c = true from h]; rfl) hI'
        · intro D H' hI
          tm_at "go"
          refine g_ne_d (.lst (by tm_at "sq") (dp_signs _)) (.lst (xs := []) (by tm_at "sq") .nil) (shaped_signs _ (plain_filter hp _)) rfl ?_
          rw [eqv_nil, none_else]
          tm_at "go"
          have hI := hI.forget (L' := L) (by tm_at "sub")
          refine g_nb (fun h3 => ?_) (fun h3 => ?_)
          · tm_at "go"
            exact no (fun hh => by rw [hh.2.2.1] at h3; cases h3) _ hI
          · tm_at "go"
            obtain ⟨c, e1, e2, e3⟩ := str_at0 (z := z) (by omega)
            refine g_ix_s (hp.len) e1 ?_
            tm_at "go"
            rw [e3]
            refine g_dec (fun h4 => ?_) (fun h4 => ?_)
            · tm_at "go"
              refine g_ndec (fun h5 => ?_) (fun h5 => ?_)
              · tm_at "go"
                refine no (fun hh => hh.2.2.2 ⟨by rw [e2, h4], fun e => h5 (by rw [e])⟩) _ hI
              · tm_at "next"
                exact key ⟨by omega, by omega, h3, fun hh => hh.2 (V.str.inj h5)⟩ _ _ hI
            · tm_at "next"
              exact key ⟨by omega, by omega, h3, fun hh => h4 (Option.some.inj (e2.symm.trans hh.1))⟩ _ _ hI
    · tm_at "go"
      exact no (fun hh => by omega) _ hI
  · rintro a rfl hk
    refine g_isiF (Thing.same hI.ex hx) (by decide) (Kn.noInt hk).2.2 ?_
    tm_at "go"
    exact q _ hI
/-! ### words -/
/-- what the look sign by sign has found behind i signs: the parts that are whole, the last one -/
def stepP (st : List (List Nat) × List Nat) (c : Nat) : List (List Nat) × List Nat := if c = 32 then (st.1 ++ [st.2], []) else (st.1, st.2 ++ [c])
theorem stepP_spl : ∀ (l : List Nat) (acc : List Nat) (ds : List (List Nat)), (l.foldl stepP (ds, acc)).1 ++ [(l.foldl stepP (ds, acc)).2] = ds ++ TL.spl [32] 0 acc l
  | [], acc, ds => by rw [TL.spl_nil]; rfl
  | c :: l, acc, ds => by
    rw [List.foldl_cons]
    by_cases h : c = 32
    · subst h
      have e : stepP (ds, acc) 32 = (ds ++ [acc], []) := rfl
      rw [e, stepP_spl l [] (ds ++ [acc]), TL.spl_hit (by rfl)]
      simp
    · have e : stepP (ds, acc) c = (ds, acc ++ [c]) := by
        unfold stepP
        rw [if_neg h]
      rw [e, stepP_spl l _ ds, TL.spl_miss]
      show ((c :: l).take 1 == [32]) = false
      rw [List.take_succ_cons, List.take_zero]
      exact beq_eq_false_iff_ne.mpr fun e => h (by injection e)
theorem stepP_len : ∀ (l : List Nat) (st : List (List Nat) × List Nat), (l.foldl stepP st).1.length ≤ st.1.length + l.length
  | [], st => by simp
  | c :: l, st => by
    rw [List.foldl_cons]
    have h := stepP_len l (stepP st c)
    have h2 : (stepP st c).1.length ≤ st.1.length + 1 := by
      unfold stepP
      split
      · simp
      · simp
    rw [List.length_cons]
    omega
theorem stepP_last : ∀ (l : List Nat) (st : List (List Nat) × List Nat), (l.foldl stepP st).2.length ≤ st.2.length + l.length ∧ ((∀ c ∈ st.2, c < 128) → (∀ c ∈ l, c < 128) → ∀ c ∈ (l.foldl stepP st).2, c < 128)
  | [], st => ⟨by simp, fun h _ => h⟩
  | c :: l, st => by
    rw [List.foldl_cons]
    obtain ⟨h1, h2⟩ := stepP_last l (stepP st c)
    have h3 : (stepP st c).2.length ≤ st.2.length + 1 := by
      unfold stepP
      split
      · simp
      · simp
    refine ⟨by rw [List.length_cons]; omega, fun a b => h2 ?_ fun d hd => b d (List.mem_cons_of_mem _ hd)⟩
    unfold stepP
    split
    · intro d hd
      cases hd
    · intro d hd
      rcases List.mem_append.mp hd with e | e
      · exact a d e
      · rw [List.mem_singleton.mp e]
        exact b c List.mem_cons_self
def mkS (l : List Nat) : Str := ⟨l.toArray⟩
theorem mkS_snoc (l : List Nat) (c : Nat) : mkS l ++ (⟨#[c]⟩ : Str) = mkS (l ++ [c]) := by
  refine TL.ext_tl ?_
  show (mkS l ++ (⟨#[c]⟩ : Str)).cps.toList = _
  rw [cps_app]
  rfl
theorem parts_of (z : Str) : ((z ++ (" " : Str)).cps.toList.foldl stepP ([], [])).1 = partsL z := by
  have e : (" " : Str).cps.toList = [32] := by decide +kernel
  have h := stepP_spl z.cps.toList [] []
  rw [cps_app, e, List.foldl_append]
  exact h
def sp_law_parted (K : PySem.W.Frag) : Sp := fun vs H Q _ => vs.length = 1 ∧ ∃ (x : V) (k : Kn) (B : Hp) (M L : List (Addr × HO)), vs = [x] ∧ Is B M L H ∧ Thing K B x k ∧
  (wordsV x = none → ∀ H', Is B M L H' → Q .non H') ∧ (∀ ws, wordsV x = some ws → ∀ p H', Is B M ((p, .lst (ws.map V.str)) :: L) H' → Q (.ref p) H')
theorem sg_at {z : Str} {i : Nat} {x : V} (h : (signs z)[i]? = some x) : ∃ c, x = .str ⟨#[c]⟩ ∧ z.cps.toList[i]? = some c := by
  unfold signs at h
  rw [List.getElem?_map] at h
  cases e : z.cps.toList[i]? with
  | none => rw [e] at h; cases h
  | some c =>
    rw [e] at h
    exact ⟨c, (Option.some.inj h).symm, rfl⟩
theorem take_snoc' {α : Type} {l : List α} {i : Nat} {a : α} (h : l[i]? = some a) : l.take (i + 1) = l.take i ++ [a] := by
  rw [List.take_add_one, h]
  rfl
theorem sign_eq (c : Nat) : decide (V.str ⟨#[c]⟩ = V.str " ") = decide (c = 32) := by
  have h0 : (" " : Str) = ⟨#[32]⟩ := by decide +kernel
  rw [h0]
  simp
abbrev t_law_parted_0 (K : PySem.W.Frag) : TS := (tAsg (tIf (tTest (tOp (rEqA K) (tVar 3) (tC (.str " ")))) (tC (.str "")) (tOp (rAddA K) (tVar 2) (tVar 3))) (gName 2))
abbrev t_law_parted_1 (K : PySem.W.Frag) : TS := (tSeq (tIfS (tTest (tOp (rEqA K) (tVar 3) (tC (.str " ")))) (tDrop (tBM K "list" rAppend (tVar 1) (tCons (tVar 2) tNil))) tNext) (t_law_parted_0 K))
abbrev t_law_parted_2 (K : PySem.W.Frag) : TS := (tRet (tIf (tTest (tOp (rInA K) (tC (.str "")) (tVar 1))) (tC .non) (tVar 1)))
abbrev t_law_parted_3 (K : PySem.W.Frag) : TS := (tSeq (tFor (iAny K (tOp (rAddA K) (tVar 0) (tC (.str " ")))) (gName 3) (t_law_parted_1 K)) (t_law_parted_2 K))
abbrev t_law_parted_4 (K : PySem.W.Frag) : TS := (tSeq (tPar 1 2 (tCons (tLst tNil) (tCons (tC (.str "")) tNil))) (t_law_parted_3 K))
def t_law_parted (K : PySem.W.Frag) : TS := (tSeq (tIfS (tNot (tTr K (tCB (rIsi K) (tCons (tVar 0) (tCons (tC (.ty "str")) tNil))))) (tRet (tC .non)) tNext) (t_law_parted_4 K))
theorem rd_law_parted {K : PySem.W.Frag} (vs : List V) (H : Hp) (Q : VK) (E : XK) (h : sp_law_parted K vs H Q E) : t_law_parted K { nx := fun _ H' => Q .non H', rt := Q } (start ["text", "found", "bit", "sign"] vs) H := by
  obtain ⟨_, x, k, B, M, L, rfl, hI, hx, q1, q2⟩ := h
  show t_law_parted K ⟨_, _, _, _⟩ [some x, none, none, none] H
  unfold t_law_parted
  tm_at "go"
  refine hx.cases ?_ ?_ ?_ ?_ ?_
  · rintro rfl rfl
    tm_at "go"
    exact q1 rfl _ hI
  · rintro b rfl rfl
    tm_at "go"
    exact q1 rfl _ hI
  · rintro n rfl rfl
    tm_at "go"
    exact q1 rfl _ hI
  · rintro z rfl rfl hp
    tm_at "go"
    have hs : ∀ c ∈ (z ++ (" " : Str)).cps.toList, c < 128 := fun c hc => by
      rw [cps_app] at hc
      rcases List.mem_append.mp hc with e | e
      · exact hp.2 c e
      · have h2 : (" " : Str).cps.toList = [32] := by decide +kernel
        rw [h2] at e
        rw [List.mem_singleton.mp e]
        decide
    have hlen : (z ++ (" " : Str)).cps.toList.length ≤ 100001 := by
      rw [cps_app, List.length_append, ← len_cps]
      have h2 : (" " : Str).cps.toList.length = 1 := by decide +kernel
      have := hp.1
      omega
    have hadd : z.length + (" " : Str).length ≤ 1000000 := by
      have := hp.1
      have h2 : (" " : Str).length = 1 := by decide +kernel
      omega
    refine g_add_s hadd ?_
    tm_at "go"
    refine' g_aFor walkS (fun i σ H => ∃ (s : Option V), σ = [some (.str (z)), some (.ref p), some (.str (mkS (((z ++ (" " : Str)).cps.toList.take i).foldl stepP ([], [])).2)), s] ∧ Is B M ((p, .lst ((((z ++ (" " : Str)).cps.toList.take i).foldl stepP ([], [])).1.map fun l => V.str (mkS l))) :: L) H)
      ⟨_, rfl, hI⟩ (fun _ _ _ _ _ => trivial) ?_ ?_
    · rintro i x σ H H' hi ⟨s, rfl, hI⟩ ⟨rfl, hx⟩
      obtain ⟨c, rfl, hc⟩ := sg_at hx
      have hil := (List.getElem?_eq_some_iff.mp hc).1
      rw [take_snoc' hc, List.foldl_append, List.foldl_cons, List.foldl_nil]
      have hl := stepP_len ((z ++ (" " : Str)).cps.toList.take i) ([], [])
      have hl2 := stepP_last ((z ++ (" " : Str)).cps.toList.take i) ([], [])
      rw [List.length_take] at hl hl2
      generalize ((z ++ (" " : Str)).cps.toList.take i).foldl stepP ([], []) = st at *
      obtain ⟨ds, acc⟩ := st
      simp only [List.length_nil] at hl hl2
      tm_at "go"
      rw [sign_eq]
      refine g_dec (fun h => ?_) (fun h => ?_)
      · subst h
        tm_at "go"
        rw [sign_eq]
        refine g_dec (fun h => ?_) (fun h => absurd rfl h)
        tm_at "go"
        refine ⟨_, rfl, ?_⟩
        have e : stepP (ds, acc) 32 = (ds ++ [acc], []) := rfl
        rw [e, List.map_append]
        exact hI
      · tm_at "go"
        rw [sign_eq]
        refine g_dec (fun h2 => absurd h2 h) (fun h => ?_)
        tm_at "go"
        have hadd : (mkS acc).length + (⟨#[c]⟩ : Str).length ≤ 1000000 := by
          have h1 : (mkS acc).length = acc.length := by rw [len_cps]; rfl
          have h2 : (⟨#[c]⟩ : Str).length = 1 := rfl
          rw [h1, h2]
          omega
        refine g_add_s hadd ?_
        tm_at "go"
        have e : stepP (ds, acc) c = (ds, acc ++ [c]) := by
          unfold stepP
          rw [if_neg h]
        rw [e, mkS_snoc]
        exact ⟨_, rfl, hI⟩
    · rintro σ H ⟨s, rfl, hI⟩
      rw [List.take_of_length_le (by rw [signs_len, len_cps]; exact Nat.le_refl _), parts_of] at hI
      tm_at "go"
      have em : ((partsL z).map fun l => V.str (mkS l)) = ((partsL z).map fun l => (⟨l.toArray⟩ : Str)).map V.str := by
        rw [List.map_map]
        rfl
      rw [em] at hI
      refine g_in_l (by tm_at "sq") rfl (flat_strs _) ?_
      tm_at "go"
      rw [inV_parts]
      refine g_dec (fun h1 => ?_) (fun h1 => ?_)
      · tm_at "go"
        exact q1 (if_pos h1) _ (hI.forget (by tm_at "sub"))
      · tm_at "go"
        exact q2 _ (if_neg h1) _ _ hI
  · rintro a rfl hk
    refine g_isiF (Thing.same hI.ex hx) (by decide) (Kn.noInt hk).2.2 ?_
    tm_at "go"
    exact q1 rfl _ hI
def Ints (lo hi : Int) (xs : List V) : Prop := ∀ x ∈ xs, ∃ w, x = .int w ∧ lo ≤ w ∧ w ≤ hi
theorem Ints.nil {lo hi : Int} : Ints lo hi [] := fun _ h => by cases h
theorem Ints.cons {lo hi w : Int} {xs : List V} (h : lo ≤ w ∧ w ≤ hi) (t : Ints lo hi xs) : Ints lo hi (.int w :: xs) := fun x hx => by
  rcases List.mem_cons.mp hx with e | e
  · exact ⟨w, e, h⟩
  · exact t x e
theorem g_ix_ints {K : PySem.W.Frag} {H : Hp} {Q : VK} {a : Addr} {xs : List V} {i lo hi : Int} (hs : SqL K H a xs) (h : Ints lo hi xs) (h0 : 0 ≤ i) (h1 : i < (xs.length : Int)) (q : ∀ w, lo ≤ w → w ≤ hi → Q (.int w) H) : rIx K (.ref a) (.int i) H Q := by
  have hl : i.toNat < xs.length := by omega
  obtain ⟨w, e, s1, s2⟩ := h _ (List.getElem_mem hl)
  exact g_ix_l hs (atI_of h0 (by rw [List.getElem?_eq_getElem hl, e])) (q w s1 s2)
theorem ap_aCl {n m : Nat} {sp : Sp} {gV : List V → List V → List V} {E : XK} {vs zs : List V} {H : Hp} {Q : VK} (h1 : vs.length = n) (h2 : zs.length = m) (q : sp (gV vs zs) H Q E) : aCl n m sp gV E vs zs H Q := ⟨h1, h2, q⟩
def sp_law_called (K : PySem.W.Frag) : Sp := fun vs H Q _ => vs.length = 2 ∧ ∃ (m : Addr) (many n : Int) (B : Hp) (M L : List (Addr × HO)), vs = [.ref m, .int many] ∧ Is B M L H ∧ Dr m n B M ∧ n < 2 ^ 39 ∧ 0 ≤ many ∧ many < 1000 ∧
  ∀ (p : Addr) (xs : List V) (H' : Hp) (M' : List (Addr × HO)), Is B M' ((p, .lst xs) :: L) H' → Dr m (n + 2 + 9 * many) B M' → Txs 20 xs → (xs.length : Int) = many → Q (.ref p) H'
abbrev t_law_called_0 (K : PySem.W.Frag) : TS := (tAsg (tOp (rAddA K) (tVar 7) (tOp (rIx K) (tC (.str "aeiou")) (tCl 2 0 (sp_law_draw K) (fun vs zs => pick .non [0, 1] (vs ++ zs)) E0 (tCons (tVar 0) (tCons (tC (.int 5)) tNil)) tNil))) (gName 7))
abbrev t_law_called_1 (K : PySem.W.Frag) : TS := (tDrop (tBM K "list" rAppend (tVar 3) (tCons (tVar 7) tNil)))
abbrev t_law_called_2 (K : PySem.W.Frag) : TS := (tSeq (tIfS (tAnd (tTest (tOp (rEqA K) (tOp (rI (fun _ j => 0 < j) fun i j => .int (i % j)) (tVar 6) (tC (.int 2))) (tC (.int 1)))) (tTest (tOp (rEqA K) (tCl 2 0 (sp_law_draw K) (fun vs zs => pick .non [0, 1] (vs ++ zs)) E0 (tCons (tVar 0) (tCons (tC (.int 5)) tNil)) tNil) (tC (.int 0))))) (tAsg (tOp (rAddA K) (tSl (rSlA K) (tOp (rIx K) (tVar 3) (tUn (rU fun i => .int (-i)) (tC (.int 1)))) tNoPart (tPart (tC (.int 7)))) (tC (.str "y"))) (gName 7)) tNext) (t_law_called_1 K))
abbrev t_law_called_3 (K : PySem.W.Frag) : TS := (tSeq (tIfS (tTest (tOp (rEqA K) (tVar 7) (tC (.str "glue")))) (tAsg (tC (.str "gluea")) (gName 7)) tNext) (t_law_called_2 K))
abbrev t_law_called_4 (K : PySem.W.Frag) : TS := (tSeq (tFor (iRng1 (tCons (tOp (rIx K) (tLst (tCons (tC (.int 0)) (tCons (tC (.int 0)) (tCons (tC (.int 1)) (tCons (tCl 2 0 (sp_law_draw K) (fun vs zs => pick .non [0, 1] (vs ++ zs)) E0 (tCons (tVar 0) (tCons (tC (.int 6)) tNil)) tNil) tNil))))) (tCl 2 0 (sp_law_draw K) (fun vs zs => pick .non [0, 1] (vs ++ zs)) E0 (tCons (tVar 0) (tCons (tC (.int 4)) tNil)) tNil)) tNil)) (gName 8) (t_law_called_0 K)) (t_law_called_3 K))
abbrev t_law_called_5 (K : PySem.W.Frag) : TS := (tSeq (tAsg (tOp (rAddA K) (tVar 7) (tOp (rIx K) (tVar 2) (tOp (rI (fun _ j => 0 < j) fun i j => .int (i % j)) (tOp (rAddA K) (tVar 4) (tOp (rI CDiv fun i j => .int (i / j)) (tVar 6) (tC (.int 26)))) (tC (.int 26))))) (gName 7)) (t_law_called_4 K))
abbrev t_law_called_6 (K : PySem.W.Frag) : TS := (tSeq (tAsg (tOp (rIx K) (tVar 2) (tOp (rI (fun _ j => 0 < j) fun i j => .int (i % j)) (tOp (rAddA K) (tVar 4) (tOp rMulA (tVar 5) (tVar 6))) (tC (.int 26)))) (gName 7)) (t_law_called_5 K))
abbrev t_law_called_7 (K : PySem.W.Frag) : TS := (tRet (tVar 3))
abbrev t_law_called_8 (K : PySem.W.Frag) : TS := (tSeq (tFor (iRng1 (tCons (tVar 1) tNil)) (gName 6) (t_law_called_6 K)) (t_law_called_7 K))
abbrev t_law_called_9 (K : PySem.W.Frag) : TS := (tSeq (tAsg (tOp (rIx K) (tLst (tCons (tC (.int 1)) (tCons (tC (.int 3)) (tCons (tC (.int 5)) (tCons (tC (.int 7)) (tCons (tC (.int 9)) (tCons (tC (.int 11)) (tCons (tC (.int 15)) (tCons (tC (.int 17)) (tCons (tC (.int 19)) (tCons (tC (.int 21)) (tCons (tC (.int 23)) (tCons (tC (.int 25)) tNil))))))))))))) (tCl 2 0 (sp_law_draw K) (fun vs zs => pick .non [0, 1] (vs ++ zs)) E0 (tCons (tVar 0) (tCons (tC (.int 12)) tNil)) tNil)) (gName 5)) (t_law_called_8 K))
abbrev t_law_called_10 (K : PySem.W.Frag) : TS := (tSeq (tAsg (tCl 2 0 (sp_law_draw K) (fun vs zs => pick .non [0, 1] (vs ++ zs)) E0 (tCons (tVar 0) (tCons (tC (.int 26)) tNil)) tNil) (gName 4)) (t_law_called_9 K))
def t_law_called (K : PySem.W.Frag) : TS := (tSeq (tPar 2 3 (tCons (tC (.str "abcdefghijklmnopqrstuvwxyz")) (tCons (tLst tNil) tNil))) (t_law_called_10 K))
theorem rd_law_called {K : PySem.W.Frag} (vs : List V) (H : Hp) (Q : VK) (E : XK) (h : sp_law_called K vs H Q E) : t_law_called K { nx := fun _ H' => Q .non H', rt := Q } (start ["m", "many", "letters", "found", "shift", "stride", "k", "said", "j"] vs) H := by
  obtain ⟨_, m, many, n, B, M, L, rfl, hI, hd, h1, h2, h3, q⟩ := h
  show t_law_called K ⟨_, _, _, _⟩ [some (.ref m), some (.int many), none, none, none, none, none, none, none] H
  unfold t_law_called
  have hlet : Sh 26 ("abcdefghijklmnopqrstuvwxyz" : Str) := Sh.lit (by decide +kernel)
  have hlet2 : ("abcdefghijklmnopqrstuvwxyz" : Str).length = 26 := by decide +kernel
  have haei : Sh 5 ("aeiou" : Str) := Sh.lit (by decide +kernel)
  have haei2 : ("aeiou" : Str).length = 5 := by decide +kernel
  tm_at "go"
  revert p
  intro found hI
  tm_at "draw"
  revert r
  intro shift hs0 hs1
  tm_at "go"
  tm_at "draw"
  tm_at "go"
  refine g_ix_ints (lo := 1) (hi := 25) (by tm_at "sq") (by repeat (first | exact Ints.nil | refine Ints.cons (by omega) ?_)) hr0 (by tm_at "arith") ?_
  intro stride ht0 ht1
  tm_at "go"
  have hI := hI.forget (L' := (found, .lst []) :: L) (by tm_at "sub")
  refine' g_aFor walk_range (fun i σ H => ∃ (a b c : Option V) (M : List (Addr × HO)) (xs : List V), σ = [some (.ref m), some (.int many), some (.str "abcdefghijklmnopqrstuvwxyz"), some (.ref found), some (.int shift), some (.int stride), a, b, c] ∧
    Is B M ((found, .lst xs) :: L) H ∧ Dr m (n + 2 + 9 * (i : Int)) B M ∧ Txs 20 xs ∧ xs.length = i)
    ⟨_, _, _, _, [], rfl, hI, hd.mono (by omega), .nil, rfl⟩ (fun _ _ _ _ _ => trivial) ?_ ?_
  · rintro i x σ H H' hi ⟨a, b, c, M, xs, rfl, hI, hd, hx, hl⟩ ⟨rfl, rfl⟩
    have hi : i < many.toNat := hi
    tm_at "go"
    refine g_ix_sh hlet (by decide) (by omega) (by rw [hlet2]; omega) ?_
    intro c1 _ hc1
    tm_at "go"
    refine g_ix_sh hlet (by decide) (by omega) (by rw [hlet2]; omega) ?_
    intro c2 _ hc2
    refine g_add_sh hc1 hc2 (by decide) ?_
    intro hs
    generalize ((⟨#[c1]⟩ : Str) ++ ⟨#[c2]⟩) = said at *
    tm_at "go"
    tm_at "draw"
    tm_at "go"
    tm_at "draw"
    tm_at "go"
    refine g_ix_ints (lo := 0) (hi := 5) (by tm_at "sq") (by repeat (first | exact Ints.nil | refine Ints.cons (by omega) ?_)) hr0 (by tm_at "arith") ?_
    intro w hw0 hw1
    tm_at "go"
    have hI := hI.forget (L' := (found, .lst xs) :: L) (by tm_at "sub")
    have hd : Dr m (n + 2 + 9 * (i : Int) + 2) B M := hd.mono (by omega)
    -- the end: the word is put in
    have last : ∀ (said : Str) (c : Option V) (H : Hp) (M : List (Addr × HO)), Is B M ((found, .lst xs) :: L) H → Dr m (n + 2 + 9 * (i : Int) + 8) B M → Sh 20 said →
        t_law_called_1 K ⟨fun σ H => ∃ (a b c : Option V) (M : List (Addr × HO)) (xs : List V), σ = [some (.ref m), some (.int many), some (.str "abcdefghijklmnopqrstuvwxyz"), some (.ref found), some (.int shift), some (.int stride), a, b, c] ∧
          Is B M ((found, .lst xs) :: L) H ∧ Dr m (n + 2 + 9 * ((i + 1 : Nat) : Int)) B M ∧ Txs 20 xs ∧ xs.length = i + 1, Q, fun σ H => t_law_called_7 K { nx := fun x H' => Q V.non H', rt := Q } σ H,
          fun σ H => ∃ (a b c : Option V) (M : List (Addr × HO)) (xs : List V), σ = [some (.ref m), some (.int many), some (.str "abcdefghijklmnopqrstuvwxyz"), some (.ref found), some (.int shift), some (.int stride), a, b, c] ∧
          Is B M ((found, .lst xs) :: L) H ∧ Dr m (n + 2 + 9 * ((i + 1 : Nat) : Int)) B M ∧ Txs 20 xs ∧ xs.length = i + 1⟩
          [some (.ref m), some (.int many), some (.str "abcdefghijklmnopqrstuvwxyz"), some (.ref found), some (.int shift), some (.int stride), some (.int (0 + (i : Int))), some (.str said), c] H := by
      intro said c H M hI hd hs
      tm_at "go"
      exact ⟨_, _, _, M, _, rfl, hI, hd.mono (by omega), hx.app (Txs.cons hs .nil), by simp [hl]⟩
    -- ahead of it: one in two may be the one before
    have key : ∀ (said : Str) (c : Option V) (H : Hp) (M : List (Addr × HO)), Is B M ((found, .lst xs) :: L) H → Dr m (n + 2 + 9 * (i : Int) + 7) B M → Sh 20 said →
        t_law_called_2 K ⟨fun σ H => ∃ (a b c : Option V) (M : List (Addr × HO)) (xs : List V), σ = [some (.ref m), some (.int many), some (.str "abcdefghijklmnopqrstuvwxyz"), some (.ref found), some (.int shift), some (.int stride), a, b, c] ∧
          Is B M ((found, .lst xs) :: L) H ∧ Dr m (n + 2 + 9 * ((i + 1 : Nat) : Int)) B M ∧ Txs 20 xs ∧ xs.length = i + 1, Q, fun σ H => t_law_called_7 K { nx := fun x H' => Q V.non H', rt := Q } σ H,
          fun σ H => ∃ (a b c : Option V) (M : List (Addr × HO)) (xs : List V), σ = [some (.ref m), some (.int many), some (.str "abcdefghijklmnopqrstuvwxyz"), some (.ref found), some (.int shift), some (.int stride), a, b, c] ∧
          Is B M ((found, .lst xs) :: L) H ∧ Dr m (n + 2 + 9 * ((i + 1 : Nat) : Int)) B M ∧ Txs 20 xs ∧ xs.length = i + 1⟩
          [some (.ref m), some (.int many), some (.str "abcdefghijklmnopqrstuvwxyz"), some (.ref found), some (.int shift), some (.int stride), some (.int (0 + (i : Int))), some (.str said), c] H := by
      intro said c H M hI hd hs
      tm_at "go"
      refine g_dec (fun h => ?_) (fun h => ?_)
      · tm_at "go"
        tm_at "draw"
        tm_at "go"
        refine g_dec (fun h5 => ?_) (fun h5 => ?_)
        · tm_at "go"
          obtain ⟨z, ez, hz⟩ := hx.getB (i := -1) (by decide) (by have : (0 + (i : Int)) % 2 = 1 := V.int.inj h; omega)
          refine g_ix_l (by tm_at "sq") ez ?_
          tm_at "go"
          refine g_sl_sh hz (by decide) ?_
          intro _
          have h7 : Sh 7 (cutS z none (some 7)) := hz.cut_to (k := 7) none
          tm_at "go"
          refine g_add_sh h7 (Sh.lit (n := 1) (by decide +kernel)) (by decide) ?_
          intro h8
          tm_at "stop"
          exact last _ _ _ _ hI (hd.mono (by omega)) (h8.mono (by decide))
        · tm_at "next"
          exact last _ _ _ _ hI (hd.mono (by omega)) hs
      · tm_at "next"
        exact last _ _ _ _ hI (hd.mono (by omega)) hs
    refine' g_aFor walk_range (fun j σ H => ∃ (s : Str) (c : Option V) (M : List (Addr × HO)), σ = [some (.ref m), some (.int many), some (.str "abcdefghijklmnopqrstuvwxyz"), some (.ref found), some (.int shift), some (.int stride), some (.int (0 + (i : Int))), some (.str s), c] ∧
      Is B M ((found, .lst xs) :: L) H ∧ Dr m (n + 2 + 9 * (i : Int) + 2 + (j : Int)) B M ∧ Sh (2 + j) s)
      ⟨_, _, _, rfl, hI, hd.mono (by omega), hs⟩ (fun _ _ _ _ _ => trivial) ?_ ?_
    · rintro j x σ H H' hj ⟨s, c, M, rfl, hI, hd, hs⟩ ⟨rfl, rfl⟩
      have hj : j < w.toNat := hj
      tm_at "go"
      tm_at "draw"
      tm_at "go"
      refine g_ix_sh haei (by decide) (by omega) (by rw [haei2]; omega) ?_
      intro c3 _ hc3
      refine g_add_sh hs hc3 (by omega) ?_
      intro hs3
      tm_at "go"
      exact ⟨_, _, M, rfl, hI, hd.mono (by omega), hs3⟩
    · rintro σ H ⟨s, c, M, rfl, hI, hd, hs⟩
      tm_at "go"
      have hs : Sh 7 s := hs.mono (by omega)
      refine g_dec (fun h => ?_) (fun h => ?_)
      · tm_at "stop"
        exact key _ _ _ _ hI (hd.mono (by omega)) (Sh.lit (by decide +kernel))
      · tm_at "next"
        exact key _ _ _ _ hI (hd.mono (by omega)) (hs.mono (by decide))
  · rintro σ H ⟨a, b, c, M, xs, rfl, hI, hd, hx, hl⟩
    tm_at "go"
    exact q _ _ _ _ hI (hd.mono (by omega)) hx (by omega)
def sp_law_signed (K : PySem.W.Frag) : Sp := fun vs H Q _ => vs.length = 2 ∧ ∃ (m : Addr) (z : Str) (n : Int) (B : Hp) (M L : List (Addr × HO)), vs = [.ref m, .str z] ∧ Is B M L H ∧ Dr m n B M ∧ n < 2 ^ 39 ∧ Sh 1000 z ∧
  ∀ (z' : Str) (H' : Hp) (M' : List (Addr × HO)), Is B M' L H' → Dr m (n + 3) B M' → Sh 3000 z' → Q (.str z') H'
abbrev t_law_signed_0 (K : PySem.W.Frag) : TS := (tRet (tOp (rIx K) (tLst (tCons (tOp (rAddA K) (tOp (rAddA K) (tSl (rSlA K) (tVar 1) tNoPart (tPart (tVar 4))) (tVar 3)) (tSl (rSlA K) (tVar 1) (tPart (tVar 4)) tNoPart)) (tCons (tOp (rAddA K) (tOp (rAddA K) (tSl (rSlA K) (tVar 1) tNoPart (tPart (tVar 4))) (tVar 3)) (tSl (rSlA K) (tVar 1) (tPart (tOp (rAddA K) (tVar 4) (tC (.int 1)))) tNoPart)) (tCons (tOp (rAddA K) (tVar 1) (tVar 3)) (tCons (tVar 3) tNil))))) (tCl 2 0 (sp_law_draw K) (fun vs zs => pick .non [0, 1] (vs ++ zs)) E0 (tCons (tVar 0) (tCons (tC (.int 4)) tNil)) tNil)))
abbrev t_law_signed_1 (K : PySem.W.Frag) : TS := (tSeq (tPar 3 4 (tCons (tOp (rIx K) (tVar 2) (tCl 2 0 (sp_law_draw K) (fun vs zs => pick .non [0, 1] (vs ++ zs)) E0 (tCons (tVar 0) (tCons (tCB (rLen K) (tCons (tVar 2) tNil)) tNil)) tNil)) (tCons (tCl 2 0 (sp_law_draw K) (fun vs zs => pick .non [0, 1] (vs ++ zs)) E0 (tCons (tVar 0) (tCons (tOp (rAddA K) (tCB (rLen K) (tCons (tVar 1) tNil)) (tC (.int 1))) tNil)) tNil) tNil))) (t_law_signed_0 K))
abbrev t_law_signed_2 (K : PySem.W.Frag) : TS := (tSeq (tAsg (tOp (rAddA K) (tVar 2) (tC (.str " _-+*/.,:;<>[](){}=?!#&@^|~`$\"'\\\n"))) (gName 2)) (t_law_signed_1 K))
def t_law_signed (K : PySem.W.Frag) : TS := (tSeq (tAsg (tC (.str "abcdefghijklmnopqrstuvwxyzABCDEFGHIJKLMNOPQRSTUVWXYZ0123456789")) (gName 2)) (t_law_signed_2 K))
theorem rd_law_signed {K : PySem.W.Frag} (vs : List V) (H : Hp) (Q : VK) (E : XK) (h : sp_law_signed K vs H Q E) : t_law_signed K { nx := fun _ H' => Q .non H', rt := Q } (start ["m", "bit", "signs", "sign", "spot"] vs) H := by
  obtain ⟨_, m, z, n, B, M, L, rfl, hI, hd, h1, hz, q⟩ := h
  show t_law_signed K ⟨_, _, _, _⟩ [some (.ref m), some (.str z), none, none, none] H
  unfold t_law_signed
  have ha : Sh 62 ("abcdefghijklmnopqrstuvwxyzABCDEFGHIJKLMNOPQRSTUVWXYZ0123456789" : Str) := Sh.lit (by decide +kernel)
  have hb : Sh 40 (" _-+*/.,:;<>[](){}=?!#&@^|~`$\"'\\\n" : Str) := Sh.lit (by decide +kernel)
  have hl : 60 ≤ (("abcdefghijklmnopqrstuvwxyzABCDEFGHIJKLMNOPQRSTUVWXYZ0123456789" : Str) ++ (" _-+*/.,:;<>[](){}=?!#&@^|~`$\"'\\\n" : Str)).length := by
    rw [len_app]
    have : ("abcdefghijklmnopqrstuvwxyzABCDEFGHIJKLMNOPQRSTUVWXYZ0123456789" : Str).length = 62 := by decide +kernel
    omega
  tm_at "go"
  refine g_add_sh ha hb (by decide) ?_
  intro hs
  generalize (("abcdefghijklmnopqrstuvwxyzABCDEFGHIJKLMNOPQRSTUVWXYZ0123456789" : Str) ++ (" _-+*/.,:;<>[](){}=?!#&@^|~`$\"'\\\n" : Str)) = signs at *
  have hs1 := hs.1
  have hz1 := hz.1
  tm_at "go"
  tm_at "draw"
  refine g_ix_sh hs (by decide) hr0 hr1 ?_
  intro c _ hc
  tm_at "go"
  tm_at "draw"
  revert r
  intro spot hp0 hp1
  tm_at "go"
  have h2 : ∀ lo hi, Sh 1000 (cutS z lo hi) := fun lo hi => hz.cut lo hi
  refine g_sl_sh hz (by decide) ?_
  intro _
  tm_at "go"
  refine g_add_sh (h2 _ _) hc (by decide) ?_
  intro k1
  tm_at "go"
  refine g_sl_sh hz (by decide) ?_
  intro _
  refine g_add_sh k1 (h2 _ _) (by decide) ?_
  intro k2
  tm_at "go"
  refine g_sl_sh hz (by decide) ?_
  intro _
  tm_at "go"
  refine g_add_sh (h2 _ _) hc (by decide) ?_
  intro k3
  tm_at "go"
  refine g_sl_sh hz (by decide) ?_
  intro _
  refine g_add_sh k3 (h2 _ _) (by decide) ?_
  intro k4
  tm_at "go"
  refine g_add_sh hz hc (by decide) ?_
  intro k5
  tm_at "go"
  tm_at "draw"
  refine g_ix_tx (by tm_at "sq") ((Txs.cons (k2.mono (by decide)) (Txs.cons (k4.mono (by decide)) (Txs.cons (k5.mono (by decide)) (Txs.cons (hc.mono (by decide)) .nil))) : Txs 3000 _)) hr0 (by tm_at "arith") ?_
  intro z' hz'
  exact q _ _ _ (by tm_at "is") (hd.mono (by omega)) hz'
/-! ### things far from all -/
def Things (K : PySem.W.Frag) (B : Hp) (xs : List V) : Prop := ∀ x ∈ xs, ∃ k, Thing K B x k
theorem Things.same {K : PySem.W.Frag} {H H' : Hp} {xs : List V} (s : Same H H') (h : Things K H xs) : Things K H' xs := fun x hx => by
  obtain ⟨k, t⟩ := h x hx
  exact ⟨k, Thing.same s t⟩
theorem Things.nil {K : PySem.W.Frag} {B : Hp} : Things K B [] := fun _ h => by cases h
theorem Things.cons {K : PySem.W.Frag} {B : Hp} {x : V} {k : Kn} {xs : List V} (h : Thing K B x k) (t : Things K B xs) : Things K B (x :: xs) := fun y hy => by
  rcases List.mem_cons.mp hy with e | e
  · rw [e]
    exact ⟨k, h⟩
  · exact t y e
theorem Things.app {K : PySem.W.Frag} {B : Hp} {xs ys : List V} (h : Things K B xs) (t : Things K B ys) : Things K B (xs ++ ys) := fun y hy => by
  rcases List.mem_append.mp hy with e | e
  · exact h y e
  · exact t y e
theorem Txs.things {K : PySem.W.Frag} {B : Hp} {n : Nat} {xs : List V} (h : Txs n xs) (hn : n ≤ 100000) : Things K B xs := fun x hx => by
  obtain ⟨z, rfl, s⟩ := h x hx
  exact ⟨.str, thing_str (s.plain hn)⟩
theorem g_repTT {K : PySem.W.Frag} {B H : Hp} {M L : List (Addr × HO)} {Q : VK} {l : Addr} {xs : List V} {k : Int} (I : Is B M L H) (h : SqT K H l xs) (hne : xs ≠ []) (h1 : 2 ≤ k) (h2 : k ≤ 100000) (hz : xs.length ≤ 10)
    (q : ∀ p H', Is B M ((p, .tup (List.replicate k.toNat xs).flatten) :: L) H' → Q (.ref p) H') : rRepTT K (.ref l) (.int k) H Q :=
  ⟨l, k, xs, rfl, rfl, h, hne, h1, h2, hz, fun p hp => q p _ (I.new hp)⟩
def sp_law_far (K : PySem.W.Frag) : Sp := fun vs H Q _ => vs.length = 0 ∧ ∃ (B : Hp) (M L : List (Addr × HO)), vs = [] ∧ Is B M L H ∧
  ∀ (p : Addr) (xs : List V) (B' H' : Hp), Same B B' → Is B' M ((p, .lst xs) :: L) H' → Things K B' xs → xs.length ≤ 20 → Q (.ref p) H'
abbrev t_law_far_0 (K : PySem.W.Frag) : TS := (tAsg (tTup (tCons (tVar 0) tNil)) (gName 0))
abbrev t_law_far_1 (K : PySem.W.Frag) : TS := (tAsg (tTup (tCons (tVar 1) (tCons (tVar 1) tNil))) (gName 1))
abbrev t_law_far_2 (K : PySem.W.Frag) : TS := (tRet (tLst (tCons (tVar 0) (tCons (tVar 1) (tCons (tOp (rRepTT K) (tTup (tCons (tC (.int 1)) tNil)) (tC (.int 5000))) (tCons (tOp rMulA (tC (.str "a")) (tC (.int 5000))) (tCons (tLst (tCons (tC (.str "a")) tNil)) (tCons tDNewK (tCons (tC .non) (tCons (tC (.bl true)) (tCons (tC (.int 5)) (tCons (tOp (rI CPow fun i j => .int (i ^ j.toNat)) (tC (.int 10)) (tC (.int 30))) tNil))))))))))))
abbrev t_law_far_3 (K : PySem.W.Frag) : TS := (tSeq (tFor (iRng1 (tCons (tC (.int 60)) tNil)) (gName 2) (t_law_far_1 K)) (t_law_far_2 K))
abbrev t_law_far_4 (K : PySem.W.Frag) : TS := (tSeq (tFor (iRng1 (tCons (tC (.int 3000)) tNil)) (gName 2) (t_law_far_0 K)) (t_law_far_3 K))
def t_law_far (K : PySem.W.Frag) : TS := (tSeq (tAsg (tTup (tCons (tC (.int 1)) (tCons (tTup (tCons (tC (.int 1)) (tCons (tC (.int 1)) tNil))) tNil))) (gTup K 2 (gCons (gName 0) (gCons (gName 1) gNil)))) (t_law_far_4 K))
theorem rd_law_far {K : PySem.W.Frag} (vs : List V) (H : Hp) (Q : VK) (E : XK) (h : sp_law_far K vs H Q E) : t_law_far K { nx := fun _ H' => Q .non H', rt := Q } (start ["deep", "twice", "bout"] vs) H := by
  obtain ⟨_, B, M, L, rfl, hI, q⟩ := h
  show t_law_far K ⟨_, _, _, _⟩ [none, none, none] H
  unfold t_law_far
  tm_at "go"
  rename_i two _
  have hI := hI.forget (L' := (two, .tup [V.int 1, V.int 1]) :: L) (by tm_at "sub")
  refine' hI.give (a := two) (by tm_at "del") ?_
  clear hI
  intro B1 s1 hp hI
  have ht : Thing K B1 (.ref two) .tup := thing_tup hp
  refine' g_aFor walk_range (fun i σ H => ∃ (deep : V) (k : Kn) (c : Option V) (B' : Hp), σ = [some deep, some (.ref two), c] ∧ Same B1 B' ∧ Is B' M L H ∧ Thing K B' deep k)
    ⟨_, _, _, B1, rfl, fun _ _ h => h, hI, thing_int 1⟩ (fun _ _ _ _ _ => trivial) ?_ ?_
  · rintro i x σ H H' hi ⟨deep, k, c, B', rfl, s, hI, hd⟩ ⟨rfl, rfl⟩
    tm_at "go"
    refine' hI.give (a := p) (by tm_at "del") ?_
    clear hI
    intro B2 s2 hp hI
    exact ⟨_, _, _, B2, rfl, s.trans s2, hI, thing_tup hp⟩
  rintro σ H ⟨deep, k, c, B', rfl, s, hI, hd⟩
  have ht := Thing.same s ht
  have s := Same.trans s1 s
  tm_at "go"
  refine' g_aFor walk_range (fun i σ H => ∃ (twice : V) (k2 : Kn) (c : Option V) (B2 : Hp), σ = [some deep, some twice, c] ∧ Same B' B2 ∧ Is B2 M L H ∧ Thing K B2 twice k2)
    ⟨_, _, _, B', rfl, fun _ _ h => h, hI, ht⟩ (fun _ _ _ _ _ => trivial) ?_ ?_
  · rintro i x σ H H' hi ⟨twice, k2, c, B2, rfl, s, hI, ht⟩ ⟨rfl, rfl⟩
    tm_at "go"
    refine' hI.give (a := p) (by tm_at "del") ?_
    clear hI
    intro B3 s2 hp hI
    exact ⟨_, _, _, B3, rfl, s.trans s2, hI, thing_tup hp⟩
  rintro σ H ⟨twice, k2, c, B2, rfl, s2, hI, ht⟩
  have hd := Thing.same s2 hd
  have s := s.trans s2
  tm_at "go"
  refine g_repTT (k := 5000) hI (by tm_at "st") (by simp) (by decide) (by decide) (by decide) ?_
  clear hI
  intro p5 H hI
  tm_at "go"
  refine g_mul_s (n := 5000) (by decide +kernel) (by decide) (by decide +kernel) ?_
  tm_at "go"
  rename_i p1 _ _ pa _ pd _
  refine' hI.give (a := p5) (by tm_at "del") ?_
  clear hI
  intro B3 s3 h5 hI
  refine' hI.give (a := pa) (by tm_at "del") ?_
  clear hI
  intro B4 s4 ha hI
  refine' hI.give (a := pd) (by tm_at "del") ?_
  clear hI
  intro B5 s5 hd5 hI
  refine' q p _ B5 H (((s.trans s3).trans s4).trans s5) (hI.forget (by tm_at "sub")) ?_ (by tm_at "arith")
  refine .cons (Thing.same ((s3.trans s4).trans s5) hd) (.cons (Thing.same ((s3.trans s4).trans s5) ht) (.cons (thing_tup ((s4.trans s5) _ _ h5)) (.cons (thing_str (Sh.plain (Sh.rep (n := 1) (k := 5000) (Sh.lit (by decide +kernel))) (by decide)))
    (.cons (thing_lst (s5 _ _ ha)) (.cons (thing_dct hd5) (.cons thing_non (.cons (thing_bl true) (.cons (thing_int 5) (.cons (thing_int _) .nil)))))))))
section
variable {K : PySem.W.Frag} {B H : Hp} {M L : List (Addr × HO)} {Q : VK} {E : XK} {x : V} {k : Kn}
theorem ap_is_name (I : Is B M L H) (hx : Thing K B x k) (q : ∀ H', Is B M L H' → Q (.bl (isName x)) H') : sp_is_name K [x] H Q E := ⟨rfl, x, k, B, M, L, rfl, I, hx.same I.ex, q⟩
theorem ap_number_of (I : Is B M L H) (hx : Thing K B x k) (q : ∀ H', Is B M L H' → Q (numOf x) H') : sp_number_of K [x] H Q E := ⟨rfl, x, k, B, M, L, rfl, I, hx.same I.ex, q⟩
theorem ap_words_none (I : Is B M L H) (hx : Thing K B x k) (hw : wordsV x = none) (q : ∀ H', Is B M L H' → Q .non H') : sp_words_of K [x] H Q E :=
  ⟨rfl, x, k, B, M, L, rfl, I, hx.same I.ex, fun _ => q, fun ws e => by rw [hw] at e; cases e⟩
theorem ap_words_some {ws : List Str} (I : Is B M L H) (hx : Thing K B x k) (hw : wordsV x = some ws) (q : ∀ p H', Is B M ((p, .lst (ws.map V.str)) :: L) H' → Q (.ref p) H') : sp_words_of K [x] H Q E :=
  ⟨rfl, x, k, B, M, L, rfl, I, hx.same I.ex, fun e => (by rw [hw] at e; cases e), fun w e => (by rw [hw] at e; cases e; exact q)⟩
theorem ap_law_is_name (I : Is B M L H) (hx : Thing K B x k) (q : ∀ H', Is B M L H' → Q (.bl (isName x)) H') : sp_law_is_name K [x] H Q E := ⟨rfl, x, k, B, M, L, rfl, I, hx, q⟩
theorem ap_law_number (I : Is B M L H) (hx : Thing K B x k) (q : ∀ H', Is B M L H' → Q (numOf x) H') : sp_law_number K [x] H Q E := ⟨rfl, x, k, B, M, L, rfl, I, hx, q⟩
theorem ap_parted_none (I : Is B M L H) (hx : Thing K B x k) (hw : wordsV x = none) (q : ∀ H', Is B M L H' → Q .non H') : sp_law_parted K [x] H Q E :=
  ⟨rfl, x, k, B, M, L, rfl, I, hx, fun _ => q, fun ws e => by rw [hw] at e; cases e⟩
theorem ap_parted_some {ws : List Str} (I : Is B M L H) (hx : Thing K B x k) (hw : wordsV x = some ws) (q : ∀ p H', Is B M ((p, .lst (ws.map V.str)) :: L) H' → Q (.ref p) H') : sp_law_parted K [x] H Q E :=
  ⟨rfl, x, k, B, M, L, rfl, I, hx, fun e => (by rw [hw] at e; cases e), fun w e => (by rw [hw] at e; cases e; exact q)⟩
end
/-! what repr asks of these -/
theorem spl_size : ∀ (l acc : List Nat), ((TL.spl [32] 0 acc l).map (·.length)).sum + (TL.spl [32] 0 acc l).length = acc.length + l.length + 1
  | [], acc => by rw [TL.spl_nil]; simp
  | c :: l, acc => by
    by_cases h : c = 32
    · subst h
      have ih := spl_size l []
      rw [TL.spl_hit (by rfl)]
      simp only [List.map_cons, List.sum_cons, List.length_cons]
      show acc.length + ((TL.spl [32] 0 [] l).map (·.length)).sum + ((TL.spl [32] 0 [] l).length + 1) = _
      rw [List.length_nil] at ih
      omega
    · have ih := spl_size l (acc ++ [c])
      have e : TL.pre [32] (c :: l) = false := by
        show ((c :: l).take 1 == [32]) = false
        rw [List.take_succ_cons, List.take_zero]
        exact beq_eq_false_iff_ne.mpr fun e => h (by injection e)
      rw [TL.spl_miss e, ih, List.length_append, List.length_cons, List.length_cons, List.length_nil]
      omega
theorem spl_plain : ∀ (l acc : List Nat), (∀ c ∈ acc, c < 128) → (∀ c ∈ l, c < 128) → ∀ p ∈ TL.spl [32] 0 acc l, ∀ c ∈ p, c < 128
  | [], acc, h, _ => by
    rw [TL.spl_nil]
    intro p hp
    rw [List.mem_singleton.mp hp]
    exact h
  | d :: l, acc, h, hl => by
    by_cases hd : d = 32
    · subst hd
      rw [TL.spl_hit (by rfl)]
      intro p hp
      rcases List.mem_cons.mp hp with e | e
      · rw [e]
        exact h
      · exact spl_plain l [] (fun _ h => by cases h) (fun c hc => hl c (List.mem_cons_of_mem _ hc)) p e
    · have e : TL.pre [32] (d :: l) = false := by
        show ((d :: l).take 1 == [32]) = false
        rw [List.take_succ_cons, List.take_zero]
        exact beq_eq_false_iff_ne.mpr fun e => hd (by injection e)
      rw [TL.spl_miss e]
      refine spl_plain l _ (fun c hc => ?_) fun c hc => hl c (List.mem_cons_of_mem _ hc)
      rcases List.mem_append.mp hc with e | e
      · exact h c e
      · rw [List.mem_singleton.mp e]
        exact hl d List.mem_cons_self
theorem shn_strs {k : Nat} : ∀ ws : List (List Nat), (∀ p ∈ ws, ∀ c ∈ p, c < 128) → ShnAll (ws.map fun l => PyData.str (mkS l)) (10 * (ws.map (·.length)).sum + 4 * ws.length) k
  | [], _ => .nil
  | w :: ws, h => by
    have h1 : Shn (PyData.str (mkS w)) _ k := Shn.str (z := mkS w) (h w List.mem_cons_self)
    have h2 := ShnAll.cons h1 (shn_strs (k := k) ws fun p hp => h p (List.mem_cons_of_mem _ hp))
    have e : 10 * (mkS w).length + 2 + (10 * (ws.map (·.length)).sum + 4 * ws.length) + 2 = 10 * ((w :: ws).map (·.length)).sum + 4 * (w :: ws).length := by
      have : (mkS w).length = w.length := by rw [len_cps]; rfl
      rw [List.map_cons, List.sum_cons, List.length_cons, this]
      omega
    rwa [e] at h2
theorem dp_strs {K : PySem.W.Frag} {H : Hp} : ∀ ws : List Str, DpAll K H (ws.map V.str) (ws.map PyData.str)
  | [] => .nil
  | w :: ws => .cons (.str w) (dp_strs ws)
theorem words_shn {x : V} {ws : List Str} {K : PySem.W.Frag} {B : Hp} {k : Kn} (hx : Thing K B x k) (hw : wordsV x = some ws) (j : Nat) : ∃ n, n ≤ 1500000 ∧ ShnAll (ws.map PyData.str) n j := by
  cases x with
  | str z =>
    have hp := hx.fit.2
    have hw : (if [] ∈ partsL z then none else some ((partsL z).map fun l => (⟨l.toArray⟩ : Str))) = some ws := hw
    split at hw
    · cases hw
    · cases hw
      have h1 := spl_size z.cps.toList []
      have h2 := spl_plain z.cps.toList [] (fun _ h => by cases h) hp.2
      have h3 := hp.1
      rw [len_cps] at h3
      rw [List.length_nil] at h1
      refine ⟨_, ?_, by rw [List.map_map]; exact shn_strs (partsL z) h2⟩
      unfold partsL
      omega
  | _ => cases hw
theorem words_len {x : V} {ws : List Str} {K : PySem.W.Frag} {B : Hp} {k : Kn} (hx : Thing K B x k) (hw : wordsV x = some ws) : ws.length ≤ 100001 := by
  cases x with
  | str z =>
    have hp := hx.fit.2
    have hw : (if [] ∈ partsL z then none else some ((partsL z).map fun l => (⟨l.toArray⟩ : Str))) = some ws := hw
    split at hw
    · cases hw
    · cases hw
      have h1 := spl_size z.cps.toList []
      have h3 := hp.1
      rw [len_cps] at h3
      rw [List.length_nil] at h1
      rw [List.length_map]
      unfold partsL
      omega
  | _ => cases hw
theorem num_dp {x : V} {K : PySem.W.Frag} : ∃ d, (∀ H, Dp K H (numOf x) d) ∧ ∀ j, ∃ n, n ≤ 2000 ∧ Shn d n j := by
  cases x with
  | str z =>
    by_cases h : 1 ≤ z.length ∧ z.length ≤ 7 ∧ z.cps.toList.all digB = true ∧ ¬ (z.cps.toList.head? = some 48 ∧ z ≠ "0")
    · rw [show numOf (.str z) = .int (digV z.cps.toList) from if_pos h]
      refine ⟨_, fun H => .int _, fun j => ⟨2000, Nat.le_refl _, .int ?_⟩⟩
      have hb := digV_bd z.cps.toList (fun c hc => digB_bd (List.all_eq_true.mp h.2.2.1 c hc)) 0 (by omega)
      have h1 : 0 ≤ digV z.cps.toList := hb.1
      have h2 : digV z.cps.toList < (0 + 1) * 10 ^ z.cps.toList.length := hb.2
      have h3 : ((10 ^ z.cps.toList.length : Nat) : Int) ≤ ((10 ^ 7 : Nat) : Int) := Int.ofNat_le.mpr (Nat.pow_le_pow_right (by decide) (by rw [← len_cps]; omega))
      rw [Int.natCast_pow] at h3
      have h4 : ((10 : Nat) : Int) = 10 := rfl
      rw [h4] at h3
      have h5 : (digV z.cps.toList).natAbs < 2 ^ 1920 := by
        have : (2 : Nat) ^ 24 < 2 ^ 1920 := Nat.pow_lt_pow_right (by decide) (by decide)
        omega
      by_cases hz : (digV z.cps.toList).natAbs = 0
      · rw [hz]
        decide
      · exact (Nat.log2_lt hz).mpr h5
    · rw [show numOf (.str z) = .non from if_neg h]
      exact ⟨_, fun H => .non, fun j => ⟨5, by decide, .non⟩⟩
  | _ => exact ⟨_, fun H => .non, fun j => ⟨5, by decide, .non⟩⟩
def sp_law_right (K : PySem.W.Frag) : Sp := fun vs H Q _ => vs.length = 1 ∧ ∃ (x : V) (k : Kn) (B : Hp) (M L : List (Addr × HO)), vs = [x] ∧ Is B M L H ∧ Thing K B x k ∧ ∀ H', Is B M L H' → Q (.bl true) H'
abbrev t_law_right_0 (K : PySem.W.Frag) : TS := (tRet (tOp (rEqA K) (tCB (rRepr K) (tCons (tCl 1 0 (sp_words_of K) (fun vs zs => pick .non [0] (vs ++ zs)) E0 (tCons (tVar 0) tNil) tNil) tNil)) (tCB (rRepr K) (tCons (tOp (rIx K) (tVar 1) (tC (.int 2))) tNil))))
abbrev t_law_right_1 (K : PySem.W.Frag) : TS := (tSeq (tIfS (tTest (tOp rNoNo (tVar 2) (tC .non))) (tDrop (tBM K "list" rAppend (tVar 2) (tCons (tC (.str "a")) tNil))) tNext) (t_law_right_0 K))
abbrev t_law_right_2 (K : PySem.W.Frag) : TS := (tSeq (tIfS (tTest (tOp (rNeA K) (tCB (rRepr K) (tCons (tLst (tCons (tCl 0 1 (sp_is_name K) (fun vs zs => pick .non [0] (vs ++ zs)) E0 tNil (tCons (tVar 0) tNil)) (tCons (tCl 0 1 (sp_number_of K) (fun vs zs => pick .non [0] (vs ++ zs)) E0 tNil (tCons (tVar 0) tNil)) (tCons (tCl 0 1 (sp_words_of K) (fun vs zs => pick .non [0] (vs ++ zs)) E0 tNil (tCons (tVar 0) tNil)) tNil)))) tNil)) (tCB (rRepr K) (tCons (tVar 1) tNil)))) (tRet (tC (.bl false))) tNext) (t_law_right_1 K))
abbrev t_law_right_3 (K : PySem.W.Frag) : TS := (tSeq (tIfS (tTest (tOp (rNeA K) (tCB (rRepr K) (tCons (tLst (tCons (tCl 1 0 (sp_is_name K) (fun vs zs => pick .non [0] (vs ++ zs)) E0 (tCons (tVar 0) tNil) tNil) (tCons (tCl 1 0 (sp_number_of K) (fun vs zs => pick .non [0] (vs ++ zs)) E0 (tCons (tVar 0) tNil) tNil) (tCons (tVar 2) tNil)))) tNil)) (tCB (rRepr K) (tCons (tVar 1) tNil)))) (tRet (tC (.bl false))) tNext) (t_law_right_2 K))
def t_law_right (K : PySem.W.Frag) : TS := (tSeq (tPar 1 2 (tCons (tLst (tCons (tCl 1 0 (sp_law_is_name K) (fun vs zs => pick .non [0] (vs ++ zs)) E0 (tCons (tVar 0) tNil) tNil) (tCons (tCl 1 0 (sp_law_number K) (fun vs zs => pick .non [0] (vs ++ zs)) E0 (tCons (tVar 0) tNil) tNil) (tCons (tCl 1 0 (sp_law_parted K) (fun vs zs => pick .non [0] (vs ++ zs)) E0 (tCons (tVar 0) tNil) tNil) tNil)))) (tCons (tCl 1 0 (sp_words_of K) (fun vs zs => pick .non [0] (vs ++ zs)) E0 (tCons (tVar 0) tNil) tNil) tNil))) (t_law_right_3 K))
theorem rd_law_right {K : PySem.W.Frag} (vs : List V) (H : Hp) (Q : VK) (E : XK) (h : sp_law_right K vs H Q E) : t_law_right K { nx := fun _ H' => Q .non H', rt := Q } (start ["odd", "due", "found"] vs) H := by
  obtain ⟨_, x, k, B, M, L, rfl, hI, hx, q⟩ := h
  show t_law_right K ⟨_, _, _, _⟩ [some x, none, none] H
  unfold t_law_right
  obtain ⟨dn, hdn, sn⟩ := num_dp (x := x) (K := K)
  obtain ⟨nn2, hnn2, sn2⟩ := sn 2
  obtain ⟨nn, hnn, sn⟩ := sn 1
  tm_at "go"
  refine' ap_law_is_name (K := K) hI hx ?_
  clear hI
  intro H hI
  tm_at "go"
  refine' ap_law_number (K := K) hI hx ?_
  clear hI
  intro H hI
  tm_at "go"
  cases hw : wordsV x with
  | none =>
    refine' ap_parted_none (K := K) hI hx hw ?_
    clear hI
    intro H hI
    tm_at "go"
    refine' ap_words_none (K := K) hI hx hw ?_
    clear hI
    intro H hI
    tm_at "go"
    refine' ap_is_name (K := K) hI hx ?_
    clear hI
    intro H hI
    tm_at "go"
    refine' ap_number_of (K := K) hI hx ?_
    clear hI
    intro H hI
    tm_at "go"
    have hd : DpAll K H [.bl (isName x), numOf x, .non] [.bool (isName x), dn, .none] := .cons (.bl _) (.cons (hdn H) (.cons .non .nil))
    have hs : ShnAll [.bool (isName x), dn, .none] _ 1 := .cons .bl (.cons sn (.cons .non .nil))
    refine g_repr (.lst (by tm_at "sq") hd) (.lst hs) (by omega) (by decide) ?_
    tm_at "go"
    refine g_repr (.lst (by tm_at "sq") hd) (.lst hs) (by omega) (by decide) ?_
    tm_at "go"
    refine g_ndec (fun h => absurd rfl h) (fun _ => ?_)
    tm_at "go"
    refine' ap_is_name (K := K) hI hx ?_
    clear hI
    intro H hI
    tm_at "go"
    refine' ap_number_of (K := K) hI hx ?_
    clear hI
    intro H hI
    tm_at "go"
    refine' ap_words_none (K := K) hI hx hw ?_
    clear hI
    intro H hI
    tm_at "go"
    have hd : DpAll K H [.bl (isName x), numOf x, .non] [.bool (isName x), dn, .none] := .cons (.bl _) (.cons (hdn H) (.cons .non .nil))
    refine g_repr (.lst (by tm_at "sq") hd) (.lst hs) (by omega) (by decide) ?_
    tm_at "go"
    refine g_repr (.lst (by tm_at "sq") hd) (.lst hs) (by omega) (by decide) ?_
    tm_at "go"
    refine g_ndec (fun h => absurd rfl h) (fun _ => ?_)
    tm_at "go"
    refine g_ndec (fun h => absurd rfl h) (fun _ => ?_)
    tm_at "go"
    refine' ap_words_none (K := K) hI hx hw ?_
    clear hI
    intro H hI
    tm_at "go"
    refine g_repr .non (Shn.non (k := 1)) (by decide) (by decide) ?_
    tm_at "go"
    refine g_ix_l (by tm_at "sq") (atI_of (by decide) rfl) ?_
    tm_at "go"
    refine g_repr .non (Shn.non (k := 1)) (by decide) (by decide) ?_
    tm_at "go"
    rw [decide_eq_true rfl]
    exact q _ (by tm_at "is")
  | some ws =>
    obtain ⟨nw, hnw, sw⟩ := words_shn hx hw 1
    have hs : ShnAll [.bool (isName x), dn, .list (ws.map PyData.str)] _ 2 := .cons .bl (.cons sn2 (.cons (.lst sw) .nil))
    refine' ap_parted_some (K := K) hI hx hw ?_
    clear hI
    intro pd H hI
    tm_at "go"
    revert p
    intro due hI
    refine' ap_words_some (K := K) hI hx hw ?_
    clear hI
    intro found H hI
    tm_at "go"
    refine' ap_is_name (K := K) hI hx ?_
    clear hI
    intro H hI
    tm_at "go"
    refine' ap_number_of (K := K) hI hx ?_
    clear hI
    intro H hI
    tm_at "go"
    have hd1 : DpAll K H [.bl (isName x), numOf x, .ref found] [.bool (isName x), dn, .list (ws.map PyData.str)] := .cons (.bl _) (.cons (hdn H) (.cons (.lst (by tm_at "sq") (dp_strs ws)) .nil))
    have hd2 : DpAll K H [.bl (isName x), numOf x, .ref pd] [.bool (isName x), dn, .list (ws.map PyData.str)] := .cons (.bl _) (.cons (hdn H) (.cons (.lst (by tm_at "sq") (dp_strs ws)) .nil))
    refine g_repr (.lst (by tm_at "sq") hd1) (.lst hs) (by omega) (by decide) ?_
    tm_at "go"
    refine g_repr (.lst (by tm_at "sq") hd2) (.lst hs) (by omega) (by decide) ?_
    tm_at "go"
    refine g_ndec (fun h => absurd rfl h) (fun _ => ?_)
    tm_at "go"
    refine' ap_is_name (K := K) hI hx ?_
    clear hI
    intro H hI
    tm_at "go"
    refine' ap_number_of (K := K) hI hx ?_
    clear hI
    intro H hI
    tm_at "go"
    refine' ap_words_some (K := K) hI hx hw ?_
    clear hI
    intro f2 H hI
    tm_at "go"
    have hd1 : DpAll K H [.bl (isName x), numOf x, .ref f2] [.bool (isName x), dn, .list (ws.map PyData.str)] := .cons (.bl _) (.cons (hdn H) (.cons (.lst (by tm_at "sq") (dp_strs ws)) .nil))
    have hd2 : DpAll K H [.bl (isName x), numOf x, .ref pd] [.bool (isName x), dn, .list (ws.map PyData.str)] := .cons (.bl _) (.cons (hdn H) (.cons (.lst (by tm_at "sq") (dp_strs ws)) .nil))
    refine g_repr (.lst (by tm_at "sq") hd1) (.lst hs) (by omega) (by decide) ?_
    tm_at "go"
    refine g_repr (.lst (by tm_at "sq") hd2) (.lst hs) (by omega) (by decide) ?_
    tm_at "go"
    refine g_ndec (fun h => absurd rfl h) (fun _ => ?_)
    tm_at "go"
    refine g_ndec (fun _ => ?_) (fun h => by cases h)
    have hwl : ws.length ≤ 500000 := by
      have h1 := words_len hx hw
      omega
    tm_at "go"
    refine' ap_words_some (K := K) hI hx hw ?_
    clear hI
    intro f3 H hI
    tm_at "go"
    refine g_repr (.lst (by tm_at "sq") (dp_strs ws)) (.lst sw) (by omega) (by decide) ?_
    tm_at "go"
    refine g_ix_l (by tm_at "sq") (atI_of (by decide) rfl) ?_
    tm_at "go"
    refine g_repr (.lst (by tm_at "sq") (dp_strs ws)) (.lst sw) (by omega) (by decide) ?_
    tm_at "go"
    rw [decide_eq_true rfl]
    exact q _ (by tm_at "is")
section
variable {K : PySem.W.Frag} {B H : Hp} {M L : List (Addr × HO)} {Q : VK} {E : XK} {x : V} {k : Kn} {lo hi : Int}
theorem ap_is_whole (I : Is B M L H) (hx : Thing K B x k) (q : Q (.bl (isWhole x lo hi)) H) : sp_is_whole K [x, .int lo, .int hi] H Q E := ⟨rfl, x, k, lo, hi, rfl, hx.same I.ex, q⟩
theorem ap_law_whole (I : Is B M L H) (hx : Thing K B x k) (q : Q (.bl (isWhole x lo hi)) H) : sp_law_whole K [x, .int lo, .int hi] H Q E := ⟨rfl, x, k, lo, hi, rfl, hx.same I.ex, q⟩
theorem Is.back {B' : Hp} (s : Same B B') (I : Is B' M L H) : Is B M L H := ⟨s.trans I.ex, fun p hp => ⟨(I.own p hp).1, s.free (I.own p hp).2⟩, I.nd⟩
end
def sp_law_whole_right (K : PySem.W.Frag) : Sp := fun vs H Q _ => vs.length = 1 ∧ ∃ (m : Addr) (n : Int) (B : Hp) (M L : List (Addr × HO)), vs = [.ref m] ∧ Is B M L H ∧ Dr m n B M ∧ n < 2 ^ 39 ∧
  ∀ (H' : Hp) (M' : List (Addr × HO)), Is B M' L H' → Dr m (n + 2) B M' → Q (.bl true) H'
abbrev t_law_whole_right_0 (K : PySem.W.Frag) : TS := (tIfS (tTest (tOp (rNeA K) (tCB (rRepr K) (tCons (tVar 5) tNil)) (tCB (rRepr K) (tCons (tVar 4) tNil)))) (tRet (tC (.bl false))) tNext)
abbrev t_law_whole_right_1 (K : PySem.W.Frag) : TS := (tSeq (tAsg (tLst (tCons (tCl 3 0 (sp_is_whole K) (fun vs zs => pick .non [0, 1, 2] (vs ++ (zs ++ [.int 1000000]))) E0 (tCons (tVar 3) (tCons (tVar 1) (tCons (tVar 2) tNil))) tNil) (tCons (tCl 0 3 (sp_is_whole K) (fun vs zs => pick .non [1, 2, 0] (vs ++ (zs ++ [.int 1000000]))) E0 tNil (tCons (tVar 2) (tCons (tVar 3) (tCons (tVar 1) tNil)))) (tCons (tCl 2 0 (sp_is_whole K) (fun vs zs => pick .non [0, 1, 2] (vs ++ (zs ++ [.int 1000000]))) E0 (tCons (tVar 3) (tCons (tVar 1) tNil)) tNil) tNil)))) (gName 5)) (t_law_whole_right_0 K))
abbrev t_law_whole_right_2 (K : PySem.W.Frag) : TS := (tSeq (tAsg (tOp (rAddA K) (tOp rMulA (tLst (tCons (tCl 3 0 (sp_law_whole K) (fun vs zs => pick .non [0, 1, 2] (vs ++ zs)) E0 (tCons (tVar 3) (tCons (tVar 1) (tCons (tVar 2) tNil))) tNil) tNil)) (tC (.int 2))) (tLst (tCons (tCl 3 0 (sp_law_whole K) (fun vs zs => pick .non [0, 1, 2] (vs ++ zs)) E0 (tCons (tVar 3) (tCons (tVar 1) (tCons (tOp (rI CPow fun i j => .int (i ^ j.toNat)) (tC (.int 10)) (tC (.int 6))) tNil))) tNil) tNil))) (gName 4)) (t_law_whole_right_1 K))
abbrev t_law_whole_right_3 (K : PySem.W.Frag) : TS := (tRet (tC (.bl true)))
abbrev t_law_whole_right_4 (K : PySem.W.Frag) : TS := (tSeq (tFor (iAny K (tTup (tCons (tOp (rI0 fun i j => .int (i - j)) (tVar 1) (tC (.int 1))) (tCons (tVar 1) (tCons (tVar 2) (tCons (tOp (rAddA K) (tVar 2) (tC (.int 1))) (tCons (tOp (rI CPow fun i j => .int (i ^ j.toNat)) (tC (.int 10)) (tC (.int 6))) (tCons (tOp (rAddA K) (tOp (rI CPow fun i j => .int (i ^ j.toNat)) (tC (.int 10)) (tC (.int 6))) (tC (.int 1))) (tCons (tOp (rI CPow fun i j => .int (i ^ j.toNat)) (tC (.int 10)) (tC (.int 30))) (tCons (tC (.bl true)) (tCons (tC (.bl false)) (tCons (tC .non) (tCons (tC (.str "1")) (tCons (tTup (tCons (tC (.int 1)) tNil)) (tCons (tLst (tCons (tC (.int 1)) tNil)) tNil))))))))))))))) (gName 3) (t_law_whole_right_2 K)) (t_law_whole_right_3 K))
abbrev t_law_whole_right_5 (K : PySem.W.Frag) : TS := (tSeq (tAsg (tOp (rAddA K) (tVar 1) (tCl 2 0 (sp_law_draw K) (fun vs zs => pick .non [0, 1] (vs ++ zs)) E0 (tCons (tVar 0) (tCons (tC (.int 4)) tNil)) tNil)) (gName 2)) (t_law_whole_right_4 K))
def t_law_whole_right (K : PySem.W.Frag) : TS := (tSeq (tAsg (tOp (rI0 fun i j => .int (i - j)) (tCl 2 0 (sp_law_draw K) (fun vs zs => pick .non [0, 1] (vs ++ zs)) E0 (tCons (tVar 0) (tCons (tC (.int 9)) tNil)) tNil) (tC (.int 4))) (gName 1)) (t_law_whole_right_5 K))
theorem rd_law_whole_right {K : PySem.W.Frag} (vs : List V) (H : Hp) (Q : VK) (E : XK) (h : sp_law_whole_right K vs H Q E) : t_law_whole_right K { nx := fun _ H' => Q .non H', rt := Q } (start ["m", "low", "high", "odd", "due", "found"] vs) H := by
  obtain ⟨_, m, n, B, M, L, rfl, hI, hd, h1, q⟩ := h
  show t_law_whole_right K ⟨_, _, _, _⟩ [some (.ref m), none, none, none, none, none] H
  unfold t_law_whole_right
  tm_at "go"
  tm_at "draw"
  tm_at "go"
  generalize r - 4 = low at *
  tm_at "draw"
  tm_at "go"
  generalize low + r = high at *
  rename_i p1 _ p2 _
  have e6 : ((10 : Int) ^ Int.toNat 6) = 1000000 := by decide
  rw [e6] at hI
  refine' hI.give (a := p1) (by tm_at "del") ?_
  clear hI
  intro B1 s1 ha hI
  refine' hI.give (a := p2) (by tm_at "del") ?_
  clear hI
  intro B2 s2 hb hI
  refine' hI.give (a := p) (by tm_at "del") ?_
  clear hI
  intro B3 s3 hp hI
  have s := (s1.trans s2).trans s3
  have ht : Things K B3 [V.int (low - 1), V.int low, V.int high, V.int (high + 1), V.int 1000000, V.int (1000000 + 1), V.int (10 ^ Int.toNat 30), V.bl true, V.bl false, V.non, V.str (Str.ofString "1"), V.ref p1, V.ref p2] :=
    .cons (thing_int _) (.cons (thing_int _) (.cons (thing_int _) (.cons (thing_int _) (.cons (thing_int _) (.cons (thing_int _) (.cons (thing_int _) (.cons (thing_bl _) (.cons (thing_bl _) (.cons thing_non (.cons (thing_str (Sh.plain (n := 1) (Sh.lit (by decide +kernel)) (by decide)))
      (.cons (thing_tup ((s2.trans s3) _ _ ha)) (.cons (thing_lst (s3 _ _ hb)) .nil))))))))))))
  generalize [V.int (low - 1), V.int low, V.int high, V.int (high + 1), V.int 1000000, V.int (1000000 + 1), V.int (10 ^ Int.toNat 30), V.bl true, V.bl false, V.non, V.str (Str.ofString "1"), V.ref p1, V.ref p2] = xs at *
  refine' g_aFor walk_tup (fun i σ H => ∃ (a b c : Option V), σ = [some (V.ref m), some (V.int low), some (V.int high), a, b, c] ∧ Is B3 M L H) ⟨_, _, _, rfl, hI⟩ (fun i σ H _ ⟨_, _, _, _, hI⟩ => (by tm_at "st" : SqT K H p xs)) ?_ ?_
  · rintro i x σ H H' hi ⟨a, b, c, rfl, hI⟩ ⟨rfl, hx⟩
    obtain ⟨k, hx⟩ := ht x (List.mem_of_getElem? hx)
    tm_at "go"
    refine' ap_law_whole (K := K) hI hx ?_
    tm_at "go"
    refine g_mul_l (n := 2) hI (by tm_at "hp") (by tm_at "arith") (by decide) ?_
    clear hI
    intro p5 H hI
    rw [show (List.replicate 2 [V.bl (isWhole x low high)]).flatten = [V.bl (isWhole x low high), V.bl (isWhole x low high)] from rfl] at hI
    tm_at "go"
    rw [e6]
    refine' ap_law_whole (K := K) hI hx ?_
    tm_at "go"
    refine g_add_l hI (by tm_at "hp") (by tm_at "hp") (by tm_at "arith") ?_
    clear hI
    intro due H hI
    tm_at "go"
    refine' ap_is_whole (K := K) hI hx ?_
    tm_at "go"
    refine' ap_is_whole (K := K) hI hx ?_
    tm_at "go"
    refine' ap_is_whole (K := K) hI hx ?_
    tm_at "go"
    have hd : DpAll K H [.bl (isWhole x low high), .bl (isWhole x low high), .bl (isWhole x low 1000000)] [.bool (isWhole x low high), .bool (isWhole x low high), .bool (isWhole x low 1000000)] := .cons (.bl _) (.cons (.bl _) (.cons (.bl _) .nil))
    have hs : ShnAll [.bool (isWhole x low high), .bool (isWhole x low high), .bool (isWhole x low 1000000)] _ 1 := .cons .bl (.cons .bl (.cons .bl .nil))
    refine g_repr (.lst (by tm_at "sq") hd) (.lst hs) (by decide) (by decide) ?_
    tm_at "go"
    refine g_repr (.lst (by tm_at "sq") hd) (.lst hs) (by decide) (by decide) ?_
    tm_at "go"
    refine g_ndec (fun h => absurd rfl h) (fun _ => ?_)
    tm_at "go"
    exact ⟨_, _, _, rfl, by tm_at "is"⟩
  · rintro σ H ⟨a, b, c, rfl, hI⟩
    tm_at "go"
    exact q _ _ (hI.back s) (hd.mono (by omega))
section
variable {K : PySem.W.Frag} {B H : Hp} {M L : List (Addr × HO)} {Q : VK} {E : XK} {x : V} {k : Kn} {n : Int} {m : Addr}
theorem ap_law_begun {a : Addr} {ns : List Int} (I : Is B [] L H) (h : SqL K B a (ns.map V.int)) (hl : ns.length ≤ 63) (q : ∀ (m : Addr) (B' : Hp) (M' : List (Addr × HO)) (H' : Hp), Same B B' → Is B' M' L H' → Dr m 0 B' M' → Q (.ref m) H') : sp_law_begun K [.ref a] H Q E :=
  ⟨rfl, a, ns, B, L, rfl, I, h, hl, q⟩
theorem ap_law_called {many : Int} (I : Is B M L H) (d : Dr m n B M) (h : n < 2 ^ 39) (h0 : 0 ≤ many) (h1 : many < 1000) (q : ∀ (p : Addr) (xs : List V) (H' : Hp) (M' : List (Addr × HO)), Is B M' ((p, .lst xs) :: L) H' → Dr m (n + 2 + 9 * many) B M' → Txs 20 xs → (xs.length : Int) = many → Q (.ref p) H') : sp_law_called K [.ref m, .int many] H Q E :=
  ⟨rfl, m, many, n, B, M, L, rfl, I, d, h, h0, h1, q⟩
theorem ap_law_signed {z : Str} (I : Is B M L H) (d : Dr m n B M) (h : n < 2 ^ 39) (hz : Sh 1000 z) (q : ∀ (z' : Str) (H' : Hp) (M' : List (Addr × HO)), Is B M' L H' → Dr m (n + 3) B M' → Sh 3000 z' → Q (.str z') H') : sp_law_signed K [.ref m, .str z] H Q E :=
  ⟨rfl, m, z, n, B, M, L, rfl, I, d, h, hz, q⟩
theorem ap_law_far (I : Is B M L H) (q : ∀ (p : Addr) (xs : List V) (B' H' : Hp), Same B B' → Is B' M ((p, .lst xs) :: L) H' → Things K B' xs → xs.length ≤ 20 → Q (.ref p) H') : sp_law_far K [] H Q E := ⟨rfl, B, M, L, rfl, I, q⟩
theorem ap_law_right (I : Is B M L H) (hx : Thing K B x k) (q : ∀ H', Is B M L H' → Q (.bl true) H') : sp_law_right K [x] H Q E := ⟨rfl, x, k, B, M, L, rfl, I, hx, q⟩
theorem ap_law_whole_right (I : Is B M L H) (d : Dr m n B M) (h : n < 2 ^ 39) (q : ∀ (H' : Hp) (M' : List (Addr × HO)), Is B M' L H' → Dr m (n + 2) B M' → Q (.bl true) H') : sp_law_whole_right K [.ref m] H Q E := ⟨rfl, m, n, B, M, L, rfl, I, d, h, q⟩
end
theorem Is.keepTx {B H : Hp} {M L : List (Addr × HO)} {p : Addr} {n a b : Nat} {xs ys : List V} (I : Is B M ((p, .lst (xs ++ ys)) :: L) H) (hx : Txs n xs) (hy : Txs n ys) (l1 : xs.length = a) (l2 : ys.length = b) : ∃ zs, Is B M ((p, .lst zs) :: L) H ∧ Txs n zs ∧ zs.length = a + b :=
  ⟨_, I, hx.app hy, by rw [List.length_append, l1, l2]⟩
def sp_law (K : PySem.W.Frag) : Sp := fun vs H Q _ => vs.length = 1 ∧ ∃ (a : Addr) (ns : List Int) (B : Hp) (L : List (Addr × HO)), vs = [.ref a] ∧ Is B [] L H ∧ SqL K B a (ns.map V.int) ∧ ns.length ≤ 63 ∧ ∀ H', Q (.bl true) H'
abbrev t_law_0 (K : PySem.W.Frag) : TS := (tIfS (tNot (tTr K (tCl 1 0 (sp_law_right K) (fun vs zs => pick .non [0] (vs ++ zs)) E0 (tCons (tVar 3) tNil) tNil))) (tRet (tC (.bl false))) tNext)
abbrev t_law_1 (K : PySem.W.Frag) : TS := (tRet (tCB (rAll K) (tCons (tLc (iRng1 (tCons (tC (.int 4)) tNil)) (gName 4) tYes (tCl 1 0 (sp_law_whole_right K) (fun vs zs => pick .non [0] (vs ++ zs)) E0 (tCons (tVar 1) tNil) tNil) [4]) tNil)))
abbrev t_law_2 (K : PySem.W.Frag) : TS := (tSeq (tFor (iAny K (tOp (rAddA K) (tOp (rAddA K) (tVar 2) (tLst (tCons (tC (.int 0)) (tCons (tC (.int 9999)) (tCons (tUn (rU fun i => .int (-i)) (tC (.int 1))) (tCons (tC (.bl false)) (tCons (tTup tNil) (tCons (tTup (tCons (tC (.str "a")) tNil)) (tCons (tDisp [((tC (.str "a")), (tC (.int 1)))]) (tCons (tLst (tCons (tC (.str "job")) tNil)) tNil)))))))))) (tCl 0 0 (sp_law_far K) (fun vs zs => pick .non [] (vs ++ zs)) E0 tNil tNil))) (gName 3) (t_law_0 K)) (t_law_1 K))
abbrev t_law_3 (K : PySem.W.Frag) : TS := (tSeq (tAsg (tOp (rAddA K) (tVar 2) (tLc (iRng1 (tCons (tC (.int 40)) tNil)) (gName 4) tYes (tCl 2 0 (sp_law_signed K) (fun vs zs => pick .non [0, 1] (vs ++ zs)) E0 (tCons (tVar 1) (tCons (tSl (rSlA K) (tOp (rIx K) (tVar 2) (tCl 2 0 (sp_law_draw K) (fun vs zs => pick .non [0, 1] (vs ++ zs)) E0 (tCons (tVar 1) (tCons (tCB (rLen K) (tCons (tVar 2) tNil)) tNil)) tNil)) tNoPart (tPart (tC (.int 40)))) tNil)) tNil) [4])) (gName 2)) (t_law_2 K))
abbrev t_law_4 (K : PySem.W.Frag) : TS := (tSeq (tAsg (tOp (rAddA K) (tVar 2) (tLst (tCons (tOp (rAddA K) (tOp rMulA (tC (.str "a ")) (tC (.int 400))) (tC (.str "a"))) (tCons (tC (.str "1\n")) (tCons (tC (.str "job 7")) (tCons (tC (.str "\n")) (tCons (tC (.str "a\nb")) tNil))))))) (gName 2)) (t_law_3 K))
abbrev t_law_5 (K : PySem.W.Frag) : TS := (tSeq (tAsg (tOp (rAddA K) (tVar 2) (tLc (iRng1 (tCons (tC (.int 6)) tNil)) (gName 4) tYes (tCB rStrI (tCons (tCl 2 0 (sp_law_draw K) (fun vs zs => pick .non [0, 1] (vs ++ zs)) E0 (tCons (tVar 1) (tCons (tOp (rAddA K) (tOp (rI CPow fun i j => .int (i ^ j.toNat)) (tC (.int 10)) (tC (.int 7))) (tC (.int 5))) tNil)) tNil) tNil)) [4])) (gName 2)) (t_law_4 K))
abbrev t_law_6 (K : PySem.W.Frag) : TS := (tSeq (tAsg (tOp (rAddA K) (tVar 2) (tLst (tCons (tC (.str "9999999")) (tCons (tC (.str "10000000")) (tCons (tC (.str "0123456")) (tCons (tC (.str "09")) (tCons (tC (.str "+1")) (tCons (tC (.str "1_0")) (tCons (tOp rMulA (tC (.str "9")) (tC (.int 4000))) (tCons (tC (.str " ")) (tCons (tC (.str "a b")) (tCons (tC (.str " a")) (tCons (tC (.str "a ")) (tCons (tC (.str "a  b")) tNil)))))))))))))) (gName 2)) (t_law_5 K))
abbrev t_law_7 (K : PySem.W.Frag) : TS := (tSeq (tAsg (tOp (rAddA K) (tOp (rAddA K) (tVar 2) (tCl 2 0 (sp_law_called K) (fun vs zs => pick .non [0, 1] (vs ++ zs)) E0 (tCons (tVar 1) (tCons (tC (.int 8)) tNil)) tNil)) (tLst (tCons (tC (.str "a")) (tCons (tC (.str "z")) (tCons (tC (.str "abcdefgh")) (tCons (tC (.str "abcdefghi")) (tCons (tC (.str "A")) (tCons (tC (.str "")) (tCons (tC (.str "aB")) (tCons (tC (.str "0")) (tCons (tC (.str "-0")) (tCons (tC (.str "00")) (tCons (tC (.str "-")) (tCons (tC (.str "-1")) tNil)))))))))))))) (gName 2)) (t_law_6 K))
abbrev t_law_8 (K : PySem.W.Frag) : TS := (tSeq (tAsg (tOp (rAddA K) (tVar 2) (tLst (tCons (tC (.str "hands")) (tCons (tC (.str "sewn")) (tCons (tC (.str "presse")) (tCons (tC (.str "glu")) (tCons (tC (.str "gluea")) (tCons (tC (.str "st")) tNil)))))))) (gName 2)) (t_law_7 K))
abbrev t_law_9 (K : PySem.W.Frag) : TS := (tSeq (tAsg (tM1 rSplit (tC (.str "style job round sew glue cover letter press hand haste styles jobs")) (tC (.str " "))) (gName 2)) (t_law_8 K))
def t_law (K : PySem.W.Frag) : TS := (tSeq (tAsg (tCl 1 0 (sp_law_begun K) (fun vs zs => pick .non [0] (vs ++ zs)) E0 (tCons (tVar 0) tNil) tNil) (gName 1)) (t_law_9 K))
theorem rd_law {K : PySem.W.Frag} (vs : List V) (H : Hp) (Q : VK) (E : XK) (h : sp_law K vs H Q E) : t_law K { nx := fun _ H' => Q .non H', rt := Q } (start ["script", "m", "some", "odd", "bout"] vs) H := by
  obtain ⟨_, a, ns, B, L, rfl, hI, ha, hl, q⟩ := h
  show t_law K ⟨_, _, _, _⟩ [some (.ref a), none, none, none, none] H
  unfold t_law
  tm_at "go"
  refine' ap_law_begun (K := K) hI ha hl ?_
  clear hI
  intro m B' M H s hI hd
  tm_at "go"
  refine ⟨_, _, rfl, rfl, by decide +kernel, by decide +kernel, ?_⟩
  rw [split_parts]
  refine g_newS hI ?_
  clear hI
  intro p H hI
  have ht : Txs 20000 ((List.map (fun l => (⟨l.toArray⟩ : Str)) (partsL "style job round sew glue cover letter press hand haste styles jobs")).map V.str) := Txs.lit (by decide +kernel)
  have hl1 : ((List.map (fun l => (⟨l.toArray⟩ : Str)) (partsL "style job round sew glue cover letter press hand haste styles jobs")).map V.str).length = 12 := by decide +kernel
  generalize ((List.map (fun l => (⟨l.toArray⟩ : Str)) (partsL "style job round sew glue cover letter press hand haste styles jobs")).map V.str) = xs at *
  tm_at "go"
  refine g_add_l hI (by tm_at "hp") (by tm_at "hp") (by tm_at "arith") ?_
  clear hI
  intro p H hI
  have hI := hI.forget (L' := (p, .lst _) :: L) (by tm_at "sub")
  have ht := ht.app (ys := [V.str "hands", V.str "sewn", V.str "presse", V.str "glu", V.str "gluea", V.str "st"]) (Txs.lit (by decide +kernel))
  have hl1 : (xs ++ [V.str "hands", V.str "sewn", V.str "presse", V.str "glu", V.str "gluea", V.str "st"]).length = 18 := by rw [List.length_append, hl1]; rfl
  generalize (xs ++ [V.str "hands", V.str "sewn", V.str "presse", V.str "glu", V.str "gluea", V.str "st"]) = xs at *
  tm_at "go"
  refine' ap_law_called (K := K) hI hd (by decide) (by decide) (by decide) ?_
  clear hI hd
  intro p2 ys H M hI hd hy hyl
  refine g_add_l hI (by tm_at "hp") (by tm_at "hp") (by tm_at "arith") ?_
  clear hI
  intro p H hI
  have hI := hI.forget (L' := (p, .lst _) :: L) (by tm_at "sub")
  have ht := ht.app (hy.mono (by decide))
  have hl1 : (xs ++ ys).length = 26 := by rw [List.length_append]; omega
  generalize xs ++ ys = xs at *
  tm_at "go"
  refine g_add_l hI (by tm_at "hp") (by tm_at "hp") (by tm_at "arith") ?_
  clear hI
  intro p H hI
  obtain ⟨xs, hI, ht, hl1⟩ := (hI.forget (L' := (p, .lst _) :: L) (by tm_at "sub")).keepTx (b := 12) ht (Txs.lit (by decide +kernel)) hl1 rfl
  tm_at "go"
  refine g_mul_s (n := 4000) (by decide +kernel) (by decide) (by decide +kernel) ?_
  tm_at "go"
  refine g_add_l hI (by tm_at "hp") (by tm_at "hp") (by tm_at "arith") ?_
  clear hI
  intro p H hI
  obtain ⟨xs, hI, ht, hl1⟩ := (hI.forget (L' := (p, .lst _) :: L) (by tm_at "sub")).keepTx (b := 12) ht (Txs.lit (by decide +kernel)) hl1 rfl
  tm_at "go"
  -- six numbers
  refine' g_aLc walk_range hI (by tm_at "wiped") (by decide) (fun i acc B2 M' => B' = B2 ∧ Dr m (74 + i) B' M' ∧ Txs 20000 acc ∧ acc.length = i) ⟨rfl, hd.mono (by omega), .nil, rfl⟩ (fun _ _ _ _ _ _ _ _ _ _ => trivial) ?_ ?_
  · rintro i x acc B2 M' D H' H'' hi s2 hI ⟨rfl, hd, hta, hla⟩ ⟨rfl, rfl⟩ hz
    have hi : i < 6 := hi
    have e7 : ((10 : Int) ^ Int.toNat 7) = 10000000 := by decide
    tm_at "go"
    refine' g_wiped (by tm_at "wiped") ?_
    tm_at "go"
    rw [e7]
    tm_at "draw"
    refine g_strI (k := 8) hr0 (by decide) (by omega) ?_
    intro hs
    exact lcY s2 hI hz ⟨rfl, hd.mono (by omega), hta.app (Txs.cons (hs.mono (by decide)) .nil), by simp [hla]⟩
  clear hI hd
  rintro ys B2 M D H s2 hI ⟨rfl, hd, hy, hyl⟩ _
  refine g_add_l hI (by tm_at "hp") (by tm_at "hp") (by tm_at "arith") ?_
  clear hI
  intro p H hI
  obtain ⟨xs, hI, ht, hl1⟩ := (hI.forget (L' := (p, .lst _) :: L) (by tm_at "sub")).keepTx (b := 6) ht hy hl1 hyl
  tm_at "go"
  refine g_mul_s (n := 400) (by decide +kernel) (by decide) (by decide +kernel) ?_
  refine g_add_sh (Sh.rep (n := 2) (k := 400) (Sh.lit (by decide +kernel))) (Sh.lit (n := 1) (by decide +kernel)) (by decide) ?_
  intro hs
  generalize (repS (Str.ofString "a ") 400 ++ Str.ofString "a") = sa at *
  tm_at "go"
  refine g_add_l hI (by tm_at "hp") (by tm_at "hp") (by tm_at "arith") ?_
  clear hI
  intro p H hI
  obtain ⟨xs, hI, ht, hl1⟩ := (hI.forget (L' := (p, .lst _) :: L) (by tm_at "sub")).keepTx (b := 5) ht (Txs.cons (hs.mono (by decide)) (Txs.lit (by decide +kernel))) hl1 rfl
  tm_at "go"
  -- forty of these, a sign put in
  have hd : Dr m (80 + 4 * ((0 : Nat) : Int)) B' M := hd.mono (by decide)
  refine' g_aLc walk_range hI (by tm_at "wiped") (by decide) (fun i acc B2 M' => B' = B2 ∧ Dr m (80 + 4 * (i : Int)) B' M' ∧ Txs 20000 acc ∧ acc.length = i) ⟨rfl, hd, .nil, rfl⟩ (fun _ _ _ _ _ _ _ _ _ _ => trivial) ?_ ?_
  · rintro i x acc B2 M' D H' H'' hi s2 hI ⟨rfl, hd, hta, hla⟩ ⟨rfl, rfl⟩ hz
    have hi : i < 40 := hi
    tm_at "go"
    refine' g_wiped (by tm_at "wiped") ?_
    tm_at "go"
    tm_at "draw"
    refine g_ix_tx (by tm_at "sq") ht hr0 (by omega) ?_
    intro z hz1
    tm_at "go"
    refine g_sl_sh hz1 (by decide) ?_
    intro _
    have hz2 : Sh 40 (cutS z none (some 40)) := hz1.cut_to (k := 40) none
    tm_at "go"
    refine' ap_law_signed (K := K) hI hd (by omega) (hz2.mono (by decide)) ?_
    clear hI hd
    intro z' H M hI hd hz3
    exact lcY s2 hI hz ⟨rfl, hd.mono (by omega), hta.app (Txs.cons (hz3.mono (by decide)) .nil), by simp [hla]⟩
  clear hI hd
  rintro ys B2 M D H s2 hI ⟨rfl, hd, hy, hyl⟩ _
  refine g_add_l hI (by tm_at "hp") (by tm_at "hp") (by tm_at "arith") ?_
  clear hI
  intro p H hI
  obtain ⟨xs, hI, ht, hl1⟩ := (hI.forget (L' := (p, .lst _) :: L) (by tm_at "sub")).keepTx (b := 40) ht hy hl1 hyl
  obtain ⟨some1, rfl⟩ : ∃ q, q = p := ⟨_, rfl⟩
  tm_at "go"
  refine g_add_l hI (by tm_at "hp") (by tm_at "hp") (by tm_at "arith") ?_
  clear hI
  intro p H hI
  tm_at "go"
  rename_i p4 _ p3 _ p2 _ _ p1 _ p0 _
  refine' hI.give (a := p4) (by tm_at "del") ?_
  clear hI
  intro B1 s1 h4 hI
  refine' hI.give (a := p3) (by tm_at "del") ?_
  clear hI
  intro B2 s2 h3 hI
  refine' hI.give (a := p2) (by tm_at "del") ?_
  clear hI
  intro B3 s3 h2 hI
  refine' hI.give (a := p1) (by tm_at "del") ?_
  clear hI
  intro B4 s4 h1 hI
  refine' ap_law_far (K := K) hI ?_
  clear hI
  intro pf zs B5 H s5 hI hz hzl
  have hT : Things K B5 (xs ++ [V.int 0, V.int 9999, V.int (-1), V.bl false, V.ref p4, V.ref p3, V.ref p2, V.ref p1]) :=
    (ht.things (by decide)).app (.cons (thing_int _) (.cons (thing_int _) (.cons (thing_int _) (.cons (thing_bl _) (.cons (thing_tup ((((s2.trans s3).trans s4).trans s5) _ _ h4)) (.cons (thing_tup (((s3.trans s4).trans s5) _ _ h3))
      (.cons (thing_dct ((s4.trans s5) _ _ h2)) (.cons (thing_lst (s5 _ _ h1)) .nil))))))))
  have hd : Dr m 240 B5 M := (hd.mono (by decide)).same ((((s1.trans s2).trans s3).trans s4).trans s5)
  refine g_add_l hI (by tm_at "hp") (by tm_at "hp") (by tm_at "arith") ?_
  clear hI
  intro all H hI
  have hI := hI.forget (L' := (all, .lst _) :: L) (by tm_at "sub")
  have hT := hT.app hz
  generalize (xs ++ [V.int 0, V.int 9999, V.int (-1), V.bl false, V.ref p4, V.ref p3, V.ref p2, V.ref p1]) ++ zs = ws at *
  tm_at "go"
  refine' g_aFor walk_list (fun i σ H => ∃ (c : Option V), σ = [some (V.ref a), some (V.ref m), some (V.ref some1), c, none] ∧ Is B5 M ((all, .lst ws) :: L) H) ⟨_, rfl, hI⟩ (fun i σ H _ ⟨_, _, hI⟩ => (by tm_at "sq" : SqL K H all ws)) ?_ ?_
  · rintro i x σ H H' hi ⟨c, rfl, hI⟩ ⟨rfl, hx⟩
    obtain ⟨k, hx⟩ := hT x (List.mem_of_getElem? hx)
    tm_at "go"
    refine' ap_law_right (K := K) hI hx ?_
    clear hI
    intro H hI
    tm_at "go"
    exact ⟨_, rfl, hI⟩
  rintro σ H ⟨c, rfl, hI⟩
  tm_at "go"
  refine' g_aLc walk_range hI (by tm_at "wiped") (by decide) (fun i acc B2 M' => B5 = B2 ∧ Dr m (240 + 2 * (i : Int)) B5 M' ∧ acc = (List.replicate i ()).map fun _ => V.bl true) ⟨rfl, hd.mono (by decide), rfl⟩ (fun _ _ _ _ _ _ _ _ _ _ => trivial) ?_ ?_
  · rintro i x acc B2 M' D H' H'' hi s2 hI ⟨rfl, hd, hacc⟩ ⟨rfl, rfl⟩ hz
    have hi : i < 4 := hi
    tm_at "go"
    refine' g_wiped (by tm_at "wiped") ?_
    tm_at "go"
    refine' ap_law_whole_right (K := K) hI hd (by omega) ?_
    clear hI hd
    intro H M hI hd
    exact lcY s2 hI hz ⟨rfl, hd.mono (by omega), by rw [hacc, List.replicate_succ', List.map_append]; rfl⟩
  clear hI hd
  rintro acc B2 M D H s2 hI ⟨rfl, hd, rfl⟩ _
  tm_at "go"
  refine g_all (P := fun _ => true) (by tm_at "sq") ?_
  exact q _
theorem law_asked {K : PySem.W.Frag} (H : Hp) (a : Addr) (ns : List Int) (hn : ns.length ≤ 63) (h : SqL K H a (ns.map V.int)) : sp_law K [.ref a] H (fun v _ => v = .bl true) fun _ _ _ => False :=
  ⟨rfl, a, ns, H, [], rfl, ⟨fun _ _ e => e, fun p hp => (by cases hp), .nil⟩, h, hn, fun _ => rfl⟩
end Bz
namespace Bz
open PySem PySem.Spec PyProof.Rows L2
/-! ### the text -/
def topS (i : Nat) : Stmt := PySem.Challenge.pw_bindbench_k01_words.main.body.getD i (.Pass ⟨0, 0, 0, 0⟩)
abbrev FnP (K : PySem.W.Frag) (x : Str) (st : Stmt) (dvs : List V) (f : Addr) (fd : FuncData) : Prop := FunD K x x (defArgs st) (defBody st) (defScope st) dvs [] f fd
structure Txt (K : PySem.W.Frag) (mg : Str → Option Value) : Prop where
  c_MOST_LETTERS : ∃ t, mg "MOST_LETTERS" = some (.int 8 t)
  c_MOST_FIGURES : ∃ t, mg "MOST_FIGURES" = some (.int 7 t)
  c_LETTERS : ∃ t, mg "LETTERS" = some (.str "abcdefghijklmnopqrstuvwxyz" t)
  c_FIGURES : ∃ t, mg "FIGURES" = some (.str "0123456789" t)
  g_BARRED_WORDS : mg "BARRED_WORDS" = some (.ref (He.ga K "BARRED_WORDS"))
  k_BARRED_WORDS : ∀ H, SqT K H (He.ga K "BARRED_WORDS") [.str "style", .str "job", .str "round", .str "sew", .str "glue", .str "cover", .str "letter", .str "press", .str "hand", .str "haste"]
  z_all : mg "all" = none
  z_bool : mg "bool" = none
  z_enumerate : mg "enumerate" = none
  z_int : mg "int" = none
  z_isinstance : mg "isinstance" = none
  z_len : mg "len" = none
  z_range : mg "range" = none
  z_repr : mg "repr" = none
  z_str : mg "str" = none
  g_is_whole : mg "is_whole" = some (.ref (He.ga K "is_whole"))
  d_is_whole : ∃ fd, FnP K "is_whole" (topS 6) [.int 1000000] (He.ga K "is_whole") fd
  g_is_name : mg "is_name" = some (.ref (He.ga K "is_name"))
  d_is_name : ∃ fd, FnP K "is_name" (topS 7) [] (He.ga K "is_name") fd
  g_number_of : mg "number_of" = some (.ref (He.ga K "number_of"))
  d_number_of : ∃ fd, FnP K "number_of" (topS 8) [] (He.ga K "number_of") fd
  g_words_of : mg "words_of" = some (.ref (He.ga K "words_of"))
  d_words_of : ∃ fd, FnP K "words_of" (topS 9) [] (He.ga K "words_of") fd
  g_law_mixed : mg "_law_mixed" = some (.ref (He.ga K "_law_mixed"))
  d_law_mixed : ∃ fd, FnP K "_law_mixed" (topS 11) [] (He.ga K "_law_mixed") fd
  g_law_folded : mg "_law_folded" = some (.ref (He.ga K "_law_folded"))
  d_law_folded : ∃ fd, FnP K "_law_folded" (topS 12) [] (He.ga K "_law_folded") fd
  g_law_draw : mg "_law_draw" = some (.ref (He.ga K "_law_draw"))
  d_law_draw : ∃ fd, FnP K "_law_draw" (topS 13) [] (He.ga K "_law_draw") fd
  g_law_begun : mg "_law_begun" = some (.ref (He.ga K "_law_begun"))
  d_law_begun : ∃ fd, FnP K "_law_begun" (topS 14) [] (He.ga K "_law_begun") fd
  g_law_called : mg "_law_called" = some (.ref (He.ga K "_law_called"))
  d_law_called : ∃ fd, FnP K "_law_called" (topS 15) [] (He.ga K "_law_called") fd
  g_law_whole : mg "_law_whole" = some (.ref (He.ga K "_law_whole"))
  d_law_whole : ∃ fd, FnP K "_law_whole" (topS 16) [] (He.ga K "_law_whole") fd
  g_law_is_name : mg "_law_is_name" = some (.ref (He.ga K "_law_is_name"))
  d_law_is_name : ∃ fd, FnP K "_law_is_name" (topS 17) [] (He.ga K "_law_is_name") fd
  g_law_number : mg "_law_number" = some (.ref (He.ga K "_law_number"))
  d_law_number : ∃ fd, FnP K "_law_number" (topS 18) [] (He.ga K "_law_number") fd
  g_law_parted : mg "_law_parted" = some (.ref (He.ga K "_law_parted"))
  d_law_parted : ∃ fd, FnP K "_law_parted" (topS 19) [] (He.ga K "_law_parted") fd
  g_law_signed : mg "_law_signed" = some (.ref (He.ga K "_law_signed"))
  d_law_signed : ∃ fd, FnP K "_law_signed" (topS 20) [] (He.ga K "_law_signed") fd
  g_law_far : mg "_law_far" = some (.ref (He.ga K "_law_far"))
  d_law_far : ∃ fd, FnP K "_law_far" (topS 21) [] (He.ga K "_law_far") fd
  g_law_right : mg "_law_right" = some (.ref (He.ga K "_law_right"))
  d_law_right : ∃ fd, FnP K "_law_right" (topS 22) [] (He.ga K "_law_right") fd
  g_law_whole_right : mg "_law_whole_right" = some (.ref (He.ga K "_law_whole_right"))
  d_law_whole_right : ∃ fd, FnP K "_law_whole_right" (topS 23) [] (He.ga K "_law_whole_right") fd
  g_law : mg "law" = some (.ref (He.ga K "law"))
  d_law : ∃ fd, FnP K "law" (topS 24) [] (He.ga K "law") fd
section
variable {P : Program} {w : World} {K : PySem.W.Frag} {mg : Str → Option Value} {base : Heap}
theorem sc_is_whole : FnScope ["thing", "least", "most"] ["thing", "least", "most"] (defScope (topS 6)) := ⟨rfl, rfl, rfl, by decide +kernel, rfl, by decide +kernel, by decide +kernel⟩
theorem ok_is_whole (T : Txt K mg) : ∃ fd, FnP K "is_whole" (topS 6) [.int 1000000] (He.ga K "is_whole") fd ∧ FnG P w K mg base CX0 1 (He.ga K "is_whole") fd ["thing", "least", "most"] (sp_is_whole K) := by
  obtain ⟨fd, F⟩ := T.d_is_whole
  refine ⟨fd, F, fnG_of (sp := sp_is_whole K) F sc_is_whole (fun vs H Q E h => h.1) fun cdv A outer s H vs Q E hr hg h => ?_⟩
  have hu := hu_of hr
  have nd := sc_is_whole.nd
  exact ⟨t_is_whole K, PSs.nox ((pss_one (ps_ret (pe_and (pe_callB call_isi (by rfl) T.z_isinstance (by decide +kernel) (pa_cons (pv 0) (pa_cons (pe_bltn (v := .ty "int") (by rfl) T.z_int (by decide +kernel) rfl) pa_nil))) (pe_and (pe_not (pe_callB call_isi (by rfl) T.z_isinstance (by decide +kernel) (pa_cons (pv 0) (pa_cons (pe_bltn (v := .ty "bool") (by rfl) T.z_bool (by decide +kernel) rfl) pa_nil)))) (pe_one (pe_chain op_le op_le (pv 1) (pv 0) (pv 2)))))))), rd_is_whole vs H Q E h⟩
theorem cs_is_whole_2 (T : Txt K mg) : CallOk P w K mg base CX0 1 "is_whole" 2 [] (sp_is_whole K) (fun vs zs => pick .non [0, 1, 2] (vs ++ (zs ++ [.int 1000000]))) := by
  obtain ⟨fd, F, G⟩ := ok_is_whole (P := P) (w := w) (base := base) T
  obtain ⟨g, kb⟩ := kb1 (ps := ["thing", "least", "most"]) F (by simp) 2 [] [0, 1, 2] fun T kV doc pm an cdv ct us ws its h1 h2 h3 => match us, ws, its, h1, h2, h3 with | [_, _], [], [_], _, _, _ => ⟨_, rfl, rfl⟩
  exact ⟨⟨fd, _, g, G, kb⟩, T.g_is_whole, F.kp⟩
theorem cs_is_whole_0_most_thing_least (T : Txt K mg) : CallOk P w K mg base CX0 1 "is_whole" 0 ["most", "thing", "least"] (sp_is_whole K) (fun vs zs => pick .non [1, 2, 0] (vs ++ (zs ++ [.int 1000000]))) := by
  obtain ⟨fd, F, G⟩ := ok_is_whole (P := P) (w := w) (base := base) T
  obtain ⟨g, kb⟩ := kb1 (ps := ["thing", "least", "most"]) F (by simp) 0 ["most", "thing", "least"] [1, 2, 0] fun T kV doc pm an cdv ct us ws its h1 h2 h3 => match us, ws, its, h1, h2, h3 with | [], [_, _, _], [_], _, _, _ => ⟨_, rfl, rfl⟩
  exact ⟨⟨fd, _, g, G, kb⟩, T.g_is_whole, F.kp⟩
theorem cs_is_whole_3 (T : Txt K mg) : CallOk P w K mg base CX0 1 "is_whole" 3 [] (sp_is_whole K) (fun vs zs => pick .non [0, 1, 2] (vs ++ (zs ++ [.int 1000000]))) := by
  obtain ⟨fd, F, G⟩ := ok_is_whole (P := P) (w := w) (base := base) T
  obtain ⟨g, kb⟩ := kb1 (ps := ["thing", "least", "most"]) F (by simp) 3 [] [0, 1, 2] fun T kV doc pm an cdv ct us ws its h1 h2 h3 => match us, ws, its, h1, h2, h3 with | [_, _, _], [], [_], _, _, _ => ⟨_, rfl, rfl⟩
  exact ⟨⟨fd, _, g, G, kb⟩, T.g_is_whole, F.kp⟩
theorem sc_is_name : FnScope ["thing", "sign"] ["thing"] (defScope (topS 7)) := ⟨rfl, rfl, rfl, by decide +kernel, rfl, by decide +kernel, by decide +kernel⟩
theorem ok_is_name (T : Txt K mg) : ∃ fd, FnP K "is_name" (topS 7) [] (He.ga K "is_name") fd ∧ FnG P w K mg base CX0 1 (He.ga K "is_name") fd ["thing"] (sp_is_name K) := by
  obtain ⟨fd, F⟩ := T.d_is_name
  refine ⟨fd, F, fnG_of (sp := sp_is_name K) F sc_is_name (fun vs H Q E h => h.1) fun cdv A outer s H vs Q E hr hg h => ?_⟩
  have hu := hu_of hr
  have nd := sc_is_name.nd
  exact ⟨t_is_name K, PSs.nox ((pss_cons (ps_if (PW.pt (pw_or (pt_not (pt_tr (pe_callB call_isi (by rfl) T.z_isinstance (by decide +kernel) (pa_cons (pv 0) (pa_cons (pe_bltn (v := .ty "str") (by rfl) T.z_str (by decide +kernel) rfl) pa_nil))))) (pw_or (pt_not (pt_chain op_le op_le pe_int (pe_callB cl_len (by rfl) T.z_len PySem.boot_len (pa_cons (pv 0) pa_nil)) (pe_gI T.c_MOST_LETTERS))) (pw_or1 (pt_cmpR op_inA (pv 0) (pe_gR T.g_BARRED_WORDS) rfl))))) (pss_one (ps_ret pe_bl)) pss_nil)
    (pss_one (ps_ret (pe_callB (cr_all rfl) (by rfl) T.z_all (by decide +kernel) (pa_cons (pe_lc (own := [("sign", 1)]) rfl nd (pi_any (pv 0)) (blkOk_by (by first | decide +kernel | kernel_rfl)) (fun _ _ _ _ _ => (pg_name (i := 1) nd rfl (Or.inl rfl))) (fun _ _ _ _ _ => pts_nil) (fun _ _ _ _ _ => (pe_cmpR op_inA (pv 1) (pe_gS T.c_LETTERS) rfl))) pa_nil)))))), rd_is_name T.k_BARRED_WORDS vs H Q E h⟩
theorem cs_is_name_1 (T : Txt K mg) : CallOk P w K mg base CX0 1 "is_name" 1 [] (sp_is_name K) (fun vs zs => pick .non [0] (vs ++ zs)) := by
  obtain ⟨fd, F, G⟩ := ok_is_name (P := P) (w := w) (base := base) T
  obtain ⟨g, kb⟩ := kb0 (ps := ["thing"]) F 1 [] [0] fun kV doc pm an cdv ct us ws h1 h2 => match us, ws, h1, h2 with | [_], [], _, _ => rfl
  exact ⟨⟨fd, _, g, G, kb⟩, T.g_is_name, F.kp⟩
theorem cs_is_name_0_thing (T : Txt K mg) : CallOk P w K mg base CX0 1 "is_name" 0 ["thing"] (sp_is_name K) (fun vs zs => pick .non [0] (vs ++ zs)) := by
  obtain ⟨fd, F, G⟩ := ok_is_name (P := P) (w := w) (base := base) T
  obtain ⟨g, kb⟩ := kb0 (ps := ["thing"]) F 0 ["thing"] [0] fun kV doc pm an cdv ct us ws h1 h2 => match us, ws, h1, h2 with | [], [_], _, _ => rfl
  exact ⟨⟨fd, _, g, G, kb⟩, T.g_is_name, F.kp⟩
theorem sc_number_of : FnScope ["word", "sign"] ["word"] (defScope (topS 8)) := ⟨rfl, rfl, rfl, by decide +kernel, rfl, by decide +kernel, by decide +kernel⟩
theorem ok_number_of (T : Txt K mg) : ∃ fd, FnP K "number_of" (topS 8) [] (He.ga K "number_of") fd ∧ FnG P w K mg base CX0 1 (He.ga K "number_of") fd ["word"] (sp_number_of K) := by
  obtain ⟨fd, F⟩ := T.d_number_of
  refine ⟨fd, F, fnG_of (sp := sp_number_of K) F sc_number_of (fun vs H Q E h => h.1) fun cdv A outer s H vs Q E hr hg h => ?_⟩
  have hu := hu_of hr
  have nd := sc_number_of.nd
  exact ⟨t_number_of K, PSs.nox ((pss_cons (ps_if (PW.pt (pw_or (pt_not (pt_tr (pe_callB call_isi (by rfl) T.z_isinstance (by decide +kernel) (pa_cons (pv 0) (pa_cons (pe_bltn (v := .ty "str") (by rfl) T.z_str (by decide +kernel) rfl) pa_nil))))) (pw_or1 (pt_not (pt_chain op_le op_le pe_int (pe_callB cl_len (by rfl) T.z_len PySem.boot_len (pa_cons (pv 0) pa_nil)) (pe_gI T.c_MOST_FIGURES)))))) (pss_one (ps_ret pe_non)) pss_nil)
    (pss_cons (ps_if (PW.pt (pw_or (pt_not (pt_tr (pe_callB (cr_all rfl) (by rfl) T.z_all (by decide +kernel) (pa_cons (pe_lc (own := [("sign", 1)]) rfl nd (pi_any (pv 0)) (blkOk_by (by first | decide +kernel | kernel_rfl)) (fun _ _ _ _ _ => (pg_name (i := 1) nd rfl (Or.inl rfl))) (fun _ _ _ _ _ => pts_nil) (fun _ _ _ _ _ => (pe_cmpR op_inA (pv 1) (pe_gS T.c_FIGURES) rfl))) pa_nil)))) (pw_or1 (PW.pt (pw_and (pt_cmpR (op_eqA hr) (pe_ix ix_seq (pv 0) pe_int (fun _ _ => rfl)) pe_str (nobehind _ (by decide) (by decide))) (pw_and1 (pt_cmpR (op_neA hr) (pv 0) pe_str (nobehind _ (by decide) (by decide))))))))) (pss_one (ps_ret pe_non)) pss_nil)
    (pss_one (ps_ret (pe_callTy cl_intS (by rfl) T.z_int (by decide +kernel) (pa_cons (pv 0) pa_nil))))))), rd_number_of vs H Q E h⟩
theorem cs_number_of_1 (T : Txt K mg) : CallOk P w K mg base CX0 1 "number_of" 1 [] (sp_number_of K) (fun vs zs => pick .non [0] (vs ++ zs)) := by
  obtain ⟨fd, F, G⟩ := ok_number_of (P := P) (w := w) (base := base) T
  obtain ⟨g, kb⟩ := kb0 (ps := ["word"]) F 1 [] [0] fun kV doc pm an cdv ct us ws h1 h2 => match us, ws, h1, h2 with | [_], [], _, _ => rfl
  exact ⟨⟨fd, _, g, G, kb⟩, T.g_number_of, F.kp⟩
theorem cs_number_of_0_word (T : Txt K mg) : CallOk P w K mg base CX0 1 "number_of" 0 ["word"] (sp_number_of K) (fun vs zs => pick .non [0] (vs ++ zs)) := by
  obtain ⟨fd, F, G⟩ := ok_number_of (P := P) (w := w) (base := base) T
  obtain ⟨g, kb⟩ := kb0 (ps := ["word"]) F 0 ["word"] [0] fun kV doc pm an cdv ct us ws h1 h2 => match us, ws, h1, h2 with | [], [_], _, _ => rfl
  exact ⟨⟨fd, _, g, G, kb⟩, T.g_number_of, F.kp⟩
theorem sc_words_of : FnScope ["row", "found"] ["row"] (defScope (topS 9)) := ⟨rfl, rfl, rfl, by decide +kernel, rfl, by decide +kernel, by decide +kernel⟩
theorem ok_words_of (T : Txt K mg) : ∃ fd, FnP K "words_of" (topS 9) [] (He.ga K "words_of") fd ∧ FnG P w K mg base CX0 1 (He.ga K "words_of") fd ["row"] (sp_words_of K) := by
  obtain ⟨fd, F⟩ := T.d_words_of
  refine ⟨fd, F, fnG_of (sp := sp_words_of K) F sc_words_of (fun vs H Q E h => h.1) fun cdv A outer s H vs Q E hr hg h => ?_⟩
  have hu := hu_of hr
  have nd := sc_words_of.nd
  exact ⟨t_words_of K, PSs.nox ((pss_cons (ps_if (pt_not (pt_tr (pe_callB call_isi (by rfl) T.z_isinstance (by decide +kernel) (pa_cons (pv 0) (pa_cons (pe_bltn (v := .ty "str") (by rfl) T.z_str (by decide +kernel) rfl) pa_nil))))) (pss_one (ps_ret pe_non)) pss_nil)
    (pss_cons (ps_set (i := 1) nd rfl (Or.inl rfl) (pe_split (pv 0) pe_str))
    (pss_one (ps_ret (pe_ifExp (pt_cmpR op_inA pe_str (pv 1) rfl) pe_non (pv 1))))))), rd_words_of vs H Q E h⟩
theorem cs_words_of_1 (T : Txt K mg) : CallOk P w K mg base CX0 1 "words_of" 1 [] (sp_words_of K) (fun vs zs => pick .non [0] (vs ++ zs)) := by
  obtain ⟨fd, F, G⟩ := ok_words_of (P := P) (w := w) (base := base) T
  obtain ⟨g, kb⟩ := kb0 (ps := ["row"]) F 1 [] [0] fun kV doc pm an cdv ct us ws h1 h2 => match us, ws, h1, h2 with | [_], [], _, _ => rfl
  exact ⟨⟨fd, _, g, G, kb⟩, T.g_words_of, F.kp⟩
theorem cs_words_of_0_row (T : Txt K mg) : CallOk P w K mg base CX0 1 "words_of" 0 ["row"] (sp_words_of K) (fun vs zs => pick .non [0] (vs ++ zs)) := by
  obtain ⟨fd, F, G⟩ := ok_words_of (P := P) (w := w) (base := base) T
  obtain ⟨g, kb⟩ := kb0 (ps := ["row"]) F 0 ["row"] [0] fun kV doc pm an cdv ct us ws h1 h2 => match us, ws, h1, h2 with | [], [_], _, _ => rfl
  exact ⟨⟨fd, _, g, G, kb⟩, T.g_words_of, F.kp⟩
theorem sc_law_mixed : FnScope ["cell", "k", "turned"] ["cell", "k"] (defScope (topS 11)) := ⟨rfl, rfl, rfl, by decide +kernel, rfl, by decide +kernel, by decide +kernel⟩
theorem ok_law_mixed (T : Txt K mg) : ∃ fd, FnP K "_law_mixed" (topS 11) [] (He.ga K "_law_mixed") fd ∧ FnG P w K mg base CX0 1 (He.ga K "_law_mixed") fd ["cell", "k"] (sp_law_mixed K) := by
  obtain ⟨fd, F⟩ := T.d_law_mixed
  refine ⟨fd, F, fnG_of (sp := sp_law_mixed K) F sc_law_mixed (fun vs H Q E h => h.1) fun cdv A outer s H vs Q E hr hg h => ?_⟩
  have hu := hu_of hr
  have nd := sc_law_mixed.nd
  exact ⟨t_law_mixed K, PSs.nox ((pss_cons (ps_set (i := 2) nd rfl (Or.inl rfl) (pe_op op_addA (pe_op op_addA (pe_op op_mod (pe_op op_mulA (pe_op op_mulA (pv 0) (pe_op op_addA pe_int (pe_op op_mulA pe_int (pv 1)))) pe_int) pe_int) (pe_op op_mulA (pe_op op_mulA pe_int (pv 1)) (pv 1))) (pe_op op_mulA pe_int (pv 1))))
    (pss_one (ps_ret (pe_op op_fdiv (pe_op op_mod (pe_op op_mulA (pv 2) pe_int) pe_int) pe_int))))), rd_law_mixed vs H Q E h⟩
theorem cs_law_mixed_2 (T : Txt K mg) : CallOk P w K mg base CX0 1 "_law_mixed" 2 [] (sp_law_mixed K) (fun vs zs => pick .non [0, 1] (vs ++ zs)) := by
  obtain ⟨fd, F, G⟩ := ok_law_mixed (P := P) (w := w) (base := base) T
  obtain ⟨g, kb⟩ := kb0 (ps := ["cell", "k"]) F 2 [] [0, 1] fun kV doc pm an cdv ct us ws h1 h2 => match us, ws, h1, h2 with | [_, _], [], _, _ => rfl
  exact ⟨⟨fd, _, g, G, kb⟩, T.g_law_mixed, F.kp⟩
theorem sc_law_folded : FnScope ["script", "found", "k", "cell"] ["script"] (defScope (topS 12)) := ⟨rfl, rfl, rfl, by decide +kernel, rfl, by decide +kernel, by decide +kernel⟩
theorem ok_law_folded (T : Txt K mg) : ∃ fd, FnP K "_law_folded" (topS 12) [] (He.ga K "_law_folded") fd ∧ FnG P w K mg base CX0 1 (He.ga K "_law_folded") fd ["script"] (sp_law_folded K) := by
  obtain ⟨fd, F⟩ := T.d_law_folded
  refine ⟨fd, F, fnG_of (sp := sp_law_folded K) F sc_law_folded (fun vs H Q E h => h.1) fun cdv A outer s H vs Q E hr hg h => ?_⟩
  have hu := hu_of hr
  have nd := sc_law_folded.nd
  exact ⟨t_law_folded K, PSs.nox ((pss_cons (ps_setLc (i := 1) (own := [("k", 2)]) rfl nd rfl rfl (sw_true rfl rfl rfl (by decide +kernel)) (pi_range1 (by rfl) T.z_range (pa_cons pe_int pa_nil)) (blkOk_by (by first | decide +kernel | kernel_rfl)) (fun _ _ _ _ _ => (pg_name (i := 2) nd rfl (Or.inl rfl))) (fun _ _ _ _ _ => pts_nil) (fun _ _ _ _ _ => (pe_op op_addA pe_int (pv 2))))
    (pss_cons (ps_for PassesOwn.never rfl (pi_enum (by rfl) T.z_enumerate (pa_cons (pv 0) pa_nil)) (pg_tup rfl (pgs_cons (pg_name (i := 2) nd rfl (Or.inl rfl)) (pgs_cons (pg_name (i := 3) nd rfl (Or.inl rfl)) pgs_nil)))
    (pss_one (ps_asg (pe_op op_mod (pe_op op_addA (pe_op op_mulA (pe_ix ix_seq (pv 1) (pe_op op_mod (pv 2) pe_int) (fun _ _ => rfl)) pe_int) (pv 3)) pe_int) (pg_sub (pv 1) (pe_op op_mod (pv 2) pe_int) set_list))))
    (pss_cons (ps_for PassesOwn.never rfl (pi_range2 (by rfl) T.z_range (pa_cons pe_int (pa_cons pe_int pa_nil))) (pg_name (i := 2) nd rfl (Or.inl rfl))
    (pss_one (ps_asg (pe_op op_mod (pe_op op_addA (pe_ix ix_seq (pv 1) (pv 2) (fun _ _ => rfl)) (pe_op op_mulA (pe_ix ix_seq (pv 1) (pe_op op_sub (pv 2) pe_int) (fun _ _ => rfl)) pe_int)) pe_int) (pg_sub (pv 1) (pv 2) set_list))))
    (pss_one (ps_ret (pv 1))))))), rd_law_folded vs H Q E h⟩
theorem cs_law_folded_1 (T : Txt K mg) : CallOk P w K mg base CX0 1 "_law_folded" 1 [] (sp_law_folded K) (fun vs zs => pick .non [0] (vs ++ zs)) := by
  obtain ⟨fd, F, G⟩ := ok_law_folded (P := P) (w := w) (base := base) T
  obtain ⟨g, kb⟩ := kb0 (ps := ["script"]) F 1 [] [0] fun kV doc pm an cdv ct us ws h1 h2 => match us, ws, h1, h2 with | [_], [], _, _ => rfl
  exact ⟨⟨fd, _, g, G, kb⟩, T.g_law_folded, F.kp⟩
theorem sc_law_whole : FnScope ["odd", "low", "high"] ["odd", "low", "high"] (defScope (topS 16)) := ⟨rfl, rfl, rfl, by decide +kernel, rfl, by decide +kernel, by decide +kernel⟩
theorem ok_law_whole (T : Txt K mg) : ∃ fd, FnP K "_law_whole" (topS 16) [] (He.ga K "_law_whole") fd ∧ FnG P w K mg base CX0 1 (He.ga K "_law_whole") fd ["odd", "low", "high"] (sp_law_whole K) := by
  obtain ⟨fd, F⟩ := T.d_law_whole
  refine ⟨fd, F, fnG_of (sp := sp_law_whole K) F sc_law_whole (fun vs H Q E h => h.1) fun cdv A outer s H vs Q E hr hg h => ?_⟩
  have hu := hu_of hr
  have nd := sc_law_whole.nd
  exact ⟨t_law_whole K, PSs.nox ((pss_one (ps_ret (pe_and (pe_callB call_isi (by rfl) T.z_isinstance (by decide +kernel) (pa_cons (pv 0) (pa_cons (pe_bltn (v := .ty "int") (by rfl) T.z_int (by decide +kernel) rfl) pa_nil))) (pe_and (pe_not (pe_callB call_isi (by rfl) T.z_isinstance (by decide +kernel) (pa_cons (pv 0) (pa_cons (pe_bltn (v := .ty "bool") (by rfl) T.z_bool (by decide +kernel) rfl) pa_nil)))) (pe_one (pe_chain op_le op_le (pv 1) (pv 0) (pv 2)))))))), rd_law_whole vs H Q E h⟩
theorem cs_law_whole_3 (T : Txt K mg) : CallOk P w K mg base CX0 1 "_law_whole" 3 [] (sp_law_whole K) (fun vs zs => pick .non [0, 1, 2] (vs ++ zs)) := by
  obtain ⟨fd, F, G⟩ := ok_law_whole (P := P) (w := w) (base := base) T
  obtain ⟨g, kb⟩ := kb0 (ps := ["odd", "low", "high"]) F 3 [] [0, 1, 2] fun kV doc pm an cdv ct us ws h1 h2 => match us, ws, h1, h2 with | [_, _, _], [], _, _ => rfl
  exact ⟨⟨fd, _, g, G, kb⟩, T.g_law_whole, F.kp⟩
theorem sc_law_is_name : FnScope ["odd", "small", "banned", "sign"] ["odd"] (defScope (topS 17)) := ⟨rfl, rfl, rfl, by decide +kernel, rfl, by decide +kernel, by decide +kernel⟩
theorem ok_law_is_name (T : Txt K mg) : ∃ fd, FnP K "_law_is_name" (topS 17) [] (He.ga K "_law_is_name") fd ∧ FnG P w K mg base CX0 1 (He.ga K "_law_is_name") fd ["odd"] (sp_law_is_name K) := by
  obtain ⟨fd, F⟩ := T.d_law_is_name
  refine ⟨fd, F, fnG_of (sp := sp_law_is_name K) F sc_law_is_name (fun vs H Q E h => h.1) fun cdv A outer s H vs Q E hr hg h => ?_⟩
  have hu := hu_of hr
  have nd := sc_law_is_name.nd
  exact ⟨t_law_is_name K, PSs.nox ((pss_cons (ps_set (i := 1) nd rfl (Or.inr rfl) pe_str)
    (pss_cons (ps_set (i := 2) nd rfl (Or.inl rfl) (pe_lst (pa_cons pe_str (pa_cons pe_str (pa_cons pe_str (pa_cons pe_str (pa_cons pe_str (pa_cons pe_str (pa_cons pe_str (pa_cons pe_str (pa_cons pe_str (pa_cons pe_str pa_nil))))))))))))
    (pss_cons (ps_if (PW.pt (pw_or (pt_not (pt_tr (pe_callB call_isi (by rfl) T.z_isinstance (by decide +kernel) (pa_cons (pv 0) (pa_cons (pe_bltn (v := .ty "str") (by rfl) T.z_str (by decide +kernel) rfl) pa_nil))))) (pw_or (pt_not (pt_chain op_le op_le pe_int (pe_callB cl_len (by rfl) T.z_len PySem.boot_len (pa_cons (pv 0) pa_nil)) pe_int)) (pw_or1 (pt_cmpR op_inA (pv 0) (pv 2) rfl))))) (pss_one (ps_ret pe_bl)) pss_nil)
    (pss_one (ps_ret (pe_cmpR (op_eqA hr) (pe_lc (own := [("sign", 3)]) rfl nd (pi_any (pv 0)) (blkOk_by (by first | decide +kernel | kernel_rfl)) (fun _ _ _ _ _ => (pg_name (i := 3) nd rfl (Or.inl rfl))) (fun _ _ _ _ _ => (pts_one (pt_cmpR op_notInA (pv 3) (pv 1) rfl))) (fun _ _ _ _ _ => (pv 3))) (pe_lst pa_nil) (nobehind _ (by decide) (by decide))))))))), rd_law_is_name vs H Q E h⟩
theorem cs_law_is_name_1 (T : Txt K mg) : CallOk P w K mg base CX0 1 "_law_is_name" 1 [] (sp_law_is_name K) (fun vs zs => pick .non [0] (vs ++ zs)) := by
  obtain ⟨fd, F, G⟩ := ok_law_is_name (P := P) (w := w) (base := base) T
  obtain ⟨g, kb⟩ := kb0 (ps := ["odd"]) F 1 [] [0] fun kV doc pm an cdv ct us ws h1 h2 => match us, ws, h1, h2 with | [_], [], _, _ => rfl
  exact ⟨⟨fd, _, g, G, kb⟩, T.g_law_is_name, F.kp⟩
theorem sc_law_number : FnScope ["text", "found", "sign"] ["text"] (defScope (topS 18)) := ⟨rfl, rfl, rfl, by decide +kernel, rfl, by decide +kernel, by decide +kernel⟩
theorem ok_law_number (T : Txt K mg) : ∃ fd, FnP K "_law_number" (topS 18) [] (He.ga K "_law_number") fd ∧ FnG P w K mg base CX0 1 (He.ga K "_law_number") fd ["text"] (sp_law_number K) := by
  obtain ⟨fd, F⟩ := T.d_law_number
  refine ⟨fd, F, fnG_of (sp := sp_law_number K) F sc_law_number (fun vs H Q E h => h.1) fun cdv A outer s H vs Q E hr hg h => ?_⟩
  have hu := hu_of hr
  have nd := sc_law_number.nd
  exact ⟨t_law_number K, PSs.nox ((pss_cons (ps_if (PW.pt (pw_or (pt_not (pt_tr (pe_callB call_isi (by rfl) T.z_isinstance (by decide +kernel) (pa_cons (pv 0) (pa_cons (pe_bltn (v := .ty "str") (by rfl) T.z_str (by decide +kernel) rfl) pa_nil))))) (pw_or1 (pt_not (pt_chain op_le op_le pe_int (pe_callB cl_len (by rfl) T.z_len PySem.boot_len (pa_cons (pv 0) pa_nil)) pe_int))))) (pss_one (ps_ret pe_non)) pss_nil)
    (pss_cons (ps_if (PW.pt (pw_or (pt_cmpR (op_neA hr) (pe_lc (own := [("sign", 2)]) rfl nd (pi_any (pv 0)) (blkOk_by (by first | decide +kernel | kernel_rfl)) (fun _ _ _ _ _ => (pg_name (i := 2) nd rfl (Or.inl rfl))) (fun _ _ _ _ _ => (pts_one (pt_cmpR op_notInA (pv 2) pe_str rfl))) (fun _ _ _ _ _ => (pv 2))) (pe_lst pa_nil) (nobehind _ (by decide) (by decide))) (pw_or1 (PW.pt (pw_and (pt_cmpR (op_eqA hr) (pe_ix ix_seq (pv 0) pe_int (fun _ _ => rfl)) pe_str (nobehind _ (by decide) (by decide))) (pw_and1 (pt_cmpR (op_neA hr) (pv 0) pe_str (nobehind _ (by decide) (by decide))))))))) (pss_one (ps_ret pe_non)) pss_nil)
    (pss_cons (ps_set (i := 1) nd rfl (Or.inl rfl) pe_int)
    (pss_cons (ps_for PassesOwn.never rfl (pi_any (pv 0)) (pg_name (i := 2) nd rfl (Or.inl rfl))
    (pss_one (ps_set (i := 1) nd rfl (Or.inl rfl) (pe_op op_addA (pe_op op_mulA pe_int (pv 1)) (pe_bm PySem.F.plainAttrs_str PySem.F.slot_str_index PySem.F.type_str_index mt_indexS pe_str (pa_cons (pv 2) pa_nil))))))
    (pss_one (ps_ret (pv 1)))))))), rd_law_number vs H Q E h⟩
theorem cs_law_number_1 (T : Txt K mg) : CallOk P w K mg base CX0 1 "_law_number" 1 [] (sp_law_number K) (fun vs zs => pick .non [0] (vs ++ zs)) := by
  obtain ⟨fd, F, G⟩ := ok_law_number (P := P) (w := w) (base := base) T
  obtain ⟨g, kb⟩ := kb0 (ps := ["text"]) F 1 [] [0] fun kV doc pm an cdv ct us ws h1 h2 => match us, ws, h1, h2 with | [_], [], _, _ => rfl
  exact ⟨⟨fd, _, g, G, kb⟩, T.g_law_number, F.kp⟩
theorem sc_law_parted : FnScope ["text", "found", "bit", "sign"] ["text"] (defScope (topS 19)) := ⟨rfl, rfl, rfl, by decide +kernel, rfl, by decide +kernel, by decide +kernel⟩
theorem ok_law_parted (T : Txt K mg) : ∃ fd, FnP K "_law_parted" (topS 19) [] (He.ga K "_law_parted") fd ∧ FnG P w K mg base CX0 1 (He.ga K "_law_parted") fd ["text"] (sp_law_parted K) := by
  obtain ⟨fd, F⟩ := T.d_law_parted
  refine ⟨fd, F, fnG_of (sp := sp_law_parted K) F sc_law_parted (fun vs H Q E h => h.1) fun cdv A outer s H vs Q E hr hg h => ?_⟩
  have hu := hu_of hr
  have nd := sc_law_parted.nd
  exact ⟨t_law_parted K, PSs.nox ((pss_cons (ps_if (pt_not (pt_tr (pe_callB call_isi (by rfl) T.z_isinstance (by decide +kernel) (pa_cons (pv 0) (pa_cons (pe_bltn (v := .ty "str") (by rfl) T.z_str (by decide +kernel) rfl) pa_nil))))) (pss_one (ps_ret pe_non)) pss_nil)
    (pss_cons (ps_par rfl nd (i := 1) (j := 2) rfl rfl (by decide) rfl rfl (pa_cons (pe_lst pa_nil) (pa_cons pe_str pa_nil)) (by rfl))
    (pss_cons (ps_for PassesOwn.never rfl (pi_any (pe_op op_addA (pv 0) pe_str)) (pg_name (i := 3) nd rfl (Or.inl rfl))
    (pss_cons (ps_if (pt_cmpR (op_eqA hr) (pv 3) pe_str (nobehind _ (by decide) (by decide))) (pss_one (ps_expr (pe_bm PySem.F.plainAttrs_list PySem.F.slot_list_append PySem.F.type_list_append mt_append (pv 1) (pa_cons (pv 2) pa_nil)))) pss_nil)
    (pss_one (ps_set (i := 2) nd rfl (Or.inl rfl) (pe_ifExp (pt_cmpR (op_eqA hr) (pv 3) pe_str (nobehind _ (by decide) (by decide))) pe_str (pe_op op_addA (pv 2) (pv 3)))))))
    (pss_one (ps_ret (pe_ifExp (pt_cmpR op_inA pe_str (pv 1) rfl) pe_non (pv 1)))))))), rd_law_parted vs H Q E h⟩
theorem cs_law_parted_1 (T : Txt K mg) : CallOk P w K mg base CX0 1 "_law_parted" 1 [] (sp_law_parted K) (fun vs zs => pick .non [0] (vs ++ zs)) := by
  obtain ⟨fd, F, G⟩ := ok_law_parted (P := P) (w := w) (base := base) T
  obtain ⟨g, kb⟩ := kb0 (ps := ["text"]) F 1 [] [0] fun kV doc pm an cdv ct us ws h1 h2 => match us, ws, h1, h2 with | [_], [], _, _ => rfl
  exact ⟨⟨fd, _, g, G, kb⟩, T.g_law_parted, F.kp⟩
theorem sc_law_far : FnScope ["deep", "twice", "bout"] [] (defScope (topS 21)) := ⟨rfl, rfl, rfl, by decide +kernel, rfl, by decide +kernel, by decide +kernel⟩
theorem ok_law_far (T : Txt K mg) : ∃ fd, FnP K "_law_far" (topS 21) [] (He.ga K "_law_far") fd ∧ FnG P w K mg base CX0 1 (He.ga K "_law_far") fd [] (sp_law_far K) := by
  obtain ⟨fd, F⟩ := T.d_law_far
  refine ⟨fd, F, fnG_of (sp := sp_law_far K) F sc_law_far (fun vs H Q E h => h.1) fun cdv A outer s H vs Q E hr hg h => ?_⟩
  have hu := hu_of hr
  have nd := sc_law_far.nd
  exact ⟨t_law_far K, PSs.nox ((pss_cons (ps_asg (pe_tup (pa_cons pe_int (pa_cons (pe_tup (pa_cons pe_int (pa_cons pe_int pa_nil))) pa_nil))) (pg_tup rfl (pgs_cons (pg_name (i := 0) nd rfl (Or.inl rfl)) (pgs_cons (pg_name (i := 1) nd rfl (Or.inl rfl)) pgs_nil))))
    (pss_cons (ps_for PassesOwn.never rfl (pi_range1 (by rfl) T.z_range (pa_cons pe_int pa_nil)) (pg_name (i := 2) nd rfl (Or.inl rfl))
    (pss_one (ps_set (i := 0) nd rfl (Or.inl rfl) (pe_tup (pa_cons (pv 0) pa_nil)))))
    (pss_cons (ps_for PassesOwn.never rfl (pi_range1 (by rfl) T.z_range (pa_cons pe_int pa_nil)) (pg_name (i := 2) nd rfl (Or.inl rfl))
    (pss_one (ps_set (i := 1) nd rfl (Or.inl rfl) (pe_tup (pa_cons (pv 1) (pa_cons (pv 1) pa_nil))))))
    (pss_one (ps_ret (pe_lst (pa_cons (pv 0) (pa_cons (pv 1) (pa_cons (pe_op op_repTT (pe_tup (pa_cons pe_int pa_nil)) pe_int) (pa_cons (pe_op op_mulA pe_str pe_int) (pa_cons (pe_lst (pa_cons pe_str pa_nil)) (pa_cons pe_dnewK (pa_cons pe_non (pa_cons pe_bl (pa_cons pe_int (pa_cons (pe_op op_pow pe_int pe_int) pa_nil))))))))))))))))), rd_law_far vs H Q E h⟩
theorem cs_law_far_0 (T : Txt K mg) : CallOk P w K mg base CX0 1 "_law_far" 0 [] (sp_law_far K) (fun vs zs => pick .non [] (vs ++ zs)) := by
  obtain ⟨fd, F, G⟩ := ok_law_far (P := P) (w := w) (base := base) T
  obtain ⟨g, kb⟩ := kb0 (ps := []) F 0 [] [] fun kV doc pm an cdv ct us ws h1 h2 => match us, ws, h1, h2 with | [], [], _, _ => rfl
  exact ⟨⟨fd, _, g, G, kb⟩, T.g_law_far, F.kp⟩
theorem sc_law_draw : FnScope ["m", "many", "k", "spot", "cell"] ["m", "many"] (defScope (topS 13)) := ⟨rfl, rfl, rfl, by decide +kernel, rfl, by decide +kernel, by decide +kernel⟩
theorem ok_law_draw (T : Txt K mg) : ∃ fd, FnP K "_law_draw" (topS 13) [] (He.ga K "_law_draw") fd ∧ FnG P w K mg base CX0 2 (He.ga K "_law_draw") fd ["m", "many"] (sp_law_draw K) := by
  obtain ⟨fd, F⟩ := T.d_law_draw
  refine ⟨fd, F, fnG_of (sp := sp_law_draw K) F sc_law_draw (fun vs H Q E h => h.1) fun cdv A outer s H vs Q E hr hg h => ?_⟩
  have hu := hu_of hr
  have nd := sc_law_draw.nd
  exact ⟨t_law_draw K, PSs.nox ((pss_cons (ps_set (i := 2) nd rfl (Or.inl rfl) (pe_dget hu (pv 0) pe_str (fun _ _ => rfl)))
    (pss_cons (ps_dput hu (pv 0) pe_str (pe_op op_addA (pv 2) pe_int) rfl)
    (pss_cons (ps_if (pt_cmpR (op_neA hr) (pe_dget hu (pv 0) pe_str (fun _ _ => rfl)) (pe_lst pa_nil) (nobehind _ (by decide) (by decide))) (pss_cons (ps_set (i := 3) nd rfl (Or.inl rfl) (pe_op op_mod (pv 2) (pe_callB cl_len (by rfl) T.z_len PySem.boot_len (pa_cons (pe_dget hu (pv 0) pe_str (fun _ _ => rfl)) pa_nil))))
    (pss_cons (ps_set (i := 4) nd rfl (Or.inl rfl) (pe_ix ix_seq (pe_dget hu (pv 0) pe_str (fun _ _ => rfl)) (pv 3) (fun _ _ => rfl)))
    (pss_one (ps_if (pt_cmpR op_gt (pv 4) pe_int (nobehind _ (by decide) (by decide))) (pss_cons (ps_asg (pe_op op_fdiv (pv 4) (pv 1)) (pg_sub (pe_dget hu (pv 0) pe_str (fun _ _ => rfl)) (pv 3) set_list))
    (pss_one (ps_ret (pe_op op_mod (pv 4) (pv 1))))) pss_nil)))) pss_nil)
    (pss_one (ps_ret (pe_op op_mod (pe_ca (cs_law_mixed_2 T) hr (by decide) hg rfl pass0 (pa_cons (pe_ca (cs_law_mixed_2 T) hr (by decide) hg rfl pass0 (pa_cons (pe_op op_addA (pe_ix ix_seq (pe_dget hu (pv 0) pe_str (fun _ _ => rfl)) (pe_op op_mod (pv 2) pe_int) (fun _ _ => rfl)) (pe_op op_mulA pe_int (pe_op op_fdiv (pv 2) pe_int))) (pa_cons (pv 2) pa_nil)) pk_nil) (pa_cons (pe_op op_addA (pv 2) pe_int) pa_nil)) pk_nil) (pv 1)))))))), rd_law_draw vs H Q E h⟩
theorem cs_law_draw_2 (T : Txt K mg) : CallOk P w K mg base CX0 2 "_law_draw" 2 [] (sp_law_draw K) (fun vs zs => pick .non [0, 1] (vs ++ zs)) := by
  obtain ⟨fd, F, G⟩ := ok_law_draw (P := P) (w := w) (base := base) T
  obtain ⟨g, kb⟩ := kb0 (ps := ["m", "many"]) F 2 [] [0, 1] fun kV doc pm an cdv ct us ws h1 h2 => match us, ws, h1, h2 with | [_, _], [], _, _ => rfl
  exact ⟨⟨fd, _, g, G, kb⟩, T.g_law_draw, F.kp⟩
theorem sc_law_begun : FnScope ["script", "m", "cell"] ["script"] (defScope (topS 14)) := ⟨rfl, rfl, rfl, by decide +kernel, rfl, by decide +kernel, by decide +kernel⟩
theorem ok_law_begun (T : Txt K mg) : ∃ fd, FnP K "_law_begun" (topS 14) [] (He.ga K "_law_begun") fd ∧ FnG P w K mg base CX0 2 (He.ga K "_law_begun") fd ["script"] (sp_law_begun K) := by
  obtain ⟨fd, F⟩ := T.d_law_begun
  refine ⟨fd, F, fnG_of (sp := sp_law_begun K) F sc_law_begun (fun vs H Q E h => h.1) fun cdv A outer s H vs Q E hr hg h => ?_⟩
  have hu := hu_of hr
  have nd := sc_law_begun.nd
  exact ⟨t_law_begun K, PSs.nox ((pss_cons (ps_set (i := 1) nd rfl (Or.inl rfl) (pe_disp (pps_cons pe_str (pe_ca (cs_law_folded_1 T) hr (by decide) hg rfl pass0 (pa_cons (pv 0) pa_nil) pk_nil) (pps_cons pe_str (pe_lst pa_nil) (pps_cons pe_str pe_int pps_nil))) (by rfl) (by rfl) (fun z => by cases z) (by decide)))
    (pss_cons (ps_dput hu (pv 1) pe_str (pe_lc (own := [("cell", 2)]) rfl nd (pi_any (pv 0)) (blkOk_by (by first | decide +kernel | kernel_rfl)) (fun _ _ _ _ _ => (pg_name (i := 2) nd rfl (Or.inl rfl))) (fun _ _ _ _ _ => pts_nil) (fun _ _ _ _ _ => (pe_ifExp (pt_cmpR op_ge (pv 2) (pe_op op_pow pe_int pe_int) (nobehind _ (by decide) (by decide))) (pv 2) pe_int))) rfl)
    (pss_one (ps_ret (pv 1)))))), rd_law_begun vs H Q E h⟩
theorem cs_law_begun_1 (T : Txt K mg) : CallOk P w K mg base CX0 2 "_law_begun" 1 [] (sp_law_begun K) (fun vs zs => pick .non [0] (vs ++ zs)) := by
  obtain ⟨fd, F, G⟩ := ok_law_begun (P := P) (w := w) (base := base) T
  obtain ⟨g, kb⟩ := kb0 (ps := ["script"]) F 1 [] [0] fun kV doc pm an cdv ct us ws h1 h2 => match us, ws, h1, h2 with | [_], [], _, _ => rfl
  exact ⟨⟨fd, _, g, G, kb⟩, T.g_law_begun, F.kp⟩
theorem sc_law_right : FnScope ["odd", "due", "found"] ["odd"] (defScope (topS 22)) := ⟨rfl, rfl, rfl, by decide +kernel, rfl, by decide +kernel, by decide +kernel⟩
theorem ok_law_right (T : Txt K mg) : ∃ fd, FnP K "_law_right" (topS 22) [] (He.ga K "_law_right") fd ∧ FnG P w K mg base CX0 2 (He.ga K "_law_right") fd ["odd"] (sp_law_right K) := by
  obtain ⟨fd, F⟩ := T.d_law_right
  refine ⟨fd, F, fnG_of (sp := sp_law_right K) F sc_law_right (fun vs H Q E h => h.1) fun cdv A outer s H vs Q E hr hg h => ?_⟩
  have hu := hu_of hr
  have nd := sc_law_right.nd
  exact ⟨t_law_right K, PSs.nox ((pss_cons (ps_par rfl nd (i := 1) (j := 2) rfl rfl (by decide) rfl rfl (pa_cons (pe_lst (pa_cons (pe_ca (cs_law_is_name_1 T) hr (by decide) hg rfl pass0 (pa_cons (pv 0) pa_nil) pk_nil) (pa_cons (pe_ca (cs_law_number_1 T) hr (by decide) hg rfl pass0 (pa_cons (pv 0) pa_nil) pk_nil) (pa_cons (pe_ca (cs_law_parted_1 T) hr (by decide) hg rfl pass0 (pa_cons (pv 0) pa_nil) pk_nil) pa_nil)))) (pa_cons (pe_ca (cs_words_of_1 T) hr (by decide) hg rfl pass0 (pa_cons (pv 0) pa_nil) pk_nil) pa_nil)) (by rfl))
    (pss_cons (ps_if (pt_cmpR (op_neA hr) (pe_callB (call_repr hr hg) (by rfl) T.z_repr (by decide +kernel) (pa_cons (pe_lst (pa_cons (pe_ca (cs_is_name_1 T) hr (by decide) hg rfl pass0 (pa_cons (pv 0) pa_nil) pk_nil) (pa_cons (pe_ca (cs_number_of_1 T) hr (by decide) hg rfl pass0 (pa_cons (pv 0) pa_nil) pk_nil) (pa_cons (pv 2) pa_nil)))) pa_nil)) (pe_callB (call_repr hr hg) (by rfl) T.z_repr (by decide +kernel) (pa_cons (pv 1) pa_nil)) (nobehind _ (by decide) (by decide))) (pss_one (ps_ret pe_bl)) pss_nil)
    (pss_cons (ps_if (pt_cmpR (op_neA hr) (pe_callB (call_repr hr hg) (by rfl) T.z_repr (by decide +kernel) (pa_cons (pe_lst (pa_cons (pe_ca0 (cs_is_name_0_thing T) hr (by decide) hg rfl pass0 (pk_cons (pv 0) pk_nil)) (pa_cons (pe_ca0 (cs_number_of_0_word T) hr (by decide) hg rfl pass0 (pk_cons (pv 0) pk_nil)) (pa_cons (pe_ca0 (cs_words_of_0_row T) hr (by decide) hg rfl pass0 (pk_cons (pv 0) pk_nil)) pa_nil)))) pa_nil)) (pe_callB (call_repr hr hg) (by rfl) T.z_repr (by decide +kernel) (pa_cons (pv 1) pa_nil)) (nobehind _ (by decide) (by decide))) (pss_one (ps_ret pe_bl)) pss_nil)
    (pss_cons (ps_if (pt_cmpR op_noNo (pv 2) pe_non (nobehind _ (by decide) (by decide))) (pss_one (ps_expr (pe_bm PySem.F.plainAttrs_list PySem.F.slot_list_append PySem.F.type_list_append mt_append (pv 2) (pa_cons pe_str pa_nil)))) pss_nil)
    (pss_one (ps_ret (pe_cmpR (op_eqA hr) (pe_callB (call_repr hr hg) (by rfl) T.z_repr (by decide +kernel) (pa_cons (pe_ca (cs_words_of_1 T) hr (by decide) hg rfl pass0 (pa_cons (pv 0) pa_nil) pk_nil) pa_nil)) (pe_callB (call_repr hr hg) (by rfl) T.z_repr (by decide +kernel) (pa_cons (pe_ix ix_seq (pv 1) pe_int (fun _ _ => rfl)) pa_nil)) (nobehind _ (by decide) (by decide)))))))))), rd_law_right vs H Q E h⟩
theorem cs_law_right_1 (T : Txt K mg) : CallOk P w K mg base CX0 2 "_law_right" 1 [] (sp_law_right K) (fun vs zs => pick .non [0] (vs ++ zs)) := by
  obtain ⟨fd, F, G⟩ := ok_law_right (P := P) (w := w) (base := base) T
  obtain ⟨g, kb⟩ := kb0 (ps := ["odd"]) F 1 [] [0] fun kV doc pm an cdv ct us ws h1 h2 => match us, ws, h1, h2 with | [_], [], _, _ => rfl
  exact ⟨⟨fd, _, g, G, kb⟩, T.g_law_right, F.kp⟩
theorem sc_law_called : FnScope ["m", "many", "letters", "found", "shift", "stride", "k", "said", "j"] ["m", "many"] (defScope (topS 15)) := ⟨rfl, rfl, rfl, by decide +kernel, rfl, by decide +kernel, by decide +kernel⟩
theorem ok_law_called (T : Txt K mg) : ∃ fd, FnP K "_law_called" (topS 15) [] (He.ga K "_law_called") fd ∧ FnG P w K mg base CX0 3 (He.ga K "_law_called") fd ["m", "many"] (sp_law_called K) := by
  obtain ⟨fd, F⟩ := T.d_law_called
  refine ⟨fd, F, fnG_of (sp := sp_law_called K) F sc_law_called (fun vs H Q E h => h.1) fun cdv A outer s H vs Q E hr hg h => ?_⟩
  have hu := hu_of hr
  have nd := sc_law_called.nd
  exact ⟨t_law_called K, PSs.nox ((pss_cons (ps_par rfl nd (i := 2) (j := 3) rfl rfl (by decide) rfl rfl (pa_cons pe_str (pa_cons (pe_lst pa_nil) pa_nil)) (by rfl))
    (pss_cons (ps_set (i := 4) nd rfl (Or.inl rfl) (pe_ca (cs_law_draw_2 T) hr (by decide) hg rfl pass0 (pa_cons (pv 0) (pa_cons pe_int pa_nil)) pk_nil))
    (pss_cons (ps_set (i := 5) nd rfl (Or.inl rfl) (pe_ix ix_seq (pe_lst (pa_cons pe_int (pa_cons pe_int (pa_cons pe_int (pa_cons pe_int (pa_cons pe_int (pa_cons pe_int (pa_cons pe_int (pa_cons pe_int (pa_cons pe_int (pa_cons pe_int (pa_cons pe_int (pa_cons pe_int pa_nil))))))))))))) (pe_ca (cs_law_draw_2 T) hr (by decide) hg rfl pass0 (pa_cons (pv 0) (pa_cons pe_int pa_nil)) pk_nil) (fun _ _ => rfl)))
    (pss_cons (ps_for PassesOwn.never rfl (pi_range1 (by rfl) T.z_range (pa_cons (pv 1) pa_nil)) (pg_name (i := 6) nd rfl (Or.inl rfl))
    (pss_cons (ps_set (i := 7) nd rfl (Or.inl rfl) (pe_ix ix_seq (pv 2) (pe_op op_mod (pe_op op_addA (pv 4) (pe_op op_mulA (pv 5) (pv 6))) pe_int) (fun _ _ => rfl)))
    (pss_cons (ps_set (i := 7) nd rfl (Or.inl rfl) (pe_op op_addA (pv 7) (pe_ix ix_seq (pv 2) (pe_op op_mod (pe_op op_addA (pv 4) (pe_op op_fdiv (pv 6) pe_int)) pe_int) (fun _ _ => rfl))))
    (pss_cons (ps_for PassesOwn.never rfl (pi_range1 (by rfl) T.z_range (pa_cons (pe_ix ix_seq (pe_lst (pa_cons pe_int (pa_cons pe_int (pa_cons pe_int (pa_cons (pe_ca (cs_law_draw_2 T) hr (by decide) hg rfl pass0 (pa_cons (pv 0) (pa_cons pe_int pa_nil)) pk_nil) pa_nil))))) (pe_ca (cs_law_draw_2 T) hr (by decide) hg rfl pass0 (pa_cons (pv 0) (pa_cons pe_int pa_nil)) pk_nil) (fun _ _ => rfl)) pa_nil)) (pg_name (i := 8) nd rfl (Or.inl rfl))
    (pss_one (ps_set (i := 7) nd rfl (Or.inl rfl) (pe_op op_addA (pv 7) (pe_ix ix_seq pe_str (pe_ca (cs_law_draw_2 T) hr (by decide) hg rfl pass0 (pa_cons (pv 0) (pa_cons pe_int pa_nil)) pk_nil) (fun _ _ => rfl))))))
    (pss_cons (ps_if (pt_cmpR (op_eqA hr) (pv 7) pe_str (nobehind _ (by decide) (by decide))) (pss_one (ps_set (i := 7) nd rfl (Or.inl rfl) pe_str)) pss_nil)
    (pss_cons (ps_if (PW.pt (pw_and (pt_cmpR (op_eqA hr) (pe_op op_mod (pv 6) pe_int) pe_int (nobehind _ (by decide) (by decide))) (pw_and1 (pt_cmpR (op_eqA hr) (pe_ca (cs_law_draw_2 T) hr (by decide) hg rfl pass0 (pa_cons (pv 0) (pa_cons pe_int pa_nil)) pk_nil) pe_int (nobehind _ (by decide) (by decide)))))) (pss_one (ps_set (i := 7) nd rfl (Or.inl rfl) (pe_op op_addA (pe_slice sl_any (pe_ix ix_seq (pv 3) (pe_un un_neg pe_int) (fun _ _ => rfl)) po_none (po_some pe_int)) pe_str))) pss_nil)
    (pss_one (ps_expr (pe_bm PySem.F.plainAttrs_list PySem.F.slot_list_append PySem.F.type_list_append mt_append (pv 3) (pa_cons (pv 7) pa_nil))))))))))
    (pss_one (ps_ret (pv 3)))))))), rd_law_called vs H Q E h⟩
theorem cs_law_called_2 (T : Txt K mg) : CallOk P w K mg base CX0 3 "_law_called" 2 [] (sp_law_called K) (fun vs zs => pick .non [0, 1] (vs ++ zs)) := by
  obtain ⟨fd, F, G⟩ := ok_law_called (P := P) (w := w) (base := base) T
  obtain ⟨g, kb⟩ := kb0 (ps := ["m", "many"]) F 2 [] [0, 1] fun kV doc pm an cdv ct us ws h1 h2 => match us, ws, h1, h2 with | [_, _], [], _, _ => rfl
  exact ⟨⟨fd, _, g, G, kb⟩, T.g_law_called, F.kp⟩
theorem sc_law_signed : FnScope ["m", "bit", "signs", "sign", "spot"] ["m", "bit"] (defScope (topS 20)) := ⟨rfl, rfl, rfl, by decide +kernel, rfl, by decide +kernel, by decide +kernel⟩
theorem ok_law_signed (T : Txt K mg) : ∃ fd, FnP K "_law_signed" (topS 20) [] (He.ga K "_law_signed") fd ∧ FnG P w K mg base CX0 3 (He.ga K "_law_signed") fd ["m", "bit"] (sp_law_signed K) := by
  obtain ⟨fd, F⟩ := T.d_law_signed
  refine ⟨fd, F, fnG_of (sp := sp_law_signed K) F sc_law_signed (fun vs H Q E h => h.1) fun cdv A outer s H vs Q E hr hg h => ?_⟩
  have hu := hu_of hr
  have nd := sc_law_signed.nd
  exact ⟨t_law_signed K, PSs.nox ((pss_cons (ps_set (i := 2) nd rfl (Or.inl rfl) pe_str)
    (pss_cons (ps_set (i := 2) nd rfl (Or.inl rfl) (pe_op op_addA (pv 2) pe_str))
    (pss_cons (ps_par rfl nd (i := 3) (j := 4) rfl rfl (by decide) rfl rfl (pa_cons (pe_ix ix_seq (pv 2) (pe_ca (cs_law_draw_2 T) hr (by decide) hg rfl pass0 (pa_cons (pv 0) (pa_cons (pe_callB cl_len (by rfl) T.z_len PySem.boot_len (pa_cons (pv 2) pa_nil)) pa_nil)) pk_nil) (fun _ _ => rfl)) (pa_cons (pe_ca (cs_law_draw_2 T) hr (by decide) hg rfl pass0 (pa_cons (pv 0) (pa_cons (pe_op op_addA (pe_callB cl_len (by rfl) T.z_len PySem.boot_len (pa_cons (pv 1) pa_nil)) pe_int) pa_nil)) pk_nil) pa_nil)) (by rfl))
    (pss_one (ps_ret (pe_ix ix_seq (pe_lst (pa_cons (pe_op op_addA (pe_op op_addA (pe_slice sl_any (pv 1) po_none (po_some (pv 4))) (pv 3)) (pe_slice sl_any (pv 1) (po_some (pv 4)) po_none)) (pa_cons (pe_op op_addA (pe_op op_addA (pe_slice sl_any (pv 1) po_none (po_some (pv 4))) (pv 3)) (pe_slice sl_any (pv 1) (po_some (pe_op op_addA (pv 4) pe_int)) po_none)) (pa_cons (pe_op op_addA (pv 1) (pv 3)) (pa_cons (pv 3) pa_nil))))) (pe_ca (cs_law_draw_2 T) hr (by decide) hg rfl pass0 (pa_cons (pv 0) (pa_cons pe_int pa_nil)) pk_nil) (fun _ _ => rfl)))))))), rd_law_signed vs H Q E h⟩
theorem cs_law_signed_2 (T : Txt K mg) : CallOk P w K mg base CX0 3 "_law_signed" 2 [] (sp_law_signed K) (fun vs zs => pick .non [0, 1] (vs ++ zs)) := by
  obtain ⟨fd, F, G⟩ := ok_law_signed (P := P) (w := w) (base := base) T
  obtain ⟨g, kb⟩ := kb0 (ps := ["m", "bit"]) F 2 [] [0, 1] fun kV doc pm an cdv ct us ws h1 h2 => match us, ws, h1, h2 with | [_, _], [], _, _ => rfl
  exact ⟨⟨fd, _, g, G, kb⟩, T.g_law_signed, F.kp⟩
theorem sc_law_whole_right : FnScope ["m", "low", "high", "odd", "due", "found"] ["m"] (defScope (topS 23)) := ⟨rfl, rfl, rfl, by decide +kernel, rfl, by decide +kernel, by decide +kernel⟩
theorem ok_law_whole_right (T : Txt K mg) : ∃ fd, FnP K "_law_whole_right" (topS 23) [] (He.ga K "_law_whole_right") fd ∧ FnG P w K mg base CX0 3 (He.ga K "_law_whole_right") fd ["m"] (sp_law_whole_right K) := by
  obtain ⟨fd, F⟩ := T.d_law_whole_right
  refine ⟨fd, F, fnG_of (sp := sp_law_whole_right K) F sc_law_whole_right (fun vs H Q E h => h.1) fun cdv A outer s H vs Q E hr hg h => ?_⟩
  have hu := hu_of hr
  have nd := sc_law_whole_right.nd
  exact ⟨t_law_whole_right K, PSs.nox ((pss_cons (ps_set (i := 1) nd rfl (Or.inl rfl) (pe_op op_sub (pe_ca (cs_law_draw_2 T) hr (by decide) hg rfl pass0 (pa_cons (pv 0) (pa_cons pe_int pa_nil)) pk_nil) pe_int))
    (pss_cons (ps_set (i := 2) nd rfl (Or.inl rfl) (pe_op op_addA (pv 1) (pe_ca (cs_law_draw_2 T) hr (by decide) hg rfl pass0 (pa_cons (pv 0) (pa_cons pe_int pa_nil)) pk_nil)))
    (pss_cons (ps_for PassesOwn.never rfl (pi_any (pe_tup (pa_cons (pe_op op_sub (pv 1) pe_int) (pa_cons (pv 1) (pa_cons (pv 2) (pa_cons (pe_op op_addA (pv 2) pe_int) (pa_cons (pe_op op_pow pe_int pe_int) (pa_cons (pe_op op_addA (pe_op op_pow pe_int pe_int) pe_int) (pa_cons (pe_op op_pow pe_int pe_int) (pa_cons pe_bl (pa_cons pe_bl (pa_cons pe_non (pa_cons pe_str (pa_cons (pe_tup (pa_cons pe_int pa_nil)) (pa_cons (pe_lst (pa_cons pe_int pa_nil)) pa_nil))))))))))))))) (pg_name (i := 3) nd rfl (Or.inl rfl))
    (pss_cons (ps_set (i := 4) nd rfl (Or.inl rfl) (pe_op op_addA (pe_op op_mulA (pe_lst (pa_cons (pe_ca (cs_law_whole_3 T) hr (by decide) hg rfl pass0 (pa_cons (pv 3) (pa_cons (pv 1) (pa_cons (pv 2) pa_nil))) pk_nil) pa_nil)) pe_int) (pe_lst (pa_cons (pe_ca (cs_law_whole_3 T) hr (by decide) hg rfl pass0 (pa_cons (pv 3) (pa_cons (pv 1) (pa_cons (pe_op op_pow pe_int pe_int) pa_nil))) pk_nil) pa_nil))))
    (pss_cons (ps_set (i := 5) nd rfl (Or.inl rfl) (pe_lst (pa_cons (pe_ca (cs_is_whole_3 T) hr (by decide) hg rfl pass0 (pa_cons (pv 3) (pa_cons (pv 1) (pa_cons (pv 2) pa_nil))) pk_nil) (pa_cons (pe_ca0 (cs_is_whole_0_most_thing_least T) hr (by decide) hg rfl pass0 (pk_cons (pv 2) (pk_cons (pv 3) (pk_cons (pv 1) pk_nil)))) (pa_cons (pe_ca (cs_is_whole_2 T) hr (by decide) hg rfl pass0 (pa_cons (pv 3) (pa_cons (pv 1) pa_nil)) pk_nil) pa_nil)))))
    (pss_one (ps_if (pt_cmpR (op_neA hr) (pe_callB (call_repr hr hg) (by rfl) T.z_repr (by decide +kernel) (pa_cons (pv 5) pa_nil)) (pe_callB (call_repr hr hg) (by rfl) T.z_repr (by decide +kernel) (pa_cons (pv 4) pa_nil)) (nobehind _ (by decide) (by decide))) (pss_one (ps_ret pe_bl)) pss_nil)))))
    (pss_one (ps_ret pe_bl)))))), rd_law_whole_right vs H Q E h⟩
theorem cs_law_whole_right_1 (T : Txt K mg) : CallOk P w K mg base CX0 3 "_law_whole_right" 1 [] (sp_law_whole_right K) (fun vs zs => pick .non [0] (vs ++ zs)) := by
  obtain ⟨fd, F, G⟩ := ok_law_whole_right (P := P) (w := w) (base := base) T
  obtain ⟨g, kb⟩ := kb0 (ps := ["m"]) F 1 [] [0] fun kV doc pm an cdv ct us ws h1 h2 => match us, ws, h1, h2 with | [_], [], _, _ => rfl
  exact ⟨⟨fd, _, g, G, kb⟩, T.g_law_whole_right, F.kp⟩
theorem sc_law : FnScope ["script", "m", "some", "odd", "bout"] ["script"] (defScope (topS 24)) := ⟨rfl, rfl, rfl, by decide +kernel, rfl, by decide +kernel, by decide +kernel⟩
theorem ok_law (T : Txt K mg) : ∃ fd, FnP K "law" (topS 24) [] (He.ga K "law") fd ∧ FnG P w K mg base CX0 4 (He.ga K "law") fd ["script"] (sp_law K) := by
  obtain ⟨fd, F⟩ := T.d_law
  refine ⟨fd, F, fnG_of (sp := sp_law K) F sc_law (fun vs H Q E h => h.1) fun cdv A outer s H vs Q E hr hg h => ?_⟩
  have hu := hu_of hr
  have nd := sc_law.nd
  exact ⟨t_law K, PSs.nox ((pss_cons (ps_set (i := 1) nd rfl (Or.inr rfl) (pe_ca (cs_law_begun_1 T) hr (by decide) hg rfl pass0 (pa_cons (pv 0) pa_nil) pk_nil))
    (pss_cons (ps_set (i := 2) nd rfl (Or.inr rfl) (pe_split pe_str pe_str))
    (pss_cons (ps_set (i := 2) nd rfl (Or.inr rfl) (pe_op op_addA (pv 2) (pe_lst (pa_cons pe_str (pa_cons pe_str (pa_cons pe_str (pa_cons pe_str (pa_cons pe_str (pa_cons pe_str pa_nil)))))))))
    (pss_cons (ps_set (i := 2) nd rfl (Or.inr rfl) (pe_op op_addA (pe_op op_addA (pv 2) (pe_ca (cs_law_called_2 T) hr (by decide) hg rfl pass0 (pa_cons (pv 1) (pa_cons pe_int pa_nil)) pk_nil)) (pe_lst (pa_cons pe_str (pa_cons pe_str (pa_cons pe_str (pa_cons pe_str (pa_cons pe_str (pa_cons pe_str (pa_cons pe_str (pa_cons pe_str (pa_cons pe_str (pa_cons pe_str (pa_cons pe_str (pa_cons pe_str pa_nil)))))))))))))))
    (pss_cons (ps_set (i := 2) nd rfl (Or.inr rfl) (pe_op op_addA (pv 2) (pe_lst (pa_cons pe_str (pa_cons pe_str (pa_cons pe_str (pa_cons pe_str (pa_cons pe_str (pa_cons pe_str (pa_cons (pe_op op_mulA pe_str pe_int) (pa_cons pe_str (pa_cons pe_str (pa_cons pe_str (pa_cons pe_str (pa_cons pe_str pa_nil)))))))))))))))
    (pss_cons (ps_set (i := 2) nd rfl (Or.inr rfl) (pe_op op_addA (pv 2) (pe_lc (own := [("bout", 4)]) rfl nd (pi_range1 (by rfl) T.z_range (pa_cons pe_int pa_nil)) (blkOk_by (by first | decide +kernel | kernel_rfl)) (fun _ _ _ _ _ => (pg_name (i := 4) nd rfl (Or.inl rfl))) (fun _ _ _ _ _ => pts_nil) (fun _ _ _ _ _ => (pe_callTy cl_strI (by rfl) T.z_str (by decide +kernel) (pa_cons (pe_ca (cs_law_draw_2 T) hr (by decide) hg rfl pass0 (pa_cons (pv 1) (pa_cons (pe_op op_addA (pe_op op_pow pe_int pe_int) pe_int) pa_nil)) pk_nil) pa_nil))))))
    (pss_cons (ps_set (i := 2) nd rfl (Or.inr rfl) (pe_op op_addA (pv 2) (pe_lst (pa_cons (pe_op op_addA (pe_op op_mulA pe_str pe_int) pe_str) (pa_cons pe_str (pa_cons pe_str (pa_cons pe_str (pa_cons pe_str pa_nil))))))))
    (pss_cons (ps_set (i := 2) nd rfl (Or.inr rfl) (pe_op op_addA (pv 2) (pe_lc (own := [("bout", 4)]) rfl nd (pi_range1 (by rfl) T.z_range (pa_cons pe_int pa_nil)) (blkOk_by (by first | decide +kernel | kernel_rfl)) (fun _ _ _ _ _ => (pg_name (i := 4) nd rfl (Or.inl rfl))) (fun _ _ _ _ _ => pts_nil) (fun _ _ _ _ _ => (pe_ca (cs_law_signed_2 T) hr (by decide) hg rfl pass0 (pa_cons (pv 1) (pa_cons (pe_slice sl_any (pe_ix ix_seq (pv 2) (pe_ca (cs_law_draw_2 T) hr (by decide) hg rfl pass0 (pa_cons (pv 1) (pa_cons (pe_callB cl_len (by rfl) T.z_len PySem.boot_len (pa_cons (pv 2) pa_nil)) pa_nil)) pk_nil) (fun _ _ => rfl)) po_none (po_some pe_int)) pa_nil)) pk_nil)))))
    (pss_cons (ps_for PassesOwn.never rfl (pi_any (pe_op op_addA (pe_op op_addA (pv 2) (pe_lst (pa_cons pe_int (pa_cons pe_int (pa_cons (pe_un un_neg pe_int) (pa_cons pe_bl (pa_cons (pe_tup pa_nil) (pa_cons (pe_tup (pa_cons pe_str pa_nil)) (pa_cons (pe_disp (pps_cons pe_str pe_int pps_nil) (by rfl) (by rfl) (fun z => by cases z) (by decide)) (pa_cons (pe_lst (pa_cons pe_str pa_nil)) pa_nil)))))))))) (pe_ca0 (cs_law_far_0 T) hr (by decide) hg rfl pass0 pk_nil))) (pg_name (i := 3) nd rfl (Or.inl rfl))
    (pss_one (ps_if (pt_not (pt_tr (pe_ca (cs_law_right_1 T) hr (by decide) hg rfl pass0 (pa_cons (pv 3) pa_nil) pk_nil))) (pss_one (ps_ret pe_bl)) pss_nil)))
    (pss_one (ps_ret (pe_callB (cr_all rfl) (by rfl) T.z_all (by decide +kernel) (pa_cons (pe_lc (own := [("bout", 4)]) rfl nd (pi_range1 (by rfl) T.z_range (pa_cons pe_int pa_nil)) (blkOk_by (by first | decide +kernel | kernel_rfl)) (fun _ _ _ _ _ => (pg_name (i := 4) nd rfl (Or.inl rfl))) (fun _ _ _ _ _ => pts_nil) (fun _ _ _ _ _ => (pe_ca (cs_law_whole_right_1 T) hr (by decide) hg rfl pass0 (pa_cons (pv 1) pa_nil) pk_nil))) pa_nil)))))))))))))), rd_law vs H Q E h⟩
end
/-! ### the head -/
def dd_is_whole : He.DefD := ⟨("is_whole", none), "is_whole", "is_whole", defArgs (topS 6), defBody (topS 6), defScope (topS 6), [.int 1000000], []⟩
def dd_is_name : He.DefD := ⟨("is_name", none), "is_name", "is_name", defArgs (topS 7), defBody (topS 7), defScope (topS 7), [], []⟩
def dd_number_of : He.DefD := ⟨("number_of", none), "number_of", "number_of", defArgs (topS 8), defBody (topS 8), defScope (topS 8), [], []⟩
def dd_words_of : He.DefD := ⟨("words_of", none), "words_of", "words_of", defArgs (topS 9), defBody (topS 9), defScope (topS 9), [], []⟩
def dd_law_mixed : He.DefD := ⟨("_law_mixed", none), "_law_mixed", "_law_mixed", defArgs (topS 11), defBody (topS 11), defScope (topS 11), [], []⟩
def dd_law_folded : He.DefD := ⟨("_law_folded", none), "_law_folded", "_law_folded", defArgs (topS 12), defBody (topS 12), defScope (topS 12), [], []⟩
def dd_law_draw : He.DefD := ⟨("_law_draw", none), "_law_draw", "_law_draw", defArgs (topS 13), defBody (topS 13), defScope (topS 13), [], []⟩
def dd_law_begun : He.DefD := ⟨("_law_begun", none), "_law_begun", "_law_begun", defArgs (topS 14), defBody (topS 14), defScope (topS 14), [], []⟩
def dd_law_called : He.DefD := ⟨("_law_called", none), "_law_called", "_law_called", defArgs (topS 15), defBody (topS 15), defScope (topS 15), [], []⟩
def dd_law_whole : He.DefD := ⟨("_law_whole", none), "_law_whole", "_law_whole", defArgs (topS 16), defBody (topS 16), defScope (topS 16), [], []⟩
def dd_law_is_name : He.DefD := ⟨("_law_is_name", none), "_law_is_name", "_law_is_name", defArgs (topS 17), defBody (topS 17), defScope (topS 17), [], []⟩
def dd_law_number : He.DefD := ⟨("_law_number", none), "_law_number", "_law_number", defArgs (topS 18), defBody (topS 18), defScope (topS 18), [], []⟩
def dd_law_parted : He.DefD := ⟨("_law_parted", none), "_law_parted", "_law_parted", defArgs (topS 19), defBody (topS 19), defScope (topS 19), [], []⟩
def dd_law_signed : He.DefD := ⟨("_law_signed", none), "_law_signed", "_law_signed", defArgs (topS 20), defBody (topS 20), defScope (topS 20), [], []⟩
def dd_law_far : He.DefD := ⟨("_law_far", none), "_law_far", "_law_far", defArgs (topS 21), defBody (topS 21), defScope (topS 21), [], []⟩
def dd_law_right : He.DefD := ⟨("_law_right", none), "_law_right", "_law_right", defArgs (topS 22), defBody (topS 22), defScope (topS 22), [], []⟩
def dd_law_whole_right : He.DefD := ⟨("_law_whole_right", none), "_law_whole_right", "_law_whole_right", defArgs (topS 23), defBody (topS 23), defScope (topS 23), [], []⟩
def dd_law : He.DefD := ⟨("law", none), "law", "law", defArgs (topS 24), defBody (topS 24), defScope (topS 24), [], []⟩
def fnL : List He.DefD := [dd_is_whole, dd_is_name, dd_number_of, dd_words_of, dd_law_mixed, dd_law_folded, dd_law_draw, dd_law_begun, dd_law_called, dd_law_whole, dd_law_is_name, dd_law_number, dd_law_parted, dd_law_signed, dd_law_far, dd_law_right, dd_law_whole_right, dd_law]
def faL : List He.Fa := [.int "MOST_LETTERS" 8, .int "MOST_FIGURES" 7, .str "LETTERS" "abcdefghijklmnopqrstuvwxyz", .str "FIGURES" "0123456789", .glo "BARRED_WORDS", .free "all", .free "bool", .free "enumerate", .free "int", .free "isinstance", .free "len", .free "range", .free "repr", .free "str", .glo "is_whole", .glo "is_name", .glo "number_of", .glo "words_of", .glo "_law_mixed", .glo "_law_folded", .glo "_law_draw", .glo "_law_begun", .glo "_law_called", .glo "_law_whole", .glo "_law_is_name", .glo "_law_number", .glo "_law_parted", .glo "_law_signed", .glo "_law_far", .glo "_law_right", .glo "_law_whole_right", .glo "law"]
def bsL : List Ask := [fun K => He.tupB K "BARRED_WORDS" [.str "style", .str "job", .str "round", .str "sew", .str "glue", .str "cover", .str "letter", .str "press", .str "hand", .str "haste"]]
abbrev RR : PySem.W.OpenRow := PySem.W.OpenLaw.row PySem.Challenge.rw_bindbench_k01_words
abbrev hkL : PySem.W.Hook := hookB 4 faL fnL [] bsL
def obL (s : PySem.W.SharedT) : AlB := obsBG 4 faL fnL [] bsL (HandSHeadRun.getT s)
theorem obL_eq (s : PySem.W.SharedT) : obL s = hkL.obs s.abs := obsBG_eq (HandSHeadRun.getT_eq s)
def looseL : List Str := (["LETTERS", "FIGURES", "MOST_LETTERS", "MOST_FIGURES", "BARRED_WORDS", "is_whole", "is_name", "number_of", "words_of", "_law_mixed", "_law_folded", "_law_draw", "_law_begun", "_law_called", "_law_whole", "_law_is_name", "_law_number", "_law_parted", "_law_signed", "_law_far", "_law_right", "_law_whole_right"] : List Str)
theorem runL (w : World) : HandSHeadRun.RunEq RR (PySem.W.view RR.prog [24]) hkL obL 800 looseL w := by
  intro os
  kernel_rfl
theorem txt_of {w : World} {K : PySem.W.Frag} {h : Heap} {mg : Str → Option Value} (X : K.In h) (G : h.Ns mainGlobals mg) (c : SaysB faL fnL [] bsL w K) : Txt K mg where
  c_MOST_LETTERS := He.int_ok X G (c.d.fact 0 (f := .int "MOST_LETTERS" 8) rfl)
  c_MOST_FIGURES := He.int_ok X G (c.d.fact 1 (f := .int "MOST_FIGURES" 7) rfl)
  c_LETTERS := He.str_ok X G (c.d.fact 2 (f := .str "LETTERS" "abcdefghijklmnopqrstuvwxyz") rfl)
  c_FIGURES := He.str_ok X G (c.d.fact 3 (f := .str "FIGURES" "0123456789") rfl)
  g_BARRED_WORDS := He.glo_ok X G (c.d.fact 4 (f := .glo "BARRED_WORDS") rfl)
  z_all := He.free_ok X G (c.d.fact 5 (f := .free "all") rfl)
  z_bool := He.free_ok X G (c.d.fact 6 (f := .free "bool") rfl)
  z_enumerate := He.free_ok X G (c.d.fact 7 (f := .free "enumerate") rfl)
  z_int := He.free_ok X G (c.d.fact 8 (f := .free "int") rfl)
  z_isinstance := He.free_ok X G (c.d.fact 9 (f := .free "isinstance") rfl)
  z_len := He.free_ok X G (c.d.fact 10 (f := .free "len") rfl)
  z_range := He.free_ok X G (c.d.fact 11 (f := .free "range") rfl)
  z_repr := He.free_ok X G (c.d.fact 12 (f := .free "repr") rfl)
  z_str := He.free_ok X G (c.d.fact 13 (f := .free "str") rfl)
  g_is_whole := He.glo_ok X G (c.d.fact 14 (f := .glo "is_whole") rfl)
  g_is_name := He.glo_ok X G (c.d.fact 15 (f := .glo "is_name") rfl)
  g_number_of := He.glo_ok X G (c.d.fact 16 (f := .glo "number_of") rfl)
  g_words_of := He.glo_ok X G (c.d.fact 17 (f := .glo "words_of") rfl)
  g_law_mixed := He.glo_ok X G (c.d.fact 18 (f := .glo "_law_mixed") rfl)
  g_law_folded := He.glo_ok X G (c.d.fact 19 (f := .glo "_law_folded") rfl)
  g_law_draw := He.glo_ok X G (c.d.fact 20 (f := .glo "_law_draw") rfl)
  g_law_begun := He.glo_ok X G (c.d.fact 21 (f := .glo "_law_begun") rfl)
  g_law_called := He.glo_ok X G (c.d.fact 22 (f := .glo "_law_called") rfl)
  g_law_whole := He.glo_ok X G (c.d.fact 23 (f := .glo "_law_whole") rfl)
  g_law_is_name := He.glo_ok X G (c.d.fact 24 (f := .glo "_law_is_name") rfl)
  g_law_number := He.glo_ok X G (c.d.fact 25 (f := .glo "_law_number") rfl)
  g_law_parted := He.glo_ok X G (c.d.fact 26 (f := .glo "_law_parted") rfl)
  g_law_signed := He.glo_ok X G (c.d.fact 27 (f := .glo "_law_signed") rfl)
  g_law_far := He.glo_ok X G (c.d.fact 28 (f := .glo "_law_far") rfl)
  g_law_right := He.glo_ok X G (c.d.fact 29 (f := .glo "_law_right") rfl)
  g_law_whole_right := He.glo_ok X G (c.d.fact 30 (f := .glo "_law_whole_right") rfl)
  g_law := He.glo_ok X G (c.d.fact 31 (f := .glo "law") rfl)
  k_BARRED_WORDS := fun H => He.tupB_ok (c.ask 0 rfl) H
  d_is_whole := c.d.def_ 0 (d := dd_is_whole) rfl
  d_is_name := c.d.def_ 1 (d := dd_is_name) rfl
  d_number_of := c.d.def_ 2 (d := dd_number_of) rfl
  d_words_of := c.d.def_ 3 (d := dd_words_of) rfl
  d_law_mixed := c.d.def_ 4 (d := dd_law_mixed) rfl
  d_law_folded := c.d.def_ 5 (d := dd_law_folded) rfl
  d_law_draw := c.d.def_ 6 (d := dd_law_draw) rfl
  d_law_begun := c.d.def_ 7 (d := dd_law_begun) rfl
  d_law_called := c.d.def_ 8 (d := dd_law_called) rfl
  d_law_whole := c.d.def_ 9 (d := dd_law_whole) rfl
  d_law_is_name := c.d.def_ 10 (d := dd_law_is_name) rfl
  d_law_number := c.d.def_ 11 (d := dd_law_number) rfl
  d_law_parted := c.d.def_ 12 (d := dd_law_parted) rfl
  d_law_signed := c.d.def_ 13 (d := dd_law_signed) rfl
  d_law_far := c.d.def_ 14 (d := dd_law_far) rfl
  d_law_right := c.d.def_ 15 (d := dd_law_right) rfl
  d_law_whole_right := c.d.def_ 16 (d := dd_law_whole_right) rfl
  d_law := c.d.def_ 17 (d := dd_law) rfl
end Bz
open PySem PySem.W PySem.Calls PyProof.Rows
theorem PySem.Challenge.cw_bindbench_k01_words_holds : PySem.Challenge.rw_bindbench_k01_words.Holds := by
  w_on; o_law
  refine HandSHeadRun.head_any (r := Bz.RR) (q := view Bz.RR.prog [24]) (H := Bz.hkL) (ob := Bz.obL) (M := 800) (loose := Bz.looseL) (d := HandSHeadRun.topDef Bz.RR.prog 24) (kwd := []) Bz.obL_eq
    (by kernel_rfl) (fun s => by kernel_rfl) Bz.runL (by kernel_rfl) (by kernel_rfl) (by kernel_rfl) (by rfl) (by first | assumption | decide +kernel) (by decide +kernel) ⟨rfl, rfl, rfl, rfl, rfl, by decide +kernel⟩ ?hw ?hc
  case hw => w_witness2
  case hc =>
    refine Bz.walk_ofG (l := PySem.Challenge.rw_bindbench_k01_words) (n := 63) (k := 4) (x := "script") (CX := L2.CX0) rfl (by decide) (by kernel_rfl) ⟨rfl, by decide, by decide⟩ ?F (fun _ _ _ _ z => z)
    intro w mg fa h Y G hmg0
    obtain ⟨K, KX, c⟩ := Y
    have T := Bz.txt_of KX G c
    have hmg : mg ("law" : PySem.Str) = some (.ref fa) := by
      have e : (HandSHeadRun.topDef Bz.RR.prog 24).name = ("law" : PySem.Str) := by kernel_rfl
      rw [← e]
      exact hmg0
    have e := hmg.symm.trans T.g_law
    cases e
    obtain ⟨fd0, F0⟩ := T.d_law
    refine ⟨K, fd0, Bz.sp_law K, KX, fun s u => L2.FunD.bindsA (ps := ["script"]) F0 (fun _ _ _ _ _ _ us hl => match us, hl with | [_], _ => rfl) s [u] rfl, Bz.law_asked, fun base _ _ => ?_⟩
    obtain ⟨fd, F, g⟩ := Bz.ok_law (P := (PySem.Challenge.rw_bindbench_k01_words).prog) (w := w) (base := base) T
    obtain ⟨_, _, _, _, _, _, _, _, _, _, e1, l1, _⟩ := F0.ex
    obtain ⟨_, _, _, _, _, _, _, _, _, _, e2, l2, _⟩ := F.ex
    have e3 := l1.symm.trans l2
    cases e3
    exact g
