import PyProof.Rows.All
import Wide.All
import OpenK.AllK
import Wide.FinOn
import PyProof.ReprNest
import HandS.ForMost
import HandS.IsInst
import HandS.Style
import HandS.Walk
import HandS.WideBits
import HandS.NoneIn
import HandS.RaiseMore
import KE.GoesZip
import KE.GoesMore
import KE.GoesEnum
import KE.GoesEnumKw
import HandS.ForDict
import HandS.More
import HandS.ExcInit
import HandS.Conv
import HandS.WordsExc
import HandS.ExcField
import HandS.ExcOwn
import PyProof.InstEq
import PyProof.NeKinds
import HandS.Strs
import HandS.ExcCtx
import HandS.SuiteRaise
import HandS.RaiseFrom
import HandS.ExcInitHot
import HandS.HotCalls
import HandS.TryElse
import PyProof.RulesAs
import HandS.ListItems
import HandS.SortRule
import HandS.DeepEq
import PyProof.Rows.SortWalk
import KE.SortCalls
import HandS.Set
import HandS.DictEq
import HandS.Finally
import KE.KDictCopyH
import HandS.TupAny
import HandS.TupMul
import PySem.Challenge.RW_halfmade_k83_whole_lots_walked
set_option Elab.async false
set_option linter.all false
set_option maxRecDepth 100000
set_option maxHeartbeats 4000000
/-! HLa: promises of defs that are called where no repr is under way (guards known), and repr of plain data. -/
namespace HL
open PySem PySem.Spec PyProof.Rows L2

/-- a def that keeps its promise where no built-in of the guarded kind is under way -/
structure FnG (P : Program) (w : World) (K : PySem.W.Frag) (mg : Str → Option Value) (base : Heap)
    (k : Nat) (f : Addr) (fd : FuncData) (ps : List Str) (sp : Sp) : Prop where
  len : ∀ vs H Q E, sp vs H Q E → vs.length = ps.length
  run : ∀ (A : Around) (outer : List Env) (s : Shared) (H : Hp) (args : Args) (us : List Value) (vs : List V)
    (Q : VK) (E : XK), A.guards = some [] → Room k A → Env0 P w K mg base A outer s H →
    BindsTo s fd args (ps.zip us) → Vals vs us → sp vs H Q E →
    codeAny (model P w) A (.call (.ref f) args) (CR CX0 outer P w H s Q E) s

theorem FnG.ofOk {P : Program} {w : World} {K : PySem.W.Frag} {mg : Str → Option Value} {base : Heap}
    {k : Nat} {f : Addr} {fd : FuncData} {ps : List Str} {sp : Sp}
    (F : FnOk P w K mg base CX0 k f fd ps sp) : FnG P w K mg base k f fd ps sp :=
  ⟨F.len, fun A outer s H args us vs Q E _ => F.run A outer s H args us vs Q E⟩
theorem FnG.mono {P : Program} {w : World} {K : PySem.W.Frag} {mg : Str → Option Value} {base : Heap}
    {j k : Nat} {f : Addr} {fd : FuncData} {ps : List Str} {sp : Sp}
    (F : FnG P w K mg base j f fd ps sp) (h : j ≤ k) : FnG P w K mg base k f fd ps sp :=
  ⟨F.len, fun A outer s H args us vs Q E g hr => F.run A outer s H args us vs Q E g (hr.mono h)⟩

theorem guards_deeper {A : Around} (env : Env) (h : A.guards = some []) : (A.deeper env).guards = some [] := h

/-- what a body's end says of the call's end -/
theorem bodyEnd {X : Cx} {ps : List (Addr × Obj)} {outer : List Env} {P : Program} {w : World} {H H' : Hp} {s s' : Shared} {σ' : L2.St}
    {Q : VK} {v : V} {u : Value} (J : Inv X ps σ' H' s') (rv : RelV v u) (q : Q v H')
    (hX : Inv X ps σ' H' s' → s'.os = s.os ∧ AllBare s'.gens ∧ Un (frs outer) [] H H' s.heap s'.heap ∧ HOk P w H' s'.heap) :
    CE outer P w H s Q u s' :=
  ⟨v, H', (hX J).1, (hX J).2.1, (hX J).2.2.1, (hX J).2.2.2, rv, q⟩
/-- a def, by its body: as Fun.ok, with the guards handed on -/
theorem fnG_of {P : Program} {w : World} {K : PySem.W.Frag} {mg : Str → Option Value} {base : Heap}
    {x qual : Str} {st : Stmt} {f : Addr} {fd : FuncData} {N ps : List Str} {k : Nat} {sp : Sp}
    (F : Fun K x qual st f fd) (S : FnScope N ps (defScope st))
    (len : ∀ vs H Q E, sp vs H Q E → vs.length = ps.length)
    (hbody : ∀ (cdv : Value) (A : Around) (outer : List Env) (s : Shared) (H : Hp) (vs : List V) (Q : VK) (E : XK),
      (A.deeper (envOfC qual (defScope st) s.heap.objs.size f cdv)).guards = some [] →
      Room k (A.deeper (envOfC qual (defScope st) s.heap.objs.size f cdv)) → sp vs H Q E →
      ∃ t, PSs (cxOf CX0 P w K mg base N qual (defScope st) f cdv A outer s H E).nox (defBody st) t ∧
        t { nx := fun _ H' => Q .non H', rt := Q } (start N vs) H) :
    FnG P w K mg base (k + 1) f fd ps sp where
  len := len
  run := by
    intro A outer s H args us vs Q E known room ent bnd rel prm
    rcases F.ex with ⟨_, _, _, _, _, _, cdv, _, _, e, at_, code⟩
    subst e
    have old := ent.mod.kin.keeps fun b o z => (ent.bs b o z).1
    have free := ent.mod.nolimit.keeps fun b o z => (ent.bs b o z).1
    have fits : vs.length = ps.length := len _ _ _ _ prm
    have places : ∀ y ∈ ps.zip us, (defScope st).names.lookup y.1 = some .local ∨
        ((defScope st).names.lookup y.1 = some .cell ∧
          ((cellsFrom (s.heap.objs.size + 1) (defScope st).names []).lookup y.1).isSome = true) := by
      rintro ⟨n, v⟩ hy
      exact (S.par n (List.of_mem_zip hy).1).imp id fun c => ⟨c, PySem.W.cellsFrom_some _ _ _ (Or.inl c)⟩
    apply codeAny_call_function room.depth (old _ _ at_) rfl S.co S.gen rfl (PySem.W.codeRec_of old code)
    apply bnd
    apply wpAny_newFunctionEnv_cells S.kind places
    rintro env rfl s1 made
    refine ⟨free.keeps made.toInCall.keep, codeAny_func ?_⟩
    rcases hbody cdv A outer s H vs Q E (guards_deeper _ known) (room.deeper _) prm with ⟨t, ht, hq⟩
    have I : Inv (cxOf CX0 P w K mg base N qual (defScope st) f cdv A outer s H E) [] (start N vs) H s1 :=
      inv_start S room.hd ent fits rel made
    apply wpAny_mono (ht.nox.run [] s1 (start N vs) H _ I hq) _ fun _ _ z => z
    intro fl s' hs
    match fl, hs with
    | .ret u, ⟨v, σ', H', J, rv, q⟩ => exact bodyEnd J rv q fun J => ⟨J.os, J.bare, J.base, J.hok⟩
    | .next, ⟨σ', H', J, q⟩ => exact bodyEnd (v := V.non) J rfl q fun J => ⟨J.os, J.bare, J.base, J.hok⟩
    | .brk, ⟨_, _, _, q⟩ => exact q.elim
    | .cont, ⟨_, _, _, q⟩ => exact q.elim

/-- a call by name of such a def -/
theorem pe_callG {X : Cx} {k : Nat} {f : Addr} {fd : FuncData} {ps : List Str} {sp : Sp} {dvs : List V} {ds : List Value}
    {x : Str} {p pos : Pos} {e : Expr} {es : List Expr} {t : TA}
    (F : FnG X.prog X.w X.K X.mg X.base k f fd ps sp) (known : X.A.guards = some []) (room : Room k X.A)
    (hg : Gl X x) (hm : X.mg x = some (.ref f)) (hk : PySem.W.keepIn X.K (.ref f) = true)
    (hb : Binds X.K fd ps ds) (hd : Vals dvs ds) (ha : PA X (e :: es) t)
    (hdb : (x == ("__debug__" : Str)) = false := by decide)
    (he : starEach (e :: es) X.env = (false, eval e X.env) :: starEach es X.env := by rfl)
    (hpl : (backTo pos (starEach es X.env)).any (·.1) = false := by rfl) :
    PE X (.Call (.Name x p) (e :: es) [] pos) (tCall sp dvs E0 t) where
  run := by
    intro pins s σ H Q I h
    apply wpAny_Call_Name_kw (ld_glob I hg hm ?_ hdb)
    apply PySem.W.callWith_K (h₀ := X.base) I.ok.mod.kin hk ?_ he hpl
    refine thn (ha.run pos pins s σ H _ I h) ?_
    rintro us s1 ⟨vs, H1, J, r, q⟩
    have both : Vals (vs ++ dvs) (us ++ ds) := r.append hd
    have many : (us ++ ds).length = ps.length := both.length ▸ F.len _ _ _ _ q
    refine ⟨J.kIn, wpAny_call (codeAny_mono (F.run X.A X.stack s1 H1 ⟨us, []⟩ _ _ Q E0 known room J.env0 (hb s1 us J.kIn many) both q) ?_)⟩
    intro res s' hq
    match res, hq with
    | .error _, z => exact z.elim
    | .ok (.ret _), z => exact J.after z
    | .ok .next, z => exact z.elim
    | .ok .brk, z => exact z.elim
    | .ok .cont, z => exact z.elim

/-! ### repr of plain data -/
section
variable {X : Cx}
def rReprD (K : PySem.W.Frag) : List V → Hp → VK → Prop := fun xs H Q =>
  ∃ (x : V) (d : PyData), xs = [x] ∧ Dp K H x d ∧ isDisplay d = true ∧ d.showable = true ∧ d.hasDict = false ∧
    d.depth ≤ 60 ∧ d.shown.length ≤ sizeLine ∧ Q (.str d.shown) H
theorem call_reprD (hg : X.A.guards = some []) (hu : X.A.units + 64 < cLine) : CallR X (.builtin "repr") (rReprD X.K) := by
  intro pins s σ H xs us Q I r h
  obtain ⟨x, d, rfl, hd, h1, h2, h3, h4, h5, q⟩ := h
  cases r with
  | cons rx rn =>
    cases rn
    rename_i u
    obtain ⟨as, rd⟩ := Dp.reads I d x u hd rx
    obtain ⟨a, rfl⟩ := isRef_of_reads rd h1
    refine repr_of_reads' rd h2 (PyData.noDict_hsm h3) hg (by omega) (fun _ _ e => e) (fun h' u tk hk => ?_) h5
    exact ⟨.str d.shown, H, I.kept hk, ⟨u, rfl⟩, q⟩
end
end HL

/-! HLb: what stays (Kp), readings step by step. -/
namespace HL
open PySem PySem.Spec PyProof.Rows L2

def Nin (q : Addr) : List Addr → Prop
  | [] => True
  | x :: r => q ≠ x ∧ Nin q r
/-- all that was tracked stands, but what is in W -/
def Kp (W : List Addr) (H H' : Hp) : Prop := ∀ q o, Nin q W → H q = some o → H' q = some o
theorem Kp.refl {W : List Addr} {H : Hp} : Kp W H H := fun _ _ _ h => h
theorem Kp.get {W : List Addr} {H H' : Hp} {q : Addr} {o : HO} (k : Kp W H H') (n : Nin q W) (h : H q = some o) : H' q = some o := k q o n h
theorem Nin.of_mem {q x : Addr} : ∀ {W : List Addr}, Nin q W → x ∈ W → q ≠ x
  | [], _, h => nomatch h
  | y :: r, ⟨a, b⟩, h => by
    rcases List.mem_cons.mp h with rfl | h
    · exact a
    · exact Nin.of_mem b h
theorem Nin.intro {q : Addr} : ∀ {W : List Addr}, (∀ x ∈ W, q ≠ x) → Nin q W
  | [], _ => trivial
  | y :: r, h => ⟨h y List.mem_cons_self, Nin.intro fun x hx => h x (List.mem_cons_of_mem _ hx)⟩
theorem Kp.upd_mem {W : List Addr} {H H' : Hp} {a : Addr} {o : HO} (k : Kp W H H') (m : a ∈ W) : Kp W H (upd H' a o) := fun q u n h => by
  rw [upd_ne (n.of_mem m)]
  exact k q u n h
theorem Kp.upd_new {W : List Addr} {H H' : Hp} {a : Addr} {o : HO} (k : Kp W H H') (m : H' a = none) : Kp W H (upd H' a o) := fun q u n h => by
  have e := k q u n h
  rw [upd_ne (ne_of_none e m)]
  exact e
theorem Kp.upd_loc {W : List Addr} {H H' : Hp} {a : Addr} {o : HO} (k : Kp W H H') (m : H a = none) : Kp W H (upd H' a o) := fun q u n h => by
  rw [upd_ne (ne_of_none h m)]
  exact k q u n h
/-- a step that changes what is in W, or what was not there ahead -/
theorem Kp.step {W W' : List Addr} {H H1 H2 : Hp} (k : Kp W H H1) (l : Kp W' H1 H2) (m : ∀ x ∈ W', x ∈ W ∨ H x = none) : Kp W H H2 := fun q u n h =>
  l q u (Nin.intro fun x hx => (m x hx).elim (fun z => n.of_mem z) fun z => ne_of_none h z) (k q u n h)
theorem Kp.free {W : List Addr} {H H' : Hp} {a : Addr} (k : Kp W H H') (n : Nin a W) (h : H' a = none) : H a = none := by
  cases e : H a with
  | none => rfl
  | some o =>
    rw [k a o n e] at h
    cases h
theorem Kp.same {H H' : Hp} (k : Kp [] H H') : Same H H' := fun b o h => k b o trivial h
theorem Kp.of_same {W : List Addr} {H H' : Hp} (k : Same H H') : Kp W H H' := fun b o _ h => k b o h
theorem Kp.weak {W W' : List Addr} {H H' : Hp} (k : Kp W H H') (m : ∀ x ∈ W, x ∈ W') : Kp W' H H' := fun q o n h => k q o (Nin.intro fun x hx => n.of_mem (m x hx)) h

/-! ### steps of readings -/
section
variable {σ : L2.St} {H : Hp} {Q : VK} {ta tb te : TE} {tt tu : TT} {i : Nat} {v x y : V} {K : PySem.W.Frag} {D : Ends} {t u : TS}
theorem s_var (h : σ[i]? = some (some v)) (q : Q v H) : tVar i σ H Q := ⟨v, h, q⟩
theorem s_c (q : Q v H) : tC v σ H Q := q
theorem s_op {r : R2} (h : ta σ H fun x H1 => tb σ H1 fun y H2 => r x y H2 Q) : tOp r ta tb σ H Q := h
theorem s_un {r : V → Hp → VK → Prop} (h : ta σ H fun x H1 => r x H1 Q) : tUn r ta σ H Q := h
theorem s_nil {Q : List V → Hp → Prop} (q : Q [] H) : tNil σ H Q := q
theorem s_cons {tr : TA} {Q : List V → Hp → Prop} (h : ta σ H fun x H1 => tr σ H1 fun xs H2 => Q (x :: xs) H2) : tCons ta tr σ H Q := h
theorem s_cb {r : List V → Hp → VK → Prop} {tl : TA} (h : tl σ H fun vs H1 => r vs H1 Q) : tCB r tl σ H Q := h
theorem s_call {sp : Sp} {dvs : List V} {E : XK} {tl : TA} (h : tl σ H fun vs H1 => sp (vs ++ dvs) H1 Q E) : tCall sp dvs E tl σ H Q := h
theorem s_test {Q : Bool → Hp → Prop} (h : te σ H fun x H1 => ∃ k, x = .bl k ∧ Q k H1) : tTest te σ H Q := h
theorem s_B {Q : Bool → Hp → Prop} (h : te σ H fun x H1 => ∃ k, x = .bl k ∧ Q k H1) : tB te σ H Q := h
theorem s_bl {R : Bool → Prop} {k : Bool} (q : R k) : ∃ k', V.bl k = .bl k' ∧ R k' := ⟨k, rfl, q⟩
theorem s_and {Q : Bool → Hp → Prop} (h : tt σ H fun c H1 => if c = true then tu σ H1 Q else Q false H1) : tAnd tt tu σ H Q := h
theorem s_or {Q : Bool → Hp → Prop} (h : tt σ H fun c H1 => if c = true then Q true H1 else tu σ H1 Q) : tOr tt tu σ H Q := h
theorem s_not {Q : Bool → Hp → Prop} (h : tt σ H fun c H1 => Q (!c) H1) : tNot tt σ H Q := h
theorem s_andV (h : ta σ H fun x H1 => ∃ c, x = .bl c ∧ if c = true then tb σ H1 Q else Q (.bl false) H1) : tAndV ta tb σ H Q := h
theorem s_orV (h : ta σ H fun x H1 => ∃ c, x = .bl c ∧ if c = true then Q (.bl true) H1 else tb σ H1 Q) : tOrV ta tb σ H Q := h
theorem s_notV (h : ta σ H fun x H1 => ∃ c, x = .bl c ∧ Q (.bl (!c)) H1) : tNotV ta σ H Q := h
theorem s_ifE (h : tt σ H fun c H1 => if c = true then ta σ H1 Q else tb σ H1 Q) : tIf tt ta tb σ H Q := h
theorem s_chain {r r' : R2} {tc : TE} (h : ta σ H fun x H1 => tb σ H1 fun y H2 => r x y H2 fun z H3 => ∃ k, z = .bl k ∧ (if k = true then tc σ H3 fun w' H4 => r' y w' H4 Q else Q (.bl false) H3)) : tChain r r' ta tb tc σ H Q := h
theorem s_tup {tl : TA} (h : tl σ H fun xs H1 => xs.length ≤ sizeLine ∧ ∀ p, H1 p = none → Q (.ref p) (upd H1 p (.tup xs))) : tTup tl σ H Q := h
theorem s_lst {tl : TA} (h : tl σ H fun xs H1 => xs.length ≤ sizeLine ∧ ∀ p, H1 p = none → Q (.ref p) (upd H1 p (.lst xs))) : tLst tl σ H Q := h
theorem s_sl {r : V → Option Int → Option Int → Hp → VK → Prop} {tl th : TO} (h : te σ H fun x H1 => tl σ H1 fun l H2 => th σ H2 fun u H3 => r x l u H3 Q) : tSl r te tl th σ H Q := h
theorem s_noPart {Q : Option Int → Hp → Prop} (q : Q none H) : tNoPart σ H Q := q
theorem s_part {Q : Option Int → Hp → Prop} (h : te σ H fun x H1 => ∃ i, x = .int i ∧ Q (some i) H1) : tPart te σ H Q := h
theorem s_int {R : Int → Prop} {k : Int} (q : R k) : ∃ i, V.int k = .int i ∧ R i := ⟨k, rfl, q⟩
theorem s_ints2 {R : Int → Int → Prop} {a b : Int} (q : R a b) : ∃ i j, [V.int a, V.int b] = [V.int i, V.int j] ∧ R i j := ⟨a, b, rfl, q⟩
theorem s_ints1 {R : Int → Prop} {a : Int} (q : R a) : ∃ i, [V.int a] = [V.int i] ∧ R i := ⟨a, rfl, q⟩
theorem s_strs1 {R : Str → Prop} {a : Str} (q : R a) : ∃ i, [V.str a] = [V.str i] ∧ R i := ⟨a, rfl, q⟩
theorem s_vals2 {R : V → V → Prop} {a b : V} (q : R a b) : ∃ i j, [a, b] = [i, j] ∧ R i j := ⟨a, b, rfl, q⟩
theorem s_vals3 {R : V → V → V → Prop} {a b c : V} (q : R a b c) : ∃ i j k, [a, b, c] = [i, j, k] ∧ R i j k := ⟨a, b, c, rfl, q⟩
theorem s_fld {f : Str} (h : ta σ H fun x H1 => ∃ a C dx fs v, x = .ref a ∧ H1 a = some (.ins C dx fs) ∧ Cls K C ∧ NoAttr K C f ∧ fs.lookup f = some v ∧ Q v H1) : tFld K ta f σ H Q := h
theorem s_bm {T : String} {r : V → List V → Hp → VK → Prop} {tl : TA} (h : ta σ H fun x H1 => tyV K T x H1 ∧ tl σ H1 fun xs H2 => r x xs H2 Q) : tBM K T r ta tl σ H Q := h
theorem s_bm0 {T : String} {r : V → List V → Hp → VK → Prop} (h : ta σ H fun x H1 => tyV K T x H1 ∧ r x [] H1 Q) : tBM0 K T r ta σ H Q := h
theorem s_m1 {r : V → List V → Hp → VK → Prop} (h : ta σ H fun x H1 => (∃ a, x = .str a) ∧ te σ H1 fun y H2 => r x [y] H2 Q) : tM1 r ta te σ H Q := h
theorem s_m0 {r : V → List V → Hp → VK → Prop} (h : ta σ H fun x H1 => (∃ a, x = .str a) ∧ r x [] H1 Q) : tM0 r ta σ H Q := h
theorem s_ex {a : Str} {P : Prop} (h : P) : (∃ b, V.str a = .str b) ∧ P := ⟨⟨a, rfl⟩, h⟩
/-! statements -/
theorem s_seq (h : t { D with nx := u D } σ H) : tSeq t u D σ H := h
theorem s_next (h : D.nx σ H) : tNext D σ H := h
theorem s_asg {g : TG} (h : te σ H fun x H1 => g x σ H1 D.nx) : tAsg te g D σ H := h
theorem s_gname {Q : L2.St → Hp → Prop} (q : Q (σ.set i (some v)) H) : gName i v σ H Q := q
theorem s_drop (h : te σ H fun _ H1 => D.nx σ H1) : tDrop te D σ H := h
theorem s_ret (h : te σ H D.rt) : tRet te D σ H := h
theorem s_retN (h : D.rt .non H) : tRetN D σ H := h
theorem s_ifS (h : tt σ H fun b H1 => if b = true then t D σ H1 else u D σ H1) : tIfS tt t u D σ H := h
theorem s_gsub {to ti : TE} {ts : TSet} {Q : L2.St → Hp → Prop} (h : to σ H fun o H1 => ti σ H1 fun i H2 => ts o i v H2 fun H3 => Q σ H3) : gSub to ti ts v σ H Q := h
theorem s_gtup {n : Nat} {g : TGs} {a : Addr} {xs : List V} {Q : L2.St → Hp → Prop} (h : SqT K H a xs) (l : xs.length = n) (q : g xs σ H Q) : gTup K n g (.ref a) σ H Q := ⟨a, xs, rfl, h, l, q⟩
theorem s_gcons {g : TG} {u : TGs} {r : List V} {Q : L2.St → Hp → Prop} (q : g v σ H fun σ' H' => u r σ' H' Q) : gCons g u (v :: r) σ H Q := ⟨v, r, rfl, q⟩
theorem s_gnil {Q : L2.St → Hp → Prop} (q : Q σ H) : gNil [] σ H Q := ⟨rfl, q⟩
theorem s_par3 {i j l : Nat} {tl : TA} (h : tl σ H fun vs H1 => ∃ u v w, vs = [u, v, w] ∧ D.nx (((σ.set i (some u)).set j (some v)).set l (some w)) H1) : tPar3 i j l tl D σ H := h
theorem s_par {i j : Nat} {tl : TA} (h : tl σ H fun vs H1 => ∃ v w, vs = [v, w] ∧ D.nx ((σ.set i (some v)).set j (some w)) H1) : tPar i j tl D σ H := h
/-! operators -/
theorem s_I0 {g : Int → Int → V} {a b : Int} (q : Q (g a b) H) : rI0 g (.int a) (.int b) H Q := ⟨a, b, rfl, rfl, q⟩
theorem s_I {C : Int → Int → Prop} {g : Int → Int → V} {a b : Int} (c : C a b) (q : Q (g a b) H) : rI C g (.int a) (.int b) H Q := ⟨a, b, rfl, rfl, c, q⟩
theorem s_eq (h : scal x y = true) (q : Q (.bl (decide (x = y))) H) : rEq x y H Q := ⟨h, q⟩
theorem s_ne (h : scal x y = true) (q : Q (.bl (!decide (x = y))) H) : rNe x y H Q := ⟨h, q⟩
theorem s_ixL {p : Addr} {xs : List V} {k : Int} (h : SqL K H p xs) (a : atI xs k = some v) (q : Q v H) : rIxL K (.ref p) (.int k) H Q := ⟨p, xs, k, v, rfl, rfl, h, a, q⟩
theorem s_ixT {p : Addr} {xs : List V} {k : Int} (h : SqT K H p xs) (a : atI xs k = some v) (q : Q v H) : rIxT K (.ref p) (.int k) H Q := ⟨p, xs, k, v, rfl, rfl, h, a, q⟩
theorem s_setL {p : Addr} {xs : List V} {k : Int} {j : Nat} {Q : Hp → Prop} (h : H p = some (.lst xs)) (a : ixN xs.length k = some j) (q : Q (upd H p (.lst (xs.set j v)))) : rSetL (.ref p) (.int k) v H Q := ⟨p, xs, k, j, rfl, rfl, h, a, q⟩
theorem s_append {p : Addr} {xs : List V} (h : H p = some (.lst xs)) (l : xs.length < sizeLine) (q : Q .non (upd H p (.lst (xs ++ [v])))) : rAppend (.ref p) [v] H Q := ⟨p, xs, v, rfl, rfl, h, l, q⟩
/-! what a test decides -/
theorem s_dec {c A B : Prop} [Decidable c] (h1 : c → A) (h2 : ¬ c → B) : if decide c = true then A else B := by
  by_cases h : c
  · rw [if_pos (decide_eq_true h)]; exact h1 h
  · rw [if_neg (by simpa using h)]; exact h2 h
theorem s_ndec {c A B : Prop} [Decidable c] (h1 : ¬ c → A) (h2 : c → B) : if (!decide c) = true then A else B := by
  by_cases h : c
  · rw [if_neg (by simpa using h)]; exact h2 h
  · rw [if_pos (by simpa using h)]; exact h1 h
theorem s_bool {c : Bool} {A B : Prop} (h1 : c = true → A) (h2 : c = false → B) : if c = true then A else B := by
  cases c with
  | true => rw [if_pos rfl]; exact h1 rfl
  | false => rw [if_neg Bool.false_ne_true]; exact h2 rfl
end
theorem st_start {t : TS} {D : Ends} {σ σ' : L2.St} {H : Hp} (e : σ = σ') (h : t D σ' H) : t D σ H := e ▸ h
theorem sq_l {K : PySem.W.Frag} {H : Hp} {a : Addr} {xs : List V} (h : H a = some (.lst xs)) : SqL K H a xs := .inl (.inl h)
theorem sq_t {K : PySem.W.Frag} {H : Hp} {a : Addr} {xs : List V} (h : H a = some (.tup xs)) : SqT K H a xs := .inl (.inl h)
theorem Kp.seqL {W : List Addr} {K : PySem.W.Frag} {H H' : Hp} {a : Addr} {xs : List V} (k : Kp W H H') (n : Nin a W) (h : SqL K H a xs) : SqL K H' a xs := by
  rcases h with (h | ⟨o, h⟩) | h
  · exact .inl (.inl (k _ _ n h))
  · exact .inl (.inr ⟨o, k _ _ n h⟩)
  · exact .inr h
end HL

/-! HLc: comprehensions by what they have made, isinstance, facts of the text's defs. -/
namespace HL
open PySem PySem.Spec PyProof.Rows L2

/-- a def of the text, called by its name: its promise -/
def DnF (P : Program) (w : World) (K : PySem.W.Frag) (mg : Str → Option Value) (base : Heap) (k : Nat) (x : Str) (ps : List Str) (sp : Sp) : Prop :=
  ∃ (f : Addr) (fd : FuncData), FnOk P w K mg base CX0 k f fd ps sp ∧ mg x = some (.ref f) ∧ PySem.W.keepIn K (.ref f) = true ∧ Binds K fd ps []
def DnG (P : Program) (w : World) (K : PySem.W.Frag) (mg : Str → Option Value) (base : Heap) (k : Nat) (x : Str) (ps : List Str) (sp : Sp) : Prop :=
  ∃ (f : Addr) (fd : FuncData), FnG P w K mg base k f fd ps sp ∧ mg x = some (.ref f) ∧ PySem.W.keepIn K (.ref f) = true ∧ Binds K fd ps []

/-! ### comprehensions: acc i is what is made behind i turns; W what the parts may change, R what is known of that -/
structure LcOk (D : Addr) (n : Nat) (acc : Nat → List V) (W : List Addr) (H1 : Hp) (R : Nat → Hp → Prop) : Prop where
  sz : n ≤ sizeLine
  a0 : acc 0 = []
  al : ∀ i, i ≤ n → (acc i).length ≤ i
  nD : H1 D = none
  nW : Nin D W
  st : ∀ i H o, R i H → R i (upd H D o)
def LcInv (D : Addr) (acc : Nat → List V) (W : List Addr) (H1 : Hp) (R : Nat → Hp → Prop) (i : Nat) (H : Hp) : Prop := H D = some (.lst (acc i)) ∧ Kp W H1 H ∧ R i H
section
variable {J : It} {n : Nat} {G : Hp → Prop} {Y : Nat → Hp → V → Hp → Prop} {D : Addr} {acc : Nat → List V} {W : List Addr} {H1 H H4 : Hp} {R : Nat → Hp → Prop} {i : Nat} {y : V}
theorem LcInv.put (I : LcInv D acc W H1 R i H) (L : LcOk D n acc W H1 R) (hi : i < n) (e : acc (i + 1) = acc i ++ [y]) (k : Kp W H H4) (r : R (i + 1) H4) :
    ∃ a, H4 D = some (.lst a) ∧ a.length < sizeLine ∧ LcInv D acc W H1 R (i + 1) (upd H4 D (.lst (a ++ [y]))) := by
  obtain ⟨p1, p2, p3⟩ := I
  refine ⟨acc i, k.get L.nW p1, ?_, by rw [upd_same, e], ?_, L.st _ _ _ r⟩
  · have h1 := L.al i (Nat.le_of_lt hi)
    have h2 := L.sz
    omega
  · exact (p2.step k (fun x hx => .inl hx)).upd_loc L.nD
theorem LcInv.skip (I : LcInv D acc W H1 R i H) (L : LcOk D n acc W H1 R) (e : acc (i + 1) = acc i) (k : Kp W H H4) (r : R (i + 1) H4) : LcInv D acc W H1 R (i + 1) H4 :=
  ⟨by rw [e]; exact k.get L.nW I.1, I.2.1.step k (fun x hx => .inl hx), r⟩
theorem lc_go (w : Walk J n G Y) (L : LcOk D n acc W H1 R) {g : TG} {tt : TT} {te : TE} {vs : List Nat} {σ : L2.St} {Qd : Hp → Prop} (r0 : R 0 H1) (hG : ∀ H, Kp W H1 H → G H)
    (hs : ∀ i x H H', i < n → LcInv D acc W H1 R i H → Y i H x H' → g x (wipe σ vs) H' fun σ2 H2 => wipe σ2 vs = wipe σ vs ∧ tt σ2 H2 fun b H3 =>
      if b = true then te σ2 H3 fun y H4 => ∃ a, H4 D = some (.lst a) ∧ a.length < sizeLine ∧ LcInv D acc W H1 R (i + 1) (upd H4 D (.lst (a ++ [y]))) else LcInv D acc W H1 R (i + 1) H3)
    (hd : ∀ H, LcInv D acc W H1 R n H → Qd H) :
    ∃ W : Nat → Nat → Hp → Prop, (∃ m, W 0 m (upd H1 D (.lst []))) ∧ ∀ i m H, W i m H →
      (J.stop i H ∧ Qd H) ∨ (J.go i H ∧ ∃ Nx : Hp → Prop, (∀ H', Nx H' → ∃ m', m' < m ∧ W (i + 1) m' H') ∧ ∀ x H', J.yld i H x H' → g x (wipe σ vs) H' fun σ2 H2 => wipe σ2 vs = wipe σ vs ∧ tt σ2 H2 fun b H3 =>
        if b = true then te σ2 H3 fun y H4 => ∃ acc, H4 D = some (.lst acc) ∧ acc.length < sizeLine ∧ Nx (upd H4 D (.lst (acc ++ [y]))) else Nx H3) :=
  lc_it w (LcInv D acc W H1 R) ⟨by rw [upd_same, L.a0], Kp.refl.upd_new L.nD, L.st _ _ _ r0⟩ (fun i H _ p => hG H p.2.1) hs hd
end
theorem LcOk.ofTake {D : Addr} {n : Nat} {ys : List V} {W : List Addr} {H1 : Hp} {R : Nat → Hp → Prop} (sz : n ≤ sizeLine) (nD : H1 D = none) (nW : Nin D W) (st : ∀ i H o, R i H → R i (upd H D o)) : LcOk D n (fun i => ys.take i) W H1 R :=
  ⟨sz, List.take_zero, fun i _ => by rw [List.length_take]; omega, nD, nW, st⟩
theorem take_put {α : Type} {l : List α} {i : Nat} {x : α} (h : l[i]? = some x) : l.take (i + 1) = l.take i ++ [x] := by
  rw [List.take_add_one, h]
  rfl
/-! ### comprehensions whose values are not told ahead: PL i xs of what is made behind i turns -/
structure LcOkP (D : Addr) (n : Nat) (PL : Nat → List V → Prop) (W : List Addr) (H1 : Hp) (R : Nat → Hp → Prop) : Prop where
  sz : n ≤ sizeLine
  a0 : PL 0 []
  nD : H1 D = none
  nW : Nin D W
  st : ∀ i H o, R i H → R i (upd H D o)
def LcInvP (D : Addr) (PL : Nat → List V → Prop) (W : List Addr) (H1 : Hp) (R : Nat → Hp → Prop) (i : Nat) (H : Hp) : Prop :=
  (∃ xs, H D = some (.lst xs) ∧ PL i xs ∧ xs.length ≤ i) ∧ Kp W H1 H ∧ R i H
section
variable {J : It} {n : Nat} {G : Hp → Prop} {Y : Nat → Hp → V → Hp → Prop} {D : Addr} {PL : Nat → List V → Prop} {W : List Addr} {H1 H H4 : Hp} {R : Nat → Hp → Prop} {i : Nat} {y : V}
theorem LcInvP.put (I : LcInvP D PL W H1 R i H) (L : LcOkP D n PL W H1 R) (hi : i < n) (e : ∀ xs, PL i xs → PL (i + 1) (xs ++ [y])) (k : Kp W H H4) (r : R (i + 1) H4) :
    ∃ a, H4 D = some (.lst a) ∧ a.length < sizeLine ∧ LcInvP D PL W H1 R (i + 1) (upd H4 D (.lst (a ++ [y]))) := by
  obtain ⟨⟨xs, p0, p1, pl⟩, p2, p3⟩ := I
  have h2 := L.sz
  refine ⟨xs, k.get L.nW p0, by omega, ⟨xs ++ [y], upd_same, e xs p1, by simp; exact pl⟩, ?_, L.st _ _ _ r⟩
  exact (p2.step k (fun x hx => .inl hx)).upd_loc L.nD
theorem lc_goP (w : Walk J n G Y) (L : LcOkP D n PL W H1 R) {g : TG} {tt : TT} {te : TE} {vs : List Nat} {σ : L2.St} {Qd : Hp → Prop} (r0 : R 0 H1) (hG : ∀ H, Kp W H1 H → G H)
    (hs : ∀ i x H H', i < n → LcInvP D PL W H1 R i H → Y i H x H' → g x (wipe σ vs) H' fun σ2 H2 => wipe σ2 vs = wipe σ vs ∧ tt σ2 H2 fun b H3 =>
      if b = true then te σ2 H3 fun y H4 => ∃ a, H4 D = some (.lst a) ∧ a.length < sizeLine ∧ LcInvP D PL W H1 R (i + 1) (upd H4 D (.lst (a ++ [y]))) else LcInvP D PL W H1 R (i + 1) H3)
    (hd : ∀ H, LcInvP D PL W H1 R n H → Qd H) :
    ∃ W : Nat → Nat → Hp → Prop, (∃ m, W 0 m (upd H1 D (.lst []))) ∧ ∀ i m H, W i m H →
      (J.stop i H ∧ Qd H) ∨ (J.go i H ∧ ∃ Nx : Hp → Prop, (∀ H', Nx H' → ∃ m', m' < m ∧ W (i + 1) m' H') ∧ ∀ x H', J.yld i H x H' → g x (wipe σ vs) H' fun σ2 H2 => wipe σ2 vs = wipe σ vs ∧ tt σ2 H2 fun b H3 =>
        if b = true then te σ2 H3 fun y H4 => ∃ acc, H4 D = some (.lst acc) ∧ acc.length < sizeLine ∧ Nx (upd H4 D (.lst (acc ++ [y]))) else Nx H3) :=
  lc_it w (LcInvP D PL W H1 R) ⟨⟨[], upd_same, L.a0, Nat.le_refl _⟩, Kp.refl.upd_new L.nD, L.st _ _ _ r0⟩ (fun i H _ p => hG H p.2.1) hs hd
end
/-! ### small steps more -/
section
variable {σ : L2.St} {H : Hp} {Q : VK} {K : PySem.W.Frag} {A B : Prop}
theorem s_lc {wi : TI} {g : TG} {tt : TT} {te : TE} {vs : List Nat} (h : wi σ H fun J H1 => ∀ D, H1 D = none → ∃ W : Nat → Nat → Hp → Prop, (∃ m, W 0 m (upd H1 D (.lst []))) ∧ ∀ i m H, W i m H →
  (J.stop i H ∧ Q (.ref D) H) ∨ (J.go i H ∧ ∃ Nx : Hp → Prop, (∀ H', Nx H' → ∃ m', m' < m ∧ W (i + 1) m' H') ∧ ∀ x H', J.yld i H x H' → g x (wipe σ vs) H' fun σ2 H2 => wipe σ2 vs = wipe σ vs ∧ tt σ2 H2 fun b H3 =>
    if b = true then te σ2 H3 fun y H4 => ∃ acc, H4 D = some (.lst acc) ∧ acc.length < sizeLine ∧ Nx (upd H4 D (.lst (acc ++ [y]))) else Nx H3)) : tLc wi g tt te vs σ H Q := h
theorem s_iStr {te : TE} {R : It → Hp → Prop} (h : te σ H fun v H1 => ∃ x, v = .str x ∧ R (Its x) H1) : iStr te σ H R := h
theorem s_iList {te : TE} {R : It → Hp → Prop} (h : te σ H fun x H1 => ∃ a, x = .ref a ∧ (∃ xs, SqL K H1 a xs) ∧ R (Itl K a) H1) : iList K te σ H R := h
theorem s_iTup {te : TE} {R : It → Hp → Prop} (h : te σ H fun x H1 => ∃ a, x = .ref a ∧ (∃ xs, SqT K H1 a xs) ∧ R (Itt K a) H1) : iTup K te σ H R := h
theorem s_iRng1 {ta : TA} {R : It → Hp → Prop} (h : ta σ H fun vs H1 => ∃ j : Int, vs = [.int j] ∧ -(2 ^ 62) ≤ j ∧ j < 2 ^ 62 ∧ R (Itr 0 j.toNat) H1) : iRng1 ta σ H R := h
theorem s_str {R : Str → Prop} {a : Str} (q : R a) : ∃ x, V.str a = .str x ∧ R x := ⟨a, rfl, q⟩
theorem s_ref {R : Addr → Prop} {a : Addr} (q : R a) : ∃ x, V.ref a = .ref x ∧ R x := ⟨a, rfl, q⟩
theorem s_yes {R : Bool → Hp → Prop} (q : R true H) : tYes σ H R := q
theorem s_for {wi : TI} {g : TG} {tb : TS} {E : Ends} (h : wi σ H fun J H1 => ∃ W : Nat → Nat → L2.St → Hp → Prop, (∃ m, W 0 m σ H1) ∧ ∀ i m σ H, W i m σ H →
      (J.stop i H ∧ E.nx σ H) ∨ (J.go i H ∧ ∃ N : L2.St → Hp → Prop, (∀ σ' H', N σ' H' → ∃ m', m' < m ∧ W (i + 1) m' σ' H') ∧ ∀ x H', J.yld i H x H' → g x σ H' fun σ2 H2 => tb { E with nx := N, ct := N, bk := E.nx } σ2 H2)) : tFor wi g tb E σ H := h
theorem i_T (h : A) : if true = true then A else B := by rw [if_pos rfl]; exact h
theorem i_F (h : B) : if false = true then A else B := by rw [if_neg Bool.false_ne_true]; exact h
theorem i_nT (h : B) : if (!true) = true then A else B := by rw [if_neg (by decide)]; exact h
theorem i_nF (h : A) : if (!false) = true then A else B := by rw [if_pos (by decide)]; exact h
theorem isi_ty {x : V} {t T : String} {b : Bool} (ht : TyX K H x (.type t)) (hk : kitB t T = some b) (q : Q (.bl b) H) : rIsi K [x, .ty T] H Q := ⟨x, .ty T, .type t, .type T, b, rfl, .ty T, ht, kit_ty hk, q⟩
theorem s_lenS {z : Str} (l : z.length ≤ sizeLine) (q : Q (.int z.length) H) : (fun (xs : List V) (H : Hp) (Q : VK) => ∃ z, xs = [.str z] ∧ z.length ≤ sizeLine ∧ Q (.int z.length) H) [.str z] H Q := ⟨z, rfl, l, q⟩
end
end HL

/-! HLm: words between dots, in plain Lean. -/
namespace HL
open PySem PySem.Spec PyProof.Rows L2 TL
def mkS (l : List Nat) : Str := ⟨l.toArray⟩
theorem tl_mkS (l : List Nat) : tl (mkS l) = l := rfl
theorem mkS_tl (z : Str) : mkS (tl z) = z := mk_tl z
theorem mkS_inj {a b : List Nat} (h : mkS a = mkS b) : a = b := by
  have := congrArg tl h
  exact this
theorem mkS_len (l : List Nat) : (mkS l).length = l.length := by rw [len_tl, tl_mkS]
theorem mkS_app (a b : List Nat) : mkS a ++ mkS b = mkS (a ++ b) := ext_tl (by rw [tl_append, tl_mkS, tl_mkS, tl_mkS])
/-- the words between dots; acc what the first one has already -/
def wds : List Nat → List Nat → List (List Nat)
  | acc, [] => [acc]
  | acc, c :: r => if c = 46 then acc :: wds [] r else wds (acc ++ [c]) r
theorem wds_spl : ∀ (l acc : List Nat), spl [46] 0 acc l = wds acc l
  | [], acc => by rw [spl_nil]; rfl
  | c :: r, acc => by
    by_cases h : c = 46
    · subst h
      rw [spl_hit (by simp [pre])]
      show acc :: spl [46] 0 [] r = _
      rw [wds_spl r]
      simp [wds]
    · rw [spl_miss (pre_of_head _ _ h), wds_spl r]
      simp [wds, h]
theorem map_mkS_tl (ys : List Str) : (ys.map tl).map mkS = ys := by
  rw [List.map_map]
  conv => rhs; rw [← List.map_id ys]
  exact List.map_congr_left fun a _ => mkS_tl a
/-- z.split('.') -/
theorem split_dot (z : Str) : Txt.split z "." = (wds [] (tl z)).map mkS := by
  have h := split_spl z "." (by decide +kernel) (kind_ok (by decide +kernel))
  rw [show tl "." = [46] from by decide +kernel, wds_spl] at h
  rw [← h, map_mkS_tl]
theorem wds_ne : ∀ (l acc : List Nat), wds acc l ≠ []
  | [], acc => by simp [wds]
  | c :: r, acc => by
    unfold wds
    split
    · simp
    · exact wds_ne r _
theorem wds_mem : ∀ (l acc p : List Nat), p ∈ wds acc l → p.length ≤ acc.length + l.length
  | [], acc, p, h => by simp [wds] at h; subst h; simp
  | c :: r, acc, p, h => by
    unfold wds at h
    split at h
    · rcases List.mem_cons.mp h with rfl | h
      · simp
      · have := wds_mem r [] p h
        simp at this ⊢
        omega
    · have := wds_mem r _ p h
      simp at this ⊢
      omega
theorem wds_length : ∀ (l acc : List Nat), (wds acc l).length ≤ l.length + 1
  | [], acc => by simp [wds]
  | c :: r, acc => by
    unfold wds
    split
    · have := wds_length r []
      simp
      omega
    · have := wds_length r (acc ++ [c])
      simp
      omega
theorem wds_sum : ∀ (l acc : List Nat), ((wds acc l).map List.length).sum ≤ acc.length + l.length
  | [], acc => by simp [wds]
  | c :: r, acc => by
    unfold wds
    split
    · have := wds_sum r []
      simp at this ⊢
      omega
    · have := wds_sum r (acc ++ [c])
      simp at this ⊢
      omega
/-- one sign more -/
def wst (s : List (List Nat) × List Nat) (c : Nat) : List (List Nat) × List Nat := if c = 46 then (s.1 ++ [s.2], []) else (s.1, s.2 ++ [c])
theorem wst_run : ∀ (l : List Nat) (p : List (List Nat)) (acc : List Nat), (l.foldl wst (p, acc)).1 ++ [(l.foldl wst (p, acc)).2] = p ++ wds acc l
  | [], p, acc => rfl
  | c :: r, p, acc => by
    rw [List.foldl_cons]
    by_cases h : c = 46
    · rw [show wst (p, acc) c = (p ++ [acc], []) by unfold wst; rw [if_pos h]]
      rw [wst_run r, List.append_assoc]
      simp [wds, h]
    · rw [show wst (p, acc) c = (p, acc ++ [c]) by unfold wst; rw [if_neg h]]
      rw [wst_run r]
      simp [wds, h]
theorem joinL_dot : ∀ {ps : List (List Nat)}, ps ≠ [] → (∀ p ∈ ps, 46 ∉ p) → wds [] (joinL [46] ps) = ps := fun hne h => by
  rw [← wds_spl]
  exact spl_join hne h
theorem wds_free : ∀ (l acc : List Nat), 46 ∉ acc → ∀ p ∈ wds acc l, 46 ∉ p
  | [], acc, h, p, hp => by simp [wds] at hp; subst hp; exact h
  | c :: r, acc, h, p, hp => by
    unfold wds at hp
    split at hp
    · rcases List.mem_cons.mp hp with rfl | hp
      · exact h
      · exact wds_free r [] (by simp) p hp
    · rename_i hc
      exact wds_free r _ (by simp [h]; exact fun e => hc e.symm) p hp
theorem sum_take_le (f : List Nat → Nat) : ∀ (l : List (List Nat)) (k : Nat), ((l.take k).map f).sum ≤ (l.map f).sum
  | [], k => by simp
  | a :: r, 0 => by simp
  | a :: r, k + 1 => by
    have := sum_take_le f r k
    rw [List.take_succ_cons, List.map_cons, List.sum_cons, List.map_cons, List.sum_cons]
    omega
theorem joinS (ps : List (List Nat)) : Txt.join "." (ps.map mkS) = mkS (joinL [46] ps) := ext_tl (by
  rw [join_eq, tl_join, List.map_map, show tl "." = [46] from by decide +kernel, tl_mkS]
  congr 1
  conv => rhs; rw [← List.map_id ps]
  exact List.map_congr_left fun a _ => tl_mkS a)
theorem eqvAll_strs : ∀ xs ys : List Str, PyData.eqvAll (xs.map PyData.str) (ys.map PyData.str) = decide (xs = ys)
  | [], [] => by simp [PyData.eqvAll]
  | [], _ :: _ => by simp [PyData.eqvAll]
  | _ :: _, [] => by simp [PyData.eqvAll]
  | x :: xs, y :: ys => by
    have ih := eqvAll_strs xs ys
    simp only [List.map_cons, PyData.eqvAll, ih, PyData.eqv]
    by_cases h : x = y
    · subst h; simp
    · simp [h]
theorem dpAll_strs {K : PySem.W.Frag} {H : Hp} : ∀ xs : List Str, DpAll K H (xs.map V.str) (xs.map PyData.str)
  | [] => .nil
  | x :: xs => .cons (.str x) (dpAll_strs xs)
theorem joinL_len (S : List Nat) : ∀ ps : List (List Nat), (joinL S ps).length ≤ (ps.map List.length).sum + ps.length * S.length
  | [] => by simp [joinL]
  | [p] => by simp [joinL]
  | p :: q :: r => by
    have ih := joinL_len S (q :: r)
    have e : joinL S (p :: q :: r) = p ++ S ++ joinL S (q :: r) := by simp [joinL]
    rw [e, List.length_append, List.length_append, List.map_cons, List.sum_cons, List.length_cons, Nat.add_mul]
    omega
theorem join_len (y : Str) (ps : List Str) : (Txt.join y ps).length ≤ (ps.map (·.length)).sum + ps.length * y.length := by
  have h := joinL_len (tl y) (ps.map tl)
  rw [len_tl, join_eq, tl_join]
  rw [List.length_map, List.map_map, ← len_tl] at h
  have e : (List.map (List.length ∘ tl) ps) = ps.map (·.length) := List.map_congr_left fun a _ => (len_tl a).symm
  rw [e] at h
  exact h
theorem sum_le_of {l : List Str} {m : Nat} (h : ∀ y ∈ l, y.length ≤ m) : (l.map (·.length)).sum ≤ l.length * m := by
  induction l with
  | nil => simp
  | cons a r ih =>
    have h1 := h a List.mem_cons_self
    have h2 := ih fun y hy => h y (List.mem_cons_of_mem _ hy)
    rw [List.map_cons, List.sum_cons, List.length_cons, Nat.add_mul]
    omega
/-- codes that a text may have -/
def OkL (l : List Nat) : Prop := ∀ c ∈ l, c < 1114112
theorem OkL.app {a b : List Nat} (h : OkL a) (g : OkL b) : OkL (a ++ b) := fun c hc => (List.mem_append.mp hc).elim (h c) (g c)
theorem OkL.str {l : List Nat} (h : OkL l) : PyData.strOk (mkS l) = true := by
  unfold PyData.strOk mkS
  simp only [List.all_toArray, List.all_eq_true]
  intro c hc
  simpa using h c hc
theorem OkL.strT {z : Str} (h : OkL (tl z)) : PyData.strOk z = true := by
  have := OkL.str h
  rw [mkS_tl] at this
  exact this
theorem atI_mem {α : Type} {xs : List α} {i : Int} {v : α} (h : atI xs i = some v) : v ∈ xs := by
  unfold atI at h
  cases e : ixN xs.length i with
  | none => rw [e] at h; cases h
  | some j => rw [e] at h; exact List.mem_of_getElem? h
theorem joinL_mem {S : List Nat} {c : Nat} : ∀ ps : List (List Nat), c ∈ joinL S ps → c ∈ S ∨ ∃ p ∈ ps, c ∈ p
  | [], h => by simp [joinL] at h
  | [p], h => .inr ⟨p, by simp, by simpa [joinL] using h⟩
  | p :: q :: r, h => by
    have e : joinL S (p :: q :: r) = p ++ (S ++ joinL S (q :: r)) := rfl
    rw [e] at h
    rcases List.mem_append.mp h with h | h
    · exact .inr ⟨p, by simp, h⟩
    rcases List.mem_append.mp h with h | h
    · exact .inl h
    rcases joinL_mem (q :: r) h with h | ⟨y, hy, hc⟩
    · exact .inl h
    · exact .inr ⟨y, List.mem_cons_of_mem _ hy, hc⟩
theorem OkL.join {s : Str} {ys : List Str} (h : OkL (tl s)) (g : ∀ y ∈ ys, OkL (tl y)) : OkL (tl (Txt.join s ys)) := fun c hc => by
  rw [join_eq, tl_join] at hc
  rcases joinL_mem _ hc with e | ⟨p, hp, e⟩
  · exact h c e
  · obtain ⟨y, hy, rfl⟩ := List.mem_map.mp hp
    exact g y hy c e
theorem wds_sub : ∀ (l acc p : List Nat), p ∈ wds acc l → ∀ c ∈ p, c ∈ acc ∨ c ∈ l
  | [], acc, p, h, c, hc => by simp [wds] at h; subst h; exact .inl hc
  | a :: r, acc, p, h, c, hc => by
    unfold wds at h
    split at h
    · rcases List.mem_cons.mp h with rfl | h
      · exact .inl hc
      · rcases wds_sub r [] p h c hc with e | e
        · cases e
        · exact .inr (List.mem_cons_of_mem _ e)
    · rcases wds_sub r _ p h c hc with e | e
      · rcases List.mem_append.mp e with e | e
        · exact .inl e
        · rw [List.mem_singleton.mp e]
          exact .inr List.mem_cons_self
      · exact .inr (List.mem_cons_of_mem _ e)
theorem OkL.wds {l : List Nat} (h : OkL l) : ∀ p ∈ wds [] l, OkL p := fun p hp c hc => by
  rcases wds_sub l [] p hp c hc with e | e
  · cases e
  · exact h c e
theorem OkL.cut {z : Str} (h : OkL (tl z)) (lo hi : Option Int) : OkL (tl (cutS z lo hi)) := fun c hc => by
  apply h
  have hc2 : c ∈ List.take (HT.sIx z.length z.length hi - HT.sIx z.length 0 lo) (List.drop (HT.sIx z.length 0 lo) z.cps.toList) := hc
  exact List.mem_of_mem_drop (List.mem_of_mem_take hc2)
theorem shaped_strs {xs : List Str} (h : ∀ x ∈ xs, PyData.strOk x = true) : SeqAt.shaped (.list (xs.map PyData.str)) = true := by
  have e : ∀ ys : List Str, (∀ x ∈ ys, PyData.strOk x = true) → PyData.canLayAll0 (ys.map PyData.str) = true ∧ PyData.depthAll (ys.map PyData.str) = 0 := by
    intro ys
    induction ys with
    | nil => intro _; simp [PyData.canLayAll0, PyData.depthAll]
    | cons a r ih =>
      intro g
      obtain ⟨h1, h2⟩ := ih fun x hx => g x (List.mem_cons_of_mem _ hx)
      simp [PyData.canLayAll0, PyData.depthAll, PyData.canLay0, PyData.depth, h1, h2, g a List.mem_cons_self]
  obtain ⟨h1, h2⟩ := e xs h
  unfold SeqAt.shaped
  simp [PyData.canLay0, PyData.depth, h1, h2]
/-- what a name is -/
def lets : List Nat := tl "abcdefghijklmnopqrstuvwxyz"
def isNameL (l : List Nat) : Bool := decide (1 ≤ l.length) && decide (l.length ≤ 8) && l.all fun c => decide (c ∈ lets)
def isPathL (l : List Nat) : Bool := decide ((wds [] l).length ≤ 4) && (wds [] l).all isNameL
theorem joinL_cons (S p : List Nat) {ps : List (List Nat)} (h : ps ≠ []) : joinL S (p :: ps) = p ++ (S ++ joinL S ps) := by
  cases ps with
  | nil => exact absurd rfl h
  | cons a r => rfl
theorem joinL_wds : ∀ (l acc : List Nat), joinL [46] (wds acc l) = acc ++ l
  | [], acc => by simp [wds, joinL]
  | c :: r, acc => by
    unfold wds
    split
    · rename_i h
      rw [joinL_cons _ _ (wds_ne _ _), joinL_wds r []]
      simp [h]
    · rw [joinL_wds r _]
      simp
theorem wds_one : ∀ (l acc : List Nat), (wds acc l).length = 1 → wds acc l = [acc ++ l]
  | [], acc, _ => by simp [wds]
  | c :: r, acc, h => by
    unfold wds at h ⊢
    split at h
    · have := List.length_pos_iff.mpr (wds_ne r [])
      simp at h
      exact absurd h (wds_ne r [])
    · rename_i hc
      rw [if_neg hc, wds_one r _ h]
      simp
theorem wds_nodot : ∀ (l acc : List Nat), 46 ∉ l → wds acc l = [acc ++ l]
  | [], acc, _ => by simp [wds]
  | c :: r, acc, h => by
    have hc : c ≠ 46 := fun e => h (by simp [e])
    unfold wds
    rw [if_neg hc, wds_nodot r _ fun q => h (List.mem_cons_of_mem _ q)]
    simp
theorem name_nodot {l : List Nat} (h : isNameL l = true) : 46 ∉ l := fun hm => by
  unfold isNameL at h
  simp only [Bool.and_eq_true, List.all_eq_true, decide_eq_true_eq] at h
  have := h.2 46 hm
  revert this
  decide +kernel
theorem name_words (l : List Nat) : isNameL l = (decide ((wds [] l).length = 1) && (wds [] l).all isNameL) := by
  by_cases h1 : (wds [] l).length = 1
  · rw [wds_one l [] h1]
    simp
  · rw [decide_eq_false h1, Bool.false_and]
    cases h : isNameL l with
    | false => rfl
    | true => exact absurd (by rw [wds_nodot l [] (name_nodot h)]; rfl) h1
end HL

/-! HLk: the rules with the written part K named, for use within a comprehension's block too. -/
namespace HL
open PySem PySem.Spec PyProof.Rows L2 TL
def rLen (K : PySem.W.Frag) : List V → Hp → VK → Prop := fun vs H Q =>
  ∃ p ys, vs = [.ref p] ∧ (SqL K H p ys ∨ SqT K H p ys) ∧ Q (.int ys.length) H
def rLenS : List V → Hp → VK → Prop := fun vs H Q =>
  ∃ z : Str, vs = [.str z] ∧ z.length ≤ sizeLine ∧ Q (.int z.length) H
def rListOf (K : PySem.W.Frag) : List V → Hp → VK → Prop := fun vs H Q =>
  ∃ p ys, vs = [.ref p] ∧ (SqL K H p ys ∨ SqT K H p ys) ∧ ∀ l, H l = none → Q (.ref l) (upd H l (.lst ys))
def rTupleOf (K : PySem.W.Frag) : List V → Hp → VK → Prop := fun vs H Q =>
  ∃ p ys, vs = [.ref p] ∧ ((SqL K H p ys ∧ ∀ l, H l = none → Q (.ref l) (upd H l (.tup ys))) ∨ (SqT K H p ys ∧ Q (.ref p) H))
def rJoin (K : PySem.W.Frag) : V → List V → Hp → VK → Prop := fun x vs H Q =>
  ∃ a p, ∃ ys : List Str, x = .str a ∧ vs = [.ref p] ∧ (SqL K H p (ys.map V.str) ∨ SqT K H p (ys.map V.str)) ∧
    (ys.map (·.length)).sum + ys.length * a.length ≤ 16777216 ∧ Q (.str (Txt.join a ys)) H
def rSplit : V → List V → Hp → VK → Prop := fun x vs H Q =>
  ∃ a b, x = .str a ∧ vs = [.str b] ∧ (b.length == 0) = false ∧ a.length + 2 ≤ sizeLine ∧ rNewStrs (Txt.split a b) H Q
def rAddS : R2 := fun x y H Q => ∃ i j, x = .str i ∧ y = .str j ∧ i.length + j.length ≤ sizeLine ∧ Q (.str (i ++ j)) H
def rInSg : R2 := fun x y H Q => ∃ (c : Nat) (z : Str), x = .str ⟨#[c]⟩ ∧ y = .str z ∧ Q (.bl (decide (c ∈ z.cps.toList))) H
def rDivmod : List V → Hp → VK → Prop := fun vs H Q => ∃ i j, vs = [.int i, .int j] ∧ CDiv i j ∧ ∀ p, H p = none → Q (.ref p) (upd H p (.tup [.int (i / j), .int (i % j)]))
section
variable {X : Cx} {K : PySem.W.Frag} {e tg : Expr} {to : TE} {tl : TA} {T : String} {r : V → List V → Hp → VK → Prop}
theorem addS : OpR X (binaryOp .Add) rAddS := op_add_str
theorem inSg : OpR X (compareOp .In) rInSg := op_in_sign
theorem divmodR : CallR X (.builtin "divmod") rDivmod := call_divmod
theorem ixLK (h : X.K = K) : IxR X (rIxL K) := h ▸ ix_list
theorem ixTK (h : X.K = K) : IxR X (rIxT K) := h ▸ ix_tup
theorem slLK (h : X.K = K) : SlR X (rSlL K) := h ▸ sl_list
theorem slTK (h : X.K = K) : SlR X (rSlT K) := h ▸ sl_tup
theorem inK (h : X.K = K) : OpR X (compareOp .In) (rIn K false) := h ▸ op_in_seq
theorem ninK (h : X.K = K) : OpR X (compareOp .NotIn) (rIn K true) := h ▸ op_notIn_seq
theorem eqDK (h : X.K = K) (hu : X.A.units + 64 < cLine) : OpR X (compareOp .Eq) (rEqD K) := h ▸ op_eqD hu
theorem neDK (h : X.K = K) (hu : X.A.units + 64 < cLine) : OpR X (compareOp .NotEq) (rNeD K) := h ▸ op_neD hu
theorem lenK (h : X.K = K) : CallR X (.builtin "len") (rLen K) := h ▸ call_len_seq
theorem lenS : CallR X (.builtin "len") rLenS := call_len_str
theorem listK (h : X.K = K) : CallR X (.type "list") (rListOf K) := h ▸ call_list_of
theorem tupleK (h : X.K = K) : CallR X (.type "tuple") (rTupleOf K) := h ▸ call_tuple_of
theorem joinK (h : X.K = K) : MtR X "str.join" (rJoin K) := h ▸ mt_join
theorem splitR : MtR X "str.split" rSplit := mt_split
theorem isiK (h : X.K = K) : CallR X (.builtin "isinstance") (rIsi K) := h ▸ call_isi
theorem allK (h : X.K = K) (hc : X.calm = true) : CallR X (.builtin "all") (rAll K) := h ▸ cr_all hc
theorem anyK (h : X.K = K) (hc : X.calm = true) : CallR X (.builtin "any") (rAny K) := h ▸ cr_any hc
theorem reprK (h : X.K = K) (hg : X.A.guards = some []) (hu : X.A.units + 64 < cLine) : CallR X (.builtin "repr") (rReprD K) := h ▸ call_reprD hg hu
theorem kBM (h : X.K = K) (p : PE X e (tBM X.K T r to tl)) : PE X e (tBM K T r to tl) := h ▸ p
theorem kBM0 (h : X.K = K) (p : PE X e (tBM0 X.K T r to)) : PE X e (tBM0 K T r to) := h ▸ p
theorem kFld {f : Str} (h : X.K = K) (p : PE X e (tFld X.K to f)) : PE X e (tFld K to f) := h ▸ p
theorem kiL (h : X.K = K) (p : PI X tg e (iList X.K to)) : PI X tg e (iList K to) := h ▸ p
theorem kiT (h : X.K = K) (p : PI X tg e (iTup X.K to)) : PI X tg e (iTup K to) := h ▸ p
theorem kiE (h : X.K = K) (p : PI X tg e (iEnum X.K tl)) : PI X tg e (iEnum K tl) := h ▸ p
theorem kgT {n : Nat} {g : TGs} (h : X.K = K) (p : PG X e (gTup X.K n g)) : PG X e (gTup K n g) := h ▸ p
end
/-- a statement, what follows behind it: stopped at by the steps, to be cut by an invariant -/
def tCut (t u : TS) : TS := tSeq t u
theorem pss_cut2 {X : Cx} {st : Stmt} {rest : List Stmt} {t u : TS} (h1 : PS X st t) (h2 : PSs X rest u) : PSs X (st :: rest) (tCut t u) := pss_cons h1 h2
theorem s_cut {t u : TS} {D : Ends} {σ : L2.St} {H : Hp} (Iv : L2.St → Hp → Prop) (h1 : ∀ J : L2.St → Hp → Prop, (∀ σ H, Iv σ H → J σ H) → t { D with nx := J } σ H) (h2 : ∀ σ H, Iv σ H → u D σ H) : tCut t u D σ H := h1 (u D) h2
/-- a for over a walk: Pv by the turn, the slots, the heap -/
theorem for_go {J : It} {n : Nat} {G : Hp → Prop} {Y : Nat → Hp → V → Hp → Prop} (w : Walk J n G Y) {g : TG} {tb : TS} {nx : L2.St → Hp → Prop} {rt : VK} {σ : L2.St} {H : Hp}
    (Pv : Nat → L2.St → Hp → Prop) (h0 : Pv 0 σ H) (hG : ∀ i σ H, i ≤ n → Pv i σ H → G H)
    (hs : ∀ i x σ H H', i < n → Pv i σ H → Y i H x H' → g x σ H' fun σ2 H2 => tb { nx := Pv (i + 1), rt := rt, bk := nx, ct := Pv (i + 1) } σ2 H2) (hd : ∀ σ H, Pv n σ H → nx σ H) :
    ∃ W : Nat → Nat → L2.St → Hp → Prop, (∃ m, W 0 m σ H) ∧ ∀ i m σ H, W i m σ H → (J.stop i H ∧ nx σ H) ∨
      (J.go i H ∧ ∃ N : L2.St → Hp → Prop, (∀ σ' H', N σ' H' → ∃ m', m' < m ∧ W (i + 1) m' σ' H') ∧
        ∀ x H', J.yld i H x H' → g x σ H' fun σ2 H2 => tb { nx := N, rt := rt, bk := nx, ct := N } σ2 H2) :=
  for_it w (D := { nx := nx, rt := rt }) Pv h0 hG hs hd
/-! ### steps of these -/
section
variable {σ : L2.St} {H : Hp} {Q : VK} {K : PySem.W.Frag} {p : Addr} {ys : List V}
theorem s_lenL (h : SqL K H p ys) (q : Q (.int ys.length) H) : rLen K [.ref p] H Q := ⟨p, ys, rfl, .inl h, q⟩
theorem s_lenT (h : SqT K H p ys) (q : Q (.int ys.length) H) : rLen K [.ref p] H Q := ⟨p, ys, rfl, .inr h, q⟩
theorem s_lenStr {z : Str} (h : z.length ≤ sizeLine) (q : Q (.int z.length) H) : rLenS [.str z] H Q := ⟨z, rfl, h, q⟩
theorem s_listL (h : SqL K H p ys) (q : ∀ l, H l = none → Q (.ref l) (upd H l (.lst ys))) : rListOf K [.ref p] H Q := ⟨p, ys, rfl, .inl h, q⟩
theorem s_tupL (h : SqL K H p ys) (q : ∀ l, H l = none → Q (.ref l) (upd H l (.tup ys))) : rTupleOf K [.ref p] H Q := ⟨p, ys, rfl, .inl ⟨h, q⟩⟩
theorem s_joinL {a : Str} {zs : List Str} (h : SqL K H p (zs.map V.str)) (l : (zs.map (·.length)).sum + zs.length * a.length ≤ 16777216) (q : Q (.str (Txt.join a zs)) H) : rJoin K (.str a) [.ref p] H Q := ⟨a, p, zs, rfl, rfl, .inl h, l, q⟩
theorem s_splitS {a b : Str} (h1 : (b.length == 0) = false) (h2 : a.length + 2 ≤ sizeLine) (q : ∀ p, H p = none → Q (.ref p) (upd H p (.lst ((Txt.split a b).map V.str)))) : rSplit (.str a) [.str b] H Q := ⟨a, b, rfl, rfl, h1, h2, q⟩
theorem s_slL {lo hi : Option Int} (h : SqL K H p ys) (q : ∀ l, H l = none → Q (.ref l) (upd H l (.lst (cutV ys lo hi)))) : rSlL K (.ref p) lo hi H Q := ⟨p, ys, rfl, h, q⟩
theorem s_slS {z : Str} {lo hi : Option Int} (h : z.length ≤ sizeLine) (q : Q (.str (cutS z lo hi)) H) : rSlS (.str z) lo hi H Q := ⟨z, rfl, h, q⟩
theorem s_ixS {z : Str} {k : Int} {c : Nat} (h : z.length ≤ sizeLine) (a : atI z.cps.toList k = some c) (q : Q (.str ⟨#[c]⟩) H) : rIxS (.str z) (.int k) H Q := ⟨z, k, c, rfl, rfl, h, a, q⟩
theorem s_addS {a b : Str} (l : a.length + b.length ≤ sizeLine) (q : Q (.str (a ++ b)) H) : rAddS (.str a) (.str b) H Q := ⟨a, b, rfl, rfl, l, q⟩
theorem s_inSg {c : Nat} {z : Str} (q : Q (.bl (decide (c ∈ z.cps.toList))) H) : rInSg (.str ⟨#[c]⟩) (.str z) H Q := ⟨c, z, rfl, rfl, q⟩
theorem s_divmod {a b : Int} (c : CDiv a b) (q : ∀ p, H p = none → Q (.ref p) (upd H p (.tup [.int (a / b), .int (a % b)]))) : rDivmod [.int a, .int b] H Q := ⟨a, b, rfl, c, q⟩
theorem s_U {g : Int → V} {i : Int} (q : Q (g i) H) : rU g (.int i) H Q := ⟨i, rfl, q⟩
theorem s_nn {P : Prop} (q : P) : V.non = V.non ∧ P := ⟨rfl, q⟩
theorem s_tyL {P : Prop} (h : H p = some (.lst ys)) (q : P) : tyV K "list" (.ref p) H ∧ P := ⟨.inl ⟨rfl, _, sq_l h⟩, q⟩
theorem s_all {bs : List Bool} (h : SqL K H p (bs.map V.bl)) (q : Q (.bl (bs.all id)) H) : rAll K [.ref p] H Q := ⟨p, bs, rfl, h, q⟩
theorem s_any {bs : List Bool} (h : SqL K H p (bs.map V.bl)) (q : Q (.bl (bs.any id)) H) : rAny K [.ref p] H Q := ⟨p, bs, rfl, h, q⟩
theorem s_eqD {x y : V} {d e : PyData} (hd : Dp K H x d) (he : Dp K H y e) (sd : SeqAt.shaped d = true) (se : SeqAt.shaped e = true) (q : Q (.bl (PyData.eqv d e)) H) : rEqD K x y H Q := ⟨d, e, hd, he, sd, se, q⟩
theorem s_neD {x y : V} {d e : PyData} (hd : Dp K H x d) (he : Dp K H y e) (sd : SeqAt.shaped d = true) (se : SeqAt.shaped e = true) (q : Q (.bl (!PyData.eqv d e)) H) : rNeD K x y H Q := ⟨d, e, hd, he, sd, se, q⟩
end
end HL

/-! HLd: plain data (Dp) kept, its kinds. -/
namespace HL
open PySem PySem.Spec PyProof.Rows L2 TL
theorem Kp.seqT {W : List Addr} {K : PySem.W.Frag} {H H' : Hp} {a : Addr} {xs : List V} (k : Kp W H H') (n : Nin a W) (h : SqT K H a xs) : SqT K H' a xs := by
  rcases h with (h | ⟨o, h⟩) | h
  · exact .inl (.inl (k _ _ n h))
  · exact .inl (.inr ⟨o, k _ _ n h⟩)
  · exact .inr h
mutual
theorem Dp.same {K : PySem.W.Frag} {H H' : Hp} (k : Kp [] H H') : ∀ (d : PyData) (v : V), Dp K H v d → Dp K H' v d
  | .none, _, h => by cases h; exact .non
  | .bool b, _, h => by cases h; exact .bl b
  | .int i, _, h => by cases h; exact .int i
  | .str x, _, h => by cases h; exact .str x
  | .list ds, _, h => by
    cases h with
    | lst hs ha => exact .lst (k.seqL trivial hs) (Dp.sameAll k ds _ ha)
  | .tuple ds, _, h => by
    cases h with
    | tup hs ha => exact .tup (k.seqT trivial hs) (Dp.sameAll k ds _ ha)
  | .dict _, _, h => by cases h
theorem Dp.sameAll {K : PySem.W.Frag} {H H' : Hp} (k : Kp [] H H') : ∀ (ds : List PyData) (vs : List V), DpAll K H vs ds → DpAll K H' vs ds
  | [], _, h => by cases h; exact .nil
  | d :: ds, _, h => by
    cases h with
    | cons h1 h2 => exact .cons (Dp.same k d _ h1) (Dp.sameAll k ds _ h2)
end
/-- the tuples stay -/
def TupK (H H' : Hp) : Prop := ∀ a xs, Rd H a (.tup xs) → Rd H' a (.tup xs)
mutual
/-- data of tuples alone -/
def flatD : PyData → Bool
  | .none | .bool _ | .int _ | .str _ => true
  | .tuple xs => flatAll xs
  | .list _ | .dict _ => false
def flatAll : List PyData → Bool
  | [] => true
  | x :: xs => flatD x && flatAll xs
end
mutual
theorem Dp.tups {K : PySem.W.Frag} {H H' : Hp} (k : TupK H H') : ∀ (d : PyData) (v : V), flatD d = true → Dp K H v d → Dp K H' v d
  | .none, _, _, h => by cases h; exact .non
  | .bool b, _, _, h => by cases h; exact .bl b
  | .int i, _, _, h => by cases h; exact .int i
  | .str x, _, _, h => by cases h; exact .str x
  | .list ds, _, f, h => by simp [flatD] at f
  | .tuple ds, _, f, h => by
    cases h with
    | tup hs ha =>
      refine .tup ?_ (Dp.tupsAll k ds _ (by simpa [flatD] using f) ha)
      rcases hs with hs | hs
      · exact .inl (k _ _ hs)
      · exact .inr hs
  | .dict _, _, _, h => by cases h
theorem Dp.tupsAll {K : PySem.W.Frag} {H H' : Hp} (k : TupK H H') : ∀ (ds : List PyData) (vs : List V), flatAll ds = true → DpAll K H vs ds → DpAll K H' vs ds
  | [], _, _, h => by cases h; exact .nil
  | d :: ds, _, f, h => by
    simp only [flatAll, Bool.and_eq_true] at f
    cases h with
    | cons h1 h2 => exact .cons (Dp.tups k d _ f.1 h1) (Dp.tupsAll k ds _ f.2 h2)
end
/-- what holds no tuple -/
def NoTup (H : Hp) (a : Addr) : Prop := ∀ xs, ¬ Rd H a (.tup xs)
theorem TupK.of {W : List Addr} {H H' : Hp} (k : Kp W H H') (n : ∀ x ∈ W, NoTup H x) : TupK H H' := fun a xs h => by
  have na : Nin a W := Nin.intro fun x hx e => n x hx xs (e ▸ h)
  rcases h with h | ⟨o, h⟩
  · exact .inl (k _ _ na h)
  · exact .inr ⟨o, k _ _ na h⟩
theorem NoTup.lst {H : Hp} {a : Addr} {xs : List V} (h : H a = some (.lst xs)) : NoTup H a := fun ys r => by
  rcases r with r | ⟨o, r⟩
  · rw [h] at r
    cases r
  · rw [h] at r
    cases r
theorem TupK.trans {A B C : Hp} (h : TupK A B) (g : TupK B C) : TupK A C := fun a xs r => g a xs (h a xs r)
/-- the built-in type of plain data -/
def tyD : PyData → String
  | .none => "NoneType"
  | .bool _ => "bool"
  | .int _ => "int"
  | .str _ => "str"
  | .list _ => "list"
  | .tuple _ => "tuple"
  | .dict _ => "dict"
theorem Dp.ty {K : PySem.W.Frag} {H : Hp} : ∀ {d : PyData} {v : V}, Dp K H v d → TyX K H v (.type (tyD d))
  | _, _, .non => .base .non
  | _, _, .bl b => .base (.bl b)
  | _, _, .int i => .base (.int i)
  | _, _, .str x => .base (.str x)
  | _, _, .lst hs _ => by
    rcases hs with (h | ⟨o, h⟩) | ⟨o, its, n, h, hc, _⟩
    · exact .base (.lst h)
    · exact .base (.frz h)
    · exact .kList h hc
  | _, _, .tup hs _ => by
    rcases hs with (h | ⟨o, h⟩) | ⟨o, its, n, h, hc, _⟩
    · exact .base (.tup h)
    · exact .fTuple h
    · exact .kTuple h hc
end HL

/-! HLe: more rules with K named: len(set(t)), wide divmod, xs[::-1], str, int, unpacking a list. -/
namespace HL
open PySem PySem.Spec PyProof.Rows L2
def rDivmodP : List V → Hp → VK → Prop := fun vs H Q => ∃ i j, vs = [.int i, .int j] ∧ CDivP i j ∧ ∀ p, H p = none → Q (.ref p) (upd H p (.tup [.int (i / j), .int (i % j)]))
def rStrOf : List V → Hp → VK → Prop := fun vs H Q => (∃ a, vs = [.str a] ∧ Q (.str a) H) ∨ ∃ i : Int, vs = [.int i] ∧ i.natAbs.log2 < 1920 ∧ Q (.str (toString i)) H
def rIntOf : List V → Hp → VK → Prop := fun vs H Q => ∃ a n, vs = [.str a] ∧ intText? a = some n ∧ a.length ≤ 640 ∧ Q (.int n) H
def rStarts : V → List V → Hp → VK → Prop := fun x vs H Q => ∃ a b, x = .str a ∧ vs = [.str b] ∧ Q (.bl (Txt.startswith a b)) H
section
variable {X : Cx} {K : PySem.W.Frag} {e : Expr} {te : TE}
theorem divmodPR : CallR X (.builtin "divmod") rDivmodP := call_divmodW
theorem strOfR : CallR X (.type "str") rStrOf := fun pins s σ H xs us Q I r h => h.elim
  (fun z => SkE.call_str_str pins s σ H xs us Q I r z) (fun z => call_str_int pins s σ H xs us Q I r z)
theorem intOfR : CallR X (.type "int") rIntOf := call_int_str
theorem startsR : MtR X "str.startswith" rStarts := mt_startswith
theorem revK {k : Nat} {p1 p2 p3 pos : Pos} (hK : X.K = K) (he : PE X e te) : PE X (.Subscript e (.Slice none none (some (.UnaryOp .USub (.Constant (.int 1) k p1) p2)) p3) pos) (tRevL K te) := hK ▸ pe_revL he
theorem kgU {n : Nat} {g : TGs} {tg : Expr} (h : X.K = K) (p : PG X tg (gUnl X.K n g)) : PG X tg (gUnl K n g) := h ▸ p
end
section
variable {σ : L2.St} {H : Hp} {Q : VK} {K : PySem.W.Frag} {a : Addr} {xs : List V}
theorem s_divP {i j : Int} (j0 : 0 < j) (jm : j ≤ 2000000000000000000000000000000000000000000000000000000000000) (q : ∀ p, H p = none → Q (.ref p) (upd H p (.tup [.int (i / j), .int (i % j)]))) : rDivmodP [.int i, .int j] H Q := by
  refine ⟨i, j, rfl, ⟨j0, PyProof.noPylong_of_log2 ?_⟩, q⟩
  have h : j.natAbs ≤ 2000000000000000000000000000000000000000000000000000000000000 := by omega
  exact (Nat.log2_lt (by omega)).mpr (Nat.lt_of_le_of_lt h (by decide +kernel))
theorem s_revL {te : TE} (h : te σ H fun x H1 => ∃ a xs, x = .ref a ∧ SqL K H1 a xs ∧ ∀ p, H1 p = none → Q (.ref p) (upd H1 p (.lst xs.reverse))) : tRevL K te σ H Q := h
theorem s_gunl {n : Nat} {g : TGs} {R : L2.St → Hp → Prop} (h : SqL K H a xs) (l : xs.length = n) (q : g xs σ H R) : gUnl K n g (.ref a) σ H R := ⟨a, xs, rfl, h, l, q⟩
theorem s_slT {lo hi : Option Int} (h : SqT K H a xs) (n : ¬ (HT.sIx xs.length 0 lo = 0 ∧ HT.sIx xs.length xs.length hi = xs.length)) (q : ∀ l, H l = none → Q (.ref l) (upd H l (.tup (cutV xs lo hi)))) : rSlT K (.ref a) lo hi H Q := ⟨a, xs, rfl, h, n, q⟩
end
/-! ### xs == [], xs != [] -/
def rNil (K : PySem.W.Frag) (f : Bool → Bool) : R2 := fun x y H Q => ∃ a b xs, x = .ref a ∧ y = .ref b ∧ SqL K H a xs ∧ SqL K H b [] ∧ Q (.bl (f xs.isEmpty)) H
section
variable {X : Cx} {K : PySem.W.Frag}
theorem nil_sizes {K : PySem.W.Frag} {X : Cx} (hK : X.K = K) {pins : List (Addr × Obj)} {σ : L2.St} {H : Hp} {s : Shared} (I : Inv X pins σ H s) {a b : Addr} {xs : List V} (ha : SqL K H a xs) (hb : SqL K H b []) :
    ∃ us ws : Array Value, s.heap.IsList a us ∧ s.heap.IsList b ws ∧ us.size = xs.length ∧ ws.size = 0 := by
  subst hK
  obtain ⟨us, r1, p1, _⟩ := I.list ha
  obtain ⟨ws, r2, p2, _⟩ := I.list hb
  exact ⟨us.toArray, ws.toArray, p1.isList, p2.isList, by rw [List.size_toArray, ← r1.length], by rw [List.size_toArray, ← r2.length]; rfl⟩
theorem eqNilK (hK : X.K = K) (hu : X.A.units + 64 < cLine) : OpR X (compareOp .Eq) (rNil K fun b => b) := by
  intro pins s σ H x y v u Q I rx ry h
  obtain ⟨a, b, xs, rfl, rfl, ha, hb, q⟩ := h
  cases rx
  cases ry
  obtain ⟨us, ws, p1, p2, n1, n2⟩ := nil_sizes hK I ha hb
  have room : X.A.units < cLine := by omega
  show wpAny (model X.prog X.w) X.A (richCompare .Eq (.ref a) (.ref b)) (EP X pins σ Q) X.xe s
  cases xs with
  | nil =>
    have z := SeqAt.RcAt.lists (e := fun _ => true) p1 p2 (n1.trans n2.symm) room (fun j h1 _ => absurd h1 (by rw [n1]; exact Nat.not_lt_zero j))
    rw [n1] at z
    exact z _ _ _ _ ⟨.bl true, H, I, rfl, q⟩
  | cons c r =>
    exact SeqAt.RcAt.lists_lengths p1 p2 (by rw [n1, n2]; rfl) room _ _ _ _ ⟨.bl false, H, I, rfl, q⟩
theorem neNilK (hK : X.K = K) (hu : X.A.units + 64 < cLine) : OpR X (compareOp .NotEq) (rNil K fun b => !b) := by
  intro pins s σ H x y v u Q I rx ry h
  obtain ⟨a, b, xs, rfl, rfl, ha, hb, q⟩ := h
  cases rx
  cases ry
  obtain ⟨us, ws, p1, p2, n1, n2⟩ := nil_sizes hK I ha hb
  have room : X.A.units < cLine := by omega
  show wpAny (model X.prog X.w) X.A (richCompare .NotEq (.ref a) (.ref b)) (EP X pins σ Q) X.xe s
  cases xs with
  | nil =>
    have z := SeqAt.RcNeAt.lists (e := fun _ => true) p1 p2 (n1.trans n2.symm) room (fun j h1 _ => absurd h1 (by rw [n1]; exact Nat.not_lt_zero j))
    rw [n1] at z
    exact z _ _ _ _ ⟨.bl false, H, I, rfl, q⟩
  | cons c r =>
    exact SeqAt.RcNeAt.lists_lengths p1 p2 (by rw [n1, n2]; rfl) room _ _ _ _ ⟨.bl true, H, I, rfl, q⟩
theorem s_nil0 {f : Bool → Bool} {H : Hp} {Q : VK} {a b : Addr} {xs : List V} (ha : SqL K H a xs) (hb : SqL K H b []) (q : Q (.bl (f xs.isEmpty)) H) : rNil K f (.ref a) (.ref b) H Q := ⟨a, b, xs, rfl, rfl, ha, hb, q⟩
end
end HL

/-! HLn: plain facts: drawn items, names and paths made of letters. -/
namespace HL
open PySem PySem.Spec PyProof.Rows L2 TL
theorem pick {xs : List V} {v : Int} (h0 : 0 ≤ v) (h1 : v < (xs.length : Int)) : ∃ y, atI xs v = some y ∧ y ∈ xs := by
  obtain ⟨n, rfl⟩ := Int.eq_ofNat_of_zero_le h0
  have hn : n < xs.length := by omega
  exact ⟨_, atI_nat (List.getElem?_eq_getElem hn), List.getElem_mem hn⟩
/-- a text of one sign -/
abbrev sg (c : Nat) : Str := ⟨#[c]⟩
theorem pickS {z : Str} {v : Int} (h0 : 0 ≤ v) (h1 : v < ((tl z).length : Int)) : ∃ c, atI z.cps.toList v = some c ∧ c ∈ tl z := by
  obtain ⟨n, rfl⟩ := Int.eq_ofNat_of_zero_le h0
  have hn : n < (tl z).length := by omega
  exact ⟨_, atI_nat (List.getElem?_eq_getElem hn), List.getElem_mem hn⟩
theorem joinL_empty : ∀ cs : List Nat, joinL [] (cs.map fun c => [c]) = cs
  | [] => rfl
  | [c] => rfl
  | c :: d :: r => by
    have ih := joinL_empty (d :: r)
    show joinL [] ([c] :: (d :: r).map fun c => [c]) = c :: d :: r
    rw [joinL_cons [] [c] (by simp), ih]
    rfl
/-- ''.join of signs -/
theorem join_sg (cs : List Nat) : Txt.join "" (cs.map sg) = mkS cs := ext_tl (by
  rw [join_eq, tl_join, List.map_map, show tl "" = [] from by decide +kernel, tl_mkS]
  exact joinL_empty cs)
theorem sg_sum : ∀ cs : List Nat, ((cs.map sg).map (·.length)).sum = cs.length
  | [] => rfl
  | c :: r => by
    rw [List.map_cons, List.map_cons, List.sum_cons, sg_sum r, List.length_cons]
    show 1 + r.length = r.length + 1
    omega
theorem isNameL_of {cs : List Nat} (h1 : 1 ≤ cs.length) (h2 : cs.length ≤ 8) (h3 : ∀ c ∈ cs, c ∈ lets) : isNameL cs = true := by
  unfold isNameL
  rw [decide_eq_true h1, decide_eq_true h2, Bool.true_and, Bool.true_and, List.all_eq_true]
  exact fun c hc => decide_eq_true (h3 c hc)
theorem isNameL_len {cs : List Nat} (h : isNameL cs = true) : 1 ≤ cs.length ∧ cs.length ≤ 8 := by
  unfold isNameL at h
  simp only [Bool.and_eq_true, decide_eq_true_eq] at h
  exact h.1
theorem isNameL_mem {cs : List Nat} (h : isNameL cs = true) : ∀ c ∈ cs, c ∈ lets := by
  unfold isNameL at h
  simp only [Bool.and_eq_true, List.all_eq_true, decide_eq_true_eq] at h
  exact h.2
theorem isPathL_of {ps : List (List Nat)} (h0 : ps ≠ []) (h1 : ps.length ≤ 4) (h2 : ∀ p ∈ ps, isNameL p = true) : isPathL (joinL [46] ps) = true := by
  unfold isPathL
  rw [joinL_dot h0 fun p hp => name_nodot (h2 p hp), decide_eq_true h1, Bool.true_and, List.all_eq_true]
  exact h2
theorem len_le_of_sum : ∀ {ps : List (List Nat)} {m : Nat}, (∀ p ∈ ps, p.length ≤ m) → (ps.map List.length).sum ≤ ps.length * m
  | [], m, _ => by simp
  | p :: r, m, h => by
    have h1 := h p List.mem_cons_self
    have h2 := len_le_of_sum (ps := r) (m := m) fun q hq => h q (List.mem_cons_of_mem _ hq)
    rw [List.map_cons, List.sum_cons, List.length_cons, Nat.add_mul]
    omega
/-- signs of a path -/
def plets : List Nat := 46 :: lets
theorem isPathL_facts {l : List Nat} (h : isPathL l = true) : 1 ≤ l.length ∧ l.length ≤ 35 ∧ ∀ c ∈ l, c ∈ plets := by
  unfold isPathL at h
  simp only [Bool.and_eq_true, List.all_eq_true, decide_eq_true_eq] at h
  obtain ⟨h1, h2⟩ := h
  have e := joinL_wds l []
  rw [List.nil_append] at e
  have ne := wds_ne l []
  generalize wds [] l = ps at *
  refine ⟨?_, ?_, fun c hc => ?_⟩
  · cases ps with
    | nil => exact absurd rfl ne
    | cons p r =>
      have hp := (isNameL_len (h2 p List.mem_cons_self)).1
      rw [← e]
      cases r with
      | nil => simpa [joinL] using hp
      | cons q r =>
        rw [joinL_cons _ _ (by simp), List.length_append]
        omega
  · have s := len_le_of_sum (ps := ps) (m := 8) fun p hp => (isNameL_len (h2 p hp)).2
    have j : ∀ qs : List (List Nat), (joinL [46] qs).length + 1 ≤ (qs.map List.length).sum + qs.length + (if qs = [] then 1 else 0) := by
      intro qs
      induction qs with
      | nil => simp [joinL]
      | cons p r ih =>
        cases r with
        | nil => simp [joinL]
        | cons q r =>
          rw [joinL_cons _ _ (by simp), List.length_append, List.length_append, List.map_cons, List.sum_cons, List.length_cons, if_neg (by simp)]
          rw [if_neg (by simp)] at ih
          simp at ih ⊢
          omega
    have j1 := j ps
    rw [if_neg ne, e] at j1
    have : ps.length * 8 ≤ 32 := by omega
    omega
  · rw [← e] at hc
    rcases joinL_mem _ hc with z | ⟨p, hp, z⟩
    · rw [List.mem_singleton.mp z]
      exact List.mem_cons_self
    · exact List.mem_cons_of_mem _ (isNameL_mem (h2 p hp) c z)
theorem joinS46 (ps : List (List Nat)) : Txt.join "." (ps.map mkS) = mkS (joinL [46] ps) := joinS ps
theorem lets_small : ∀ c ∈ plets, c < 1114112 := by decide +kernel
theorem isNameL_ok {l : List Nat} (h : isNameL l = true) : OkL l := fun c hc => lets_small c (List.mem_cons_of_mem _ (isNameL_mem h c hc))
theorem isPathL_ok {l : List Nat} (h : isPathL l = true) : OkL l := fun c hc => lets_small c ((isPathL_facts h).2.2 c hc)
end HL

/-! HLx: more steps: extend, +, pop, list(tuple), str, int; slices; texts in lists. -/
namespace HL
open PySem PySem.Spec PyProof.Rows L2 TL
section
variable {σ : L2.St} {H : Hp} {Q : VK} {K : PySem.W.Frag} {l b : Addr} {xs zs : List V}
theorem s_extend (h : H l = some (.lst xs)) (g : H b = some (.lst zs)) (n : xs.length + zs.length ≤ sizeLine) (q : Q .non (upd H l (.lst (xs ++ zs)))) : rExtend (.ref l) [.ref b] H Q := ⟨l, b, xs, zs, rfl, rfl, h, g, n, q⟩
theorem s_cat (h : H l = some (.lst xs)) (g : H b = some (.lst zs)) (n : xs.length + zs.length ≤ sizeLine) (q : ∀ p, H p = none → Q (.ref p) (upd H p (.lst (xs ++ zs)))) : rCat (.ref l) (.ref b) H Q := ⟨l, b, xs, zs, rfl, rfl, h, g, n, q⟩
theorem s_pop {y : V} (h : H l = some (.lst xs)) (g : xs[xs.length - 1]? = some y) (q : Q y (upd H l (.lst xs.dropLast))) : rPop (.ref l) [] H Q := ⟨l, xs, y, rfl, rfl, h, g, q⟩
theorem s_listT (h : SqT K H l xs) (q : ∀ p, H p = none → Q (.ref p) (upd H p (.lst xs))) : rListOf K [.ref l] H Q := ⟨l, xs, rfl, .inr h, q⟩
theorem s_strS {a : Str} (q : Q (.str a) H) : rStrOf [.str a] H Q := .inl ⟨a, rfl, q⟩
theorem s_strI {i : Int} (h : i.natAbs.log2 < 1920) (q : Q (.str (Str.ofString (toString i))) H) : rStrOf [.int i] H Q := .inr ⟨i, rfl, h, q⟩
theorem s_starts {a c : Str} (q : Q (.bl (Txt.startswith a c)) H) : rStarts (.str a) [.str c] H Q := ⟨a, c, rfl, rfl, q⟩
theorem s_intOf {a : Str} {n : Int} (h : intText? a = some n) (g : a.length ≤ 640) (q : Q (.int n) H) : rIntOf [.str a] H Q := ⟨a, n, rfl, h, g, q⟩
end
theorem Kp.nil_W {W : List Addr} {A B : Hp} (k : Kp [] A B) : Kp W A B := k.weak fun x hx => absurd hx List.not_mem_nil
theorem Kp.tr {W : List Addr} {A B C : Hp} (k : Kp W A B) (l : Kp W B C) : Kp W A C := k.step l fun x hx => .inl hx
theorem inV_strs (z : Str) (ws : List Str) : inV (.str z) (ws.map V.str) = decide (z ∈ ws) := by
  unfold inV
  rw [List.any_map]
  induction ws with
  | nil => simp
  | cons a r ih =>
    rw [List.any_cons, ih]
    show (eqV (.str a) (.str z) || _) = _
    have e : eqV (.str a) (.str z) = decide (z = a) := by
      show decide _ = _
      exact decide_eq_decide.mpr ⟨fun h => Eq.symm h, fun h => Eq.symm h⟩
    rw [e]
    by_cases c : z = a
    · simp [c]
    · simp [c]
theorem flatV_strs (ws : List Str) : (ws.map V.str).all flatV = true := by
  rw [List.all_map, List.all_eq_true]
  exact fun _ _ => rfl
theorem cut_from1 (x : V) (r : List V) : cutV (x :: r) (some 1) none = r := by
  have e : HT.sIx (x :: r).length 0 (some 1) = 1 := (HT.sIx_nat (x :: r).length 0 1).trans (by rw [List.length_cons]; omega)
  unfold cutV
  rw [e, show HT.sIx (x :: r).length (x :: r).length none = (x :: r).length from rfl]
  simp
theorem cut_last1 (xs : List V) : cutV xs none (some (-1)) = xs.dropLast := by
  unfold cutV
  rw [HT.sIx_none, List.drop_zero, Nat.sub_zero, List.dropLast_eq_take]
  congr 1
  unfold HT.sIx
  simp
  omega
/-! comprehensions whose values are told by the heap too -/
def LcInvH (D : Addr) (PL : Nat → List V → Hp → Prop) (W : List Addr) (H1 : Hp) (i : Nat) (H : Hp) : Prop := ∃ xs, H D = some (.lst xs) ∧ PL i xs H ∧ xs.length ≤ i ∧ Kp W H1 H
section
variable {J : It} {n : Nat} {G : Hp → Prop} {Y : Nat → Hp → V → Hp → Prop} {D : Addr} {PL : Nat → List V → Hp → Prop} {W : List Addr} {H1 H H4 : Hp} {i : Nat} {y : V}
theorem lc_goH (w : Walk J n G Y) {g : TG} {tt : TT} {te : TE} {vs : List Nat} {σ : L2.St} {Qd : Hp → Prop} (nD : H1 D = none) (h0 : PL 0 [] (upd H1 D (.lst []))) (hG : ∀ H, Kp W H1 H → G H)
    (hs : ∀ i x H H', i < n → LcInvH D PL W H1 i H → Y i H x H' → g x (wipe σ vs) H' fun σ2 H2 => wipe σ2 vs = wipe σ vs ∧ tt σ2 H2 fun b H3 =>
      if b = true then te σ2 H3 fun y H4 => ∃ a, H4 D = some (.lst a) ∧ a.length < sizeLine ∧ LcInvH D PL W H1 (i + 1) (upd H4 D (.lst (a ++ [y]))) else LcInvH D PL W H1 (i + 1) H3)
    (hd : ∀ H, LcInvH D PL W H1 n H → Qd H) :
    ∃ W : Nat → Nat → Hp → Prop, (∃ m, W 0 m (upd H1 D (.lst []))) ∧ ∀ i m H, W i m H →
      (J.stop i H ∧ Qd H) ∨ (J.go i H ∧ ∃ Nx : Hp → Prop, (∀ H', Nx H' → ∃ m', m' < m ∧ W (i + 1) m' H') ∧ ∀ x H', J.yld i H x H' → g x (wipe σ vs) H' fun σ2 H2 => wipe σ2 vs = wipe σ vs ∧ tt σ2 H2 fun b H3 =>
        if b = true then te σ2 H3 fun y H4 => ∃ acc, H4 D = some (.lst acc) ∧ acc.length < sizeLine ∧ Nx (upd H4 D (.lst (acc ++ [y]))) else Nx H3) :=
  lc_it w (LcInvH D PL W H1) ⟨[], upd_same, h0, Nat.le_refl _, Kp.refl.upd_new nD⟩ (fun i H _ p => by obtain ⟨_, _, _, _, k⟩ := p; exact hG H k) hs hd
theorem LcInvH.put {xs : List V} (e : H D = some (.lst xs)) (l : xs.length ≤ i) (k0 : Kp W H1 H) (nD : H1 D = none) (nW : Nin D W) (k : Kp W H H4) (sz : i < sizeLine) (p : PL (i + 1) (xs ++ [y]) (upd H4 D (.lst (xs ++ [y])))) :
    ∃ a, H4 D = some (.lst a) ∧ a.length < sizeLine ∧ LcInvH D PL W H1 (i + 1) (upd H4 D (.lst (a ++ [y]))) :=
  ⟨xs, k.get nW e, by omega, xs ++ [y], upd_same, p, by rw [List.length_append, List.length_singleton]; omega, (k0.tr k).upd_loc nD⟩
end
theorem s_iRng2 {ta : TA} {σ : L2.St} {H : Hp} {R : It → Hp → Prop} (h : ta σ H fun vs H1 => ∃ i j : Int, vs = [.int i, .int j] ∧ (-(2 ^ 62) ≤ i ∧ i < 2 ^ 62 ∧ -(2 ^ 62) ≤ j ∧ j < 2 ^ 62) ∧ R (Itr i (j - i).toNat) H1) : iRng2 ta σ H R := h
end HL

/-! HLz: zip of three lists. -/
namespace HL
open PySem PySem.Spec PyProof.Rows L2 TL
/-- three lists walked together, the items in new tuples -/
def Itz3 (K : PySem.W.Frag) (a b c : Addr) : It :=
  ⟨fun i H => ∃ (xs ys zs : List V) (x y z : V), SqL K H a xs ∧ SqL K H b ys ∧ SqL K H c zs ∧ xs[i]? = some x ∧ ys[i]? = some y ∧ zs[i]? = some z,
    fun i H v H' => ∃ T x y z, v = .ref T ∧ H T = none ∧ H' = upd H T (.tup [x, y, z]) ∧ (∀ xs, SqL K H a xs → xs[i]? = some x) ∧ (∀ ys, SqL K H b ys → ys[i]? = some y) ∧ ∀ zs, SqL K H c zs → zs[i]? = some z,
    fun i H => ∃ xs ys zs : List V, SqL K H a xs ∧ SqL K H b ys ∧ SqL K H c zs ∧ min (min xs.length ys.length) zs.length = i⟩
section
variable {P : Program} {w : World} {K : PySem.W.Frag} {elts : List Expr} {kk : Nat} {tpos : Pos} {a b c z TI TO i1 i2 i3 : Addr}
theorem turn_zip3 (D : ZipSep3 z TI TO i1 i2 i3 [i1, a] [i2, b] [i3, c]) :
    Turn P w K (.Tuple elts kk tpos) (Itz3 K a b c) [z, TI, TO, i1, i2, i3] z
      (fun i h => IsZip h z TI TO .none ∧ IsTupOf3 h TI (.ref i1) (.ref i2) (.ref i3) ∧ (∃ x y u, IsTupOf3 h TO x y u) ∧ h.IsListIter i1 a i ∧ h.IsListIter i2 b i ∧ h.IsListIter i3 c i) where
  mem := by simp
  obj := fun i h st q hq => by
    obtain ⟨hz, hTI, ⟨x, y, u, hTO⟩, ⟨o1, e1, _, d1⟩, ⟨o2, e2, _, d2⟩, ⟨o3, e3, _, d3⟩⟩ := st
    have e' : q = z ∨ q = TI ∨ q = TO ∨ q = i1 ∨ q = i2 ∨ q = i3 := by simpa using hq
    rcases e' with rfl | rfl | rfl | rfl | rfl | rfl
    · exact ⟨_, hz, fun v q => nomatch q⟩
    · exact ⟨_, hTI, fun v q => nomatch q⟩
    · exact ⟨_, hTO, fun v q => nomatch q⟩
    · exact ⟨o1, e1, fun v q => by rw [d1] at q; cases q⟩
    · exact ⟨o2, e2, fun v q => by rw [d2] at q; cases q⟩
    · exact ⟨o3, e3, fun v q => by rw [d3] at q; cases q⟩
  keep := fun i h h' st k => by
    obtain ⟨hz, hTI, ⟨x, y, u, hTO⟩, h1, h2, h3⟩ := st
    exact ⟨k z (by simp) _ hz, k TI (by simp) _ hTI, ⟨x, y, u, k TO (by simp) _ hTO⟩, h1.at fun o q => k i1 (by simp) o q, h2.at fun o q => k i2 (by simp) o q, h3.at fun o q => k i3 (by simp) o q⟩
  item := by
    intro X hP hw hK hc i pins s σ H E I hf st hg
    subst hP hw hK
    obtain ⟨hz, hTI, hTO, h1, h2, h3⟩ := st
    obtain ⟨xs, ys, zs, x, y, u, qx, qy, qz, ex, ey, ez⟩ := hg
    obtain ⟨is1, r1, p1, _⟩ := I.list qx
    obtain ⟨is2, r2, p2, _⟩ := I.list qy
    obtain ⟨is3, r3, p3, _⟩ := I.list qz
    have hh : X.A.in1.handled = none := I.ok.hd hc
    have nofp : ∀ {q l : Addr} {vs : List V}, q ∈ [z, TI, TO, i1, i2, i3] → SqL X.K H l vs → l < s.heap.objs.size := fun _ hl => by
      obtain ⟨_, _, p, _⟩ := I.list hl; exact p.lt
    have n1 : a ≠ i1 := by
      rintro rfl
      obtain ⟨o, e, c1, d1⟩ := h1
      obtain ⟨o2, e2, c2, _⟩ := p1.isList
      rw [e] at e2
      cases e2
      rw [c1] at c2
      exact absurd (Value.type.inj c2) (by decide)
    have n2 : b ≠ i2 := by
      rintro rfl
      obtain ⟨o, e, c1, d1⟩ := h2
      obtain ⟨o2, e2, c2, _⟩ := p2.isList
      rw [e] at e2
      cases e2
      rw [c1] at c2
      exact absurd (Value.type.inj c2) (by decide)
    have n3 : c ≠ i3 := by
      rintro rfl
      obtain ⟨o, e, c1, d1⟩ := h3
      obtain ⟨o2, e2, c2, _⟩ := p3.isList
      rw [e] at e2
      cases e2
      rw [c1] at c2
      exact absurd (Value.type.inj c2) (by decide)
    have W := WalksT.zipD3 (prog := X.prog) (w := X.w) (A := X.A) D (Draws.list hh i1 a n1 is1.toArray) (Draws.list hh i2 b n2 is2.toArray) (Draws.list hh i3 c n3 is3.toArray)
    have l1 := r1.length
    have l2 := r2.length
    have l3 := r3.length
    have g1 := (List.getElem?_eq_some_iff.mp ex).1
    have g2 := (List.getElem?_eq_some_iff.mp ey).1
    have g3 := (List.getElem?_eq_some_iff.mp ez).1
    refine W.item i s _ _ (by simp only [List.size_toArray]; omega) ⟨hz, hTI, hTO, ⟨h1, p1.isList⟩, ⟨h2, p2.isList⟩, ⟨h3, p3.isList⟩⟩ fun T vals h' tk hP hT hv hm hk => ?_
    refine ⟨_, rfl, W.go elts kk tpos i T _ _ _ hm fun h'' st' hk' => ?_⟩
    obtain ⟨v1, v2, v3, f1, f2, f3, rfl⟩ := hP
    obtain ⟨u1, b1, w1⟩ := r1.get ex
    obtain ⟨u2, b2, w2⟩ := r2.get ey
    obtain ⟨u3, b3, w3⟩ := r3.get ez
    have c1 : v1 = u1 := by
      have : is1[i]? = some v1 := by simpa using f1
      rw [b1] at this; exact (Option.some.inj this).symm
    have c2 : v2 = u2 := by
      have : is2[i]? = some v2 := by simpa using f2
      rw [b2] at this; exact (Option.some.inj this).symm
    have c3 : v3 = u3 := by
      have : is3[i]? = some v3 := by simpa using f3
      rw [b3] at this; exact (Option.some.inj this).symm
    subst c1 c2 c3
    have sub : ∀ q ∈ [z, TO, i1, i2, i3], q ∈ [z, TI, TO, i1, i2, i3] := fun q hq => by
      simp only [List.mem_cons, List.not_mem_nil, or_false] at hq ⊢
      rcases hq with h | h | h | h | h <;> simp [h]
    have tw := W.apart i T h' hm
    have hv2 := hv.at (h' := h'') fun o e => hk' T o tw e
    have new : ObjOk X.prog X.w (upd H T (.tup [x, y, u])) h'' T (.tup [x, y, u]) :=
      ⟨by show 3 ≤ sizeLine; decide, [v1, v2, v3], .cons w1 (.cons w2 (.cons w3 .nil)), by
        obtain ⟨o, e, c, n, d⟩ := hv2
        exact ⟨o, e, c, n, d⟩⟩
    have I1 : Inv X pins σ (upd H T (.tup [x, y, u])) { s with heap := h'', toks := tk } :=
      I.turnedNew (ch := [z, TI, TO, i1, i2, i3]) (fun q o hb e => hk' q o (fun m => hb (sub q m)) (hk q o (fun m => hb (sub q m)) e)) hf hT new
    obtain ⟨hz2, hTI2, hTO2, ⟨h12, _⟩, ⟨h22, _⟩, ⟨h32, _⟩⟩ := st'
    refine ⟨.ref T, _, I1, rfl, ⟨T, x, y, u, rfl, I.hok.fresh hT, rfl, fun l hl => by rw [I.list_inj hl qx]; exact ex, fun l hl => by rw [I.list_inj hl qy]; exact ey, fun l hl => by rw [I.list_inj hl qz]; exact ez⟩, ⟨hz2, hTI2, hTO2, h12, h22, h32⟩, fun q hq => ?_⟩
    have hlt : q < s.heap.objs.size := by
      have e' : q = z ∨ q = TI ∨ q = TO ∨ q = i1 ∨ q = i2 ∨ q = i3 := by simpa using hq
      obtain ⟨_, _, _, hTO⟩ := hTO
      rcases e' with rfl | rfl | rfl | rfl | rfl | rfl
      · exact Heap.lt_size hz
      · exact Heap.lt_size hTI
      · exact Heap.lt_size hTO
      · obtain ⟨_, e1, _⟩ := h1; exact Heap.lt_size e1
      · obtain ⟨_, e1, _⟩ := h2; exact Heap.lt_size e1
      · obtain ⟨_, e1, _⟩ := h3; exact Heap.lt_size e1
    rw [upd_ne (Nat.ne_of_lt (Nat.lt_of_lt_of_le hlt hT))]
    exact (hf q hq).1
  done := by
    intro X hP hw hK hc i pins s σ H E I hf st hg
    subst hP hw hK
    obtain ⟨hz, hTI, hTO, h1, h2, h3⟩ := st
    obtain ⟨xs, ys, zs, qx, qy, qz, hn⟩ := hg
    obtain ⟨is1, r1, p1, _⟩ := I.list qx
    obtain ⟨is2, r2, p2, _⟩ := I.list qy
    obtain ⟨is3, r3, p3, _⟩ := I.list qz
    have hh : X.A.in1.handled = none := I.ok.hd hc
    have n1 : a ≠ i1 := by
      rintro rfl
      obtain ⟨o, e, c1, d1⟩ := h1
      obtain ⟨o2, e2, c2, _⟩ := p1.isList
      rw [e] at e2
      cases e2
      rw [c1] at c2
      exact absurd (Value.type.inj c2) (by decide)
    have n2 : b ≠ i2 := by
      rintro rfl
      obtain ⟨o, e, c1, d1⟩ := h2
      obtain ⟨o2, e2, c2, _⟩ := p2.isList
      rw [e] at e2
      cases e2
      rw [c1] at c2
      exact absurd (Value.type.inj c2) (by decide)
    have n3 : c ≠ i3 := by
      rintro rfl
      obtain ⟨o, e, c1, d1⟩ := h3
      obtain ⟨o2, e2, c2, _⟩ := p3.isList
      rw [e] at e2
      cases e2
      rw [c1] at c2
      exact absurd (Value.type.inj c2) (by decide)
    have W := WalksT.zipD3 (prog := X.prog) (w := X.w) (A := X.A) D (Draws.list hh i1 a n1 is1.toArray) (Draws.list hh i2 b n2 is2.toArray) (Draws.list hh i3 c n3 is3.toArray)
    have l1 := r1.length
    have l2 := r2.length
    have l3 := r3.length
    have en : min (min is1.toArray.size is2.toArray.size) is3.toArray.size = i := by simp only [List.size_toArray]; omega
    refine W.done s _ _ (by rw [en]; exact ⟨hz, hTI, hTO, ⟨h1, p1.isList⟩, ⟨h2, p2.isList⟩, ⟨h3, p3.isList⟩⟩) fun h' tk hk => ⟨rfl, ?_⟩
    exact I.turnedL (ch := [z, TI, TO, i1, i2, i3]) (fun q o hb e => hk q o (fun m => hb (by
      simp only [List.mem_cons, List.not_mem_nil, or_false] at m ⊢
      rcases m with h | h | h | h | h <;> simp [h])) e) hf
  self := fun A i s Q E st h => wpAny_pyIter_zip st.1 h
end
def iZip3 (K : PySem.W.Frag) (ta : TA) : TI := fun σ H R => ta σ H fun vs H1 => ∃ a b c xs ys zs, vs = [.ref a, .ref b, .ref c] ∧ SqL K H1 a xs ∧ SqL K H1 b ys ∧ SqL K H1 c zs ∧ R (Itz3 K a b c) H1
theorem pi_zip3 {X : Cx} {K : PySem.W.Frag} (hK : X.K = K) {e e2 e3 : Expr} {ta : TA} {p pos tpos : Pos} {elts : List Expr} {kk : Nat} (hg : Gl X "zip") (hm : X.mg "zip" = none) (ha : PA X [e, e2, e3] ta)
    (hs : starEach [e, e2, e3] X.env = (false, eval e X.env) :: starEach [e2, e3] X.env := by rfl) (hpl : (backTo pos (starEach [e2, e3] X.env)).any (·.1) = false := by rfl) :
    PI X (.Tuple elts kk tpos) (.Call (.Name "zip" p) [e, e2, e3] [] pos) (iZip3 K ta) := by
  subst hK
  refine ⟨fun pins s σ H R I h => ?_⟩
  refine Call_ (ld_blt I hg hm boot_zip (callWith_type1 (thn (ha.run pos pins s σ H _ I h) fun us s1 ⟨vs, H1, I1, r1, q1⟩ => ?_) hs hpl))
  obtain ⟨a, b, c, xs, ys, zs, ex, qx, qy, qz, q⟩ := q1
  subst ex
  obtain ⟨u1, us, rfl, ru, r1⟩ : ∃ u1 us', us = u1 :: us' ∧ RelV (V.ref a) u1 ∧ Vals [.ref b, .ref c] us' := by
    cases r1 with
    | cons r rr => exact ⟨_, _, rfl, r, rr⟩
  obtain ⟨u2, u3, rfl, ru2, ru3⟩ := vals2 r1
  cases ru
  cases ru2
  cases ru3
  obtain ⟨is1, r1, p1, _⟩ := I1.list qx
  obtain ⟨is2, r2, p2, _⟩ := I1.list qy
  obtain ⟨is3, r3, p3, _⟩ := I1.list qz
  refine zip_begins3 (begins_list a is1.toArray) (begins_list b is2.toArray) (begins_list c is3.toArray) p1.isList p2.isList p3.isList fun h' hz hTI hTO o1 o2 o3 hsz hk => wpAny_pyIter_zip hz ?_
  have I2 : Inv X pins σ H1 { s1 with heap := h' } := I1.kept (t' := s1.toks) hk
  have S := zip_sep3 (N := s1.heap.objs.size) (fp1 := [a]) (fp2 := [b]) (fp3 := [c]) (fun q hq => by rw [List.mem_singleton.mp hq]; exact p1.lt) (fun q hq => by rw [List.mem_singleton.mp hq]; exact p2.lt) (fun q hq => by rw [List.mem_singleton.mp hq]; exact p3.lt)
  refine ⟨_, [s1.heap.objs.size + 5, s1.heap.objs.size + 3, s1.heap.objs.size + 4, s1.heap.objs.size, s1.heap.objs.size + 1, s1.heap.objs.size + 2], _, _, H1, rfl, I2, turn_zip3 S, ⟨hz, hTI, ⟨_, _, _, hTO⟩, ⟨_, o1, rfl, rfl⟩, ⟨_, o2, rfl, rfl⟩, ⟨_, o3, rfl, rfl⟩⟩, fun q hq => ?_, q⟩
  have hle : s1.heap.objs.size ≤ q := by
    have e' : q = s1.heap.objs.size + 5 ∨ q = s1.heap.objs.size + 3 ∨ q = s1.heap.objs.size + 4 ∨ q = s1.heap.objs.size ∨ q = s1.heap.objs.size + 1 ∨ q = s1.heap.objs.size + 2 := by simpa using hq
    rcases e' with rfl | rfl | rfl | rfl | rfl | rfl
    · exact Nat.le_add_right _ _
    · exact Nat.le_add_right _ _
    · exact Nat.le_add_right _ _
    · exact Nat.le_refl _
    · exact Nat.le_add_right _ _
    · exact Nat.le_add_right _ _
  exact I1.fpOk hle (I1.hok.fresh hle)
def YTrip (xs ys zs : Nat → Option V) : Nat → Hp → V → Hp → Prop := fun i H v H' => ∃ T x y z, v = .ref T ∧ H T = none ∧ H' = upd H T (.tup [x, y, z]) ∧ xs i = some x ∧ ys i = some y ∧ zs i = some z
theorem walk_zip3 {K : PySem.W.Frag} {a b c : Addr} {xs ys zs : List V} {n : Nat} (h1 : xs.length = n) (h2 : ys.length = n) (h3 : zs.length = n) :
    Walk (Itz3 K a b c) n (fun H => SqL K H a xs ∧ SqL K H b ys ∧ SqL K H c zs) (YTrip (fun i => xs[i]?) (fun i => ys[i]?) (fun i => zs[i]?)) := by
  refine ⟨fun i _ hi q => ?_, fun _ q => ⟨xs, ys, zs, q.1, q.2.1, q.2.2, by omega⟩, fun i H v H' _ q y => ?_⟩
  · exact ⟨xs, ys, zs, xs[i], ys[i], zs[i], q.1, q.2.1, q.2.2, by simp, by simp, by simp⟩
  · obtain ⟨T, x, y, z, h1, h2, h3, h4, h5, h6⟩ := y
    exact ⟨T, x, y, z, h1, h2, h3, h4 xs q.1, h5 ys q.2.1, h6 zs q.2.2⟩
theorem s_iZip3 {K : PySem.W.Frag} {ta : TA} {σ : L2.St} {H : Hp} {R : It → Hp → Prop} (h : ta σ H fun vs H1 => ∃ a b c xs ys zs, vs = [.ref a, .ref b, .ref c] ∧ SqL K H1 a xs ∧ SqL K H1 b ys ∧ SqL K H1 c zs ∧ R (Itz3 K a b c) H1) : iZip3 K ta σ H R := h
end HL

/-! HLo: enumerate of a tuple; expressions and statements that are never come to. -/
namespace HL
open PySem PySem.Spec PyProof.Rows L2 TL
/-- a tuple walked, each item in a new pair behind its number -/
def ItnT (K : PySem.W.Frag) (a : Addr) : It where
  go i H := ∃ (xs : List V) (x : V), SqT K H a xs ∧ xs[i]? = some x
  yld i H v H' := ∃ T x, v = .ref T ∧ H T = none ∧ H' = upd H T (.tup [.int (i : Nat), x]) ∧ ∀ xs, SqT K H a xs → xs[i]? = some x
  stop i H := ∃ xs : List V, SqT K H a xs ∧ xs.length = i
set_option maxHeartbeats 1000000 in
/-- enumerate of one thing, its two new objects -/
theorem enum_one {v : Value} {o : Obj} {B : Heap → Prop} (b : Begins v o B) :
    Meets (Builtin.«enumerate.__new__» ⟨[.type "enumerate", v], []⟩) fun _ R s => B s.heap ∧
      R (.ok (.ret (.ref (s.heap.push o).objs.size))) { s with heap := (s.heap.push o).push { cls := .type "enumerate", data := .fields #[.none, .bool false, .ref s.heap.objs.size, rawInt 0, .none, .none] } } := by
  refine .of_wp fun prog w A R s h => ?_
  rcases s with ⟨hp, g, d, tk, os⟩
  rcases h with ⟨h0, h1⟩
  have sub := sub_enumerate
  have it : ∀ {A' : Around} {E Q : Value → Shared → Prop}, Q (.ref hp.objs.size) ⟨hp.push o, g, d, tk, os⟩ → wpAny (model prog w) A' (pyIter v) Q E ⟨hp, g, d, tk, os⟩ := fun z => b.iter prog w _ _ ⟨hp, g, d, tk, os⟩ _ h0 z
  wp_walk using it
  apply wpAny_stack_any
  intro st
  apply wpAny_pure
  split
  · next c _ _ _ _ _ =>
    cases (c == Value.type "enumerate") <;> (wp_walk using it; exact ⟨_, rfl, h1⟩)
  · wp_walk using it
    exact ⟨_, rfl, h1⟩
theorem call_enumT {prog : Program} {w : World} {A : Around} {E : Value → Shared → Prop} {s : Shared} {l : Addr} {its : Array Value} {Q : Value → Shared → Prop} (hL : s.heap.IsTuple l its)
    (k : ∀ h', IsEnum h' (s.heap.objs.size + 1) s.heap.objs.size 0 .none → h'.IsTupleIter s.heap.objs.size l 0 → (∀ b o, s.heap.get? b = some o → h'.get? b = some o) → Q (.ref (s.heap.objs.size + 1)) { s with heap := h' }) :
    wpAny (model prog w) A (call (.type "enumerate") [.ref l]) Q E s := by
  apply callType_new F.called_enumerate (by decide) (F.typeCall_enumerate_1 _) (F.newCall_enumerate_1 _) (fun obj => F.args_object_init_2 obj _) F.entry_enumerate_new (enum_one (begins_tuple l its))
  refine ⟨hL, ?_⟩
  have z : (s.heap.push { cls := .type "tuple_iterator", data := .fields #[.ref l, .int 0 0] }).objs.size = s.heap.objs.size + 1 := Heap.size_push ..
  have e := Heap.get?_push_size (s.heap.push { cls := .type "tuple_iterator", data := .fields #[.ref l, .int 0 0] }) (o := { cls := .type "enumerate", data := .fields #[.none, .bool false, .ref s.heap.objs.size, rawInt 0, .none, .none] }) rfl
  show _ ∧ _
  rw [z] at e ⊢
  exact ⟨⟨_, e, rfl⟩, k _ e ⟨_, Heap.get?_push_of_some _ (Heap.get?_push_size _ rfl), rfl, rfl⟩ fun b o x => Heap.get?_push_of_some _ (Heap.get?_push_of_some _ x)⟩
section
variable {P : Program} {w : World} {K : PySem.W.Frag} {elts : List Expr} {kk : Nat} {tpos : Pos}
theorem turn_enumT (a e it : Addr) : Turn P w K (.Tuple elts kk tpos) (ItnT K a) [e, it] e fun i h => (∃ old, IsEnum h e it ((i : Nat) : Int) old) ∧ h.IsTupleIter it a i ∧ e ≠ it where
  mem := List.mem_cons_self
  obj i h st q hq := by
    obtain ⟨⟨old, he⟩, ⟨o, ho, _, hd⟩, _⟩ := st
    simp only [List.mem_cons, List.not_mem_nil, or_false] at hq
    rcases hq with rfl | rfl
    · exact ⟨_, he, fun v z => nomatch z⟩
    · exact ⟨o, ho, fun v z => by rw [hd] at z; cases z⟩
  keep i h h' st k := by
    obtain ⟨⟨old, he⟩, hi, hne⟩ := st
    exact ⟨⟨old, k e List.mem_cons_self _ he⟩, hi.at fun o z => k it (by simp) o z, hne⟩
  item := by
    intro X hP hw hK hc i pins s σ H E I hf st hg
    subst hP hw hK
    obtain ⟨⟨old, he⟩, hit, hne⟩ := st
    obtain ⟨xs, x, hq, hx⟩ := hg
    obtain ⟨is, rv, tp, _⟩ := I.tuple hq
    obtain ⟨u, hu, ru⟩ := rv.get hx
    have tp : s.heap.IsTuple a is.toArray := tp
    have lu := (List.getElem?_eq_some_iff.mp hu).1
    have tt : ∃ o, s.heap.get? a = some o ∧ o.cls = .type "tuple" := by
      obtain ⟨o, e, c, _⟩ := tp
      exact ⟨o, e, c⟩
    have na : a ≠ it := by
      rintro rfl
      obtain ⟨o, e1, c1⟩ := tt
      obtain ⟨o2, e2, c2, _⟩ := hit
      rw [e1] at e2
      cases e2
      rw [c1] at c2
      exact absurd (Value.type.inj c2) (by decide)
    have nea : e ≠ a := by
      rintro rfl
      obtain ⟨o, e1, c1⟩ := tt
      rw [he] at e1
      cases e1
      exact absurd (Value.type.inj c1) (by decide)
    have hh : X.A.in1.handled = none := I.ok.hd hc
    have hel : e < s.heap.objs.size := Heap.lt_size he
    have hil : it < s.heap.objs.size := by
      obtain ⟨_, z, _⟩ := hit
      exact Heap.lt_size z
    refine wpAny_pyNext_enum_itemC (n := is.toArray.size) (Draws.tuple hh it a na is.toArray) he ⟨hit, tp⟩ (by simpa using lu) hne (by simp [hne, nea]) fun x' h' tk hx' ho st' hT hsz hk => ?_
    have ux : x' = u := by
      have : is[i]? = some x' := by simpa using hx'
      rw [hu] at this
      exact (Option.some.inj this).symm
    subst ux
    refine ⟨_, rfl, wpAny_letOwnedTupleGo_enum ho fun h'' he' sb => ?_⟩
    have nT : s.heap.objs.size ≠ e := Nat.ne_of_gt hel
    have new : ObjOk X.prog X.w (upd H s.heap.objs.size (.tup [.int (i : Nat), x])) h'' s.heap.objs.size (.tup [.int (i : Nat), x]) :=
      ⟨by show 2 ≤ sizeLine; decide, [.int i tk, x'], .cons ⟨_, rfl⟩ (.cons ru .nil), _, (sb.2 _ nT).trans hT, rfl, _, rfl⟩
    have I1 : Inv X pins σ (upd H s.heap.objs.size (.tup [.int (i : Nat), x])) { s with heap := h'', toks := tk + 1 } :=
      I.turnedNew (ch := [e, it]) (fun b ob hb z => (sb.2 b fun y => hb (by simp [y])).trans (hk b ob (fun y => hb (by simp [y])) (fun y => hb (by simp [y])) z)) hf (Nat.le_refl _) new
    refine ⟨.ref s.heap.objs.size, _, I1, rfl, ⟨_, x, rfl, I.hok.fresh (Nat.le_refl _), rfl, fun ys hy => by rw [I.tuple_inj hy hq]; exact hx⟩, ⟨⟨x', ?_⟩, st'.1.at fun o z => (sb.2 it (Ne.symm hne)).trans z, hne⟩, fun b hb => ?_⟩
    · rw [show ((i + 1 : Nat) : Int) = (i : Int) + 1 from by omega]
      exact he'
    · have : b < s.heap.objs.size := by
        simp only [List.mem_cons, List.not_mem_nil, or_false] at hb
        rcases hb with rfl | rfl
        · exact hel
        · exact hil
      rw [upd_ne (Nat.ne_of_lt this)]
      exact (hf b hb).1
  done := by
    intro X hP hw hK hc i pins s σ H E I hf st hg
    subst hP hw hK
    obtain ⟨⟨old, he⟩, hit, hne⟩ := st
    obtain ⟨xs, hq, hx⟩ := hg
    obtain ⟨is, rv, tp, _⟩ := I.tuple hq
    have tp : s.heap.IsTuple a is.toArray := tp
    have na : a ≠ it := by
      rintro rfl
      obtain ⟨o, e1, c1, _⟩ := tp
      obtain ⟨o2, e2, c2, _⟩ := hit
      rw [e1] at e2
      cases e2
      rw [c1] at c2
      exact absurd (Value.type.inj c2) (by decide)
    have hh : X.A.in1.handled = none := I.ok.hd hc
    obtain ⟨f0, f1, f2, f3, f4, f5⟩ := hf it (by simp)
    have hl := rv.length
    have hn : i = is.toArray.size := by
      rw [List.size_toArray, ← hl]
      exact hx.symm
    subst hn
    exact wpAny_pyNext_enum_endD (Draws.tuple hh it a na is.toArray) he ⟨hit, tp⟩ fun h' eb => ⟨rfl, I.turned (t' := s.toks) (fun b o hb z => eb b o hb z) f0 f1 f3 f4 f5⟩
  self A i s Q E st h := by
    obtain ⟨⟨_, he⟩, _⟩ := st
    exact wpAny_pyIter_enum he h
end
def iEnumT (K : PySem.W.Frag) (ta : TA) : TI := fun σ H R => ta σ H fun vs H1 => ∃ a xs, vs = [.ref a] ∧ SqT K H1 a xs ∧ R (ItnT K a) H1
theorem pi_enumT {X : Cx} {K : PySem.W.Frag} (hK : X.K = K) {e : Expr} {ta : TA} {p pos tpos : Pos} {elts : List Expr} {kk : Nat} (hg : Gl X "enumerate") (hm : X.mg "enumerate" = none) (ha : PA X [e] ta) (hs : starEach [e] X.env = [(false, eval e X.env)] := by rfl) :
    PI X (.Tuple elts kk tpos) (.Call (.Name "enumerate" p) [e] [] pos) (iEnumT K ta) := by
  subst hK
  constructor
  intro pins s σ H R I h
  refine Call_ (ld_blt I hg hm boot_enumerate (PyProof.Rows.callWith_type1 (thn (ha.run pos pins s σ H _ I h) ?_) hs rfl))
  rintro us s1 ⟨vs, H1, I1, r1, a, xs, rfl, hq, q⟩
  cases r1 with
  | cons r rr =>
    cases rr
    cases r
    obtain ⟨is, rv, tp, _⟩ := I1.tuple hq
    refine call_enumT (show s1.heap.IsTuple a is.toArray from tp) fun h' he hit hk => wpAny_pyIter_enum he ?_
    have I2 : Inv X pins σ H1 { s1 with heap := h' } := I1.kept (t' := s1.toks) hk
    refine ⟨s1.heap.objs.size + 1, [s1.heap.objs.size + 1, s1.heap.objs.size], _, _, H1, rfl, I2, turn_enumT a (s1.heap.objs.size + 1) s1.heap.objs.size, ⟨⟨.none, he⟩, hit, Nat.succ_ne_self _⟩, fun b hb => ?_, q⟩
    have le : s1.heap.objs.size ≤ b := by
      simp only [List.mem_cons, List.not_mem_nil, or_false] at hb
      rcases hb with rfl | rfl
      · exact Nat.le_add_right _ 1
      · exact Nat.le_refl _
    exact I1.fpOk le (I1.hok.fresh le)
theorem walk_enumT {K : PySem.W.Frag} {a : Addr} {xs : List V} : Walk (ItnT K a) xs.length (fun H => SqT K H a xs) (YPair (fun i => some (.int (i : Nat))) fun i => xs[i]?) :=
  ⟨fun i _ hi q => ⟨xs, xs[i], q, by simp [hi]⟩, fun _ q => ⟨xs, q, rfl⟩, fun i H v H' _ q ⟨T, x, h1, h2, h3, h4⟩ => ⟨T, .int (i : Nat), x, h1, h2, h3, rfl, h4 xs q⟩⟩
theorem s_iEnumT {K : PySem.W.Frag} {σ : L2.St} {H : Hp} {ta : TA} {R : It → Hp → Prop} (h : ta σ H fun vs H1 => ∃ a xs, vs = [.ref a] ∧ SqT K H1 a xs ∧ R (ItnT K a) H1) : iEnumT K ta σ H R := h
theorem s_iItems {σ : L2.St} {H : Hp} {td : TE} {R : It → Hp → Prop} (h : td σ H fun x H1 => ∃ d o kvs, x = .ref d ∧ H1 d = some (.frz o (.dK kvs)) ∧ R (Iti d o kvs) H1) : iItems td σ H R := h
theorem s_iVals {σ : L2.St} {H : Hp} {td : TE} {R : It → Hp → Prop} (h : td σ H fun x H1 => ∃ d o kvs, x = .ref d ∧ H1 d = some (.frz o (.dK kvs)) ∧ R (Itd d o kvs) H1) : iVals td σ H R := h
theorem s_iKeys {σ : L2.St} {H : Hp} {td : TE} {R : It → Hp → Prop} (h : td σ H fun x H1 => ∃ d o, x = .ref d ∧ ((∃ kvs, H1 d = some (.frz o (.dK kvs)) ∧ R (Itk d o kvs) H1) ∨ ∃ kvs, H1 d = some (.frz o (.dT kvs)) ∧ R (Itkt d o kvs) H1)) : iKeys td σ H R := h
theorem s_lock {t : TS} {D : Ends} {σ : L2.St} {H : Hp} {d : Addr} {u : HO} (e : H d = some u) (m : L2.Mut (some u)) (h : ∀ od, t ⟨fun σ' H' => H' d = some (.frz od u) ∧ D.nx σ' (upd H' d u), fun v H' => H' d = some (.frz od u) ∧ D.rt v (upd H' d u), fun σ' H' => H' d = some (.frz od u) ∧ D.bk σ' (upd H' d u), fun σ' H' => H' d = some (.frz od u) ∧ D.ct σ' (upd H' d u)⟩ σ (upd H d (.frz od u))) : tLock t D σ H := ⟨d, u, e, m, h⟩
theorem s_lockE {t : TE} {σ : L2.St} {H : Hp} {Q : VK} {d : Addr} {u : HO} (e : H d = some u) (m : L2.Mut (some u)) (h : ∀ od, t σ (upd H d (.frz od u)) fun v H' => H' d = some (.frz od u) ∧ Q v (upd H' d u)) : tLockE t σ H Q := ⟨d, u, e, m, h⟩
/-- what is never evaluated -/
def tNevE : TE := fun _ _ _ => False
theorem pe_never {X : Cx} {e : Expr} : PE X e tNevE := ⟨fun _ _ _ _ _ _ h => h.elim⟩
end HL

/-! HLp: enumerate of a list, its start told by name. -/
namespace HL
open PySem PySem.Spec PyProof.Rows L2 TL
/-- a list walked, each item in a new pair behind its number, from k0 on -/
def ItnS (K : PySem.W.Frag) (a : Addr) (k0 : Int) : It where
  go i H := ∃ (xs : List V) (x : V), SqL K H a xs ∧ xs[i]? = some x
  yld i H v H' := ∃ T x, v = .ref T ∧ H T = none ∧ H' = upd H T (.tup [.int (k0 + (i : Nat)), x]) ∧ ∀ xs, SqL K H a xs → xs[i]? = some x
  stop i H := ∃ xs : List V, SqL K H a xs ∧ xs.length = i
section
variable {M : Model} {A : Around} {E : Value → Shared → Prop} {s : Shared} {env : Env} {pos : Pos} {T : String}
theorem callWith_tyK0 {args : List (Bool × Sem Value)} {keywords : List (Option Str × Sem Value)} {Q : Value → Shared → Prop} (hp : args.any (·.1) = false) (hn : keywords.any (·.1.isNone) = false)
    (h : wpAny M A (evalArgs (.type T) true args keywords) (fun a s₁ => wpAny M A (call (.type T) a.pos a.kw) Q E s₁) E s) : wpAny M A (callWith pos (.type T) [] args keywords) Q E s := by
  unfold callWith
  refine wpAny_bind (wpAny_holding (wpAny_mono h ?_ fun _ _ x => x))
  intro a s₁ h₁
  refine wpAny_bind (wpAny_standAt ?_)
  simp only [hp, hn, Bool.or_false]
  refine wpAny_bind (wpAny_pure ?_)
  refine wpAny_bind (wpAny_mono h₁ ?_ fun _ _ x => x)
  intro r s₂ hr
  exact wpAny_bind (wpAny_holding (wpAny_point (wpAny_pure hr)))
theorem callWith_tyK {e : Expr} {rest : List Expr} {kws : List Keyword} {Q : Value → Shared → Prop}
    (h : wpAny M A (spliced (backTo pos (starEach (e :: rest) env))) (fun vs s₁ => wpAny M A (evalAll ((backToKw pos (keywordEach kws env)).map (·.2)))
      (fun ks s₂ => wpAny M A (call (.type T) vs (((backToKw pos (keywordEach kws env)).filterMap (·.1)).zip ks)) Q E s₂) E s₁) E s)
    (he : backTo pos (starEach (e :: rest) env) = (false, eval e env) :: backTo pos (starEach rest env))
    (hp : (backTo pos (starEach (e :: rest) env)).any (·.1) = false)
    (ha : (backToKw pos (keywordEach kws env)).all (·.1.isSome) = true)
    (hn : (backToKw pos (keywordEach kws env)).any (·.1.isNone) = false) :
    wpAny M A (callWith pos (.type T) [] (backTo pos (starEach (e :: rest) env)) (backToKw pos (keywordEach kws env))) Q E s := by
  refine callWith_tyK0 hp hn ?_
  rw [he] at h ⊢
  exact evalArgs_kwB ha h
end
section
variable {P : Program} {w : World} {K : PySem.W.Frag} {elts : List Expr} {kk : Nat} {tpos : Pos}
theorem turn_enumS (a e it : Addr) (k0 : Int) : Turn P w K (.Tuple elts kk tpos) (ItnS K a k0) [e, it] e fun i h => (∃ old, IsEnum h e it (k0 + (i : Nat)) old) ∧ h.IsListIter it a i ∧ e ≠ it where
  mem := List.mem_cons_self
  obj i h st q hq := by
    obtain ⟨⟨old, he⟩, ⟨o, ho, _, hd⟩, _⟩ := st
    simp only [List.mem_cons, List.not_mem_nil, or_false] at hq
    rcases hq with rfl | rfl
    · exact ⟨_, he, fun v z => nomatch z⟩
    · exact ⟨o, ho, fun v z => by rw [hd] at z; cases z⟩
  keep i h h' st k := by
    obtain ⟨⟨old, he⟩, hi, hne⟩ := st
    exact ⟨⟨old, k e List.mem_cons_self _ he⟩, hi.at fun o z => k it (by simp) o z, hne⟩
  item := by
    intro X hP hw hK hc i pins s σ H E I hf st hg
    subst hP hw hK
    obtain ⟨⟨old, he⟩, hit, hne⟩ := st
    obtain ⟨xs, x, hq, hx⟩ := hg
    obtain ⟨is, rv, lp, _⟩ := I.list hq
    obtain ⟨u, hu, ru⟩ := rv.get hx
    have tp : s.heap.IsList a is.toArray := lp.isList
    have lu := (List.getElem?_eq_some_iff.mp hu).1
    have tt : ∃ o, s.heap.get? a = some o ∧ o.cls = .type "list" := by
      obtain ⟨o, e, c, _⟩ := tp
      exact ⟨o, e, c⟩
    have na : a ≠ it := by
      rintro rfl
      obtain ⟨o, e1, c1⟩ := tt
      obtain ⟨o2, e2, c2, _⟩ := hit
      rw [e1] at e2
      cases e2
      rw [c1] at c2
      exact absurd (Value.type.inj c2) (by decide)
    have nea : e ≠ a := by
      rintro rfl
      obtain ⟨o, e1, c1⟩ := tt
      rw [he] at e1
      cases e1
      exact absurd (Value.type.inj c1) (by decide)
    have hh : X.A.in1.handled = none := I.ok.hd hc
    have hel : e < s.heap.objs.size := Heap.lt_size he
    have hil : it < s.heap.objs.size := by
      obtain ⟨_, z, _⟩ := hit
      exact Heap.lt_size z
    refine wpAny_pyNext_enum_itemC (n := is.toArray.size) (Draws.list hh it a na is.toArray) he ⟨hit, tp⟩ (by simpa using lu) hne (by simp [hne, nea]) fun x' h' tk hx' ho st' hT hsz hk => ?_
    have ux : x' = u := by
      have : is[i]? = some x' := by simpa using hx'
      rw [hu] at this
      exact (Option.some.inj this).symm
    subst ux
    refine ⟨_, rfl, wpAny_letOwnedTupleGo_enum ho fun h'' he' sb => ?_⟩
    have nT : s.heap.objs.size ≠ e := Nat.ne_of_gt hel
    have new : ObjOk X.prog X.w (upd H s.heap.objs.size (.tup [.int (k0 + (i : Nat)), x])) h'' s.heap.objs.size (.tup [.int (k0 + (i : Nat)), x]) :=
      ⟨by show 2 ≤ sizeLine; decide, [.int (k0 + (i : Nat)) tk, x'], .cons ⟨_, rfl⟩ (.cons ru .nil), _, (sb.2 _ nT).trans hT, rfl, _, rfl⟩
    have I1 : Inv X pins σ (upd H s.heap.objs.size (.tup [.int (k0 + (i : Nat)), x])) { s with heap := h'', toks := tk + 1 } :=
      I.turnedNew (ch := [e, it]) (fun b ob hb z => (sb.2 b fun y => hb (by simp [y])).trans (hk b ob (fun y => hb (by simp [y])) (fun y => hb (by simp [y])) z)) hf (Nat.le_refl _) new
    refine ⟨.ref s.heap.objs.size, _, I1, rfl, ⟨_, x, rfl, I.hok.fresh (Nat.le_refl _), rfl, fun ys hy => by rw [I.list_inj hy hq]; exact hx⟩, ⟨⟨x', ?_⟩, st'.1.at fun o z => (sb.2 it (Ne.symm hne)).trans z, hne⟩, fun b hb => ?_⟩
    · rw [show k0 + ((i + 1 : Nat) : Int) = k0 + (i : Int) + 1 from by omega]
      exact he'
    · have : b < s.heap.objs.size := by
        simp only [List.mem_cons, List.not_mem_nil, or_false] at hb
        rcases hb with rfl | rfl
        · exact hel
        · exact hil
      rw [upd_ne (Nat.ne_of_lt this)]
      exact (hf b hb).1
  done := by
    intro X hP hw hK hc i pins s σ H E I hf st hg
    subst hP hw hK
    obtain ⟨⟨old, he⟩, hit, hne⟩ := st
    obtain ⟨xs, hq, hx⟩ := hg
    obtain ⟨is, rv, lp, _⟩ := I.list hq
    have tp : s.heap.IsList a is.toArray := lp.isList
    have na : a ≠ it := by
      rintro rfl
      obtain ⟨o, e1, c1, _⟩ := tp
      obtain ⟨o2, e2, c2, _⟩ := hit
      rw [e1] at e2
      cases e2
      rw [c1] at c2
      exact absurd (Value.type.inj c2) (by decide)
    have hh : X.A.in1.handled = none := I.ok.hd hc
    obtain ⟨f0, f1, f2, f3, f4, f5⟩ := hf it (by simp)
    have hl := rv.length
    have hn : i = is.toArray.size := by
      rw [List.size_toArray, ← hl]
      exact hx.symm
    subst hn
    exact wpAny_pyNext_enum_endD (Draws.list hh it a na is.toArray) he ⟨hit, tp⟩ fun h' eb => ⟨rfl, I.turned (t' := s.toks) (fun b o hb z => eb b o hb z) f0 f1 f3 f4 f5⟩
  self A i s Q E st h := by
    obtain ⟨⟨_, he⟩, _⟩ := st
    exact wpAny_pyIter_enum he h
end
def iEnumS (K : PySem.W.Frag) (ta tk : TA) : TI := fun σ H R => ta σ H fun vs H1 => tk σ H1 fun ks H2 => ∃ a xs k0, vs = [.ref a] ∧ ks = [.int k0] ∧ -1000 ≤ k0 ∧ k0 ≤ 1000 ∧ SqL K H2 a xs ∧ R (ItnS K a k0) H2
theorem pi_enumS {X : Cx} {K : PySem.W.Frag} (hK : X.K = K) {e kv : Expr} {ta tk : TA} {p pos tpos kp : Pos} {elts : List Expr} {kk : Nat} (hg : Gl X "enumerate") (hm : X.mg "enumerate" = none) (ha : PA X [e] ta) (hk : PK X [⟨some "start", kv, kp⟩] tk) (hs : starEach [e] X.env = [(false, eval e X.env)] := by rfl) :
    PI X (.Tuple elts kk tpos) (.Call (.Name "enumerate" p) [e] [⟨some "start", kv, kp⟩] pos) (iEnumS K ta tk) := by
  subst hK
  constructor
  intro pins s σ H R I h
  refine wpAny_Call_Name_kw (ld_blt I hg hm boot_enumerate ?_)
  refine callWith_tyK (thn (ha.run pos pins s σ H _ I h) ?_) (by rw [hs]; rfl) (by rw [hs]; rfl) rfl rfl
  rintro us s0 ⟨vs, H0, I0, r0, q0⟩
  refine thn (hk.run pos pins s0 σ H0 _ I0 q0) ?_
  rintro ws s1 ⟨ks, H1, I1, rk, a, xs, k0, rfl, rfl, l0, l1, hq, q⟩
  cases rk with
  | cons rk rr =>
    cases rr
    obtain ⟨t, rfl⟩ : ∃ t, _ = Value.int k0 t := rk
    cases r0 with
    | cons r rr =>
      cases rr
      cases r
      obtain ⟨is, rv, lp, _⟩ := I1.list hq
      have tp : s1.heap.IsList a is.toArray := lp.isList
      refine enum_begins_start (begins_list a is.toArray) tp (by omega) (by omega) fun h' he hit hsz hk => wpAny_pyIter_enum he ?_
      have I2 : Inv X pins σ H1 { s1 with heap := h' } := I1.kept (t' := s1.toks) hk
      have he0 : IsEnum h' (s1.heap.objs.size + 1) s1.heap.objs.size (k0 + (0 : Nat)) .none := by simpa using he
      refine ⟨s1.heap.objs.size + 1, [s1.heap.objs.size + 1, s1.heap.objs.size], _, _, H1, rfl, I2, turn_enumS a (s1.heap.objs.size + 1) s1.heap.objs.size k0, ⟨⟨.none, he0⟩, ⟨_, hit, rfl, rfl⟩, Nat.succ_ne_self _⟩, fun b hb => ?_, q⟩
      have le : s1.heap.objs.size ≤ b := by
        simp only [List.mem_cons, List.not_mem_nil, or_false] at hb
        rcases hb with rfl | rfl
        · exact Nat.le_add_right _ 1
        · exact Nat.le_refl _
      exact I1.fpOk le (I1.hok.fresh le)
theorem walk_enumS {K : PySem.W.Frag} {a : Addr} {k0 : Int} {xs : List V} : Walk (ItnS K a k0) xs.length (fun H => SqL K H a xs) (YPair (fun i => some (.int (k0 + (i : Nat)))) fun i => xs[i]?) :=
  ⟨fun i _ hi q => ⟨xs, xs[i], q, by simp [hi]⟩, fun _ q => ⟨xs, q, rfl⟩, fun i H v H' _ q ⟨T, x, h1, h2, h3, h4⟩ => ⟨T, .int (k0 + (i : Nat)), x, h1, h2, h3, rfl, h4 xs q⟩⟩
theorem s_iEnumS {K : PySem.W.Frag} {σ : L2.St} {H : Hp} {ta tk : TA} {R : It → Hp → Prop} (h : ta σ H fun vs H1 => tk σ H1 fun ks H2 => ∃ a xs k0, vs = [.ref a] ∧ ks = [.int k0] ∧ -1000 ≤ k0 ∧ k0 ≤ 1000 ∧ SqL K H2 a xs ∧ R (ItnS K a k0) H2) : iEnumS K ta tk σ H R := h
theorem kiR {X : Cx} {tg e : Expr} {K : PySem.W.Frag} {tl : TA} (h : X.K = K) (p : PI X tg e (iRev X.K tl)) : PI X tg e (iRev K tl) := h ▸ p
theorem s_iRev {K : PySem.W.Frag} {σ : L2.St} {H : Hp} {ta : TA} {R : It → Hp → Prop} (h : ta σ H fun vs H1 => ∃ (a : Addr) (xs : List V), vs = [.ref a] ∧ SqL K H1 a xs ∧ R (Itv K a xs.length) H1) : iRev K ta σ H R := h
theorem s_iZip {K : PySem.W.Frag} {σ : L2.St} {H : Hp} {ta : TA} {R : It → Hp → Prop} (h : ta σ H fun vs H1 => ∃ a b xs ys, vs = [.ref a, .ref b] ∧ SqL K H1 a xs ∧ SqL K H1 b ys ∧ R (Itz K a b) H1) : iZip K ta σ H R := h
end HL

/-! HLy: instances, dicts with text keys, sorted texts. -/
namespace HL
open PySem PySem.Spec PyProof.Rows L2 TL
section
variable {σ : L2.St} {H : Hp} {Q : VK} {K : PySem.W.Frag} {ta tb te : TE} {D : Ends} {a C dx : Addr} {fs : List (Str × V)} {f : Str} {v : V}
theorem s_ins {R : V → Prop} (h : H a = some (.ins C dx fs)) (c : Cls K C) (n : NoAttr K C f) (l : fs.lookup f = some v) (q : R v) : ∃ a' C dx fs v, V.ref a = .ref a' ∧ H a' = some (.ins C dx fs) ∧ Cls K C ∧ NoAttr K C f ∧ fs.lookup f = some v ∧ R v := ⟨a, C, dx, fs, v, rfl, h, c, n, l, q⟩
theorem s_sfld (h : tb σ H fun y H1 => ta σ H1 fun x H2 => ∃ a C dx fs, x = .ref a ∧ H2 a = some (.ins C dx fs) ∧ Cls K C ∧ NoAttr K C f ∧ fs.length < 1000 ∧ D.nx σ (upd H2 a (.ins C dx (putF f y fs)))) : sFld K ta tb f D σ H := h
theorem s_insP {P : Hp → Prop} {y : V} (h : H a = some (.ins C dx fs)) (c : Cls K C) (n : NoAttr K C f) (l : fs.length < 1000) (q : P (upd H a (.ins C dx (putF f y fs)))) : ∃ a' C dx fs, V.ref a = .ref a' ∧ H a' = some (.ins C dx fs) ∧ Cls K C ∧ NoAttr K C f ∧ fs.length < 1000 ∧ P (upd H a' (.ins C dx (putF f y fs))) := ⟨a, C, dx, fs, rfl, h, c, n, l, q⟩
theorem s_meth {m : Str} {sp : Sp} {dvs : List V} {E : XK} {t : TA} (h : ta σ H fun x H1 => ∃ a dx fs, x = .ref a ∧ H1 a = some (.ins C dx fs) ∧ fs.lookup m = none ∧ t σ H1 fun vs H2 => sp (x :: (vs ++ dvs)) H2 Q E) : tMeth C m sp dvs E ta t σ H Q := h
theorem s_insM {P : Prop} {m : Str} (h : H a = some (.ins C dx fs)) (l : fs.lookup m = none) (q : P) : ∃ a' dx fs, V.ref a = .ref a' ∧ H a' = some (.ins C dx fs) ∧ fs.lookup m = none ∧ P := ⟨a, dx, fs, rfl, h, l, q⟩
theorem s_make {sp : Sp} {dvs : List V} {E : XK} {t : TA} (h : t σ H fun vs H1 => ∀ x dx, H1 x = none → H1 dx = none → dx ≠ x → sp (.ref x :: (vs ++ dvs)) (upd (upd H1 dx (.own x)) x (.ins C dx [])) (fun v H2 => v = .non ∧ Q (.ref x) H2) E) : tMake C sp dvs E t σ H Q := h
theorem s_dnew (h : ∀ p, H p = none → Q (.ref p) (upd H p (.dK []))) : tDNewK σ H Q := h
theorem s_dget (h : ta σ H fun x H1 => tb σ H1 fun y H2 => ∃ a v, x = .ref a ∧ DGet H2 a y (some v) ∧ Q v H2) : tDGet ta tb σ H Q := h
theorem s_din (h : ta σ H fun y H1 => tb σ H1 fun x H2 => ∃ a o, x = .ref a ∧ DGet H2 a y o ∧ Q (.bl o.isSome) H2) : tDIn ta tb σ H Q := h
theorem s_dnotin (h : ta σ H fun y H1 => tb σ H1 fun x H2 => ∃ a o, x = .ref a ∧ DGet H2 a y o ∧ Q (.bl (!o.isSome)) H2) : tDNotIn ta tb σ H Q := h
theorem s_dput (h : te σ H fun v H1 => ta σ H1 fun x H2 => tb σ H2 fun y H3 => ∃ a H4, x = .ref a ∧ DPut H3 a y v H4 ∧ D.nx σ H4) : sDPut ta tb te D σ H := h
theorem s_dget1 (h : ta σ H fun x H1 => ∃ a, x = .ref a ∧ IsD H1 a ∧ tb σ H1 fun y H2 => ∃ o, DGet H2 a y o ∧ Q (o.getD .non) H2) : tDGet1 ta tb σ H Q := h
variable {kvs : List (Key × V)} {z : Str}
theorem s_getS {R : V → Prop} (h : H a = some (.dK kvs)) (e : valV kvs (.inr z) = some v) (q : R v) : ∃ a' v, V.ref a = .ref a' ∧ DGet H a' (.str z) (some v) ∧ R v := ⟨a, v, rfl, e ▸ DGet.k (k := Sum.inr z) h, q⟩
theorem s_inS {R : Option V → Prop} (h : H a = some (.dK kvs)) (q : R (valV kvs (.inr z))) : ∃ a' o, V.ref a = .ref a' ∧ DGet H a' (.str z) o ∧ R o := ⟨a, _, rfl, DGet.k (k := Sum.inr z) h, q⟩
theorem s_putS {P : Hp → Prop} (h : H a = some (.dK kvs)) (l : kvs.length < sizeLine) (q : P (upd H a (.dK (putK kvs (.inr z) v)))) : ∃ a' H4, V.ref a = .ref a' ∧ DPut H a' (.str z) v H4 ∧ P H4 := ⟨a, _, rfl, DPut.k (k := Sum.inr z) h l, q⟩
end
/-! repr of a number, a list, a tuple -/
def rReprA (K : PySem.W.Frag) : List V → Hp → VK → Prop := fun xs H Q => (∃ i : Int, xs = [.int i] ∧ i.natAbs.log2 < 1920 ∧ Q (.str (Str.ofString (toString i))) H) ∨ rReprD K xs H Q
theorem reprAK {X : Cx} {K : PySem.W.Frag} (h : X.K = K) (hg : X.A.guards = some []) (hu : X.A.units + 64 < cLine) : CallR X (.builtin "repr") (rReprA K) := fun pins s σ H xs us Q I r z => z.elim
  (fun z => SkE.call_repr_int pins s σ H xs us Q I r z) (fun z => reprK h hg hu pins s σ H xs us Q I r z)
/-! sorted texts -/
theorem sortedSK {X : Cx} {K : PySem.W.Frag} (h : X.K = K) : CallR X (.builtin "sorted") (rSortedS K) := h ▸ cr_sortedS
theorem rising_head : ∀ {r : List Str} {p : Str}, risingS p r = true → ∀ x ∈ r, ¬ tl x < tl p
  | [], _, _, x, hx => absurd hx List.not_mem_nil
  | y :: r, p, h, x, hx => by
    have h' : (!ltCps y.cps.toList p.cps.toList && risingS y r) = true := h
    simp only [Bool.and_eq_true, Bool.not_eq_true', ltCps_eq, decide_eq_false_iff_not] at h'
    rcases List.mem_cons.mp hx with rfl | hx
    · exact h'.1
    · have h2 := rising_head h'.2 x hx
      exact List.not_lt.mpr (List.le_trans (List.not_lt.mp h'.1) (List.not_lt.mp h2))
theorem rising_pw : ∀ {r : List Str} {p : Str}, risingS p r = true → (p :: r).Pairwise fun a b => ¬ tl b < tl a
  | [], _, _ => List.pairwise_singleton _ _
  | y :: r, p, h => by
    have h' : (!ltCps y.cps.toList p.cps.toList && risingS y r) = true := h
    simp only [Bool.and_eq_true] at h'
    exact List.pairwise_cons.mpr ⟨rising_head h, rising_pw h'.2⟩
theorem sortedS_pw : ∀ {l : List Str}, sortedS l = true → l.Pairwise fun a b => ¬ tl b < tl a
  | [], _ => .nil
  | _ :: _, h => rising_pw h
theorem sorted_eq {xs ys ks : List Str} (h1 : xs.Perm ks) (h2 : sortedS xs = true) (h3 : ys.Perm ks) (h4 : sortedS ys = true) : xs = ys :=
  List.Perm.eq_of_pairwise (fun a b _ _ h h' => ext_tl (List.le_antisymm (List.not_lt.mp h) (List.not_lt.mp h'))) (sortedS_pw h2) (sortedS_pw h4) (h1.trans h3.symm)
/-! facts of classes -/
structure IsiC (K : PySem.W.Frag) (C : Addr) : Prop where
  ha : PySem.W.findIn K (.ref C) "__class__" = some (some (.builtin "object.__class__"))
  hn : PySem.W.specialIn K (.builtin "object.__class__") "__get__" = some (some (.builtin "getset_descriptor.__get__"))
  htk : PySem.W.takesIn K (.builtin "object.__class__") = some true
  hm : PySem.W.mroIn K C (.type "object") = some true
theorem IsiC.ty {K : PySem.W.Frag} {C a dx : Addr} {H : Hp} {fs : List (Str × V)} (h : IsiC K C) (c : Cls K C) (e : H a = some (.ins C dx fs)) : TyX K H (.ref a) (.ref C) := .base (.ins e c h.ha h.hn h.htk h.hm)
theorem kit_self (K : PySem.W.Frag) (t : Value) : PySem.W.kitOne K t t = some true := by
  unfold PySem.W.kitOne
  rw [if_pos (beq_self_eq_true t)]
theorem isi_own {K : PySem.W.Frag} {H : Hp} {Q : VK} {x : V} {t : Value} {C : Addr} {b : Bool} (ht : TyX K H x t) (hk : PySem.W.kitOne K t (.ref C) = some b) (q : Q (.bl b) H) : rIsi K [x, .ref C] H Q := ⟨x, .ref C, t, .ref C, b, rfl, .own C, ht, hk, q⟩
/-- a method of a class, an instance's making -/
def DmF (P : Program) (w : World) (K : PySem.W.Frag) (mg : Str → Option Value) (base : Heap) (k : Nat) (C : Addr) (m : Str) (ps : List Str) (sp : Sp) : Prop :=
  ∃ (f : Addr) (fd : FuncData), FnOk P w K mg base CX0 k f fd ps sp ∧ Meth K C m f ∧ Binds K fd ps []
def DkF (P : Program) (w : World) (K : PySem.W.Frag) (mg : Str → Option Value) (base : Heap) (k : Nat) (C : Addr) (ps : List Str) (sp : Sp) : Prop :=
  ∃ (f : Addr) (fd : FuncData), FnOk P w K mg base CX0 k f fd ps sp ∧ Mk K C f ∧ Binds K fd ps []
theorem nin1' {p x : Addr} (h : p ≠ x) : Nin x [p] := ⟨h.symm, trivial⟩
theorem kit_sub {K : PySem.W.Frag} {t : Value} {C : Addr} {b : Bool} (hc : PySem.W.isClsIn K C = true) (ht : PySem.W.typeIn K (.ref C) = some (.type "type")) (ss : PySem.W.subIn K (.ref C) (.ref C) = some true)
    (hs : PySem.W.subIn K t (.ref C) = some b) : PySem.W.kitOne K t (.ref C) = some b := by
  unfold PySem.W.kitOne
  split
  · rename_i e
    have e := eq_of_beq e
    subst e
    exact ss.symm.trans hs
  · unfold PySem.W.kitCls
    dsimp only
    rw [if_pos (by rw [Bool.and_eq_true]; exact ⟨hc, by rw [ht]; exact beq_self_eq_true _⟩)]
    exact hs
theorem sub_bt {K : PySem.W.Frag} {T : String} {C : Addr} (h : (PySem.fastBuiltinMro T).any (fun l => l.all fun v => match v with | .type _ => true | _ => false) = true) : PySem.W.subIn K (.type T) (.ref C) = some false := by
  show (PySem.fastBuiltinMro T).map (·.contains (.ref C)) = some false
  cases e : PySem.fastBuiltinMro T with
  | none => rw [e] at h; cases h
  | some l =>
    rw [e] at h
    have h : (l.all fun v => match v with | .type _ => true | _ => false) = true := h
    rw [Option.map_some]
    congr 1
    rw [Bool.eq_false_iff]
    intro c
    rw [List.contains_iff_mem] at c
    have := List.all_eq_true.mp h _ c
    cases this
end HL

/-! HLf: an exception class of one's own whose __init__ calls the __init__ of the class above it. -/
namespace HL
open PySem PySem.Spec PyProof.Rows L2 TL
/-- what is asked of the class above, by which __init__ is called -/
structure TopC (K : PySem.W.Frag) (C : Addr) : Prop where
  ga : PySem.W.specialIn K (.ref C) "__getattribute__" = some (some (.builtin "type.__getattribute__"))
  rd : PySem.W.readsIn K C (.type "type") = true
  vi : PySem.W.findCls K (.ref C) (.type "type") "__init__" = some (.val (.builtin "ValueError.__init__"))
theorem pe_meinit {X : Cx} {K : PySem.W.Frag} (hK : X.K = K) {x : Str} {C : Addr} {e : Expr} {es : List Expr} {ta : TA} {p1 p2 pos : Pos} {pl : Sem Bool} (hg : Gl X x) (hm : X.mg x = some (.ref C)) (T : TopC K C) (ha : PA X (e :: es) ta)
    (hdb : (x == ("__debug__" : Str)) = false := by decide)
    (hc : eval (.Call (.Attribute (.Name x p1) "__init__" p2) (e :: es) [] pos) X.env = (do
      let ov ← eval (.Name x p1) X.env
      standAt p2.atName
      let (f, first) ← holding [ov] (getMethod ov "__init__" pl)
      callWith pos f first (backTo pos (starEach (e :: es) X.env)) (backToKw pos (keywordEach [] X.env))) := by rfl)
    (he : starEach (e :: es) X.env = (false, eval e X.env) :: starEach es X.env := by rfl) (hpl : (backTo pos (starEach es X.env)).any (·.1) = false := by rfl) :
    PE X (.Call (.Attribute (.Name x p1) "__init__" p2) (e :: es) [] pos) (tVeI K ta) := by
  subst hK
  refine ⟨fun pins s σ H Q I h => ?_⟩
  refine PySem.W.methodCall_KW (ld_glob I hg hm ?_ hdb) hc
  refine PySem.W.method_cls I.kIn T.ga (PySem.W.cls_value I.kIn T.rd T.vi (by decide +kernel) ?_)
  show wpAny _ _ (callWith pos (Value.builtin "ValueError.__init__") [] (backTo pos (starEach (e :: es) X.env)) []) _ _ _
  refine callWith_method1 (thn (ha.run pos pins _ σ H _ (I.tok _) h) fun us s1 ⟨vs, H1, I1, r1, a, D, ws, ev, hl, TC, ea, q⟩ => ?_) he hpl
  subst ev
  cases r1 with
  | @cons _ u0 _ ur ra rw' =>
    cases ra
    exact oinit_ok TC I1 ea (by rw [← Paired.length rw', sizeLine_eq]; omega) fun s' J => ⟨.non, H1, J, rfl, q⟩
end HL

/-! HLi: instances compared by ==; lists of pairs of an instance and a number compared by !=; isinstance by two classes. -/
namespace HL
open PySem PySem.Spec PyProof.Rows L2 TL
/-- a class that has object's own __eq__ -/
structure EqC (K : PySem.W.Frag) (C : Addr) : Prop where
  top : PySem.W.mroIn K C (.type "object") = some true
  own : PySem.W.findIn K (.ref C) "__eq__" = some (some (.builtin "object.__eq__"))
section
variable {prog : Program} {w : World} {A : Around} {E : Value → Shared → Prop} {s : Shared} {K : PySem.W.Frag} {x y C : Addr} {ox oy : Obj} {dx dy : Option Obj}
/-- what one side says of the other -/
theorem asked_eq (kin : K.In s.heap) (I : PySem.W.InstAt s.heap x ox C dx) (J : s.heap.get? y = some oy) (c : EqC K C) {r : Option Value} (hr : if x = y then r = some (.bool true) else r = none) :
    wpAny (model prog w) A (tryCompare (.ref x) "__eq__" (.ref y)) (fun v s' => v = r ∧ s' = s) E s := by
  unfold tryCompare
  refine wpAny_bind (HN.ifBound_objEq kin I c.own (wpAny_call (codeAny_call_builtin F.cmp_object.eq.plain F.cmpEntry_eq
    (PySem.W.check_slot F.cmpKind_eq F.cmpSplit_eq (I.type.andThen (PySem.W.looks_mroIn kin c.top)) (F.cmpArgs_eq _ _) ?_))))
  by_cases e : x = y
  · subst e
    rw [if_pos rfl] at hr
    exact objEq_entry_same (wpAny_pure ⟨hr.symm, rfl⟩)
  · rw [if_neg e] at hr
    refine objEq_entry_other e I.at_ J (fun z => ?_) (wpAny_pure ⟨hr.symm, rfl⟩)
    rw [I.cls] at z
    cases z
theorem inst_eq (room : A.units < cLine) (kin : K.In s.heap) (I : PySem.W.InstAt s.heap x ox C dx) (J : PySem.W.InstAt s.heap y oy C dy) (c : EqC K C) : SeqAt.RcAt A s (.ref x) (.ref y) (decide (x = y)) := fun prog w E Q q => by
  simp only [richCompare, cmpInfo_Eq, oneThing_ref]
  refine wpAny_holding (wpAny_bind (wpAny_cRoomFor room ?_))
  refine wpAny_bind (I.type.here (wpAny_bind (J.type.here ?_)))
  rw [if_neg (by simp)]
  refine wpAny_bind (wpAny_pure ?_)
  by_cases e : x = y
  · subst e
    rw [decide_eq_true rfl] at q
    simp only [Bool.false_eq_true, if_false]
    refine wpAny_bind (wpAny_mono (asked_eq kin I J.at_ c (r := some (.bool true)) (by rw [if_pos rfl])) (fun v s1 z => ?_) fun _ _ z => z)
    obtain ⟨rfl, rfl⟩ := z
    exact wpAny_pure q
  · rw [decide_eq_false e] at q
    simp only [Bool.false_eq_true, if_false, Bool.not_false, if_true]
    refine wpAny_bind (wpAny_mono (asked_eq kin I J.at_ c (r := none) (by rw [if_neg e])) (fun v s1 z => ?_) fun _ _ z => z)
    obtain ⟨rfl, rfl⟩ := z
    refine wpAny_bind (wpAny_mono (asked_eq kin J I.at_ c (r := none) (by rw [if_neg (Ne.symm e)])) (fun v s1 z => ?_) fun _ _ z => z)
    obtain ⟨rfl, rfl⟩ := z
    refine wpAny_bind (wpAny_rule (wpAny_bind (wpAny_isSame_ref_other e I.at_ J.at_ (fun z => ?_) (wpAny_pure q))))
    rw [I.cls] at z
    cases z
/-- two objects, equal by richCompare -/
theorem eq_of_rc {b : Bool} (ne : x ≠ y) (h : SeqAt.RcAt A s (.ref x) (.ref y) b) : SeqAt.EqAt A s (.ref x) (.ref y) b := fun prog w E Q q => by
  unfold eqBool
  refine wpAny_holding (wpAny_ite_split (fun z => absurd (eq_of_beq z) fun z => ne (Value.ref.inj z)) (fun _ => ?_))
  exact wpAny_bind (h prog w E _ (wpAny_truthy_bool q))
end
section
variable {X : Cx} {K : PySem.W.Frag} {σ : L2.St} {H : Hp} {Q : VK}
def rEqI (K : PySem.W.Frag) : R2 := fun x y H Q => ∃ (a b C da db : Addr) (fa fb : List (Str × V)), x = .ref a ∧ y = .ref b ∧ H a = some (.ins C da fa) ∧ H b = some (.ins C db fb) ∧ EqC K C ∧ Q (.bl (decide (a = b))) H
theorem eqIK (hK : X.K = K) (hu : X.A.units + 64 < cLine) : OpR X (compareOp .Eq) (rEqI K) := by
  subst hK
  intro pins s σ H x y v u Q I rx ry h
  obtain ⟨a, b, C, da, db, fa, fb, rfl, rfl, ha, hb, c, q⟩ := h
  cases rx
  cases ry
  obtain ⟨_, oa, _⟩ := ins_get I.hok ha
  obtain ⟨_, ob, _⟩ := ins_get I.hok hb
  obtain ⟨_, ja, _⟩ := oa.look
  obtain ⟨_, jb, _⟩ := ob.look
  exact inst_eq (by omega) I.kIn ja jb c _ _ _ _ ⟨.bl _, H, I, rfl, q⟩
theorem s_eqI {a b C da db : Addr} {fa fb : List (Str × V)} (ha : H a = some (.ins C da fa)) (hb : H b = some (.ins C db fb)) (c : EqC K C) (q : Q (.bl (decide (a = b))) H) : rEqI K (.ref a) (.ref b) H Q := ⟨a, b, C, da, db, fa, fb, rfl, rfl, ha, hb, c, q⟩
/-- lists of pairs (an object, a number), pair by pair the same -/
def rNePairs (K : PySem.W.Frag) : R2 := fun x y H Q => ∃ (a b : Addr) (ps : List (Addr × Addr × Addr × Int)), x = .ref a ∧ y = .ref b ∧ SqL K H a (ps.map fun p => .ref p.1) ∧ SqL K H b (ps.map fun p => .ref p.2.1) ∧
  (∀ p ∈ ps, SqT K H p.1 [.ref p.2.2.1, .int p.2.2.2] ∧ SqT K H p.2.1 [.ref p.2.2.1, .int p.2.2.2]) ∧ Q (.bl false) H
theorem all_true {n : Nat} : ((List.range n).all fun _ => true) = true := List.all_eq_true.mpr fun _ _ => rfl
theorem nePK (hK : X.K = K) (hu : X.A.units + 64 < cLine) : OpR X (compareOp .NotEq) (rNePairs K) := by
  subst hK
  intro pins s σ H x y v u Q I rx ry h
  obtain ⟨a, b, ps, rfl, rfl, ha, hb, hp, q⟩ := h
  cases rx
  cases ry
  obtain ⟨us, r1, p1, _⟩ := I.list ha
  obtain ⟨ws, r2, p2, _⟩ := I.list hb
  have l1 := r1.length
  have l2 := r2.length
  rw [List.length_map] at l1 l2
  have z := SeqAt.RcNeAt.lists (A := X.A) (e := fun _ => true) p1.isList p2.isList (by simp only [List.size_toArray]; omega) (by omega) fun j h1 h2 => by
    simp only [List.size_toArray] at h1 h2
    have hj : j < ps.length := by omega
    obtain ⟨u1, e1, w1⟩ := r1.get (i := j) (x := .ref ps[j].1) (by rw [List.getElem?_map, List.getElem?_eq_getElem hj]; rfl)
    obtain ⟨u2, e2, w2⟩ := r2.get (i := j) (x := .ref ps[j].2.1) (by rw [List.getElem?_map, List.getElem?_eq_getElem hj]; rfl)
    cases w1
    cases w2
    have g1 : us.toArray[j] = .ref ps[j].1 := by
      rw [List.getElem?_eq_getElem h1] at e1
      simpa using e1
    have g2 : ws.toArray[j] = .ref ps[j].2.1 := by
      rw [List.getElem?_eq_getElem h2] at e2
      simpa using e2
    rw [g1, g2]
    by_cases same : ps[j].1 = ps[j].2.1
    · rw [same]
      exact SeqAt.EqAt.same _
    refine eq_of_rc same ?_
    obtain ⟨t1, t2⟩ := hp ps[j] (List.getElem_mem hj)
    obtain ⟨i1, m1, q1, _⟩ := I.tuple t1
    obtain ⟨i2, m2, q2, _⟩ := I.tuple t2
    obtain ⟨c1, d1, rfl, f1, k1⟩ := vals2 m1
    obtain ⟨c2, d2, rfl, f2, k2⟩ := vals2 m2
    cases f1
    cases f2
    obtain ⟨k1t, rfl⟩ := k1
    obtain ⟨k2t, rfl⟩ := k2
    have room : X.A.in1.units < cLine := by show X.A.units + 1 < cLine; omega
    exact SeqAt.RcAt.tuples (e := fun _ => true) q1 q2 room fun i g1 g2 => by
      match i, g1, g2 with
      | 0, _, _ => exact SeqAt.EqAt.same _
      | 1, _, _ => simpa using SeqAt.EqAt.int_int ps[j].2.2.2 k1t ps[j].2.2.2 k2t
  rw [all_true] at z
  exact z _ _ _ _ ⟨.bl false, H, I, rfl, q⟩
theorem isiTK (hK : X.K = K) : CallR X (.builtin "isinstance") (rIsiT K) := hK ▸ call_isiT
theorem s_isiT2 {x : V} {tp C D : Addr} {t : Value} {b d : Bool} (ht : H tp = some (.tup [.ref C, .ref D])) (ty : TyX K H x t) (k1 : PySem.W.kitOne K t (.ref C) = some b) (k2 : PySem.W.kitOne K t (.ref D) = some d) (q : Q (.bl (b || d)) H) :
    rIsiT K [x, .ref tp] H Q := by
  refine ⟨x, tp, [.ref C, .ref D], t, [.ref C, .ref D], b || d, rfl, ht, .cons (.own C) (.cons (.own D) .nil), ty, kitAny_cons k1 (fun e => ?_) (fun e => by rw [e]; rfl), q⟩
  subst e
  refine kitAny_cons k2 (fun e => ?_) (fun e => by rw [e]; rfl)
  subst e
  exact kitAny_nil
theorem s_lstRg1 {ta : TE} (h : ta σ H fun x H1 => ∃ n, x = .int n ∧ RgOk 0 n ∧ ∀ q, H1 q = none → Q (.ref q) (upd H1 q (.lst (rgV 0 n)))) : tLstRg (tRg1 ta) σ H Q := h
theorem s_vei {ta : TA} (h : ta σ H fun vs H1 => ∃ (a C : Addr) (ws : List V), vs = .ref a :: ws ∧ ws.length ≤ 1000 ∧ OexC K C ∧ H1 a = some (exo a C none) ∧ Q .non H1) : tVeI K ta σ H Q := h
theorem s_ost {f : Str} {to te : TE} {D : Ends} (h : te σ H fun y H1 => to σ H1 fun x H2 => ∃ a C : Addr, x = .ref a ∧ OexC K C ∧ PySem.W.findIn K (.ref C) f = some none ∧
    ((H2 a = some (exo a C none) ∧ ∀ dx, H2 dx = none → dx ≠ a → D.nx σ (upd (upd H2 dx (exd dx [(f, y)])) a (exo a C (some dx)))) ∨
      ∃ (dx : Addr) (fs : List (Str × V)), H2 a = some (exo a C (some dx)) ∧ H2 dx = some (exd dx fs) ∧ fs.length ≤ 900 ∧ D.nx σ (upd H2 dx (exd dx ((f, y) :: fs))))) : tOst K f to te D σ H := h
theorem s_mkO {C : Addr} {sp : Sp} {dvs : List V} {ta : TA} {R : XK} (h : ta σ H fun vs H1 => vs.length ≤ 1000 ∧ ∀ a, H1 a = none → sp (.ref a :: (vs ++ dvs)) (upd H1 a (exo a C none))
    (fun v H2 => v = .non ∧ ∃ (d : Addr) (fs : List (Str × V)), H2 a = some (exo a C (some d)) ∧ H2 d = some (exd d fs) ∧ H1 d = none ∧ R (.ref C) (some d) (upd (del H2 a) d (.xd fs))) (fun _ _ _ => False)) : tMkO C sp dvs ta σ H R := h
theorem s_callS {sp : Sp} {E : L2.St → XK} {t : TA} (h : t σ H fun vs H1 => sp vs H1 Q (E σ)) : tCallS sp E t σ H Q := h
theorem s_xf {a : Addr} {cls : Value} {d : Option Addr} {C : Addr} {f : Str} {te : TE} (h : te σ H fun x H1 => x = .ref a ∧ cls = .ref C ∧ ∃ (dd : Addr) (fs : List (Str × V)) (v : V), d = some dd ∧ H1 dd = some (.xd fs) ∧ fs.lookup f = some v ∧ Q v H1) : tXf a cls d C f te σ H Q := h
/-- an except clause's class, by what is asked of it -/
theorem exm_sub {K : PySem.W.Frag} {t : Value} {C : Addr} {b : Bool} (h1 : PySem.W.subIn K (.ref C) (.type "BaseException") = some true) (hc : PySem.W.isClsIn K C = true) (ht : PySem.W.typeIn K (.ref C) = some (.type "type"))
    (hs : PySem.W.subIn K t (.ref C) = some b) : PySem.W.exmOne K t (.ref C) = some b := by
  unfold PySem.W.exmOne
  rw [h1, if_pos (beq_self_eq_true _)]
  unfold PySem.W.kitCls
  dsimp only
  rw [if_pos (by rw [Bool.and_eq_true]; exact ⟨hc, by rw [ht]; exact beq_self_eq_true _⟩)]
  exact hs
/-- facts of an own exception class with an __init__: what its making asks, what reading its fields asks -/
structure ExcC (K : PySem.W.Frag) (C f : Addr) : Prop where
  ox : OexC K C
  ic : PySem.W.findIn K (.ref C) "__init__" = some (some (.ref f))
  ti : PySem.W.typeIn K (.ref f) = some (.type "function")
/-- a def of the text that may raise -/
def DnX (P : Program) (w : World) (K : PySem.W.Frag) (mg : Str → Option Value) (base : Heap) (k : Nat) (x : Str) (ps : List Str) (sp : Sp) : Prop :=
  ∃ (f : Addr) (fd : FuncData), FnOk P w K mg base (L2.CX P w) k f fd ps sp ∧ mg x = some (.ref f) ∧ PySem.W.keepIn K (.ref f) = true ∧ Binds K fd ps []
def DxF (P : Program) (w : World) (K : PySem.W.Frag) (mg : Str → Option Value) (base : Heap) (k : Nat) (C : Addr) (ps : List Str) (sp : Sp) : Prop :=
  ∃ (f : Addr) (fd : FuncData), FnOk P w K mg base CX0 k f fd ps sp ∧ ExcC K C f ∧ Binds K fd ps []
end
end HL

/-! HLq: repr of data: what it asks, how long it gets. -/
namespace HL
open PySem PySem.Spec PyProof.Rows L2 TL
/-! shown: how long -/
theorem short_str {z : Str} (h : OkL (tl z)) : PyData.leavesShort 410 (.str z) = true := by
  simp only [PyData.leavesShort, List.all_eq_true, decide_eq_true_eq]
  intro c hc
  exact Nat.lt_of_lt_of_le (h c hc) (by decide)
theorem short_all {xs : List PyData} (h : ∀ x ∈ xs, PyData.leavesShort 410 x = true) : PyData.leavesShortAll 410 xs = true := by
  induction xs with
  | nil => rfl
  | cons x r ih =>
    simp only [PyData.leavesShortAll, Bool.and_eq_true]
    exact ⟨h x List.mem_cons_self, ih fun y hy => h y (List.mem_cons_of_mem _ hy)⟩
theorem showable_all {xs : List PyData} (h : ∀ x ∈ xs, PyData.showable x = true) : PyData.showableAll xs = true := by
  induction xs with
  | nil => rfl
  | cons x r ih =>
    simp only [PyData.showableAll, Bool.and_eq_true]
    exact ⟨h x List.mem_cons_self, ih fun y hy => h y (List.mem_cons_of_mem _ hy)⟩
theorem noDict_all {xs : List PyData} (h : ∀ x ∈ xs, PyData.hasDict x = false) : PyData.hasDictAll xs = false := by
  induction xs with
  | nil => rfl
  | cons x r ih =>
    simp only [PyData.hasDictAll, Bool.or_eq_false_iff]
    exact ⟨h x List.mem_cons_self, ih fun y hy => h y (List.mem_cons_of_mem _ hy)⟩
theorem depth_all {xs : List PyData} {n : Nat} (h : ∀ x ∈ xs, PyData.depth x ≤ n) : PyData.depthAll xs ≤ n := by
  induction xs with
  | nil => exact Nat.zero_le _
  | cons x r ih =>
    simp only [PyData.depthAll]
    exact Nat.max_le.mpr ⟨h x List.mem_cons_self, ih fun y hy => h y (List.mem_cons_of_mem _ hy)⟩
theorem bulk_all {xs : List PyData} {n : Nat} (h : ∀ x ∈ xs, PyData.bulk x ≤ n) : PyData.bulkAll xs ≤ xs.length * (n + 1) := by
  induction xs with
  | nil => exact Nat.zero_le _
  | cons x r ih =>
    have h1 := h x List.mem_cons_self
    have h2 := ih fun y hy => h y (List.mem_cons_of_mem _ hy)
    simp only [PyData.bulkAll, List.length_cons, Nat.add_mul]
    omega
/-- what repr asks -/
structure ShowOk (x : PyData) (n k : Nat) : Prop where
  sh : x.leavesShort 410 = true
  ok : x.showable = true
  nd : x.hasDict = false
  dp : x.depth ≤ k
  bk : x.bulk ≤ n
theorem ShowOk.tup {xs : List PyData} {n k : Nat} (h : ∀ x ∈ xs, ∃ n, ShowOk x n k) (b : PyData.bulkAll xs ≤ n) : ShowOk (.tuple xs) n (k + 1) := by
  refine ⟨?_, ?_, ?_, ?_, ?_⟩
  · simp only [PyData.leavesShort]
    exact short_all fun x hx => (h x hx).choose_spec.sh
  · simp only [PyData.showable]
    exact showable_all fun x hx => (h x hx).choose_spec.ok
  · simp only [PyData.hasDict]
    exact noDict_all fun x hx => (h x hx).choose_spec.nd
  · simp only [PyData.depth]
    have := depth_all (n := k) fun x hx => (h x hx).choose_spec.dp
    omega
  · simp only [PyData.bulk]
    exact b
theorem ShowOk.str {z : Str} {k : Nat} (h : OkL (tl z)) : ShowOk (.str z) z.length k := ⟨short_str h, by simp only [PyData.showable], by simp only [PyData.hasDict], by simp only [PyData.depth]; exact Nat.zero_le _, by simp only [PyData.bulk]; exact Nat.le_refl _⟩
theorem ShowOk.int {n : Int} {k : Nat} (h : n.natAbs < 10 ^ 60) : ShowOk (.int n) 0 k := by
  refine ⟨?_, ?_, by simp only [PyData.hasDict], by simp only [PyData.depth]; exact Nat.zero_le _, by simp only [PyData.bulk]; exact Nat.zero_le _⟩
  · simp only [PyData.leavesShort, decide_eq_true_eq]
    have e : PyData.shown (.int n) = Str.ofString (toString n) := by simp only [PyData.shown]
    rw [e, PySem.ofString_length]
    exact Nat.le_trans (int_text_length_le10 (by decide) h) (by decide)
  · simp only [PyData.showable, decide_eq_true_eq]
    by_cases z : n.natAbs = 0
    · rw [z]; decide
    · exact (Nat.log2_lt z).mpr (Nat.lt_of_lt_of_le h (by decide +kernel))
theorem ShowOk.weak {x : PyData} {n m k l : Nat} (h : ShowOk x n k) (a : n ≤ m) (b : k ≤ l) : ShowOk x m l := ⟨h.sh, h.ok, h.nd, Nat.le_trans h.dp b, Nat.le_trans h.bk a⟩
/-- repr of a tuple that is laid out -/
theorem rep_show {K : PySem.W.Frag} {H : Hp} {Q : VK} {t : Addr} {xs : List PyData} {n : Nat} (d : Dp K H (.ref t) (.tuple xs)) (s : ShowOk (.tuple xs) n 60) (b : n ≤ 30000) (q : Q (.str (PyData.shown (.tuple xs))) H) : rReprD K [.ref t] H Q := by
  refine ⟨_, _, rfl, d, rfl, s.ok, s.nd, s.dp, ?_, q⟩
  have e := PyData.shown_le_bulk 410 (by decide) _ s.sh
  have := s.bk
  have := line63
  rw [sizeLine_eq]
  omega
end HL

/-! HLs: len(set(t)), t a tuple of texts. -/
namespace HL
open PySem PySem.Spec PyProof.Rows L2
abbrev eS (led : Bool) : Obj := { cls := .type "set", dict := none, data := .set #[] 0 (.fresh 0 0 led) }
/-- the first i of ks, each once: how many -/
def unlike (ks : List Str) : Nat → Nat
  | 0 => 0
  | i + 1 => if (ks.take i).any (· == ks.getD i Str.empty) then unlike ks i else unlike ks i + 1
theorem unlike_le (ks : List Str) : ∀ i, unlike ks i ≤ i
  | 0 => Nat.le_refl 0
  | i + 1 => by
    have := unlike_le ks i
    unfold unlike
    split <;> omega
abbrev metS (ks : List Str) (i : Nat) : Str → Bool := fun k => (ks.take i).any (· == k)
theorem metS_succ {ks : List Str} {i : Nat} (h : i < ks.length) (k : Str) : (metS ks i k || decide (k = ks.getD i Str.empty)) = metS ks (i + 1) k := by
  have e : ks.take (i + 1) = ks.take i ++ [ks.getD i Str.empty] := by
    rw [List.take_add_one, List.getD_eq_getElem?_getD, List.getElem?_eq_getElem h] <;> rfl
  unfold metS
  rw [e, List.any_append]
  congr 1
  by_cases c : k = ks.getD i Str.empty
  · subst c
    simp
  · have c2 : (ks.getD i Str.empty == k) = false := by simpa using fun z => c z.symm
    rw [decide_eq_false c, List.any_cons, List.any_nil, c2]
    rfl
section
variable {prog : Program} {w : World} {A : Around} {E : Value → Shared → Prop} {s : Shared}
/-- the loop that lays what a walk yields into the set -/
theorem lay_all {R : Result → Shared → Prop} {I : Addr} {fp wr : List Addr} {G : Array GenState → Array GenState → Prop} {n : Nat} {P : Nat → Value → Prop} {St : Nat → Shared → Prop}
    (W : WalksS prog w A.in1 I fp wr G n P St) {S : Addr} (far : S ∉ fp) (ks : List Str) (many : ks.length = n) (few : n + 1 < scanBound)
    (is : ∀ i v, P i v → ∃ t, v = .str (ks.getD i Str.empty) t) : ∀ (m : Nat) (i : Nat) (s : Shared), m + i = n → St i s →
      s.heap.SetOf (strKind prog w) S (metS ks i) (unlike ks i) →
      (∀ s', Moved (S :: wr) G s s' → s'.heap.SetOf (strKind prog w) S (metS ks n) (unlike ks n) → R (.ok (.ret .none)) s') →
      codeAny (model prog w) A (.builtin "set.update.loop" ⟨[.ref S, .ref I], []⟩) R s := by
  have off : S ∉ wr := fun z => far (W.sub _ z)
  have more : ∀ b ∈ wr, b ∈ S :: wr := fun _ z => .tail _ z
  intro m
  induction m with
  | zero =>
    intro i s e st held fin
    obtain rfl : i = n := by omega
    apply codeAny_builtin PyProof.Rows.F.entry_set_update_loop
    rw [Around.under_plainId PyProof.Rows.F.plain_set_update_loop _]
    show wpAny _ A.in1 (pyNext (.ref I) >>= _) _ _ s
    apply wpAny_bind
    apply W.done s _ _ st
    intro s' mv
    obtain ⟨o, es, ep, tb, at_, rest⟩ := held
    exact wpAny_pure (fin s' (mv.mono more) ⟨o, es, ep, tb, mv.heap S _ off at_, rest⟩)
  | succ m ih =>
    intro i s e st held fin
    have lt : i < n := by omega
    apply codeAny_builtin PyProof.Rows.F.entry_set_update_loop
    rw [Around.under_plainId PyProof.Rows.F.plain_set_update_loop _]
    show wpAny _ A.in1 (pyNext (.ref I) >>= _) _ _ s
    apply wpAny_bind
    apply W.item i s _ _ lt st
    intro v s' hv st' mv
    obtain ⟨t, rfl⟩ := is i v hv
    have held' : s'.heap.SetOf (strKind prog w) S (metS ks i) (unlike ks i) := by
      obtain ⟨o, es, ep, tb, at_, rest⟩ := held
      exact ⟨o, es, ep, tb, mv.heap S _ off at_, rest⟩
    show wpAny _ A.in1 (holding [Value.str (ks.getD i Str.empty) t] (setAdd S (.str (ks.getD i Str.empty) t)) >>= _) _ _ s'
    apply wpAny_bind
    apply wpAny_holding
    unfold setAdd
    apply wpAny_holding
    apply wpAny_bind
    apply (strKind prog w).pyHash (k := ks.getD i Str.empty) (strKind_is _ _ _ _)
    have room : unlike ks i + 1 < scanBound := by
      have := unlike_le ks i
      omega
    apply wpAny_setAddHashed_of (knd := strKind prog w) (s := { s' with toks := s'.toks + 1 }) (strKind_is _ _ _ _) rfl held' room
    intro h' same held2
    have held3 : h'.SetOf (strKind prog w) S (metS ks (i + 1)) (unlike ks (i + 1)) :=
      SetOf_congr held2 (fun k => metS_succ (many ▸ lt) k) rfl
    apply wpAny_pure
    refine ⟨plainId_quiet PyProof.Rows.F.plain_set_update_loop _, ih (i + 1) _ (by omega) ?_ held3 ?_⟩
    · apply W.frame _ s' _ _ st' (Nat.le_succ _)
      intro b hb o z
      rw [same.2 b (fun y : b = S => far (y ▸ hb))]
      exact z
    · intro s'' mv2 held4
      apply fin s'' _ held4
      apply Moved.trans W.gtrans _ mv2
      apply (mv.mono more).then_heap (Nat.le_succ _)
      intro b o hb z
      rw [same.2 b (fun y : b = S => hb (y ▸ List.mem_cons_self))]
      exact z
/-- what set(t) leaves: a new set, all else as it was -/
def SetLeft (prog : Program) (w : World) (s : Shared) (ks : List Str) (s' : Shared) : Prop :=
  ∃ (h' : Heap) (tk : Nat), s' = { s with heap := h', toks := tk } ∧ h'.SetOf (strKind prog w) s.heap.objs.size (metS ks ks.length) (unlike ks ks.length) ∧
    ∀ b o, b < s.heap.objs.size → s.heap.get? b = some o → h'.get? b = some o
/-- an answer that is none but a value told by W -/
theorem told {M : Model} {B : Around} {c : Code} {W : Value → Shared → Prop} {R : Result → Shared → Prop} {s1 : Shared}
    (run : codeAny M B c (wants W E) s1) (good : ∀ v s2, W v s2 → R (.ok (.ret v)) s2) (bad : ∀ e s2, E e s2 → R (.error e) s2) : codeAny M B c R s1 :=
  codeAny_mono run fun
    | .error e, s2, z => bad e s2 z
    | .ok (.ret v), s2, z => good v s2 z
    | .ok .next, _, z | .ok .brk, _, z | .ok .cont, _, z => nomatch z
/-- set(x), of any x: what the new set's init leaves is what the call leaves -/
theorem set_of {x : Value} {R : Shared → Prop} {Q : Value → Shared → Prop} (calm : A.handled = none)
    (init : ∀ (B : Around) (led : Bool), B.handled = none → codeAny (model prog w) B (.call (.builtin "set.__init__") ⟨[.ref s.heap.objs.size, x], []⟩)
      (wants (fun r s2 => r = .none ∧ R s2) E) { s with heap := s.heap.push (eS led) }) (q : ∀ s2, R s2 → Q (.ref s.heap.objs.size) s2) :
    wpAny (model prog w) A (call (.type "set") [x]) Q E s := by
  have F := PySem.F.called_set
  have ⟨_, _, mro⟩ := F.mro
  have sub := F.sub; have made := F.made; have may := F.canCreate; have other := F.notType
  have by1 := PySem.F.typeCall_set_1 x
  apply wpAny_call
  apply codeAny_of_tree
  change wpAny (model prog w) _ (callAny (Value.type "set") ⟨[x], []⟩) _ _ s
  refine wpAny_pure ⟨Code.quiet_builtin _ (by decide +kernel), ?_⟩
  apply codeAny_builtin PySem.F.entry_type_call
  rw [Around.under_plain (weight_type_call_type "set" [x] []) rfl]
  repeat any_goals first | assumption | wp_step
  refine told (code_set_new_1 x (E := E) (Q₁ := fun v s2 => ∃ led, v = .ref s.heap.objs.size ∧ s2 = { s with heap := s.heap.push (eS led) }) fun led => ⟨led, rfl, rfl⟩) ?_ fun _ _ z => z
  rintro _ _ ⟨led, rfl, rfl⟩
  have of : Shared.TypeIs { s with heap := s.heap.push (eS led) } (.ref s.heap.objs.size) "set" := ⟨_, Heap.get?_push_size _ rfl, rfl⟩
  have look := F.init.lookup
  have bound := F.init.bind (.ref s.heap.objs.size)
  repeat any_goals first | assumption | wp_step
  refine told (init _ led (by simpa using calm)) ?_ fun _ _ z => z
  rintro _ s2 ⟨rfl, left⟩
  repeat any_goals first | assumption | wp_step
  exact q s2 left
/-- the init of an empty set by a tuple of texts -/
theorem init_tup {l : Addr} {items : Array Value} {ks : List Str} {led : Bool} (hh : A.handled = none) (hl : s.heap.IsTuple l items)
    (hi : StrsAre items.toList ks) (few : ks.length + 1 < scanBound) :
    codeAny (model prog w) A (.call (.builtin "set.__init__") ⟨[.ref s.heap.objs.size, .ref l], []⟩)
      (wants (fun r s₂ => r = .none ∧ SetLeft prog w s ks s₂) E) { s with heap := s.heap.push (eS led) } := by
  have many : items.size = ks.length := by simpa using hi.len_eq
  have ⟨⟨c0, d0, k0, sl⟩, at_, ec, nl, ed⟩ := hl
  cases (show c0 = .type "tuple" from ec)
  cases (show k0 = .seq items nl from ed)
  have below : l < s.heap.objs.size := Heap.lt_size at_
  have stays : ∀ b o, s.heap.get? b = some o → (s.heap.push (eS led)).get? b = some o := fun _ _ => Heap.get?_push_of_some _
  have made : (s.heap.push (eS led)).get? s.heap.objs.size = some (eS led) := Heap.get?_push_size _ rfl
  have isT : (s.heap.push (eS led)).IsTuple l items := ⟨_, stays _ _ at_, rfl, nl, rfl⟩
  have at1 := stays _ _ at_
  have size1 : (s.heap.push (eS led)).objs.size = s.heap.objs.size + 1 := Heap.size_push ..
  have no1 := PySem.F.sub_tuple_set
  have no2 := PySem.F.sub_tuple_frozenset
  have no3 : (Value.type "tuple" == Value.type "dict") = false := by decide
  refine codeAny_call_builtin PySem.F.called_set.init.plain PySem.F.entry_set_init (check_set_init_1 ⟨_, made, rfl⟩ ?_)
  unfold Builtin.«set.__init__» noKeywords Builtin.Frozenset.updateFrom
  generalize hPI : pyIter = PI
  wp_walk
  subst hPI
  refine wpAny_pyIter_tuple isT (wpAny_bind (wpAny_runValue ?_))
  have other : ∀ n : Nat, n ≠ l → n ≠ s.heap.objs.size + 1 → n ∉ [(s.heap.push (eS led)).objs.size, l] := by
    intro n n1 n2
    simp [size1, n1, n2]
  have W := Walks.tuple (prog := prog) (w := w) (A := A.in1.in1) (by simp [hh]) (s.heap.push (eS led)).objs.size l (by rw [size1]; unfold Addr at *; omega) items
  have off := other s.heap.objs.size (by unfold Addr at *; omega) (by omega)
  apply lay_all W.toS off ks many.symm (by omega)
    (fun i v hv => SS.strs_at hi i v (by simpa using hv)) items.size 0 _ (Nat.add_zero _) ⟨⟨_, Heap.get?_push_size _ rfl, rfl, rfl⟩, isT.push _⟩
  · exact SetOf_congr ((setObjOf_fresh (knd := strKind prog w) led).setOf (Heap.get?_push_of_some _ made) (by decide)) (fun _ => rfl) rfl
  · intro s' mv held
    refine wpAny_pure (wpAny_pure ⟨rfl, s'.heap, s'.toks, ?_, many ▸ held, fun b o lt e => mv.heap b o ?_ (Heap.get?_push_of_some _ (stays _ _ e))⟩)
    · obtain ⟨h', g', d', tk', os'⟩ := s'
      cases (show g' = s.gens from mv.gens)
      cases (show d' = s.drawn from mv.drawn)
      cases (show os' = s.os from mv.os)
      rfl
    · simp only [List.mem_cons, List.not_mem_nil, or_false, size1]
      unfold Addr at *
      omega
theorem set_tup {l : Addr} {items : Array Value} {ks : List Str} {Q : Value → Shared → Prop} (hh : A.handled = none) (hl : s.heap.IsTuple l items)
    (hi : StrsAre items.toList ks) (few : ks.length + 1 < scanBound) (q : ∀ s', SetLeft prog w s ks s' → Q (.ref s.heap.objs.size) s') :
    wpAny (model prog w) A (call (.type "set") [.ref l]) Q E s :=
  set_of hh (fun _ _ calm => init_tup calm hl hi few) q
end
theorem strsAre : ∀ {ks : List Str} {us : List Value}, Vals (ks.map V.str) us → StrsAre us ks
  | [], _, .nil => .nil
  | k :: ks, _, .cons r t => by
    cases r with
    | intro u e => subst e; exact .cons k u (strsAre t)
def tLenSetT (K : PySem.W.Frag) (ta : TE) : TE := fun σ H Q =>
  ta σ H fun x H1 => ∃ (l : Addr) (ks : List Str), x = .ref l ∧ SqT K H1 l (ks.map V.str) ∧ ks.length ≤ 100 ∧ Q (.int (unlike ks ks.length : Nat)) H1
theorem pe_lenSetT {X : Cx} {K : PySem.W.Frag} (hK : X.K = K) {a : Expr} {ta : TE} {p p2 q pos : Pos} (calm : X.calm = true)
    (g1 : Gl X "len") (m1 : X.mg "len" = none) (g2 : Gl X "set") (m2 : X.mg "set" = none) (ha : PE X a ta)
    (na : starEach [a] X.env = (false, eval a X.env) :: starEach [] X.env := by rfl) :
    PE X (.Call (.Name "len" p) [.Call (.Name "set" p2) [a] [] q] [] pos) (tLenSetT K ta) where
  run := by
    subst hK
    intro pins s σ H Q I h
    apply Call_ (ld_blt I g1 m1 boot_len ?_)
    apply callWith_builtin1 (args_cons ?_ rfl) rfl rfl
    apply Call_ (ld_blt I g2 m2 boot_set ?_)
    apply callWith_type1 (args_cons (thn (ha.run pins s σ H _ I h) ?_) na) na rfl
    rintro v s1 ⟨x, H1, J, rv, l, ks, rfl, hq, few, hQ⟩
    apply args_nil
    cases rv
    obtain ⟨its, vals, isT, _⟩ := J.tuple hq
    apply set_tup (J.ok.hd calm) isT (strsAre (by simpa using vals)) (by unfold scanBound; omega)
    rintro s2 ⟨h', tk, rfl, ⟨o, es, ep, tb, at_, ex, hd, _, _, _, fits, many⟩, keep⟩
    apply args_nil
    have J2 : Inv X pins σ H1 { s1 with heap := h', toks := tk } := J.kept fun b o e => keep b o (Heap.lt_size e) e
    have small := unlike_le ks ks.length
    apply call_len_set at_ ex hd fits (by rw [many]; omega)
    exact ⟨.int (unlike ks ks.length : Nat), H1, J2.tok _, ⟨_, by rw [many]⟩, hQ⟩
section
variable {σ : L2.St} {H : Hp} {Q : VK} {K : PySem.W.Frag}
theorem s_lenSet {te : TE} (h : te σ H fun x H1 => ∃ (l : Addr) (ks : List Str), x = .ref l ∧ SqT K H1 l (ks.map V.str) ∧ ks.length ≤ 100 ∧ Q (.int (unlike ks ks.length : Nat)) H1) : tLenSetT K te σ H Q := h
end
end HL

/-! HLr: rows, in plain Lean. -/
namespace HL
open PySem PySem.Spec PyProof.Rows L2 TL
def faultW : List Str := ["NOMODULE", "NONAME", "HALF", "FLAT", "NOTASK", "ALL"]
def leadW : List Str := ["now", "take", "late", "ask"]
def isWordS (z : Str) : Bool := isNameL (tl z) || decide (z ∈ faultW)
/-- the words that a try catches, as drawn -/
structure OkWords (ws : List Str) : Prop where
  nd : ws.Nodup
  all : ∀ z ∈ ws, isWordS z = true
  few : ws.length ≤ 100
abbrev sD (l : List Nat) : PyData := .str (mkS l)
/-- a row as drawn, no try -/
inductive OkFlat : PyData → Prop
  | set {l : List Nat} {n : Int} : isNameL l = true → n.natAbs < 10 ^ 400 → OkFlat (.tuple [.str "set", sD l, .int n])
  | note {q : List Nat} : isPathL q = true → OkFlat (.tuple [.str "note", sD q])
  | fail {l : List Nat} : isNameL l = true → OkFlat (.tuple [.str "fail", sD l])
  | draw {l q m : List Nat} : isNameL l = true → isPathL q = true → isNameL m = true → OkFlat (.tuple [.str "draw", sD l, sD q, sD m])
  | lead {w : Str} {l q : List Nat} : w ∈ leadW → isNameL l = true → isPathL q = true → OkFlat (.tuple [.str w, sD l, sD q])
/-- a row as drawn, tries up to d one within another -/
inductive OkRow : Nat → PyData → Prop
  | flat {d : Nat} {x : PyData} : OkFlat x → OkRow d x
  | tryr {d : Nat} {a b : List PyData} {ws : List Str} : (∀ y ∈ a, OkRow d y) → OkWords ws → (∀ y ∈ b, OkRow d y) →
      OkRow (d + 1) (.tuple [.str "try", .tuple a, .tuple (ws.map .str), .tuple b])
/-- the k-th part of a tuple, a tuple -/
def partT (k : Nat) : PyData → List PyData
  | .tuple xs => match xs[k]? with
    | some (.tuple ys) => ys
    | _ => []
  | _ => []
def isTry : PyData → Bool
  | .tuple (.str w :: _) => decide (w = "try")
  | _ => false
def cntRow : Nat → PyData → Nat
  | 0, _ => 1
  | d + 1, x => if isTry x then 1 + ((partT 1 x).map (cntRow d)).sum + ((partT 3 x).map (cntRow d)).sum else 1
/-- how many rows -/
def cnts (d : Nat) (xs : List PyData) : Nat := (xs.map (cntRow d)).sum
theorem isTry_w {w : Str} (t : List PyData) (h : w ≠ "try") : isTry (.tuple (.str w :: t)) = false := decide_eq_false h
theorem OkFlat.notTry {x : PyData} (h : OkFlat x) : isTry x = false := by
  cases h with
  | set => exact isTry_w _ (by decide +kernel)
  | note => exact isTry_w _ (by decide +kernel)
  | fail => exact isTry_w _ (by decide +kernel)
  | draw => exact isTry_w _ (by decide +kernel)
  | lead hw =>
    simp only [leadW, List.mem_cons, List.not_mem_nil, or_false] at hw
    rcases hw with rfl | rfl | rfl | rfl <;> exact isTry_w _ (by decide +kernel)
theorem cntRow_flat {d : Nat} {x : PyData} (h : OkFlat x) : cntRow d x = 1 := by
  cases d with
  | zero => rfl
  | succ d => unfold cntRow; rw [h.notTry]; rfl
theorem isTry_try (t : List PyData) : isTry (.tuple (.str "try" :: t)) = true := by unfold isTry; exact decide_eq_true rfl
theorem cntRow_try (d : Nat) (a b : List PyData) (w : PyData) : cntRow (d + 1) (.tuple [.str "try", .tuple a, w, .tuple b]) = 1 + cnts d a + cnts d b := by
  unfold cntRow
  rw [isTry_try]
  rfl
theorem cnts_app (d : Nat) (xs ys : List PyData) : cnts d (xs ++ ys) = cnts d xs + cnts d ys := by unfold cnts; rw [List.map_append, List.sum_append]
theorem cnts_one (d : Nat) (x : PyData) : cnts d [x] = cntRow d x := by unfold cnts; simp
theorem cntRow_pos (d : Nat) (x : PyData) : 1 ≤ cntRow d x := by
  cases d with
  | zero => exact Nat.le_refl 1
  | succ d => unfold cntRow; split <;> omega
theorem len_le_cnts (d : Nat) : ∀ xs : List PyData, xs.length ≤ cnts d xs
  | [] => Nat.le_refl 0
  | x :: r => by
    have h1 := len_le_cnts d r
    have h2 := cntRow_pos d x
    unfold cnts at h1 ⊢
    rw [List.map_cons, List.sum_cons, List.length_cons]
    omega
mutual
theorem flat_strs : ∀ ws : List Str, flatAll (ws.map .str) = true
  | [] => rfl
  | w :: r => by
    show (flatD (.str w) && flatAll (r.map .str)) = true
    rw [flat_strs r]
    rfl
end
theorem flatAll_of : ∀ {xs : List PyData}, (∀ x ∈ xs, flatD x = true) → flatAll xs = true
  | [], _ => rfl
  | x :: r, h => by
    show (flatD x && flatAll r) = true
    rw [h x List.mem_cons_self, flatAll_of fun y hy => h y (List.mem_cons_of_mem _ hy)]
    rfl
theorem OkFlat.flat {x : PyData} (h : OkFlat x) : flatD x = true := by cases h <;> rfl
theorem OkRow.flatD : ∀ {d : Nat} {x : PyData}, OkRow d x → flatD x = true := by
  intro d
  induction d with
  | zero =>
    intro x h
    cases h with
    | flat h => exact h.flat
  | succ d ih =>
    intro x h
    cases h with
    | flat h => exact h.flat
    | tryr h1 h2 h3 =>
      show (true && (flatAll _ && (flatAll _ && (flatAll _ && true)))) = true
      rw [flatAll_of fun y hy => ih (h1 y hy), flatAll_of fun y hy => ih (h3 y hy), flat_strs]
      rfl
/-! data kept -/
theorem DpAll.snoc {K : PySem.W.Frag} {H : Hp} {v : V} {d : PyData} : ∀ {vs : List V} {ds : List PyData}, DpAll K H vs ds → Dp K H v d → DpAll K H (vs ++ [v]) (ds ++ [d])
  | _, _, .nil, h => .cons h .nil
  | _, _, .cons a b, h => .cons a (DpAll.snoc b h)
theorem DpAll.len {K : PySem.W.Frag} {H : Hp} : ∀ {vs : List V} {ds : List PyData}, DpAll K H vs ds → vs.length = ds.length
  | _, _, .nil => rfl
  | _, _, .cons _ b => congrArg (· + 1) (DpAll.len b)
theorem TupK.new {H : Hp} {t : Addr} {o : HO} (h : H t = none) : TupK H (upd H t o) := .of (W := []) (Kp.refl.upd_new h) fun x hx => absurd hx List.not_mem_nil
theorem TupK.lst {H : Hp} {l : Addr} {xs : List V} {o : HO} (h : H l = some (.lst xs)) : TupK H (upd H l o) :=
  .of (W := [l]) (Kp.refl.upd_mem List.mem_cons_self) fun x hx => by rw [List.mem_singleton.mp hx]; exact .lst h
theorem TupK.two {H H' : Hp} {p r : Addr} (k : Kp [p, r] H H') (hp : NoTup H p) (hr : NoTup H r) : TupK H H' := .of k fun x hx => by
  simp only [List.mem_cons, List.not_mem_nil, or_false] at hx
  rcases hx with rfl | rfl
  · exact hp
  · exact hr
theorem TupK.one {H H' : Hp} {p : Addr} (k : Kp [p] H H') (hp : NoTup H p) : TupK H H' := .of k fun x hx => by rw [List.mem_singleton.mp hx]; exact hp
theorem dpStrs {K : PySem.W.Frag} {H : Hp} : ∀ ws : List Str, DpAll K H (ws.map V.str) (ws.map PyData.str)
  | [] => .nil
  | x :: xs => .cons (.str x) (dpStrs xs)
theorem Kp.p_pr {p r : Addr} {A B : Hp} (k : Kp [p] A B) : Kp [p, r] A B := k.weak fun x hx => by rw [List.mem_singleton.mp hx]; exact List.mem_cons_self
theorem Kp.nil_pr {p r : Addr} {A B : Hp} (k : Kp [] A B) : Kp [p, r] A B := k.weak fun x hx => absurd hx List.not_mem_nil
theorem nin2 {a p r : Addr} (h1 : a ≠ p) (h2 : a ≠ r) : Nin a [p, r] := ⟨h1, h2, trivial⟩
/-! rows as they are judged -/
def isNameX : PyData → Bool
  | .str z => isNameL (tl z)
  | _ => false
def isPathX : PyData → Bool
  | .str z => isPathL (tl z)
  | _ => false
def isWholeX : PyData → Bool
  | .int _ => true
  | _ => false
/-- one part of a row that is no try -/
inductive Part : PyData → Prop
  | non : Part .none
  | int {n : Int} : n.natAbs < 10 ^ 400 → Part (.int n)
  | str {z : Str} : z.length ≤ 100000 → Part (.str z)
/-- a row as a text's reader makes it -/
inductive RowG : PyData → Prop
  | bare {w : Str} {ds : List PyData} : w.length ≤ 100000 → (∀ d ∈ ds, Part d) → ds.length ≤ 100000 → RowG (.tuple (.str w :: ds))
  | tryr {a b : List PyData} {ws : List Str} : (∀ y ∈ a, RowG y) → a.length ≤ 100000 → (∀ z ∈ ws, z.length ≤ 100000) → ws.length ≤ 100 → (∀ y ∈ b, RowG y) → b.length ≤ 100000 →
      RowG (.tuple [.str "try", .tuple a, .tuple (ws.map .str), .tuple b])
def nth (ds : List PyData) (k : Nat) : PyData := ds.getD k .none
/-- is_bare, of the parts behind the word w -/
def isBareX (w : Str) (t : List PyData) : Bool :=
  if w = "note" then decide (t.length = 1) && isPathX (nth t 0)
  else if w = "fail" then decide (t.length = 1) && isNameX (nth t 0)
  else if t.length < 2 then false
  else if isNameX (nth t 0) = false then false
  else if w = "set" then decide (t.length = 2) && isWholeX (nth t 1)
  else if w = "draw" then decide (t.length = 3) && (isPathX (nth t 1) && isNameX (nth t 2))
  else decide (w ∈ leadW) && (decide (t.length = 2) && isPathX (nth t 1))
/-- are_words, of texts -/
def areWordsX : PyData → Bool
  | .tuple ds => ds.all (fun d => match d with | .str z => isWordS z | _ => false) && decide (ds.map (fun d => match d with | .str z => z | _ => Str.empty)).Nodup
  | _ => false
/-- is_row_within -/
def isRowX : Nat → PyData → Bool
  | 0, .tuple (.str w :: t) => if w = "try" then false else isBareX w t
  | d + 1, .tuple (.str w :: t) => if w = "try" then decide (t.length = 3) && (areWordsX (nth t 1) &&
      ((partT 1 (.tuple (.str w :: t))).all (isRowX d) && (partT 3 (.tuple (.str w :: t))).all (isRowX d))) else isBareX w t
  | _, _ => false
theorem unlike_all (ks : List Str) : ∀ i, i ≤ ks.length → (unlike ks i = i ↔ (ks.take i).Nodup)
  | 0, _ => by simp [unlike]
  | i + 1, h => by
    have ih := unlike_all ks i (by omega)
    have le := unlike_le ks i
    have hi : i < ks.length := h
    have e : ks.take (i + 1) = ks.take i ++ [ks[i]] := by rw [List.take_add_one, List.getElem?_eq_getElem hi]; rfl
    have g : ks.getD i Str.empty = ks[i] := by rw [List.getD_eq_getElem?_getD, List.getElem?_eq_getElem hi]; rfl
    have any : (ks.take i).any (· == ks.getD i Str.empty) = decide (ks[i] ∈ ks.take i) := by
      rw [g, List.any_beq']
      exact Bool.eq_iff_iff.mpr (by simp)
    unfold unlike
    rw [any, e]
    by_cases c : ks[i] ∈ ks.take i
    · rw [if_pos (decide_eq_true c)]
      refine ⟨fun z => by omega, fun z => ?_⟩
      exact absurd rfl ((List.nodup_append.mp z).2.2 _ c _ (List.mem_singleton.mpr rfl))
    · rw [if_neg (by simpa using c)]
      refine ⟨fun z => List.nodup_append.mpr ⟨ih.mp (by omega), List.pairwise_singleton _ _, fun a ha b hb e => c (by rw [← List.mem_singleton.mp hb, ← e]; exact ha)⟩, fun z => ?_⟩
      rw [ih.mpr (List.nodup_append.mp z).1]
end HL

/-! HLt: rows as drawn are good rows. -/
namespace HL
open PySem PySem.Spec PyProof.Rows L2 TL
theorem sD_len {l : List Nat} {m : Nat} (h : l.length ≤ m) : (mkS l).length ≤ m := by rw [mkS_len]; exact h
theorem Part.name {l : List Nat} (h : isNameL l = true) : Part (sD l) := .str (sD_len (Nat.le_trans (isNameL_len h).2 (by decide)))
theorem Part.path {l : List Nat} (h : isPathL l = true) : Part (sD l) := .str (sD_len (Nat.le_trans (isPathL_facts h).2.1 (by decide)))
theorem isRowX_flat {d : Nat} {z : Str} {ds : List PyData} (h : z ≠ "try") : isRowX d (.tuple (.str z :: ds)) = isBareX z ds := by
  cases d with
  | zero => exact if_neg h
  | succ d => exact if_neg h
theorem parts1 {a : PyData} (h : Part a) : ∀ d ∈ [a], Part d := fun d hd => by rw [List.mem_singleton.mp hd]; exact h
theorem parts2 {a b : PyData} (h : Part a) (g : Part b) : ∀ d ∈ [a, b], Part d := fun d hd => by
  simp only [List.mem_cons, List.not_mem_nil, or_false] at hd
  rcases hd with rfl | rfl
  · exact h
  · exact g
theorem parts3 {a b c : PyData} (h : Part a) (g : Part b) (k : Part c) : ∀ d ∈ [a, b, c], Part d := fun d hd => by
  simp only [List.mem_cons, List.not_mem_nil, or_false] at hd
  rcases hd with rfl | rfl | rfl
  · exact h
  · exact g
  · exact k
theorem OkFlat.rowG {x : PyData} (h : OkFlat x) : RowG x := by
  cases h with
  | set h g => exact .bare (by decide +kernel) (parts2 (.name h) (.int g)) (by simp)
  | note h => exact .bare (by decide +kernel) (parts1 (.path h)) (by simp)
  | fail h => exact .bare (by decide +kernel) (parts1 (.name h)) (by simp)
  | draw h g k => exact .bare (by decide +kernel) (parts3 (.name h) (.path g) (.name k)) (by simp)
  | lead hw h g =>
    refine .bare ?_ (parts2 (.name h) (.path g)) (by simp)
    simp only [leadW, List.mem_cons, List.not_mem_nil, or_false] at hw
    rcases hw with rfl | rfl | rfl | rfl <;> decide +kernel
theorem isNameX_sD {l : List Nat} (h : isNameL l = true) : isNameX (sD l) = true := h
theorem isPathX_sD {l : List Nat} (h : isPathL l = true) : isPathX (sD l) = true := h
theorem OkFlat.isRow {x : PyData} (h : OkFlat x) (d : Nat) : isRowX d x = true := by
  have ne : ∀ {a b : Str}, decide (a = b) = false → a ≠ b := fun h => of_decide_eq_false h
  cases h with
  | @set l n h _ =>
    rw [isRowX_flat (by decide +kernel)]
    unfold isBareX
    rw [if_neg (ne (by decide +kernel)), if_neg (ne (by decide +kernel)), if_neg (by simp), if_neg (by show ¬ isNameX (sD l) = false; rw [isNameX_sD h]; simp), if_pos rfl]
    rfl
  | @note q h =>
    rw [isRowX_flat (by decide +kernel)]
    unfold isBareX
    rw [if_pos rfl]
    exact h
  | @fail l h =>
    rw [isRowX_flat (by decide +kernel)]
    unfold isBareX
    rw [if_neg (ne (by decide +kernel)), if_pos rfl]
    exact h
  | @draw l q m h g k =>
    rw [isRowX_flat (by decide +kernel)]
    unfold isBareX
    rw [if_neg (ne (by decide +kernel)), if_neg (ne (by decide +kernel)), if_neg (by simp), if_neg (by show ¬ isNameX (sD l) = false; rw [isNameX_sD h]; simp), if_neg (ne (by decide +kernel)), if_pos rfl]
    show (true && (isPathX (sD q) && isNameX (sD m))) = true
    rw [isPathX_sD g, isNameX_sD k]
    rfl
  | @lead w l q hw h g =>
    have hw2 := hw
    simp only [leadW, List.mem_cons, List.not_mem_nil, or_false] at hw2
    have n : w ≠ "try" ∧ w ≠ "note" ∧ w ≠ "fail" ∧ w ≠ "set" ∧ w ≠ "draw" := by
      rcases hw2 with rfl | rfl | rfl | rfl <;> decide +kernel
    rw [isRowX_flat n.1]
    unfold isBareX
    rw [if_neg n.2.1, if_neg n.2.2.1, if_neg (by simp), if_neg (by show ¬ isNameX (sD l) = false; rw [isNameX_sD h]; simp), if_neg n.2.2.2.1, if_neg n.2.2.2.2, decide_eq_true hw]
    exact g
theorem isWordS_len {z : Str} (h : isWordS z = true) : z.length ≤ 100000 := by
  unfold isWordS at h
  rw [Bool.or_eq_true] at h
  rcases h with h | h
  · rw [len_tl]; exact Nat.le_trans (isNameL_len h).2 (by decide)
  · have h := of_decide_eq_true h
    simp only [faultW, List.mem_cons, List.not_mem_nil, or_false] at h
    rcases h with rfl | rfl | rfl | rfl | rfl | rfl <;> decide +kernel
theorem le_sum_mem {d : Nat} : ∀ {xs : List PyData} {x : PyData}, x ∈ xs → cntRow d x ≤ cnts d xs
  | a :: r, x, h => by
    unfold cnts
    rw [List.map_cons, List.sum_cons]
    rcases List.mem_cons.mp h with rfl | h
    · omega
    · have := le_sum_mem (d := d) h
      unfold cnts at this
      omega
theorem areWordsX_ok {ws : List Str} (h : OkWords ws) : areWordsX (.tuple (ws.map .str)) = true := by
  have e : ∀ (f : Str → Str), (∀ z, f z = z) → ws.map f = ws := fun f h => (List.map_congr_left fun z _ => h z).trans (List.map_id' ws)
  have g := e ((fun d : PyData => match d with | .str z => z | _ => Str.empty) ∘ PyData.str) fun _ => rfl
  unfold areWordsX
  dsimp only
  rw [List.all_map, List.map_map, Bool.and_eq_true]
  refine ⟨List.all_eq_true.mpr fun z hz => h.all z hz, decide_eq_true ?_⟩
  exact (Iff.of_eq (congrArg List.Nodup g)).mpr h.nd
theorem OkRow.good : ∀ {d : Nat} {x : PyData}, OkRow d x → cntRow d x ≤ 100000 → RowG x ∧ isRowX d x = true := by
  intro d
  induction d with
  | zero =>
    intro x h _
    cases h with
    | flat h => exact ⟨h.rowG, h.isRow 0⟩
  | succ d ih =>
    intro x h c
    cases h with
    | flat h => exact ⟨h.rowG, h.isRow _⟩
    | @tryr _ a b ws h1 h2 h3 =>
      rw [cntRow_try] at c
      have ga : ∀ y ∈ a, RowG y ∧ isRowX d y = true := fun y hy => ih (h1 y hy) (Nat.le_trans (le_sum_mem hy) (by omega))
      have gb : ∀ y ∈ b, RowG y ∧ isRowX d y = true := fun y hy => ih (h3 y hy) (Nat.le_trans (le_sum_mem hy) (by omega))
      refine ⟨.tryr (fun y hy => (ga y hy).1) (Nat.le_trans (len_le_cnts d a) (by omega)) (fun z hz => isWordS_len (h2.all z hz)) h2.few (fun y hy => (gb y hy).1) (Nat.le_trans (len_le_cnts d b) (by omega)), ?_⟩
      show (if ("try" : Str) = "try" then _ else _) = true
      rw [if_pos rfl]
      show (true && (areWordsX (.tuple (ws.map .str)) && (a.all (isRowX d) && b.all (isRowX d)))) = true
      rw [areWordsX_ok h2, List.all_eq_true.mpr fun y hy => (ga y hy).2, List.all_eq_true.mpr fun y hy => (gb y hy).2]
      rfl
end HL

/-! FLa: exceptions in the air whose context is none, or one without context. -/
namespace L3
open PySem PySem.Spec PyProof.Rows L2
abbrev St := L2.St
/-- a chain of contexts that ends; R tells which objects stand where -/
inductive Chn (R : Addr → Obj → Prop) : Value → Prop
  | none : Chn R .none
  | ref {b : Addr} {ob : Obj} {ws : Array Value} {c : Value} : R b ob → ob.data = .fields ws → ws[2]? = some c → Chn R c → Chn R (.ref b)
theorem Chn.mono {R R' : Addr → Obj → Prop} (k : ∀ b o ws, R b o → o.data = .fields ws → R' b o) {c : Value} (x : Chn R c) : Chn R' c := by
  induction x with
  | none => exact .none
  | ref h d e _ ih => exact .ref (k _ _ _ h d) d e ih
/-- its objects, in a list -/
theorem Chn.list {R : Addr → Obj → Prop} {c : Value} (x : Chn R c) : ∃ L : List (Addr × Obj), (∀ p ∈ L, R p.1 p.2 ∧ ∃ ws, p.2.data = .fields ws) ∧ Chn (fun b o => (b, o) ∈ L) c := by
  induction x with
  | none => exact ⟨[], ⟨fun p hp => (nomatch hp), .none⟩⟩
  | @ref b ob ws c h d e _ ih =>
    obtain ⟨L, h1, h2⟩ := ih
    refine ⟨(b, ob) :: L, fun p hp => ?_, .ref List.mem_cons_self d e (h2.mono fun _ _ _ q _ => List.mem_cons_of_mem _ q)⟩
    rcases List.mem_cons.mp hp with rfl | hp
    · exact ⟨h, ws, d⟩
    · exact h1 p hp
/-- the context of an exception's object, as the ground B has it -/
def Ctx2 (B : Heap) (H : Hp) (o : Obj) : Prop := ∀ vs : Array Value, o.data = .fields vs → ∃ c, vs[2]? = some c ∧ Chn (fun b ob => B.get? b = some ob ∧ H b = none) c
theorem mapped_fields {o : Obj} {g : Array Value → Array Value} {vs : Array Value} (e : (o.mapFields g).data = .fields vs) : ∃ ws, o.data = .fields ws ∧ vs = g ws := by
  obtain ⟨c, d, dt, sl⟩ := o
  cases dt with
  | fields ws => exact ⟨ws, rfl, (Data.fields.inj e).symm⟩
  | _ => first | exact Data.noConfusion e | cases e
theorem set1_2 {vs : Array Value} {v : Value} : (vs.setIfInBounds 1 v)[2]? = vs[2]? := by
  first | exact Array.getElem?_setIfInBounds_ne (by decide) | simp [Array.getElem?_setIfInBounds]
theorem ctx2_steady {B : Heap} {H : Hp} : PXN.Steady1 (Ctx2 B H) := fun o v h vs e => by
  obtain ⟨ws, e1, rfl⟩ := mapped_fields e
  rw [set1_2]
  exact h ws e1
theorem Ctx2.none {B : Heap} {H : Hp} {o : Obj} (h : PXN.CtxN o) : Ctx2 B H o := fun vs e => ⟨_, h vs e, .none⟩
theorem Ctx2.size {B : Heap} {H : Hp} {o : Obj} {vs : Array Value} (h : Ctx2 B H o) (e : o.data = .fields vs) : 2 < vs.size := by
  obtain ⟨_, q, _⟩ := h vs e
  exact (Array.getElem?_eq_some_iff.mp q).1
def Zk (B : Heap) (H : Hp) (cls : Value) (d : Option Addr) : Obj → Prop := fun o => o.cls = cls ∧ o.dict = d ∧ Ctx2 B H o
theorem Zk.steady {B : Heap} {H : Hp} {cls : Value} {d : Option Addr} : PXN.Steady1 (Zk B H cls d) := fun o v z =>
  ⟨PXN.steady_cls o v z.1, PXN.steady_dict o v z.2.1, ctx2_steady o v z.2.2⟩
/-- an exception in the air of X; sI: the state without it -/
def XE (X : Cx) (W : WX) (u : Value) (t : Shared) : Prop :=
  ∃ (a : Addr) (B : Heap) (sI : Shared) (pins : List (Addr × Obj)) (σ : St) (H : Hp) (cls : Value) (d : Option Addr),
    u = .ref a ∧ Inv X pins σ H sI ∧ (∀ b o, sI.heap.get? b = some o → b ∉ frs X.stack → B.get? b = some o) ∧ sI.heap.UpToSlots t.heap ∧
      Sky B X.stack a (Zk B H cls d) X.env.locals t.heap ∧ H a = none ∧ t.os = sI.os ∧ AllBare t.gens ∧ W cls d σ H
def Takes (X : Cx) (W : WX) : Prop := ∀ u t, XE X W u t → X.xe u t
theorem XE.imp {X : Cx} {W W' : WX} {u : Value} {t : Shared} (h : ∀ c d σ H, W' c d σ H → W c d σ H) : XE X W' u t → XE X W u t := fun ⟨a, B, sI, pins, σ, H, cls, d, e, I, nb, up, sky, na, os, ag, w⟩ =>
  ⟨a, B, sI, pins, σ, H, cls, d, e, I, nb, up, sky, na, os, ag, h _ _ _ _ w⟩
theorem Takes.imp {X : Cx} {W W' : WX} (t : Takes X W) (h : ∀ c d σ H, W' c d σ H → W c d σ H) : Takes X W' := fun u s x => t u s (x.imp h)
theorem takes0 {X : Cx} : Takes X (fun _ _ _ _ => False) := fun _ _ x => by
  obtain ⟨_, _, _, _, _, _, _, _, _, _, _, _, _, _, _, _, z⟩ := x
  exact z.elim
/-- a call that let an exception out -/
def CX (P : Program) (w : World) (outer : List Env) (H : Hp) (s : Shared) (E : XK) (u : Value) (t : Shared) : Prop :=
  ∃ (a : Addr) (B : Heap) (H' : Hp) (cls : Value) (d : Option Addr), u = .ref a ∧ HandSPX.FlyingZ B outer a (Zk B H' cls d) t.heap ∧ HOk P w H' B ∧ UB (frs outer) H H' s.heap B t.heap ∧
    H' a = none ∧ t.os = s.os ∧ AllBare t.gens ∧ E cls d H'
section
variable {X : Cx} {pins : List (Addr × Obj)} {σ : St} {H : Hp} {sI s t : Shared} {B : Heap} {W : WX} {E : XK}
theorem XE.of_call (I : Inv X pins σ H s) {u : Value} (hW : ∀ cls d H', E cls d H' → W cls d σ H') (c : CX X.prog X.w X.stack H s E u t) : XE X W u t := by
  obtain ⟨a, B, H', cls, d, rfl, fl, hok, ub, na, os, ag, hE⟩ := c
  have stays : B.StaysIn t.heap := fl.1
  obtain ⟨G, in1, out1⟩ := restrict t.heap fun b => (B.get? b).isSome || decide (b ∈ frs X.stack)
  have ofB : ∀ b o, B.get? b = some o → G.get? b = some o := fun b o e => (in1 b (by simp [e])).trans (stays b o e)
  have ofF : ∀ b, b ∈ frs X.stack → G.get? b = t.heap.get? b := fun b hb => in1 b (by simp [hb])
  have back : ∀ b o, G.get? b = some o → t.heap.get? b = some o ∧ ((B.get? b).isSome = true ∨ b ∈ frs X.stack) := fun b o e => by
    cases q : ((B.get? b).isSome || decide (b ∈ frs X.stack)) with
    | true => exact ⟨(in1 b q).symm.trans e, by simpa [Bool.or_eq_true] using q⟩
    | false => rw [out1 b q] at e; cases e
  have J : Inv X pins σ H' { s with heap := G, gens := t.gens, drawn := t.drawn, toks := t.toks } := by
    refine I.call (ch := []) ⟨fun b o e n hb _ => ofB b o (ub.keep b o e n hb), fun b o e n hb _ => ?_, fun b o e n _ => ub.free b o e n, fun b o e _ => ?_, ub.tups, ub.frzs, ub.tbls⟩ (hok.kept ofB) ag (fun _ z => nomatch z)
    · obtain ⟨sl, q⟩ := ub.slot b o e hb
      exact ⟨sl, (ofF b hb).trans q⟩
    · by_cases hb : b ∈ frs X.stack
      · obtain ⟨sl, q⟩ := ub.slot b o e hb
        exact ⟨_, (ofF b hb).trans q⟩
      · obtain ⟨o', q⟩ := ub.there b o e hb
        exact ⟨o', ofB b o' q⟩
  refine ⟨a, B, _, pins, σ, H', cls, d, rfl, J, fun b o e hb => ?_, Heap.UpToSlots.of_keeps fun b o e => (back b o e).1, .inr (.inl fl), na, os, ag, hW _ _ _ hE⟩
  obtain ⟨e1, q | q⟩ := back b o e
  · obtain ⟨o', q⟩ := Option.isSome_iff_exists.mp q
    have := (stays b o' q).symm.trans e1
    cases this
    exact q
  · exact absurd q hb
/-- the ground of a new exception: what stands but the frames -/
theorem XE.new {a : Addr} {oe : Obj} {vs : Array Value} {cls : Value} {d : Option Addr} (I : Inv X pins σ H sI) (k : ∀ b o, sI.heap.get? b = some o → t.heap.get? b = some o) (gone : sI.heap.get? a = none) (he : t.heap.get? a = some oe)
    (hz : Zk (PySem.W.hideAll sI.heap (frs X.stack)) H cls d oe) (hd : oe.data = .fields vs) (h1 : vs[1]? = some .none) (na : H a = none) (os : t.os = sI.os) (ag : AllBare t.gens) (w : W cls d σ H) : XE X W (.ref a) t := by
  have hid : (PySem.W.hideAll sI.heap (frs X.stack)).get? a = none := by
    cases q : (PySem.W.hideAll sI.heap (frs X.stack)).get? a with
    | none => rfl
    | some o => exact absurd (gone.symm.trans (PySem.W.of_hideAll _ q)) (fun z => nomatch z)
  have fr : t.heap.FunFrames (PySem.W.hideAll sI.heap (frs X.stack)) X.stack :=
    Heap.FunFrames.of_keeps (fun b o e _ => ⟨o, k b o e, rfl⟩) (funFrames_none I.stack fun b hb => PySem.W.hideAll_none _ hb)
  exact ⟨a, _, sI, pins, σ, H, cls, d, rfl, I, fun b o e hb => PySem.W.hideAll_get _ e hb, Heap.UpToSlots.of_keeps k,
    .inl ⟨fun b o e => k b o (PySem.W.of_hideAll _ e), hid, fr, oe, vs, he, hz, hd, h1⟩, na, os, ag, w⟩
theorem XE.leave (hs : X.stack = X.env :: X.outer) (hf : X.env.frame = some X.env.locals) (hex : X.ex = []) {E₁ : Value → Shared → Prop} (hW : ∀ cls d σ H, W cls d σ H → E cls d H) {u : Value} (x : XE X W u t) :
    wpAny (model X.prog X.w) X.A (leaving X.env u) (fun _ t2 => CX X.prog X.w X.outer X.H_0 X.s_0 E u t2) E₁ t := by
  obtain ⟨a, B, sI, pins, σ, H, cls, d, rfl, I, nb, up, sky, na, os, ag, w⟩ := x
  have noex : ∀ b, b ∉ X.ex := fun b hb => by rw [hex] at hb; cases hb
  have frames : X.A.frames = some (X.env :: X.outer) := I.ok.frames.trans (by rw [hs])
  have nfr : ∀ b o, X.s_0.heap.get? b = some o → b ∉ X.fs → b ∉ frs X.stack := fun b o e hb hm => by
    rcases List.mem_cons.mp (I.stkSub b hm) with z | z
    · have := Nat.lt_of_lt_of_le (Heap.lt_size e) I.ok.above
      rw [z] at this
      exact Nat.lt_irrefl _ this
    · exact hb z
  have fin : ∀ h', HandSPX.FlyingZ B X.outer a (Zk B H cls d) h' → t.heap.UpToSlots h' → CX X.prog X.w X.outer X.H_0 X.s_0 E (.ref a) { t with heap := h' } := fun h' fl up' => by
    have ub : UB (frs X.outer) X.H_0 H X.s_0.heap B h' := ⟨fun b o e n hb => nb b o (I.base.keep b o e n hb (noex b)) (nfr b o e hb), fun b o e hb => by
      obtain ⟨_, o₀, e₀, nf⟩ := I.ok.funs.mem hb
      have eo := Option.some.inj (e.symm.trans e₀)
      subst eo
      obtain ⟨s1, e1⟩ := I.base.slot b o e (I.ok.frf b hb) hb (noex b)
      obtain ⟨s2, e2⟩ := up b _ e1 nf
      obtain ⟨s3, e3⟩ := up' b _ e2 nf
      exact ⟨s3, e3⟩, fun b o e n => I.base.free b o e n (noex b), fun b o e hb => by
      obtain ⟨o', e1⟩ := I.base.there b o e (noex b)
      exact ⟨o', nb b o' e1 (nfr b o e hb)⟩, I.base.tups, I.base.frzs, I.base.tbls⟩
    exact ⟨a, B, H, cls, d, rfl, fl, I.inGround nb, ub, na, os.trans I.os, ag, hW _ _ _ _ w⟩
  rw [hs] at sky
  rcases sky with ⟨hB, hn, hl, oe, vs, he, hz, hd, h1⟩ | fl | hh
  · exact PXN.leaving_firstZ Zk.steady frames hl hf he hB hn hd h1 hz fin
  · exact PXN.leaves_onZ Zk.steady frames hf fl fin
  · exact HandSPX.leaves_heldZ hf hh fin
theorem takes_of (hs : X.stack = X.env :: X.outer) (hf : X.env.frame = some X.env.locals) (hex : X.ex = []) {E₁ : Value → Shared → Prop}
    (hx : X.xe = fun e s' => wpAny (model X.prog X.w) X.A (leaving X.env e) (fun _ s'' => CX X.prog X.w X.outer X.H_0 X.s_0 E e s'') E₁ s') : Takes X (fun cls d _ H => E cls d H) := fun u t x => by
  rw [hx]
  exact XE.leave (W := fun cls d _ H => E cls d H) hs hf hex (fun _ _ _ _ h => h) x
theorem passAt (tk : Takes X W) (σ : St) : PassesAt (CX X.prog X.w) X σ (WE W σ) := fun _ _ _ u t I c => tk u t (XE.of_call I (fun _ _ _ h => h) c)
end
end L3

/-! FLb: an exception that was caught and flies on; an except suite, with a name, that raises. -/
namespace L3
open PySem PySem.Spec PyProof.Rows L2
section
variable {X : Cx} {pins : List (Addr × Obj)} {σ : St} {H : Hp} {s : Shared}
/-- some objects that nothing leans on are left out -/
theorem thin {G : Heap} {gone : Addr → Prop} (I : Inv X pins σ H s) (k : ∀ b o, s.heap.get? b = some o → ¬ gone b → G.get? b = some o) (g0 : ∀ b, gone b → X.s_0.heap.get? b = none) (gL : ¬ gone X.env.locals)
    (gC : ∀ x c, X.env.cells.lookup x = some c → ¬ gone c) (gP : ∀ p ∈ X.pn ++ pins, ¬ gone p.1) (gH : ∀ b, gone b → H b = none) : Inv X pins σ H { s with heap := G } := by
  have n0 : ∀ b o, X.s_0.heap.get? b = some o → ¬ gone b := fun b o e z => by rw [g0 b z] at e; cases e
  refine ⟨I.ok, I.os, I.bare, ⟨fun b o e n hb hx => k b o (I.base.keep b o e n hb hx) (n0 b o e), fun b o e n hb hx => ?_, I.base.free, fun b o e hx => ?_, I.base.tups, I.base.frzs, I.base.tbls⟩, ?_, fun x c e => ?_, I.free, I.freeC, fun p hp => ?_, fun b u e => ?_, I.len⟩
  · obtain ⟨sl, q⟩ := I.base.slot b o e n hb hx
    exact ⟨sl, k b _ q (n0 b o e)⟩
  · obtain ⟨o', q⟩ := I.base.there b o e hx
    exact ⟨o', k b o' q (n0 b o e)⟩
  · obtain ⟨m, ⟨ob, es, ep, ho, r⟩, hl⟩ := I.loc
    refine ⟨m, ⟨ob, es, ep, k _ _ ho gL, r⟩, fun i x v e1 e2 e3 => ?_⟩
    obtain ⟨u, ru, q⟩ := hl i x v e1 e2 e3
    refine ⟨u, ru, ?_⟩
    rcases q with q | ⟨kd, c, e, oc, hc, hd⟩
    · exact .inl q
    · exact .inr ⟨kd, c, e, oc, k _ _ hc (gC x c e), hd⟩
  · obtain ⟨v, oc, hc, hd⟩ := I.cell x c e
    exact ⟨v, oc, k _ _ hc (gC x c e), hd⟩
  · obtain ⟨e, r⟩ := I.pin p hp
    exact ⟨k _ _ e (gP p hp), r⟩
  · refine (I.hok b u e).stay (fun c v hc q => k c v q fun z => ?_) (fun _ q => q) fun _ _ q => q
    have n := gH c z
    rcases hc with rfl | hc
    · rw [e] at n; cases n
    · rw [hc] at n; cases n
/-- an address that nothing of ours is at -/
structure Off (X : Cx) (pins : List (Addr × Obj)) (H : Hp) (b : Addr) : Prop where
  s0 : X.s_0.heap.get? b = none
  loc : b ≠ X.env.locals
  fs : b ∉ X.fs
  free : H b = none
  pin : ∀ p ∈ X.pn ++ pins, p.1 ≠ b
/-- the context of a caught exception stands in the heap -/
def Ctx3 (X : Cx) (H : Hp) (h : Heap) (a T : Addr) (vs : Array Value) : Prop := ∃ c, vs[2]? = some c ∧
  Chn (fun b ob => h.get? b = some ob ∧ b ≠ a ∧ b ≠ T ∧ b ≠ X.env.locals ∧ b ∉ X.fs ∧ H b = none) c
/-- an exception, its traceback, its flight -/
def Crew (X : Cx) (pins : List (Addr × Obj)) (H : Hp) (h : Heap) (a T : Addr) (cls : Value) (d : Option Addr) (fl : Value) : Prop :=
  (∃ (oe oT : Obj) (vs ts : Array Value), h.get? a = some oe ∧ h.get? T = some oT ∧ oe.cls = cls ∧ oe.dict = d ∧ oe.data = .fields vs ∧ vs[1]? = some (.ref T) ∧ oT.data = .fields ts ∧ ts[3]? = some fl ∧ Ctx3 X H h a T vs) ∧
    T ≠ a ∧ Off X pins H a ∧ Off X pins H T
variable {a T : Addr} {cls : Value} {d : Option Addr} {fl : Value}
theorem no_cell (I : Inv X pins σ H s) {o : Obj} {vs : Array Value} (e : s.heap.get? a = some o) (hd : o.data = .fields vs) {x : Str} {c : Addr} (hc : X.env.cells.lookup x = some c) : c ≠ a := fun z => by
  obtain ⟨v, oc, ho, hd2⟩ := I.cell x c hc
  rw [z, e] at ho
  cases ho
  rw [hd] at hd2
  cases hd2
theorem Off.stk (I : Inv X pins σ H s) {b : Addr} (o : Off X pins H b) : b ∉ frs X.stack := fun hm => (List.mem_cons.mp (I.stkSub b hm)).elim o.loc o.fs
theorem crew_out {W : WX} (I : Inv X pins σ H s) (c : Crew X pins H s.heap a T cls d (rawInt X.env.locals)) (w : W cls d σ H) : XE X W (.ref a) s := by
  obtain ⟨⟨oe, oT, vs, ts, he, hT, ec, ed, hd, h1, hdT, h3, cx⟩, ne, oa, oT'⟩ := c
  obtain ⟨G, in1, out1⟩ := restrict s.heap fun b => !decide (b = a) && !decide (b = T)
  have inG : ∀ b o, s.heap.get? b = some o → ¬ (b = a ∨ b = T) → G.get? b = some o := fun b o e n => (in1 b (by simp only [not_or] at n; simp [n.1, n.2])).trans e
  have sub : ∀ b o, G.get? b = some o → s.heap.get? b = some o := fun b o e => by
    cases q : (!decide (b = a) && !decide (b = T)) with
    | true => exact (in1 b q).symm.trans e
    | false => rw [out1 b q] at e; cases e
  have J : Inv X pins σ H { s with heap := G } := thin (gone := fun b => b = a ∨ b = T) I inG
    (fun b z => z.elim (fun q => q ▸ oa.s0) (fun q => q ▸ oT'.s0)) (fun z => z.elim (fun z => oa.loc z.symm) (fun z => oT'.loc z.symm))
    (fun x c e z => z.elim (no_cell I he hd e) (no_cell I hT hdT e)) (fun p hp z => z.elim (oa.pin p hp) (oT'.pin p hp)) (fun b z => z.elim (fun q => q ▸ oa.free) (fun q => q ▸ oT'.free))
  have hidden : ∀ b, (b = a ∨ b = T) → (PySem.W.hideAll G (frs X.stack)).get? b = none := fun b z => by
    cases q : (PySem.W.hideAll G (frs X.stack)).get? b with
    | none => rfl
    | some o =>
      have := PySem.W.of_hideAll _ q
      rw [out1 b (by rcases z with rfl | rfl <;> simp)] at this
      cases this
  have ctx : Ctx2 (PySem.W.hideAll G (frs X.stack)) H oe := fun vs' e => by
    have := Data.fields.inj (hd.symm.trans e)
    subst this
    obtain ⟨c, q, ch⟩ := cx
    exact ⟨c, q, ch.mono fun b ob ws ⟨q2, q3, q4, q5, q6, q7⟩ _ => ⟨PySem.W.hideAll_get _ (inG b ob q2 (not_or.mpr ⟨q3, q4⟩)) fun hm => (List.mem_cons.mp (I.stkSub b hm)).elim q5 q6, q7⟩⟩
  have held : HandSPX.HeldZ (PySem.W.hideAll G (frs X.stack)) X.stack a (Zk (PySem.W.hideAll G (frs X.stack)) H cls d) X.env.locals s.heap :=
    ⟨fun b o e => sub b o (PySem.W.of_hideAll _ e), hidden a (.inl rfl), funFrames_none I.stack fun b hb => PySem.W.hideAll_none _ hb, oe, vs, T, oT, ts, he, ⟨ec, ed, ctx⟩, hd, h1, hidden T (.inr rfl), ne, hT, hdT, h3⟩
  exact ⟨a, _, _, pins, σ, H, cls, d, rfl, J, fun b o e hb => PySem.W.hideAll_get _ e hb, Heap.UpToSlots.of_keeps sub, .inr (.inr held), oa.free, rfl, I.bare, w⟩
/-- what flies, or is held, over a ground that bears us -/
theorem crew_of {B h : Heap} {sI : Shared} (J : Inv X pins σ H sI) (nb : ∀ b o, sI.heap.get? b = some o → b ∉ frs X.stack → B.get? b = some o) (hex : ∀ b o, X.s_0.heap.get? b = some o → b ∉ X.ex) (hf : X.stack = X.env :: X.outer) (hL : X.env.frame = some X.env.locals)
    (st : B.StaysIn h) (na : B.get? a = none) (ff : h.FunFrames B X.stack) (tr : HandSPX.TracedZ h B a (Zk B H cls d) fl) : ∃ T, Crew X pins H h a T cls d fl := by
  obtain ⟨oe, vs, T, oT, ts, he, ⟨ec, ed, cx⟩, hd, h1, nT, ne, hT, hdT, h3⟩ := tr
  have notF : ∀ {b : Addr} {o : Obj} {zs : Array Value}, h.get? b = some o → o.data = .fields zs → b ∉ frs X.stack := fun {b o zs} e q hm => by
    obtain ⟨_, o', e', nf⟩ := ff.mem hm
    rw [e] at e'
    cases e'
    exact nf _ q
  have off : ∀ {b : Addr} {o : Obj} {zs : Array Value}, h.get? b = some o → o.data = .fields zs → B.get? b = none → Off X pins H b := fun {b o zs} e q n => by
    have nf := notF e q
    have nI : sI.heap.get? b = none := by
      cases z : sI.heap.get? b with
      | none => rfl
      | some o' => rw [nb b o' z nf] at n; cases n
    refine ⟨?_, fun z => nf (by rw [hf, z]; exact List.mem_filterMap.mpr ⟨X.env, List.mem_cons_self, hL⟩), fun hm => nf (by
      obtain ⟨e2, h2, q2⟩ := List.mem_filterMap.mp hm
      rw [hf]
      exact List.mem_filterMap.mpr ⟨e2, List.mem_cons_of_mem _ h2, q2⟩), J.hok.gone nI, fun p hp z => ?_⟩
    · cases z : X.s_0.heap.get? b with
      | none => rfl
      | some o' =>
        obtain ⟨o2, q2⟩ := J.base.there b o' z (hex b o' z)
        rw [nI] at q2
        cases q2
    · have := (J.pin p hp).1
      rw [z, nI] at this
      cases this
  refine ⟨T, ⟨oe, oT, vs, ts, he, hT, ec, ed, hd, h1, hdT, h3, ?_⟩, ne, off he hd na, off hT hdT nT⟩
  obtain ⟨c, q, ch⟩ := cx vs hd
  refine ⟨c, q, ch.mono fun b ob ws ⟨q2, q5⟩ q3 => ?_⟩
  have nf := notF (st b ob q2) q3
  refine ⟨st b ob q2, fun z => ?_, fun z => ?_, fun z => nf (by rw [hf, z]; exact List.mem_filterMap.mpr ⟨X.env, List.mem_cons_self, hL⟩), fun hm => nf (by
    obtain ⟨e2, h2, p2⟩ := List.mem_filterMap.mp hm
    rw [hf]
    exact List.mem_filterMap.mpr ⟨e2, List.mem_cons_of_mem _ h2, p2⟩), q5⟩
  · rw [z, na] at q2; cases q2
  · rw [z, nT] at q2; cases q2
end
end L3

/-! FLc: try .. except X as n: a suite that may raise, or raise anew what was caught. -/
namespace L3
open PySem PySem.Spec PyProof.Rows L2
section
variable {X : Cx} {pins : List (Addr × Obj)} {σ : St} {H : Hp} {s : Shared} {a T : Addr} {cls : Value} {d : Option Addr} {fl : Value}
/-- what a pin says -/
abbrev PinAt (X : Cx) (H : Hp) (h : Heap) (p : Addr × Obj) : Prop := h.get? p.1 = some p.2 ∧ H p.1 = none ∧ p.1 ≠ X.env.locals ∧ p.1 ∉ X.fs ∧ ∀ v, p.2.data ≠ .cell v
/-- what is known of the exception that is handled, by pins -/
def HotQ (A : Around) (pn : List (Addr × Obj)) (a : Addr) : Prop := A.handled = some (.ref a) ∧ ∃ (oe : Obj) (vs : Array Value) (c : Value), (a, oe) ∈ pn ∧ oe.data = .fields vs ∧ vs[2]? = some c ∧ Chn (fun b o => (b, o) ∈ pn) c
def HotL (A : Around) (pn : List (Addr × Obj)) (a T : Addr) : Prop := A.handled = some (.ref a) ∧ ∃ (oe : Obj) (vs : Array Value) (c : Value), (a, oe) ∈ pn ∧ oe.data = .fields vs ∧ vs[1]? = some (.ref T) ∧ vs[2]? = some c ∧ Chn (fun b o => (b, o) ∈ pn) c
theorem HotL.q {A : Around} {pn : List (Addr × Obj)} {a T : Addr} (h : HotL A pn a T) : HotQ A pn a := by
  obtain ⟨h1, oe, vs, c, h2, h3, _, h4, h5⟩ := h
  exact ⟨h1, oe, vs, c, h2, h3, h4, h5⟩
theorem nocell_of {o : Obj} {vs : Array Value} (e : o.data = .fields vs) : ∀ v, o.data ≠ .cell v := fun v z => by rw [e] at z; cases z
theorem crew_pins {h : Heap} (c : Crew X pins H h a T cls d fl) : ∃ P : List (Addr × Obj), (∀ p ∈ P, PinAt X H h p) ∧ (∀ (H' : Hp) (h' : Heap), (∀ p ∈ P, h'.get? p.1 = some p.2) → (∀ p ∈ P, H' p.1 = none) → Crew X pins H' h' a T cls d fl) ∧
    ∃ (oe : Obj) (vs : Array Value) (c : Value), (a, oe) ∈ P ∧ oe.cls = cls ∧ oe.dict = d ∧ oe.data = .fields vs ∧ vs[1]? = some (.ref T) ∧ vs[2]? = some c ∧ Chn (fun b o => (b, o) ∈ P) c := by
  obtain ⟨⟨oe, oT, vs, ts, he, hT, ec, ed, hd, h1, hdT, h3, c, hc, cx⟩, ne, oa, oT'⟩ := c
  obtain ⟨L, l1, l2⟩ := cx.list
  refine ⟨(a, oe) :: (T, oT) :: L, fun p hp => ?_, fun H' h' k z => ?_, oe, vs, c, List.mem_cons_self, ec, ed, hd, h1, hc, l2.mono fun _ _ _ q _ => List.mem_cons_of_mem _ (List.mem_cons_of_mem _ q)⟩
  · rcases List.mem_cons.mp hp with rfl | hp
    · exact ⟨he, oa.free, oa.loc, oa.fs, nocell_of hd⟩
    · rcases List.mem_cons.mp hp with rfl | hp
      · exact ⟨hT, oT'.free, oT'.loc, oT'.fs, nocell_of hdT⟩
      · obtain ⟨⟨q1, _, _, q4, q5, q6⟩, ws, q7⟩ := l1 p hp
        exact ⟨q1, q6, q4, q5, nocell_of q7⟩
  · have mL : ∀ p ∈ L, p ∈ (a, oe) :: (T, oT) :: L := fun p hp => List.mem_cons_of_mem _ (List.mem_cons_of_mem _ hp)
    refine ⟨⟨oe, oT, vs, ts, k _ List.mem_cons_self, k (T, oT) (by simp), ec, ed, hd, h1, hdT, h3, c, hc, l2.mono fun b o ws q _ => ?_⟩, ne, ⟨oa.s0, oa.loc, oa.fs, z _ List.mem_cons_self, oa.pin⟩, ⟨oT'.s0, oT'.loc, oT'.fs, z (T, oT) (by simp), oT'.pin⟩⟩
    obtain ⟨⟨_, q2, q3, q4, q5, _⟩, _⟩ := l1 (b, o) q
    exact ⟨k _ (mL _ q), q2, q3, q4, q5, z _ (mL _ q)⟩
/-- its flight is set -/
theorem crew_flight {M : Model} {A : Around} {E : Value → Shared → Prop} {fr : Option Addr} {Q : Unit → Shared → Prop} (I : Inv X pins σ H s) (c : Crew X pins H s.heap a T cls d fl)
    (q : ∀ s', Inv X pins σ H s' → Crew X pins H s'.heap a T cls d (fr.elim Value.none fun f => rawInt f) → Q () s') : wpAny M A (setFlight (.ref a) fr) Q E s := by
  obtain ⟨⟨oe, oT, vs, ts, he, hT, ec, ed, hd, h1, hdT, h3, cx⟩, ne, oa, oT'⟩ := c
  have hz : 3 < ts.size := (Array.getElem?_eq_some_iff.mp h3).1
  have other : ∀ b, b ≠ T → (s.heap.update T (Obj.mapFields (·.setIfInBounds 3 (fr.elim Value.none fun f => rawInt f)))).get? b = s.heap.get? b := fun b hb => Heap.get?_update_other _ _ (Ne.symm hb)
  have at_ := Heap.get?_update_self (Obj.mapFields (·.setIfInBounds 3 (fr.elim Value.none fun f => rawInt f))) hT (Obj.isFreed_of_fields (Obj.data_mapFields hdT _))
  unfold setFlight
  refine wpAny_bind (wpAny_field he hd h1 ?_)
  rw [if_pos (show (Value.ref T != Value.none) = true from by simp)]
  refine wpAny_setField hT hdT hz (q _ (thin (gone := fun b => b = T) I (fun b o e n => (other b n).trans e) (fun b z => z ▸ oT'.s0) (fun z => oT'.loc z.symm) (fun x c e => no_cell I hT hdT e) (fun p hp => oT'.pin p hp) (fun b z => z ▸ oT'.free)) ?_)
  refine ⟨⟨oe, _, vs, _, (other a (Ne.symm ne)).trans he, at_, ec, ed, hd, h1, Obj.data_mapFields hdT _, by simp [hz], ?_⟩, ne, oa, oT'⟩
  obtain ⟨c, hc, ch⟩ := cx
  exact ⟨c, hc, ch.mono fun b ob ws ⟨q2, q3, q4, r⟩ _ => ⟨(other b q4).trans q2, q3, q4, r⟩⟩
/-- the clause's name goes -/
theorem crew_gone {M : Model} {A : Around} {E : Value → Shared → Prop} {i : Nat} {n : Str} {pos : Pos} {Q : Unit → Shared → Prop} (I : Inv X pins σ H s) (c : Crew X pins H s.heap a T cls d fl) (hN : X.N.Nodup) (hi : X.N[i]? = some n) (hl : X.env.kindOf n = some .local)
    (q : ∀ s', Inv X pins (σ.set i none) H s' → Crew X pins H s'.heap a T cls d fl → Q () s') : wpAny M A (do bindName X.env n .none; unbindBehindTheSuite X.env n pos) Q E s := by
  obtain ⟨P, h1, h2, _⟩ := crew_pins c
  have J : Inv X (pins ++ P) σ H s := I.pins_of fun p hp => (List.mem_append.mp hp).elim (fun z => I.pin p (List.mem_append_right _ z)) (h1 p)
  refine gone_ok J hN hi hl fun s' J' => q s' (J'.pins_of fun p hp => J'.pin p (List.mem_append_right _ (List.mem_append_left _ hp))) (h2 _ _ (fun p hp => (J'.pin p (List.mem_append_right _ (List.mem_append_right _ hp))).1) fun p hp => (h1 p hp).2.1)
/-- an except suite with a name raises: noted, the name goes, on it flies -/
def suiteXe (X : Cx) (a : Addr) (n : Str) (pos : Pos) : Value → Shared → Prop := fun x s₁ =>
  wpAny (model X.prog X.w) (X.A.mark (some (.ref a))) (noteFrame x X.env) (fun _ s₂ =>
    wpAny (model X.prog X.w) (X.A.mark (some (.ref a))) (do bindName X.env n .none; unbindBehindTheSuite X.env n pos)
      (fun _ s₃ => wpAny (model X.prog X.w) (X.A.mark (some (.ref a))) (passOn "try.except-as" x X.env : Sem Flow) (fun _ _ => False) (notedBy (model X.prog X.w) (X.A.mark (some (.ref a))) X.env fun y t => cameBackBy (model X.prog X.w) X.A X.env X.xe y t) s₃)
      (fun y s₃ => wpAny (model X.prog X.w) (X.A.mark (some (.ref a))) (setFlight x none) (fun _ s₄ => (notedBy (model X.prog X.w) (X.A.mark (some (.ref a))) X.env fun y t => cameBackBy (model X.prog X.w) X.A X.env X.xe y t) y s₄) (notedBy (model X.prog X.w) (X.A.mark (some (.ref a))) X.env fun y t => cameBackBy (model X.prog X.w) X.A X.env X.xe y t) s₃) s₂)
    (notedBy (model X.prog X.w) (X.A.mark (some (.ref a))) X.env fun y t => cameBackBy (model X.prog X.w) X.A X.env X.xe y t) s₁
abbrev suiteR (X : Cx) (a : Addr) (pn : List (Addr × Obj)) (xe : Value → Shared → Prop) : Cx := { X with A := X.A.mark (some (.ref a)), calm := false, pn := pn, xe := xe }
theorem suite_tail {W : WX} {i : Nat} {n : Str} {pos : Pos} {e : Addr} {E2 : Value → Shared → Prop} (hpa : ∀ hd : Option Value, PassesOwnAt (model X.prog X.w) (X.A.mark hd) X.A X.env X.xe) (tk : Takes X W) (hf : X.env.frame = some X.env.locals)
    (hN : X.N.Nodup) (hi : X.N[i]? = some n) (hl : X.env.kindOf n = some .local)
    (I : Inv X pins σ H s) (c : Crew X pins H s.heap a T cls d fl) (w : W cls d (σ.set i none) H) :
    wpAny (model X.prog X.w) (X.A.mark (some (.ref e))) (do bindName X.env n .none; unbindBehindTheSuite X.env n pos)
      (fun _ s₃ => wpAny (model X.prog X.w) (X.A.mark (some (.ref e))) (passOn "try.except-as" (.ref a) X.env : Sem Flow) (fun _ _ => False) (notedBy (model X.prog X.w) (X.A.mark (some (.ref e))) X.env fun y t => cameBackBy (model X.prog X.w) X.A X.env X.xe y t) s₃) E2 s := by
  refine crew_gone I c hN hi hl fun s1 I1 c1 => ?_
  have c1' := c1
  obtain ⟨⟨oe, oT, vs, ts, he, hT, ec, ed, hd, h1, _⟩, _⟩ := c1'
  unfold PySem.passOn
  refine wpAny_bind (wpAny_field he hd h1 ?_)
  rw [if_neg (show ¬ ((Value.ref T == Value.none) = true) from by simp)]
  have fin : wpAny (model X.prog X.w) (X.A.mark (some (.ref e))) (setFlight (.ref a) X.env.frame) (fun _ s4 => wpAny (model X.prog X.w) (X.A.mark (some (.ref e))) (throw (.ref a) : Sem Flow) (fun _ _ => False) (notedBy (model X.prog X.w) (X.A.mark (some (.ref e))) X.env fun y t => cameBackBy (model X.prog X.w) X.A X.env X.xe y t) s4)
      (notedBy (model X.prog X.w) (X.A.mark (some (.ref e))) X.env fun y t => cameBackBy (model X.prog X.w) X.A X.env X.xe y t) s1 := by
    rw [hf]
    exact crew_flight I1 c1 fun s2 I2 c2 => wpAny_throw (hpa _ _ _ (tk _ _ (crew_out I2 c2 w)))
  first
    | exact wpAny_bind (wpAny_pure (wpAny_bind fin))
    | exact wpAny_bind fin
theorem suite_in {xe : Value → Shared → Prop} {P : List (Addr × Obj)} (I : Inv X pins σ H s) (hP : ∀ p ∈ P, PinAt X H s.heap p) : Inv (suiteR X a (P ++ (X.pn ++ pins)) xe) [] σ H s :=
  ⟨(I.ok.suite a (P ++ (X.pn ++ pins))).wish xe, I.os, I.bare, I.base, I.loc, I.cell, I.free, I.freeC, fun p hp => by
    have hp : p ∈ (P ++ (X.pn ++ pins)) ++ [] := hp
    rw [List.append_nil] at hp
    exact (List.mem_append.mp hp).elim (hP p) (I.pin p), I.hok, I.len⟩
theorem suite_un {xe : Value → Shared → Prop} {P pn' : List (Addr × Obj)} (I : Inv (suiteR X a (P ++ (X.pn ++ pins)) xe) pn' σ H s) (ok : X.Ok) : Inv X pins σ H s ∧ ∀ p ∈ P, s.heap.get? p.1 = some p.2 :=
  ⟨⟨ok, I.os, I.bare, I.base, I.loc, I.cell, I.free, I.freeC, fun p hp => I.pin p (List.mem_append_left _ (List.mem_append_right _ hp)), I.hok, I.len⟩, fun p hp => (I.pin p (List.mem_append_left _ (List.mem_append_left _ hp))).1⟩
/-- what was caught may fly on -/
def TakesBack (Y : Cx) (a : Addr) (W : St → Hp → Prop) : Prop := ∀ (pn' : List (Addr × Obj)) (σ : St) (H : Hp) (s : Shared), Inv Y pn' σ H s → W σ H →
  wpAny (model Y.prog Y.w) Y.A (setFlight (.ref a) Y.env.frame) (fun _ s' => Y.xe (.ref a) s') Y.xe s
/-- raise, in an except suite -/
theorem ps_reraise {Y : Cx} {a T : Addr} {W : St → Hp → Prop} {pos : Pos} (hot : HotL Y.A Y.pn a T) (tb : TakesBack Y a W) : PS Y (.Raise none none pos) (fun _ σ H => W σ H) := by
  refine ⟨fun pn' s σ H D I h => ?_⟩
  obtain ⟨hh, oe, vs, c, hp, hd, h1, _⟩ := hot
  have he := (I.pin _ (List.mem_append_left _ hp)).1
  show wpAny _ _ (do standAt pos; raiseStmt Y.env none none) _ _ _
  refine wpAny_bind (wpAny_standAt ?_)
  unfold raiseStmt
  dsimp only
  refine wpAny_bind (wpAny_handled ?_)
  rw [hh]
  dsimp only
  refine wpAny_bind (wpAny_rule (wpAny_bind (wpAny_field he hd h1 ?_)))
  rw [if_neg (show ¬ ((Value.ref T == Value.none) = true) from by simp)]
  have fin := wpAny_mono (Q' := fun _ s' => wpAny (model Y.prog Y.w) Y.A (throw (.ref a) : Sem Flow) (SP Y pn' D) Y.xe s') (tb pn' σ H s I h) (fun _ s' x => wpAny_throw x) fun _ _ x => x
  first
    | exact wpAny_bind (wpAny_pure (wpAny_bind fin))
    | exact wpAny_bind fin
end
end L3

/-! FLd: the try's rule. -/
namespace L3
open PySem PySem.Spec PyProof.Rows L2
section
variable {X : Cx} {x n : Str} {c : Value} {i : Nat} {body suite : List Stmt} {b₀ : Stmt} {np pos pos' : Pos} {tb : WX → TS} {ts : Addr → Value → Option Addr → TS} {Wout : WX}
/-- W with the slot of the clause's name emptied -/
abbrev wNo (i : Nat) (W : WX) : WX := fun cls d σ H => W cls d (σ.set i none) H
theorem takes_suite {a : Addr} {P : List (Addr × Obj)} {pins : List (Addr × Obj)} (hs : X.stack = X.env :: X.outer) (hf : X.env.frame = some X.env.locals) (hex : X.ex = []) (hN : X.N.Nodup) (hi : X.N[i]? = some n) (hln : X.env.kindOf n = some .local)
    (hpa : ∀ hd : Option Value, PassesOwnAt (model X.prog X.w) (X.A.mark hd) X.A X.env X.xe) (tk : Takes X Wout) (ok : X.Ok) :
    Takes (suiteR X a (P ++ (X.pn ++ pins)) (suiteXe X a n pos')) (wNo i Wout) := fun u t xx => by
  obtain ⟨e, B, sI, pn', σ, H, cls, d, rfl, J, nb, up, sky, na, os, ag, w⟩ := xx
  have frames : (X.A.mark (some (.ref a))).frames = some (X.env :: X.outer) := J.ok.frames.trans (by show some X.stack = _; rw [hs])
  have sky : Sky B (X.env :: X.outer) e (Zk B H cls d) X.env.locals t.heap := hs ▸ sky
  have held : ∀ h', HandSPX.HeldZ B (X.env :: X.outer) e (Zk B H cls d) X.env.locals h' → t.heap.UpToSlots h' → wpAny (model X.prog X.w) (X.A.mark (some (.ref a))) (do bindName X.env n .none; unbindBehindTheSuite X.env n pos')
      (fun _ s₃ => wpAny (model X.prog X.w) (X.A.mark (some (.ref a))) (passOn "try.except-as" (.ref e) X.env : Sem Flow) (fun _ _ => False) (notedBy (model X.prog X.w) (X.A.mark (some (.ref a))) X.env fun y t => cameBackBy (model X.prog X.w) X.A X.env X.xe y t) s₃)
      (fun y s₃ => wpAny (model X.prog X.w) (X.A.mark (some (.ref a))) (setFlight (.ref e) none) (fun _ s₄ => (notedBy (model X.prog X.w) (X.A.mark (some (.ref a))) X.env fun y t => cameBackBy (model X.prog X.w) X.A X.env X.xe y t) y s₄) (notedBy (model X.prog X.w) (X.A.mark (some (.ref a))) X.env fun y t => cameBackBy (model X.prog X.w) X.A X.env X.xe y t) s₃) { t with heap := h' } := fun h' hh up2 => by
    obtain ⟨st, nB, ff, tr⟩ := hh
    have J2 := J.landed (s' := { t with heap := h' }) nb st (up.trans up2) os ag
    obtain ⟨T, cr⟩ := crew_of (X := suiteR X a (P ++ (X.pn ++ pins)) (suiteXe X a n pos')) J nb (fun b o _ hb => by rw [show (suiteR X a (P ++ (X.pn ++ pins)) (suiteXe X a n pos')).ex = [] from hex] at hb; cases hb) hs hf st nB (hs ▸ ff) tr
    have J3 := (suite_un J2 ok).1
    refine suite_tail hpa tk hf hN hi hln J3 (T := T) (fl := rawInt X.env.locals) ?_ w
    obtain ⟨c1, c2, c3, c4⟩ := cr
    exact ⟨c1, c2, ⟨c3.s0, c3.loc, c3.fs, c3.free, fun p hp => c3.pin p (List.mem_append_left _ (List.mem_append_right _ hp))⟩, ⟨c4.s0, c4.loc, c4.fs, c4.free, fun p hp => c4.pin p (List.mem_append_left _ (List.mem_append_right _ hp))⟩⟩
  show suiteXe X a n pos' (.ref e) t
  unfold suiteXe
  rcases sky with ⟨hB, hn, hl, oe, vs, he, hz, hd, h1⟩ | fly | hh
  · exact PXN.look_newZ Zk.steady frames hl hf he hB hn hd h1 hz held
  · exact PXN.looks_onZ Zk.steady frames hf fly held
  · exact HandSPX.againZ hf hh.2.2.2 (held t.heap hh (Heap.UpToSlots.refl _))
theorem back_suite {a T : Addr} {P : List (Addr × Obj)} {pins : List (Addr × Obj)} {cls : Value} {d : Option Addr} {fl : Value} (hf : X.env.frame = some X.env.locals) (hN : X.N.Nodup) (hi : X.N[i]? = some n) (hln : X.env.kindOf n = some .local)
    (hpa : ∀ hd : Option Value, PassesOwnAt (model X.prog X.w) (X.A.mark hd) X.A X.env X.xe) (tk : Takes X Wout) (ok : X.Ok) (cr : ∀ H h', (∀ p ∈ P, h'.get? p.1 = some p.2) → (∀ p ∈ P, H p.1 = none) → Crew X pins H h' a T cls d fl) :
    TakesBack (suiteR X a (P ++ (X.pn ++ pins)) (suiteXe X a n pos')) a (wNo i Wout cls d) := fun pn' σ H s J w => by
  obtain ⟨I, hp⟩ := suite_un J ok
  have c1 := cr H s.heap hp fun p hp => (J.pin p (List.mem_append_left _ (List.mem_append_left _ hp))).2.1
  show wpAny (model X.prog X.w) (X.A.mark (some (.ref a))) (setFlight (.ref a) X.env.frame) (fun _ s' => suiteXe X a n pos' (.ref a) s') (suiteXe X a n pos') s
  rw [hf]
  refine crew_flight I c1 fun s2 I2 c2 => ?_
  unfold suiteXe
  have c2' := c2
  obtain ⟨⟨oe, oT, vs, ts, he, hT, ec, ed, hd, h1, hdT, h3, _⟩, _⟩ := c2'
  unfold noteFrame
  simp only [hf]
  refine wpAny_bind (wpAny_field he hd h1 ?_)
  rw [if_pos (show (Value.ref T != Value.none) = true from by simp)]
  refine wpAny_bind (wpAny_field hT hdT h3 ?_)
  rw [if_pos (show (Option.elim (some X.env.locals) Value.none (fun f => rawInt f) == rawInt X.env.locals) = true from by simp)]
  exact wpAny_pure (suite_tail hpa tk hf hN hi hln I2 c2 w)
theorem ps_try_asR (hs : X.stack = X.env :: X.outer) (hf : X.env.frame = some X.env.locals) (hex : X.ex = []) (hN : X.N.Nodup) (hi : X.N[i]? = some n) (hln : X.env.kindOf n = some .local) (hc : Names X x c)
    (hpa : ∀ hd : Option Value, PassesOwnAt (model X.prog X.w) (X.A.mark hd) X.A X.env X.xe) (tk : Takes X Wout)
    (hb : ∀ (W : WX) (pn : List (Addr × Obj)) (xe : Value → Shared → Prop), Takes (X.tr pn xe) W → PassesOwn (model X.prog X.w) X.A X.env xe → PSs (X.tr pn xe) body (tb W))
    (hsu : ∀ (a T : Addr) (cls : Value) (d : Option Addr) (oe : Obj) (pn : List (Addr × Obj)) (xe : Value → Shared → Prop), (a, oe) ∈ pn → Zc cls d oe → (∃ vs, oe.data = .fields vs) → HotL (X.A.mark (some (.ref a))) pn a T → Takes (suiteR X a pn xe) (wNo i Wout) → TakesBack (suiteR X a pn xe) a (wNo i Wout cls d) →
      PSs (suiteR X a pn xe) (b₀ :: suite) (ts a cls d)) :
    PS X (.Try body [.ExceptHandler (some (.Name x np)) (some n) (b₀ :: suite) pos'] [] [] pos) (fun D σ H => tb (wAs X.K c i ts Wout D) D σ H) := by
  refine ⟨fun pins s σ H D I h => ?_⟩
  have ok := I.ok
  have frames : X.A.frames = some (X.env :: X.outer) := ok.frames.trans (by rw [hs])
  have noex : ∀ b o, X.s_0.heap.get? b = some o → b ∉ X.ex := fun b o _ hb => by rw [hex] at hb; cases hb
  refine wpAny_Try_except ?_
  refine wpAny_mono ((hb (wAs X.K c i ts Wout D) (X.pn ++ pins) (fun e s₁ => wpAny (model X.prog X.w) X.A (noteFrame e X.env) (fun _ s₂ => wpAny (model X.prog X.w) X.A (setFlight e none) (fun _ s₃ =>
    wpAny (model X.prog X.w) X.A (handleBy e X.env [.ExceptHandler (some (.Name x np)) (some n) (b₀ :: suite) pos']) (SP X pins D) X.xe s₃) X.xe s₂) X.xe s₁) (fun u t xx => ?_) PassesOwn.looking).run [] s σ H D (I.toTry _) h) (fun f s1 q1 => ?_) (fun e s1 he => he)
  · obtain ⟨a, B, sI, pn2, σ1, H1, cls, d, rfl, J', nb, up, sky, na, os, ag, b, hb1, hyes, hno⟩ := xx
    have J : Inv X pins σ1 H1 sI := J'.ofTry ok
    have sky : Sky B (X.env :: X.outer) a (Zk B H1 cls d) X.env.locals t.heap := hs ▸ sky
    show wpAny (model X.prog X.w) X.A (noteFrame (.ref a) X.env) _ _ _
    refine L2N.Sky.land Zk.steady frames hf sky fun h3 fl3 up3 => ?_
    have I3 : Inv X pins σ1 H1 { t with heap := h3 } := J.landed nb fl3.1 (up.trans up3) os ag
    obtain ⟨T, c3⟩ := crew_of J nb noex hs hf fl3.1 fl3.2.1 (hs ▸ fl3.2.2.1) fl3.2.2.2
    obtain ⟨P3, p3, _, oe3, vs3, cc3, m3, ec3, ed3, hd3, _⟩ := crew_pins c3
    have S3 := suite_in (a := a) (xe := fun _ _ => False) I3 p3
    have he3 := (p3 _ m3).1
    refine wpAny_handleBy_cons (codeAny_handlers_test ?_) (by intro q; cases q)
    have LT : PySem.W.Looks (model X.prog X.w) h3 (typeOf (.ref a)) cls := fun A Q E s k q => wpAny_typeOf_ref (k _ _ he3) (by rw [ec3]; exact q)
    have LM := PySem.W.exm_one (M := model X.prog X.w) (I3.kIn) LT hb1
    have test : ∀ {Q : Value → Shared → Prop} {E : Value → Shared → Prop}, Q c { t with heap := h3 } → wpAny (model X.prog X.w) (X.A.mark (some (.ref a))) (eval (.Name x np) X.env) Q E { t with heap := h3 } := fun {Q E} q => by
      obtain ⟨hg, hdbg, hm | ⟨hm, hv, hnn⟩⟩ := hc
      · exact ld_glob S3 hg hm q hdbg
      · exact ld_blt S3 hg hm hv q hnn hdbg
    refine test (LM.here ?_)
    cases b with
    | false =>
      show wpAny _ X.A (handleBy (.ref a) X.env []) _ _ _
      refine wpAny_handleBy_nil ?_
      have c3' := c3
      obtain ⟨⟨oe, oT, vs, ts2, he, hT, ec, ed, hd, h1, _⟩, _⟩ := c3'
      unfold PySem.passOn
      refine wpAny_bind (wpAny_field he hd h1 ?_)
      rw [if_neg (show ¬ ((Value.ref T == Value.none) = true) from by simp)]
      have fin : wpAny (model X.prog X.w) X.A (setFlight (.ref a) X.env.frame) (fun _ s4 => wpAny (model X.prog X.w) X.A (throw (.ref a) : Sem Flow) (SP X pins D) X.xe s4) X.xe { t with heap := h3 } := by
        rw [hf]
        exact crew_flight I3 c3 fun s2 I2 c2 => wpAny_throw (tk _ _ (crew_out I2 c2 (hno rfl)))
      first
        | exact wpAny_bind (wpAny_pure (wpAny_bind fin))
        | exact wpAny_bind fin
    | true =>
      refine codeAny_handlers_suite_as ?_
      refine crew_flight I3 c3 fun s4 I4 c4 => ?_
      obtain ⟨P, p4, k4, oe4, vs4, cc4, m4, ec4, ed4, hd4, h14, h24, ctx4⟩ := crew_pins c4
      have S4 := suite_in (a := a) (xe := suiteXe X a n pos') I4 p4
      have hot : HotL (X.A.mark (some (.ref a))) (P ++ (X.pn ++ pins)) a T := ⟨rfl, oe4, vs4, cc4, List.mem_append_left _ m4, hd4, h14, h24, ctx4.mono fun _ _ _ q _ => List.mem_append_left _ q⟩
      refine store_ok (X := suiteR X a (P ++ (X.pn ++ pins)) (suiteXe X a n pos')) (v := .ref a) S4 hN hi (.inl hln) rfl (fun s5 S5 => ?_) (.inr hln)
      have su := hsu a T cls d oe4 (P ++ (X.pn ++ pins)) (suiteXe X a n pos') (List.mem_append_left _ m4) ⟨ec4, ed4⟩ ⟨vs4, hd4⟩ hot (takes_suite hs hf hex hN hi hln hpa tk ok) (back_suite hf hN hi hln hpa tk ok k4)
      refine wpAny_mono (su.run [] s5 _ H1 _ S5 (hyes rfl a na)) (fun f s6 q6 => ?_) (fun y s6 z => z)
      have end_ : ∀ {σ6 : St} {H6 : Hp} {Q : Shared → Prop}, Inv (suiteR X a (P ++ (X.pn ++ pins)) (suiteXe X a n pos')) [] σ6 H6 s6 → (∀ s7, Inv X pins (σ6.set i none) H6 s7 → Q s7) →
          wpAny (model X.prog X.w) X.A (do bindName X.env n .none; unbindBehindTheSuite X.env n pos') (fun _ s7 => Q s7) X.xe s6 := fun {σ6 H6 Q} S6 hq => gone_ok (suite_un S6 ok).1 hN hi hln hq
      cases f with
      | next =>
        obtain ⟨σ6, H6, S6, r6⟩ := q6
        exact end_ S6 fun s7 J7 => ⟨_, _, J7, r6⟩
      | brk =>
        obtain ⟨σ6, H6, S6, r6⟩ := q6
        exact end_ S6 fun s7 J7 => ⟨_, _, J7, r6⟩
      | cont =>
        obtain ⟨σ6, H6, S6, r6⟩ := q6
        exact end_ S6 fun s7 J7 => ⟨_, _, J7, r6⟩
      | ret u =>
        obtain ⟨v6, σ6, H6, S6, rv, r6⟩ := q6
        exact end_ S6 fun s7 J7 => ⟨_, _, _, J7, rv, r6⟩
  · cases f with
    | next =>
      obtain ⟨σ', H', J', q⟩ := q1
      exact wpAny_execs_nil ⟨σ', H', J'.ofTry ok, q⟩
    | brk =>
      obtain ⟨σ', H', J', q⟩ := q1
      exact ⟨σ', H', J'.ofTry ok, q⟩
    | cont =>
      obtain ⟨σ', H', J', q⟩ := q1
      exact ⟨σ', H', J'.ofTry ok, q⟩
    | ret u =>
      obtain ⟨v, σ', H', J', r, q⟩ := q1
      exact ⟨v, σ', H', J'.ofTry ok, r, q⟩
end
end L3

/-! FLe: raising, calm or while an exception is handled. -/
namespace L3
open PySem PySem.Spec PyProof.Rows L2
/-! the contexts of what is handled are looked through -/
inductive Reach (h : Heap) : Addr → Addr → Prop
  | refl {x : Addr} : Reach h x x
  | step {y z x : Addr} {oy : Obj} {ws : Array Value} : h.get? y = some oy → oy.data = .fields ws → ws[2]? = some (.ref z) → Reach h z x → Reach h y x
theorem Reach.snoc {h : Heap} {y x z : Addr} {ox : Obj} {vs : Array Value} (r : Reach h y x) (e : h.get? x = some ox) (d : ox.data = .fields vs) (c : vs[2]? = some (.ref z)) : Reach h y z := by
  induction r with
  | refl => exact .step e d c .refl
  | step e1 d1 c1 _ ih => exact .step e1 d1 c1 (ih e)
section
variable {prog : Program} {w : World} {s : Shared} {R : Result → Shared → Prop}
theorem unchain_go {a : Addr} {c : Value} (ch : Chn (fun b o => s.heap.get? b = some o ∧ b ≠ a) c) : ∀ {A : Around} {x slow : Addr} {ox : Obj} {vs : Array Value} {tg : Bool}, s.heap.get? x = some ox → ox.data = .fields vs → vs[2]? = some c → Reach s.heap slow x → R (.ok (.ret .none)) s →
    codeAny (model prog w) A (.builtin "proto.unchain" ⟨[.ref a, .ref x, .ref slow, .bool tg], []⟩) R s := by
  induction ch with
  | none =>
    intro A x slow ox vs tg e d hc r q
    refine codeAny_builtin HotX.entry_unchain ?_
    show wpAny _ _ (field (.ref x) 2 >>= _) _ _ s
    refine wpAny_bind (wpAny_field e d hc ?_)
    rw [if_pos (show (Value.none == Value.none) = true from rfl)]
    first
    | exact wpAny_bind (wpAny_pure (wpAny_pure q))
    | exact wpAny_pure q
  | @ref b ob ws c hb db cb _ ih =>
    intro A x slow ox vs tg e d hc r q
    refine codeAny_builtin HotX.entry_unchain ?_
    show wpAny _ _ (field (.ref x) 2 >>= _) _ _ s
    refine wpAny_bind (wpAny_field e d hc ?_)
    rw [if_neg (show ¬ ((Value.ref b == Value.none) = true) from by simp)]
    have go : ∀ {slow' : Addr}, Reach s.heap slow' b → wpAny (model prog w) (A.under (.builtin "proto.unchain" ⟨[.ref a, .ref x, .ref slow, .bool tg], []⟩)) (again (.builtin "proto.unchain" ⟨[.ref a, .ref b, .ref slow', .bool !tg], []⟩))
        (fun fin s' => match fin with | .done f => R (.ok f) s' | .again c' => c'.quiet = true ∧ codeAny (model prog w) A c' R s') (fun y s' => R (.error y) s') s := fun {slow'} r' =>
      wpAny_pure (a := Fin.again _) ⟨plainId_quiet (by decide +kernel) _, ih hb.1 db cb r' q⟩
    have nv : ¬ ((Value.ref b == Value.ref a) = true) := fun z => hb.2 (Value.ref.inj (eq_of_beq z))
    rw [if_neg nv]
    by_cases hs : b = slow
    · subst hs
      rw [if_pos (show (Value.ref b == Value.ref b) = true from beq_self_eq_true _)]
      exact wpAny_bind (wpAny_rule (wpAny_pure q))
    · have ns : ¬ ((Value.ref b == Value.ref slow) = true) := fun z => hs (Value.ref.inj (eq_of_beq z))
      rw [if_neg ns]
      cases tg with
      | false =>
        rw [if_neg (by decide)]
        exact wpAny_bind (wpAny_pure (go (r.snoc e d hc)))
      | true =>
        rw [if_pos rfl]
        cases r with
        | refl => exact wpAny_bind (wpAny_field e d hc (go .refl))
        | step e1 d1 c1 r1 => exact wpAny_bind (wpAny_field e1 d1 c1 (go (r1.snoc e d hc)))
end
section
variable {prog : Program} {w : World} {A : Around} {E : Value → Shared → Prop} {s : Shared}
/-- what is handled, as it stands; a: the new one -/
def HotHere (A : Around) (h : Heap) (a : Addr) (x1 : Addr) : Prop := A.handled = some (.ref x1) ∧ x1 ≠ a ∧ ∃ (o : Obj) (vs : Array Value) (c : Value), h.get? x1 = some o ∧ o.data = .fields vs ∧ vs[2]? = some c ∧ Chn (fun b o => h.get? b = some o ∧ b ≠ a) c
theorem raiseNew_q {α : Type} {a x1 : Addr} {oe : Obj} {vs : Array Value} {Q : α → Shared → Prop} (hot : HotHere A s.heap a x1) (ha : s.heap.get? a = some oe) (da : oe.data = .fields vs) (hi : 2 < vs.size)
    (hE : E (.ref a) { s with heap := s.heap.update a (Obj.mapFields (·.setIfInBounds 2 (.ref x1))) }) : wpAny (model prog w) A (raiseNew (.ref a) : Sem α) Q E s := by
  obtain ⟨hh, ne, o1, vs1, c, g1, d1, c1, ch⟩ := hot
  unfold raiseNew
  refine wpAny_bind (wpAny_handled ?_)
  rw [hh]
  have un : ∀ {Q2 : Value → Shared → Prop}, Q2 .none s → wpAny (model prog w) A (holding [Value.ref a] (runValue (.builtin "proto.unchain" ⟨[.ref a, .ref x1, .ref x1, .bool false], []⟩))) Q2 E s := fun {Q2} q =>
    wpAny_holding (wpAny_runValue (unchain_go ch g1 d1 c1 .refl q))
  have differ : (Value.ref x1 != Value.ref a) = true := HotX.ref_bne ne
  have fin : wpAny (model prog w) A (updateField a 2 (.ref x1)) (fun _ s' => wpAny (model prog w) A (throw (.ref a) : Sem α) Q E s') E s := HotX.chained ha da hi (wpAny_throw hE)
  first
  | (show wpAny _ _ (if (Value.ref x1 != Value.ref a) = true then _ else _) _ _ _
     rw [if_pos differ]
     first
     | exact wpAny_bind (un (wpAny_bind fin))
     | exact wpAny_bind (wpAny_bind (un fin)))
  | (refine wpAny_bind ?_
     show wpAny _ _ (if (Value.ref x1 != Value.ref a) = true then _ else _) _ _ _
     rw [if_pos differ]
     exact wpAny_bind (un fin))
/-- no class: an object that is no class object -/
theorem not_type {a : Addr} {oe : Obj} {vs : Array Value} {Q : Bool → Shared → Prop} (ha : s.heap.get? a = some oe) (hd : oe.data = .fields vs) (q : Q false s) : wpAny (model prog w) A (isType (.ref a)) Q E s := by
  simp only [isType, loadHead]
  refine wpAny_bind (wpAny_loadPart ha ?_)
  rw [hd]
  exact wpAny_pure q
/-- a value that may be raised -/
structure MayFly (M : Model) (h : Heap) (a : Addr) (oe : Obj) (vs : Array Value) : Prop where
  at_ : h.get? a = some oe
  data : oe.data = .fields vs
  tb : vs[1]? = some .none
  six : 4 < vs.size
  sub : PySem.W.Looks M h (isSubtype oe.cls (.type "BaseException")) true
  typ : PySem.W.Looks M h (typeOf oe.cls) (.type "type")
theorem exc_from {a : Addr} {oe : Obj} {vs : Array Value} {Q : Value → Shared → Prop} {msg : String} (F : MayFly (model prog w) s.heap a oe vs) (q : Q (.ref a) s) : wpAny (model prog w) A (excFromValue (.ref a) msg) Q E s := by
  have LT : PySem.W.Looks (model prog w) s.heap (typeOf (.ref a)) oe.cls := fun A Q E s k q => wpAny_typeOf_ref (k _ _ F.at_) q
  unfold excFromValue isExcClass
  refine wpAny_bind (wpAny_bind (not_type F.at_ F.data ?_))
  simp only [Bool.false_eq_true, if_false]
  refine wpAny_pure ?_
  simp only [Bool.false_eq_true, if_false]
  refine wpAny_bind ((LT.andThen F.sub).here ?_)
  simp only [if_true]
  exact wpAny_pure q
/-- what is left once the value is there -/
theorem raise_rest {a x1 : Addr} {oe : Obj} {vs : Array Value} {Q : Flow → Shared → Prop} (F : MayFly (model prog w) s.heap a oe vs) (hot : HotHere A s.heap a x1)
    (hE : E (.ref a) { s with heap := s.heap.update a (Obj.mapFields (·.setIfInBounds 2 (.ref x1))) }) :
    wpAny (model prog w) A (do
      let b ← isType (.ref a)
      if b = true then do
        let e ← holding [.ref a] (raisedFor (.ref a) (.ref a))
        setFlight e none
        raiseNew e
      else do
        let e ← raisedInstance (.ref a)
        setFlight e none
        raiseNew e : Sem Flow) Q E s := by
  have LT : PySem.W.Looks (model prog w) s.heap (typeOf (.ref a)) oe.cls := fun A Q E s k q => wpAny_typeOf_ref (k _ _ F.at_) q
  refine wpAny_bind (not_type F.at_ F.data ?_)
  simp only [Bool.false_eq_true, if_false]
  unfold raisedInstance
  refine wpAny_bind (wpAny_bind (LT.here (wpAny_bind (F.typ.here ?_))))
  rw [if_pos (beq_self_eq_true _)]
  refine wpAny_pure ?_
  unfold setFlight
  refine wpAny_bind (wpAny_bind (wpAny_field F.at_ F.data F.tb ?_))
  rw [if_neg (by decide)]
  refine wpAny_pure ?_
  exact raiseNew_q hot F.at_ F.data (by have := F.six; omega) hE
theorem raise_q {env : Env} {x : Sem Value} {Q : Flow → Shared → Prop} {x1 : Addr}
    (h : wpAny (model prog w) A x (fun v s₁ => ∃ a oe vs, v = .ref a ∧ MayFly (model prog w) s₁.heap a oe vs ∧ HotHere A s₁.heap a x1 ∧ E (.ref a) { s₁ with heap := s₁.heap.update a (Obj.mapFields (·.setIfInBounds 2 (.ref x1))) }) E s) :
    wpAny (model prog w) A (raiseStmt env (some x) none) Q E s := by
  unfold raiseStmt
  dsimp only
  refine wpAny_bind (wpAny_mono h (fun v s₁ h₁ => ?_) fun _ _ x => x)
  obtain ⟨a, oe, vs, rfl, F, hot, hE⟩ := h₁
  refine wpAny_bind (wpAny_pure ?_)
  dsimp only
  refine wpAny_bind (wpAny_holding (exc_from F ?_))
  have fin := raise_rest (Q := Q) F hot hE
  first
  | exact fin
  | (dsimp only; exact fin)
  | (refine wpAny_bind (wpAny_pure ?_); exact fin)
theorem MayFly.none_from {a : Addr} {oe : Obj} {vs : Array Value} (F : MayFly (model prog w) s.heap a oe vs) (t : PySem.W.Looks (model prog w) (HotX.noneFrom s.heap a) (typeOf oe.cls) (.type "type")) (u : PySem.W.Looks (model prog w) (HotX.noneFrom s.heap a) (isSubtype oe.cls (.type "BaseException")) true) :
    MayFly (model prog w) (HotX.noneFrom s.heap a) a ((oe.mapFields (·.setIfInBounds 3 .none)).mapFields (·.setIfInBounds 4 (.bool true))) ((vs.setIfInBounds 3 .none).setIfInBounds 4 (.bool true)) := by
  obtain ⟨h1, h2⟩ := HotX.noneFrom_at F.at_ F.data
  refine ⟨h1, h2, HotX.set_other (by decide) (HotX.set_other (by decide) F.tb), by rw [HotX.set_size, HotX.set_size]; exact F.six, ?_, ?_⟩
  · rw [Obj.cls_mapFields, Obj.cls_mapFields]; exact u
  · rw [Obj.cls_mapFields, Obj.cls_mapFields]; exact t
theorem raise_qN {env : Env} {x c : Sem Value} {Q : Flow → Shared → Prop} {x1 : Addr} (hc : ∀ (s : Shared) (Q' : Value → Shared → Prop), Q' .none s → wpAny (model prog w) A c Q' E s)
    (h : wpAny (model prog w) A x (fun v s₁ => ∃ a oe vs, v = .ref a ∧ MayFly (model prog w) s₁.heap a oe vs ∧ HotHere A s₁.heap a x1 ∧ PySem.W.Looks (model prog w) (HotX.noneFrom s₁.heap a) (typeOf oe.cls) (.type "type") ∧
      PySem.W.Looks (model prog w) (HotX.noneFrom s₁.heap a) (isSubtype oe.cls (.type "BaseException")) true ∧ E (.ref a) { s₁ with heap := (HotX.noneFrom s₁.heap a).update a (Obj.mapFields (·.setIfInBounds 2 (.ref x1))) }) E s) :
    wpAny (model prog w) A (raiseStmt env (some x) (some c)) Q E s := by
  unfold raiseStmt
  dsimp only
  refine wpAny_bind (wpAny_mono h (fun v s₁ h₁ => ?_) fun _ _ x => x)
  obtain ⟨a, oe, vs, rfl, F, ⟨q1, q2, o1, v1, cc, q3, q4, q5, q6⟩, t, u, hE⟩ := h₁
  have hd3 := Obj.data_mapFields F.data (·.setIfInBounds 3 .none)
  have ha3 := Heap.get?_update_self (Obj.mapFields (·.setIfInBounds 3 .none)) F.at_ (Obj.isFreed_of_fields hd3)
  have z3 : 3 < vs.size := by have := F.six; omega
  have z4 : 4 < (vs.setIfInBounds 3 Value.none).size := by rw [HotX.set_size]; exact F.six
  have oth : ∀ b, b ≠ a → (HotX.noneFrom s₁.heap a).get? b = s₁.heap.get? b := fun b n => HotX.noneFrom_other (Ne.symm n)
  have fin := raise_rest (s := { s₁ with heap := HotX.noneFrom s₁.heap a }) (Q := Q) (F.none_from t u) ⟨q1, q2, o1, v1, cc, (oth _ q2).trans q3, q4, q5, q6.mono fun b o _ ⟨z, n⟩ _ => ⟨(oth b n).trans z, n⟩⟩ hE
  refine wpAny_bind (wpAny_holding (hc _ _ (wpAny_bind (wpAny_pure ?_))))
  dsimp only
  refine wpAny_bind (wpAny_holding (exc_from F ?_))
  first
  | rw [if_pos (show (Value.none == Value.none) = true from rfl)]
  | (show wpAny _ _ (if (Value.none == Value.none) = true then _ else _) _ _ _; rw [if_pos (show (Value.none == Value.none) = true from rfl)])
  | simp only [beq_self_eq_true, if_true]
  first
  | refine wpAny_bind (wpAny_pure (wpAny_bind (wpAny_setField F.at_ F.data z3 (wpAny_bind (wpAny_setField ha3 hd3 z4 ?_)))))
  | refine wpAny_bind (wpAny_pure (wpAny_bind (wpAny_bind (wpAny_setField F.at_ F.data z3 (wpAny_bind (wpAny_setField ha3 hd3 z4 ?_))))))
  | refine wpAny_bind (wpAny_bind (wpAny_pure (wpAny_bind (wpAny_setField F.at_ F.data z3 (wpAny_setField ha3 hd3 z4 ?_)))))
  first
  | exact fin
  | (dsimp only; exact fin)
  | (refine wpAny_pure ?_; exact fin)
  | (simp only [bind_pure_comp] ; exact fin)
end
end L3

/-! FLf: raise as a statement; exceptions with an __init__ of their own; defs that run whatever is handled. -/
namespace L3
open PySem PySem.Spec PyProof.Rows L2
section
variable {X : Cx} {W : WX} {e : Expr} {t : St → Hp → XK → Prop} {pos : Pos}
theorem ps_raise (hc : X.calm = true) (tk : Takes X W) (he : L2N.PMk X e t) : PS X (.Raise (some e) none pos) (fun _ σ H => t σ H fun cls d H' => W cls d σ H') := by
  refine ⟨fun pins s σ H D I h => ?_⟩
  show wpAny _ _ (do standAt pos; raiseStmt X.env (some (do let v ← eval e X.env; standAt pos; pure v)) none) _ _ _
  refine wpAny_bind (wpAny_standAt (raise_made (I.ok.hd hc) (wpAny_bind (wpAny_mono (he pins s σ H _ I h) (fun u s1 hu => wpAny_bind (wpAny_standAt (wpAny_pure ?_))) fun _ _ x => x))))
  obtain ⟨a, oe, vs, sI, H', cls, d, rfl, J, k, gone, ha, hz, hd, h1, na, os, ag, r, q⟩ := hu
  obtain ⟨r1, r2⟩ := r (model X.prog X.w) s1.heap (J.kIn.keeps k)
  have x : XE X W (.ref a) s1 := XE.new J k gone ha ⟨hz.1, hz.2.1, .none hz.2.2⟩ hd h1 na os ag q
  exact ⟨a, oe, vs, cls, rfl, ha, hz.1, hd, h1, r1, r2, tk _ _ x⟩
theorem pin_off {pins : List (Addr × Obj)} {σ : St} {H : Hp} {s : Shared} (I : Inv X pins σ H s) {p : Addr × Obj} (hp : p ∈ X.pn) : (PySem.W.hideAll s.heap (frs X.stack)).get? p.1 = some p.2 ∧ H p.1 = none ∧ s.heap.get? p.1 = some p.2 := by
  obtain ⟨q1, q2, q3, q4, _⟩ := I.pin p (List.mem_append_left _ hp)
  exact ⟨PySem.W.hideAll_get _ q1 fun hm => (List.mem_cons.mp (I.stkSub p.1 hm)).elim q3 q4, q2, q1⟩
/-- the new one's context is what is handled -/
theorem hot_new {x1 : Addr} (hot : HotQ X.A X.pn x1) (tk : Takes X W) {pins : List (Addr × Obj)} {σ : St} {sI s1 : Shared} {H' : Hp} {a : Addr} {oe : Obj} {vs : Array Value} {cls : Value} {d : Option Addr} {h2 : Heap} (J : Inv X pins σ H' sI)
    (k : ∀ b o, sI.heap.get? b = some o → s1.heap.get? b = some o) (gone : sI.heap.get? a = none) (ha : h2.get? a = some oe) (oth : ∀ b, b ≠ a → h2.get? b = s1.heap.get? b) (hc : oe.cls = cls) (hdd : oe.dict = d) (hd : oe.data = .fields vs) (h1 : vs[1]? = some .none) (hi : 2 < vs.size) (na : H' a = none)
    (os : s1.os = sI.os) (ag : AllBare s1.gens) (q : W cls d σ H') : HotHere X.A s1.heap a x1 ∧ X.xe (.ref a) { s1 with heap := h2.update a (Obj.mapFields (·.setIfInBounds 2 (.ref x1))) } := by
  obtain ⟨hh, o1, v1, c, m1, d1, c1, ch⟩ := hot
  have nP : ∀ p ∈ X.pn, p.1 ≠ a := fun p hp z => by
    have := (pin_off J hp).2.2
    rw [z, gone] at this
    cases this
  refine ⟨⟨hh, nP _ m1, o1, v1, c, k _ _ (pin_off J m1).2.2, d1, c1, ch.mono fun b o _ hb _ => ⟨k _ _ (pin_off J hb).2.2, nP _ hb⟩⟩, tk _ _ (XE.new J (fun b u z => ?_) gone (Heap.get?_update_self _ ha (Obj.isFreed_of_fields (Obj.data_mapFields hd _))) ⟨by rw [Obj.cls_mapFields]; exact hc, by rw [HandSPX.dict_mapFields]; exact hdd, fun vs' e => ?_⟩ (Obj.data_mapFields hd _) (HotX.set_other (by decide) h1) na os ag q)⟩
  · have nb : b ≠ a := fun y => by rw [y, gone] at z; cases z
    show (h2.update a (Obj.mapFields (·.setIfInBounds 2 (.ref x1)))).get? b = some u
    rw [Heap.get?_update_other _ _ (Ne.symm nb), oth b nb]
    exact k b u z
  · obtain ⟨ws, e1, rfl⟩ := mapped_fields e
    have := Data.fields.inj (hd.symm.trans e1)
    subst this
    refine ⟨.ref x1, by simp [hi], .ref ⟨(pin_off J m1).1, (pin_off J m1).2.1⟩ d1 c1 (ch.mono fun b o _ hb _ => ⟨(pin_off J hb).1, (pin_off J hb).2.1⟩)⟩
theorem ps_raiseQ {x1 : Addr} (hot : HotQ X.A X.pn x1) (tk : Takes X W) (he : L2H.PMk5 X e t) : PS X (.Raise (some e) none pos) (fun _ σ H => t σ H fun cls d H' => W cls d σ H') := by
  refine ⟨fun pins s σ H D I h => ?_⟩
  show wpAny _ _ (do standAt pos; raiseStmt X.env (some (do let v ← eval e X.env; standAt pos; pure v)) none) _ _ _
  refine wpAny_bind (wpAny_standAt (raise_q (x1 := x1) (wpAny_bind (wpAny_mono (he pins s σ H _ I h) (fun u s1 hu => wpAny_bind (wpAny_standAt (wpAny_pure ?_))) fun _ _ x => x))))
  obtain ⟨⟨a, oe, vs, sI, H', cls, d, rfl, J, k, gone, ha, hz, hd, h1, na, os, ag, r, q⟩, six⟩ := hu
  have hi := six a oe vs rfl ha hd
  obtain ⟨r1, r2⟩ := r (model X.prog X.w) s1.heap (J.kIn.keeps k)
  obtain ⟨n1, n2⟩ := hot_new (h2 := s1.heap) hot tk J k gone ha (fun _ _ => rfl) hz.1 hz.2.1 hd h1 (by omega) na os ag q
  exact ⟨a, oe, vs, rfl, ⟨ha, hd, h1, hi, by rw [hz.1]; exact r1, by rw [hz.1]; exact r2⟩, n1, n2⟩
/-- raise .. from None -/
theorem ps_raiseQN {x1 : Addr} {j : Nat} {cpos : Pos} (hot : HotQ X.A X.pn x1) (tk : Takes X W) (he : L2H.PMk5 X e t) : PS X (.Raise (some e) (some (.Constant .none j cpos)) pos) (fun _ σ H => t σ H fun cls d H' => W cls d σ H') := by
  refine ⟨fun pins s σ H D I h => ?_⟩
  show wpAny _ _ (do standAt pos; raiseStmt X.env (some (do let v ← eval e X.env; standAt pos; pure v)) (some (do let v ← eval (.Constant .none j cpos) X.env; standAt pos; pure v))) _ _ _
  refine wpAny_bind (wpAny_standAt (raise_qN (x1 := x1) (fun s2 Q2 q2 => wpAny_bind (Constant_none (wpAny_bind (wpAny_standAt (wpAny_pure q2))))) (wpAny_bind (wpAny_mono (he pins s σ H _ I h) (fun u s1 hu => wpAny_bind (wpAny_standAt (wpAny_pure ?_))) fun _ _ x => x))))
  obtain ⟨⟨a, oe, vs, sI, H', cls, d, rfl, J, k, gone, ha, hz, hd, h1, na, os, ag, r, q⟩, six⟩ := hu
  have hi := six a oe vs rfl ha hd
  have k4 : ∀ b u, sI.heap.get? b = some u → (HotX.noneFrom s1.heap a).get? b = some u := fun b u z => by
    rw [HotX.noneFrom_other (fun y => by rw [← y, gone] at z; cases z)]
    exact k b u z
  obtain ⟨r1, r2⟩ := r (model X.prog X.w) s1.heap (J.kIn.keeps k)
  obtain ⟨r3, r4⟩ := r (model X.prog X.w) (HotX.noneFrom s1.heap a) (J.kIn.keeps k4)
  obtain ⟨g1, g2⟩ := HotX.noneFrom_at ha hd
  obtain ⟨n1, n2⟩ := hot_new (h2 := HotX.noneFrom s1.heap a) hot tk J k gone g1 (fun b n => HotX.noneFrom_other (Ne.symm n)) (by rw [Obj.cls_mapFields, Obj.cls_mapFields]; exact hz.1) (by rw [HandSPX.dict_mapFields, HandSPX.dict_mapFields]; exact hz.2.1) g2
    (HotX.set_other (by decide) (HotX.set_other (by decide) h1)) (by rw [HotX.set_size, HotX.set_size]; omega) na os ag q
  exact ⟨a, oe, vs, rfl, ⟨ha, hd, h1, hi, by rw [hz.1]; exact r1, by rw [hz.1]; exact r2⟩, n1, by rw [hz.1]; exact r4, by rw [hz.1]; exact r3, n2⟩
theorem HotQ.one {p : Addr × Obj} (h : L2H.Hot1 X.A p) (hp : p ∈ X.pn) : HotQ X.A X.pn p.1 := by
  obtain ⟨hh, vs, d, c⟩ := h
  exact ⟨hh, p.2, vs, _, hp, d, c, .none⟩
end
/-! ### a def that runs whatever is handled -/
structure FnT (P : Program) (w : World) (K : PySem.W.Frag) (mg : Str → Option Value) (base : Heap) (CX : CXT) (k : Nat) (f : Addr) (fd : FuncData) (ps : List Str) (sp : Sp) : Prop where
  len : ∀ vs H Q E, sp vs H Q E → vs.length = ps.length
  run : ∀ (A : Around) (outer : List Env) (s : Shared) (H : Hp) (args : Args) (us : List Value) (vs : List V) (Q : VK) (E : XK) (p : Addr × Obj), L2H.RoomH k A → L2H.PinOk outer H s p → Env0 P w K mg base A outer s H → BindsTo s fd args (ps.zip us) → Vals vs us → sp vs H Q E →
    codeAny (model P w) A (.call (.ref f) args) (CR CX outer P w H s Q E) s
section
variable {P : Program} {w : World} {K : PySem.W.Frag} {mg : Str → Option Value} {base : Heap}
theorem okT {CX : CXT} {x qual : Str} {st : Stmt} {f : Addr} {fd : FuncData} {N ps : List Str} {k : Nat} {sp : Sp} (F : Fun K x qual st f fd) (S : FnScope N ps (defScope st)) (len : ∀ vs H Q E, sp vs H Q E → vs.length = ps.length)
    (hbody : ∀ (cdv : Value) (A : Around) (outer : List Env) (s : Shared) (H : Hp) (vs : List V) (Q : VK) (E : XK) (p : Addr × Obj), L2H.RoomH k (A.deeper (envOfC qual (defScope st) s.heap.objs.size f cdv)) → sp vs H Q E →
      ∃ t, PSs (L2H.cxH CX P w K mg base N qual (defScope st) f cdv A outer s H E p) (defBody st) t ∧ t { nx := fun _ H' => Q .non H', rt := Q } (start N vs) H) : FnT P w K mg base CX (k + 1) f fd ps sp := by
  obtain ⟨oc, od, kV, doc, pm, an, cdv, ct, osl, rfl, lk, hcd⟩ := F.ex
  refine ⟨len, fun A outer s H args us vs Q E p hr hpin e0 hb r hsp => ?_⟩
  have keep : ∀ b o, base.get? b = some o → s.heap.get? b = some o := fun b o e => (e0.bs b o e).1
  have KX : K.In s.heap := e0.mod.kin.keeps keep
  have lim : s.heap.NoLimit := e0.mod.nolimit.keeps keep
  have kinds : ∀ y ∈ ps.zip us, (defScope st).names.lookup y.1 = some .local ∨ ((defScope st).names.lookup y.1 = some .cell ∧ ((cellsFrom (s.heap.objs.size + 1) (defScope st).names []).lookup y.1).isSome = true) := fun ⟨n, v⟩ hy =>
    (S.par n (List.of_mem_zip hy).1).imp id fun q => ⟨q, PySem.W.cellsFrom_some _ _ _ (.inl q)⟩
  refine codeAny_call_function hr.depth (KX _ _ lk) rfl S.co S.gen rfl (PySem.W.codeRec_of KX hcd) (hb _ _ _ _ ?_)
  refine wpAny_newFunctionEnv_cells S.kind kinds fun env he s1 x => ?_
  subst he
  refine ⟨lim.keeps x.toInCall.keep, codeAny_func ?_⟩
  obtain ⟨t, ht, hq⟩ := hbody cdv A outer s H vs Q E p (hr.deeper _) hsp
  have I := L2H.inv_startH (CX := CX) (E := E) S hpin e0 (len _ _ _ _ hsp) r x
  refine wpAny_mono (ht.run [] s1 (start N vs) H _ I hq) (fun fl s' hs => ?_) fun e s' hs => hs
  have back : ∀ {σ' : St} {H' : Hp} {v : V} {u : Value}, Inv (L2H.cxH CX P w K mg base N qual (defScope st) f cdv A outer s H E p) [] σ' H' s' → RelV v u → Q v H' → CE outer P w H s Q u s' := fun {σ' H' v u} J rv q => ⟨v, H', J.os, J.bare, J.base, J.hok, rv, q⟩
  cases fl with
  | next =>
    obtain ⟨σ', H', J, q⟩ := hs
    exact back (v := V.non) (u := Value.none) J rfl q
  | ret u =>
    obtain ⟨v, σ', H', J, rv, q⟩ := hs
    exact back J rv q
  | brk =>
    obtain ⟨_, _, _, q⟩ := hs
    exact q.elim
  | cont =>
    obtain ⟨_, _, _, q⟩ := hs
    exact q.elim
theorem FnT.h {CX : CXT} {k : Nat} {f : Addr} {fd : FuncData} {ps : List Str} {sp : Sp} (F : FnT P w K mg base CX k f fd ps sp) : L2H.FnH P w K mg base CX k f fd ps sp := ⟨F.len, fun A outer s H args us vs Q E p r _ q => F.run A outer s H args us vs Q E p r q⟩
end
/-! ### C(e, ..), C an exception class with an __init__ -/
section
variable {X : Cx} {CX : CXT} {x : Str} {e : Expr} {es : List Expr} {ta : TA} {p pos : Pos} {C fI : Addr} {k : Nat} {fd : FuncData} {ps : List Str} {sp : Sp}
theorem pmk_by (T : OexC X.K C) (iC : PySem.W.findIn X.K (.ref C) "__init__" = some (some (.ref fI))) (tI : PySem.W.typeIn X.K (.ref fI) = some (.type "function")) (len : ∀ vs H Q E, sp vs H Q E → vs.length = ps.length)
    (run : ∀ {pins : List (Addr × Obj)} {σ : St} {H : Hp} {s : Shared} {us : List Value} {vs : List V} {Q : VK} (ws : List Value), Inv X pins σ H s → BindsTo s fd ⟨us, []⟩ (ps.zip us) → Vals vs us → sp vs H Q (fun _ _ _ => False) →
      codeAny (model X.prog X.w) (X.A.under (.builtin "type.__call__" ⟨.ref C :: ws, []⟩)) (.call (.ref fI) ⟨us, []⟩) (CR CX X.stack X.prog X.w H s Q (fun _ _ _ => False)) s)
    (hb : Binds X.K fd ps []) (hx : Passes CX X (fun _ _ _ => False)) (hg : Gl X x) (hm : X.mg x = some (.ref C)) (ha : PA X (e :: es) ta)
    (hdb : (x == ("__debug__" : Str)) = false := by decide) (he : starEach (e :: es) X.env = (false, eval e X.env) :: starEach es X.env := by rfl) (hpl : (backTo pos (starEach es X.env)).any (·.1) = false := by rfl) :
    L2H.PMk5 X (.Call (.Name x p) (e :: es) [] pos) (tMkO C sp [] ta) := by
  intro pins s σ H Q I h
  obtain ⟨nm, q, N, bs, bm, sn, sub, ab, col, dd, k0, k1, k2, k3, k5, hC, hbm⟩ := T.cls
  refine wpAny_Call_Name_kw (ld_glob I hg hm ?_ hdb)
  refine PySem.W.callWith_K (h₀ := X.base) I.ok.mod.kin T.kC (thn (ha.run pos pins s σ H _ I h) fun us s1 ⟨vs, H1, I1, r1, hz, q1⟩ => ⟨I1.kIn, ?_⟩) he hpl
  show wpAny _ _ (call (.ref C) us) _ _ _
  obtain ⟨hp, g, dr, tk, os⟩ := s1
  have new : hp.objs.size ≤ hp.objs.size + 1 := Nat.le_succ _
  have hq := q1 (hp.objs.size + 1) (I1.hok.fresh new)
  rw [List.append_nil] at hq
  have keep : ∀ b o, hp.get? b = some o → ((hp.push (PySem.W.kdv_tup us)).push (PySem.HandSPX.excO C hp.objs.size)).get? b = some o := fun b o e => Heap.get?_push_of_some _ (Heap.get?_push_of_some _ e)
  have made : ((hp.push (PySem.W.kdv_tup us)).push (PySem.HandSPX.excO C hp.objs.size)).get? (hp.objs.size + 1) = some (PySem.HandSPX.excO C hp.objs.size) := by heap_get
  have I2 := I1.laid (t' := tk) (a := hp.objs.size + 1) (o := exo (hp.objs.size + 1) C none) (h' := (hp.push (PySem.W.kdv_tup us)).push (PySem.HandSPX.excO C hp.objs.size)) keep new (exo_ok made)
  have r2 : Vals (V.ref (hp.objs.size + 1) :: vs) (Value.ref (hp.objs.size + 1) :: us) := .cons rfl r1
  have hl : (Value.ref (hp.objs.size + 1) :: us ++ []).length = ps.length := by
    have e := r2.length
    rw [len _ _ _ _ hq] at e
    rw [List.append_nil]
    exact e.symm
  have b2 := hb _ (Value.ref (hp.objs.size + 1) :: us) I2.kIn hl
  rw [List.append_nil] at b2
  have hus : us.length ≤ sizeLine := by
    rw [← Paired.length r1, sizeLine_eq]
    omega
  refine wpAny_call (PySem.HandSPX.call_own F.excBase_ValueError (fun Y => PySem.HandSPX.refsVE_contains Y bm hbm) (I1.kIn _ _ hC) (PySem.W.looks_findIn I1.kIn iC) (fun self => PySem.W.bind_fn I1.kIn self tI) hus
    (codeAny_mono (run us I2 b2 r2 hq) fun r s' hq' => ?_))
  cases r with
  | error er => exact hx pins σ _ _ er s' I2 hq'
  | ok fl =>
    cases fl with
    | ret u =>
      obtain ⟨v, H2, os2, bare2, un2, hok2, rv, ev, d, fs, ea, ed, hd1, q2⟩ := hq'
      subst ev
      obtain ⟨h2, g2, d2, t2, os'⟩ := s'
      obtain ⟨t0, G, J, kG, ge, hoe, na⟩ := mk_end0 (d2 := d2) (t2 := t2) I1 new keep un2 hok2 os2 bare2 ea ed hd1
      refine ⟨rv, ⟨hp.objs.size + 1, _, _, ⟨G, g2, d2, t2, os'⟩, _, .ref C, some d, rfl, J, kG, ge, hoe, ⟨rfl, rfl, fun vs hv => by cases hv; rfl⟩, rfl, rfl, na, rfl, bare2, raises_own T.exC T.tyC, q2⟩, fun a oe vs ea2 hg2 hd2 => ?_⟩
      cases ea2
      have hg3 : h2.get? (hp.objs.size + 1) = some oe := hg2
      rw [hoe] at hg3
      cases hg3
      cases hd2
      show (4 : Nat) < 6
      decide
    | next => exact hq'.elim
    | brk => exact hq'.elim
    | cont => exact hq'.elim
/-- calm -/
theorem pmk_calm (T : OexC X.K C) (iC : PySem.W.findIn X.K (.ref C) "__init__" = some (some (.ref fI))) (tI : PySem.W.typeIn X.K (.ref fI) = some (.type "function")) (F1 : FnOk X.prog X.w X.K X.mg X.base CX k fI fd ps sp) (hr : Room (k + 1) X.A)
    (hb : Binds X.K fd ps []) (hx : Passes CX X (fun _ _ _ => False)) (hg : Gl X x) (hm : X.mg x = some (.ref C)) (ha : PA X (e :: es) ta)
    (hdb : (x == ("__debug__" : Str)) = false := by decide) (he : starEach (e :: es) X.env = (false, eval e X.env) :: starEach es X.env := by rfl) (hpl : (backTo pos (starEach es X.env)).any (·.1) = false := by rfl) :
    L2N.PMk X (.Call (.Name x p) (e :: es) [] pos) (tMkO C sp [] ta) :=
  (pmk_by T iC tI F1.len (fun ws I b r h => F1.run _ _ _ _ _ _ _ _ _ (hr.make C ws []) (I.env0.make C ws []) b r h) hb hx hg hm ha hdb he hpl).pmk
/-- while something is handled (any pin will do) -/
theorem pmk_hot {q : Addr × Obj} (T : OexC X.K C) (iC : PySem.W.findIn X.K (.ref C) "__init__" = some (some (.ref fI))) (tI : PySem.W.typeIn X.K (.ref fI) = some (.type "function")) (F1 : FnT X.prog X.w X.K X.mg X.base CX k fI fd ps sp) (hr : L2H.RoomH (k + 1) X.A) (hq : q ∈ X.pn)
    (hb : Binds X.K fd ps []) (hx : Passes CX X (fun _ _ _ => False)) (hg : Gl X x) (hm : X.mg x = some (.ref C)) (ha : PA X (e :: es) ta)
    (hdb : (x == ("__debug__" : Str)) = false := by decide) (he : starEach (e :: es) X.env = (false, eval e X.env) :: starEach es X.env := by rfl) (hpl : (backTo pos (starEach es X.env)).any (·.1) = false := by rfl) :
    L2H.PMk5 X (.Call (.Name x p) (e :: es) [] pos) (tMkO C sp [] ta) :=
  pmk_by T iC tI F1.len (fun {pins σ H s us vs Q} ws I b r h => by
    have P1 := I.pin q (List.mem_append_left _ hq)
    exact F1.run _ _ _ _ _ _ _ _ _ q (hr.make C ws []) ⟨P1.1, P1.2.1, fun hm => (List.mem_cons.mp (I.stkSub q.1 hm)).elim P1.2.2.1 P1.2.2.2.1, P1.2.2.2.2⟩ (I.env0.make C ws []) b r h) hb hx hg hm ha hdb he hpl
end
end L3

/-! FLg: methods that raise; a caught exception's fields; steps. -/
namespace L3
open PySem PySem.Spec PyProof.Rows L2
section
variable {X : Cx} {CX : CXT} {k : Nat} {f C : Addr} {fd : FuncData} {ps : List Str} {sp : Sp} {E : St → XK} {m : Str} {pos apos : Pos} {e o : Expr} {es : List Expr} {ta : TE} {t : TA}
/-- o.m(e, ..), m may raise; what is wished for stands at the slots -/
def tMethY (C : Addr) (m : Str) (sp : Sp) (E : St → XK) (ta : TE) (t : TA) : TE := fun σ H Q => ta σ H fun x H1 => ∃ a dx fs, x = .ref a ∧ H1 a = some (.ins C dx fs) ∧ fs.lookup m = none ∧ t σ H1 fun vs H2 => sp (x :: vs) H2 Q (E σ)
theorem pe_methY {pl : Sem Bool} (he : PE X o ta) (c : Cls X.K C) (hm : Meth X.K C m f) (F : FnOk X.prog X.w X.K X.mg X.base CX k f fd ps sp) (hr : Room k X.A) (hb : Binds X.K fd ps []) (hx : ∀ σ, PassesAt CX X σ (E σ)) (ha : PA X (e :: es) t)
    (hst : starEach (e :: es) X.env = (false, eval e X.env) :: starEach es X.env := by rfl) (hpl : (backTo pos (starEach es X.env)).any (·.1) = false := by rfl)
    (ht : eval (.Call (.Attribute o m apos) (e :: es) [] pos) X.env = (do
      let ov ← eval o X.env
      standAt apos.atName
      let (f, first) ← holding [ov] (getMethod ov m pl)
      callWith pos f first (backTo pos (starEach (e :: es) X.env)) (backToKw pos (keywordEach [] X.env))) := by rfl) :
    PE X (.Call (.Attribute o m apos) (e :: es) [] pos) (tMethY C m sp E ta t) := by
  refine ⟨fun pins s σ H Q I h => ?_⟩
  refine PySem.W.methodCall_KW (pl := pl) (thn (he.run pins s σ H _ I h) fun u s1 ⟨x, H1, I1, rx, a, dx, fs, ex, ea, l, q⟩ => ?_) ht
  subst ex
  obtain rfl : u = Value.ref a := rx
  refine getmeth_ok I1 ea c hm l ?_
  exact PySem.W.callWith_K (first := [.ref a]) (h₀ := X.base) I.ok.mod.kin hm.kp (thn (ha.run pos pins s1 σ H1 _ I1 q) fun us s2 ⟨vs, H2, I2, r, q2⟩ => ⟨I2.kIn, run_fnS (us := .ref a :: us) (vs := .ref a :: vs) F hr hb (hx σ) I2 (.cons rfl r) q2⟩) hst hpl
/-- the fields of what was caught -/
theorem pe_xfR {a : Addr} {oe : Obj} {cls : Value} {d : Option Addr} {te : TE} {n : Str} (T : XfC X.K C) (hno : PySem.W.findIn X.K (.ref C) n = some none) (hp : (a, oe) ∈ X.pn) (hz : Zc cls d oe) (hf : ∃ vs, oe.data = .fields vs) (he : PE X e te)
    (hb : attributeBase e n X.env (eval e X.env) = eval e X.env := by rfl) : PE X (.Attribute e n pos) (tXf a cls d C n te) := by
  refine ⟨fun pins s σ H Q I h => ?_⟩
  refine attr_of hb (thn (he.run pins s σ H _ I h) fun u s1 hh => ?_)
  obtain ⟨x, H1, I1, rx, ex, ec, dd, fs, v, ed, ea, l, q⟩ := hh
  subst ex ec ed
  obtain rfl : u = Value.ref a := rx
  have ha := (I1.pin (a, oe) (List.mem_append_left _ hp)).1
  obtain ⟨vs, hd⟩ := hf
  obtain ⟨mA, hns, hr⟩ := (show ObjOk X.prog X.w H1 s1.heap dd (.xd fs) from I1.hok dd _ ea)
  obtain ⟨od, ho, hl⟩ := lookIn_ns hns
  obtain ⟨u, hu, ru⟩ := RelO.some_of (v := v) (o := mA n) (by rw [← l]; exact hr n)
  have J : PySem.W.InstAt s1.heap a oe C (some od) := ⟨ha, hz.1, by unfold PySem.W.notCls; rw [hd] <;> rfl, by rw [hz.2]; exact ho⟩
  exact HandSPX.exc_get I1.kIn J T.ga T.gg T.exC (PySem.W.findObj_own T.hdC hno rfl (by rw [hl, hu])) (handed_of ru) ⟨v, H1, I1.tok _, ru, q⟩
end
section
variable {P : Program} {w : World} {K : PySem.W.Frag} {mg : Str → Option Value} {base : Heap}
/-- a def that may raise, by its body -/
theorem okY {x qual : Str} {st : Stmt} {f : Addr} {fd : FuncData} {N ps : List Str} {k : Nat} {sp : Sp} (F : Fun K x qual st f fd) (S : FnScope N ps (defScope st)) (len : ∀ vs H Q E, sp vs H Q E → vs.length = ps.length)
    (hbody : ∀ (cdv : Value) (A : Around) (outer : List Env) (s : Shared) (H : Hp) (vs : List V) (Q : VK) (E : XK), Room k (A.deeper (envOfC qual (defScope st) s.heap.objs.size f cdv)) → sp vs H Q E →
      ∃ t, PSs (cxOf (CX P w) P w K mg base N qual (defScope st) f cdv A outer s H E) (defBody st) t ∧ t { nx := fun _ H' => Q .non H', rt := Q } (start N vs) H) : FnOk P w K mg base (CX P w) (k + 1) f fd ps sp := by
  obtain ⟨oc, od, kV, doc, pm, an, cdv, ct, osl, rfl, lk, hcd⟩ := F.ex
  exact fn_of lk hcd S len fun A outer s H vs Q E hr hsp => hbody cdv A outer s H vs Q E hr hsp
/-- a method that may raise, by its name -/
def DmY (P : Program) (w : World) (K : PySem.W.Frag) (mg : Str → Option Value) (base : Heap) (k : Nat) (C : Addr) (m : Str) (ps : List Str) (sp : Sp) : Prop :=
  ∃ (f : Addr) (fd : FuncData), FnOk P w K mg base (CX P w) k f fd ps sp ∧ Meth K C m f ∧ Binds K fd ps []
/-- a def that may raise, by its name -/
def DnY (P : Program) (w : World) (K : PySem.W.Frag) (mg : Str → Option Value) (base : Heap) (k : Nat) (x : Str) (ps : List Str) (sp : Sp) : Prop :=
  ∃ (f : Addr) (fd : FuncData), FnOk P w K mg base (CX P w) k f fd ps sp ∧ mg x = some (.ref f) ∧ PySem.W.keepIn K (.ref f) = true ∧ Binds K fd ps []
/-- an exception class's __init__, whatever is handled -/
def DxT (P : Program) (w : World) (K : PySem.W.Frag) (mg : Str → Option Value) (base : Heap) (k : Nat) (C : Addr) (ps : List Str) (sp : Sp) : Prop :=
  ∃ (f : Addr) (fd : FuncData), FnT P w K mg base CX0 k f fd ps sp ∧ HL.ExcC K C f ∧ Binds K fd ps []
end
section
variable {K : PySem.W.Frag} {σ : St} {H : Hp} {D : Ends} {ta te : TE} {t : TA} {Q : VK}
theorem s_methY {C : Addr} {m : Str} {sp : Sp} {E : St → XK} (h : ta σ H fun x H1 => ∃ a dx fs, x = .ref a ∧ H1 a = some (.ins C dx fs) ∧ fs.lookup m = none ∧ t σ H1 fun vs H2 => sp (x :: vs) H2 Q (E σ)) : tMethY C m sp E ta t σ H Q := h
theorem s_reraise {W : St → Hp → Prop} (h : W σ H) : (fun (_ : Ends) (σ : St) (H : Hp) => W σ H) D σ H := h
theorem pass0 {X : Cx} : ∀ σ, PassesAt CX0 X σ (WE (fun _ _ _ _ => False) σ) := fun _ _ _ _ _ _ _ h => h.elim
end
end L3

/-! FLh: rules with K named; steps. -/
namespace L3
open PySem PySem.Spec PyProof.Rows L2 HL
section
variable {X : Cx} {K : PySem.W.Frag} {σ : St} {H : Hp} {D : Ends} {Q : VK} {ta tb te : TE}
def rDictP (K : PySem.W.Frag) : List V → Hp → VK → Prop := fun xs H Q => ∃ (a : Addr) (ps : List Addr) (kvs : List (Key × V)), xs = [.ref a] ∧ SqL K H a (ps.map V.ref) ∧ Paired (fun p kv => SqT K H p [kV kv.1, kv.2]) ps kvs ∧ ∀ p, H p = none → Q (.ref p) (upd H p (.dK (mergeK [] kvs)))
theorem dictPK (h : X.K = K) (hc : X.calm = true) : CallR X (.type "dict") (rDictP K) := h ▸ call_dictP hc
theorem s_dpop1 (h : ta σ H fun x H1 => ∃ a, x = .ref a ∧ IsD H1 a ∧ tb σ H1 fun y H2 => ∃ kvs k v, H2 a = some (.dK kvs) ∧ y = kV k ∧ valV kvs k = some v ∧ Q v (upd H2 a (.dK (dropK kvs k)))) : tDPop1 ta tb σ H Q := h
theorem s_dpop2 (h : ta σ H fun x H1 => ∃ a, x = .ref a ∧ IsD H1 a ∧ tb σ H1 fun y H2 => te σ H2 fun z H3 => ∃ kvs k, H3 a = some (.dK kvs) ∧ y = kV k ∧
  (∀ v, valV kvs k = some v → Q v (upd H3 a (.dK (dropK kvs k)))) ∧ (valV kvs k = none → Q z H3)) : tDPop2 ta tb te σ H Q := h
theorem s_dget2 (h : ta σ H fun x H1 => ∃ a, x = .ref a ∧ IsD H1 a ∧ tb σ H1 fun y H2 => te σ H2 fun z H3 => ∃ o, DGet H3 a y o ∧ Q (o.getD z) H3) : tDGet2 ta tb te σ H Q := h
/-- an exception caught: how it goes on -/
theorem w_as {c : Value} {i : Nat} {ts : Addr → Value → Option Addr → TS} {Wout : WX} {d : Option Addr} {C : Addr} (he : PySem.W.exmOne K (.ref C) c = some true)
    (h : ∀ a, H a = none → ts a (.ref C) d { nx := fun σ' H' => D.nx (σ'.set i none) H', rt := D.rt, bk := fun σ' H' => D.bk (σ'.set i none) H', ct := fun σ' H' => D.ct (σ'.set i none) H' } (σ.set i (some (.ref a))) H) : wAs K c i ts Wout D (.ref C) d σ H :=
  ⟨true, he, fun _ => h, fun z => Bool.noConfusion z⟩
theorem w_not {c : Value} {i : Nat} {ts : Addr → Value → Option Addr → TS} {Wout : WX} {d : Option Addr} {C : Addr} (he : PySem.W.exmOne K (.ref C) c = some false) (h : Wout (.ref C) d σ H) : wAs K c i ts Wout D (.ref C) d σ H :=
  ⟨false, he, fun z => Bool.noConfusion z, fun _ => h⟩
end
end L3

/-! FLi: what an expression makes, read only from then on. -/
namespace L3
open PySem PySem.Spec PyProof.Rows L2 HL TL
def tFrz (t : TE) : TE := fun σ H Q => t σ H fun x H1 => ∃ d u, x = .ref d ∧ H1 d = some u ∧ L2.Mut (some u) ∧ ∀ od, Q x (upd H1 d (.frz od u))
theorem pe_frz {X : Cx} {e : Expr} {t : TE} (h : PE X e t) : PE X e (tFrz t) := ⟨fun pins s σ H Q I hw => by
  refine thn (h.run pins s σ H _ I hw) fun v s1 ⟨x, H1, I2, r, d, u, e1, e2, mu, q⟩ => ?_
  obtain ⟨od, I3⟩ := I2.lock e2 mu
  exact ⟨x, _, I3, r, q od⟩⟩
theorem s_frz {t : TE} {σ : L2.St} {H : Hp} {Q : VK} (h : t σ H fun x H1 => ∃ d u, x = .ref d ∧ H1 d = some u ∧ L2.Mut (some u) ∧ ∀ od, Q x (upd H1 d (.frz od u))) : tFrz t σ H Q := h
end L3
namespace L3
open PySem PySem.Spec PyProof.Rows L2 HL TL
/-- nothing flies -/
theorem passNo {X : Cx} {P : Program} {w : World} : ∀ σ, PassesAt (CX P w) X σ (WE (fun _ _ _ _ => False) σ) := fun _ _ _ _ _ _ _ h => by
  obtain ⟨_, _, _, _, _, _, _, _, _, _, _, _, e⟩ := h
  exact e.elim
end L3

/-! FPa: what a house does, in plain Lean. -/
namespace PH
open PySem PySem.Spec PyProof.Rows L2 HL TL
noncomputable def srt (ks : List Str) : List Str := open Classical in if h : ∃ ys : List Str, ys.Perm ks ∧ sortedS ys = true then h.choose else ks
theorem srt_eq {ys ks : List Str} (p : ys.Perm ks) (s : sortedS ys = true) : ys = srt ks := by
  have h : ∃ ys : List Str, ys.Perm ks ∧ sortedS ys = true := ⟨ys, p, s⟩
  unfold srt
  rw [dif_pos h]
  exact sorted_eq p s h.choose_spec.1 h.choose_spec.2
/-- a thing, its modules by their places in what was made -/
inductive Th
  | num (n : Int)
  | mod (k : Nat)
  | fn (k : Nat) (r : Str)
inductive Row
  | set (x : Str) (n : Int)
  | now (x r : Str)
  | take (x p : Str)
  | draw (x p y : Str)
  | late (x r : Str)
  | ask (x r : Str)
  | note (p : Str)
  | fail (w : Str)
  | tr (a : List Row) (ws : List Str) (b : List Row)
abbrev S (z : Str) : PyData := .str z
def Row.dat : Nat → Row → PyData
  | _, .set x n => .tuple [S "set", S x, .int n]
  | _, .now x r => .tuple [S "now", S x, S r]
  | _, .take x p => .tuple [S "take", S x, S p]
  | _, .draw x p y => .tuple [S "draw", S x, S p, S y]
  | _, .late x r => .tuple [S "late", S x, S r]
  | _, .ask x r => .tuple [S "ask", S x, S r]
  | _, .note p => .tuple [S "note", S p]
  | _, .fail w => .tuple [S "fail", S w]
  | 0, .tr _ _ _ => .none
  | d + 1, .tr a ws b => .tuple [S "try", .tuple (a.map (Row.dat d)), .tuple (ws.map .str), .tuple (b.map (Row.dat d))]
abbrev rowsD (rs : List Row) : List PyData := rs.map (Row.dat 3)
/-- as a dict puts: a name anew in its old place -/
def putA {α : Type} (xs : List (Str × α)) (z : Str) (t : α) : List (Str × α) :=
  if (xs.any fun x => decide (x.1 = z)) = true then xs.map (fun x => if x.1 = z then (x.1, t) else x) else xs ++ [(z, t)]
def getA {α : Type} (xs : List (Str × α)) (z : Str) : Option α := (xs.find? fun x => decide (x.1 = z)).map (·.2)
def delA {α : Type} (xs : List (Str × α)) (z : Str) : List (Str × α) := xs.filter fun x => decide (x.1 ≠ z)
section
variable {α : Type} {xs : List (Str × α)} {z y : Str} {t : α}
theorem any_iff : (xs.any fun x => decide (x.1 = z)) = true ↔ z ∈ xs.map (·.1) := by
  simp only [List.any_eq_true, decide_eq_true_eq, List.mem_map]
theorem putA_new (h : z ∉ xs.map (·.1)) : putA xs z t = xs ++ [(z, t)] := if_neg fun e => h (any_iff.mp e)
theorem putA_old (h : z ∈ xs.map (·.1)) : putA xs z t = xs.map fun x => if x.1 = z then (x.1, t) else x := if_pos (any_iff.mpr h)
theorem putA_len : (putA xs z t).length ≤ xs.length + 1 := by
  unfold putA
  split
  · rw [List.length_map]; omega
  · rw [List.length_append]; exact Nat.le_refl _
theorem getA_cons (x : Str × α) : getA (x :: xs) z = if x.1 = z then some x.2 else getA xs z := by
  unfold getA
  rw [List.find?_cons]
  by_cases c : x.1 = z
  · rw [decide_eq_true c, if_pos c]; rfl
  · rw [decide_eq_false c, if_neg c]
theorem getA_none : getA xs z = none ↔ z ∉ xs.map (·.1) := by
  induction xs with
  | nil => simp [getA]
  | cons x r ih =>
    rw [getA_cons]
    by_cases c : x.1 = z
    · rw [if_pos c]; simp [c]
    · rw [if_neg c, ih]; simp [Ne.symm c]
theorem getA_mem {u : α} (h : getA xs z = some u) : (z, u) ∈ xs := by
  induction xs with
  | nil => cases h
  | cons x r ih =>
    rw [getA_cons] at h
    by_cases c : x.1 = z
    · rw [if_pos c] at h; cases h; subst c; exact List.mem_cons_self
    · rw [if_neg c] at h; exact List.mem_cons_of_mem _ (ih h)
theorem delA_len : (delA xs z).length ≤ xs.length := List.length_filter_le _ _
theorem delA_keep {y : Str} (h : y ∈ xs.map (·.1)) (n : y ≠ z) : y ∈ (delA xs z).map (·.1) := by
  obtain ⟨x, hx, e⟩ := List.mem_map.mp h
  exact List.mem_map.mpr ⟨x, List.mem_filter.mpr ⟨hx, decide_eq_true (by rw [e]; exact n)⟩, e⟩
theorem delA_keys {y : Str} (h : y ∈ (delA xs z).map (·.1)) : y ∈ xs.map (·.1) ∧ y ≠ z := by
  obtain ⟨x, hx, e⟩ := List.mem_map.mp h
  obtain ⟨h1, h2⟩ := List.mem_filter.mp hx
  exact ⟨List.mem_map.mpr ⟨x, h1, e⟩, e ▸ of_decide_eq_true h2⟩
theorem putA_keys : (putA xs z t).map (·.1) = if z ∈ xs.map (·.1) then xs.map (·.1) else xs.map (·.1) ++ [z] := by
  by_cases c : z ∈ xs.map (·.1)
  · rw [putA_old c, if_pos c, List.map_map]
    refine List.map_congr_left fun x _ => ?_
    show (if x.1 = z then (x.1, t) else x).1 = x.1
    split <;> rfl
  · rw [putA_new c, if_neg c, List.map_append]; rfl
theorem getA_put : getA (putA xs z t) y = if y = z then some t else getA xs y := by
  by_cases c : z ∈ xs.map (·.1)
  · rw [putA_old c]
    induction xs with
    | nil => cases c
    | cons x r ih =>
      rw [List.map_cons, getA_cons, getA_cons]
      by_cases e : x.1 = z
      · rw [if_pos e]
        dsimp only
        by_cases q : y = z
        · rw [if_pos q, if_pos (e.trans q.symm)]
        · rw [if_neg q, if_neg fun h => q (h.symm.trans e), if_neg fun h => q (h.symm.trans e)]
          by_cases m : z ∈ r.map (·.1)
          · rw [ih m, if_neg q]
          · congr 1
            exact (List.map_congr_left fun w hw => if_neg fun h => m (List.mem_map.mpr ⟨w, hw, h⟩)).trans (List.map_id' _)
      · rw [if_neg e]
        have m : z ∈ r.map (·.1) := (List.mem_cons.mp c).resolve_left fun h => e h.symm
        rw [ih m]
        by_cases q : x.1 = y
        · rw [if_pos q, if_neg fun h => e (q.trans h), if_pos q]
        · rw [if_neg q, if_neg q]
  · rw [putA_new c]
    have e : getA xs z = none := getA_none.mpr c
    unfold getA at e ⊢
    rw [List.find?_append]
    by_cases q : y = z
    · subst q
      rw [if_pos rfl]
      cases h : xs.find? fun x => decide (x.1 = y) with
      | none => simp
      | some u => rw [h] at e; cases e
    · rw [if_neg q]
      have : List.find? (fun x => decide (x.1 = y)) [(z, t)] = none := by
        rw [List.find?_cons, decide_eq_false (fun h : z = y => q h.symm)]; rfl
      rw [this]
      cases xs.find? fun x => decide (x.1 = y) <;> rfl
end
structure Ab where
  qs : List Str
  nm : List (List (Str × Th))
  tab : List (Str × Nat)
  brk : List (Str × (Nat × PyData))
  met : List PyData
  fat : List Nat
  log : List PyData
  pap : List PyData
  line : List (Nat × Nat)
abbrev Rs (α : Type) := Ab × Except PyData α
namespace Ab
variable (a : Ab)
def path (k : Nat) : Str := a.qs.getD k ""
def names (k : Nat) : List (Str × Th) := a.nm.getD k []
def bind (k : Nat) (z : Str) (t : Th) : Ab := { a with nm := a.nm.set k (putA (a.names k) z t) }
def put (e : PyData) : Ab := { a with log := a.log ++ [e] }
end Ab
abbrev numD (k : Nat) : PyData := .int ((k + 1 : Nat) : Int)
abbrev haveE (k : Nat) : PyData := .tuple [S "have", numD k]
abbrev againE (k : Nat) : PyData := .tuple [S "again", numD k]
abbrev beginE (k : Nat) (p : Str) : PyData := .tuple [S "begin", numD k, S p]
abbrev endE (k : Nat) : PyData := .tuple [S "end", numD k]
abbrev failE (k : Nat) (f : PyData) : PyData := .tuple [S "fail", numD k, f]
abbrev noteE (k : Nat) (d : PyData) : PyData := .tuple [S "note", numD k, d]
abbrev caughtE (k r : Nat) (w : PyData) : PyData := .tuple [S "caught", numD k, .int (r : Nat), w]
abbrev stepE (p : Str) (r : Nat) : PyData := .tuple [S p, .int (r : Nat)]
abbrev noModF (p : Str) : PyData := .tuple [S "NOMODULE", S p]
abbrev noNameF (p z : Str) : PyData := .tuple [S "NONAME", S p, S z]
abbrev halfF (p z : Str) (ring : List PyData) : PyData := .tuple [S "HALF", S p, S z, .tuple ring]
abbrev flatF (p z : Str) : PyData := .tuple [S "FLAT", S p, S z]
abbrev notAskF (p z : Str) : PyData := .tuple [S "NOTASK", S p, S z]
/-- a fault's word -/
def wordF : PyData → Str
  | .tuple (.str w :: _) => w
  | _ => ""
def papE (k : Nat) (l : List (Nat × Nat)) : PyData := match l.getLast? with
  | none => .tuple [numD k, .none, .none]
  | some x => .tuple [numD k, numD x.1, .int (x.2 : Nat)]
def setR (l : List (Nat × Nat)) (r : Nat) : List (Nat × Nat) := l.dropLast ++ (l.getLast?.map fun x => (x.1, r)).toList
namespace Ab
variable (a : Ab)
def row (r : Nat) : Ab := { a with line := setR a.line r }
def road (l : List (Nat × Nat)) : List PyData := l.map fun x => stepE (a.path x.1) x.2
def up : Ab := { a with met := a.road a.line }
def top : Nat × Nat := a.line.getLast?.getD (0, 0)
noncomputable def noted (p : Str) : PyData := match getA a.tab p with
  | none => .none
  | some k => .tuple ((srt ((a.names k).map (·.1))).map .str)
def look (ch : List (Nat × Nat)) (k : Nat) (z : Str) : Except PyData Th := match getA (a.names k) z with
  | some t => .ok t
  | none => match a.road (ch.dropWhile fun x => !decide (x.1 = k)) with
    | [] => .error (noNameF (a.path k) z)
    | r => .error (halfF (a.path k) z r)
def place (ch : List (Nat × Nat)) : Nat → List Str → Except PyData (Nat × Str)
  | k, [] => .ok (k, "")
  | k, [z] => .ok (k, z)
  | k, z :: y :: r => match a.look ch k z with
    | .ok (.mod m) => place ch m (y :: r)
    | .ok _ => .error (flatF (a.path k) z)
    | .error f => .error f
def follow (ch : List (Nat × Nat)) (k : Nat) (r : Str) : Except PyData Th := match a.place ch k (Txt.split r ".") with
  | .ok (m, z) => a.look ch m z
  | .error f => .error f
def asks (ch : List (Nat × Nat)) (k : Nat) (r : Str) : Except PyData Th := match a.place ch k (Txt.split r ".") with
  | .error f => .error f
  | .ok (m, z) => match a.look ch m z with
    | .error f => .error f
    | .ok (.fn h q) => a.follow ch h q
    | .ok _ => .error (notAskF (a.path m) z)
def begin (p : Str) : Ab := { a with qs := a.qs ++ [p], nm := a.nm ++ [[]], tab := a.tab ++ [(p, a.qs.length)], log := a.log ++ [beginE a.qs.length p], pap := a.pap ++ [papE a.qs.length a.line], line := a.line ++ [(a.qs.length, 0)] }
def fin (k : Nat) : Ab := { a with line := a.line.dropLast, log := a.log ++ [endE k] }
def broke (k : Nat) (p : Str) (f : PyData) : Ab := { a with line := a.line.dropLast, log := a.log ++ [failE k f], tab := delA a.tab p, brk := a.brk ++ [(p, (k, f))], fat := a.fat ++ [k] }
/-- what came of a look in the running body: bound, or the fault comes up -/
def got (k : Nat) (x : Str) : Except PyData Th → Rs Unit
  | .ok t => (a.bind k x t, .ok ())
  | .error f => (a.up, .error f)
end Ab
/-- rows one behind the other -/
def seqF (f : Row → Ab → Rs Unit) : List Row → Ab → Rs Unit
  | [], a => (a, .ok ())
  | r :: rs, a => match f r a with
    | (b, .ok _) => seqF f rs b
    | (b, .error e) => (b, .error e)
/-- a body's rows, each by its number -/
def bodyF (f : Row → Ab → Rs Unit) : Nat → List Row → Ab → Rs Unit
  | _, [], a => (a, .ok ())
  | i, r :: rs, a => match f r (a.row i) with
    | (b, .ok _) => bodyF f (i + 1) rs b
    | (b, .error e) => (b, .error e)
/-- how a path is taken, and what is drawn, by a house: by taken_one -/
structure Way where
  tk : (Ab → Str → Rs Nat) → Ab → Str → Rs Nat
  dr : (Ab → Str → Rs Nat) → Ab → Nat → Str → Rs Th
  wh : Ab → Nat → Ab
noncomputable def flatRow (w : Way) (on : Ab → Str → Rs Nat) (r : Row) (a : Ab) : Rs Unit := match r with
  | .set x n => (a.bind a.top.1 x (.num n), .ok ())
  | .now x q => a.got a.top.1 x (a.follow a.line a.top.1 q)
  | .take x p => match w.tk on a p with
    | (b, .ok m) => (b.bind a.top.1 x (.mod m), .ok ())
    | (b, .error f) => (b, .error f)
  | .draw x p y => match w.tk on a p with
    | (b, .error f) => (b, .error f)
    | (b, .ok m) => match w.dr on b m y with
      | (c, .ok t) => (c.bind a.top.1 x t, .ok ())
      | (c, .error f) => (c, .error f)
  | .late x q => (a.bind a.top.1 x (.fn a.top.1 q), .ok ())
  | .ask x q => a.got a.top.1 x (a.asks a.line a.top.1 q)
  | .note p => (a.put (noteE a.top.1 (a.noted p)), .ok ())
  | .fail z => (a.up, .error (.tuple [S z]))
  | .tr _ _ _ => (a, .ok ())
def caughtBy (ws : List Str) (f : PyData) : Bool := ws.any fun w => decide (wordF f = w ∨ w = "ALL")
noncomputable def rowF (w : Way) (on : Ab → Str → Rs Nat) : Nat → Row → Ab → Rs Unit
  | d + 1, .tr xs ws ys, a => match seqF (rowF w on d) xs a with
    | (b, .ok _) => (b, .ok ())
    | (b, .error f) => if caughtBy ws f = true then seqF (rowF w on d) ys (b.put (caughtE b.top.1 b.top.2 (S (wordF f)))) else (b, .error f)
  | _, r, a => flatRow w on r a
noncomputable def beginF (w : Way) (on : Ab → Str → Rs Nat) (a : Ab) (p : Str) (body : List Row) : Rs Nat := match bodyF (rowF w on 3) 0 body (a.begin p) with
  | (b, .ok _) => (w.wh (b.fin a.qs.length) a.qs.length, .ok a.qs.length)
  | (b, .error f) => (b.broke a.qs.length p f, .error f)
noncomputable def oneF (w : Way) (fnd : Str → Option (List Row)) : Nat → Ab → Str → Rs Nat
  | 0, a, _ => (a, .error .none)
  | n + 1, a, p => match getA a.tab p with
    | some k => (a.put (haveE k), .ok k)
    | none => match getA a.brk p with
      | some (k, f) => ((a.put (againE k)).up, .error f)
      | none => match fnd p with
        | none => (a.up, .error (noModF p))
        | some body => beginF w (oneF w fnd n) a p body
end PH

/-! FPb: how much a house's doing adds. -/
namespace PH
open PySem PySem.Spec PyProof.Rows L2 HL TL
def cntR : Nat → Row → Nat
  | d + 1, .tr xs _ ys => 1 + (xs.map (cntR d)).sum + (ys.map (cntR d)).sum
  | _, _ => 1
def cntsR (d : Nat) (rs : List Row) : Nat := (rs.map (cntR d)).sum
def seen (a : Ab) : List Str := a.tab.map (·.1) ++ a.brk.map (·.1)
def rem (ps : List Str) (a : Ab) : Nat := (ps.filter fun p => !decide (p ∈ seen a)).length
def many (nm : List (List (Str × Th))) : Nat := (nm.map List.length).sum
def wt (a : Ab) : Nat := a.log.length + a.pap.length + a.qs.length + many a.nm + a.brk.length + a.fat.length + a.tab.length
def lot (ps : List Str) (a : Ab) : Nat := wt a + 260 * rem ps a
theorem rem_mono {ps : List Str} {a b : Ab} (h : ∀ q ∈ seen a, q ∈ seen b) : rem ps b ≤ rem ps a := by
  unfold rem
  rw [← List.countP_eq_length_filter, ← List.countP_eq_length_filter]
  refine List.countP_mono_left fun p _ hp => ?_
  simp only [Bool.not_eq_true', decide_eq_false_iff_not] at hp ⊢
  exact fun m => hp (h p m)
theorem filter_lt {p : Str} : ∀ {l : List Str}, p ∈ l → (l.filter fun x => !decide (x = p)).length + 1 ≤ l.length
  | x :: r, m => by
    by_cases c : x = p
    · subst c
      rw [List.filter_cons_of_neg (by simp)]
      have := List.length_filter_le (fun y => !decide (y = x)) r
      rw [List.length_cons]
      omega
    · rw [List.filter_cons_of_pos (by simpa using c)]
      have := filter_lt ((List.mem_cons.mp m).resolve_left fun e => c e.symm)
      rw [List.length_cons, List.length_cons]
      omega
theorem rem_lt {ps : List Str} {a b : Ab} {p : Str} (hp : p ∈ ps) (n : p ∉ seen a) (e : ∀ q, q ∈ seen b ↔ q ∈ seen a ∨ q = p) : rem ps b + 1 ≤ rem ps a := by
  unfold rem
  have h1 : (ps.filter fun x => !decide (x ∈ seen b)) = (ps.filter fun x => !decide (x ∈ seen a)).filter fun x => !decide (x = p) := by
    rw [List.filter_filter]
    refine List.filter_congr fun x _ => ?_
    have := e x
    by_cases c2 : x = p
    · subst c2
      simp [this]
    · by_cases c1 : x ∈ seen a <;> simp [c1, c2, this]
  rw [h1]
  exact filter_lt (List.mem_filter.mpr ⟨hp, by simpa using n⟩)
structure Gr (ps : List Str) (c : Nat) (a b : Ab) : Prop where
  lot : lot ps b ≤ lot ps a + c
  rem : rem ps b ≤ rem ps a
  qs : ∃ more, b.qs = a.qs ++ more
theorem Gr.refl {ps : List Str} {a : Ab} : Gr ps 0 a a := ⟨Nat.le_refl _, Nat.le_refl _, [], by simp⟩
theorem Gr.tr {ps : List Str} {c d : Nat} {a b e : Ab} (x : Gr ps c a b) (y : Gr ps d b e) : Gr ps (c + d) a e := by
  obtain ⟨m1, e1⟩ := x.qs
  obtain ⟨m2, e2⟩ := y.qs
  exact ⟨by have := x.lot; have := y.lot; omega, Nat.le_trans y.rem x.rem, m1 ++ m2, by rw [e2, e1, List.append_assoc]⟩
theorem Gr.mono {ps : List Str} {c d : Nat} {a b : Ab} (x : Gr ps c a b) (h : c ≤ d) : Gr ps d a b := ⟨Nat.le_trans x.lot (by omega), x.rem, x.qs⟩
theorem many_set (nm : List (List (Str × Th))) (k : Nat) (z : Str) (t : Th) : many (nm.set k (putA (nm.getD k []) z t)) ≤ many nm + 1 := by
  induction nm generalizing k with
  | nil => exact Nat.le_succ _
  | cons x r ih =>
    cases k with
    | zero =>
      show (putA x z t).length + many r ≤ x.length + many r + 1
      have := putA_len (xs := x) (z := z) (t := t)
      omega
    | succ k =>
      show x.length + many (r.set k (putA (r.getD k []) z t)) ≤ x.length + many r + 1
      have := ih k
      omega
theorem names_le (a : Ab) (k : Nat) : (a.names k).length ≤ many a.nm := by
  unfold Ab.names
  generalize a.nm = nm
  induction nm generalizing k with
  | nil => exact Nat.le_refl _
  | cons x r ih =>
    cases k with
    | zero => exact Nat.le_add_right _ _
    | succ k => exact Nat.le_trans (ih k) (Nat.le_add_left _ _)
section
variable {ps : List Str} {a : Ab}
theorem gr_bind (k : Nat) (z : Str) (t : Th) : Gr ps 1 a (a.bind k z t) := by
  refine ⟨?_, Nat.le_refl _, [], by simp [Ab.bind]⟩
  have : many (a.nm.set k (putA (a.names k) z t)) ≤ many a.nm + 1 := many_set _ _ _ _
  show wt (a.bind k z t) + 260 * rem ps a ≤ _
  unfold lot wt
  show a.log.length + a.pap.length + a.qs.length + many (a.nm.set k _) + a.brk.length + a.fat.length + a.tab.length + _ ≤ _
  omega
theorem gr_put (e : PyData) : Gr ps 1 a (a.put e) := by
  refine ⟨?_, Nat.le_refl _, [], by simp [Ab.put]⟩
  show wt (a.put e) + 260 * rem ps a ≤ _
  unfold lot wt
  show (a.log ++ [e]).length + a.pap.length + a.qs.length + many a.nm + a.brk.length + a.fat.length + a.tab.length + _ ≤ _
  rw [List.length_append, List.length_singleton]
  omega
theorem gr_up : Gr ps 0 a a.up := ⟨Nat.le_refl _, Nat.le_refl _, [], by simp [Ab.up]⟩
theorem gr_row (r : Nat) : Gr ps 0 a (a.row r) := ⟨Nat.le_refl _, Nat.le_refl _, [], by simp [Ab.row]⟩
theorem gr_got (k : Nat) (x : Str) (t : Except PyData Th) : Gr ps 1 a (a.got k x t).1 := by
  cases t with
  | ok t => exact gr_bind _ _ _
  | error f => exact gr_up.mono (by decide)
theorem gr_fin (k : Nat) : Gr ps 1 a (a.fin k) := by
  refine ⟨?_, Nat.le_refl _, [], by simp [Ab.fin]⟩
  show wt (a.fin k) + 260 * rem ps a ≤ _
  unfold lot wt
  show (a.log ++ [_]).length + a.pap.length + a.qs.length + many a.nm + a.brk.length + a.fat.length + a.tab.length + _ ≤ _
  rw [List.length_append, List.length_singleton]
  omega
theorem gr_broke (k : Nat) (p : Str) (f : PyData) : Gr ps 3 a (a.broke k p f) := by
  have r1 : rem ps (a.broke k p f) ≤ rem ps a := rem_mono fun q hq => by
    show q ∈ (delA a.tab p).map (·.1) ++ (a.brk ++ [(p, (k, f))]).map (·.1)
    rw [List.map_append]
    by_cases c : q = p
    · subst c; simp
    · rcases List.mem_append.mp hq with h | h
      · exact List.mem_append_left _ (delA_keep h c)
      · exact List.mem_append_right _ (List.mem_append_left _ h)
  refine ⟨?_, r1, [], by simp [Ab.broke]⟩
  have := delA_len (xs := a.tab) (z := p)
  show wt (a.broke k p f) + 260 * rem ps (a.broke k p f) ≤ _
  unfold lot wt
  show (a.log ++ [_]).length + a.pap.length + a.qs.length + many a.nm + (a.brk ++ [_]).length + (a.fat ++ [_]).length + (delA a.tab p).length + _ ≤ _
  rw [List.length_append, List.length_append, List.length_append, List.length_singleton, List.length_singleton, List.length_singleton]
  omega
theorem gr_begin {p : Str} (hp : p ∈ ps) (h1 : getA a.tab p = none) (h2 : getA a.brk p = none) : lot ps (a.begin p) + 256 ≤ lot ps a ∧ rem ps (a.begin p) + 1 ≤ rem ps a := by
  have ns : p ∉ seen a := fun h => (List.mem_append.mp h).elim (getA_none.mp h1) (getA_none.mp h2)
  have r1 : rem ps (a.begin p) + 1 ≤ rem ps a := rem_lt hp ns fun q => by
    show q ∈ (a.tab ++ [(p, a.qs.length)]).map (·.1) ++ a.brk.map (·.1) ↔ _
    unfold seen
    rw [List.map_append]
    simp only [List.mem_append, List.map_cons, List.map_nil, List.mem_singleton]
    constructor
    · rintro ((h | h) | h)
      · exact .inl (.inl h)
      · exact .inr h
      · exact .inl (.inr h)
    · rintro ((h | h) | h)
      · exact .inl (.inl h)
      · exact .inr h
      · exact .inl (.inr h)
  refine ⟨?_, r1⟩
  have e : many (a.nm ++ [[]]) = many a.nm := by unfold many; simp
  show wt (a.begin p) + 260 * rem ps (a.begin p) + 256 ≤ _
  unfold lot wt
  show (a.log ++ [_]).length + (a.pap ++ [_]).length + (a.qs ++ [_]).length + many (a.nm ++ [[]]) + a.brk.length + a.fat.length + (a.tab ++ [_]).length + _ + _ ≤ _
  rw [List.length_append, List.length_append, List.length_append, List.length_append, List.length_singleton, List.length_singleton, List.length_singleton, List.length_singleton, e]
  omega
/-- relations that small doings keep -/
structure GoodR (R : Ab → Ab → Prop) : Prop where
  refl : ∀ a, R a a
  tr : ∀ a b c, R a b → R b c → R a c
  bind : ∀ (a : Ab) k z t, R a (a.bind k z t)
  put : ∀ (a : Ab) e, R a (a.put e)
  up : ∀ a : Ab, R a a.up
structure WayOk (ps : List Str) (w : Way) : Prop where
  gen : ∀ (R : Ab → Ab → Prop), GoodR R → ∀ on : Ab → Str → Rs Nat, (∀ a p, R a (on a p).1) → (∀ a p, R a (w.tk on a p).1) ∧ (∀ a k z, R a (w.dr on a k z).1) ∧ ∀ a k, R a (w.wh a k)
  tk : ∀ (on : Ab → Str → Rs Nat), (∀ a p, Gr ps 1 a (on a p).1) → ∀ a p, Gr ps 4 a (w.tk on a p).1
  dr : ∀ (on : Ab → Str → Rs Nat), (∀ a p, Gr ps 1 a (on a p).1) → ∀ a k z, Gr ps 1 a (w.dr on a k z).1
  wh : ∀ a k, Gr ps 1 a (w.wh a k)
variable {w : Way} {on : Ab → Str → Rs Nat}
theorem gr_flat (W : WayOk ps w) (h : ∀ a p, Gr ps 1 a (on a p).1) (r : Row) (a : Ab) : Gr ps 6 a (flatRow w on r a).1 := by
  cases r with
  | set x n => exact (gr_bind _ _ _).mono (by decide)
  | now x q => exact (gr_got _ _ _).mono (by decide)
  | take x p =>
    have g := W.tk on h a p
    rcases e : w.tk on a p with ⟨b, m | m⟩ <;> rw [e] at g <;> simp only [flatRow, e]
    · exact Gr.mono (d := 6) g (by decide)
    · exact Gr.mono (d := 6) (g.tr (gr_bind _ _ _)) (by decide)
  | draw x p z =>
    have g := W.tk on h a p
    rcases e : w.tk on a p with ⟨b, m | m⟩ <;> rw [e] at g <;> simp only [flatRow, e]
    · exact Gr.mono (d := 6) g (by decide)
    · have g2 := W.dr on h b m z
      rcases e2 : w.dr on b m z with ⟨c, t | t⟩ <;> rw [e2] at g2 <;> simp only []
      · exact Gr.mono (d := 6) (g.tr g2) (by decide)
      · exact Gr.mono (d := 6) ((g.tr g2).tr (gr_bind _ _ _)) (by decide)
  | late x q => exact (gr_bind _ _ _).mono (by decide)
  | ask x q => exact (gr_got _ _ _).mono (by decide)
  | note p => exact (gr_put _).mono (by decide)
  | fail z => exact gr_up.mono (by decide)
  | tr xs ws ys => exact Gr.refl.mono (by decide)
theorem gr_seq {f : Row → Ab → Rs Unit} {c : Row → Nat} (h : ∀ r a, Gr ps (6 * c r) a (f r a).1) : ∀ (rs : List Row) (a : Ab), Gr ps (6 * (rs.map c).sum) a (seqF f rs a).1
  | [], a => Gr.refl
  | r :: rs, a => by
    have g := h r a
    unfold seqF
    generalize f r a = y at g ⊢
    obtain ⟨b, m | m⟩ := y
    · exact g.mono (by rw [List.map_cons, List.sum_cons]; omega)
    · exact (g.tr (gr_seq h rs b)).mono (by rw [List.map_cons, List.sum_cons]; omega)
theorem gr_body {f : Row → Ab → Rs Unit} {c : Row → Nat} (h : ∀ r a, Gr ps (6 * c r) a (f r a).1) : ∀ (rs : List Row) (i : Nat) (a : Ab), Gr ps (6 * (rs.map c).sum) a (bodyF f i rs a).1
  | [], i, a => Gr.refl
  | r :: rs, i, a => by
    have g := (gr_row (ps := ps) (a := a) i).tr (h r (a.row i))
    unfold bodyF
    generalize f r (a.row i) = y at g ⊢
    obtain ⟨b, m | m⟩ := y
    · exact g.mono (by rw [List.map_cons, List.sum_cons]; omega)
    · exact (g.tr (gr_body h rs (i + 1) b)).mono (by rw [List.map_cons, List.sum_cons]; omega)
theorem cnt_pos (d : Nat) (r : Row) : 1 ≤ cntR d r := by
  cases d with
  | zero => cases r <;> exact Nat.le_refl _
  | succ d => cases r <;> first | exact Nat.le_refl _ | (unfold cntR; omega)
theorem gr_rowF (W : WayOk ps w) (h : ∀ a p, Gr ps 1 a (on a p).1) : ∀ (d : Nat) (r : Row) (a : Ab), Gr ps (6 * cntR d r) a (rowF w on d r a).1 := by
  intro d
  induction d with
  | zero =>
    intro r a
    have := cnt_pos 0 r
    have e : rowF w on 0 r a = flatRow w on r a := by cases r <;> rfl
    rw [e]
    exact (gr_flat W h r a).mono (by omega)
  | succ d ih =>
    intro r a
    have := cnt_pos (d + 1) r
    by_cases c : ∃ xs ws ys, r = .tr xs ws ys
    · obtain ⟨xs, ws, ys, rfl⟩ := c
      have g := gr_seq ih xs a
      unfold rowF cntR
      generalize seqF (rowF w on d) xs a = y at g ⊢
      obtain ⟨b, m | m⟩ := y
      · dsimp only
        split
        · exact ((g.tr (gr_put _)).tr (gr_seq ih ys _)).mono (by omega)
        · exact g.mono (by omega)
      · exact g.mono (by omega)
    · have e : rowF w on (d + 1) r a = flatRow w on r a := by
        cases r <;> first | rfl | exact absurd ⟨_, _, _, rfl⟩ c
      rw [e]
      exact (gr_flat W h r a).mono (by omega)
structure Bodies (ps : List Str) (fnd : Str → Option (List Row)) : Prop where
  mem : ∀ p b, fnd p = some b → p ∈ ps
  cnt : ∀ p b, fnd p = some b → cntsR 3 b ≤ 40
theorem gr_one {fnd : Str → Option (List Row)} (W : WayOk ps w) (B : Bodies ps fnd) : ∀ (n : Nat) (a : Ab) (p : Str), Gr ps 1 a (oneF w fnd n a p).1 := by
  intro n
  induction n with
  | zero => exact fun a p => Gr.refl.mono (by decide)
  | succ n ih =>
    intro a p
    unfold oneF
    cases h1 : getA a.tab p with
    | some k => exact gr_put _
    | none =>
      cases h2 : getA a.brk p with
      | some x => exact ((gr_put _).tr gr_up).mono (by decide)
      | none =>
        cases h3 : fnd p with
        | none => exact gr_up.mono (by decide)
        | some body =>
          obtain ⟨l1, l2⟩ := gr_begin (B.mem p body h3) h1 h2
          have g := gr_body (gr_rowF (w := w) (on := oneF w fnd n) W ih 3) body 0 (a.begin p)
          have c := B.cnt p body h3
          have c : (body.map (cntR 3)).sum ≤ 40 := c
          dsimp only
          unfold beginF
          generalize bodyF (rowF w (oneF w fnd n) 3) 0 body (a.begin p) = y at g ⊢
          obtain ⟨more, em⟩ := g.qs
          obtain ⟨b, m | m⟩ := y
          · have g2 := gr_broke (ps := ps) (a := b) a.qs.length p m
            obtain ⟨m2, e2⟩ := g2.qs
            refine ⟨?_, ?_, p :: more ++ m2, ?_⟩
            · have := g.lot; have := g2.lot; dsimp only at *; omega
            · have := g.rem; have := g2.rem; dsimp only at *; omega
            · show (b.broke _ p m).qs = _
              rw [e2]
              show b.qs ++ m2 = _
              rw [em]
              simp [Ab.begin]
          · have g2 := (gr_fin (ps := ps) (a := b) a.qs.length).tr (W.wh (b.fin a.qs.length) a.qs.length)
            obtain ⟨m2, e2⟩ := g2.qs
            refine ⟨?_, ?_, p :: more ++ m2, ?_⟩
            · have := g.lot; have := g2.lot; dsimp only at *; omega
            · have := g.rem; have := g2.rem; dsimp only at *; omega
            · show (w.wh (b.fin _) _).qs = _
              rw [e2]
              show b.qs ++ m2 = _
              rw [em]
              simp [Ab.begin]
end
/-- a house's way where paths have one name each -/
def wayR : Way := ⟨fun on a p => on a p, fun _ a k z => match a.follow a.line k z with | .ok t => (a, .ok t) | .error f => (a.up, .error f), fun a _ => a⟩
theorem wayR_ok (ps : List Str) : WayOk ps wayR := by
  refine ⟨fun R g on h => ⟨h, fun a k z => ?_, fun a _ => g.refl a⟩, fun on h a p => (h a p).mono (by decide), fun on _ a k z => ?_, fun a k => Gr.refl.mono (by decide)⟩
  · unfold wayR
    dsimp only
    split
    · exact g.refl a
    · exact g.up a
  · unfold wayR
    dsimp only
    split
    · exact Gr.refl.mono (by decide)
    · exact gr_up.mono (by decide)
/-! what the rows leave as it is -/
section
variable {ps : List Str} {w : Way} {on : Ab → Str → Rs Nat} {R : Ab → Ab → Prop}
theorem good_flat (W : WayOk ps w) (g : GoodR R) (h : ∀ a p, R a (on a p).1) (r : Row) (a : Ab) : R a (flatRow w on r a).1 := by
  obtain ⟨h1, h2, _⟩ := W.gen R g on h
  have got : ∀ (k : Nat) (x : Str) (t : Except PyData Th), R a (a.got k x t).1 := fun k x t => by
    cases t with
    | ok t => exact g.bind _ _ _ _
    | error f => exact g.up _
  cases r with
  | set x n => exact g.bind _ _ _ _
  | now x q => exact got _ _ _
  | take x p =>
    have e1 := h1 a p
    rcases e : w.tk on a p with ⟨b, m | m⟩ <;> rw [e] at e1 <;> simp only [flatRow, e]
    · exact e1
    · exact g.tr _ _ _ e1 (g.bind _ _ _ _)
  | draw x p z =>
    have e1 := h1 a p
    rcases e : w.tk on a p with ⟨b, m | m⟩ <;> rw [e] at e1 <;> simp only [flatRow, e]
    · exact e1
    · have e2 := h2 b m z
      rcases f : w.dr on b m z with ⟨c, t | t⟩ <;> rw [f] at e2 <;> simp only []
      · exact g.tr _ _ _ e1 e2
      · exact g.tr _ _ _ (g.tr _ _ _ e1 e2) (g.bind _ _ _ _)
  | late x q => exact g.bind _ _ _ _
  | ask x q => exact got _ _ _
  | note p => exact g.put _ _
  | fail z => exact g.up _
  | tr xs ws ys => exact g.refl _
theorem good_seq (g : GoodR R) {f : Row → Ab → Rs Unit} (h : ∀ r a, R a (f r a).1) : ∀ (rs : List Row) (a : Ab), R a (seqF f rs a).1
  | [], a => g.refl a
  | r :: rs, a => by
    have e := h r a
    unfold seqF
    generalize f r a = y at e ⊢
    obtain ⟨b, m | m⟩ := y
    · exact e
    · exact g.tr _ _ _ e (good_seq g h rs b)
theorem good_body (g : GoodR R) (hr : ∀ a i, R a (a.row i)) {f : Row → Ab → Rs Unit} (h : ∀ r a, R a (f r a).1) : ∀ (rs : List Row) (i : Nat) (a : Ab), R a (bodyF f i rs a).1
  | [], i, a => g.refl a
  | r :: rs, i, a => by
    have e := g.tr _ _ _ (hr a i) (h r (a.row i))
    unfold bodyF
    generalize f r (a.row i) = y at e ⊢
    obtain ⟨b, m | m⟩ := y
    · exact e
    · exact g.tr _ _ _ e (good_body g hr h rs (i + 1) b)
theorem good_rowF (W : WayOk ps w) (g : GoodR R) (h : ∀ a p, R a (on a p).1) : ∀ (d : Nat) (r : Row) (a : Ab), R a (rowF w on d r a).1 := by
  intro d
  induction d with
  | zero =>
    intro r a
    have e : rowF w on 0 r a = flatRow w on r a := by cases r <;> rfl
    rw [e]
    exact good_flat W g h r a
  | succ d ih =>
    intro r a
    by_cases c : ∃ xs ws ys, r = .tr xs ws ys
    · obtain ⟨xs, ws, ys, rfl⟩ := c
      have e := good_seq g ih xs a
      unfold rowF
      generalize seqF (rowF w on d) xs a = y at e ⊢
      obtain ⟨b, m | m⟩ := y
      · dsimp only
        split
        · exact g.tr _ _ _ (g.tr _ _ _ e (g.put _ _)) (good_seq g ih ys _)
        · exact e
      · exact e
    · have e : rowF w on (d + 1) r a = flatRow w on r a := by
        cases r <;> first | rfl | exact absurd ⟨_, _, _, rfl⟩ c
      rw [e]
      exact good_flat W g h r a
/-! the line -/
theorem setR_last (pre : List (Nat × Nat)) (x : Nat × Nat) (r : Nat) : setR (pre ++ [x]) r = pre ++ [(x.1, r)] := by
  unfold setR
  rw [List.dropLast_concat, List.getLast?_concat]
  rfl
theorem line_good : GoodR fun a b => b.line = a.line := ⟨fun _ => rfl, fun _ _ _ h g => g.trans h, fun _ _ _ _ => rfl, fun _ _ => rfl, fun _ => rfl⟩
theorem line_body {f : Row → Ab → Rs Unit} (h : ∀ r a, (f r a).1.line = a.line) : ∀ (rs : List Row) (i : Nat) (a : Ab) (pre : List (Nat × Nat)) (x : Nat × Nat), a.line = pre ++ [x] → ∃ r, (bodyF f i rs a).1.line = pre ++ [(x.1, r)]
  | [], i, a, pre, x, e => ⟨x.2, e⟩
  | r :: rs, i, a, pre, x, e => by
    have e1 : (f r (a.row i)).1.line = pre ++ [(x.1, i)] := (h r (a.row i)).trans (by show setR a.line i = _; rw [e, setR_last])
    unfold bodyF
    generalize f r (a.row i) = y at e1 ⊢
    obtain ⟨b, m | m⟩ := y
    · exact ⟨i, e1⟩
    · exact line_body h rs (i + 1) b pre (x.1, i) e1
theorem line_one {fnd : Str → Option (List Row)} (W : WayOk ps w) : ∀ (n : Nat) (a : Ab) (p : Str), (oneF w fnd n a p).1.line = a.line := by
  intro n
  induction n with
  | zero => exact fun a p => rfl
  | succ n ih =>
    intro a p
    unfold oneF
    cases h1 : getA a.tab p with
    | some k => rfl
    | none =>
      cases h2 : getA a.brk p with
      | some x => rfl
      | none =>
        cases h3 : fnd p with
        | none => rfl
        | some body =>
          dsimp only
          obtain ⟨r, e⟩ := line_body (f := rowF w (oneF w fnd n) 3) (good_rowF W line_good ih 3) body 0 (a.begin p) a.line (a.qs.length, 0) rfl
          unfold beginF
          generalize bodyF (rowF w (oneF w fnd n) 3) 0 body (a.begin p) = y at e ⊢
          obtain ⟨b, m | m⟩ := y
          · show b.line.dropLast = a.line
            rw [e, List.dropLast_concat]
          · have e2 : (w.wh (b.fin a.qs.length) a.qs.length).line = (b.fin a.qs.length).line := (W.gen _ line_good (fun a p => (a, .error .none)) fun a p => rfl).2.2 _ _
            show (w.wh (b.fin a.qs.length) a.qs.length).line = a.line
            rw [e2]
            show b.line.dropLast = a.line
            rw [e, List.dropLast_concat]
/-! what stands keeps standing -/
structure Kt (a b : Ab) : Prop where
  tab : ∀ p k, getA a.tab p = some k → getA b.tab p = some k
  brk : ∀ p k, getA a.tab p = some k → getA a.brk p = none → getA b.brk p = none
  fat : ∀ k, k < a.qs.length → k ∉ a.fat → k ∉ b.fat
  qs : a.qs.length ≤ b.qs.length
theorem kt_good : GoodR Kt := ⟨fun _ => ⟨fun _ _ h => h, fun _ _ _ h => h, fun _ _ h => h, Nat.le_refl _⟩,
  fun a b c x y => ⟨fun p k h => y.tab p k (x.tab p k h), fun p k h n => y.brk p k (x.tab p k h) (x.brk p k h n), fun k l n => y.fat k (Nat.lt_of_lt_of_le l x.qs) (x.fat k l n), Nat.le_trans x.qs y.qs⟩,
  fun _ _ _ _ => ⟨fun _ _ h => h, fun _ _ _ h => h, fun _ _ h => h, Nat.le_refl _⟩, fun _ _ => ⟨fun _ _ h => h, fun _ _ _ h => h, fun _ _ h => h, Nat.le_refl _⟩, fun _ => ⟨fun _ _ h => h, fun _ _ _ h => h, fun _ _ h => h, Nat.le_refl _⟩⟩
theorem kt_row (a : Ab) (i : Nat) : Kt a (a.row i) := ⟨fun _ _ h => h, fun _ _ _ h => h, fun _ _ h => h, Nat.le_refl _⟩
theorem getA_app {α : Type} {xs : List (Str × α)} {q p : Str} {t : α} : getA (xs ++ [(q, t)]) p = (getA xs p).or (if q = p then some t else none) := by
  induction xs with
  | nil =>
    rw [List.nil_append, getA_cons]
    by_cases c : q = p
    · rw [if_pos c, if_pos c]; rfl
    · rw [if_neg c, if_neg c]; rfl
  | cons x r ih =>
    rw [List.cons_append, getA_cons, getA_cons, ih]
    by_cases c : x.1 = p
    · rw [if_pos c, if_pos c]; rfl
    · rw [if_neg c, if_neg c]
theorem getA_del {α : Type} {xs : List (Str × α)} {q p : Str} : getA (delA xs q) p = if p = q then none else getA xs p := by
  induction xs with
  | nil =>
    show none = _
    split <;> rfl
  | cons x r ih =>
    unfold delA at ih ⊢
    rw [List.filter_cons]
    by_cases c : x.1 = q
    · rw [if_neg (by simp [c]), ih, getA_cons]
      by_cases e : p = q
      · rw [if_pos e, if_pos e]
      · rw [if_neg e, if_neg e, if_neg fun z => e (z.symm.trans c)]
    · rw [if_pos (by simp [c]), getA_cons, getA_cons, ih]
      by_cases e : x.1 = p
      · rw [if_pos e, if_pos e, if_neg fun z => c (e.trans z)]
      · rw [if_neg e, if_neg e]
theorem kt_begin {a b : Ab} {p : Str} (x : Kt (a.begin p) b) : Kt a b := by
  refine ⟨fun q k h => x.tab q k ?_, fun q k h n => x.brk q k ?_ n, fun k l n => x.fat k ?_ n, Nat.le_trans ?_ x.qs⟩
  · show getA (a.tab ++ [(p, a.qs.length)]) q = some k
    rw [getA_app, h]; rfl
  · show getA (a.tab ++ [(p, a.qs.length)]) q = some k
    rw [getA_app, h]; rfl
  · show k < (a.qs ++ [p]).length
    rw [List.length_append]; omega
  · show _ ≤ (a.qs ++ [p]).length
    rw [List.length_append]; omega
theorem begin_tab {a : Ab} {p : Str} (h : getA a.tab p = none) : getA (a.begin p).tab p = some a.qs.length := by
  show getA (a.tab ++ [(p, a.qs.length)]) p = _
  rw [getA_app, h, if_pos rfl]; rfl
theorem kt_one {fnd : Str → Option (List Row)} (W : WayOk ps w) : ∀ (n : Nat) (a : Ab) (p : Str), Kt a (oneF w fnd n a p).1 := by
  intro n
  induction n with
  | zero => exact fun a p => kt_good.refl a
  | succ n ih =>
    intro a p
    unfold oneF
    cases h1 : getA a.tab p with
    | some k => exact kt_good.put _ _
    | none =>
      cases h2 : getA a.brk p with
      | some x => exact kt_good.tr _ _ _ (kt_good.put _ _) (kt_good.up _)
      | none =>
        cases h3 : fnd p with
        | none => exact kt_good.up _
        | some body =>
          dsimp only
          have e := good_body (f := rowF w (oneF w fnd n) 3) kt_good kt_row (good_rowF W kt_good ih 3) body 0 (a.begin p)
          unfold beginF
          generalize bodyF (rowF w (oneF w fnd n) 3) 0 body (a.begin p) = y at e ⊢
          obtain ⟨b, m | m⟩ := y
          · have k1 := kt_begin e
            refine ⟨fun q k h => ?_, fun q k h nb => ?_, fun k l nf => ?_, k1.qs⟩
            · show getA (delA b.tab p) q = some k
              have : q ≠ p := fun z => by rw [z, h1] at h; cases h
              rw [getA_del, if_neg this]
              exact k1.tab q k h
            · show getA (b.brk ++ [(p, (a.qs.length, m))]) q = none
              have : p ≠ q := fun z => by rw [← z, h1] at h; cases h
              rw [getA_app, k1.brk q k h nb, if_neg this]; rfl
            · show k ∉ b.fat ++ [a.qs.length]
              intro hm
              rcases List.mem_append.mp hm with hm | hm
              · exact k1.fat k l nf hm
              · have := List.mem_singleton.mp hm; omega
          · have e2 : Kt (b.fin a.qs.length) (w.wh (b.fin a.qs.length) a.qs.length) := (W.gen _ kt_good (fun a p => (a, .error .none)) fun a p => kt_good.refl a).2.2 _ _
            have e3 : Kt b (b.fin a.qs.length) := ⟨fun _ _ h => h, fun _ _ _ h => h, fun _ _ h => h, Nat.le_refl _⟩
            exact kt_begin (kt_good.tr _ _ _ (kt_good.tr _ _ _ e e3) e2)
end
end PH

/-! FPc: houses without faults, walked with a list of what is under way. -/
namespace PH
open PySem PySem.Spec PyProof.Rows L2 HL TL
structure MSt where
  a : Ab
  l : List (Nat × Nat)
def nameOf : Row → Str
  | .set x _ => x
  | .take x _ => x
  | _ => ""
/-- a row that can not fail -/
def Mild (fnd : Str → Option (List Row)) : Row → Prop
  | .set _ _ => True
  | .note _ => True
  | .take _ p => ∃ b, fnd p = some b
  | _ => False
def bdOf (fnd : Str → Option (List Row)) (p : Str) : List Row := (fnd p).getD []
noncomputable def rowM (r : Row) (k : Nat) (a : Ab) (l : List (Nat × Nat)) : MSt := match r with
  | .note p => ⟨a.put (noteE k (a.noted p)), l⟩
  | .set x n => ⟨a.bind k x (.num n), l⟩
  | .take x p => match getA a.tab p with
    | some m => ⟨(a.put (haveE m)).bind k x (.mod m), l⟩
    | none => ⟨a.begin p, l ++ [(a.qs.length, 0)]⟩
  | _ => ⟨a, l⟩
noncomputable def endM (bd : Str → List Row) (k : Nat) (a : Ab) (l : List (Nat × Nat)) : MSt := match l.getLast? with
  | none => ⟨a.fin k, l⟩
  | some x => ⟨(a.fin k).bind x.1 (nameOf ((bd (a.path x.1)).getD (x.2 - 1) (.note ""))) (.mod k), l⟩
noncomputable def stepM (bd : Str → List Row) (s : MSt) : MSt := match s.l.getLast? with
  | none => s
  | some x => if x.2 = (bd (s.a.path x.1)).length then endM bd x.1 s.a s.l.dropLast
    else rowM ((bd (s.a.path x.1)).getD x.2 (.note "")) x.1 (s.a.row x.2) (s.l.dropLast ++ [(x.1, x.2 + 1)])
inductive Go (bd : Str → List Row) : Nat → MSt → MSt → Prop
  | nil {s : MSt} : Go bd 0 s s
  | cons {n : Nat} {s t : MSt} : s.l ≠ [] → Go bd n (stepM bd s) t → Go bd (n + 1) s t
section
variable {bd : Str → List Row} {s t u : MSt} {m n : Nat}
theorem Go.tr (h : Go bd m s t) (g : Go bd n t u) : Go bd (m + n) s u := by
  induction h with
  | nil => rw [Nat.zero_add]; exact g
  | cons a b ih => rw [Nat.succ_add]; exact .cons a (ih g)
theorem Go.next (h : Go bd n s t) (ne : s.l ≠ []) (e : t.l = []) : ∃ m, m < n ∧ Go bd m (stepM bd s) t := by
  cases h with
  | nil => exact absurd e ne
  | cons _ b => exact ⟨_, Nat.lt_succ_self _, b⟩
theorem step_row {a : Ab} {l : List (Nat × Nat)} {k i : Nat} (h : i < (bd (a.path k)).length) : stepM bd ⟨a, l ++ [(k, i)]⟩ = rowM ((bd (a.path k)).getD i (.note "")) k (a.row i) (l ++ [(k, i + 1)]) := by
  unfold stepM
  dsimp only
  rw [List.getLast?_concat]
  dsimp only
  rw [if_neg (by omega), List.dropLast_concat]
theorem step_end {a : Ab} {l : List (Nat × Nat)} {k i : Nat} (h : i = (bd (a.path k)).length) : stepM bd ⟨a, l ++ [(k, i)]⟩ = endM bd k a l := by
  unfold stepM
  dsimp only
  rw [List.getLast?_concat]
  dsimp only
  rw [if_pos h, List.dropLast_concat]
end
theorem path_more {a b : Ab} {k : Nat} (h : ∃ more, b.qs = a.qs ++ more) (l : k < a.qs.length) : b.path k = a.path k := by
  obtain ⟨more, e⟩ := h
  show b.qs.getD k "" = a.qs.getD k ""
  rw [e, List.getD_eq_getElem?_getD, List.getElem?_append_left l, List.getD_eq_getElem?_getD]
section
variable {ps : List Str} {fnd : Str → Option (List Row)}
theorem row_top {a : Ab} {pl : List (Nat × Nat)} {k r i : Nat} (e : a.line = pl ++ [(k, r)]) : (a.row i).line = pl ++ [(k, i)] ∧ (a.row i).top.1 = k := by
  have h : (a.row i).line = pl ++ [(k, i)] := by show setR a.line i = _; rw [e, setR_last]
  refine ⟨h, ?_⟩
  unfold Ab.top
  rw [h, List.getLast?_concat]
  rfl
/-- what is claimed of one that is not begun yet -/
def OneOk (ps : List Str) (fnd : Str → Option (List Row)) (n : Nat) : Prop := ∀ (a : Ab) (p : Str), getA a.tab p = none → a.brk = [] → rem ps a < n → (∃ b, fnd p = some b) →
  ∃ c, oneF wayR fnd n a p = (c.fin a.qs.length, .ok a.qs.length) ∧ c.brk = [] ∧ (∃ more, c.qs = a.qs ++ p :: more) ∧ ∀ l, ∃ N, Go (bdOf fnd) N ⟨a.begin p, l ++ [(a.qs.length, 0)]⟩ ⟨c, l ++ [(a.qs.length, (bdOf fnd p).length)]⟩
theorem body_go (B : Bodies ps fnd) (ml : ∀ p b, fnd p = some b → ∀ r ∈ b, Mild fnd r) {n : Nat} (one : OneOk ps fnd n) {q : Str} {b : List Row} (eq : fnd q = some b) : ∀ (rs : List Row) (i : Nat) (a : Ab) (pl : List (Nat × Nat)) (k r0 : Nat), b.drop i = rs → i + rs.length = b.length → a.line = pl ++ [(k, r0)] → k < a.qs.length → a.path k = q → a.brk = [] → rem ps a < n →
    ∃ c, bodyF (rowF wayR (oneF wayR fnd n) 3) i rs a = (c, .ok ()) ∧ c.brk = [] ∧ (∃ more, c.qs = a.qs ++ more) ∧ ∀ l, ∃ N, Go (bdOf fnd) N ⟨a, l ++ [(k, i)]⟩ ⟨c, l ++ [(k, b.length)]⟩
  | [], i, a, pl, k, r0, ed, el, ea, lk, ep, eb, rm => ⟨a, rfl, eb, ⟨[], by simp⟩, fun l => ⟨0, by rw [show i = b.length from el]; exact .nil⟩⟩
  | r :: rs, i, a, pl, k, r0, ed, el, ea, lk, ep, eb, rm => by
    have W := wayR_ok ps
    have hi : i < b.length := by rw [List.length_cons] at el; omega
    have er : b[i] = r ∧ b.drop (i + 1) = rs := by
      rw [List.drop_eq_getElem_cons hi] at ed
      injection ed with e1 e2
      exact ⟨e1, e2⟩
    have mr : Mild fnd r := ml q b eq r (er.1 ▸ List.getElem_mem hi)
    have ebd : bdOf fnd q = b := by unfold bdOf; rw [eq]; rfl
    obtain ⟨rl, rt⟩ := row_top (i := i) ea
    have gd : (bdOf fnd (a.path k)).getD i (.note "") = r := by rw [ep, ebd, List.getD_eq_getElem?_getD, List.getElem?_eq_getElem hi]; exact er.1
    have st : ∀ l, stepM (bdOf fnd) ⟨a, l ++ [(k, i)]⟩ = rowM r k (a.row i) (l ++ [(k, i + 1)]) := fun l => by rw [step_row (by rw [ep, ebd]; exact hi), gd]
    -- a row that is done at once
    have fin1 : ∀ (c : Ab), rowF wayR (oneF wayR fnd n) 3 r (a.row i) = (c, .ok ()) → c.brk = [] → (∃ r1, c.line = pl ++ [(k, r1)]) → (∃ more, c.qs = a.qs ++ more) → rem ps c ≤ rem ps a → (∀ l, ∃ N, Go (bdOf fnd) N ⟨a, l ++ [(k, i)]⟩ ⟨c, l ++ [(k, i + 1)]⟩) →
        ∃ c', bodyF (rowF wayR (oneF wayR fnd n) 3) i (r :: rs) a = (c', .ok ()) ∧ c'.brk = [] ∧ (∃ more, c'.qs = a.qs ++ more) ∧ ∀ l, ∃ N, Go (bdOf fnd) N ⟨a, l ++ [(k, i)]⟩ ⟨c', l ++ [(k, b.length)]⟩ := fun c e1 e2 ⟨r1, e3⟩ e4 e5 e6 => by
      have lk2 : k < c.qs.length := by obtain ⟨more, e⟩ := e4; rw [e, List.length_append]; omega
      obtain ⟨c', f1, f2, f3, f4⟩ := body_go B ml one eq rs (i + 1) c pl k r1 er.2 (by rw [List.length_cons] at el; omega) e3 lk2 (by rw [path_more e4 lk, ep]) e2 (by omega)
      refine ⟨c', ?_, f2, ?_, fun l => ?_⟩
      · show (match rowF wayR (oneF wayR fnd n) 3 r (a.row i) with | (b, .ok _) => bodyF (rowF wayR (oneF wayR fnd n) 3) (i + 1) rs b | (b, .error e) => (b, .error e)) = _
        rw [e1]
        exact f1
      · obtain ⟨m1, e⟩ := e4
        obtain ⟨m2, f⟩ := f3
        exact ⟨m1 ++ m2, by rw [f, e, List.append_assoc]⟩
      · obtain ⟨N1, g1⟩ := e6 l
        obtain ⟨N2, g2⟩ := f4 l
        exact ⟨N1 + N2, g1.tr g2⟩
    have go1 : ∀ (c : Ab), (∀ l, rowM r k (a.row i) l = ⟨c, l⟩) → ∀ l, ∃ N, Go (bdOf fnd) N ⟨a, l ++ [(k, i)]⟩ ⟨c, l ++ [(k, i + 1)]⟩ := fun c e l => ⟨1, .cons (by simp) (by rw [st, e]; exact .nil)⟩
    cases r with
    | set x z =>
      refine fin1 ((a.row i).bind k x (.num z)) ?_ eb ⟨i, rl⟩ ⟨[], by simp [Ab.row, Ab.bind]⟩ (Nat.le_refl _) (go1 _ fun l => rfl)
      show (((a.row i).bind (a.row i).top.1 x (.num z), Except.ok ()) : Rs Unit) = _
      rw [rt]
    | note p =>
      refine fin1 ((a.row i).put (noteE k ((a.row i).noted p))) ?_ eb ⟨i, rl⟩ ⟨[], by simp [Ab.row, Ab.put]⟩ (Nat.le_refl _) (go1 _ fun l => rfl)
      show (((a.row i).put (noteE (a.row i).top.1 ((a.row i).noted p)), Except.ok ()) : Rs Unit) = _
      rw [rt]
    | take x p =>
      obtain ⟨n', rfl⟩ : ∃ n', n = n' + 1 := ⟨n - 1, by omega⟩
      cases g : getA a.tab p with
      | some m =>
        have e1 : oneF wayR fnd (n' + 1) (a.row i) p = ((a.row i).put (haveE m), .ok m) := by
          unfold oneF
          rw [show getA (a.row i).tab p = some m from g]
        refine fin1 (((a.row i).put (haveE m)).bind k x (.mod m)) ?_ eb ⟨i, rl⟩ ⟨[], by simp [Ab.row, Ab.put, Ab.bind]⟩ (Nat.le_refl _) (go1 _ fun l => ?_)
        · show (match oneF wayR fnd (n' + 1) (a.row i) p with | (b, .ok m) => ((b.bind (a.row i).top.1 x (.mod m), Except.ok ()) : Rs Unit) | (b, .error f) => (b, Except.error f)) = _
          rw [e1, rt]
        · show (match getA (a.row i).tab p with | some m => MSt.mk (((a.row i).put (haveE m)).bind k x (.mod m)) l | none => ⟨(a.row i).begin p, l ++ [((a.row i).qs.length, 0)]⟩) = _
          rw [show getA (a.row i).tab p = some m from g]
      | none =>
        have g' : getA (a.row i).tab p = none := g
        obtain ⟨c, e1, e2, ⟨more, e3⟩, e4⟩ := one (a.row i) p g' eb rm mr
        have gr := gr_one (fnd := fnd) W B (n' + 1) (a.row i) p
        have ln := line_one (fnd := fnd) W (n' + 1) (a.row i) p
        rw [e1] at gr ln
        have lnc : (c.fin (a.row i).qs.length).line = pl ++ [(k, i)] := ln.trans rl
        refine fin1 ((c.fin a.qs.length).bind k x (.mod a.qs.length)) ?_ e2 ⟨i, lnc⟩ ⟨p :: more, e3⟩ gr.rem fun l => ?_
        · show (match oneF wayR fnd (n' + 1) (a.row i) p with | (b, .ok m) => ((b.bind (a.row i).top.1 x (.mod m), Except.ok ()) : Rs Unit) | (b, .error f) => (b, Except.error f)) = _
          rw [e1, rt]
          rfl
        · obtain ⟨N, g1⟩ := e4 (l ++ [(k, i + 1)])
          have s1 : rowM (.take x p) k (a.row i) (l ++ [(k, i + 1)]) = ⟨(a.row i).begin p, l ++ [(k, i + 1)] ++ [((a.row i).qs.length, 0)]⟩ := by
            show (match getA (a.row i).tab p with | some m => MSt.mk (((a.row i).put (haveE m)).bind k x (.mod m)) _ | none => ⟨(a.row i).begin p, _⟩) = _
            rw [g']
          have pc : c.path (a.row i).qs.length = p := by
            show c.qs.getD a.qs.length "" = p
            rw [show c.qs = a.qs ++ p :: more from e3, List.getD_eq_getElem?_getD, List.getElem?_append_right (Nat.le_refl _), Nat.sub_self]
            rfl
          have pk : c.path k = q := (path_more (a := a) ⟨p :: more, e3⟩ lk).trans ep
          have s2 : stepM (bdOf fnd) ⟨c, l ++ [(k, i + 1)] ++ [((a.row i).qs.length, (bdOf fnd p).length)]⟩ = ⟨(c.fin a.qs.length).bind k x (.mod a.qs.length), l ++ [(k, i + 1)]⟩ := by
            rw [step_end (by rw [pc])]
            unfold endM
            rw [List.getLast?_concat]
            dsimp only
            rw [pk, Nat.add_sub_cancel, ← ep, gd]
            rfl
          exact ⟨(1 + N) + 1, ((Go.cons (n := 0) (by simp) (by rw [st, s1]; exact .nil)).tr g1).tr (.cons (by simp) (by rw [s2]; exact .nil))⟩
    | _ => exact mr.elim
theorem one_go (B : Bodies ps fnd) (ml : ∀ p b, fnd p = some b → ∀ r ∈ b, Mild fnd r) : ∀ n, OneOk ps fnd n
  | 0 => fun a p _ _ h => absurd h (Nat.not_lt_zero _)
  | n + 1 => fun a p ht hb hr ⟨b, eb⟩ => by
    have hb' : getA a.brk p = none := by rw [hb]; rfl
    obtain ⟨_, rb⟩ := gr_begin (B.mem p b eb) ht hb'
    have pp : (a.begin p).path a.qs.length = p := by
      show (a.qs ++ [p]).getD a.qs.length "" = p
      rw [List.getD_eq_getElem?_getD, List.getElem?_append_right (Nat.le_refl _), Nat.sub_self]; rfl
    obtain ⟨c, e1, e2, ⟨more, e3⟩, e4⟩ := body_go B ml (one_go B ml n) eb b 0 (a.begin p) a.line a.qs.length 0 rfl (Nat.zero_add _) rfl (by show _ < (a.qs ++ [p]).length; rw [List.length_append]; exact Nat.lt_succ_self _) pp hb (by omega)
    refine ⟨c, ?_, e2, ⟨more, by rw [e3]; show a.qs ++ [p] ++ more = _; rw [List.append_assoc]; rfl⟩, fun l => ?_⟩
    · conv => lhs; unfold oneF
      rw [ht, hb', eb]
      show beginF wayR (oneF wayR fnd n) a p b = _
      unfold beginF
      rw [e1]
      rfl
    · have := e4 l
      rwa [show (bdOf fnd p) = b from by unfold bdOf; rw [eb]; rfl]
end
end PH

/-! FHa: what is owned in the heap. -/
namespace PH
open PySem PySem.Spec PyProof.Rows L2 HL TL
theorem small_le {n : Nat} (h : n ≤ 1000000) : n ≤ sizeLine := Nat.le_trans h (by decide)
theorem small_lt {n : Nat} (h : n ≤ 1000000) : n < sizeLine := Nat.lt_of_le_of_lt h (by decide)
/-! fields of instances -/
theorem look_cons {f g : Str} {v : V} {r : List (Str × V)} (h : decide (f = g) = false) : List.lookup f ((g, v) :: r) = List.lookup f r := by
  have : (f == g) = false := by simpa using h
  simp only [List.lookup, this]
theorem look_hit {f : Str} {v : V} {r : List (Str × V)} : List.lookup f ((f, v) :: r) = some v := by simp [List.lookup]
theorem look_nil {f : Str} : List.lookup f ([] : List (Str × V)) = none := rfl
abbrev modF (n : Int) (p : Str) (d : Addr) : List (Str × V) := [("number", .int n), ("path", .str p), ("things", .ref d)]
theorem modF_put (n : Int) (p : Str) (d : Addr) : putF "things" (.ref d) (putF "path" (.str p) (putF "number" (.int n) [])) = modF n p d := by
  simp only [putF]
  rw [if_neg (by decide +kernel)]
  simp only [putF]
  rw [if_neg (by decide +kernel), if_neg (by decide +kernel)]
theorem lk_num (n : Int) (p : Str) (d : Addr) : (modF n p d).lookup ("number" : Str) = some (.int n) := look_hit
theorem lk_path (n : Int) (p : Str) (d : Addr) : (modF n p d).lookup ("path" : Str) = some (.str p) := (look_cons (by decide +kernel)).trans look_hit
theorem lk_things (n : Int) (p : Str) (d : Addr) : (modF n p d).lookup ("things" : Str) = some (.ref d) := (look_cons (by decide +kernel)).trans ((look_cons (by decide +kernel)).trans look_hit)
theorem lk_meth {m : Str} (n : Int) (p : Str) (d : Addr) (h : decide (m = "number") = false ∧ decide (m = "path") = false ∧ decide (m = "things") = false) : (modF n p d).lookup m = none :=
  (look_cons h.1).trans ((look_cons h.2.1).trans ((look_cons h.2.2).trans look_nil))
abbrev lateF (h : Addr) (r : Str) : List (Str × V) := [("home", .ref h), ("road", .str r)]
theorem lateF_put (h : Addr) (r : Str) : putF "road" (.str r) (putF "home" (.ref h) []) = lateF h r := by
  simp only [putF]
  rw [if_neg (by decide +kernel)]
theorem lk_home (h : Addr) (r : Str) : (lateF h r).lookup ("home" : Str) = some (.ref h) := look_hit
theorem lk_road (h : Addr) (r : Str) : (lateF h r).lookup ("road" : Str) = some (.str r) := (look_cons (by decide +kernel)).trans look_hit
/-- a module stands at m, its dict at d -/
structure ModAt (C : Addr) (H : Hp) (m : Addr) (n : Int) (p : Str) (d : Addr) (kvs : List (Key × V)) : Prop where
  ob : ∃ dx, H m = some (.ins C dx (modF n p d))
  dc : H d = some (.dK kvs)
/-! what stays -/
theorem TupK.same {H H' : Hp} (k : Kp [] H H') : TupK H H' := .of k fun x hx => absurd hx List.not_mem_nil
theorem TupK.tr {A B C : Hp} (h : TupK A B) (g : TupK B C) : TupK A C := fun a xs r => g a xs (h a xs r)
theorem notup_dK {H : Hp} {a : Addr} {kvs : List (Key × V)} (h : H a = some (.dK kvs)) : NoTup H a := fun ys r => by
  rcases r with r | ⟨o, r⟩ <;> rw [h] at r <;> cases r
theorem notup_ins {H : Hp} {a C dx : Addr} {fs : List (Str × V)} (h : H a = some (.ins C dx fs)) : NoTup H a := fun ys r => by
  rcases r with r | ⟨o, r⟩ <;> rw [h] at r <;> cases r
theorem seqT_tups {K : PySem.W.Frag} {H H' : Hp} {a : Addr} {xs : List V} (k : TupK H H') (h : SqT K H a xs) : SqT K H' a xs := h.elim (fun h => .inl (k _ _ h)) .inr
/-- kinds that may change: lists, dicts, houses -/
inductive Soft : HO → Prop
  | lst (xs : List V) : Soft (.lst xs)
  | dK (kvs : List (Key × V)) : Soft (.dK kvs)
  | run {C dx : Addr} {fs : List (Str × V)} (h : fs.lookup ("shelves" : Str) ≠ none) : Soft (.ins C dx fs)
/-- tuples and instances stay, but houses -/
structure Keep (H H' : Hp) : Prop where
  tup : TupK H H'
  ins : ∀ {a C dx : Addr} {fs : List (Str × V)}, fs.lookup ("shelves" : Str) = none → H a = some (.ins C dx fs) → H' a = some (.ins C dx fs)
theorem Keep.tr {A B C : Hp} (h : Keep A B) (g : Keep B C) : Keep A C := ⟨TupK.tr h.tup g.tup, fun n e => g.ins n (h.ins n e)⟩
theorem Keep.of {W : List Addr} {H H' : Hp} (k : Kp W H H') (m : ∀ x ∈ W, ∃ o, H x = some o ∧ Soft o) : Keep H H' := by
  refine ⟨.of k fun x hx => ?_, fun {a C dx fs} n e => k.get (Nin.intro fun x hx z => ?_) e⟩
  · obtain ⟨o, e, s⟩ := m x hx
    cases s with
    | lst xs => exact .lst e
    | dK kvs => exact notup_dK e
    | run _ => exact notup_ins e
  · subst z
    obtain ⟨o, e2, s⟩ := m a hx
    rw [e] at e2
    cases e2
    cases s with
    | run h => exact h n
theorem Keep.same {H H' : Hp} (k : Kp [] H H') : Keep H H' := .of k fun x hx => absurd hx List.not_mem_nil
theorem Keep.new {H : Hp} {y : Addr} {o : HO} (n : H y = none) : Keep H (upd H y o) := .same (Kp.refl.upd_new n)
theorem Keep.one {H : Hp} {y : Addr} {o o' : HO} (e : H y = some o) (s : Soft o) : Keep H (upd H y o') := .of (W := [y]) (Kp.refl.upd_mem List.mem_cons_self) fun x hx => by rw [List.mem_singleton.mp hx]; exact ⟨o, e, s⟩
/-- what is owned, address by address -/
structure Owns (H : Hp) (L : List (Addr × HO)) : Prop where
  at_ : ∀ x ∈ L, H x.1 = some x.2
  nd : (L.map (·.1)).Nodup
abbrev adr (L : List (Addr × HO)) : List Addr := L.map (·.1)
section
variable {H H' : Hp} {L L1 L2 : List (Addr × HO)} {y : Addr} {o o' : HO}
theorem Owns.set (h : Owns H (L1 ++ (y, o) :: L2)) : Owns (upd H y o') (L1 ++ (y, o') :: L2) := by
  have nd := h.nd
  have nd' := nd
  rw [List.map_append, List.map_cons, List.nodup_append] at nd'
  obtain ⟨_, n2, n3⟩ := nd'
  refine ⟨fun x hx => ?_, by rw [List.map_append, List.map_cons] at nd ⊢; exact nd⟩
  rcases List.mem_append.mp hx with hx | hx
  · exact (upd_ne (n3 _ (List.mem_map.mpr ⟨x, hx, rfl⟩) y List.mem_cons_self)).trans (h.at_ x (List.mem_append_left _ hx))
  · rcases List.mem_cons.mp hx with rfl | hx
    · exact upd_same
    · exact (upd_ne fun e => (List.nodup_cons.mp n2).1 (List.mem_map.mpr ⟨x, hx, e⟩)).trans (h.at_ x (List.mem_append_right _ (List.mem_cons_of_mem _ hx)))
theorem Owns.kp (h : Owns H L) {W : List Addr} (k : Kp W H H') (n : ∀ x ∈ adr L, x ∉ W) : Owns H' L :=
  ⟨fun x hx => k.get (Nin.intro fun z hz e => n x.1 (List.mem_map.mpr ⟨x, hx, rfl⟩) (e ▸ hz)) (h.at_ x hx), h.nd⟩
theorem Owns.same (h : Owns H L) (k : Kp [] H H') : Owns H' L := h.kp k fun _ _ => List.not_mem_nil
theorem Owns.has (h : Owns H L) {x : Addr} (hx : x ∈ adr L) : ∃ o, H x = some o := by
  obtain ⟨z, hz, rfl⟩ := List.mem_map.mp hx
  exact ⟨_, h.at_ z hz⟩
theorem Owns.new (h : Owns H L) {x : Addr} (n : H x = none) : x ∉ adr L := fun hx => by
  obtain ⟨o, e⟩ := h.has hx
  rw [n] at e; cases e
/-- one comes in -/
theorem Owns.ins (h : Owns H (L1 ++ L2)) (e : H y = some o) (n : y ∉ adr (L1 ++ L2)) : Owns H (L1 ++ (y, o) :: L2) := by
  refine ⟨fun x hx => ?_, ?_⟩
  · rcases List.mem_append.mp hx with hx | hx
    · exact h.at_ x (List.mem_append_left _ hx)
    · rcases List.mem_cons.mp hx with rfl | hx
      · exact e
      · exact h.at_ x (List.mem_append_right _ hx)
  · have nd := h.nd
    rw [List.map_append] at nd ⊢
    rw [List.map_cons]
    refine (List.perm_middle.nodup_iff).mpr (List.nodup_cons.mpr ⟨fun hm => n ?_, nd⟩)
    rw [adr, List.map_append]
    exact hm
/-- one goes -/
theorem Owns.del (h : Owns H (L1 ++ (y, o) :: L2)) : Owns H (L1 ++ L2) := by
  refine ⟨fun x hx => h.at_ x ((List.mem_append.mp hx).elim (fun z => List.mem_append_left _ z) fun z => List.mem_append_right _ (List.mem_cons_of_mem _ z)), ?_⟩
  have nd := h.nd
  rw [List.map_append] at nd ⊢
  rw [List.map_cons] at nd
  exact (List.nodup_cons.mp ((List.perm_middle.nodup_iff).mp nd)).2
theorem Owns.eq {L' : List (Addr × HO)} (h : Owns H L) (e : L = L') : Owns H L' := e ▸ h
theorem Owns.keep (h : Owns H L) (s : ∀ x ∈ L, Soft x.2) (k : Kp (adr L) H H') : Keep H H' := .of k fun x hx => by
  obtain ⟨z, hz, rfl⟩ := List.mem_map.mp hx
  exact ⟨_, h.at_ z hz, s z hz⟩
theorem kp_upd {W : List Addr} (m : y ∈ W) : Kp W H (upd H y o) := Kp.refl.upd_mem m
theorem kp_new (n : H y = none) : Kp [] H (upd H y o) := Kp.refl.upd_new n
end
/-! dicts of names -/
section
variable {α : Type} {g : α → V} {xs : List (Str × α)} {z : Str} {t : α}
theorem val_map : valV (xs.map fun x => ((Sum.inr x.1 : Key), g x.2)) (.inr z) = (getA xs z).map g := by
  induction xs with
  | nil => rfl
  | cons x r ih =>
    rw [List.map_cons, getA_cons]
    by_cases c : x.1 = z
    · rw [if_pos c]; exact valV_pos (by rw [c])
    · rw [if_neg c, ← ih]; exact valV_neg fun e => c (Sum.inr.inj e)
theorem put_map : putK (xs.map fun x => ((Sum.inr x.1 : Key), g x.2)) (.inr z) (g t) = (putA xs z t).map fun x => ((Sum.inr x.1 : Key), g x.2) := by
  by_cases c : z ∈ xs.map (·.1)
  · unfold putK
    rw [putA_old c, if_pos, List.map_map, List.map_map]
    · refine List.map_congr_left fun x _ => ?_
      by_cases e : x.1 = z
      · subst e; simp
      · have : ¬ (Sum.inr x.1 : Key) = Sum.inr z := fun h => e (Sum.inr.inj h)
        simp [e]
    · rw [List.any_map, ← any_iff.mpr c]
      refine congrArg (List.any xs) (funext fun x => ?_)
      simp
  · rw [putA_new c, L2.putK_new, List.map_append]
    · rfl
    · rw [val_map, getA_none.mpr c]; rfl
theorem drop_map : dropK (xs.map fun x => ((Sum.inr x.1 : Key), g x.2)) (.inr z) = (delA xs z).map fun x => ((Sum.inr x.1 : Key), g x.2) := by
  unfold dropK delA
  rw [List.filter_map]
  refine congrArg _ (congrArg (fun f => List.filter f xs) (funext fun x => ?_))
  simp
variable {R : α → V → Prop} {kvs : List (Key × V)}
abbrev NmR (R : α → V → Prop) : List (Str × α) → List (Key × V) → Prop := Paired fun x y => y.1 = Sum.inr x.1 ∧ R x.2 y.2
theorem NmR.len (h : NmR R xs kvs) : kvs.length = xs.length := (Paired.length h).symm
theorem NmR.keys (h : NmR R xs kvs) : kvs.map (·.1) = (xs.map (·.1)).map Sum.inr := by
  induction h with
  | nil => rfl
  | cons h _ ih => rw [List.map_cons, List.map_cons, List.map_cons, h.1, ih]
theorem NmR.get (h : NmR R xs kvs) (z : Str) : (getA xs z = none ∧ valV kvs (.inr z) = none) ∨ ∃ t v, getA xs z = some t ∧ valV kvs (.inr z) = some v ∧ R t v := by
  induction h with
  | nil => exact .inl ⟨rfl, rfl⟩
  | @cons x y _ _ h _ ih =>
    rw [getA_cons]
    by_cases c : x.1 = z
    · exact .inr ⟨_, _, if_pos c, valV_pos (h.1.trans (by rw [c])), h.2⟩
    · rw [if_neg c, valV_neg fun e => c (Sum.inr.inj (h.1.symm.trans e))]
      exact ih
theorem NmR.mono {R' : α → V → Prop} (h : NmR R xs kvs) (k : ∀ t v, R t v → R' t v) : NmR R' xs kvs := Paired.mapP h fun _ _ e => ⟨e.1, k _ _ e.2⟩
theorem NmR.snoc (h : NmR R xs kvs) {v : V} (r : R t v) : NmR R (xs ++ [(z, t)]) (kvs ++ [(Sum.inr z, v)]) := Paired.snoc h ⟨rfl, r⟩
theorem NmR.put (h : NmR R xs kvs) {v : V} (r : R t v) : NmR R (putA xs z t) (putK kvs (.inr z) v) := by
  by_cases c : z ∈ xs.map (·.1)
  · have c2 : (kvs.any fun kv => decide (kv.1 = (Sum.inr z : Key))) = true := by
      rw [List.any_eq_true]
      have : (Sum.inr z : Key) ∈ kvs.map (·.1) := by rw [h.keys]; exact List.mem_map.mpr ⟨z, c, rfl⟩
      obtain ⟨y, hy, e⟩ := List.mem_map.mp this
      exact ⟨y, hy, decide_eq_true e⟩
    unfold putK
    rw [putA_old c, if_pos c2]
    clear c c2
    induction h with
    | nil => exact .nil
    | @cons x y _ _ h _ ih =>
      rw [List.map_cons, List.map_cons]
      refine .cons ?_ ih
      by_cases e : x.1 = z
      · rw [if_pos e, if_pos (h.1.trans (by rw [e]))]
        exact ⟨h.1, r⟩
      · rw [if_neg e, if_neg fun q => e (Sum.inr.inj (h.1.symm.trans q))]
        exact h
  · rw [putA_new c, L2.putK_new]
    · exact h.snoc r
    · rcases h.get z with h | ⟨t', v', h, _⟩
      · exact h.2
      · rw [getA_none.mpr c] at h; cases h
end
/-! lists of data -/
def DLst (K : PySem.W.Frag) (H : Hp) (vs : List V) (ds : List PyData) : Prop := DpAll K H vs ds ∧ flatAll ds = true
theorem DLst.tup {K : PySem.W.Frag} {H H' : Hp} {vs : List V} {ds : List PyData} (h : DLst K H vs ds) (t : TupK H H') : DLst K H' vs ds := ⟨Dp.tupsAll t _ _ h.2 h.1, h.2⟩
theorem flatAll_app : ∀ {xs ys : List PyData}, flatAll xs = true → flatAll ys = true → flatAll (xs ++ ys) = true
  | [], _, _, h => h
  | x :: r, ys, h, g => by
    simp only [flatAll, Bool.and_eq_true, List.cons_append] at h ⊢
    exact ⟨h.1, flatAll_app h.2 g⟩
theorem flatAll_one {x : PyData} (h : flatD x = true) : flatAll [x] = true := by
  show (flatD x && true) = true
  rw [h]; rfl
theorem DLst.snoc {K : PySem.W.Frag} {H : Hp} {vs : List V} {ds : List PyData} {v : V} {d : PyData} (h : DLst K H vs ds) (g : Dp K H v d) (f : flatD d = true) : DLst K H (vs ++ [v]) (ds ++ [d]) :=
  ⟨HL.DpAll.snoc h.1 g, flatAll_app h.2 (flatAll_one f)⟩
theorem DLst.len {K : PySem.W.Frag} {H : Hp} {vs : List V} {ds : List PyData} (h : DLst K H vs ds) : vs.length = ds.length := HL.DpAll.len h.1
theorem DLst.nil {K : PySem.W.Frag} {H : Hp} : DLst K H [] [] := ⟨.nil, rfl⟩
theorem flat_dat : ∀ (d : Nat) (r : Row), flatD (r.dat d) = true := by
  intro d
  induction d with
  | zero => intro r; cases r <;> rfl
  | succ d ih =>
    have all : ∀ rs : List Row, flatAll (rs.map (Row.dat d)) = true := fun rs => flatAll_of fun x hx => by
      obtain ⟨r, _, rfl⟩ := List.mem_map.mp hx
      exact ih r
    intro r
    cases r with
    | tr a ws b =>
      show (true && (flatAll (a.map (Row.dat d)) && (flatAll (ws.map .str) && (flatAll (b.map (Row.dat d)) && true)))) = true
      rw [all, all, HL.flat_strs]
      rfl
    | _ => rfl
theorem flat_rowsD (rs : List Row) : flatD (.tuple (rowsD rs)) = true := flatAll_of fun x hx => by
  obtain ⟨r, _, rfl⟩ := List.mem_map.mp hx
  exact flat_dat 3 r
end PH

/-! FHb: a house in the heap. -/
namespace PH
open PySem PySem.Spec PyProof.Rows L2 HL TL
/-- the classes: the house's, the modules', the functions' -/
structure Cl where
  r : Addr
  m : Addr
  l : Addr
structure HA where
  self : Addr
  dx : Addr
  sh : Addr
  st : Addr
  md : Addr
  ln : Addr
  ft : Addr
  nt : Addr
  wt : Addr
structure Mo where
  m : Addr
  d : Addr
  kvs : List (Key × V)
structure Sf where
  a : Addr
  kvs : List (Key × V)
structure Hs where
  ms : List Mo
  cells : List Addr
  shs : List Sf
  br : Addr
  mt : Addr
  bvs : List (Key × V)
  nvs : List V
  wvs : List V
  mvs : List V
abbrev runF (h : HA) (s : Hs) : List (Str × V) := [("shelves", .ref h.sh), ("standing", .ref h.st), ("made", .ref h.md), ("line", .ref h.ln), ("broken", .ref s.br), ("met", .ref s.mt), ("fates", .ref h.ft), ("notes", .ref h.nt), ("waits", .ref h.wt)]
def mAt (ms : List Mo) (k : Nat) : Addr := ((ms[k]?).map (·.m)).getD 0
theorem mAt_of {ms : List Mo} {k : Nat} {o : Mo} (h : ms[k]? = some o) : mAt ms k = o.m := by unfold mAt; rw [h]; rfl
abbrev cellO (ms : List Mo) (x : Nat × Nat) : HO := .lst [.ref (mAt ms x.1), .int (x.2 : Nat)]
abbrev tabV (ms : List Mo) (tab : List (Str × Nat)) : List (Key × V) := tab.map fun x => ((Sum.inr x.1 : Key), V.ref (mAt ms x.2))
abbrev fatV (fat : List Nat) : List (Key × V) := fat.map fun k => ((Sum.inl ((k + 1 : Nat) : Int) : Key), V.str "failed")
abbrev img1 (C : Cl) (h : HA) (s : Hs) (a : Ab) : List (Addr × HO) := [(h.self, .ins C.r h.dx (runF h s)), (h.sh, .lst (s.shs.map fun x => V.ref x.a)), (h.st, .dK (tabV s.ms a.tab)), (h.md, .lst (s.ms.map fun o => V.ref o.m)),
  (h.ln, .lst (s.cells.map V.ref)), (h.ft, .dK (fatV a.fat)), (h.nt, .lst s.nvs), (h.wt, .lst s.wvs), (s.br, .dK s.bvs), (s.mt, .lst s.mvs)]
abbrev imgS (shs : List Sf) : List (Addr × HO) := shs.map fun x => (x.a, HO.dK x.kvs)
abbrev imgC (ms : List Mo) (cells : List Addr) (line : List (Nat × Nat)) : List (Addr × HO) := List.zipWith (fun c x => (c, cellO ms x)) cells line
abbrev imgM (ms : List Mo) : List (Addr × HO) := ms.map fun o => (o.d, HO.dK o.kvs)
def img (C : Cl) (h : HA) (s : Hs) (a : Ab) : List (Addr × HO) := img1 C h s a ++ (imgS s.shs ++ (imgC s.ms s.cells a.line ++ imgM s.ms))
theorem img_soft {C : Cl} {h : HA} {s : Hs} {a : Ab} : ∀ x ∈ img C h s a, Soft x.2 := fun x hx => by
  unfold img at hx
  rcases List.mem_append.mp hx with hx | hx
  · simp only [img1, List.mem_cons, List.not_mem_nil, or_false] at hx
    rcases hx with rfl | rfl | rfl | rfl | rfl | rfl | rfl | rfl | rfl | rfl <;> first | exact .lst _ | exact .dK _ | exact .run (by rw [look_hit]; exact fun h => nomatch h)
  · rcases List.mem_append.mp hx with hx | hx
    · obtain ⟨y, _, rfl⟩ := List.mem_map.mp hx
      exact .dK _
    · rcases List.mem_append.mp hx with hx | hx
      · unfold imgC at hx
        rw [← List.map_uncurry_zip_eq_zipWith] at hx
        obtain ⟨y, _, rfl⟩ := List.mem_map.mp hx
        exact .lst _
      · obtain ⟨y, _, rfl⟩ := List.mem_map.mp hx
        exact .dK _
inductive ThR (C : Cl) (H : Hp) (ms : List Mo) : Th → V → Prop
  | num (n : Int) : ThR C H ms (.num n) (.int n)
  | mod {k : Nat} {o : Mo} : ms[k]? = some o → ThR C H ms (.mod k) (.ref o.m)
  | fn {k : Nat} {o : Mo} {r : Str} {x dx : Addr} : ms[k]? = some o → H x = some (.ins C.l dx (lateF o.m r)) → ThR C H ms (.fn k r) (.ref x)
theorem noRun_mod {n : Int} {p : Str} {d : Addr} : (modF n p d).lookup ("shelves" : Str) = none := lk_meth _ _ _ (by decide +kernel)
theorem noRun_late {x : Addr} {r : Str} : (lateF x r).lookup ("shelves" : Str) = none := (look_cons (by decide +kernel)).trans ((look_cons (by decide +kernel)).trans look_nil)
/-- modules keep their places, their dicts; more may come -/
def Ext (ms ms' : List Mo) : Prop := ∀ (k : Nat) (o : Mo), ms[k]? = some o → ∃ o', ms'[k]? = some o' ∧ o'.m = o.m ∧ o'.d = o.d
theorem Ext.refl {ms : List Mo} : Ext ms ms := fun k o e => ⟨o, e, rfl, rfl⟩
theorem Ext.tr {a b c : List Mo} (x : Ext a b) (y : Ext b c) : Ext a c := fun k o e => by
  obtain ⟨o1, e1, p1, q1⟩ := x k o e
  obtain ⟨o2, e2, p2, q2⟩ := y k o1 e1
  exact ⟨o2, e2, p2.trans p1, q2.trans q1⟩
theorem ThR.mono {C : Cl} {H H' : Hp} {ms ms' : List Mo} (k : Keep H H') (x : Ext ms ms') {t : Th} {v : V} (h : ThR C H ms t v) : ThR C H' ms' t v := by
  cases h with
  | num n => exact .num n
  | mod e =>
    obtain ⟨o', e', p, _⟩ := x _ _ e
    rw [← p]; exact .mod e'
  | fn e g =>
    obtain ⟨o', e', p, _⟩ := x _ _ e
    rw [← p] at g
    exact .fn e' (k.ins noRun_late g)
/-- what stands fast: the bodies that finders tell, the names that a path's body may bind -/
structure Wd where
  fnd : Str → Option (List Row)
  zs : Str → List Str
/-- what the finders tell for a path -/
def FndAt (K : PySem.W.Frag) (H : Hp) (shs : List Sf) (p : Str) : Option (List Row) → Prop
  | none => ∀ x ∈ shs, valV x.kvs (.inr p) = none
  | some b => ∃ (j : Nat) (x : Sf) (v : V), shs[j]? = some x ∧ valV x.kvs (.inr p) = some v ∧ (∀ (i : Nat) (y : Sf), i < j → shs[i]? = some y → valV y.kvs (.inr p) = none) ∧ Dp K H v (.tuple (rowsD b))
theorem FndAt.keep {K : PySem.W.Frag} {H H' : Hp} {shs : List Sf} {p : Str} {o : Option (List Row)} (t : TupK H H') (h : FndAt K H shs p o) : FndAt K H' shs p o := by
  cases o with
  | none => exact h
  | some b =>
    obtain ⟨j, x, v, h1, h2, h3, h4⟩ := h
    exact ⟨j, x, v, h1, h2, h3, Dp.tups t _ _ (flat_rowsD b) h4⟩
/-- the values: data, bodies, modules' names -/
structure Rl (K : PySem.W.Frag) (C : Cl) (W : Wd) (H : Hp) (s : Hs) (a : Ab) : Prop where
  fnd : ∀ p, FndAt K H s.shs p (W.fnd p)
  nt : DLst K H s.nvs a.log
  wt : DLst K H s.wvs a.pap
  mt : DLst K H s.mvs a.met
  br : NmR (fun x v => Dp K H v (.tuple [numD x.1, x.2]) ∧ flatD x.2 = true) a.brk s.bvs
  mod : ∀ (k : Nat) (o : Mo), s.ms[k]? = some o → (∃ dx, H o.m = some (.ins C.m dx (modF ((k + 1 : Nat) : Int) (a.path k) o.d))) ∧ NmR (ThR C H s.ms) (a.names k) o.kvs
structure Sane (W : Wd) (s : Hs) (a : Ab) : Prop where
  ml : s.ms.length = a.qs.length
  nl : a.nm.length = a.qs.length
  cl : s.cells.length = a.line.length
  lk : ∀ x ∈ a.line, x.1 < a.qs.length
  tk : ∀ x ∈ a.tab, a.qs[x.2]? = some x.1
  tn : (a.tab.map (·.1)).Nodup
  fl : ∀ k ∈ a.fat, k < a.qs.length
  kn : ∀ k, ((a.names k).map (·.1)).Nodup
  kz : ∀ k, ∀ z ∈ (a.names k).map (·.1), z ∈ W.zs (a.path k)
structure HouseAt (K : PySem.W.Frag) (C : Cl) (W : Wd) (H : Hp) (h : HA) (s : Hs) (a : Ab) : Prop where
  own : Owns H (img C h s a)
  rl : Rl K C W H s a
  ok : Sane W s a
abbrev owns (C : Cl) (h : HA) (s : Hs) (a : Ab) : List Addr := adr (img C h s a)
section
variable {K : PySem.W.Frag} {C : Cl} {W : Wd} {H H' : Hp} {h : HA} {s : Hs} {a : Ab}
theorem flat_br {x : Nat × PyData} (f : flatD x.2 = true) : flatD (.tuple [numD x.1, x.2]) = true := by
  show (true && (flatD x.2 && true)) = true
  rw [f]; rfl
theorem Rl.keep (r : Rl K C W H s a) (k : Keep H H') : Rl K C W H' s a :=
  ⟨fun p => (r.fnd p).keep k.tup, r.nt.tup k.tup, r.wt.tup k.tup, r.mt.tup k.tup, r.br.mono fun t v ⟨q1, q2⟩ => ⟨Dp.tups k.tup _ _ (flat_br q2) q1, q2⟩, fun j o e => by
    obtain ⟨⟨dx, e1⟩, e2⟩ := r.mod j o e
    exact ⟨⟨dx, k.ins noRun_mod e1⟩, e2.mono fun t v => ThR.mono k .refl⟩⟩
theorem HouseAt.kp (I : HouseAt K C W H h s a) {Wl : List Addr} (k : Kp Wl H H') (q : Keep H H') (n : ∀ x ∈ owns C h s a, x ∉ Wl) : HouseAt K C W H' h s a := ⟨I.own.kp k n, I.rl.keep q, I.ok⟩
theorem HouseAt.same (I : HouseAt K C W H h s a) (k : Kp [] H H') : HouseAt K C W H' h s a := I.kp k (.same k) fun _ _ => List.not_mem_nil
/-- fields -/
theorem HouseAt.ob (I : HouseAt K C W H h s a) : H h.self = some (.ins C.r h.dx (runF h s)) := I.own.at_ (h.self, .ins C.r h.dx (runF h s)) (by simp [img])
theorem HouseAt.sh (I : HouseAt K C W H h s a) : H h.sh = some (.lst (s.shs.map fun x => V.ref x.a)) := I.own.at_ (h.sh, .lst (s.shs.map fun x => V.ref x.a)) (by simp [img])
theorem HouseAt.st (I : HouseAt K C W H h s a) : H h.st = some (.dK (tabV s.ms a.tab)) := I.own.at_ (h.st, .dK (tabV s.ms a.tab)) (by simp [img])
theorem HouseAt.md (I : HouseAt K C W H h s a) : H h.md = some (.lst (s.ms.map fun o => V.ref o.m)) := I.own.at_ (h.md, .lst (s.ms.map fun o => V.ref o.m)) (by simp [img])
theorem HouseAt.ln (I : HouseAt K C W H h s a) : H h.ln = some (.lst (s.cells.map V.ref)) := I.own.at_ (h.ln, .lst (s.cells.map V.ref)) (by simp [img])
theorem HouseAt.ft (I : HouseAt K C W H h s a) : H h.ft = some (.dK (fatV a.fat)) := I.own.at_ (h.ft, .dK (fatV a.fat)) (by simp [img])
theorem HouseAt.nt (I : HouseAt K C W H h s a) : H h.nt = some (.lst s.nvs) := I.own.at_ (h.nt, .lst s.nvs) (by simp [img])
theorem HouseAt.wt (I : HouseAt K C W H h s a) : H h.wt = some (.lst s.wvs) := I.own.at_ (h.wt, .lst s.wvs) (by simp [img])
theorem HouseAt.br (I : HouseAt K C W H h s a) : H s.br = some (.dK s.bvs) := I.own.at_ (s.br, .dK s.bvs) (by simp [img])
theorem HouseAt.mt (I : HouseAt K C W H h s a) : H s.mt = some (.lst s.mvs) := I.own.at_ (s.mt, .lst s.mvs) (by simp [img])
theorem HouseAt.shk (I : HouseAt K C W H h s a) {x : Sf} (hx : x ∈ s.shs) : H x.a = some (.dK x.kvs) := I.own.at_ (x.a, .dK x.kvs) (by
  unfold img
  exact List.mem_append_right _ (List.mem_append_left _ (List.mem_map.mpr ⟨x, hx, rfl⟩)))
theorem HouseAt.dat (I : HouseAt K C W H h s a) {o : Mo} (ho : o ∈ s.ms) : H o.d = some (.dK o.kvs) := I.own.at_ (o.d, .dK o.kvs) (by
  unfold img
  exact List.mem_append_right _ (List.mem_append_right _ (List.mem_append_right _ (List.mem_map.mpr ⟨o, ho, rfl⟩))))
theorem HouseAt.at_ (I : HouseAt K C W H h s a) {k : Nat} {o : Mo} (e : s.ms[k]? = some o) : ModAt C.m H o.m ((k + 1 : Nat) : Int) (a.path k) o.d o.kvs := ⟨(I.rl.mod k o e).1, I.dat (List.mem_of_getElem? e)⟩
theorem HouseAt.ms (I : HouseAt K C W H h s a) {k : Nat} (l : k < a.qs.length) : ∃ o, s.ms[k]? = some o := ⟨_, List.getElem?_eq_getElem (by rw [I.ok.ml]; exact l)⟩
end
/-- what the house's own doing leaves -/
structure Stp (K : PySem.W.Frag) (C : Cl) (W : Wd) (h : HA) (H : Hp) (s : Hs) (a : Ab) (H' : Hp) (s' : Hs) (a' : Ab) : Prop where
  at_ : HouseAt K C W H' h s' a'
  kp : Kp (owns C h s a) H H'
  new : ∀ x ∈ owns C h s' a', x ∈ owns C h s a ∨ H x = none
  ext : Ext s.ms s'.ms
  shs : s'.shs.map (·.a) = s.shs.map (·.a)
section
variable {K : PySem.W.Frag} {C : Cl} {W : Wd} {H H1 H2 : Hp} {h : HA} {s s1 s2 : Hs} {a a1 a2 : Ab}
theorem Stp.refl (I : HouseAt K C W H h s a) : Stp K C W h H s a H s a := ⟨I, Kp.refl, fun x hx => .inl hx, .refl, rfl⟩
theorem Stp.tr (x : Stp K C W h H s a H1 s1 a1) (y : Stp K C W h H1 s1 a1 H2 s2 a2) : Stp K C W h H s a H2 s2 a2 := by
  refine ⟨y.at_, x.kp.step y.kp x.new, fun z hz => ?_, x.ext.tr y.ext, y.shs.trans x.shs⟩
  rcases y.new z hz with e | e
  · exact x.new z e
  · by_cases c : z ∈ owns C h s a
    · exact .inl c
    · exact .inr (x.kp.free (Nin.intro fun w hw q => c (q ▸ hw)) e)
theorem Stp.keep (I : HouseAt K C W H h s a) (x : Stp K C W h H s a H1 s1 a1) : Keep H H1 := I.own.keep img_soft x.kp
theorem Stp.same (I : HouseAt K C W H h s a) (k : Kp [] H H1) : Stp K C W h H s a H1 s a := ⟨I.same k, k.weak fun x hx => absurd hx List.not_mem_nil, fun x hx => .inl hx, .refl, rfl⟩
/-- a step, from what it does to what is owned -/
theorem Stp.mk' (I : HouseAt K C W H h s a) (k : Kp (owns C h s a) H H1) (o : Owns H1 (img C h s1 a1)) (n : ∀ x ∈ owns C h s1 a1, x ∈ owns C h s a ∨ H x = none) (x : Ext s.ms s1.ms) (sh : s1.shs.map (·.a) = s.shs.map (·.a))
    (r : Keep H H1 → Rl K C W H1 s1 a1) (ok : Sane W s1 a1) : Stp K C W h H s a H1 s1 a1 := ⟨⟨o, r (I.own.keep img_soft k), ok⟩, k, n, x, sh⟩
end
end PH

/-! FHc: a house's steps. -/
namespace PH
open PySem PySem.Spec PyProof.Rows L2 HL TL
namespace Ab
variable (a : Ab)
def opened (p : Str) : Ab := { a with qs := a.qs ++ [p], nm := a.nm ++ [[]], tab := a.tab ++ [(p, a.qs.length)] }
def papped (e : PyData) : Ab := { a with pap := a.pap ++ [e] }
def pushed (k : Nat) : Ab := { a with line := a.line ++ [(k, 0)] }
def popped : Ab := { a with line := a.line.dropLast }
def untab (p : Str) : Ab := { a with tab := delA a.tab p }
def brok (p : Str) (k : Nat) (f : PyData) : Ab := { a with brk := a.brk ++ [(p, (k, f))] }
def fated (k : Nat) : Ab := { a with fat := a.fat ++ [k] }
def metted (l : List PyData) : Ab := { a with met := l }
def unbroken : Ab := { a with brk := [] }
theorem begin_eq (p : Str) : a.begin p = (((a.opened p).put (beginE a.qs.length p)).papped (papE a.qs.length a.line)).pushed a.qs.length := rfl
theorem fin_eq (k : Nat) : a.fin k = a.popped.put (endE k) := rfl
theorem broke_eq (k : Nat) (p : Str) (f : PyData) : a.broke k p f = (((a.popped.put (failE k f)).untab p).brok p k f).fated k := rfl
end Ab
theorem mAt_map (ms : List Mo) (k : Nat) : mAt ms k = ((ms.map (·.m))[k]?).getD 0 := by unfold mAt; rw [List.getElem?_map]
theorem mAt_congr {ms ms' : List Mo} (e : ms'.map (·.m) = ms.map (·.m)) : mAt ms' = mAt ms := funext fun k => by rw [mAt_map, mAt_map, e]
theorem mAt_app {ms more : List Mo} {k : Nat} (l : k < ms.length) : mAt (ms ++ more) k = mAt ms k := by unfold mAt; rw [List.getElem?_append_left l]
theorem mem_end {α : Type} {xs : List α} {y : α} : y ∈ xs ++ [y] := List.mem_append_right _ List.mem_cons_self
section
variable {K : PySem.W.Frag} {C : Cl} {W : Wd} {H H1 : Hp} {h : HA} {s : Hs} {a : Ab}
/-- one owned address is written, the addresses are the same -/
theorem HouseAt.set (I : HouseAt K C W H h s a) {L1 L2 : List (Addr × HO)} {y : Addr} {o o' : HO} {s' : Hs} {a' : Ab} (e : img C h s a = L1 ++ (y, o) :: L2) (e' : img C h s' a' = L1 ++ (y, o') :: L2) (x : Ext s.ms s'.ms) (sh : s'.shs.map (·.a) = s.shs.map (·.a))
    (r : Keep H (upd H y o') → Rl K C W (upd H y o') s' a') (ok : Sane W s' a') : Stp K C W h H s a (upd H y o') s' a' := by
  have m : y ∈ owns C h s a := by
    show y ∈ (img C h s a).map (·.1)
    rw [e, List.map_append]
    exact List.mem_append_right _ List.mem_cons_self
  refine .mk' I (kp_upd m) (e' ▸ (I.own.eq e).set) (fun z hz => .inl ?_) x sh r ok
  have : z ∈ (img C h s' a').map (·.1) := hz
  show z ∈ (img C h s a).map (·.1)
  rw [e', List.map_append] at this
  rw [e, List.map_append]
  exact this
/-- the log goes on -/
theorem HouseAt.note (I : HouseAt K C W H h s a) {u : V} {e : PyData} (d : Dp K H u e) (f : flatD e = true) : Stp K C W h H s a (upd H h.nt (.lst (s.nvs ++ [u]))) { s with nvs := s.nvs ++ [u] } (a.put e) := by
  refine I.set (L1 := (img1 C h s a).take 6) (y := h.nt) (o := .lst s.nvs) rfl rfl .refl rfl (fun k => ?_) ⟨I.ok.ml, I.ok.nl, I.ok.cl, I.ok.lk, I.ok.tk, I.ok.tn, I.ok.fl, I.ok.kn, I.ok.kz⟩
  have r := I.rl.keep k
  exact ⟨r.fnd, r.nt.snoc (Dp.tups k.tup _ _ f d) f, r.wt, r.mt, r.br, r.mod⟩
theorem HouseAt.wait (I : HouseAt K C W H h s a) {u : V} {e : PyData} (d : Dp K H u e) (f : flatD e = true) : Stp K C W h H s a (upd H h.wt (.lst (s.wvs ++ [u]))) { s with wvs := s.wvs ++ [u] } (a.papped e) := by
  refine I.set (L1 := (img1 C h s a).take 7) (y := h.wt) (o := .lst s.wvs) rfl rfl .refl rfl (fun k => ?_) ⟨I.ok.ml, I.ok.nl, I.ok.cl, I.ok.lk, I.ok.tk, I.ok.tn, I.ok.fl, I.ok.kn, I.ok.kz⟩
  have r := I.rl.keep k
  exact ⟨r.fnd, r.nt, r.wt.snoc (Dp.tups k.tup _ _ f d) f, r.mt, r.br, r.mod⟩
theorem HouseAt.untab (I : HouseAt K C W H h s a) (p : Str) : Stp K C W h H s a (upd H h.st (.dK (dropK (tabV s.ms a.tab) (.inr p)))) s (a.untab p) := by
  rw [show dropK (tabV s.ms a.tab) (.inr p) = tabV s.ms (delA a.tab p) from drop_map (g := fun k => V.ref (mAt s.ms k))]
  refine I.set (L1 := (img1 C h s a).take 2) (y := h.st) (o := .dK (tabV s.ms a.tab)) rfl rfl .refl rfl (fun k => ?_) ⟨I.ok.ml, I.ok.nl, I.ok.cl, I.ok.lk, fun x hx => I.ok.tk x (List.mem_filter.mp hx).1, I.ok.tn.sublist (List.filter_sublist.map _), I.ok.fl, I.ok.kn, I.ok.kz⟩
  have r := I.rl.keep k
  exact ⟨r.fnd, r.nt, r.wt, r.mt, r.br, r.mod⟩
theorem HouseAt.fated (I : HouseAt K C W H h s a) (k : Nat) (n : k ∉ a.fat) (lk : k < a.qs.length) : Stp K C W h H s a (upd H h.ft (.dK (putK (fatV a.fat) (.inl ((k + 1 : Nat) : Int)) (.str "failed")))) s (a.fated k) := by
  rw [show putK (fatV a.fat) (.inl ((k + 1 : Nat) : Int)) (.str "failed") = fatV (a.fat ++ [k]) from by
    rw [L2.putK_new]
    · unfold fatV; rw [List.map_append]; rfl
    · have : ∀ l : List Nat, k ∉ l → valV (fatV l) (.inl ((k + 1 : Nat) : Int)) = none := fun l => by
        induction l with
        | nil => exact fun _ => rfl
        | cons j r ih =>
          intro n
          rw [List.mem_cons, not_or] at n
          exact (valV_neg fun e => n.1 (by have := Sum.inl.inj e; omega)).trans (ih n.2)
      exact this _ n]
  refine I.set (L1 := (img1 C h s a).take 5) (y := h.ft) (o := .dK (fatV a.fat)) rfl rfl .refl rfl (fun kq => ?_) ⟨I.ok.ml, I.ok.nl, I.ok.cl, I.ok.lk, I.ok.tk, I.ok.tn, fun j hj => ?_, I.ok.kn, I.ok.kz⟩
  · have r := I.rl.keep kq
    exact ⟨r.fnd, r.nt, r.wt, r.mt, r.br, r.mod⟩
  · rcases List.mem_append.mp hj with hj | hj
    · exact I.ok.fl j hj
    · rw [List.mem_singleton.mp hj]; exact lk
theorem HouseAt.brok (I : HouseAt K C W H h s a) {p : Str} {k : Nat} {f : PyData} {u : V} (d : Dp K H u (.tuple [numD k, f])) (fl : flatD f = true) (n : getA a.brk p = none) :
    Stp K C W h H s a (upd H s.br (.dK (putK s.bvs (.inr p) u))) { s with bvs := s.bvs ++ [(Sum.inr p, u)] } (a.brok p k f) := by
  have un : valV s.bvs (.inr p) = none := by
    rcases I.rl.br.get p with q | ⟨t, v, q, _⟩
    · exact q.2
    · rw [n] at q; cases q
  rw [L2.putK_new u un]
  refine I.set (L1 := (img1 C h s a).take 8) (y := s.br) (o := .dK s.bvs) rfl rfl .refl rfl (fun k => ?_) ⟨I.ok.ml, I.ok.nl, I.ok.cl, I.ok.lk, I.ok.tk, I.ok.tn, I.ok.fl, I.ok.kn, I.ok.kz⟩
  have r := I.rl.keep k
  exact ⟨r.fnd, r.nt, r.wt, r.mt, r.br.snoc ⟨Dp.tups k.tup _ _ (flat_br (x := (_, f)) fl) d, fl⟩, r.mod⟩
/-! names -/
theorem names_bind (a : Ab) (k : Nat) (z : Str) (t : Th) (j : Nat) (l : k < a.nm.length) : (a.bind k z t).names j = if j = k then putA (a.names k) z t else a.names j := by
  unfold Ab.bind Ab.names
  dsimp only
  rw [List.getD_eq_getElem?_getD, List.getElem?_set]
  by_cases c : k = j
  · subst c
    rw [if_pos rfl, if_pos l, if_pos rfl]; rfl
  · rw [if_neg c, if_neg (Ne.symm c), ← List.getD_eq_getElem?_getD]
theorem set_split {α : Type} {xs : List α} {k : Nat} {x y : α} (e : xs[k]? = some x) : ∃ m1 m2, xs = m1 ++ x :: m2 ∧ xs.set k y = m1 ++ y :: m2 ∧ m1.length = k := by
  obtain ⟨l, rfl⟩ := List.getElem?_eq_some_iff.mp e
  refine ⟨xs.take k, xs.drop (k + 1), ?_, ?_, by rw [List.length_take]; omega⟩
  · rw [List.getElem_cons_drop, List.take_append_drop]
  · rw [List.set_eq_take_append_cons_drop, if_pos l]
theorem putA_nd {α : Type} {xs : List (Str × α)} {z : Str} {t : α} (n : (xs.map (·.1)).Nodup) : ((putA xs z t).map (·.1)).Nodup := by
  rw [putA_keys]
  split
  · exact n
  · rename_i c
    exact List.nodup_append.mpr ⟨n, List.nodup_cons.mpr ⟨List.not_mem_nil, List.nodup_nil⟩, fun x hx y hy e => c (by rw [List.mem_singleton.mp hy] at e; exact e ▸ hx)⟩
theorem HouseAt.bind (I : HouseAt K C W H h s a) {k : Nat} {o : Mo} (e : s.ms[k]? = some o) {z : Str} (hz : z ∈ W.zs (a.path k)) {t : Th} {v : V} (d : ThR C H s.ms t v) :
    Stp K C W h H s a (upd H o.d (.dK (putK o.kvs (.inr z) v))) { s with ms := s.ms.set k { o with kvs := putK o.kvs (.inr z) v } } (a.bind k z t) := by
  obtain ⟨m1, m2, e1, e2, l1⟩ := set_split (y := ({ o with kvs := putK o.kvs (.inr z) v } : Mo)) e
  have em : (s.ms.set k { o with kvs := putK o.kvs (.inr z) v }).map (·.m) = s.ms.map (·.m) := by rw [e2, e1]; simp
  have ea := mAt_congr em
  have ex : Ext s.ms (s.ms.set k { o with kvs := putK o.kvs (.inr z) v }) := fun j o' ej => by
    rw [List.getElem?_set]
    by_cases c : k = j
    · subst c
      rw [e] at ej; cases ej
      exact ⟨({ o with kvs := putK o.kvs (.inr z) v } : Mo), by rw [if_pos rfl, if_pos (List.getElem?_eq_some_iff.mp e).1], rfl, rfl⟩
    · exact ⟨o', by rw [if_neg c]; exact ej, rfl, rfl⟩
  have lk : k < a.nm.length := by have := (List.getElem?_eq_some_iff.mp e).1; rw [I.ok.ml] at this; rw [I.ok.nl]; exact this
  have refs : (s.ms.set k { o with kvs := putK o.kvs (.inr z) v }).map (fun o => V.ref o.m) = s.ms.map fun o => V.ref o.m := by
    have := congrArg (List.map V.ref) em
    rwa [List.map_map, List.map_map] at this
  refine I.set (L1 := img1 C h s a ++ (imgS s.shs ++ (imgC s.ms s.cells a.line ++ imgM m1))) (L2 := imgM m2) (y := o.d) (o := .dK o.kvs) ?_ ?_ ex rfl (fun q => ?_) ⟨by rw [List.length_set]; exact I.ok.ml, by show (a.nm.set k _).length = _; rw [List.length_set]; exact I.ok.nl, I.ok.cl, I.ok.lk, I.ok.tk, I.ok.tn, I.ok.fl, fun j => ?_, fun j y hy => ?_⟩
  · have : imgM s.ms = imgM m1 ++ (o.d, HO.dK o.kvs) :: imgM m2 := by rw [e1]; simp
    unfold img
    rw [this]
    simp only [List.append_assoc]
  · have : imgM (s.ms.set k { o with kvs := putK o.kvs (.inr z) v }) = imgM m1 ++ (o.d, HO.dK (putK o.kvs (.inr z) v)) :: imgM m2 := by rw [e2]; simp
    unfold img
    show img1 C h _ _ ++ (imgS s.shs ++ (imgC (s.ms.set k _) s.cells a.line ++ imgM (s.ms.set k _))) = _
    rw [this]
    unfold imgC img1 tabV cellO
    dsimp only [Ab.bind]
    rw [ea, refs]
    simp only [List.append_assoc]
  · have r := I.rl.keep q
    refine ⟨r.fnd, r.nt, r.wt, r.mt, r.br, fun j o' ej => ?_⟩
    rw [names_bind a k z t j lk]
    by_cases c : j = k
    · subst c
      have : o' = { o with kvs := putK o.kvs (.inr z) v } := by
        rw [List.getElem?_set, if_pos rfl, if_pos (List.getElem?_eq_some_iff.mp e).1] at ej
        exact (Option.some.inj ej).symm
      subst this
      obtain ⟨g1, g2⟩ := r.mod j o e
      rw [if_pos rfl]
      exact ⟨g1, (g2.mono fun t v => ThR.mono (.same Kp.refl) ex).put (d.mono q ex)⟩
    · rw [List.getElem?_set, if_neg (Ne.symm c)] at ej
      obtain ⟨g1, g2⟩ := r.mod j o' ej
      rw [if_neg c]
      exact ⟨g1, g2.mono fun t v => ThR.mono (.same Kp.refl) ex⟩
  · rw [names_bind a k z t j lk]
    split
    · exact putA_nd (I.ok.kn k)
    · exact I.ok.kn j
  · rw [names_bind a k z t j lk] at hy
    show y ∈ W.zs (a.path j)
    split at hy
    · rename_i q
      subst q
      rw [putA_keys] at hy
      split at hy
      · exact I.ok.kz _ y hy
      · rcases List.mem_append.mp hy with hy | hy
        · exact I.ok.kz _ y hy
        · rw [List.mem_singleton.mp hy]; exact hz
    · exact I.ok.kz _ y hy
/-! the line -/
theorem zip_snoc {ms : List Mo} {cs : List Addr} {ls : List (Nat × Nat)} (e : cs.length = ls.length) (c : Addr) (x : Nat × Nat) : imgC ms (cs ++ [c]) (ls ++ [x]) = imgC ms cs ls ++ [(c, cellO ms x)] := by
  unfold imgC
  rw [List.zipWith_append e]
  rfl
theorem last_split {cs : List Addr} {pre : List (Nat × Nat)} {x : Nat × Nat} (e : cs.length = (pre ++ [x]).length) : ∃ cp c, cs = cp ++ [c] ∧ cp.length = pre.length := by
  rcases List.eq_nil_or_concat cs with q | ⟨cp, c, q⟩
  · rw [q, List.length_append] at e
    simp at e
  · rw [List.concat_eq_append] at q
    rw [q, List.length_append, List.length_append] at e
    exact ⟨cp, c, q, by simpa using e⟩
/-- the last cell, and what is there -/
theorem HouseAt.cell (I : HouseAt K C W H h s a) {pre : List (Nat × Nat)} {x : Nat × Nat} (e : a.line = pre ++ [x]) : ∃ cp c, s.cells = cp ++ [c] ∧ H c = some (cellO s.ms x) := by
  obtain ⟨cp, c, e1, e2⟩ := last_split (by rw [← e]; exact I.ok.cl)
  refine ⟨cp, c, e1, I.own.at_ (c, _) ?_⟩
  unfold img
  refine List.mem_append_right _ (List.mem_append_right _ (List.mem_append_left _ ?_))
  rw [e1, e, zip_snoc e2]
  exact mem_end
theorem HouseAt.row (I : HouseAt K C W H h s a) {pre : List (Nat × Nat)} {x : Nat × Nat} (e : a.line = pre ++ [x]) {cp : List Addr} {c : Addr} (ec : s.cells = cp ++ [c]) (r : Nat) :
    Stp K C W h H s a (upd H c (cellO s.ms (x.1, r))) s (a.row r) := by
  have e2 : cp.length = pre.length := by have := I.ok.cl; rw [ec, e] at this; simpa using this
  have el : (a.row r).line = pre ++ [(x.1, r)] := by show setR a.line r = _; rw [e, setR_last]
  refine I.set (L1 := img1 C h s a ++ (imgS s.shs ++ imgC s.ms cp pre)) (L2 := imgM s.ms) (y := c) (o := cellO s.ms x) ?_ ?_ .refl rfl (fun k => ?_) ⟨I.ok.ml, I.ok.nl, by rw [el, ec]; simp [e2], fun y hy => ?_, I.ok.tk, I.ok.tn, I.ok.fl, I.ok.kn, I.ok.kz⟩
  · unfold img
    rw [e, ec, zip_snoc e2]
    simp only [List.append_assoc, List.cons_append, List.nil_append]
  · unfold img
    rw [el, ec, zip_snoc e2]
    simp only [List.append_assoc, List.cons_append, List.nil_append]
    rfl
  · have r := I.rl.keep k
    exact ⟨r.fnd, r.nt, r.wt, r.mt, r.br, r.mod⟩
  · rw [el] at hy
    rcases List.mem_append.mp hy with hy | hy
    · exact I.ok.lk y (by rw [e]; exact List.mem_append_left _ hy)
    · rw [List.mem_singleton.mp hy]
      exact I.ok.lk x (by rw [e]; exact mem_end)
/-- a new cell at the end of the line -/
theorem HouseAt.push (I : HouseAt K C W H h s a) {c : Addr} {k : Nat} (n : H c = none) (lk : k < a.qs.length) :
    Stp K C W h H s a (upd (upd H c (cellO s.ms (k, 0))) h.ln (.lst ((s.cells ++ [c]).map V.ref))) { s with cells := s.cells ++ [c] } (a.pushed k) := by
  have k1 : Kp [] H (upd H c (cellO s.ms (k, 0))) := kp_new n
  have I1 := I.same k1
  have nc : c ∉ owns C h s a := I.own.new n
  have m : h.ln ∈ owns C h s a := by simp [owns, img]
  have o1 : Owns (upd (upd H c (cellO s.ms (k, 0))) h.ln (.lst ((s.cells ++ [c]).map V.ref))) ((img1 C h s a).take 4 ++ (h.ln, .lst ((s.cells ++ [c]).map V.ref)) :: ((img1 C h s a).drop 5 ++ (imgS s.shs ++ (imgC s.ms s.cells a.line ++ imgM s.ms)))) :=
    Owns.set (o := .lst (s.cells.map V.ref)) I1.own
  have ne : c ≠ h.ln := fun z => nc (z ▸ m)
  have e2 : (upd (upd H c (cellO s.ms (k, 0))) h.ln (.lst ((s.cells ++ [c]).map V.ref))) c = some (cellO s.ms (k, 0)) := (upd_ne ne).trans upd_same
  have o2 := Owns.ins (L1 := img1 C h { s with cells := s.cells ++ [c] } (a.pushed k) ++ (imgS s.shs ++ imgC s.ms s.cells a.line)) (L2 := imgM s.ms) (o1.eq (by simp only [List.append_assoc]; rfl)) e2 (fun hm => nc (by
    have : c ∈ adr (img C h s a) ∨ False := .inl (by
      rw [adr, List.append_assoc, List.append_assoc] at hm
      exact hm)
    exact this.resolve_right id))
  refine .mk' I ((k1.weak fun x hx => absurd hx List.not_mem_nil).step (kp_upd (W := owns C h s a) m) fun x hx => .inl hx) (o2.eq ?_) (fun z hz => ?_) .refl rfl (fun k => ?_) ⟨I.ok.ml, I.ok.nl, by show (s.cells ++ [c]).length = (a.line ++ [(k, 0)]).length; rw [List.length_append, List.length_append, I.ok.cl]; rfl, fun x hx => ?_, I.ok.tk, I.ok.tn, I.ok.fl, I.ok.kn, I.ok.kz⟩
  · unfold img
    show _ = img1 C h _ _ ++ (imgS s.shs ++ (imgC s.ms (s.cells ++ [c]) (a.line ++ [(k, 0)]) ++ imgM s.ms))
    rw [zip_snoc I.ok.cl]
    simp only [List.append_assoc, List.cons_append, List.nil_append]
  · have : z ∈ (img C h { s with cells := s.cells ++ [c] } (a.pushed k)).map (·.1) := hz
    unfold img at this
    have e : imgC s.ms (s.cells ++ [c]) (a.pushed k).line = imgC s.ms s.cells a.line ++ [(c, cellO s.ms (k, 0))] := zip_snoc I.ok.cl c (k, 0)
    rw [e] at this
    by_cases q : z = c
    · exact .inr (q ▸ n)
    · refine .inl ?_
      show z ∈ (img C h s a).map (·.1)
      unfold img
      simp only [List.map_append, List.mem_append, List.map_cons, List.map_nil, List.mem_cons, List.not_mem_nil, or_false] at this ⊢
      rcases this with h1 | h1 | ⟨h1 | h1⟩ | h1
      · exact .inl h1
      · exact .inr (.inl h1)
      · exact .inr (.inr (.inl h1))
      · exact absurd h1 q
      · exact .inr (.inr (.inr h1))
  · have r := I.rl.keep k
    exact ⟨r.fnd, r.nt, r.wt, r.mt, r.br, r.mod⟩
  · rcases List.mem_append.mp hx with hx | hx
    · exact I.ok.lk x hx
    · rw [List.mem_singleton.mp hx]; exact lk
/-- the last cell goes -/
theorem HouseAt.pop (I : HouseAt K C W H h s a) {pre : List (Nat × Nat)} {x : Nat × Nat} (e : a.line = pre ++ [x]) {cp : List Addr} {c : Addr} (ec : s.cells = cp ++ [c]) :
    Stp K C W h H s a (upd H h.ln (.lst (cp.map V.ref))) { s with cells := cp } a.popped := by
  have e2 : cp.length = pre.length := by have := I.ok.cl; rw [ec, e] at this; simpa using this
  have el : a.popped.line = pre := by show a.line.dropLast = _; rw [e, List.dropLast_concat]
  have m : h.ln ∈ owns C h s a := by simp [owns, img]
  have o1 : Owns (upd H h.ln (.lst (cp.map V.ref))) ((img1 C h s a).take 4 ++ (h.ln, .lst (cp.map V.ref)) :: ((img1 C h s a).drop 5 ++ (imgS s.shs ++ (imgC s.ms s.cells a.line ++ imgM s.ms)))) := Owns.set (o := .lst (s.cells.map V.ref)) I.own
  have o2 : Owns (upd H h.ln (.lst (cp.map V.ref))) (img1 C h { s with cells := cp } a.popped ++ (imgS s.shs ++ imgC s.ms cp pre) ++ (c, cellO s.ms x) :: imgM s.ms) := o1.eq (by
    rw [e, ec, zip_snoc e2]
    simp only [List.append_assoc, List.cons_append, List.nil_append]
    rfl)
  refine .mk' I (kp_upd m) (o2.del.eq ?_) (fun z hz => .inl ?_) .refl rfl (fun k => ?_) ⟨I.ok.ml, I.ok.nl, by rw [el]; exact e2, fun y hy => ?_, I.ok.tk, I.ok.tn, I.ok.fl, I.ok.kn, I.ok.kz⟩
  · unfold img
    rw [el]
    simp only [List.append_assoc]
  · have : z ∈ (img C h { s with cells := cp } a.popped).map (·.1) := hz
    show z ∈ (img C h s a).map (·.1)
    unfold img at this ⊢
    rw [el] at this
    rw [e, ec, zip_snoc e2]
    simp only [List.map_append, List.mem_append, List.map_cons, List.map_nil, List.mem_cons, List.not_mem_nil, or_false] at this ⊢
    rcases this with h1 | h1 | h1 | h1
    · exact .inl h1
    · exact .inr (.inl h1)
    · exact .inr (.inr (.inl (.inl h1)))
    · exact .inr (.inr (.inr h1))
  · have r := I.rl.keep k
    exact ⟨r.fnd, r.nt, r.wt, r.mt, r.br, r.mod⟩
  · rw [el] at hy
    exact I.ok.lk y (by rw [e]; exact List.mem_append_left _ hy)
/-! a new module -/
theorem getD_app {α : Type} (xs : List α) (y d : α) (k : Nat) (l : k ≠ xs.length) : (xs ++ [y]).getD k d = xs.getD k d := by
  rw [List.getD_eq_getElem?_getD, List.getElem?_append, List.getD_eq_getElem?_getD]
  split
  · rfl
  · rename_i c
    rw [List.getElem?_eq_none (show xs.length ≤ k from by omega), List.getElem?_eq_none (by rw [List.length_singleton]; omega)]
theorem getD_last {α : Type} (xs : List α) (y d : α) : (xs ++ [y]).getD xs.length d = y := by
  rw [List.getD_eq_getElem?_getD, List.getElem?_append_right (Nat.le_refl _), Nat.sub_self]; rfl
theorem HouseAt.opened (I : HouseAt K C W H h s a) {p : Str} {m d : Addr} (k1 : Kp [] H H1) (nd : H d = none) (M : ModAt C.m H1 m ((a.qs.length + 1 : Nat) : Int) p d []) (np : getA a.tab p = none) :
    Stp K C W h H s a (upd (upd H1 h.md (.lst ((s.ms.map fun (o : Mo) => V.ref o.m) ++ [.ref m]))) h.st (.dK (tabV s.ms a.tab ++ [(Sum.inr p, .ref m)]))) { s with ms := s.ms ++ [⟨m, d, []⟩] } (a.opened p) := by
  have I1 := I.same k1
  have nc : d ∉ owns C h s a := I.own.new nd
  have m1 : h.md ∈ owns C h s a := by simp [owns, img]
  have m2 : h.st ∈ owns C h s a := by simp [owns, img]
  have ml := I.ok.ml
  have new : mAt (s.ms ++ [⟨m, d, []⟩]) a.qs.length = m := by rw [← ml]; unfold mAt; rw [List.getElem?_append_right (Nat.le_refl _), Nat.sub_self]; rfl
  have old : ∀ k, k < a.qs.length → mAt (s.ms ++ [⟨m, d, []⟩]) k = mAt s.ms k := fun k l => mAt_app (by rw [ml]; exact l)
  have et : tabV (s.ms ++ [⟨m, d, []⟩]) (a.tab ++ [(p, a.qs.length)]) = tabV s.ms a.tab ++ [(Sum.inr p, .ref m)] := by
    unfold tabV
    rw [List.map_append]
    congr 1
    · refine List.map_congr_left fun x hx => ?_
      rw [old x.2 (List.getElem?_eq_some_iff.mp (I.ok.tk x hx)).1]
    · show [(Sum.inr p, V.ref (mAt _ a.qs.length))] = _
      rw [new]
  have ec : imgC (s.ms ++ [⟨m, d, []⟩]) s.cells a.line = imgC s.ms s.cells a.line := by
    unfold imgC
    have all := I.ok.lk
    generalize a.line = l at all
    generalize s.cells = cs
    induction cs generalizing l with
    | nil => rfl
    | cons c r ih =>
      cases l with
      | nil => rfl
      | cons x t =>
        rw [List.zipWith_cons_cons, List.zipWith_cons_cons, ih t fun y hy => all y (List.mem_cons_of_mem _ hy)]
        unfold cellO
        rw [old x.1 (all x List.mem_cons_self)]
  have er : (s.ms ++ [(⟨m, d, []⟩ : Mo)]).map (fun (o : Mo) => V.ref o.m) = (s.ms.map fun (o : Mo) => V.ref o.m) ++ [.ref m] := by rw [List.map_append]; rfl
  have o1 : Owns (upd H1 h.md (.lst ((s.ms.map fun (o : Mo) => V.ref o.m) ++ [.ref m]))) ((img1 C h s a).take 3 ++ (h.md, .lst ((s.ms.map fun (o : Mo) => V.ref o.m) ++ [.ref m])) :: ((img1 C h s a).drop 4 ++ (imgS s.shs ++ (imgC s.ms s.cells a.line ++ imgM s.ms)))) := Owns.set (o := .lst (s.ms.map fun (o : Mo) => V.ref o.m)) I1.own
  have o2 : Owns (upd (upd H1 h.md (.lst ((s.ms.map fun (o : Mo) => V.ref o.m) ++ [.ref m]))) h.st (.dK (tabV s.ms a.tab ++ [(Sum.inr p, .ref m)]))) ((img1 C h s a).take 2 ++ (h.st, .dK (tabV s.ms a.tab ++ [(Sum.inr p, .ref m)])) :: ((h.md, .lst ((s.ms.map fun (o : Mo) => V.ref o.m) ++ [.ref m])) :: ((img1 C h s a).drop 4 ++ (imgS s.shs ++ (imgC s.ms s.cells a.line ++ imgM s.ms))))) :=
    Owns.set (L1 := (img1 C h s a).take 2) (o := .dK (tabV s.ms a.tab)) o1
  have ed : (upd (upd H1 h.md (.lst ((s.ms.map fun (o : Mo) => V.ref o.m) ++ [.ref m]))) h.st (.dK (tabV s.ms a.tab ++ [(Sum.inr p, .ref m)]))) d = some (.dK []) :=
    (upd_ne fun z => nc (by rw [z]; exact m2)).trans ((upd_ne fun z => nc (by rw [z]; exact m1)).trans M.dc)
  have o3 := Owns.ins (L1 := img1 C h { s with ms := s.ms ++ [⟨m, d, []⟩] } (a.opened p) ++ (imgS s.shs ++ (imgC s.ms s.cells a.line ++ imgM s.ms))) (L2 := []) (o2.eq (by
    rw [List.append_nil]
    show _ = [(h.self, HO.ins C.r h.dx (runF h _)), (h.sh, _), (h.st, HO.dK (tabV (s.ms ++ [⟨m, d, []⟩]) (a.tab ++ [(p, a.qs.length)]))), (h.md, HO.lst ((s.ms ++ [(⟨m, d, []⟩ : Mo)]).map fun (o : Mo) => V.ref o.m)), _, _, _, _, _, _] ++ _
    rw [et, er]
    rfl)) ed (fun hm => nc (by
      rw [List.append_nil] at hm
      exact hm))
  have ext : Ext s.ms (s.ms ++ [⟨m, d, []⟩]) := fun k o e => ⟨o, by rw [List.getElem?_append_left (List.getElem?_eq_some_iff.mp e).1]; exact e, rfl, rfl⟩
  refine .mk' I (((k1.weak fun x hx => absurd hx List.not_mem_nil).step (kp_upd (W := owns C h s a) m1) fun x hx => .inl hx).step (kp_upd (W := owns C h s a) m2) fun x hx => .inl hx) (o3.eq ?_) (fun z hz => ?_) ext rfl (fun k => ?_)
    ⟨by show (s.ms ++ _).length = (a.qs ++ _).length; rw [List.length_append, List.length_append, ml]; rfl, by show (a.nm ++ _).length = (a.qs ++ _).length; rw [List.length_append, List.length_append, I.ok.nl]; rfl, I.ok.cl, fun x hx => ?_, fun x hx => ?_, ?_, fun j hj => ?_, fun j => ?_, fun j y hy => ?_⟩
  · unfold img
    show _ = img1 C h _ _ ++ (imgS s.shs ++ (imgC (s.ms ++ [⟨m, d, []⟩]) s.cells a.line ++ imgM (s.ms ++ [⟨m, d, []⟩])))
    rw [ec, show imgM (s.ms ++ [⟨m, d, []⟩]) = imgM s.ms ++ [(d, HO.dK [])] from by unfold imgM; rw [List.map_append]; rfl]
    simp only [List.append_assoc]
  · by_cases q : z = d
    · exact .inr (q ▸ nd)
    · have : z ∈ (img C h { s with ms := s.ms ++ [⟨m, d, []⟩] } (a.opened p)).map (·.1) := hz
      unfold img at this
      have e1 : imgC (s.ms ++ [⟨m, d, []⟩]) s.cells (a.opened p).line = imgC s.ms s.cells a.line := ec
      dsimp only at this
      rw [e1, show imgM (s.ms ++ [⟨m, d, []⟩]) = imgM s.ms ++ [(d, HO.dK [])] from by unfold imgM; rw [List.map_append]; rfl] at this
      refine .inl ?_
      show z ∈ (img C h s a).map (·.1)
      unfold img
      simp only [List.map_append, List.mem_append, List.map_cons, List.map_nil, List.mem_cons, List.not_mem_nil, or_false] at this ⊢
      rcases this with h1 | h1 | h1 | h1 | h1
      · exact .inl h1
      · exact .inr (.inl h1)
      · exact .inr (.inr (.inl h1))
      · exact .inr (.inr (.inr h1))
      · exact absurd h1 q
  · have r := I.rl.keep k
    refine ⟨r.fnd, r.nt, r.wt, r.mt, r.br, fun j o e => ?_⟩
    have kq : Keep H1 (upd (upd H1 h.md (.lst ((s.ms.map fun (o : Mo) => V.ref o.m) ++ [.ref m]))) h.st (.dK (tabV s.ms a.tab ++ [(Sum.inr p, .ref m)]))) :=
      I1.own.keep img_soft ((kp_upd m1).step (kp_upd (W := owns C h s a) m2) fun x hx => .inl hx)
    have e : (s.ms ++ [(⟨m, d, []⟩ : Mo)])[j]? = some o := e
    by_cases l : j < s.ms.length
    · rw [List.getElem?_append_left l] at e
      obtain ⟨g1, g2⟩ := r.mod j o e
      rw [show (a.opened p).path j = a.path j from getD_app _ _ _ _ (by omega), show (a.opened p).names j = a.names j from getD_app _ _ _ _ (by rw [I.ok.nl]; omega)]
      exact ⟨g1, g2.mono fun t v => ThR.mono (.same Kp.refl) ext⟩
    · rw [List.getElem?_append_right (by omega)] at e
      have j0 : j = s.ms.length := by
        rcases Nat.eq_zero_or_pos (j - s.ms.length) with q | q
        · omega
        · rw [List.getElem?_eq_none (by rw [List.length_singleton]; omega)] at e; cases e
      subst j0
      rw [Nat.sub_self] at e
      cases e
      obtain ⟨dx, em⟩ := M.ob
      rw [show (a.opened p).path s.ms.length = p from by rw [ml]; exact getD_last _ _ _, show (a.opened p).names s.ms.length = [] from by rw [ml, ← I.ok.nl]; exact getD_last _ _ _, ml]
      exact ⟨⟨dx, kq.ins noRun_mod em⟩, .nil⟩
  · show x.1 < (a.qs ++ [p]).length
    have := I.ok.lk x hx
    rw [List.length_append]; omega
  · show (a.qs ++ [p])[x.2]? = some x.1
    rcases List.mem_append.mp hx with hx | hx
    · have := I.ok.tk x hx
      rw [List.getElem?_append_left (List.getElem?_eq_some_iff.mp this).1]; exact this
    · rw [List.mem_singleton.mp hx, List.getElem?_append_right (Nat.le_refl _), Nat.sub_self]; rfl
  · show ((a.tab ++ [(p, a.qs.length)]).map (·.1)).Nodup
    rw [List.map_append]
    exact List.nodup_append.mpr ⟨I.ok.tn, List.nodup_cons.mpr ⟨List.not_mem_nil, List.nodup_nil⟩, fun x hx y hy e => getA_none.mp np (by rw [List.mem_singleton.mp hy] at e; have e : x = p := e; rw [e] at hx; exact hx)⟩
  · show j < (a.qs ++ [p]).length
    have := I.ok.fl j hj
    rw [List.length_append]; omega
  · by_cases l : j = a.nm.length
    · subst l
      rw [show (a.opened p).names a.nm.length = [] from getD_last _ _ _]
      exact List.nodup_nil
    · rw [show (a.opened p).names j = a.names j from getD_app _ _ _ _ l]
      exact I.ok.kn j
  · by_cases l : j = a.nm.length
    · subst l
      rw [show (a.opened p).names a.nm.length = [] from getD_last _ _ _] at hy
      cases hy
    · rw [show (a.opened p).names j = a.names j from getD_app _ _ _ _ l] at hy
      rw [show (a.opened p).path j = a.path j from getD_app _ _ _ _ (by rw [← I.ok.nl]; exact l)]
      exact I.ok.kz j y hy
/-! the house's own fields anew -/
theorem putF_ne {f g : Str} {v x : V} {r : List (Str × V)} (h : decide (g = f) = false) : putF f v ((g, x) :: r) = (g, x) :: putF f v r := if_neg (of_decide_eq_false h)
theorem putF_eq {f : Str} {v x : V} {r : List (Str × V)} : putF f v ((f, x) :: r) = (f, v) :: r := if_pos rfl
theorem runF_met {x : Addr} : putF "met" (.ref x) (runF h s) = runF h { s with mt := x } := ((putF_ne (by decide +kernel)).trans (congrArg (List.cons _) ((putF_ne (by decide +kernel)).trans (congrArg (List.cons _) ((putF_ne (by decide +kernel)).trans (congrArg (List.cons _) ((putF_ne (by decide +kernel)).trans (congrArg (List.cons _) ((putF_ne (by decide +kernel)).trans (congrArg (List.cons _) putF_eq))))))))))
theorem runF_broken {x : Addr} : putF "broken" (.ref x) (runF h s) = runF h { s with br := x } := ((putF_ne (by decide +kernel)).trans (congrArg (List.cons _) ((putF_ne (by decide +kernel)).trans (congrArg (List.cons _) ((putF_ne (by decide +kernel)).trans (congrArg (List.cons _) ((putF_ne (by decide +kernel)).trans (congrArg (List.cons _) putF_eq))))))))
theorem HouseAt.metted (I : HouseAt K C W H h s a) {x : Addr} {vs : List V} {ds : List PyData} (k1 : Kp [] H H1) (nx : H x = none) (ex : H1 x = some (.lst vs)) (d : DLst K H1 vs ds) :
    Stp K C W h H s a (upd H1 h.self (.ins C.r h.dx (runF h { s with mt := x }))) { s with mt := x, mvs := vs } (a.metted ds) := by
  have I1 := I.same k1
  have nc : x ∉ owns C h s a := I.own.new nx
  have m1 : h.self ∈ owns C h s a := by simp [owns, img]
  have o1 : Owns (upd H1 h.self (.ins C.r h.dx (runF h { s with mt := x }))) ([] ++ (h.self, .ins C.r h.dx (runF h { s with mt := x })) :: ((img1 C h s a).drop 1 ++ (imgS s.shs ++ (imgC s.ms s.cells a.line ++ imgM s.ms)))) := Owns.set (L1 := []) (o := .ins C.r h.dx (runF h s)) I1.own
  have o2 : Owns (upd H1 h.self (.ins C.r h.dx (runF h { s with mt := x }))) (((h.self, .ins C.r h.dx (runF h { s with mt := x })) :: ((img1 C h s a).drop 1).take 8) ++ (imgS s.shs ++ (imgC s.ms s.cells a.line ++ imgM s.ms))) := Owns.del (y := s.mt) (o := .lst s.mvs) o1
  have ex2 : (upd H1 h.self (.ins C.r h.dx (runF h { s with mt := x }))) x = some (.lst vs) := (upd_ne fun z => nc (by rw [z]; exact m1)).trans ex
  have sub : ∀ z, z ∈ adr (((h.self, HO.ins C.r h.dx (runF h { s with mt := x })) :: ((img1 C h s a).drop 1).take 8) ++ (imgS s.shs ++ (imgC s.ms s.cells a.line ++ imgM s.ms))) → z ∈ owns C h s a := fun z hz => by
    show z ∈ (img C h s a).map (·.1)
    unfold img
    rw [adr, List.map_append] at hz
    rw [List.map_append]
    rcases List.mem_append.mp hz with hz | hz
    · refine List.mem_append_left _ ?_
      simp only [img1, List.drop, List.take, List.map_cons, List.map_nil, List.mem_cons, List.not_mem_nil, or_false] at hz ⊢
      rcases hz with h | h | h | h | h | h | h | h | h <;> simp [h]
    · exact List.mem_append_right _ hz
  have o3 := o2.ins ex2 fun hm => nc (sub x hm)
  refine .mk' I ((k1.weak fun x hx => absurd hx List.not_mem_nil).step (kp_upd (W := owns C h s a) m1) fun x hx => .inl hx) o3 (fun z hz => ?_) .refl rfl (fun k => ?_) ⟨I.ok.ml, I.ok.nl, I.ok.cl, I.ok.lk, I.ok.tk, I.ok.tn, I.ok.fl, I.ok.kn, I.ok.kz⟩
  · by_cases q : z = x
    · exact .inr (q ▸ nx)
    · refine .inl (sub z ?_)
      have : z ∈ adr (((h.self, HO.ins C.r h.dx (runF h { s with mt := x })) :: ((img1 C h s a).drop 1).take 8) ++ (x, HO.lst vs) :: (imgS s.shs ++ (imgC s.ms s.cells a.line ++ imgM s.ms))) := hz
      rw [adr, List.map_append, List.map_cons] at this
      rw [adr, List.map_append]
      rcases List.mem_append.mp this with h1 | h1
      · exact List.mem_append_left _ h1
      · exact List.mem_append_right _ ((List.mem_cons.mp h1).resolve_left q)
  · have r := I.rl.keep k
    have kq : Keep H1 (upd H1 h.self (.ins C.r h.dx (runF h { s with mt := x }))) := I1.own.keep img_soft (kp_upd m1)
    exact ⟨r.fnd, r.nt, r.wt, d.tup kq.tup, r.br, r.mod⟩
theorem HouseAt.unbroken (I : HouseAt K C W H h s a) {x : Addr} (k1 : Kp [] H H1) (nx : H x = none) (ex : H1 x = some (.dK [])) :
    Stp K C W h H s a (upd H1 h.self (.ins C.r h.dx (runF h { s with br := x }))) { s with br := x, bvs := [] } a.unbroken := by
  have I1 := I.same k1
  have nc : x ∉ owns C h s a := I.own.new nx
  have m1 : h.self ∈ owns C h s a := by simp [owns, img]
  have o1 : Owns (upd H1 h.self (.ins C.r h.dx (runF h { s with br := x }))) ([] ++ (h.self, .ins C.r h.dx (runF h { s with br := x })) :: ((img1 C h s a).drop 1 ++ (imgS s.shs ++ (imgC s.ms s.cells a.line ++ imgM s.ms)))) := Owns.set (L1 := []) (o := .ins C.r h.dx (runF h s)) I1.own
  have o2 : Owns (upd H1 h.self (.ins C.r h.dx (runF h { s with br := x }))) (((h.self, .ins C.r h.dx (runF h { s with br := x })) :: ((img1 C h s a).drop 1).take 7) ++ ((s.mt, .lst s.mvs) :: (imgS s.shs ++ (imgC s.ms s.cells a.line ++ imgM s.ms)))) := Owns.del (y := s.br) (o := .dK s.bvs) o1
  have ex2 : (upd H1 h.self (.ins C.r h.dx (runF h { s with br := x }))) x = some (.dK []) := (upd_ne fun z => nc (by rw [z]; exact m1)).trans ex
  have sub : ∀ z, z ∈ adr (((h.self, HO.ins C.r h.dx (runF h { s with br := x })) :: ((img1 C h s a).drop 1).take 7) ++ ((s.mt, .lst s.mvs) :: (imgS s.shs ++ (imgC s.ms s.cells a.line ++ imgM s.ms)))) → z ∈ owns C h s a := fun z hz => by
    show z ∈ (img C h s a).map (·.1)
    unfold img
    rw [adr, List.map_append, List.map_cons] at hz
    rw [List.map_append]
    rcases List.mem_append.mp hz with hz | hz
    · refine List.mem_append_left _ ?_
      simp only [img1, List.drop, List.take, List.map_cons, List.map_nil, List.mem_cons, List.not_mem_nil, or_false] at hz ⊢
      rcases hz with h | h | h | h | h | h | h | h <;> simp [h]
    · rcases List.mem_cons.mp hz with hz | hz
      · exact List.mem_append_left _ (by simp [img1, hz])
      · exact List.mem_append_right _ hz
  have o3 := o2.ins ex2 fun hm => nc (sub x hm)
  refine .mk' I ((k1.weak fun x hx => absurd hx List.not_mem_nil).step (kp_upd (W := owns C h s a) m1) fun x hx => .inl hx) o3 (fun z hz => ?_) .refl rfl (fun k => ?_) ⟨I.ok.ml, I.ok.nl, I.ok.cl, I.ok.lk, I.ok.tk, I.ok.tn, I.ok.fl, I.ok.kn, I.ok.kz⟩
  · by_cases q : z = x
    · exact .inr (q ▸ nx)
    · refine .inl (sub z ?_)
      have : z ∈ adr (((h.self, HO.ins C.r h.dx (runF h { s with br := x })) :: ((img1 C h s a).drop 1).take 7) ++ (x, HO.dK []) :: ((s.mt, .lst s.mvs) :: (imgS s.shs ++ (imgC s.ms s.cells a.line ++ imgM s.ms)))) := hz
      rw [adr, List.map_append, List.map_cons] at this
      rw [adr, List.map_append]
      rcases List.mem_append.mp this with h1 | h1
      · exact List.mem_append_left _ h1
      · exact List.mem_append_right _ ((List.mem_cons.mp h1).resolve_left q)
  · have r := I.rl.keep k
    exact ⟨r.fnd, r.nt, r.wt, r.mt, .nil, r.mod⟩
end
end PH

/-! FHd: what modules, functions, faults promise. -/
namespace PH
open PySem PySem.Spec PyProof.Rows L2 HL TL
theorem nd_len : ∀ {xs ys : List Str}, xs.Nodup → (∀ x ∈ xs, x ∈ ys) → xs.length ≤ ys.length
  | [], _, _, _ => Nat.zero_le _
  | x :: r, ys, n, h => by
    obtain ⟨n1, n2⟩ := List.nodup_cons.mp n
    obtain ⟨y1, y2, e⟩ := List.append_of_mem (h x List.mem_cons_self)
    have := nd_len (ys := y1 ++ y2) n2 fun z hz => by
      have := h z (List.mem_cons_of_mem _ hz)
      rw [e] at this
      rcases List.mem_append.mp this with q | q
      · exact List.mem_append_left _ q
      · rcases List.mem_cons.mp q with q | q
        · exact absurd (q ▸ hz) n1
        · exact List.mem_append_right _ q
    rw [e, List.length_cons, List.length_append, List.length_cons]
    rw [List.length_append] at this
    omega
section
variable {K : PySem.W.Frag} {C : Cl} {W : Wd} {H : Hp} {h : HA} {s : Hs} {a : Ab}
theorem HouseAt.names_few (I : HouseAt K C W H h s a) (k : Nat) {n : Nat} (l : (W.zs (a.path k)).length ≤ n) : (a.names k).length ≤ n := by
  have := nd_len (I.ok.kn k) (I.ok.kz k)
  rw [List.length_map] at this
  omega
end
def spMInit (C : Addr) : Sp := fun vs H Q _ => ∃ (m dx : Addr) (n : Int) (p : Str), vs = [.ref m, .int n, .str p] ∧ H m = some (.ins C dx []) ∧
  ∀ H' d, Kp [m] H H' → H d = none → ModAt C H' m n p d [] → Q .non H'
def spBind (C : Addr) : Sp := fun vs H Q _ => ∃ (m d : Addr) (n : Int) (p z : Str) (v : V) (kvs : List (Key × V)), vs = [.ref m, .str z, v] ∧ ModAt C H m n p d kvs ∧ kvs.length ≤ 1000 ∧
  Q .non (upd H d (.dK (putK kvs (.inr z) v)))
def spBound (C : Addr) : Sp := fun vs H Q _ => ∃ (m d : Addr) (n : Int) (p : Str) (kvs : List (Key × V)) (ks : List Str), vs = [.ref m] ∧ ModAt C H m n p d kvs ∧ kvs.map (·.1) = ks.map Sum.inr ∧ ks.length < 64 ∧
  ∀ (ys : List Str) (l : Addr), ys.Perm ks → sortedS ys = true → H l = none → Q (.ref l) (upd H l (.lst (ys.map V.str)))
def spHas (C : Addr) : Sp := fun vs H Q _ => ∃ (m d : Addr) (n : Int) (p z : Str) (kvs : List (Key × V)), vs = [.ref m, .str z] ∧ ModAt C H m n p d kvs ∧ Q (.bl (valV kvs (.inr z)).isSome) H
def spThing (C : Addr) : Sp := fun vs H Q _ => ∃ (m d : Addr) (n : Int) (p z : Str) (kvs : List (Key × V)), vs = [.ref m, .str z] ∧ ModAt C H m n p d kvs ∧ Q ((valV kvs (.inr z)).getD .non) H
def spLInit (C : Addr) : Sp := fun vs H Q _ => ∃ (x dx m : Addr) (r : Str), vs = [.ref x, .ref m, .str r] ∧ H x = some (.ins C dx []) ∧ ∀ H', Kp [x] H H' → H' x = some (.ins C dx (lateF m r)) → Q .non H'
/-- a thing told -/
inductive ToldOf (CM CL : Addr) (H : Hp) : V → Prop
  | int (n : Int) : ToldOf CM CL H (.int n)
  | mod {m dx d : Addr} {n : Int} {p : Str} : H m = some (.ins CM dx (modF n p d)) → ToldOf CM CL H (.ref m)
  | late {x dx m dm d : Addr} {r p : Str} {n : Int} : H x = some (.ins CL dx (lateF m r)) → H m = some (.ins CM dm (modF n p d)) → ToldOf CM CL H (.ref x)
def spTold (CM CL : Addr) : Sp := fun vs H Q _ =>
  (∃ n : Int, vs = [.int n] ∧ Q (.int n) H) ∨
  (∃ (m dx d : Addr) (n : Int) (p : Str), vs = [.ref m] ∧ H m = some (.ins CM dx (modF n p d)) ∧ ∀ t, H t = none → Q (.ref t) (upd H t (.tup [.str "module", .int n]))) ∨
  (∃ (x dx m dm d : Addr) (r p : Str) (n : Int), vs = [.ref x] ∧ H x = some (.ins CL dx (lateF m r)) ∧ H m = some (.ins CM dm (modF n p d)) ∧ ∀ t, H t = none → Q (.ref t) (upd H t (.tup [.str "function", .int n, .str r])))
/-! faults -/
def spFInit (C : Addr) : Sp := fun vs H Q _ => ∃ (x : Addr) (v : V), vs = [.ref x, v] ∧ H x = some (exo x C none) ∧ ∀ dx, H dx = none → dx ≠ x → Q .non (upd (upd H dx (exd dx [("fault", v)])) x (exo x C (some dx)))
theorem kp_raise {H : Hp} {a dx : Addr} {o1 o2 u x : HO} (ha : H a = none) (hd : H dx = none) : Kp [] H (upd (del (upd (upd (upd H a o1) dx u) a o2) a) dx x) := fun q o _ h => by
  have n1 : q ≠ a := fun e => by rw [e, ha] at h; cases h
  have n2 : q ≠ dx := fun e => by rw [e, hd] at h; cases h
  rw [upd_ne n2, del_ne n1, upd_ne n1, upd_ne n2, upd_ne n1]
  exact h
/-- a fault made -/
theorem fault_made {C : Addr} {H : Hp} {v : V} {R : XK} (q : ∀ H' d, Kp [] H H' → H' d = some (.xd [("fault", v)]) → R (.ref C) (some d) H') : ∀ a, H a = none → spFInit C (.ref a :: ([v] ++ [])) (upd H a (exo a C none))
    (fun y H2 => y = .non ∧ ∃ (d : Addr) (fs : List (Str × V)), H2 a = some (exo a C (some d)) ∧ H2 d = some (exd d fs) ∧ H d = none ∧ R (.ref C) (some d) (upd (del H2 a) d (.xd fs))) (fun _ _ _ => False) := fun a ha =>
  ⟨a, v, rfl, upd_same, fun dx nd ne => by
    have hd : H dx = none := (upd_ne ne).symm.trans nd
    exact ⟨rfl, dx, _, upd_same, (upd_ne ne).trans upd_same, hd, q _ dx (kp_raise ha hd) upd_same⟩⟩
/-- Failed: its fault, its road, a list of its own -/
def spXInit (K : PySem.W.Frag) (C : Addr) : Sp := fun vs H Q _ => ∃ (x l : Addr) (v : V) (xs : List V), vs = [.ref x, v, .ref l] ∧ H x = some (exo x C none) ∧ H l = some (.lst xs) ∧ ∀ dx p, H dx = none → dx ≠ x → p ≠ dx → p ≠ x → H p = none →
  Q .non (upd (upd (upd (upd H dx (exd dx [("fault", v)])) x (exo x C (some dx))) p (.lst xs)) dx (exd dx [("road", .ref p), ("fault", v)]))
theorem failed_made {K : PySem.W.Frag} {C : Addr} {H : Hp} {v : V} {l : Addr} {xs : List V} {R : XK} (hl : H l = some (.lst xs))
    (q : ∀ H' d p, Kp [] H H' → H' d = some (.xd [("road", .ref p), ("fault", v)]) → H' p = some (.lst xs) → H p = none → R (.ref C) (some d) H') : ∀ a, H a = none → spXInit K C (.ref a :: ([v, .ref l] ++ [])) (upd H a (exo a C none))
    (fun y H2 => y = .non ∧ ∃ (d : Addr) (fs : List (Str × V)), H2 a = some (exo a C (some d)) ∧ H2 d = some (exd d fs) ∧ H d = none ∧ R (.ref C) (some d) (upd (del H2 a) d (.xd fs))) (fun _ _ _ => False) := fun a ha =>
  ⟨a, l, v, xs, rfl, upd_same, (upd_ne (ne_of_none hl ha)).trans hl, fun dx p nd ne n1 n2 np => by
    have hd : H dx = none := (upd_ne ne).symm.trans nd
    have hp : H p = none := (upd_ne n2).symm.trans np
    refine ⟨rfl, dx, _, (upd_ne ne.symm).trans ((upd_ne n2.symm).trans upd_same), upd_same, hd, q _ dx p (fun z o _ h => ?_) upd_same ((upd_ne n1).trans ((del_ne n2).trans ((upd_ne n1).trans upd_same))) hp⟩
    have c1 : z ≠ a := fun e => by rw [e, ha] at h; cases h
    have c2 : z ≠ dx := fun e => by rw [e, hd] at h; cases h
    have c3 : z ≠ p := fun e => by rw [e, hp] at h; cases h
    rw [upd_ne c2, del_ne c1, upd_ne c2, upd_ne c3, upd_ne c1, upd_ne c2, upd_ne c1]
    exact h⟩
end PH

/-! FHe: what a house's methods promise. -/
namespace PH
open PySem PySem.Spec PyProof.Rows L2 HL TL
/-- the stage of a row, and that it binds but names that are its path's -/
def stage : Row → Nat
  | .set _ _ => 3
  | .take _ _ => 3
  | .note _ => 3
  | .draw _ _ _ => 4
  | .now _ _ => 4
  | .late _ _ => 4
  | .ask _ _ => 4
  | .fail _ => 5
  | .tr _ _ _ => 5
def RowZ (zs : List Str) : Nat → Row → Prop
  | _, .set x _ => x ∈ zs
  | _, .now x _ => x ∈ zs
  | _, .take x _ => x ∈ zs
  | _, .draw x _ _ => x ∈ zs
  | _, .late x _ => x ∈ zs
  | _, .ask x _ => x ∈ zs
  | _, .note _ => True
  | _, .fail _ => True
  | d + 1, .tr a _ b => (∀ r ∈ a, RowZ zs d r) ∧ ∀ r ∈ b, RowZ zs d r
  | 0, .tr _ _ _ => False
structure WOk (st : Nat) (W : Wd) (ps : List Str) (w : Way) : Prop where
  way : WayOk ps w
  bod : Bodies ps W.fnd
  zs : ∀ p, (W.zs p).length < 64
  row : ∀ p b, W.fnd p = some b → ∀ r ∈ b, RowZ (W.zs p) 3 r
  stg : ∀ p b, W.fnd p = some b → ∀ r ∈ b, stage r ≤ st
section
variable (K : PySem.W.Frag) (C : Cl) (CF : Addr) (W : Wd) (h : HA) (H : Hp) (s : Hs) (a : Ab)
/-- a fault at d -/
def FaultAt (H : Hp) (d : Addr) (f : PyData) : Prop := ∃ v, H d = some (.xd [("fault", v)]) ∧ Dp K H v f ∧ flatD f = true
def WishM (Q : VK) (E : XK) (r : Rs Nat) : Prop :=
  (∀ b m, r = (b, .ok m) → ∀ H' s', Stp K C W h H s a H' s' b → m < b.qs.length → Q (.ref (mAt s'.ms m)) H') ∧
  ∀ b f, r = (b, .error f) → ∀ H' s' d, Stp K C W h H s a H' s' b → FaultAt K H' d f → E (.ref CF) (some d) H'
def WishU (Q : VK) (E : XK) (r : Rs Unit) : Prop :=
  (∀ b, r = (b, .ok ()) → ∀ H' s', Stp K C W h H s a H' s' b → Q .non H') ∧
  ∀ b f, r = (b, .error f) → ∀ H' s' d, Stp K C W h H s a H' s' b → FaultAt K H' d f → E (.ref CF) (some d) H'
end
/-- what is asked ahead of each doing -/
structure Pre (K : PySem.W.Frag) (C : Cl) (st : Nat) (W : Wd) (ps : List Str) (w : Way) (h : HA) (H : Hp) (s : Hs) (a : Ab) (n : Nat) : Prop where
  ok : WOk st W ps w
  at_ : HouseAt K C W H h s a
  rem : rem ps a < n
  lot : lot ps a ≤ 800000
  line : a.line.length + n ≤ 1000
section
variable (K : PySem.W.Frag) (C : Cl) (CF : Addr) (st : Nat) (w : Way)
def spUp : Sp := fun vs H _ E => ∃ (W : Wd) (h : HA) (s : Hs) (a : Ab) (v : V) (f : PyData), vs = [.ref h.self, v] ∧ HouseAt K C W H h s a ∧ a.line.length ≤ 1000 ∧ Dp K H v f ∧ flatD f = true ∧
  ∀ H' s' d, Stp K C W h H s a H' s' a.up → FaultAt K H' d f → E (.ref CF) (some d) H'
def spFound : Sp := fun vs H Q _ => ∃ (W : Wd) (h : HA) (s : Hs) (a : Ab) (p : Str), vs = [.ref h.self, .str p] ∧ HouseAt K C W H h s a ∧ (W.fnd p = none → Q .non H) ∧ ∀ b u, W.fnd p = some b → Dp K H (.ref u) (.tuple (rowsD b)) → Q (.ref u) H
def spNote : Sp := fun vs H Q _ => ∃ (W : Wd) (h : HA) (s : Hs) (a : Ab) (p : Str) (pre : List (Nat × Nat)) (x : Nat × Nat), vs = [.ref h.self, .str p] ∧ HouseAt K C W H h s a ∧ a.line = pre ++ [x] ∧ (∀ q, (W.zs q).length < 64) ∧ a.log.length ≤ 900000 ∧
  ∀ H' s', Stp K C W h H s a H' s' (a.put (noteE x.1 (a.noted p))) → Q .non H'
def spWhole : Sp := fun vs H Q _ => ∃ (W : Wd) (h : HA) (s : Hs) (a : Ab) (k : Nat) (o : Mo), vs = [.ref h.self, .ref o.m] ∧ HouseAt K C W H h s a ∧ s.ms[k]? = some o ∧ lot [] a ≤ 900000 ∧ ∀ H' s', Stp K C W h H s a H' s' (w.wh a k) → Q .non H'
def spOne (n : Nat) : Sp := fun vs H Q E => ∃ (W : Wd) (ps : List Str) (h : HA) (s : Hs) (a : Ab) (p : Str), vs = [.ref h.self, .str p] ∧ Pre K C st W ps w h H s a n ∧ WishM K C CF W h H s a Q E (oneF w W.fnd n a p)
def spTaken (n : Nat) : Sp := fun vs H Q E => ∃ (W : Wd) (ps : List Str) (h : HA) (s : Hs) (a : Ab) (p : Str), vs = [.ref h.self, .str p] ∧ Pre K C st W ps w h H s a n ∧ lot ps a + 4 ≤ 800000 ∧ WishM K C CF W h H s a Q E (w.tk (oneF w W.fnd n) a p)
def spDo (n d : Nat) : Sp := fun vs H Q E => ∃ (W : Wd) (ps : List Str) (h : HA) (s : Hs) (a : Ab) (v : V) (r : Row) (pre : List (Nat × Nat)) (x : Nat × Nat), vs = [.ref h.self, v] ∧ Pre K C st W ps w h H s a n ∧ a.line = pre ++ [x] ∧ Dp K H v (r.dat d) ∧ RowZ (W.zs (a.path x.1)) d r ∧ stage r ≤ st ∧ lot ps a + 6 * cntR d r ≤ 800000 ∧
  WishU K C CF W h H s a Q E (rowF w (oneF w W.fnd n) d r a)
def spDoBody (n : Nat) : Sp := fun vs H Q E => ∃ (W : Wd) (ps : List Str) (h : HA) (s : Hs) (a : Ab) (v : V) (b : List Row) (pre : List (Nat × Nat)) (x : Nat × Nat), vs = [.ref h.self, v] ∧ Pre K C st W ps w h H s a n ∧ a.line = pre ++ [x] ∧ Dp K H v (.tuple (rowsD b)) ∧
  (∀ r ∈ b, RowZ (W.zs (a.path x.1)) 3 r) ∧ (∀ r ∈ b, stage r ≤ st) ∧ cntsR 3 b ≤ 40 ∧ lot ps a + 6 * cntsR 3 b ≤ 800000 ∧ WishU K C CF W h H s a Q E (bodyF (rowF w (oneF w W.fnd n) 3) 0 b a)
end
/-- a body run with a module that stands -/
noncomputable def runBF (w : Way) (on : Ab → Str → Rs Nat) (k : Nat) (body : List Row) (a : Ab) : Rs Unit := match bodyF (rowF w on 3) 0 body ((a.papped (papE k a.line)).pushed k) with
  | (b, .ok _) => (b.fin k, .ok ())
  | (b, .error f) => (b.popped.put (failE k f), .error f)
def afterB (w : Way) (k : Nat) (p : Str) : Rs Unit → Rs Nat
  | (b, .ok _) => (w.wh b k, .ok k)
  | (b, .error f) => (((b.untab p).brok p k f).fated k, .error f)
theorem begin_by (w : Way) (on : Ab → Str → Rs Nat) (a : Ab) (p : Str) (body : List Row) : beginF w on a p body = afterB w a.qs.length p (runBF w on a.qs.length body ((a.opened p).put (beginE a.qs.length p))) := by
  unfold beginF runBF
  have e : ((((a.opened p).put (beginE a.qs.length p)).papped (papE a.qs.length ((a.opened p).put (beginE a.qs.length p)).line)).pushed a.qs.length) = a.begin p := rfl
  rw [e]
  rcases bodyF (rowF w on 3) 0 body (a.begin p) with ⟨b, m | m⟩ <;> rfl
section
variable (K : PySem.W.Frag) (C : Cl) (CF : Addr) (st : Nat) (w : Way)
def spRunBody (n : Nat) : Sp := fun vs H Q E => ∃ (W : Wd) (ps : List Str) (h : HA) (s : Hs) (a : Ab) (k : Nat) (o : Mo) (v : V) (b : List Row), vs = [.ref h.self, .ref o.m, v] ∧ Pre K C st W ps w h H s a n ∧ s.ms[k]? = some o ∧ Dp K H v (.tuple (rowsD b)) ∧
  (∀ r ∈ b, RowZ (W.zs (a.path k)) 3 r) ∧ (∀ r ∈ b, stage r ≤ st) ∧ cntsR 3 b ≤ 40 ∧ a.line.length + n ≤ 999 ∧ lot ps a + 250 ≤ 800000 ∧ WishU K C CF W h H s a Q E (runBF w (oneF w W.fnd n) k b a)
def spBegin (n : Nat) : Sp := fun vs H Q E => ∃ (W : Wd) (ps : List Str) (h : HA) (s : Hs) (a : Ab) (p : Str) (v : V) (b : List Row), vs = [.ref h.self, .str p, v] ∧ Pre K C st W ps w h H s a (n + 1) ∧ W.fnd p = some b ∧ getA a.tab p = none ∧ getA a.brk p = none ∧ Dp K H v (.tuple (rowsD b)) ∧
  WishM K C CF W h H s a Q E (beginF w (oneF w W.fnd n) a p b)
/-- Failed at d: its fault, its road -/
def FailedAt (H : Hp) (d : Addr) (f : PyData) (road : List PyData) : Prop := ∃ v l xs, H d = some (.xd [("road", .ref l), ("fault", v)]) ∧ Dp K H v f ∧ flatD f = true ∧ H l = some (.lst xs) ∧ DLst K H xs road
def spTake (CX : Addr) (n : Nat) : Sp := fun vs H Q E => ∃ (W : Wd) (ps : List Str) (h : HA) (s : Hs) (a : Ab) (p : Str), vs = [.ref h.self, .str p] ∧ isPathL (tl p) = true ∧ WOk st W ps w ∧ rem ps a.unbroken < n ∧ lot ps a.unbroken ≤ 700000 ∧ a.line.length + n ≤ 1000 ∧ HouseAt K C W H h s a ∧
  (∀ b m, w.tk (oneF w W.fnd n) a.unbroken p = (b, .ok m) → ∀ H' s', Stp K C W h H s a H' s' b → Q (.int ((m + 1 : Nat) : Int)) H') ∧
  ∀ b f, w.tk (oneF w W.fnd n) a.unbroken p = (b, .error f) → ∀ H' s' d, Stp K C W h H s a H' s' b → FailedAt K H' d f b.met → E (.ref CX) (some d) H'
end
section
variable {K : PySem.W.Frag} {C : Cl} {W : Wd} {H : Hp} {h : HA} {s : Hs} {a : Ab}
/-- the running body -/
theorem HouseAt.last (I : HouseAt K C W H h s a) {pre : List (Nat × Nat)} {x : Nat × Nat} (e : a.line = pre ++ [x]) : ∃ cp c o, s.cells = cp ++ [c] ∧ atI (s.cells.map V.ref) (-1) = some (.ref c) ∧ s.ms[x.1]? = some o ∧ H c = some (.lst [.ref o.m, .int (x.2 : Nat)]) := by
  obtain ⟨cp, c, e1, e2⟩ := I.cell e
  obtain ⟨o, eo⟩ := I.ms (I.ok.lk x (by rw [e]; exact mem_end))
  refine ⟨cp, c, o, e1, by rw [e1, List.map_append]; exact atI_last _ _, eo, ?_⟩
  rw [e2, ← mAt_of eo]
theorem top_of {a : Ab} {pre : List (Nat × Nat)} {x : Nat × Nat} (e : a.line = pre ++ [x]) : a.top = x := by unfold Ab.top; rw [e, List.getLast?_concat]; rfl
theorem HouseAt.tabGet (I : HouseAt K C W H h s a) (p : Str) : (getA a.tab p = none ∧ valV (tabV s.ms a.tab) (.inr p) = none) ∨ ∃ k o, getA a.tab p = some k ∧ s.ms[k]? = some o ∧ a.path k = p ∧ valV (tabV s.ms a.tab) (.inr p) = some (.ref o.m) := by
  have e : valV (tabV s.ms a.tab) (.inr p) = (getA a.tab p).map fun k => V.ref (mAt s.ms k) := val_map (g := fun k => V.ref (mAt s.ms k))
  cases h : getA a.tab p with
  | none => rw [h] at e; exact .inl ⟨rfl, e⟩
  | some k =>
    rw [h] at e
    have q := I.ok.tk _ (getA_mem h)
    have lk := (List.getElem?_eq_some_iff.mp q).1
    obtain ⟨o, eo⟩ := I.ms lk
    refine .inr ⟨k, o, rfl, eo, ?_, e.trans (by show some (V.ref (mAt s.ms k)) = _; rw [mAt_of eo])⟩
    show a.qs.getD k "" = p
    rw [List.getD_eq_getElem?_getD]
    have q : a.qs[k]? = some p := q
    rw [q]; rfl
theorem Stp.new1 (I : HouseAt K C W H h s a) {t : Addr} {o : HO} (n : H t = none) : Stp K C W h H s a (upd H t o) s a := Stp.same I (kp_new n)
end
end PH

/-! FHf: rows and finders that a house takes. -/
namespace PH
open PySem PySem.Spec PyProof.Rows L2 HL TL
abbrev NmOk (z : Str) : Prop := isNameL (tl z) = true
abbrev PthOk (z : Str) : Prop := isPathL (tl z) = true
theorem PthOk.len {z : Str} (h : PthOk z) : z.length ≤ 35 := by rw [len_tl]; exact (isPathL_facts h).2.1
def RowOk : Nat → Row → Prop
  | _, .set x n => NmOk x ∧ n.natAbs < 10 ^ 400
  | _, .now x r => NmOk x ∧ PthOk r
  | _, .take x p => NmOk x ∧ PthOk p
  | _, .draw x p y => NmOk x ∧ PthOk p ∧ NmOk y
  | _, .late x r => NmOk x ∧ PthOk r
  | _, .ask x r => NmOk x ∧ PthOk r
  | _, .note p => PthOk p
  | _, .fail w => NmOk w
  | d + 1, .tr a ws b => (∀ r ∈ a, RowOk d r) ∧ OkWords ws ∧ ∀ r ∈ b, RowOk d r
  | 0, .tr _ _ _ => False
theorem sD_tl (z : Str) : sD (tl z) = .str z := congrArg PyData.str (mkS_tl z)
theorem okflat_dat {d : Nat} {r : Row} (n : ∀ a ws b, r ≠ .tr a ws b) (h : RowOk d r) : OkFlat (r.dat d) := by
  have h3 : ∀ (w : Str) (x q : Str), w ∈ leadW → NmOk x → PthOk q → OkFlat (.tuple [S w, S x, S q]) := fun w x q hw a b => by
    have := OkFlat.lead (w := w) hw a b
    rwa [sD_tl, sD_tl] at this
  cases r with
  | set x m =>
    have : OkFlat (.tuple [.str "set", sD (tl x), .int m]) := by cases d <;> exact .set h.1 h.2
    rw [sD_tl] at this
    cases d <;> exact this
  | now x q => cases d <;> exact h3 _ _ _ (by simp [leadW]) h.1 h.2
  | take x q => cases d <;> exact h3 _ _ _ (by simp [leadW]) h.1 h.2
  | late x q => cases d <;> exact h3 _ _ _ (by simp [leadW]) h.1 h.2
  | ask x q => cases d <;> exact h3 _ _ _ (by simp [leadW]) h.1 h.2
  | draw x q y =>
    have : OkFlat (.tuple [.str "draw", sD (tl x), sD (tl q), sD (tl y)]) := by cases d <;> exact .draw h.1 h.2.1 h.2.2
    rw [sD_tl, sD_tl, sD_tl] at this
    cases d <;> exact this
  | note q =>
    have : OkFlat (.tuple [.str "note", sD (tl q)]) := by cases d <;> exact .note h
    rw [sD_tl] at this
    cases d <;> exact this
  | fail q =>
    have : OkFlat (.tuple [.str "fail", sD (tl q)]) := by cases d <;> exact .fail h
    rw [sD_tl] at this
    cases d <;> exact this
  | tr a ws b => exact absurd rfl (n a ws b)
theorem RowOk.dat : ∀ {d : Nat} {r : Row}, RowOk d r → OkRow d (r.dat d) ∧ cntRow d (r.dat d) = cntR d r := by
  intro d
  induction d with
  | zero =>
    intro r h
    have n : ∀ a ws b, r ≠ .tr a ws b := fun a ws b e => by subst e; exact h
    exact ⟨.flat (okflat_dat n h), by rw [cntRow_flat (okflat_dat n h)]; cases r <;> rfl⟩
  | succ d ih =>
    intro r h
    by_cases c : ∃ a ws b, r = .tr a ws b
    · obtain ⟨a, ws, b, rfl⟩ := c
      obtain ⟨ha, hw, hb⟩ := h
      have m : ∀ (l : List Row), (∀ r ∈ l, RowOk d r) → (∀ y ∈ l.map (Row.dat d), OkRow d y) ∧ cnts d (l.map (Row.dat d)) = (l.map (cntR d)).sum := fun l hl => by
        refine ⟨fun y hy => ?_, ?_⟩
        · obtain ⟨r, hr, rfl⟩ := List.mem_map.mp hy
          exact (ih (hl r hr)).1
        · unfold cnts
          rw [List.map_map]
          congr 1
          exact List.map_congr_left fun r hr => (ih (hl r hr)).2
      refine ⟨.tryr (m a ha).1 hw (m b hb).1, ?_⟩
      show cntRow (d + 1) (.tuple [.str "try", .tuple (a.map (Row.dat d)), .tuple (ws.map .str), .tuple (b.map (Row.dat d))]) = _
      rw [cntRow_try, (m a ha).2, (m b hb).2]
      rfl
    · have n : ∀ a ws b, r ≠ .tr a ws b := fun a ws b e => c ⟨a, ws, b, e⟩
      refine ⟨.flat (okflat_dat n h), ?_⟩
      rw [cntRow_flat (okflat_dat n h)]
      cases r <;> first | rfl | exact absurd rfl (n _ _ _)
structure BodyOk (b : List Row) : Prop where
  row : ∀ r ∈ b, RowOk 3 r
  cnt : cntsR 3 b ≤ 40
theorem BodyOk.cnts {b : List Row} (h : BodyOk b) : cnts 3 (rowsD b) = cntsR 3 b := by
  unfold HL.cnts cntsR
  rw [List.map_map]
  congr 1
  exact List.map_congr_left fun r hr => (h.row r hr).dat.2
theorem BodyOk.len {b : List Row} (h : BodyOk b) : b.length ≤ 40 := by
  have : ∀ l : List Row, l.length ≤ cntsR 3 l := fun l => by
    induction l with
    | nil => exact Nat.zero_le _
    | cons r t ih =>
      have := cnt_pos 3 r
      show t.length + 1 ≤ ((r :: t).map (cntR 3)).sum
      rw [List.map_cons, List.sum_cons]
      have : t.length ≤ (t.map (cntR 3)).sum := ih
      omega
  exact Nat.le_trans (this b) h.cnt
theorem BodyOk.good {b : List Row} (h : BodyOk b) : (∀ x ∈ rowsD b, RowG x) ∧ (rowsD b).length ≤ 100000 ∧ ((rowsD b).all (isRowX 3) && decide (HL.cnts 3 (rowsD b) ≤ 40)) = true := by
  have g : ∀ x ∈ rowsD b, RowG x ∧ isRowX 3 x = true := fun x hx => by
    have c := le_sum_mem (d := 3) hx
    rw [h.cnts] at c
    obtain ⟨r, hr, rfl⟩ := List.mem_map.mp hx
    exact (h.row r hr).dat.1.good (by have := h.cnt; omega)
  refine ⟨fun x hx => (g x hx).1, by rw [List.length_map]; have := h.len; omega, ?_⟩
  rw [h.cnts, decide_eq_true h.cnt, Bool.and_true, List.all_eq_true]
  exact fun x hx => (g x hx).2
/-! finders -/
abbrev Shelf := List (Str × List Row)
def fndS (ds : List Shelf) (p : Str) : Option (List Row) := ds.findSome? fun d => getA d p
structure ShelfOk (d : Shelf) : Prop where
  pth : ∀ e ∈ d, PthOk e.1 ∧ BodyOk e.2
  few : d.length ≤ 1000
structure ShR (K : PySem.W.Frag) (H : Hp) (x : Sf) (d : Shelf) : Prop where
  at_ : H x.a = some (.dK x.kvs)
  nm : NmR (fun b v => Dp K H v (.tuple (rowsD b))) d x.kvs
theorem ShR.tup {K : PySem.W.Frag} {H H' : Hp} {x x' : Sf} {d : Shelf} (h : ShR K H x d) (t : TupK H H') (e : H' x'.a = some (.dK x'.kvs)) (k : x'.kvs = x.kvs) : ShR K H' x' d := ⟨e, k ▸ h.nm.mono fun b v q => Dp.tups t _ _ (flat_rowsD b) q⟩
theorem fnd_at {K : PySem.W.Frag} {H : Hp} {p : Str} : ∀ {shs : List Sf} {ds : List Shelf}, Paired (ShR K H) shs ds → FndAt K H shs p (fndS ds p)
  | _, _, .nil => fun x hx => nomatch hx
  | x :: shs, d :: ds, .cons h t => by
    unfold fndS
    rw [List.findSome?_cons]
    rcases h.nm.get p with ⟨g, gv⟩ | ⟨b, v, g, gv, dv⟩
    · rw [g]
      have ih := fnd_at (p := p) t
      unfold fndS at ih
      dsimp only
      cases e : ds.findSome? fun d => getA d p with
      | none =>
        rw [e] at ih
        intro y hy
        rcases List.mem_cons.mp hy with rfl | hy
        · exact gv
        · exact ih y hy
      | some b =>
        rw [e] at ih
        obtain ⟨j, y, v, ej, ev, lt, dv⟩ := ih
        refine ⟨j + 1, y, v, ej, ev, fun i z hi ez => ?_, dv⟩
        cases i with
        | zero => cases ez; exact gv
        | succ i => exact lt i z (by omega) ez
    · rw [g]
      exact ⟨0, x, v, rfl, gv, fun i y hi => absurd hi (Nat.not_lt_zero _), dv⟩
theorem fndS_mem {ds : List Shelf} {p : Str} {b : List Row} (h : fndS ds p = some b) : ∃ d ∈ ds, (p, b) ∈ d := by
  unfold fndS at h
  obtain ⟨d, hd, e⟩ := List.exists_of_findSome?_eq_some h
  exact ⟨d, hd, getA_mem e⟩
/-! fields put one behind the other -/
theorem putF_len {f : Str} {v : V} : ∀ fs : List (Str × V), (putF f v fs).length ≤ fs.length + 1
  | [] => Nat.le_refl _
  | (g, x) :: r => by
    have := putF_len (f := f) (v := v) r
    show (if g = f then (g, v) :: r else (g, x) :: putF f v r).length ≤ _
    split
    · exact Nat.le_succ _
    · show _ + 1 ≤ _ + 1 + 1
      omega
structure NF (CR : Addr) (H1 H : Hp) (me dx : Addr) (fs : List (Str × V)) (cs : List (Addr × HO)) : Prop where
  ob : H me = some (.ins CR dx fs)
  kp : Kp [me] H1 H
  at_ : ∀ c ∈ cs, H c.1 = some c.2 ∧ H1 c.1 = none
  nd : (me :: cs.map (·.1)).Nodup
  ln : fs.length ≤ cs.length + 1
theorem NF.get {CR : Addr} {H1 H : Hp} {me dx : Addr} {fs : List (Str × V)} {cs : List (Addr × HO)} (N : NF CR H1 H me dx fs cs) {l : Addr} {o : HO} (hl : H l = none) : upd H l o me = some (.ins CR dx fs) := (upd_ne (ne_of_none N.ob hl)).trans N.ob
theorem NF.step {CR : Addr} {H1 H : Hp} {me dx : Addr} {fs : List (Str × V)} {cs : List (Addr × HO)} (N : NF CR H1 H me dx fs cs) {l : Addr} {o : HO} (hl : H l = none) (f : Str) :
    NF CR H1 (upd (upd H l o) me (.ins CR dx (putF f (.ref l) fs))) me dx (putF f (.ref l) fs) (cs ++ [(l, o)]) := by
  have ns : me ≠ l := ne_of_none N.ob hl
  have nd := List.nodup_cons.mp N.nd
  refine ⟨upd_same, (N.kp.upd_new hl).upd_mem List.mem_cons_self, fun c hc => ?_, ?_, ?_⟩
  · rcases List.mem_append.mp hc with hc | hc
    · obtain ⟨a1, a2⟩ := N.at_ c hc
      exact ⟨(upd_ne fun e => nd.1 (List.mem_map.mpr ⟨c, hc, e⟩)).trans ((upd_ne (ne_of_none a1 hl)).trans a1), a2⟩
    · rw [List.mem_singleton.mp hc]
      exact ⟨(upd_ne ns.symm).trans upd_same, N.kp.free ⟨ns.symm, trivial⟩ hl⟩
  · rw [List.map_append, List.nodup_cons, List.mem_append, not_or]
    refine ⟨⟨nd.1, fun m => ns (by simpa using m)⟩, List.nodup_append.mpr ⟨nd.2, List.pairwise_singleton _ _, fun a ha b hb e => ?_⟩⟩
    have hb : b = l := List.mem_singleton.mp hb
    subst hb
    subst e
    obtain ⟨c, hc, e⟩ := List.mem_map.mp ha
    have := (N.at_ c hc).1
    rw [e, hl] at this
    cases this
  · have := N.ln
    have := putF_len (f := f) (v := V.ref l) fs
    rw [List.length_append, List.length_singleton]
    omega
theorem valV_no : ∀ {kvs : List (Key × V)} {k : Key}, k ∉ kvs.map (·.1) → valV kvs k = none
  | [], _, _ => rfl
  | x :: r, k, n => (valV_neg fun e => n (by rw [List.map_cons, e]; exact List.mem_cons_self)).trans (valV_no fun h => n (by rw [List.map_cons]; exact List.mem_cons_of_mem _ h))
theorem mergeK_nd : ∀ (more kvs : List (Key × V)), ((kvs ++ more).map (·.1)).Nodup → mergeK kvs more = kvs ++ more
  | [], kvs, _ => (List.append_nil _).symm
  | x :: r, kvs, n => by
    have un : valV kvs x.1 = none := valV_no fun h => by
      rw [List.map_append, List.nodup_append] at n
      exact n.2.2 _ h _ (by rw [List.map_cons]; exact List.mem_cons_self) rfl
    show mergeK (putK kvs x.1 x.2) r = _
    rw [L2.putK_new _ un, mergeK_nd r _ (by rw [List.append_assoc]; exact n), List.append_assoc]
    rfl
abbrev tabN (a : Ab) : List (Key × V) := a.tab.map fun x => ((Sum.inr x.1 : Key), V.int ((x.2 + 1 : Nat) : Int))
def Ab0 : Ab := ⟨[], [], [], [], [], [], [], [], []⟩
end PH

/-! FHg: a walk's own dicts: its table, its names, what is under way. -/
namespace PH
open PySem PySem.Spec PyProof.Rows L2 HL TL
structure WA where
  O : Addr
  S : Addr
  tb : Addr
  nm : Addr
  un : Addr
def numsV : List Addr → Nat → List (Key × V)
  | [], _ => []
  | d :: r, i => (Sum.inl ((i + 1 : Nat) : Int), V.ref d) :: numsV r (i + 1)
theorem nums_val : ∀ (ds : List Addr) (i k : Nat), valV (numsV ds i) (.inl ((i + k + 1 : Nat) : Int)) = (ds[k]?).map V.ref
  | [], _, _ => rfl
  | d :: r, i, 0 => valV_pos rfl
  | d :: r, i, k + 1 => by
    have h := nums_val r (i + 1) k
    rw [show i + 1 + k + 1 = i + (k + 1) + 1 from by omega] at h
    exact (valV_neg fun e => by have := Sum.inl.inj e; omega).trans h
theorem nums_snoc : ∀ (ds : List Addr) (i : Nat) (d : Addr), numsV (ds ++ [d]) i = numsV ds i ++ [(Sum.inl ((i + ds.length + 1 : Nat) : Int), V.ref d)]
  | [], i, d => rfl
  | x :: r, i, d => by
    show _ :: numsV (r ++ [d]) (i + 1) = _
    rw [nums_snoc r (i + 1) d, List.length_cons, show i + (r.length + 1) + 1 = i + 1 + r.length + 1 from by omega]
    rfl
theorem nums_len : ∀ (ds : List Addr) (i : Nat), (numsV ds i).length = ds.length
  | [], _ => rfl
  | _ :: r, i => by show (numsV r (i + 1)).length + 1 = _; rw [nums_len r]; rfl
theorem nums_none (ds : List Addr) : valV (numsV ds 0) (.inl ((ds.length + 1 : Nat) : Int)) = none := by
  have := nums_val ds 0 ds.length
  rw [Nat.zero_add, List.getElem?_eq_none (Nat.le_refl _)] at this
  exact this
abbrev wF (h : WA) : List (Key × V) := [(.inr "stock", .ref h.S), (.inr "table", .ref h.tb), (.inr "names", .ref h.nm), (.inr "under", .ref h.un)]
abbrev nkv (zs : List (Str × Th)) : List (Key × V) := zs.map fun z => ((Sum.inr z.1 : Key), (fun _ => V.bl true : Th → V) z.2)
abbrev unO (a : Ab) (x : Nat × Nat) : HO := .lst [.int ((x.1 + 1 : Nat) : Int), .str (a.path x.1), .int (x.2 : Nat)]
abbrev wimg1 (h : WA) (ds us : List Addr) (s : MSt) : List (Addr × HO) := [(h.O, .dK (wF h)), (h.tb, .dK (tabN s.a)), (h.nm, .dK (numsV ds 0)), (h.un, .lst (us.map V.ref))]
abbrev wimgD (ds : List Addr) (nm : List (List (Str × Th))) : List (Addr × HO) := List.zipWith (fun d n => (d, HO.dK (nkv n))) ds nm
abbrev wimgU (us : List Addr) (a : Ab) (l : List (Nat × Nat)) : List (Addr × HO) := List.zipWith (fun u x => (u, unO a x)) us l
abbrev wimgF (fs : List (Addr × List V)) : List (Addr × HO) := fs.map fun x => (x.1, HO.lst x.2)
def wimg (h : WA) (ds us : List Addr) (s : MSt) (fs : List (Addr × List V)) : List (Addr × HO) := wimg1 h ds us s ++ (wimgD ds s.a.nm ++ (wimgU us s.a s.l ++ wimgF fs))
theorem wimg_soft {h : WA} {ds us : List Addr} {s : MSt} {fs : List (Addr × List V)} : ∀ x ∈ wimg h ds us s fs, Soft x.2 := fun x hx => by
  unfold wimg at hx
  rcases List.mem_append.mp hx with hx | hx
  · simp only [wimg1, List.mem_cons, List.not_mem_nil, or_false] at hx
    rcases hx with rfl | rfl | rfl | rfl <;> first | exact .lst _ | exact .dK _
  · rcases List.mem_append.mp hx with hx | hx
    · unfold wimgD at hx
      rw [← List.map_uncurry_zip_eq_zipWith] at hx
      obtain ⟨y, _, rfl⟩ := List.mem_map.mp hx
      exact .dK _
    · rcases List.mem_append.mp hx with hx | hx
      · unfold wimgU at hx
        rw [← List.map_uncurry_zip_eq_zipWith] at hx
        obtain ⟨y, _, rfl⟩ := List.mem_map.mp hx
        exact .lst _
      · obtain ⟨y, _, rfl⟩ := List.mem_map.mp hx
        exact .lst _
structure WkAt (H : Hp) (h : WA) (ds us : List Addr) (s : MSt) (fs : List (Addr × List V)) : Prop where
  own : Owns H (wimg h ds us s fs)
  dl : ds.length = s.a.qs.length
  nl : s.a.nm.length = s.a.qs.length
  ul : us.length = s.l.length
  lk : ∀ x ∈ s.l, x.1 < s.a.qs.length
  tk : ∀ x ∈ s.a.tab, x.2 < s.a.qs.length
abbrev wown (h : WA) (ds us : List Addr) (s : MSt) (fs : List (Addr × List V)) : List Addr := adr (wimg h ds us s fs)
structure WStp (h : WA) (H : Hp) (ds us : List Addr) (s : MSt) (fs : List (Addr × List V)) (H' : Hp) (ds' us' : List Addr) (s' : MSt) (fs' : List (Addr × List V)) : Prop where
  at_ : WkAt H' h ds' us' s' fs'
  kp : Kp (wown h ds us s fs) H H'
  new : ∀ x ∈ wown h ds' us' s' fs', x ∈ wown h ds us s fs ∨ H x = none
section
variable {H H1 H2 : Hp} {h : WA} {ds us ds1 us1 ds2 us2 : List Addr} {s s1 s2 : MSt} {fs fs1 fs2 : List (Addr × List V)}
theorem WkAt.alike (I : WkAt H h ds us s fs) {a : Ab} (e1 : a.tab = s.a.tab) (e2 : a.nm = s.a.nm) (e3 : a.qs = s.a.qs) : WkAt H h ds us ⟨a, s.l⟩ fs := by
  have e : wimg h ds us ⟨a, s.l⟩ fs = wimg h ds us s fs := by
    have p : ∀ k, a.path k = s.a.path k := fun k => by unfold Ab.path; rw [e3]
    have u : (fun (x : Nat × Nat) => unO a x) = fun x => unO s.a x := funext fun x => by unfold unO; rw [p]
    have u2 : (fun (u : Addr) (x : Nat × Nat) => (u, unO a x)) = fun u x => (u, unO s.a x) := funext fun w => funext fun x => by rw [congrFun u x]
    unfold wimg wimg1 wimgU wimgD tabN
    dsimp only
    rw [e1, e2, u2]
  exact ⟨e ▸ I.own, by rw [show (MSt.mk a s.l).a.qs = s.a.qs from e3]; exact I.dl, by rw [show (MSt.mk a s.l).a.nm = s.a.nm from e2, show (MSt.mk a s.l).a.qs = s.a.qs from e3]; exact I.nl, I.ul, fun x hx => by rw [show (MSt.mk a s.l).a.qs = s.a.qs from e3]; exact I.lk x hx, fun x hx => by
    rw [show (MSt.mk a s.l).a.qs = s.a.qs from e3]
    exact I.tk x (e1 ▸ hx)⟩
theorem WkAt.alike_own {a : Ab} (e1 : a.tab = s.a.tab) (e2 : a.nm = s.a.nm) (e3 : a.qs = s.a.qs) : wown h ds us ⟨a, s.l⟩ fs = wown h ds us s fs := by
  have e : wimg h ds us ⟨a, s.l⟩ fs = wimg h ds us s fs := by
    have p : ∀ k, a.path k = s.a.path k := fun k => by unfold Ab.path; rw [e3]
    have u : (fun (x : Nat × Nat) => unO a x) = fun x => unO s.a x := funext fun x => by unfold unO; rw [p]
    have u2 : (fun (u : Addr) (x : Nat × Nat) => (u, unO a x)) = fun u x => (u, unO s.a x) := funext fun w => funext fun x => by rw [congrFun u x]
    unfold wimg wimg1 wimgU wimgD tabN
    dsimp only
    rw [e1, e2, u2]
  exact congrArg adr e
theorem WStp.refl (I : WkAt H h ds us s fs) : WStp h H ds us s fs H ds us s fs := ⟨I, Kp.refl, fun x hx => .inl hx⟩
theorem WStp.tr (x : WStp h H ds us s fs H1 ds1 us1 s1 fs1) (y : WStp h H1 ds1 us1 s1 fs1 H2 ds2 us2 s2 fs2) : WStp h H ds us s fs H2 ds2 us2 s2 fs2 := by
  refine ⟨y.at_, x.kp.step y.kp x.new, fun z hz => ?_⟩
  rcases y.new z hz with e | e
  · exact x.new z e
  · by_cases c : z ∈ wown h ds us s fs
    · exact .inl c
    · exact .inr (x.kp.free (Nin.intro fun w hw q => c (q ▸ hw)) e)
theorem WStp.keep (I : WkAt H h ds us s fs) (x : WStp h H ds us s fs H1 ds1 us1 s1 fs1) : Keep H H1 := I.own.keep wimg_soft x.kp
theorem WkAt.kp (I : WkAt H h ds us s fs) {W : List Addr} (k : Kp W H H1) (n : ∀ x ∈ wown h ds us s fs, x ∉ W) : WkAt H1 h ds us s fs := ⟨I.own.kp k n, I.dl, I.nl, I.ul, I.lk, I.tk⟩
theorem WkAt.same (I : WkAt H h ds us s fs) (k : Kp [] H H1) : WkAt H1 h ds us s fs := I.kp k fun _ _ => List.not_mem_nil
theorem WStp.same (I : WkAt H h ds us s fs) (k : Kp [] H H1) : WStp h H ds us s fs H1 ds us s fs := ⟨I.same k, k.weak fun x hx => absurd hx List.not_mem_nil, fun x hx => .inl hx⟩
theorem WStp.alike (x : WStp h H ds us s fs H1 ds1 us1 s1 fs1) {a : Ab} (e1 : a.tab = s1.a.tab) (e2 : a.nm = s1.a.nm) (e3 : a.qs = s1.a.qs) : WStp h H ds us s fs H1 ds1 us1 ⟨a, s1.l⟩ fs1 :=
  ⟨x.at_.alike e1 e2 e3, x.kp, fun z hz => x.new z (by rw [WkAt.alike_own e1 e2 e3] at hz; exact hz)⟩
/-- one owned address is written -/
theorem WkAt.set (I : WkAt H h ds us s fs) {L1 L2 : List (Addr × HO)} {y : Addr} {o o' : HO} (e : wimg h ds us s fs = L1 ++ (y, o) :: L2) (e' : wimg h ds1 us1 s1 fs1 = L1 ++ (y, o') :: L2)
    (ok : Owns (upd H y o') (wimg h ds1 us1 s1 fs1) → WkAt (upd H y o') h ds1 us1 s1 fs1) : WStp h H ds us s fs (upd H y o') ds1 us1 s1 fs1 := by
  have m : y ∈ wown h ds us s fs := by
    show y ∈ (wimg h ds us s fs).map (·.1)
    rw [e, List.map_append]
    exact List.mem_append_right _ List.mem_cons_self
  refine ⟨ok (e' ▸ (I.own.eq e).set), kp_upd m, fun z hz => .inl ?_⟩
  have : z ∈ (wimg h ds1 us1 s1 fs1).map (·.1) := hz
  show z ∈ (wimg h ds us s fs).map (·.1)
  rw [e', List.map_append] at this
  rw [e, List.map_append]
  exact this
theorem WkAt.O (I : WkAt H h ds us s fs) : H h.O = some (.dK (wF h)) := I.own.at_ (h.O, .dK (wF h)) (by simp [wimg])
theorem WkAt.tb (I : WkAt H h ds us s fs) : H h.tb = some (.dK (tabN s.a)) := I.own.at_ (h.tb, .dK (tabN s.a)) (by simp [wimg])
theorem WkAt.nm (I : WkAt H h ds us s fs) : H h.nm = some (.dK (numsV ds 0)) := I.own.at_ (h.nm, .dK (numsV ds 0)) (by simp [wimg])
theorem WkAt.un (I : WkAt H h ds us s fs) : H h.un = some (.lst (us.map V.ref)) := I.own.at_ (h.un, .lst (us.map V.ref)) (by simp [wimg])
theorem WkAt.fd {f : Addr} {vs : List V} (I : WkAt H h ds us s [(f, vs)]) : H f = some (.lst vs) := I.own.at_ (f, .lst vs) (by simp [wimg])
/-- the names of the k-th -/
theorem WkAt.names (I : WkAt H h ds us s fs) {k : Nat} (l : k < s.a.qs.length) : ∃ d, ds[k]? = some d ∧ H d = some (.dK (nkv (s.a.names k))) := by
  have l1 : k < ds.length := by rw [I.dl]; exact l
  have l2 : k < s.a.nm.length := by rw [I.nl]; exact l
  refine ⟨ds[k], List.getElem?_eq_getElem l1, I.own.at_ (ds[k], .dK (nkv (s.a.names k))) ?_⟩
  unfold wimg
  refine List.mem_append_right _ (List.mem_append_left _ (List.mem_iff_getElem?.mpr ⟨k, ?_⟩))
  show (List.zipWith (fun d n => (d, HO.dK (nkv n))) ds s.a.nm)[k]? = _
  rw [List.getElem?_zipWith, List.getElem?_eq_getElem l1, List.getElem?_eq_getElem l2]
  unfold Ab.names
  rw [List.getD_eq_getElem?_getD, List.getElem?_eq_getElem l2]
  rfl
theorem un_snoc {us : List Addr} {a : Ab} {l : List (Nat × Nat)} (e : us.length = l.length) (u : Addr) (x : Nat × Nat) : wimgU (us ++ [u]) a (l ++ [x]) = wimgU us a l ++ [(u, unO a x)] := by
  unfold wimgU
  rw [List.zipWith_append e]
  rfl
/-- the last one under way -/
theorem WkAt.last (I : WkAt H h ds us s fs) {l : List (Nat × Nat)} {x : Nat × Nat} (e : s.l = l ++ [x]) : ∃ up u, us = up ++ [u] ∧ up.length = l.length ∧ H u = some (unO s.a x) := by
  obtain ⟨up, u, e1, e2⟩ := last_split (by rw [← e]; exact I.ul)
  refine ⟨up, u, e1, e2, I.own.at_ (u, _) ?_⟩
  unfold wimg
  refine List.mem_append_right _ (List.mem_append_right _ (List.mem_append_left _ ?_))
  rw [e1, e, un_snoc e2]
  exact mem_end
/-- its row anew -/
theorem WkAt.row (I : WkAt H h ds us s fs) {l : List (Nat × Nat)} {x : Nat × Nat} (e : s.l = l ++ [x]) {up : List Addr} {u : Addr} (eu : us = up ++ [u]) (r : Nat) : WStp h H ds us s fs (upd H u (unO s.a (x.1, r))) ds us ⟨s.a, l ++ [(x.1, r)]⟩ fs := by
  have e2 : up.length = l.length := by have := I.ul; rw [eu, e] at this; simpa using this
  refine I.set (L1 := wimg1 h ds us s ++ (wimgD ds s.a.nm ++ wimgU up s.a l)) (L2 := wimgF fs) (y := u) (o := unO s.a x) ?_ ?_ fun o => ⟨o, I.dl, I.nl, by rw [eu]; simp [e2], fun y hy => ?_, I.tk⟩
  · unfold wimg
    rw [e, eu, un_snoc e2]
    simp only [List.append_assoc, List.cons_append, List.nil_append]
  · unfold wimg
    dsimp only
    rw [eu, un_snoc e2]
    simp only [List.append_assoc, List.cons_append, List.nil_append]
  · rcases List.mem_append.mp hy with hy | hy
    · exact I.lk y (by rw [e]; exact List.mem_append_left _ hy)
    · rw [List.mem_singleton.mp hy]
      exact I.lk x (by rw [e]; exact mem_end)
/-- a name bound -/
theorem WkAt.bind (I : WkAt H h ds us s fs) {k : Nat} {d : Addr} (e : ds[k]? = some d) (z : Str) (t : Th) : WStp h H ds us s fs (upd H d (.dK (putK (nkv (s.a.names k)) (.inr z) (.bl true)))) ds us ⟨s.a.bind k z t, s.l⟩ fs := by
  have lk : k < s.a.nm.length := by have := (List.getElem?_eq_some_iff.mp e).1; rw [I.dl] at this; rw [I.nl]; exact this
  have en : s.a.nm[k]? = some (s.a.names k) := by unfold Ab.names; rw [List.getD_eq_getElem?_getD, List.getElem?_eq_getElem lk]; rfl
  obtain ⟨n1, n2, f1, f2, g1⟩ := set_split (y := putA (s.a.names k) z t) en
  obtain ⟨d1, d2, h1, _, g2⟩ := set_split (y := d) e
  rw [show putK (nkv (s.a.names k)) (.inr z) (.bl true) = nkv (putA (s.a.names k) z t) from put_map (g := fun _ => V.bl true) (t := t)]
  have ed : ∀ n, wimgD ds (n1 ++ n :: n2) = wimgD d1 n1 ++ (d, HO.dK (nkv n)) :: wimgD d2 n2 := fun n => by
    rw [h1]
    unfold wimgD
    rw [List.zipWith_append (by rw [g1, g2])]
    rfl
  refine I.set (L1 := wimg1 h ds us s ++ wimgD d1 n1) (L2 := wimgD d2 n2 ++ (wimgU us s.a s.l ++ wimgF fs)) (y := d) (o := .dK (nkv (s.a.names k))) ?_ ?_ fun o => ⟨o, I.dl, by show (s.a.nm.set k _).length = _; rw [List.length_set]; exact I.nl, I.ul, I.lk, I.tk⟩
  · unfold wimg
    rw [f1, ed]
    simp only [List.append_assoc, List.cons_append, List.nil_append]
  · unfold wimg
    show wimg1 h ds us _ ++ (wimgD ds (s.a.nm.set k _) ++ _) = _
    rw [f2, ed]
    simp only [List.append_assoc, List.cons_append, List.nil_append]
    rfl
/-- one more entry found -/
theorem WkAt.found {f : Addr} {vs : List V} (I : WkAt H h ds us s [(f, vs)]) (v : V) : WStp h H ds us s [(f, vs)] (upd H f (.lst (vs ++ [v]))) ds us s [(f, vs ++ [v])] := by
  refine I.set (L1 := wimg1 h ds us s ++ (wimgD ds s.a.nm ++ wimgU us s.a s.l)) (L2 := []) (y := f) (o := .lst vs) ?_ ?_ fun o => ⟨o, I.dl, I.nl, I.ul, I.lk, I.tk⟩ <;>
  · unfold wimg
    simp only [List.append_assoc]
    rfl
/-- the last one goes -/
theorem WkAt.pop (I : WkAt H h ds us s fs) {l : List (Nat × Nat)} {x : Nat × Nat} (e : s.l = l ++ [x]) {up : List Addr} {u : Addr} (eu : us = up ++ [u]) : WStp h H ds us s fs (upd H h.un (.lst (up.map V.ref))) ds up ⟨s.a, l⟩ fs := by
  have e2 : up.length = l.length := by have := I.ul; rw [eu, e] at this; simpa using this
  have m : h.un ∈ wown h ds us s fs := by simp [wown, wimg]
  have o1 : Owns (upd H h.un (.lst (up.map V.ref))) ((wimg1 h ds us s).take 3 ++ (h.un, .lst (up.map V.ref)) :: (wimgD ds s.a.nm ++ (wimgU us s.a s.l ++ wimgF fs))) := Owns.set (o := .lst (us.map V.ref)) I.own
  have o2 : Owns (upd H h.un (.lst (up.map V.ref))) (wimg1 h ds up ⟨s.a, l⟩ ++ (wimgD ds s.a.nm ++ wimgU up s.a l) ++ (u, unO s.a x) :: wimgF fs) := o1.eq (by
    rw [e, eu, un_snoc e2]
    simp only [List.append_assoc, List.cons_append, List.nil_append]
    rfl)
  refine ⟨⟨o2.del.eq (by unfold wimg; simp only [List.append_assoc]), I.dl, I.nl, e2, fun y hy => I.lk y (by rw [e]; exact List.mem_append_left _ hy), I.tk⟩, kp_upd m, fun z hz => .inl ?_⟩
  have : z ∈ (wimg h ds up ⟨s.a, l⟩ fs).map (·.1) := hz
  show z ∈ (wimg h ds us s fs).map (·.1)
  unfold wimg at this ⊢
  rw [e, eu, un_snoc e2]
  simp only [List.map_append, List.mem_append, List.map_cons, List.map_nil, List.mem_cons, List.not_mem_nil, or_false] at this ⊢
  rcases this with h1 | h1 | h1 | h1
  · exact .inl h1
  · exact .inr (.inl h1)
  · exact .inr (.inr (.inl (.inl h1)))
  · exact .inr (.inr (.inr h1))
/-- one more under way -/
theorem WkAt.push (I : WkAt H h ds us s fs) {u : Addr} {k : Nat} (n : H u = none) (lk : k < s.a.qs.length) : WStp h H ds us s fs (upd (upd H u (unO s.a (k, 0))) h.un (.lst ((us ++ [u]).map V.ref))) ds (us ++ [u]) ⟨s.a, s.l ++ [(k, 0)]⟩ fs := by
  have k1 : Kp [] H (upd H u (unO s.a (k, 0))) := kp_new n
  have I1 := I.same k1
  have nu : u ∉ wown h ds us s fs := I.own.new n
  have m : h.un ∈ wown h ds us s fs := by simp [wown, wimg]
  have o1 : Owns (upd (upd H u (unO s.a (k, 0))) h.un (.lst ((us ++ [u]).map V.ref))) ((wimg1 h ds us s).take 3 ++ (h.un, .lst ((us ++ [u]).map V.ref)) :: (wimgD ds s.a.nm ++ (wimgU us s.a s.l ++ wimgF fs))) := Owns.set (o := .lst (us.map V.ref)) I1.own
  have ne : u ≠ h.un := fun z => nu (z ▸ m)
  have e2 : (upd (upd H u (unO s.a (k, 0))) h.un (.lst ((us ++ [u]).map V.ref))) u = some (unO s.a (k, 0)) := (upd_ne ne).trans upd_same
  have o2 := Owns.ins (L1 := wimg1 h ds (us ++ [u]) ⟨s.a, s.l ++ [(k, 0)]⟩ ++ (wimgD ds s.a.nm ++ wimgU us s.a s.l)) (L2 := wimgF fs) (o1.eq (by simp only [List.append_assoc]; rfl)) e2 (fun hm => nu (by
    rw [adr, List.append_assoc, List.append_assoc] at hm
    exact hm))
  refine ⟨⟨o2.eq ?_, I.dl, I.nl, by show (us ++ [u]).length = (s.l ++ [(k, 0)]).length; rw [List.length_append, List.length_append, I.ul]; rfl, fun x hx => ?_, I.tk⟩, (k1.weak fun x hx => absurd hx List.not_mem_nil).step (kp_upd (W := wown h ds us s fs) m) fun x hx => .inl hx, fun z hz => ?_⟩
  · unfold wimg
    dsimp only
    rw [un_snoc I.ul]
    simp only [List.append_assoc, List.cons_append, List.nil_append]
  · rcases List.mem_append.mp hx with hx | hx
    · exact I.lk x hx
    · rw [List.mem_singleton.mp hx]; exact lk
  · have : z ∈ (wimg h ds (us ++ [u]) ⟨s.a, s.l ++ [(k, 0)]⟩ fs).map (·.1) := hz
    unfold wimg at this
    dsimp only at this
    rw [un_snoc I.ul] at this
    by_cases q : z = u
    · exact .inr (q ▸ n)
    · refine .inl ?_
      show z ∈ (wimg h ds us s fs).map (·.1)
      unfold wimg
      simp only [List.map_append, List.mem_append, List.map_cons, List.map_nil, List.mem_cons, List.not_mem_nil, or_false] at this ⊢
      rcases this with h1 | h1 | ⟨h1 | h1⟩ | h1
      · exact .inl h1
      · exact .inr (.inl h1)
      · exact .inr (.inr (.inl h1))
      · exact absurd h1 q
      · exact .inr (.inr (.inr h1))
end
end PH

/-! FHh: a walk begins one. -/
namespace PH
open PySem PySem.Spec PyProof.Rows L2 HL TL
theorem path_opened {a : Ab} {p : Str} {k : Nat} (l : k < a.qs.length) : (a.opened p).path k = a.path k := getD_app _ _ _ _ (by omega)
section
variable {H H1 H2 : Hp} {h : WA} {ds us ds1 us1 ds2 us2 : List Addr} {s s1 s2 : MSt} {fs fs1 fs2 : List (Addr × List V)}
theorem wimgU_opened {a : Ab} {p : Str} : ∀ {us : List Addr} {l : List (Nat × Nat)}, (∀ x ∈ l, x.1 < a.qs.length) → wimgU us (a.opened p) l = wimgU us a l
  | [], _, _ => rfl
  | _ :: _, [], _ => rfl
  | u :: r, x :: t, h => by
    unfold wimgU
    rw [List.zipWith_cons_cons, List.zipWith_cons_cons]
    congr 1
    · unfold unO
      rw [path_opened (h x List.mem_cons_self)]
    · exact wimgU_opened (us := r) (l := t) fun y hy => h y (List.mem_cons_of_mem _ hy)
theorem WkAt.opened (I : WkAt H h ds us s fs) {d : Addr} {p : Str} (nd : H d = none) (np : getA s.a.tab p = none) :
    WStp h H ds us s fs (upd (upd (upd H d (.dK [])) h.nm (.dK (putK (numsV ds 0) (.inl ((ds.length + 1 : Nat) : Int)) (.ref d)))) h.tb (.dK (putK (tabN s.a) (.inr p) (.int ((ds.length + 1 : Nat) : Int))))) (ds ++ [d]) us ⟨s.a.opened p, s.l⟩ fs := by
  have k1 : Kp [] H (upd H d (.dK [])) := kp_new nd
  have I1 := I.same k1
  have nc : d ∉ wown h ds us s fs := I.own.new nd
  have m1 : h.nm ∈ wown h ds us s fs := by simp [wown, wimg]
  have m2 : h.tb ∈ wown h ds us s fs := by simp [wown, wimg]
  rw [L2.putK_new _ (nums_none ds), L2.putK_new _ (valV_no fun hm => getA_none.mp np (by
    rw [List.map_map] at hm
    obtain ⟨x, hx, e⟩ := List.mem_map.mp hm
    exact List.mem_map.mpr ⟨x, hx, Sum.inr.inj e⟩)), I.dl]
  have en : numsV ds 0 ++ [((Sum.inl ((s.a.qs.length + 1 : Nat) : Int) : Key), V.ref d)] = numsV (ds ++ [d]) 0 := by rw [nums_snoc, Nat.zero_add, I.dl]
  have et : tabN s.a ++ [((Sum.inr p : Key), V.int ((s.a.qs.length + 1 : Nat) : Int))] = tabN (s.a.opened p) := by
    unfold tabN
    show _ = (s.a.tab ++ [(p, s.a.qs.length)]).map _
    rw [List.map_append]
    rfl
  rw [en, et]
  have ed0 : upd H d (.dK []) d = some (.dK []) := upd_same
  generalize upd H d (.dK []) = Hm at *
  have o1 : Owns (upd Hm h.nm (.dK (numsV (ds ++ [d]) 0))) ((wimg1 h ds us s).take 2 ++ (h.nm, .dK (numsV (ds ++ [d]) 0)) :: ((wimg1 h ds us s).drop 3 ++ (wimgD ds s.a.nm ++ (wimgU us s.a s.l ++ wimgF fs)))) := Owns.set (o := .dK (numsV ds 0)) I1.own
  have o2 : Owns (upd (upd Hm h.nm (.dK (numsV (ds ++ [d]) 0))) h.tb (.dK (tabN (s.a.opened p)))) ((wimg1 h ds us s).take 1 ++ (h.tb, .dK (tabN (s.a.opened p))) :: ((h.nm, .dK (numsV (ds ++ [d]) 0)) :: ((wimg1 h ds us s).drop 3 ++ (wimgD ds s.a.nm ++ (wimgU us s.a s.l ++ wimgF fs))))) :=
    Owns.set (L1 := (wimg1 h ds us s).take 1) (o := .dK (tabN s.a)) o1
  have ed : (upd (upd Hm h.nm (.dK (numsV (ds ++ [d]) 0))) h.tb (.dK (tabN (s.a.opened p)))) d = some (.dK []) :=
    (upd_ne fun z => nc (by rw [z]; exact m2)).trans ((upd_ne fun z => nc (by rw [z]; exact m1)).trans ed0)
  have o3 := Owns.ins (L1 := wimg1 h (ds ++ [d]) us ⟨s.a.opened p, s.l⟩ ++ wimgD ds s.a.nm) (L2 := wimgU us s.a s.l ++ wimgF fs) (o2.eq (by simp only [List.append_assoc]; rfl)) ed (fun hm => nc (by
    rw [adr, List.append_assoc] at hm
    exact hm))
  have eD : wimgD (ds ++ [d]) (s.a.nm ++ [[]]) = wimgD ds s.a.nm ++ [(d, HO.dK [])] := by
    unfold wimgD
    rw [List.zipWith_append (by rw [I.dl, I.nl])]
    rfl
  have eI : wimg h (ds ++ [d]) us ⟨s.a.opened p, s.l⟩ fs = wimg1 h (ds ++ [d]) us ⟨s.a.opened p, s.l⟩ ++ (wimgD ds s.a.nm ++ ((d, HO.dK []) :: (wimgU us s.a s.l ++ wimgF fs))) := by
    unfold wimg
    show _ ++ (wimgD (ds ++ [d]) (s.a.nm ++ [[]]) ++ (wimgU us (s.a.opened p) s.l ++ _)) = _
    rw [eD, wimgU_opened (us := us) I.lk]
    simp only [List.append_assoc, List.cons_append, List.nil_append]
  refine ⟨⟨o3.eq (by rw [eI]; simp only [List.append_assoc]), ?_, ?_, I.ul, fun x hx => ?_, fun x hx => ?_⟩, ((k1.weak fun x hx => absurd hx List.not_mem_nil).step (kp_upd (W := wown h ds us s fs) m1) fun x hx => .inl hx).step (kp_upd (W := wown h ds us s fs) m2) fun x hx => .inl hx, fun z hz => ?_⟩
  · show (ds ++ [d]).length = (s.a.qs ++ [p]).length
    rw [List.length_append, List.length_append, I.dl]; rfl
  · show (s.a.nm ++ [[]]).length = (s.a.qs ++ [p]).length
    rw [List.length_append, List.length_append, I.nl]; rfl
  · show x.1 < (s.a.qs ++ [p]).length
    have := I.lk x hx
    rw [List.length_append]; omega
  · show x.2 < (s.a.qs ++ [p]).length
    rw [List.length_append, List.length_singleton]
    rcases List.mem_append.mp hx with hx | hx
    · have := I.tk x hx; omega
    · rw [List.mem_singleton.mp hx]; exact Nat.lt_succ_self _
  · by_cases q : z = d
    · exact .inr (q ▸ nd)
    · have : z ∈ adr (wimg h (ds ++ [d]) us ⟨s.a.opened p, s.l⟩ fs) := hz
      rw [eI] at this
      refine .inl ?_
      show z ∈ (wimg h ds us s fs).map (·.1)
      unfold wimg
      simp only [adr, List.map_append, List.mem_append, List.map_cons, List.map_nil, List.mem_cons, List.not_mem_nil, or_false] at this ⊢
      rcases this with h1 | h1 | h1 | h1
      · exact .inl h1
      · exact .inr (.inl h1)
      · exact absurd h1 q
      · exact .inr (.inr h1)
section
variable (h : WA)
theorem vW_S : valV (wF h) (.inr "stock") = some (.ref h.S) := valV_pos rfl
theorem vW_tb : valV (wF h) (.inr "table") = some (.ref h.tb) := (valV_neg fun e => absurd (Sum.inr.inj e) (by decide +kernel)).trans (valV_pos rfl)
theorem vW_nm : valV (wF h) (.inr "names") = some (.ref h.nm) := (valV_neg fun e => absurd (Sum.inr.inj e) (by decide +kernel)).trans ((valV_neg fun e => absurd (Sum.inr.inj e) (by decide +kernel)).trans (valV_pos rfl))
theorem vW_un : valV (wF h) (.inr "under") = some (.ref h.un) := (valV_neg fun e => absurd (Sum.inr.inj e) (by decide +kernel)).trans ((valV_neg fun e => absurd (Sum.inr.inj e) (by decide +kernel)).trans ((valV_neg fun e => absurd (Sum.inr.inj e) (by decide +kernel)).trans (valV_pos rfl)))
end
theorem WkAt.n4 (I : WkAt H h ds us s fs) : [h.O, h.tb, h.nm, h.un].Nodup := by
  have := I.own.nd
  unfold wimg at this
  rw [List.map_append] at this
  exact (List.nodup_append.mp this).1
theorem tabN_val (a : Ab) (p : Str) : valV (tabN a) (.inr p) = (getA a.tab p).map fun k => V.int ((k + 1 : Nat) : Int) := val_map (g := fun k => V.int ((k + 1 : Nat) : Int))
theorem WkAt.tabk (I : WkAt H h ds us s fs) {p : Str} {k : Nat} (e : getA s.a.tab p = some k) : k < s.a.qs.length := I.tk _ (getA_mem e)
theorem s_getI {R : V → Prop} {H : Hp} {a : Addr} {kvs : List (Key × V)} {i : Int} {v : V} (h : H a = some (.dK kvs)) (e : valV kvs (.inl i) = some v) (q : R v) : ∃ a' v, V.ref a = .ref a' ∧ DGet H a' (.int i) (some v) ∧ R v := ⟨a, v, rfl, e ▸ DGet.k (k := Sum.inl i) h, q⟩
theorem s_putI {v : V} {H : Hp} {a : Addr} {kvs : List (Key × V)} {i : Int} {P : Hp → Prop} (h : H a = some (.dK kvs)) (l : kvs.length < sizeLine) (q : P (upd H a (.dK (putK kvs (.inl i) v)))) : ∃ a' H4, V.ref a = .ref a' ∧ DPut H a' (.int i) v H4 ∧ P H4 := ⟨a, _, rfl, DPut.k (k := Sum.inl i) h l, q⟩
end
end PH

/-! FHi: what holds at each step of a walk. -/
namespace PH
open PySem PySem.Spec PyProof.Rows L2 HL TL
/-- a row that can not fail, its names among zs -/
def MildZ (zs : List Str) (fnd : Str → Option (List Row)) : Row → Prop
  | .set x _ => x ∈ zs
  | .note _ => True
  | .take x p => x ∈ zs ∧ ∃ b, fnd p = some b
  | _ => False
theorem MildZ.mild {zs : List Str} {fnd : Str → Option (List Row)} {r : Row} (h : MildZ zs fnd r) : Mild fnd r := by
  cases r <;> first | exact h.elim | exact trivial | exact h.2
structure MInv (zs : List Str) (fnd : Str → Option (List Row)) (s : MSt) : Prop where
  kz : ∀ j, ∀ z ∈ (s.a.names j).map (·.1), z ∈ zs
  kn : ∀ j, ((s.a.names j).map (·.1)).Nodup
  tq : s.a.tab.map (·.1) = s.a.qs
  tk : ∀ x ∈ s.a.tab, s.a.qs[x.2]? = some x.1
  qn : s.a.qs.Nodup
  qb : ∀ q ∈ s.a.qs, ∃ b, fnd q = some b
  nl : s.a.nm.length = s.a.qs.length
  ln : (s.l.map (·.1)).Nodup
  lk : ∀ x ∈ s.l, x.1 < s.a.qs.length
  lr : ∀ x ∈ s.l, x.2 ≤ (bdOf fnd (s.a.path x.1)).length
  lt : ∀ x ∈ s.l.dropLast, 0 < x.2 ∧ ∃ z p, (bdOf fnd (s.a.path x.1))[x.2 - 1]? = some (.take z p)
section
variable {zs : List Str} {fnd : Str → Option (List Row)} {s : MSt}
theorem MInv.bind (I : MInv zs fnd s) {k : Nat} (l : k < s.a.qs.length) {z : Str} (hz : z ∈ zs) (t : Th) : MInv zs fnd ⟨s.a.bind k z t, s.l⟩ := by
  have nb := fun j => names_bind s.a k z t j (by rw [I.nl]; exact l)
  refine ⟨fun j y hy => ?_, fun j => ?_, I.tq, I.tk, I.qn, I.qb, by show (s.a.nm.set k _).length = _; rw [List.length_set]; exact I.nl, I.ln, I.lk, I.lr, I.lt⟩
  · have hy : y ∈ ((s.a.bind k z t).names j).map (·.1) := hy
    rw [nb] at hy
    split at hy
    · rw [putA_keys] at hy
      split at hy
      · exact I.kz _ y hy
      · rcases List.mem_append.mp hy with hy | hy
        · exact I.kz _ y hy
        · rw [List.mem_singleton.mp hy]; exact hz
    · exact I.kz _ y hy
  · show (((s.a.bind k z t).names j).map (·.1)).Nodup
    rw [nb]
    split
    · exact putA_nd (I.kn k)
    · exact I.kn j
theorem MInv.alike (I : MInv zs fnd s) {a : Ab} (e1 : a.tab = s.a.tab) (e2 : a.nm = s.a.nm) (e3 : a.qs = s.a.qs) : MInv zs fnd ⟨a, s.l⟩ := by
  have p : ∀ k, a.path k = s.a.path k := fun k => by unfold Ab.path; rw [e3]
  have n : ∀ k, a.names k = s.a.names k := fun k => by unfold Ab.names; rw [e2]
  exact ⟨fun j => by rw [show (MSt.mk a s.l).a.names j = _ from n j]; exact I.kz j, fun j => by rw [show (MSt.mk a s.l).a.names j = _ from n j]; exact I.kn j, by show a.tab.map _ = a.qs; rw [e1, e3]; exact I.tq, fun x hx => by show a.qs[x.2]? = _; rw [e3]; exact I.tk x (e1 ▸ hx), by show a.qs.Nodup; rw [e3]; exact I.qn,
    fun q hq => I.qb q (e3 ▸ hq), by show a.nm.length = a.qs.length; rw [e2, e3]; exact I.nl, I.ln, fun x hx => by show x.1 < a.qs.length; rw [e3]; exact I.lk x hx, fun x hx => by show _ ≤ (bdOf fnd (a.path x.1)).length; rw [p]; exact I.lr x hx, fun x hx => by show _ ∧ ∃ z q, (bdOf fnd (a.path x.1))[x.2 - 1]? = _; rw [p]; exact I.lt x hx⟩
theorem getA_qs (I : MInv zs fnd s) {p : Str} (h : getA s.a.tab p = none) : p ∉ s.a.qs := by rw [← I.tq]; exact getA_none.mp h
theorem MInv.begin (I : MInv zs fnd s) {p : Str} (h : getA s.a.tab p = none) (b : ∃ b, fnd p = some b) (ll : ∀ x ∈ s.l, 0 < x.2 ∧ ∃ z q, (bdOf fnd (s.a.path x.1))[x.2 - 1]? = some (.take z q)) : MInv zs fnd ⟨s.a.begin p, s.l ++ [(s.a.qs.length, 0)]⟩ := by
  have nq := getA_qs I h
  have nm : ∀ j, (s.a.begin p).names j = s.a.names j ∨ (s.a.begin p).names j = [] := fun j => by
    unfold Ab.names
    show (s.a.nm ++ [[]]).getD j [] = _ ∨ (s.a.nm ++ [[]]).getD j [] = _
    by_cases c : j = s.a.nm.length
    · exact .inr (by rw [c]; exact getD_last _ _ _)
    · exact .inl (getD_app _ _ _ _ c)
  have pq : ∀ x ∈ s.l, (s.a.begin p).path x.1 = s.a.path x.1 := fun x hx => getD_app _ _ _ _ (by have := I.lk x hx; omega)
  refine ⟨fun j z hz => ?_, fun j => ?_, ?_, fun x hx => ?_, ?_, fun q hq => ?_, ?_, ?_, fun x hx => ?_, fun x hx => ?_, fun x hx => ?_⟩
  · have hz : z ∈ ((s.a.begin p).names j).map (·.1) := hz
    rcases nm j with e | e
    · rw [e] at hz; exact I.kz j z hz
    · rw [e] at hz; cases hz
  · show (((s.a.begin p).names j).map (·.1)).Nodup
    rcases nm j with e | e
    · rw [e]; exact I.kn j
    · rw [e]; exact List.nodup_nil
  · show (s.a.tab ++ [(p, s.a.qs.length)]).map (fun x => x.1) = s.a.qs ++ [p]
    rw [List.map_append, I.tq]; rfl
  · show (s.a.qs ++ [p])[x.2]? = some x.1
    rcases List.mem_append.mp hx with hx | hx
    · have := I.tk x hx
      rw [List.getElem?_append_left (List.getElem?_eq_some_iff.mp this).1]; exact this
    · rw [List.mem_singleton.mp hx, List.getElem?_append_right (Nat.le_refl _), Nat.sub_self]; rfl
  · show (s.a.qs ++ [p]).Nodup
    exact List.nodup_append.mpr ⟨I.qn, List.pairwise_singleton _ _, fun x hx y hy e => nq (by rw [List.mem_singleton.mp hy] at e; exact e ▸ hx)⟩
  · rcases List.mem_append.mp (show q ∈ s.a.qs ++ [p] from hq) with hq | hq
    · exact I.qb q hq
    · rw [List.mem_singleton.mp hq]; exact b
  · show (s.a.nm ++ [[]]).length = (s.a.qs ++ [p]).length
    rw [List.length_append, List.length_append, I.nl]; rfl
  · show ((s.l ++ [(s.a.qs.length, 0)]).map (fun x : Nat × Nat => x.1)).Nodup
    rw [List.map_append]
    refine List.nodup_append.mpr ⟨I.ln, List.pairwise_singleton _ _, fun x hx y hy e => ?_⟩
    obtain ⟨u, hu, rfl⟩ := List.mem_map.mp hx
    have := I.lk u hu
    rw [List.mem_singleton.mp hy] at e
    have e : u.1 = s.a.qs.length := e
    omega
  · show x.1 < (s.a.qs ++ [p]).length
    rw [List.length_append, List.length_singleton]
    rcases List.mem_append.mp hx with hx | hx
    · have := I.lk x hx; omega
    · rw [List.mem_singleton.mp hx]; exact Nat.lt_succ_self _
  · show x.2 ≤ (bdOf fnd ((s.a.begin p).path x.1)).length
    rcases List.mem_append.mp hx with hx | hx
    · rw [pq x hx]; exact I.lr x hx
    · rw [List.mem_singleton.mp hx]; exact Nat.zero_le _
  · have hx : x ∈ (s.l ++ [(s.a.qs.length, 0)]).dropLast := hx
    rw [List.dropLast_concat] at hx
    show 0 < x.2 ∧ ∃ z q, (bdOf fnd ((s.a.begin p).path x.1))[x.2 - 1]? = _
    rw [pq x hx]
    exact ll x hx
theorem MInv.line (I : MInv zs fnd s) {l : List (Nat × Nat)} {x : Nat × Nat} (e : s.l = l ++ [x]) {i : Nat} (hi : i ≤ (bdOf fnd (s.a.path x.1)).length) : MInv zs fnd ⟨s.a, l ++ [(x.1, i)]⟩ := by
  have ed : s.l.dropLast = l := by rw [e, List.dropLast_concat]
  refine ⟨I.kz, I.kn, I.tq, I.tk, I.qn, I.qb, I.nl, ?_, fun y hy => ?_, fun y hy => ?_, fun y hy => ?_⟩
  · have := I.ln
    rw [e, List.map_append] at this
    show ((l ++ [(x.1, i)]).map (·.1)).Nodup
    rw [List.map_append]
    exact this
  · rcases List.mem_append.mp hy with hy | hy
    · exact I.lk y (by rw [e]; exact List.mem_append_left _ hy)
    · rw [List.mem_singleton.mp hy]; exact I.lk x (by rw [e]; exact mem_end)
  · rcases List.mem_append.mp hy with hy | hy
    · exact I.lr y (by rw [e]; exact List.mem_append_left _ hy)
    · rw [List.mem_singleton.mp hy]; exact hi
  · have hy : y ∈ (l ++ [(x.1, i)]).dropLast := hy
    rw [List.dropLast_concat] at hy
    exact I.lt y (by rw [ed]; exact hy)
theorem MInv.pop (I : MInv zs fnd s) {l : List (Nat × Nat)} {x : Nat × Nat} (e : s.l = l ++ [x]) : MInv zs fnd ⟨s.a, l⟩ := by
  have ed : s.l.dropLast = l := by rw [e, List.dropLast_concat]
  refine ⟨I.kz, I.kn, I.tq, I.tk, I.qn, I.qb, I.nl, ?_, fun y hy => I.lk y (by rw [e]; exact List.mem_append_left _ hy), fun y hy => I.lr y (by rw [e]; exact List.mem_append_left _ hy), fun y hy => I.lt y (by rw [ed]; exact List.dropLast_subset _ hy)⟩
  have := I.ln
  rw [e, List.map_append, List.nodup_append] at this
  exact this.1
/-- each step keeps it -/
theorem MInv.step (I : MInv zs fnd s) (ml : ∀ p b, fnd p = some b → ∀ r ∈ b, MildZ zs fnd r) (ne : s.l ≠ []) : MInv zs fnd (stepM (bdOf fnd) s) := by
  obtain ⟨a, l0⟩ := s
  rcases List.eq_nil_or_concat l0 with e | ⟨l, x, e⟩
  · exact absurd e ne
  rw [List.concat_eq_append] at e
  subst e
  obtain ⟨k, i⟩ := x
  have lk := I.lk (k, i) mem_end
  have lr := I.lr (k, i) mem_end
  have lk : k < a.qs.length := lk
  have lr : i ≤ (bdOf fnd (a.path k)).length := lr
  have row : ∀ j, j < (bdOf fnd (a.path k)).length → ∀ r, (bdOf fnd (a.path k))[j]? = some r → MildZ zs fnd r := fun j hj r er => by
    have mq : a.path k ∈ a.qs := by unfold Ab.path; rw [List.getD_eq_getElem?_getD, List.getElem?_eq_getElem lk]; exact List.getElem_mem lk
    obtain ⟨b, eb⟩ := I.qb _ mq
    have : bdOf fnd (a.path k) = b := by unfold bdOf; rw [eb]; rfl
    rw [this] at er
    exact ml _ b eb r (List.mem_of_getElem? er)
  by_cases c : i = (bdOf fnd (a.path k)).length
  · rw [step_end c]
    have J := (I.pop (l := l) rfl).alike (a := a.fin k) rfl rfl rfl
    unfold endM
    rcases List.eq_nil_or_concat l with e | ⟨pre, y, e⟩
    · subst e
      exact J
    · rw [List.concat_eq_append] at e
      subst e
      rw [List.getLast?_concat]
      dsimp only
      obtain ⟨y0, z, p, ez⟩ := I.lt y (by show y ∈ (pre ++ [y] ++ [(k, i)]).dropLast; rw [List.dropLast_concat]; exact mem_end)
      have ez : (bdOf fnd (a.path y.1))[y.2 - 1]? = some (.take z p) := ez
      rw [List.getD_eq_getElem?_getD, ez]
      have ly : y.1 < a.qs.length := I.lk y (List.mem_append_left _ mem_end)
      refine J.bind (k := y.1) ly (z := z) ?_ (.mod k)
      have mq : a.path y.1 ∈ a.qs := by unfold Ab.path; rw [List.getD_eq_getElem?_getD, List.getElem?_eq_getElem ly]; exact List.getElem_mem ly
      obtain ⟨b, eb⟩ := I.qb _ mq
      have e2 : bdOf fnd (a.path y.1) = b := by unfold bdOf; rw [eb]; rfl
      rw [e2] at ez
      exact (ml _ b eb _ (List.mem_of_getElem? ez)).1
  · have li : i < (bdOf fnd (a.path k)).length := by omega
    rw [step_row li]
    have er := List.getElem?_eq_getElem li
    rw [List.getD_eq_getElem?_getD, er, Option.getD_some]
    generalize hr : (bdOf fnd (a.path k))[i] = r at er
    have mr := row i li r er
    have J := (I.line (l := l) (x := (k, i)) rfl (i := i + 1) (by show i + 1 ≤ (bdOf fnd (a.path k)).length; omega)).alike (a := a.row i) rfl rfl rfl
    cases r with
    | set x m => exact J.bind (k := k) lk mr (.num m)
    | note p => exact J.alike (a := (a.row i).put _) rfl rfl rfl
    | take x p =>
      show MInv zs fnd (match getA (a.row i).tab p with | some m => MSt.mk (((a.row i).put (haveE m)).bind k x (.mod m)) _ | none => ⟨(a.row i).begin p, _⟩)
      cases g : getA (a.row i).tab p with
      | some m => exact (J.alike (a := (a.row i).put (haveE m)) rfl rfl rfl).bind (k := k) lk mr.1 (.mod m)
      | none =>
        refine J.begin g mr.2 fun y hy => ?_
        rcases List.mem_append.mp hy with hy | hy
        · exact I.lt y (by show y ∈ (l ++ [(k, i)]).dropLast; rw [List.dropLast_concat]; exact hy)
        · rw [List.mem_singleton.mp hy]
          exact ⟨Nat.succ_pos _, x, p, er⟩
    | _ => exact mr.elim
theorem rowM_log (r : Row) (k : Nat) (a : Ab) (l : List (Nat × Nat)) : a.log.length ≤ (rowM r k a l).a.log.length := by
  cases r with
  | note p => show _ ≤ (a.log ++ [_]).length; rw [List.length_append]; omega
  | take x p =>
    show _ ≤ (match getA a.tab p with | some m => MSt.mk ((a.put (haveE m)).bind k x (.mod m)) l | none => ⟨a.begin p, _⟩).a.log.length
    split
    · show _ ≤ (a.log ++ [_]).length; rw [List.length_append]; omega
    · show _ ≤ (a.log ++ [_]).length; rw [List.length_append]; omega
  | _ => exact Nat.le_refl _
theorem go_log {bd : Str → List Row} {n : Nat} {s t : MSt} (h : Go bd n s t) : s.a.log.length ≤ t.a.log.length := by
  induction h with
  | nil => exact Nat.le_refl _
  | cons ne _ ih =>
    refine Nat.le_trans ?_ ih
    unfold stepM
    split
    · exact Nat.le_refl _
    · split
      · unfold endM
        split <;> (show _ ≤ (_ ++ [_]).length; rw [List.length_append]; omega)
      · exact @rowM_log _ _ (Ab.row _ _) _
theorem MInv.few (I : MInv zs fnd s) {ps : List Str} (B : Bodies ps fnd) : s.a.qs.length ≤ ps.length ∧ s.a.tab.length ≤ ps.length ∧ s.l.length ≤ ps.length ∧ ∀ j, (s.a.names j).length ≤ zs.length := by
  have h1 : s.a.qs.length ≤ ps.length := nd_len I.qn fun q hq => by obtain ⟨b, e⟩ := I.qb q hq; exact B.mem q b e
  refine ⟨h1, ?_, ?_, fun j => ?_⟩
  · have := congrArg List.length I.tq
    rw [List.length_map] at this
    omega
  · refine Nat.le_trans ?_ h1
    have : ((s.l.map (·.1)).length) ≤ (List.range s.a.qs.length).length := I.ln.length_le_of_subset fun x hx => by
      obtain ⟨y, hy, rfl⟩ := List.mem_map.mp hx
      exact List.mem_range.mpr (I.lk y hy)
    rwa [List.length_map, List.length_range] at this
  · have := nd_len (I.kn j) (I.kz j)
    rwa [List.length_map] at this
end
end PH

/-! FHj: logs that may be shown. -/
namespace PH
open PySem PySem.Spec PyProof.Rows L2 HL TL
/-! what repr asks, short leaves -/
theorem short_all30 {xs : List PyData} (h : ∀ x ∈ xs, PyData.leavesShort 8 x = true) : PyData.leavesShortAll 8 xs = true := by
  induction xs with
  | nil => rfl
  | cons x r ih =>
    simp only [PyData.leavesShortAll, Bool.and_eq_true]
    exact ⟨h x List.mem_cons_self, ih fun y hy => h y (List.mem_cons_of_mem _ hy)⟩
structure SmOk (x : PyData) (n k : Nat) : Prop where
  sh : x.leavesShort 8 = true
  ok : x.showable = true
  nd : x.hasDict = false
  dp : x.depth ≤ k
  bk : x.bulk ≤ n
theorem SmOk.tup {xs : List PyData} {n m k : Nat} (h : ∀ x ∈ xs, SmOk x n k) (b : xs.length * (n + 1) ≤ m) : SmOk (.tuple xs) m (k + 1) := by
  refine ⟨?_, ?_, ?_, ?_, ?_⟩
  · simp only [PyData.leavesShort]
    exact short_all30 fun x hx => (h x hx).sh
  · simp only [PyData.showable]
    exact showable_all fun x hx => (h x hx).ok
  · simp only [PyData.hasDict]
    exact noDict_all fun x hx => (h x hx).nd
  · simp only [PyData.depth]
    have := depth_all (n := k) fun x hx => (h x hx).dp
    omega
  · simp only [PyData.bulk]
    exact Nat.le_trans (bulk_all fun x hx => (h x hx).bk) b
theorem SmOk.lst {xs : List PyData} {n m k : Nat} (h : ∀ x ∈ xs, SmOk x n k) (b : xs.length * (n + 1) ≤ m) : SmOk (.list xs) m (k + 1) := by
  refine ⟨?_, ?_, ?_, ?_, ?_⟩
  · simp only [PyData.leavesShort]
    exact short_all30 fun x hx => (h x hx).sh
  · simp only [PyData.showable]
    exact showable_all fun x hx => (h x hx).ok
  · simp only [PyData.hasDict]
    exact noDict_all fun x hx => (h x hx).nd
  · simp only [PyData.depth]
    have := depth_all (n := k) fun x hx => (h x hx).dp
    omega
  · simp only [PyData.bulk]
    exact Nat.le_trans (bulk_all fun x hx => (h x hx).bk) b
theorem SmOk.weak {x : PyData} {n m k l : Nat} (h : SmOk x n k) (a : n ≤ m) (b : k ≤ l) : SmOk x m l := ⟨h.sh, h.ok, h.nd, Nat.le_trans h.dp b, Nat.le_trans h.bk a⟩
theorem SmOk.non : SmOk .none 0 0 := ⟨by decide +kernel, by decide +kernel, rfl, Nat.le_refl _, Nat.le_refl _⟩
theorem SmOk.nat {k : Nat} (h : k < 1000) : SmOk (.int (k : Nat)) 0 0 := by
  refine ⟨?_, ?_, by simp only [PyData.hasDict], by simp only [PyData.depth]; exact Nat.le_refl _, by simp only [PyData.bulk]; exact Nat.le_refl _⟩
  · simp only [PyData.leavesShort, decide_eq_true_eq]
    have e : PyData.shown (.int (k : Nat)) = Str.ofString (toString (k : Int)) := by simp only [PyData.shown]
    rw [e, PySem.ofString_length]
    exact Nat.le_trans (int_text_length_le10 (k := 3) (by decide) (by omega)) (by decide)
  · simp only [PyData.showable, decide_eq_true_eq]
    by_cases z : k = 0
    · subst z; decide
    · exact (Nat.log2_lt (by omega)).mpr (Nat.lt_of_lt_of_le (show ((k : Nat) : Int).natAbs < 1000 by omega) (by decide +kernel))
theorem SmOk.str {z : Str} (h : OkL (tl z)) : SmOk (.str z) z.length 0 := ⟨short_str h, by simp only [PyData.showable], by simp only [PyData.hasDict], by simp only [PyData.depth]; exact Nat.le_refl _, by simp only [PyData.bulk]; exact Nat.le_refl _⟩
/-- repr of a list of such -/
theorem rep_sm {K : PySem.W.Frag} {H : Hp} {Q : VK} {v : V} {d : PyData} {n : Nat} (dd : Dp K H v d) (s : SmOk d n 60) (i : isDisplay d = true) (b : n ≤ 1600000) (q : Q (.str (PyData.shown d)) H) : rReprA K [v] H Q := by
  refine .inr ⟨_, _, rfl, dd, i, s.ok, s.nd, s.dp, ?_, q⟩
  have e := PyData.shown_le_bulk 8 (by decide) _ s.sh
  have := s.bk
  rw [sizeLine_eq]
  omega

theorem srt_perm (ks : List Str) : (srt ks).Perm ks := by
  unfold srt
  split
  · rename_i h
    exact h.choose_spec.1
  · exact List.Perm.refl _
structure SmN (z : Str) : Prop where
  ok : OkL (tl z)
  len : z.length ≤ 8
inductive EntS (m : Nat) : PyData → Prop
  | hav {k : Nat} : k < m → EntS m (haveE k)
  | beg {k : Nat} {p : Str} : k < m → SmN p → EntS m (beginE k p)
  | fin {k : Nat} : k < m → EntS m (endE k)
  | noteN {k : Nat} : k < m → EntS m (noteE k .none)
  | note {k : Nat} {ys : List Str} : k < m → ys.length ≤ 9 → (∀ y ∈ ys, SmN y) → EntS m (noteE k (.tuple (ys.map .str)))
theorem EntS.mono {m n : Nat} {x : PyData} (h : EntS m x) (l : m ≤ n) : EntS n x := by
  cases h with
  | hav a => exact .hav (by omega)
  | beg a b => exact .beg (by omega) b
  | fin a => exact .fin (by omega)
  | noteN a => exact .noteN (by omega)
  | note a b c => exact .note (by omega) b c
theorem EntS.flat {m : Nat} {x : PyData} (h : EntS m x) : flatD x = true := by
  cases h with
  | hav a => rfl
  | beg a b => rfl
  | fin a => rfl
  | noteN a => rfl
  | @note k ys a b c =>
    show (true && (true && (flatD (.tuple (ys.map .str)) && true))) = true
    rw [show flatD (.tuple (ys.map .str)) = true from flatAll_of fun x hx => by obtain ⟨z, _, rfl⟩ := List.mem_map.mp hx; rfl]
    rfl
theorem EntS.sm {m : Nat} {x : PyData} (h : EntS m x) (hm : m ≤ 100) : SmOk x 404 2 := by
  have num : ∀ {k : Nat}, k < m → SmOk (numD k) 100 1 := fun hk => (SmOk.nat (k := _ + 1) (by omega)).weak (Nat.zero_le _) (Nat.zero_le _)
  have wd : ∀ {z : Str}, OkL (tl z) → z.length ≤ 100 → SmOk (.str z) 100 1 := fun a b => (SmOk.str a).weak b (Nat.zero_le _)
  have nn : SmOk .none 100 1 := SmOk.non.weak (Nat.zero_le _) (Nat.zero_le _)
  have tup : ∀ {xs : List PyData}, (∀ x ∈ xs, SmOk x 100 1) → xs.length ≤ 4 → SmOk (.tuple xs) 404 2 := fun a b => SmOk.tup a (by omega)
  cases h with
  | hav a =>
    refine tup (fun x hx => ?_) (by simp)
    simp only [List.mem_cons, List.not_mem_nil, or_false] at hx
    rcases hx with rfl | rfl
    · exact wd (by unfold OkL; decide +kernel) (by decide +kernel)
    · exact num a
  | beg a b =>
    refine tup (fun x hx => ?_) (by simp)
    simp only [List.mem_cons, List.not_mem_nil, or_false] at hx
    rcases hx with rfl | rfl | rfl
    · exact wd (by unfold OkL; decide +kernel) (by decide +kernel)
    · exact num a
    · exact wd b.ok (by have := b.len; omega)
  | fin a =>
    refine tup (fun x hx => ?_) (by simp)
    simp only [List.mem_cons, List.not_mem_nil, or_false] at hx
    rcases hx with rfl | rfl
    · exact wd (by unfold OkL; decide +kernel) (by decide +kernel)
    · exact num a
  | noteN a =>
    refine tup (fun x hx => ?_) (by simp)
    simp only [List.mem_cons, List.not_mem_nil, or_false] at hx
    rcases hx with rfl | rfl | rfl
    · exact wd (by unfold OkL; decide +kernel) (by decide +kernel)
    · exact num a
    · exact nn
  | @note k ys a b c =>
    refine tup (fun x hx => ?_) (by simp)
    simp only [List.mem_cons, List.not_mem_nil, or_false] at hx
    rcases hx with rfl | rfl | rfl
    · exact wd (by unfold OkL; decide +kernel) (by decide +kernel)
    · exact num a
    · refine SmOk.tup (n := 8) (k := 0) (fun x hx => ?_) (by rw [List.length_map]; omega)
      obtain ⟨y, hy, rfl⟩ := List.mem_map.mp hx
      exact (SmOk.str (c y hy).ok).weak (c y hy).len (Nat.le_refl _)
def LogS (a : Ab) : Prop := ∀ e ∈ a.log, EntS a.qs.length e
theorem LogS.sm {a : Ab} (h : LogS a) (hm : a.qs.length ≤ 100) (l : a.log.length ≤ 3000) : SmOk (.list a.log) 1300000 3 := SmOk.lst (fun x hx => (h x hx).sm hm) (by omega)
section
variable {zs : List Str} {fnd : Str → Option (List Row)} {s : MSt}
theorem LogS.put {a : Ab} (h : LogS a) {e : PyData} (g : EntS a.qs.length e) : LogS (a.put e) := fun x hx => by
  rcases List.mem_append.mp (show x ∈ a.log ++ [e] from hx) with hx | hx
  · exact h x hx
  · rw [List.mem_singleton.mp hx]; exact g
theorem LogS.step (L : LogS s.a) (I : MInv zs fnd s) (ml : ∀ p b, fnd p = some b → ∀ r ∈ b, MildZ zs fnd r) (hz : ∀ z ∈ zs, SmN z) (zf : zs.length ≤ 9) (hp : ∀ p b, fnd p = some b → SmN p) (ne : s.l ≠ []) : LogS (stepM (bdOf fnd) s).a := by
  obtain ⟨a, l0⟩ := s
  rcases List.eq_nil_or_concat l0 with e | ⟨l, x, e⟩
  · exact absurd e ne
  rw [List.concat_eq_append] at e
  subst e
  obtain ⟨k, i⟩ := x
  have lk : k < a.qs.length := I.lk (k, i) mem_end
  have lr : i ≤ (bdOf fnd (a.path k)).length := I.lr (k, i) mem_end
  have L : LogS a := L
  by_cases c : i = (bdOf fnd (a.path k)).length
  · rw [step_end c]
    have J : LogS (a.put (endE k)) := L.put (.fin lk)
    unfold endM
    split
    · exact J
    · exact J
  · have li : i < (bdOf fnd (a.path k)).length := by omega
    rw [step_row li]
    have er := List.getElem?_eq_getElem li
    rw [List.getD_eq_getElem?_getD, er, Option.getD_some]
    generalize hr : (bdOf fnd (a.path k))[i] = r at er
    have mq : a.path k ∈ a.qs := by unfold Ab.path; rw [List.getD_eq_getElem?_getD, List.getElem?_eq_getElem lk]; exact List.getElem_mem lk
    obtain ⟨b, eb⟩ := I.qb _ mq
    have ebd : bdOf fnd (a.path k) = b := by unfold bdOf; rw [eb]; rfl
    have mr : MildZ zs fnd r := ml _ b eb r (List.mem_of_getElem? (by rw [← ebd]; exact er))
    cases r with
    | set x m => exact L
    | note p =>
      have J : LogS (a.put (noteE k (a.noted p))) := by
        refine L.put ?_
        unfold Ab.noted
        cases g : getA a.tab p with
        | none => exact .noteN lk
        | some j =>
          have P := srt_perm ((a.names j).map (·.1))
          have f := nd_len (I.kn j) (I.kz j)
          refine .note lk ?_ fun y hy => hz y (I.kz j y (P.subset hy))
          rw [P.length_eq]
          exact Nat.le_trans f zf
      exact J
    | take x p =>
      show LogS (match getA (a.row i).tab p with | some m => MSt.mk (((a.row i).put (haveE m)).bind k x (.mod m)) _ | none => ⟨(a.row i).begin p, _⟩).a
      cases g : getA (a.row i).tab p with
      | some m =>
        have lm : m < a.qs.length := (List.getElem?_eq_some_iff.mp (I.tk _ (getA_mem g))).1
        have J : LogS (a.put (haveE m)) := L.put (.hav lm)
        exact J
      | none =>
        obtain ⟨bp, ebp⟩ := mr.2
        intro y hy
        have hy : y ∈ a.log ++ [beginE a.qs.length p] := hy
        show EntS (a.qs ++ [p]).length y
        rw [List.length_append, List.length_singleton]
        rcases List.mem_append.mp hy with hy | hy
        · exact (L y hy).mono (Nat.le_succ _)
        · rw [List.mem_singleton.mp hy]
          exact .beg (Nat.lt_succ_self _) (hp p bp ebp)
    | _ => exact mr.elim
theorem go_inv {n : Nat} {s t : MSt} (h : Go (bdOf fnd) n s t) (ml : ∀ p b, fnd p = some b → ∀ r ∈ b, MildZ zs fnd r) (hz : ∀ z ∈ zs, SmN z) (zf : zs.length ≤ 9) (hp : ∀ p b, fnd p = some b → SmN p) (I : MInv zs fnd s) (L : LogS s.a) : MInv zs fnd t ∧ LogS t.a := by
  induction h with
  | nil => exact ⟨I, L⟩
  | cons ne _ ih => exact ih (I.step ml ne) (L.step I ml hz zf hp ne)
/-- one taken, from the outside -/
theorem take_top {ps : List Str} (B : Bodies ps fnd) (ml : ∀ p b, fnd p = some b → ∀ r ∈ b, MildZ zs fnd r) (hz : ∀ z ∈ zs, SmN z) (zf : zs.length ≤ 9) (hp : ∀ p b, fnd p = some b → SmN p) {a : Ab} {n : Nat} {p : Str} (I : MInv zs fnd ⟨a, []⟩) (L : LogS a) (hb : a.brk = []) (hr : rem ps a < n) (fp : ∃ b, fnd p = some b) :
    ∃ b m, oneF wayR fnd n a p = (b, .ok m) ∧ b.brk = [] ∧ b.line = a.line ∧ MInv zs fnd ⟨b, []⟩ ∧ LogS b ∧ lot ps b ≤ lot ps a + 1 ∧ rem ps b ≤ rem ps a ∧
      (∀ k, getA a.tab p = some k → b = a.put (haveE k)) ∧ (getA a.tab p = none → ∃ c N, b = c.fin a.qs.length ∧ Go (bdOf fnd) N ⟨a.begin p, [(a.qs.length, 0)]⟩ ⟨c, [(a.qs.length, (bdOf fnd p).length)]⟩ ∧ c.path a.qs.length = p) := by
  have gr := gr_one (fnd := fnd) (wayR_ok ps) B n a p
  have ln := line_one (fnd := fnd) (wayR_ok ps) n a p
  cases g : getA a.tab p with
  | some k =>
    obtain ⟨n', rfl⟩ : ∃ n', n = n' + 1 := ⟨n - 1, by omega⟩
    have e1 : oneF wayR fnd (n' + 1) a p = (a.put (haveE k), .ok k) := by unfold oneF; rw [g]
    rw [e1] at gr ln
    have lk : k < a.qs.length := (List.getElem?_eq_some_iff.mp (I.tk _ (getA_mem g))).1
    exact ⟨a.put (haveE k), k, e1, hb, rfl, I.alike (a := a.put (haveE k)) rfl rfl rfl, L.put (.hav lk), gr.lot, gr.rem, fun j e => by cases e; rfl, fun e => nomatch e⟩
  | none =>
    obtain ⟨c, e1, e2, ⟨more, e3⟩, e4⟩ := one_go B (fun p b e r hr => (ml p b e r hr).mild) n a p g hb hr fp
    rw [e1] at gr ln
    obtain ⟨N, go⟩ := e4 []
    have pc : c.path a.qs.length = p := by
      show c.qs.getD a.qs.length "" = p
      rw [e3, List.getD_eq_getElem?_getD, List.getElem?_append_right (Nat.le_refl _), Nat.sub_self]
      rfl
    have I0 := I.begin g fp (fun y hy => nomatch hy)
    have L0 : LogS (a.begin p) := fun y hy => by
      have hy : y ∈ a.log ++ [beginE a.qs.length p] := hy
      show EntS (a.qs ++ [p]).length y
      rw [List.length_append, List.length_singleton]
      obtain ⟨bp, ebp⟩ := fp
      rcases List.mem_append.mp hy with hy | hy
      · exact (L y hy).mono (Nat.le_succ _)
      · rw [List.mem_singleton.mp hy]
        exact .beg (Nat.lt_succ_self _) (hp p bp ebp)
    have go2 : Go (bdOf fnd) (N + 1) ⟨a.begin p, [(a.qs.length, 0)]⟩ ⟨c.fin a.qs.length, []⟩ := go.tr (.cons (by simp) (by
      rw [show [] ++ [(a.qs.length, (bdOf fnd p).length)] = [] ++ [(a.qs.length, (bdOf fnd p).length)] from rfl, step_end (by rw [pc])]
      exact .nil))
    obtain ⟨I1, L1⟩ := go_inv go2 ml hz zf hp I0 L0
    exact ⟨c.fin a.qs.length, a.qs.length, e1, e2, ln, I1, L1, gr.lot, gr.rem, fun j e => (nomatch e), fun _ => ⟨c, N, rfl, go, pc⟩⟩
end
end PH

/-! FHk: finders dealt, each path into one of them. -/
namespace PH
open PySem PySem.Spec PyProof.Rows L2 HL TL
theorem fndS_cons (e : Shelf) (ds : List Shelf) (q : Str) : fndS (e :: ds) q = match getA e q with | some b => some b | none => fndS ds q := by
  unfold fndS
  rw [List.findSome?_cons]
  cases getA e q <;> rfl
theorem fndS_none {ds : List Shelf} {p : Str} (h : ∀ e ∈ ds, getA e p = none) : fndS ds p = none := by
  induction ds with
  | nil => rfl
  | cons e r ih =>
    rw [fndS_cons, h e List.mem_cons_self]
    exact ih fun x hx => h x (List.mem_cons_of_mem _ hx)
theorem fndS_set {p : Str} {b : List Row} (q : Str) : ∀ {ds : List Shelf} {j : Nat} {e : Shelf}, ds[j]? = some e → (∀ e ∈ ds, getA e p = none) → fndS (ds.set j (putA e p b)) q = if q = p then some b else fndS ds q
  | e' :: r, 0, e, h, no => by
    cases h
    rw [List.set_cons_zero, fndS_cons, fndS_cons, getA_put]
    by_cases c : q = p
    · rw [if_pos c, if_pos c]
    · rw [if_neg c, if_neg c]
  | e' :: r, j + 1, e, h, no => by
    have ih := fndS_set (p := p) (b := b) q (ds := r) (j := j) (e := e) h fun x hx => no x (List.mem_cons_of_mem _ hx)
    rw [List.set_cons_succ, fndS_cons, fndS_cons, ih]
    by_cases c : q = p
    · subst c
      rw [no e' List.mem_cons_self, if_pos rfl]
      try rfl
    · rw [if_neg c, if_neg c]
end PH

/-! FHl: bodies in a row, each takes the following. -/
namespace PH
open PySem PySem.Spec PyProof.Rows L2 HL TL
def AllSet (b : List Row) : Prop := ∀ r ∈ b, ∃ x n, r = Row.set x n
structure Lnk (fnd : Str → Option (List Row)) (pl : Str → Nat) (p q : Str) : Prop where
  ex : ∃ pre x post, fnd p = some (pre ++ .take x q :: post) ∧ AllSet pre ∧ AllSet post ∧ pre.length = pl p
def Chn (fnd : Str → Option (List Row)) (pl : Str → Nat) (q : Str) : List Str → Prop
  | [] => True
  | p :: r => Lnk fnd pl p (r.headD q) ∧ Chn fnd pl q r
/-- alike but for names and the line -/
structure Like (a b : Ab) : Prop where
  qs : b.qs = a.qs
  tab : b.tab = a.tab
  brk : b.brk = a.brk
  met : b.met = a.met
  fat : b.fat = a.fat
  log : b.log = a.log
  pap : b.pap = a.pap
theorem Like.refl (a : Ab) : Like a a := ⟨rfl, rfl, rfl, rfl, rfl, rfl, rfl⟩
theorem Like.tr {a b c : Ab} (h : Like a b) (g : Like b c) : Like a c := ⟨g.qs.trans h.qs, g.tab.trans h.tab, g.brk.trans h.brk, g.met.trans h.met, g.fat.trans h.fat, g.log.trans h.log, g.pap.trans h.pap⟩
theorem Like.row (a : Ab) (i : Nat) : Like a (a.row i) := ⟨rfl, rfl, rfl, rfl, rfl, rfl, rfl⟩
theorem Like.bind (a : Ab) (k : Nat) (z : Str) (t : Th) : Like a (a.bind k z t) := ⟨rfl, rfl, rfl, rfl, rfl, rfl, rfl⟩
section
variable {on : Ab → Str → Rs Nat}
theorem body_sets : ∀ (pre rest : List Row) (i : Nat) (a : Ab) (pl : List (Nat × Nat)) (k r0 : Nat), AllSet pre → a.line = pl ++ [(k, r0)] →
    ∃ b r1, bodyF (rowF wayR on 3) i (pre ++ rest) a = bodyF (rowF wayR on 3) (i + pre.length) rest b ∧ Like a b ∧ b.line = pl ++ [(k, r1)]
  | [], rest, i, a, pl, k, r0, _, e => ⟨a, r0, rfl, .refl a, e⟩
  | r :: pre, rest, i, a, pl, k, r0, h, e => by
    obtain ⟨x, n, rfl⟩ := h r List.mem_cons_self
    obtain ⟨rl, _⟩ := row_top (i := i) e
    have e1 : ((a.row i).bind (a.row i).top.1 x (.num n)).line = pl ++ [(k, i)] := rl
    obtain ⟨b, r1, h1, h2, h3⟩ := body_sets pre rest (i + 1) ((a.row i).bind (a.row i).top.1 x (.num n)) pl k i (fun y hy => h y (List.mem_cons_of_mem _ hy)) e1
    refine ⟨b, r1, ?_, ((Like.row a i).tr (.bind _ _ _ _)).tr h2, h3⟩
    show bodyF (rowF wayR on 3) (i + 1) (pre ++ rest) ((a.row i).bind (a.row i).top.1 x (.num n)) = _
    rw [h1, List.length_cons]
    congr 1
    omega
end
def logC (m : Nat) : Nat → List Str → List PyData
  | _, [] => [haveE m]
  | k, p :: r => beginE k p :: (logC m (k + 1) r ++ [endE k])
def logF (f : PyData) : Nat → List Str → List PyData
  | _, [] => []
  | k, p :: r => beginE k p :: (logF f (k + 1) r ++ [failE k f])
def papC (pl : Str → Nat) : Nat → List (Nat × Nat) → List Str → List PyData
  | _, _, [] => []
  | k, l, p :: r => papE k l :: papC pl (k + 1) (l ++ [(k, pl p)]) r
def tabC : Nat → List Str → List (Str × Nat)
  | _, [] => []
  | k, p :: r => (p, k) :: tabC (k + 1) r
theorem tabC_keys : ∀ (k : Nat) (L : List Str), (tabC k L).map (·.1) = L
  | _, [] => rfl
  | k, p :: r => by
    show p :: (tabC (k + 1) r).map (·.1) = _
    rw [tabC_keys (k + 1) r]
section
variable {fnd : Str → Option (List Row)} {pl : Str → Nat} {q : Str}
/-- one goes down the row and up again -/
theorem chn_ok {m : Nat} : ∀ (L : List Str) (n : Nat) (a : Ab), Chn fnd pl q L → L.length < n → L.Nodup → (∀ p ∈ L, getA a.tab p = none ∧ getA a.brk p = none) → getA (a.tab ++ tabC a.qs.length L) q = some m →
    ∃ b, oneF wayR fnd n a (L.headD q) = (b, .ok (if L = [] then m else a.qs.length)) ∧ b.qs = a.qs ++ L ∧ b.tab = a.tab ++ tabC a.qs.length L ∧ b.brk = a.brk ∧ b.fat = a.fat ∧ b.log = a.log ++ logC m a.qs.length L ∧ b.pap = a.pap ++ papC pl a.qs.length a.line L ∧ b.line = a.line
  | [], n, a, _, hn, _, _, g => by
    obtain ⟨n, rfl⟩ : ∃ n', n = n' + 1 := ⟨n - 1, by rw [List.length_nil] at hn; omega⟩
    have g : getA (a.tab ++ []) q = some m := g
    rw [List.append_nil] at g
    refine ⟨a.put (haveE m), ?_, by show a.qs = a.qs ++ []; simp, by show a.tab = a.tab ++ []; simp, rfl, rfl, rfl, by show a.pap = a.pap ++ []; simp, rfl⟩
    show oneF wayR fnd (n + 1) a q = _
    unfold oneF
    rw [g, if_pos rfl]
  | p :: r, n, a, hc, hn, nd, no, g => by
    obtain ⟨n, rfl⟩ : ∃ n', n = n' + 1 := ⟨n - 1, by omega⟩
    obtain ⟨⟨pre, x, post, ef, s1, s2, lp⟩, hc⟩ := hc
    obtain ⟨t0, b0⟩ := no p List.mem_cons_self
    have nd := List.nodup_cons.mp nd
    obtain ⟨a1, r1, e1, l1, n1⟩ := body_sets (on := oneF wayR fnd n) pre (.take x (r.headD q) :: post) 0 (a.begin p) a.line a.qs.length 0 s1 rfl
    obtain ⟨rl, rt⟩ := row_top (i := 0 + pre.length) n1
    have l2 := l1.tr (.row a1 (0 + pre.length))
    have er : rowF wayR (oneF wayR fnd n) 3 (.take x (r.headD q)) (a1.row (0 + pre.length)) = match oneF wayR fnd n (a1.row (0 + pre.length)) (r.headD q) with
      | (b, .ok m) => (b.bind (a1.row (0 + pre.length)).top.1 x (.mod m), .ok ())
      | (b, .error f) => (b, .error f) := rfl
    have e3 : bodyF (rowF wayR (oneF wayR fnd n) 3) (0 + pre.length) (.take x (r.headD q) :: post) a1 = match rowF wayR (oneF wayR fnd n) 3 (.take x (r.headD q)) (a1.row (0 + pre.length)) with
      | (b, .ok _) => bodyF (rowF wayR (oneF wayR fnd n) 3) (0 + pre.length + 1) post b
      | (b, .error e) => (b, .error e) := rfl
    rw [er] at e3
    generalize a1.row (0 + pre.length) = a2 at rl rt l2 e3
    have q2 : a2.qs = a.qs ++ [p] := l2.qs
    have q2l : a2.qs.length = a.qs.length + 1 := by rw [q2, List.length_append]; rfl
    have t2 : a2.tab = a.tab ++ [(p, a.qs.length)] := l2.tab
    have k2 : a2.brk = a.brk := l2.brk
    obtain ⟨b, f1, f2, f3, f4, f5, f6, f7, f8⟩ := chn_ok r n a2 hc (by rw [List.length_cons] at hn; omega) nd.2 (fun y hy => by
      obtain ⟨y1, y2⟩ := no y (List.mem_cons_of_mem _ hy)
      have ny : ¬ p = y := fun e => nd.1 (by rw [e]; exact hy)
      rw [t2, k2, getA_app, y1, if_neg ny]
      exact ⟨rfl, y2⟩) (by
      rw [t2, q2l, List.append_assoc]
      exact g)
    have lb : b.line = a.line ++ [(a.qs.length, 0 + pre.length)] := f8.trans rl
    obtain ⟨b2, r2, e2, l3, n3⟩ := body_sets (on := oneF wayR fnd n) post [] (0 + pre.length + 1) (b.bind a2.top.1 x (.mod (if r = [] then m else a2.qs.length))) a.line a.qs.length (0 + pre.length) s2 lb
    have l4 := (Like.bind b a2.top.1 x (.mod (if r = [] then m else a2.qs.length))).tr l3
    have eb : bodyF (rowF wayR (oneF wayR fnd n) 3) 0 (pre ++ .take x (r.headD q) :: post) (a.begin p) = (b2, .ok ()) := by
      rw [List.append_nil] at e2
      rw [e1, e3, f1]
      exact e2
    refine ⟨b2.fin a.qs.length, ?_, ?_, ?_, ?_, ?_, ?_, ?_, ?_⟩
    · show oneF wayR fnd (n + 1) a p = _
      unfold oneF
      rw [t0, b0]
      dsimp only
      rw [ef]
      dsimp only
      unfold beginF
      rw [eb, if_neg (by simp)]
      rfl
    · show b2.qs = _
      rw [l4.qs, f2, q2, List.append_assoc]
      rfl
    · show b2.tab = _
      rw [l4.tab, f3, t2, q2l, List.append_assoc]
      rfl
    · show b2.brk = _
      rw [l4.brk, f4, k2]
    · show b2.fat = _
      rw [l4.fat, f5, l2.fat]
      rfl
    · show b2.log ++ [endE a.qs.length] = _
      rw [l4.log, f6, q2l, show a2.log = a.log ++ [beginE a.qs.length p] from l2.log, List.append_assoc, List.append_assoc]
      rfl
    · show b2.pap = _
      rw [l4.pap, f7, q2l, rl, show a2.pap = a.pap ++ [papE a.qs.length a.line] from l2.pap, List.append_assoc]
      rw [show 0 + pre.length = pl p by omega]
      rfl
    · show b2.line.dropLast = _
      rw [n3, List.dropLast_concat]
theorem chn_no : ∀ (L : List Str) (n : Nat) (a : Ab), Chn fnd pl q L → L.length < n → L.Nodup → (∀ p ∈ L, getA a.tab p = none ∧ getA a.brk p = none) → getA a.tab q = none → getA a.brk q = none → fnd q = none → q ∉ L → (∀ x ∈ a.line, x.1 < a.qs.length) →
    ∃ b, oneF wayR fnd n a (L.headD q) = (b, .error (noModF q)) ∧ b.qs = a.qs ++ L ∧ b.tab = a.tab ∧ b.log = a.log ++ logF (noModF q) a.qs.length L ∧ b.met = a.road a.line ++ L.map (fun p => stepE p (pl p)) ∧ b.line = a.line
  | [], n, a, _, hn, _, _, tq, bq, fq, _, _ => by
    obtain ⟨n, rfl⟩ : ∃ n', n = n' + 1 := ⟨n - 1, by rw [List.length_nil] at hn; omega⟩
    refine ⟨a.up, ?_, by show a.qs = a.qs ++ []; simp, rfl, by show a.log = a.log ++ []; simp, by show a.road a.line = _ ++ []; simp, rfl⟩
    show oneF wayR fnd (n + 1) a q = _
    unfold oneF
    rw [tq, bq]
    dsimp only
    rw [fq]
  | p :: r, n, a, hc, hn, nd, no, tq, bq, fq, nq, lk => by
    obtain ⟨n, rfl⟩ : ∃ n', n = n' + 1 := ⟨n - 1, by omega⟩
    obtain ⟨⟨pre, x, post, ef, s1, s2, lp⟩, hc⟩ := hc
    obtain ⟨t0, b0⟩ := no p List.mem_cons_self
    have nd := List.nodup_cons.mp nd
    have nqp : p ≠ q := fun e => nq (e ▸ List.mem_cons_self)
    obtain ⟨a1, r1, e1, l1, n1⟩ := body_sets (on := oneF wayR fnd n) pre (.take x (r.headD q) :: post) 0 (a.begin p) a.line a.qs.length 0 s1 rfl
    obtain ⟨rl, rt⟩ := row_top (i := 0 + pre.length) n1
    have l2 := l1.tr (.row a1 (0 + pre.length))
    have er : rowF wayR (oneF wayR fnd n) 3 (.take x (r.headD q)) (a1.row (0 + pre.length)) = match oneF wayR fnd n (a1.row (0 + pre.length)) (r.headD q) with
      | (b, .ok m) => (b.bind (a1.row (0 + pre.length)).top.1 x (.mod m), .ok ())
      | (b, .error f) => (b, .error f) := rfl
    have e3 : bodyF (rowF wayR (oneF wayR fnd n) 3) (0 + pre.length) (.take x (r.headD q) :: post) a1 = match rowF wayR (oneF wayR fnd n) 3 (.take x (r.headD q)) (a1.row (0 + pre.length)) with
      | (b, .ok _) => bodyF (rowF wayR (oneF wayR fnd n) 3) (0 + pre.length + 1) post b
      | (b, .error e) => (b, .error e) := rfl
    rw [er] at e3
    generalize a1.row (0 + pre.length) = a2 at rl rt l2 e3
    have q2 : a2.qs = a.qs ++ [p] := l2.qs
    have q2l : a2.qs.length = a.qs.length + 1 := by rw [q2, List.length_append]; rfl
    have t2 : a2.tab = a.tab ++ [(p, a.qs.length)] := l2.tab
    have k2 : a2.brk = a.brk := l2.brk
    obtain ⟨b, f1, f2, f3, f4, f5, f6⟩ := chn_no r n a2 hc (by rw [List.length_cons] at hn; omega) nd.2 (fun y hy => by
      obtain ⟨y1, y2⟩ := no y (List.mem_cons_of_mem _ hy)
      have ny : ¬ p = y := fun e => nd.1 (by rw [e]; exact hy)
      rw [t2, k2, getA_app, y1, if_neg ny]
      exact ⟨rfl, y2⟩) (by rw [t2, getA_app, tq, if_neg nqp]; rfl) (by rw [k2]; exact bq) fq (fun h => nq (List.mem_cons_of_mem _ h)) (fun y hy => by
      rw [rl] at hy
      rcases List.mem_append.mp hy with hy | hy
      · have := lk y hy; omega
      · rw [List.mem_singleton.mp hy]; show a.qs.length < _; omega)
    have eb : bodyF (rowF wayR (oneF wayR fnd n) 3) 0 (pre ++ .take x (r.headD q) :: post) (a.begin p) = (b, .error (noModF q)) := by
      rw [e1, e3, f1]
    refine ⟨b.broke a.qs.length p (noModF q), ?_, ?_, ?_, ?_, ?_, ?_⟩
    · show oneF wayR fnd (n + 1) a p = _
      unfold oneF
      rw [t0, b0]
      dsimp only
      rw [ef]
      dsimp only
      unfold beginF
      rw [eb]
    · show b.qs = _
      rw [f2, q2, List.append_assoc]
      rfl
    · show delA b.tab p = _
      rw [f3, t2]
      unfold delA
      rw [List.filter_append, List.filter_cons_of_neg (by simp)]
      have : a.tab.filter (fun x => decide (x.1 ≠ p)) = a.tab := List.filter_eq_self.mpr fun y hy => decide_eq_true fun e => getA_none.mp t0 (List.mem_map.mpr ⟨y, hy, e⟩)
      rw [this]
      exact List.append_nil _
    · show b.log ++ [failE a.qs.length (noModF q)] = _
      rw [f4, q2l, show a2.log = a.log ++ [beginE a.qs.length p] from l2.log, List.append_assoc, List.append_assoc]
      rfl
    · show b.met = _
      rw [f5, rl]
      unfold Ab.road
      rw [List.map_append, List.append_assoc]
      congr 1
      · refine List.map_congr_left fun y hy => ?_
        rw [path_more ⟨[p], q2⟩ (lk y hy)]
      · have : a2.path a.qs.length = p := by
          show a2.qs.getD a.qs.length "" = p
          rw [q2, List.getD_eq_getElem?_getD, List.getElem?_append_right (Nat.le_refl _), Nat.sub_self]
          rfl
        show stepE (a2.path a.qs.length) (0 + pre.length) :: _ = stepE p (pl p) :: _
        rw [this, show 0 + pre.length = pl p by omega]
        rfl
    · show b.line.dropLast = _
      rw [f6, rl, List.dropLast_concat]
end
/-! the same by numbers -/
theorem tabC_rng : ∀ (k : Nat) (L : List Str), tabC k L = (List.range L.length).map fun i => (L.getD i "", k + i)
  | _, [] => rfl
  | k, p :: r => by
    show (p, k) :: tabC (k + 1) r = _
    rw [tabC_rng (k + 1) r, List.length_cons, List.range_succ_eq_map, List.map_cons, List.map_map]
    refine congrArg _ (List.map_congr_left fun i _ => ?_)
    show (r.getD i "", k + 1 + i) = ((p :: r).getD (i + 1) "", k + (i + 1))
    rw [List.getD_cons_succ, Nat.add_assoc, Nat.add_comm 1 i]
def begC (k : Nat) (L : List Str) : List PyData := (List.range L.length).map fun i => beginE (k + i) (L.getD i "")
def endC (k : Nat) (n : Nat) : List PyData := (List.range n).map fun i => endE (k + (n - 1 - i))
def faiC (f : PyData) (k : Nat) (n : Nat) : List PyData := (List.range n).map fun i => failE (k + (n - 1 - i)) f
theorem begC_cons (k : Nat) (p : Str) (r : List Str) : begC k (p :: r) = beginE k p :: begC (k + 1) r := by
  unfold begC
  rw [List.length_cons, List.range_succ_eq_map, List.map_cons, List.map_map]
  refine congrArg _ (List.map_congr_left fun i _ => ?_)
  show beginE (k + (i + 1)) ((p :: r).getD (i + 1) "") = beginE (k + 1 + i) (r.getD i "")
  rw [List.getD_cons_succ, Nat.add_assoc, Nat.add_comm 1 i]
theorem rng_up {α : Type} (g : Nat → α) (k n : Nat) : (List.range (n + 1)).map (fun i => g (k + (n + 1 - 1 - i))) = ((List.range n).map fun i => g (k + 1 + (n - 1 - i))) ++ [g k] := by
  rw [List.range_succ, List.map_append]
  congr 1
  · refine List.map_congr_left fun i hi => ?_
    have := List.mem_range.mp hi
    congr 1
    omega
  · show [g (k + (n + 1 - 1 - n))] = _
    rw [show n + 1 - 1 - n = 0 by omega]
    rfl
theorem logC_rng (m : Nat) : ∀ (k : Nat) (L : List Str), logC m k L = begC k L ++ haveE m :: endC k L.length
  | _, [] => rfl
  | k, p :: r => by
    show beginE k p :: (logC m (k + 1) r ++ [endE k]) = _
    rw [logC_rng m (k + 1) r, begC_cons]
    unfold endC
    rw [List.length_cons, rng_up endE k r.length]
    simp
theorem logF_rng (f : PyData) : ∀ (k : Nat) (L : List Str), logF f k L = begC k L ++ faiC f k L.length
  | _, [] => rfl
  | k, p :: r => by
    show beginE k p :: (logF f (k + 1) r ++ [failE k f]) = _
    rw [logF_rng f (k + 1) r, begC_cons]
    unfold faiC
    rw [List.length_cons, rng_up (fun i => failE i f) k r.length]
    simp
abbrev wayE (k r : Nat) : PyData := .tuple [numD (k + 1), numD k, .int (r : Nat)]
theorem papC_rng (pl : Str → Nat) : ∀ (L : List Str) (k : Nat) (l : List (Nat × Nat)) (p : Str), papC pl (k + 1) (l ++ [(k, pl p)]) L = (List.range L.length).map fun i => wayE (k + i) (pl ((p :: L).getD i ""))
  | [], _, _, _ => rfl
  | q :: r, k, l, p => by
    show papE (k + 1) (l ++ [(k, pl p)]) :: papC pl (k + 1 + 1) (l ++ [(k, pl p)] ++ [(k + 1, pl q)]) r = _
    rw [papC_rng pl r (k + 1) (l ++ [(k, pl p)]) q, List.length_cons, List.range_succ_eq_map, List.map_cons, List.map_map]
    congr 1
    · unfold papE
      rw [List.getLast?_concat]
      rfl
    · refine List.map_congr_left fun i _ => ?_
      show wayE (k + 1 + i) (pl ((q :: r).getD i "")) = wayE (k + (i + 1)) (pl ((p :: q :: r).getD (i + 1) ""))
      rw [List.getD_cons_succ, Nat.add_assoc, Nat.add_comm 1 i]
theorem papC_top (pl : Str → Nat) (p : Str) (L : List Str) : papC pl 0 [] (p :: L) = .tuple [numD 0, .none, .none] :: (List.range L.length).map fun i => wayE i (pl ((p :: L).getD i "")) := by
  show papE 0 [] :: papC pl 1 ([] ++ [(0, pl p)]) L = _
  rw [papC_rng pl L 0 [] p]
  congr 1
  refine List.map_congr_left fun i _ => ?_
  rw [Nat.zero_add]
end PH

/-! FHm: numbers by paths, lists told item by item. -/
namespace PH
open PySem PySem.Spec PyProof.Rows L2 HL TL
theorem getA_tabC {z : Str} : ∀ {k i : Nat} {L : List Str}, L.Nodup → L[i]? = some z → getA (tabC k L) z = some (k + i)
  | k, 0, p :: r, nd, e => by
    obtain rfl : p = z := by simpa using e
    show getA ((p, k) :: tabC (k + 1) r) p = _
    rw [getA_cons, if_pos rfl]
    rfl
  | k, i + 1, p :: r, nd, e => by
    have e : r[i]? = some z := by simpa using e
    have nd := List.nodup_cons.mp nd
    have ne : p ≠ z := fun c => nd.1 (c ▸ List.mem_of_getElem? e)
    show getA ((p, k) :: tabC (k + 1) r) z = _
    rw [getA_cons, if_neg ne, getA_tabC nd.2 e]
    congr 1
    omega
abbrev tabW (t : List (Str × Nat)) : List (Key × V) := t.map fun x => ((Sum.inr x.1 : Key), V.int ((x.2 + 1 : Nat) : Int))
theorem valV_tabW {z : Str} {i : Nat} {L : List Str} (nd : L.Nodup) (e : L[i]? = some z) : valV (tabW (tabC 0 L)) (.inr z) = some (.int ((i + 1 : Nat) : Int)) := by
  have := val_map (xs := tabC 0 L) (g := fun k : Nat => V.int ((k + 1 : Nat) : Int)) (z := z)
  rw [this, getA_tabC nd e, Nat.zero_add]
  rfl
theorem tabW_len (L : List Str) : (tabW (tabC 0 L)).length = L.length := by
  rw [List.length_map, ← List.length_map (f := fun x : Str × Nat => x.1) (as := tabC 0 L), tabC_keys]
theorem tabC_at {i : Nat} {L : List Str} {z : Str} (e : L[i]? = some z) : (tabC 0 L)[i]? = some (z, i) := by
  have l := (List.getElem?_eq_some_iff.mp e).1
  rw [tabC_rng, List.getElem?_map, List.getElem?_range l]
  show some (L.getD i "", 0 + i) = _
  rw [List.getD_eq_getElem?_getD, e, Nat.zero_add]
  rfl
theorem tabW_keys (L : List Str) : ((tabW (tabC 0 L)).map (·.1)) = L.map Sum.inr := by
  rw [List.map_map, show ((fun x : Key × V => x.1) ∘ fun x : Str × Nat => ((Sum.inr x.1 : Key), V.int ((x.2 + 1 : Nat) : Int))) = Sum.inr ∘ (fun x => x.1) from rfl, ← List.map_map, tabC_keys]
theorem rng_put {α : Type} (g : Nat → α) (i : Nat) : (List.range (i + 1)).map g = (List.range i).map g ++ [g i] := by rw [List.range_succ, List.map_append]; rfl
theorem getD_of {L : List Str} {i : Nat} {z : Str} (e : L[i]? = some z) : L.getD i "" = z := by rw [List.getD_eq_getElem?_getD, e]; rfl
section
variable {K : PySem.W.Frag} {H H' : Hp}
/-- one more item told at its end -/
theorem DLst.more {D : Addr} {xs : List V} {ds : List PyData} {v : V} {d : PyData} (h : DLst K H xs ds) (k : Kp [] H H') (eD : H' D = some (.lst xs)) (dv : Dp K H' v d) (f : flatD d = true) : DLst K (upd H' D (.lst (xs ++ [v]))) (xs ++ [v]) (ds ++ [d]) := by
  have t : TupK H' (upd H' D (.lst (xs ++ [v]))) := (Keep.one eD (.lst _)).tup
  exact DLst.snoc ((h.tup (TupK.same k)).tup t) (Dp.tups t _ _ f dv) f
theorem dpAll_app : ∀ {vs ws : List V} {xs ys : List PyData}, DpAll K H vs xs → DpAll K H ws ys → DpAll K H (vs ++ ws) (xs ++ ys)
  | _, _, _, _, .nil, h => h
  | _, _, _, _, .cons a b, h => .cons a (dpAll_app b h)
theorem DLst.app {vs ws : List V} {xs ys : List PyData} (h : DLst K H vs xs) (g : DLst K H ws ys) : DLst K H (vs ++ ws) (xs ++ ys) := ⟨dpAll_app h.1 g.1, flatAll_app h.2 g.2⟩
end
/-! small entries: texts, numbers, None in a tuple -/
def AtS (x : PyData) : Prop := x = .none ∨ (∃ k : Nat, k < 1000 ∧ x = .int (k : Nat)) ∨ ∃ z : Str, x = .str z ∧ OkL (tl z) ∧ z.length ≤ 8
theorem AtS.sm {x : PyData} (h : AtS x) : SmOk x 8 0 := by
  rcases h with rfl | ⟨k, hk, rfl⟩ | ⟨z, rfl, a, b⟩
  · exact SmOk.non.weak (by decide) (by decide)
  · exact (SmOk.nat hk).weak (by decide) (by decide)
  · exact (SmOk.str a).weak b (by decide)
theorem AtS.lay {x : PyData} (h : AtS x) : x.canLay0 = true := by
  rcases h with rfl | ⟨k, hk, rfl⟩ | ⟨z, rfl, a, b⟩
  · simp only [PyData.canLay0]
  · simp only [PyData.canLay0]
  · simp only [PyData.canLay0]
    have := a.str
    rwa [mkS_tl] at this
def TupA (x : PyData) : Prop := ∃ xs, x = .tuple xs ∧ xs.length ≤ 4 ∧ ∀ y ∈ xs, AtS y
theorem lay_all {xs : List PyData} (h : ∀ x ∈ xs, x.canLay0 = true) : PyData.canLayAll0 xs = true := by
  induction xs with
  | nil => simp only [PyData.canLayAll0]
  | cons x r ih =>
    simp only [PyData.canLayAll0, Bool.and_eq_true]
    exact ⟨h x List.mem_cons_self, ih fun y hy => h y (List.mem_cons_of_mem _ hy)⟩
theorem TupA.sm {x : PyData} (h : TupA x) : SmOk x 36 1 := by
  obtain ⟨xs, rfl, l, a⟩ := h
  exact SmOk.tup (fun y hy => (a y hy).sm) (by omega)
theorem TupA.lay {x : PyData} (h : TupA x) : x.canLay0 = true := by
  obtain ⟨xs, rfl, l, a⟩ := h
  simp only [PyData.canLay0]
  exact lay_all fun y hy => (a y hy).lay
theorem tupA_shaped {xs : List PyData} (h : ∀ x ∈ xs, TupA x) : SeqAt.shaped (.list xs) = true := by
  unfold SeqAt.shaped
  rw [Bool.and_eq_true]
  refine ⟨?_, decide_eq_true ?_⟩
  · simp only [PyData.canLay0]
    exact lay_all fun y hy => (h y hy).lay
  · have s : SmOk (.list xs) (xs.length * 37) 2 := SmOk.lst (fun y hy => (h y hy).sm) (Nat.le_refl _)
    exact Nat.le_trans s.dp (by decide)
theorem tupA_rep {K : PySem.W.Frag} {H : Hp} {Q : VK} {v : V} {xs : List PyData} (dd : Dp K H v (.list xs)) (h : ∀ x ∈ xs, TupA x) (l : xs.length ≤ 1000) (q : Q (.str (PyData.shown (.list xs))) H) : rReprA K [v] H Q := by
  have s : SmOk (.list xs) (xs.length * 37) 2 := SmOk.lst (fun y hy => (h y hy).sm) (Nat.le_refl _)
  exact rep_sm dd (s.weak (Nat.le_refl _) (by omega)) rfl (by omega) q
theorem atW (z : Str) (h : OkL (tl z)) (l : z.length ≤ 8) : AtS (.str z) := .inr (.inr ⟨z, rfl, h, l⟩)
theorem atN {k : Nat} (h : k < 1000) : AtS (.int (k : Nat)) := .inr (.inl ⟨k, h, rfl⟩)
theorem tupA1 {a b : PyData} (ha : AtS a) (hb : AtS b) : TupA (.tuple [a, b]) := ⟨_, rfl, by simp, fun y hy => by
  simp only [List.mem_cons, List.not_mem_nil, or_false] at hy
  rcases hy with rfl | rfl <;> assumption⟩
theorem tupA2 {a b c : PyData} (ha : AtS a) (hb : AtS b) (hc : AtS c) : TupA (.tuple [a, b, c]) := ⟨_, rfl, by simp, fun y hy => by
  simp only [List.mem_cons, List.not_mem_nil, or_false] at hy
  rcases hy with rfl | rfl | rfl <;> assumption⟩
theorem okw_have : OkL (tl "have") := by unfold OkL; decide +kernel
theorem okw_begin : OkL (tl "begin") := by unfold OkL; decide +kernel
theorem okw_end : OkL (tl "end") := by unfold OkL; decide +kernel
theorem have_tup {m : Nat} (h : m < 100) : TupA (haveE m) := tupA1 (atW _ okw_have (by decide +kernel)) (atN (k := m + 1) (by omega))
theorem logC_tup {m : Nat} (hm : m < 100) : ∀ (L : List Str) (k : Nat), (∀ z ∈ L, SmN z) → k + L.length ≤ 100 → ∀ e ∈ logC m k L, TupA e
  | [], k, _, _, e, he => by
    rw [List.mem_singleton.mp (show e ∈ [haveE m] from he)]
    exact have_tup hm
  | p :: r, k, h, l, e, he => by
    rw [List.length_cons] at l
    have he : e ∈ beginE k p :: (logC m (k + 1) r ++ [endE k]) := he
    rcases List.mem_cons.mp he with rfl | he
    · exact tupA2 (atW _ okw_begin (by decide +kernel)) (atN (k := k + 1) (by omega)) (atW _ (h p List.mem_cons_self).ok (h p List.mem_cons_self).len)
    · rcases List.mem_append.mp he with he | he
      · exact logC_tup hm r (k + 1) (fun z hz => h z (List.mem_cons_of_mem _ hz)) (by omega) e he
      · rw [List.mem_singleton.mp he]
        exact tupA1 (atW _ okw_end (by decide +kernel)) (atN (k := k + 1) (by omega))
theorem papC_tup {pl : Str → Nat} : ∀ (L : List Str) (k : Nat) (l : List (Nat × Nat)), (∀ z ∈ L, pl z ≤ 100) → k + L.length ≤ 100 → (∀ x ∈ l, x.1 < 100 ∧ x.2 ≤ 100) → ∀ e ∈ papC pl k l L, TupA e
  | [], _, _, _, _, _, _, he => nomatch he
  | p :: r, k, l, h, lk, hl, e, he => by
    rw [List.length_cons] at lk
    have he : e ∈ papE k l :: papC pl (k + 1) (l ++ [(k, pl p)]) r := he
    rcases List.mem_cons.mp he with rfl | he
    · unfold papE
      cases g : l.getLast? with
      | none => exact tupA2 (atN (k := k + 1) (by omega)) (.inl rfl) (.inl rfl)
      | some x =>
        have := hl x (List.mem_of_getLast? g)
        exact tupA2 (atN (k := k + 1) (by omega)) (atN (k := x.1 + 1) (by omega)) (atN (k := x.2) (by omega))
    · refine papC_tup r (k + 1) _ (fun z hz => h z (List.mem_cons_of_mem _ hz)) (by omega) (fun x hx => ?_) e he
      rcases List.mem_append.mp hx with hx | hx
      · exact hl x hx
      · rw [List.mem_singleton.mp hx]
        exact ⟨by show k < 100; omega, h p List.mem_cons_self⟩
theorem logC_len (m : Nat) : ∀ (k : Nat) (L : List Str), (logC m k L).length = 2 * L.length + 1
  | _, [] => rfl
  | k, p :: r => by
    show (beginE k p :: (logC m (k + 1) r ++ [endE k])).length = _
    simp only [List.length_cons, List.length_append, logC_len m (k + 1) r, List.length_nil]
    omega
theorem papC_len (pl : Str → Nat) : ∀ (L : List Str) (k : Nat) (l : List (Nat × Nat)), (papC pl k l L).length = L.length
  | [], _, _ => rfl
  | p :: r, k, l => by
    show (papC pl (k + 1) (l ++ [(k, pl p)]) r).length + 1 = _
    rw [papC_len pl r]
    rfl
/-- == of such lists, of such dicts -/
theorem eq_tupA {K : PySem.W.Frag} {H : Hp} {Q : VK} {x y : V} {xs : List PyData} (hx : Dp K H x (.list xs)) (hy : Dp K H y (.list xs)) (h : ∀ x ∈ xs, TupA x) (q : Q (.bl true) H) : rEqD K x y H Q := by
  have sh := tupA_shaped h
  refine s_eqD hx hy sh sh ?_
  rw [SeqAt.eqv_refl _ (SeqAt.canLay_of_shaped sh)]
  exact q
theorem tabW_mem {L : List Str} (nd : L.Nodup) : ∀ p ∈ tabW (tabC 0 L), valV (tabW (tabC 0 L)) p.1 = some p.2 ∧ flatB p.2 = true := fun p hp => by
  obtain ⟨x, hx, rfl⟩ := List.mem_map.mp hp
  obtain ⟨i, hi⟩ := List.mem_iff_getElem?.mp hx
  have l : i < L.length := by
    have := (List.getElem?_eq_some_iff.mp hi).1
    rw [tabC_rng, List.length_map, List.length_range] at this
    exact this
  have ez := List.getElem?_eq_getElem l
  rw [tabC_at ez] at hi
  cases hi
  exact ⟨valV_tabW nd ez, rfl⟩
end PH

/-! FHn: what failed, by its numbers. -/
namespace PH
open PySem PySem.Spec PyProof.Rows L2 HL TL
def numF : PyData → Option Int
  | .tuple (.str w :: .int n :: _) => if w = "fail" then some n else none
  | _ => none
def EntF (e : PyData) : Prop := ∃ w n r, e = .tuple (.str w :: .int n :: r)
def logN (f : PyData) (L : List Str) : Nat → List PyData
  | 0 => []
  | i + 1 => logN f L i ++ logF f (i * L.length) L
theorem logF_ent {f : PyData} : ∀ (L : List Str) (k : Nat), ∀ e ∈ logF f k L, EntF e
  | [], _, _, he => nomatch he
  | p :: r, k, e, he => by
    have he : e ∈ beginE k p :: (logF f (k + 1) r ++ [failE k f]) := he
    rcases List.mem_cons.mp he with rfl | he
    · exact ⟨_, _, _, rfl⟩
    · rcases List.mem_append.mp he with he | he
      · exact logF_ent r (k + 1) e he
      · rw [List.mem_singleton.mp he]; exact ⟨_, _, _, rfl⟩
theorem logN_ent {f : PyData} {L : List Str} : ∀ (i : Nat), ∀ e ∈ logN f L i, EntF e
  | 0, _, he => nomatch he
  | i + 1, e, he => by
    rcases List.mem_append.mp (show e ∈ logN f L i ++ logF f (i * L.length) L from he) with he | he
    · exact logN_ent i e he
    · exact logF_ent L _ e he
theorem logF_len (f : PyData) : ∀ (k : Nat) (L : List Str), (logF f k L).length = 2 * L.length
  | _, [] => rfl
  | k, p :: r => by
    show (beginE k p :: (logF f (k + 1) r ++ [failE k f])).length = _
    simp only [List.length_cons, List.length_append, logF_len f (k + 1) r, List.length_nil]
    omega
theorem logF_num (f : PyData) (k : Nat) (L : List Str) : (logF f k L).filterMap numF = (List.range L.length).map fun i : Nat => ((k : Int) + (L.length : Int)) - (i : Int) := by
  rw [logF_rng, List.filterMap_append]
  have h1 : (begC k L).filterMap numF = [] := by
    rw [List.filterMap_eq_nil_iff]
    intro e he
    unfold begC at he
    obtain ⟨i, _, rfl⟩ := List.mem_map.mp he
    show (if ("begin" : Str) = "fail" then some ((k + i + 1 : Nat) : Int) else none) = none
    rw [if_neg (by decide +kernel)]
  have h2 : (faiC f k L.length).filterMap numF = (List.range L.length).map fun i : Nat => ((k : Int) + (L.length : Int)) - (i : Int) := by
    unfold faiC
    have all : ∀ l : List Nat, (∀ i ∈ l, i < L.length) → (l.map fun i => failE (k + (L.length - 1 - i)) f).filterMap numF = l.map fun i : Nat => ((k : Int) + (L.length : Int)) - (i : Int) := fun l => by
      induction l with
      | nil => exact fun _ => rfl
      | cons i r ih =>
        intro h
        have hi := h i List.mem_cons_self
        rw [List.map_cons, List.map_cons, List.filterMap_cons, ih fun j hj => h j (List.mem_cons_of_mem _ hj)]
        have e : numF (failE (k + (L.length - 1 - i)) f) = some (((k : Int) + (L.length : Int)) - (i : Int)) := by
          show (if ("fail" : Str) = "fail" then some ((k + (L.length - 1 - i) + 1 : Nat) : Int) else none) = some _
          rw [if_pos rfl]
          congr 1
          omega
        rw [e]
    exact all _ fun i hi => List.mem_range.mp hi
  rw [h1, h2]
  rfl
/-- an entry's first two parts -/
theorem ent_at {K : PySem.W.Frag} {H : Hp} {v : V} {w : Str} {n : Int} {r : List PyData} (h : Dp K H v (.tuple (.str w :: .int n :: r))) : ∃ a xs, v = .ref a ∧ SqT K H a (.str w :: .int n :: xs) := by
  cases h with
  | tup s d =>
    cases d with
    | cons d1 d =>
      cases d1
      cases d with
      | cons d2 d =>
        cases d2
        exact ⟨_, _, rfl, s⟩
theorem dpAll_get {K : PySem.W.Frag} {H : Hp} {i : Nat} {v : V} : ∀ {xs : List V} {ds : List PyData}, DpAll K H xs ds → xs[i]? = some v → ∃ d, ds[i]? = some d ∧ Dp K H v d := by
  induction i with
  | zero =>
    intro xs ds h e
    cases h with
    | nil => cases e
    | cons h t => cases e; exact ⟨_, rfl, h⟩
  | succ i ih =>
    intro xs ds h e
    cases h with
    | nil => cases e
    | cons h t => exact ih t e
theorem dp_ints {K : PySem.W.Frag} {H : Hp} : ∀ ns : List Int, DpAll K H (ns.map V.int) (ns.map PyData.int)
  | [] => .nil
  | n :: r => .cons (.int n) (dp_ints r)
theorem shaped_ints (ns : List Int) : SeqAt.shaped (.list (ns.map PyData.int)) = true := by
  unfold SeqAt.shaped
  rw [Bool.and_eq_true]
  have h : PyData.canLayAll0 (ns.map PyData.int) = true ∧ PyData.depthAll (ns.map PyData.int) = 0 := by
    induction ns with
    | nil => exact ⟨by simp only [List.map_nil, PyData.canLayAll0], by simp only [List.map_nil, PyData.depthAll]⟩
    | cons n r ih =>
      refine ⟨?_, ?_⟩
      · simp only [List.map_cons, PyData.canLayAll0, PyData.canLay0, ih.1, Bool.and_self]
      · simp only [List.map_cons, PyData.depthAll, PyData.depth, ih.2, Nat.max_self]
  refine ⟨?_, decide_eq_true ?_⟩
  · simp only [PyData.canLay0]
    exact h.1
  · simp only [PyData.depth, h.2]
    decide
theorem eq_ints {K : PySem.W.Frag} {H : Hp} {Q : VK} {a b : Addr} {ns : List Int} (ha : H a = some (.lst (ns.map V.int))) (hb : H b = some (.lst (ns.map V.int))) (q : Q (.bl true) H) : rEqD K (.ref a) (.ref b) H Q := by
  have sh := shaped_ints ns
  refine s_eqD (.lst (sq_l ha) (dp_ints ns)) (.lst (sq_l hb) (dp_ints ns)) sh sh ?_
  rw [SeqAt.eqv_refl _ (SeqAt.canLay_of_shaped sh)]
  exact q
/-- what is refused, as it is told -/
def refD (f : PyData) (pl : Str → Nat) (L : List Str) : PyData := .tuple [S "refused", f, .list (L.map fun p => stepE p (pl p))]
theorem refD_sm {q : Str} {pl : Str → Nat} {L : List Str} (hq : SmN q) (hL : ∀ z ∈ L, SmN z) (hp : ∀ z ∈ L, pl z ≤ 100) (l : L.length ≤ 16) : SmOk (refD (noModF q) pl L) 1800 3 := by
  have h1 : SmOk (S "refused") 592 2 := (SmOk.str (by unfold OkL; decide +kernel)).weak (by decide +kernel) (by decide)
  have h2 : SmOk (noModF q) 592 2 := (tupA1 (atW _ (by unfold OkL; decide +kernel) (by decide +kernel)) (atW _ hq.ok hq.len)).sm.weak (by decide) (by decide)
  have h3 : SmOk (.list (L.map fun p => stepE p (pl p))) 592 2 := by
    refine SmOk.lst (n := 36) (k := 1) (fun x hx => ?_) (by rw [List.length_map]; omega)
    obtain ⟨z, hz, rfl⟩ := List.mem_map.mp hx
    exact (tupA1 (atW _ (hL z hz).ok (hL z hz).len) (atN (k := pl z) (by have := hp z hz; omega))).sm
  refine SmOk.tup (n := 592) (k := 2) (fun x hx => ?_) (by show 3 * 593 ≤ 1800; decide)
  simp only [List.mem_cons, List.not_mem_nil, or_false] at hx
  rcases hx with rfl | rfl | rfl <;> assumption
/-- one more try that fails -/
theorem no_more {fnd : Str → Option (List Row)} {pl : Str → Nat} {q : Str} {L : List Str} {ps : List Str} (B : Bodies ps fnd) (hc : Chn fnd pl q L) (lL : L.length ≤ 16) (nd : L.Nodup) (fq : fnd q = none) (nq : q ∉ L) {i : Nat} {a : Ab} (e1 : a.tab = []) (e2 : a.line = []) (e3 : a.qs.length = i * L.length) (e4 : a.log = logN (noModF q) L i) :
    ∃ b, oneF wayR fnd 18 a.unbroken (L.headD q) = (b, .error (noModF q)) ∧ b.tab = [] ∧ b.line = [] ∧ b.qs.length = (i + 1) * L.length ∧ b.log = logN (noModF q) L (i + 1) ∧ b.met = L.map (fun p => stepE p (pl p)) ∧ lot ps b ≤ lot ps a.unbroken + 1 := by
  obtain ⟨b, f1, f2, f3, f4, f5, f6⟩ := chn_no (fnd := fnd) (pl := pl) (q := q) L 18 a.unbroken hc (by omega) nd (fun p _ => ⟨by show getA a.tab p = none; rw [e1]; rfl, rfl⟩) (by show getA a.tab q = none; rw [e1]; rfl) rfl fq nq (fun x hx => by
    have hx : x ∈ a.line := hx
    rw [e2] at hx
    cases hx)
  have gr := gr_one (fnd := fnd) (wayR_ok ps) B 18 a.unbroken (L.headD q)
  rw [f1] at gr
  refine ⟨b, f1, f3.trans e1, f6.trans e2, ?_, ?_, ?_, gr.lot⟩
  · rw [f2, List.length_append]
    show a.qs.length + _ = _
    rw [e3, Nat.succ_mul]
  · rw [f4]
    show a.log ++ logF (noModF q) a.qs.length L = logN (noModF q) L i ++ logF (noModF q) (i * L.length) L
    rw [e4, e3]
  · rw [f5]
    show a.unbroken.road a.line ++ _ = _
    rw [e2]
    rfl
end PH

/-! HSi: sorted of a dict's items, keys texts. -/
namespace HL
open PySem PySem.Spec PyProof.Rows L2 TL
/-! pairs told at their places -/
def layT (H : Hp) (as : List Addr) (kvs : List (Key × V)) : Hp := fun b => match (as.zip kvs).find? fun x => decide (x.1 = b) with
  | some x => some (.tup [kV x.2.1, x.2.2])
  | none => H b
theorem layT_off {H : Hp} {as : List Addr} {kvs : List (Key × V)} {b : Addr} (n : b ∉ as) : layT H as kvs b = H b := by
  have : (as.zip kvs).find? (fun x => decide (x.1 = b)) = none := List.find?_eq_none.mpr fun x hx e => n (by rw [← of_decide_eq_true e]; exact (List.of_mem_zip hx).1)
  unfold layT
  rw [this]
theorem layT_on {H : Hp} {t : Addr} {q : Key × V} : ∀ {as : List Addr} {kvs : List (Key × V)} {j : Nat}, as.Nodup → as[j]? = some t → kvs[j]? = some q → layT H as kvs t = some (.tup [kV q.1, q.2])
  | a :: as, k :: kvs, 0, _, e, f => by
    cases e
    cases f
    unfold layT
    rw [List.zip_cons_cons, List.find?_cons, decide_eq_true (show (t, q).1 = t from rfl)]
  | a :: as, k :: kvs, j + 1, nd, e, f => by
    have nd := List.nodup_cons.mp nd
    have e : as[j]? = some t := e
    have ne : ¬ a = t := fun c => nd.1 (c ▸ List.mem_of_getElem? e)
    have ih := layT_on (H := H) nd.2 e f
    unfold layT at ih ⊢
    rw [List.zip_cons_cons, List.find?_cons, decide_eq_false ne]
    exact ih
  | [], _, _, _, e, _ => nomatch e
  | _ :: _, [], 0, _, _, f => nomatch f
  | _ :: _, [], _ + 1, _, _, f => nomatch f
theorem at_pair {α β : Type} {as : List α} {bs : List β} {b : α} (m : b ∈ as) (l : as.length = bs.length) : ∃ (j : Nat) (q : β), as[j]? = some b ∧ bs[j]? = some q := by
  obtain ⟨j, hj⟩ := List.mem_iff_getElem?.mp m
  have lj := (List.getElem?_eq_some_iff.mp hj).1
  exact ⟨j, bs[j]'(by omega), hj, List.getElem?_eq_getElem (by omega)⟩
theorem kv_at {kvs : List (Key × V)} {vs : List (Key × Value)} (h : KV kvs vs) {j : Nat} {q : Key × V} {k : Key} {x : Value} (e : kvs[j]? = some q) (f : vs[j]? = some (k, x)) : q.1 = k ∧ RelV q.2 x := by
  obtain ⟨y, g, r⟩ := LiI.paired_get h e
  rw [f] at g
  cases g
  exact r
theorem tups_told {X : Cx} {pins : List (Addr × Obj)} {σ : L2.St} {H : Hp} {s : Shared} {h' : Heap} {tk : Nat} {kvs : List (Key × V)} {vs : List (Key × Value)} {as : List Addr} (I : Inv X pins σ H s) (kv : KV kvs vs)
    (old : ∀ b o, s.heap.get? b = some o → h'.get? b = some o) (la : as.length = vs.length) (G : PySem.W.KdxG (mixKind X.prog X.w) vs s.heap.objs.size h' as) :
    (∀ b o, H b = some o → layT H as kvs b = some o) ∧ (∀ t ∈ as, H t = none) ∧ as.Nodup ∧ Inv X pins σ (layT H as kvs) { s with heap := h', toks := tk } := by
  have lk : as.length = kvs.length := la.trans (Paired.length kv).symm
  have nd : as.Nodup := List.Pairwise.imp (fun h => Nat.ne_of_lt h) G.rise
  have new : ∀ t ∈ as, H t = none := fun t m => I.hok.fresh (Nat.le_of_lt (G.above t m))
  have stay : ∀ b o, H b = some o → layT H as kvs b = some o := fun b o e => (layT_off fun m => by rw [new b m] at e; cases e).trans e
  have was : ∀ b o, s.heap.get? b = some o → b ∉ as := fun b o e m => absurd (Heap.lt_size e) (Nat.not_lt.mpr (Nat.le_of_lt (G.above b m)))
  refine ⟨stay, new, nd, I.un ⟨fun b o e _ _ _ => old b o e, fun b o e _ _ _ => ⟨o.slots, old b o e⟩, fun b o e n _ => (layT_off (was b o e)).trans n, fun b o e _ => ⟨o, old b o e⟩, fun b xs e => stay b _ e, fun b o u e => stay b _ e, fun b ps e => ⟨#[], by rw [stay b _ e]; simp⟩⟩ fun b u e => ?_⟩
  by_cases m : b ∈ as
  · obtain ⟨j, q, e1, e2⟩ := at_pair m lk
    rw [layT_on nd e1 e2] at e
    cases e
    obtain ⟨key, k, x, f1, f2, f3⟩ := G.pairs j b e1
    obtain ⟨g1, g2⟩ := kv_at kv e2 f1
    have rk : RelV (kV q.1) key := by
      rw [g1]
      exact relV_key (show keyIs k key = true from f2)
    exact ⟨by show 2 ≤ sizeLine; decide, [key, x], .cons rk (.cons g2 .nil), _, f3, rfl, _, rfl⟩
  · rw [layT_off m] at e
    exact (I.hok b u e).stay (fun d v _ y => old d v y) (fun d y => stay d _ y) fun d xs y => stay d _ y
/-! texts by their signs -/
def ltS (a b : Str) : Bool := decide (a.cps.toList < b.cps.toList)
theorem ltCps_iff : ∀ a b : List Nat, ltCps a b = decide (a < b)
  | [], [] => by simp [ltCps]
  | [], b :: t => by simp [ltCps]
  | a :: r, [] => by simp [ltCps]
  | a :: r, b :: t => by
    have ih := ltCps_iff r t
    unfold ltCps
    rw [ih, Bool.eq_iff_iff]
    simp only [Bool.or_eq_true, Bool.and_eq_true, decide_eq_true_eq, beq_iff_eq]
    rw [List.cons_lt_cons_iff]
theorem swoS (k : Value → Str) : SrtO.Swo fun v u => ltS (k v) (k u) := by
  refine ⟨fun x y h => ?_, fun x y z h g => ?_⟩
  · have h := of_decide_eq_true h
    exact decide_eq_false fun g => List.lt_irrefl _ (List.lt_trans h g)
  · have h := of_decide_eq_false h
    have g := of_decide_eq_false g
    exact decide_eq_false fun e => absurd e (List.not_lt.mpr (List.le_trans (List.not_lt.mp h) (List.not_lt.mp g)))
/-- a pair whose first part is a text -/
def IsNm (h : Heap) (v : Value) (z : Str) : Prop := ∃ a o t y n, v = .ref a ∧ h.get? a = some o ∧ o.cls = .type "tuple" ∧ o.data = .seq #[.str z t, y] n
theorem IsNm.on {h h' : Heap} {v : Value} {z : Str} (p : IsNm h v z) (k : ∀ b o, h.get? b = some o → o.cls = .type "tuple" → h'.get? b = some o) : IsNm h' v z := by
  obtain ⟨a, o, t, y, n, e, e1, e2, e3⟩ := p
  exact ⟨a, o, t, y, n, e, k a o e1 e2, e2, e3⟩
theorem nm_firsts {h : Heap} : ∀ {vs : List Value}, (∀ v ∈ vs, ∃ z, IsNm h v z) → ∃ fs : List Value, PySem.W.KatTups h vs fs ∧ fs.length = vs.length ∧ ∀ f ∈ fs, ∃ z t, f = Value.str z t
  | [], _ => ⟨[], .nil, rfl, fun f m => nomatch m⟩
  | v :: vs, p => by
    obtain ⟨fs, g1, g2, g3⟩ := nm_firsts (vs := vs) fun u m => p u (List.mem_cons_of_mem _ m)
    obtain ⟨z, a, o, t, y, n, rfl, e1, e2, e3⟩ := p v List.mem_cons_self
    refine ⟨.str z t :: fs, .cons e1 e2 e3 rfl g1, by rw [List.length_cons, List.length_cons, g2], fun f m => ?_⟩
    rcases List.mem_cons.mp m with rfl | m
    · exact ⟨z, t, rfl⟩
    · exact g3 f m
section
variable {prog : Program} {w : World} {A : Around} {E : Value → Shared → Prop} {s : Shared} {k : Value → Str}
theorem nm_cmp {vs : List Value} (p : ∀ v ∈ vs, IsNm s.heap v (k v)) (inj : ∀ v ∈ vs, ∀ u ∈ vs, k v = k u → v = u) : SrtO.Cmp prog w A s (tuples' true) (fun p => p.1 ∈ vs) (SrtO.lt2 fun v u => ltS (k v) (k u)) := by
  intro x y mx my
  have hx := p _ mx
  have hy := p _ my
  have iv := inj _ mx _ my
  show wpAny (model prog w) A (keyLt' (tuples' true) x.1 y.1) (fun r s' => s' = s ∧ r = ltS (k x.1) (k y.1)) (fun _ _ => False) s
  generalize k x.1 = z at *
  generalize k y.1 = z' at *
  obtain ⟨a, o, t, u, n, e, e1, e2, e3⟩ := hx
  obtain ⟨a', o', t', u', n', e', f1, f2, f3⟩ := hy
  rw [e, e']
  refine PySem.W.kat_lt e1 e3 f1 f3 ?_
  show PySem.W.KatLex prog w A true (decide (2 < 2)) _ [(.str z t, .str z' t'), (u, u')] 0 s
  refine PySem.W.kat_cons (SeqAt.EqAt.str_str z t z' t' prog w _ _ (PySem.W.kat_go (fun c => ?_) fun c => ?_))
  · have ez : z = z' := by simpa using c
    have ea := iv ez
    rw [e, e'] at ea
    cases ea
    rw [e1] at f1
    cases f1
    rw [e3] at f3
    have eu : u = u' := by
      injection f3 with g _
      have g2 := congrArg (fun b : Array Value => b[1]?) g
      simpa using g2
    refine PySem.W.kat_yes (PySem.W.kat_cons ?_)
    rw [← eu]
    refine SeqAt.EqAt.same u prog w _ _ (PySem.W.kat_yes (PySem.W.kat_nil ⟨rfl, ?_⟩))
    rw [ez]
    exact (decide_eq_false (List.lt_irrefl _)).symm
  · exact PySem.W.kat_no (oneLt_str ⟨rfl, rfl⟩)
theorem nm_sortable {a : Addr} {vs : List Value} (h0 : 0 < vs.length) (p : ∀ v ∈ vs, IsNm s.heap v (k v)) (inj : ∀ v ∈ vs, ∀ u ∈ vs, k v = k u → v = u) (na : ∀ o, s.heap.get? a = some o → o.cls ≠ .type "tuple") : SrtO.SortableO prog w A s a vs fun v u => ltS (k v) (k u) := by
  intro h' keep
  have p' : ∀ v ∈ vs, IsNm h' v (k v) := fun v m => (p v m).on fun b o e c => keep b o (fun q => na o (by rw [← q]; exact e) c) e
  obtain ⟨fs, g1, g2, g3⟩ := nm_firsts fun v m => ⟨_, p' v m⟩
  refine ⟨tuples' true, fun Q E q => ?_, nm_cmp (s := { s with heap := h' }) p' inj⟩
  refine PySem.W.kat_kind (T := .type "str") g1 (by omega) (fun f m => ?_) (by rfl) ?_
  · obtain ⟨z, t, rfl⟩ := g3 f m
    exact PySem.W.Looks.now
  · have e : (Value.type "str" != Value.type "tuple") = true := by first | decide +kernel | rfl | decide
    rw [e]
    exact q
end
end HL

/-! HSj: sorted(d.items()), the rule. -/
namespace HL
open PySem PySem.Spec PyProof.Rows L2 TL
theorem sortedS_of : ∀ {ys : List Str}, ys.Pairwise (fun a b => ltS b a = false) → sortedS ys = true
  | [], _ => rfl
  | x :: r, h => by
    have rise : ∀ (p : Str) (r : List Str), (p :: r).Pairwise (fun a b => ltS b a = false) → risingS p r = true := fun p r => by
      induction r generalizing p with
      | nil => exact fun _ => rfl
      | cons y t ih =>
        intro h
        obtain ⟨h1, h2⟩ := List.pairwise_cons.mp h
        unfold risingS
        rw [ih y h2, ltCps_iff, show decide (y.cps.toList < p.cps.toList) = false from h1 y List.mem_cons_self]
        rfl
    exact rise x r h
/-- a pair by its place -/
def pairOf (as : List Addr) (kvs : List (Key × V)) (a : Addr) : Key × V := (((as.zip kvs).find? fun x => decide (x.1 = a)).map (·.2)).getD (.inl 0, .non)
def textOf (k : Key) : Str := match k with
  | .inr z => z
  | .inl _ => ""
theorem pairOf_at {t : Addr} {q : Key × V} : ∀ {as : List Addr} {kvs : List (Key × V)} {j : Nat}, as.Nodup → as[j]? = some t → kvs[j]? = some q → pairOf as kvs t = q
  | a :: as, k :: kvs, 0, _, e, f => by
    cases e
    cases f
    unfold pairOf
    rw [List.zip_cons_cons, List.find?_cons, decide_eq_true (show (t, q).1 = t from rfl)]
    rfl
  | a :: as, k :: kvs, j + 1, nd, e, f => by
    have nd := List.nodup_cons.mp nd
    have e : as[j]? = some t := e
    have ne : ¬ a = t := fun c => nd.1 (c ▸ List.mem_of_getElem? e)
    have ih := pairOf_at nd.2 e f
    unfold pairOf at ih ⊢
    rw [List.zip_cons_cons, List.find?_cons, decide_eq_false ne]
    exact ih
  | [], _, _, _, e, _ => nomatch e
  | _ :: _, [], 0, _, _, f => nomatch f
  | _ :: _, [], _ + 1, _, _, f => nomatch f
theorem pairOf_all {as : List Addr} {kvs : List (Key × V)} (nd : as.Nodup) (l : as.length = kvs.length) : as.map (pairOf as kvs) = kvs := by
  refine List.ext_getElem? fun j => ?_
  rw [List.getElem?_map]
  cases e : as[j]? with
  | none => rw [List.getElem?_eq_none (by rw [← l]; exact List.getElem?_eq_none_iff.mp e)]; rfl
  | some a =>
    have lj := (List.getElem?_eq_some_iff.mp e).1
    have f := List.getElem?_eq_getElem (l := kvs) (i := j) (by omega)
    rw [f]
    exact congrArg some (pairOf_at nd e f)
def addrV (v : Value) : Addr := match v with
  | .ref a => a
  | _ => 0
def tSortedItems (te : TE) : TE := fun σ H Q => te σ H fun x H1 => ∃ (d : Addr) (kvs : List (Key × V)) (ks : List Str), x = .ref d ∧ H1 d = some (.dK kvs) ∧ kvs.map (·.1) = ks.map Sum.inr ∧ ks.Nodup ∧
  ∀ (H' : Hp) (p : Addr) (ts : List Addr) (kvs' : List (Key × V)) (ys : List Str), kvs'.Perm kvs → kvs'.map (·.1) = ys.map Sum.inr → sortedS ys = true → Kp [] H1 H' → H1 p = none → H' p = some (.lst (ts.map V.ref)) → Paired (fun (t : Addr) (q : Key × V) => H' t = some (.tup [kV q.1, q.2])) ts kvs' → Q (.ref p) H'
section
variable {X : Cx} {e : Expr} {te : TE} {p apos cpos pos : Pos}
theorem pe_sortedItems (hc : X.calm = true) (he : PE X e te) (hg : Gl X "sorted") (hm : X.mg "sorted" = none) (hv : bootBuiltins "sorted" = some (.builtin "sorted")) (hbase : attributeBase e "items" X.env (eval e X.env) = eval e X.env := by rfl) (hline : (apos.endLine == cpos.line) = true := by rfl)
    (hs : starEach [.Call (.Attribute e "items" apos) [] [] cpos] X.env = (false, eval (.Call (.Attribute e "items" apos) [] [] cpos) X.env) :: starEach [] X.env := by rfl) (hpl : (backTo pos (starEach [] X.env)).any (·.1) = false := by rfl) :
    PE X (.Call (.Name "sorted" p) [.Call (.Attribute e "items" apos) [] [] cpos] [] pos) (tSortedItems te) := by
  constructor
  intro pins s σ H Q I hq
  refine wpAny_Call_Name_kw (ld_blt I hg hm hv ?_)
  refine PyProof.Rows.callWith_builtin1 ?_ hs hpl
  rw [hs]
  show wpAny _ _ (spliced ((false, eval (.Call (.Attribute e "items" apos) [] [] cpos) X.env) :: backTo pos (starEach [] X.env))) _ _ s
  refine Calls.spliced_cons (wpAny_Call_method (T := "dict") (id := "dict.items") hbase rfl hline F.plainAttrs_dict F.slot_dict_items F.type_dict_items (thn (he.run pins s σ H _ I hq) ?_))
  rintro u s1 ⟨x, H1, I1, rx, d, kvs, ks, rfl, hd, hk, nd, q⟩
  obtain rfl : u = Value.ref d := rx
  obtain ⟨hz, hs0, vs, kv, hdo⟩ := I1.hok d _ hd
  obtain ⟨ep, hat⟩ := hdo.dictAt
  have lk : kvs.length = vs.length := Paired.length kv
  have I2 : Inv X pins σ H1 { s1 with heap := s1.heap.push { cls := .type "dict_items", data := .fields #[.ref d] } } := I1.kept (t' := s1.toks) fun b ob z => Heap.get?_push_of_some _ z
  refine ⟨hdo.typeIs, hdo.mapOf.noDict, ?_⟩
  show wpAny _ _ (callWith cpos (.builtin "dict.items") [.ref d] [] []) _ X.xe s1
  refine method_meetsIn F.slot_dict_items F.entry_dict_items rfl (PySem.evalArgs_none ⟨rfl, hdo.typeIs, F.args_dict_items_1 _, _, meets_dict_items (mixKind X.prog X.w) d hs0, ⟨vs, hdo⟩, ?_⟩)
  refine Calls.spliced_nil ?_
  refine Calls.call_function_entry PyProof.Rows.kind_sorted PyProof.Rows.plain_sorted PyProof.Rows.entry_sorted (PyProof.Rows.args_sorted1 _) ?_
  unfold Builtin.«sorted»
  refine wpAny_bind (m := checkCount "sorted" 1 1 _) (wpAny_pure ?_)
  refine wpAny_bind (PySem.W.kdx_collect (A := X.A.in1) (knd := mixKind X.prog X.w) (kvs := vs) (ep := ep) (I1.ok.hd hc) ⟨_, Heap.get?_push_size _ rfl, rfl, rfl⟩ (hat.push _) (by omega) fun h' tk as old la G => ?_)
  obtain ⟨stay, new, nda, J⟩ := tups_told (tk := tk) I2 kv old la G
  have lak : as.length = kvs.length := by omega
  refine wpAny_bind (wpAny_newList ?_ (by rw [List.length_map]; omega))
  have eL : (h'.push (seqObj "list" (as.map Value.ref).toArray 0)).get? h'.objs.size = some (seqObj "list" (as.map Value.ref).toArray 0) := Heap.get?_push_size _ rfl
  show wpAny _ _ _ _ _ { s1 with heap := h'.push (seqObj "list" (as.map Value.ref).toArray 0), toks := tk }
  have nmA : ∀ a ∈ as, IsNm h' (.ref a) (textOf (pairOf as kvs a).1) ∧ (pairOf as kvs a).1 = Sum.inr (textOf (pairOf as kvs a).1) := fun a ma => by
    obtain ⟨j, kq, e1, e2⟩ := at_pair ma lak
    rw [pairOf_at nda e1 e2]
    obtain ⟨key, k, x, f1, f2, f3⟩ := G.pairs j a e1
    obtain ⟨g1, _⟩ := kv_at kv e2 f1
    have mk : kq.1 ∈ ks.map Sum.inr := by rw [← hk]; exact List.mem_map.mpr ⟨kq, List.mem_of_getElem? e2, rfl⟩
    obtain ⟨z, _, ez⟩ := List.mem_map.mp mk
    rw [← ez] at g1 ⊢
    cases g1
    obtain ⟨t, ev⟩ := Value.isStrOf_shape (x := z) (v := key) f2
    cases ev
    exact ⟨⟨a, _, t, x, _, rfl, f3, rfl, rfl⟩, rfl⟩
  have texts : as.map (fun a => textOf (pairOf as kvs a).1) = ks := by
    have h1 : (as.map fun a => textOf (pairOf as kvs a).1) = (kvs.map (·.1)).map textOf := by
      have := congrArg (List.map fun q : Key × V => textOf q.1) (pairOf_all nda lak)
      rw [List.map_map] at this
      rw [List.map_map]
      exact this
    rw [h1, hk, List.map_map]
    exact List.map_id' _
  have nmV : ∀ v ∈ as.map Value.ref, IsNm h' v (textOf (pairOf as kvs (addrV v)).1) := fun v mv => by
    obtain ⟨a, ma, rfl⟩ := List.mem_map.mp mv
    exact (nmA a ma).1
  have injA : ∀ v ∈ as.map Value.ref, ∀ u ∈ as.map Value.ref, textOf (pairOf as kvs (addrV v)).1 = textOf (pairOf as kvs (addrV u)).1 → v = u := fun v mv u mu e => by
    obtain ⟨a, ma, rfl⟩ := List.mem_map.mp mv
    obtain ⟨b, mb, rfl⟩ := List.mem_map.mp mu
    obtain ⟨i, hi⟩ := List.mem_iff_getElem?.mp ma
    obtain ⟨j, hj⟩ := List.mem_iff_getElem?.mp mb
    have ei : ks[i]? = some (textOf (pairOf as kvs a).1) := by rw [← texts, List.getElem?_map, hi]; rfl
    have ej : ks[j]? = some (textOf (pairOf as kvs b).1) := by rw [← texts, List.getElem?_map, hj]; rfl
    have e : textOf (pairOf as kvs a).1 = textOf (pairOf as kvs b).1 := e
    rw [← e] at ej
    have : i = j := (List.getElem?_inj (List.getElem?_eq_some_iff.mp ei).1 nd).mp (ei.trans ej.symm)
    subst this
    rw [hi] at hj
    cases hj
    rfl
  refine wpAny_bind (wpAny_holding (wpAny_call_entry PyProof.Rows.slot_list_sort ⟨_, eL, rfl⟩ PyProof.Rows.entry_list_sort
    (SrtO.list_sort_ord (s := { s1 with heap := h'.push (seqObj "list" (as.map Value.ref).toArray 0), toks := tk }) (swoS fun v => textOf (pairOf as kvs (addrV v)).1) eL (by rw [List.length_map]; omega)
      (fun h2 => nm_sortable (by omega) (fun v mv => (nmV v mv).on fun b o e _ => Heap.get?_push_of_some _ e) injA fun o e => ?_) fun out so pm => ⟨_, rfl, ?_⟩) (PyProof.Rows.args_list_sort _)))
  · rw [eL] at e
    cases e
    exact fun c => absurd (Value.type.inj c) (by decide)
  have pmo := pm.perm
  have eo : out = (out.map addrV).map Value.ref := by
    rw [List.map_map]
    refine ((List.map_congr_left fun v mv => ?_).trans (List.map_id' out)).symm
    obtain ⟨a, _, rfl⟩ := List.mem_map.mp (pmo.mem_iff.mp mv)
    rfl
  have pt : (out.map addrV).Perm as := by
    have := pmo.map addrV
    rwa [List.map_map, show addrV ∘ Value.ref = id from rfl, List.map_id] at this
  have sot : (out.map fun v => textOf (pairOf as kvs (addrV v)).1).Pairwise (fun a b => ltS b a = false) := List.pairwise_map.mpr so
  generalize hts : out.map addrV = ts at *
  have eys : (out.map fun v => textOf (pairOf as kvs (addrV v)).1) = ts.map fun a => textOf (pairOf as kvs a).1 := by
    rw [← hts, List.map_map]
    rfl
  rw [eys] at sot
  subst eo
  obtain ⟨e', he'⟩ := PyProof.Rows.sortedHeap_at (vs := as.map Value.ref) (out := (ts.map Value.ref).toArray) eL
  have lts : ts.length = as.length := pt.length_eq
  refine wpAny_pure ⟨_, rfl, .ref h'.objs.size, upd (layT H1 as kvs) h'.objs.size (.lst (ts.map V.ref)), J.laid (t' := tk) (fun b u e => ?_) (Nat.le_refl _)
    (show ObjOk X.prog X.w _ _ _ (.lst (ts.map V.ref)) from ⟨by rw [List.length_map]; omega, ts.map Value.ref, e', LiI.vals_refs ts, he'⟩), rfl, ?_⟩
  · have hb : b < h'.objs.size := Heap.lt_size e
    refine (PyProof.Rows.sortedHeap_old (Nat.ne_of_lt hb) ?_).trans (Heap.get?_push_of_some _ e)
    rw [size_push']
    exact Nat.lt_succ_of_lt hb
  · have nL : (layT H1 as kvs) h'.objs.size = none := J.hok.fresh (Nat.le_refl _)
    have nLa : h'.objs.size ∉ as := fun m => by
      obtain ⟨j, kq, e1, e2⟩ := at_pair m lak
      rw [layT_on nda e1 e2] at nL
      cases nL
    have n1 : H1 h'.objs.size = none := by rwa [layT_off nLa] at nL
    refine q _ _ ts (ts.map (pairOf as kvs)) (ts.map fun a => textOf (pairOf as kvs a).1) ?_ ?_ (sortedS_of sot) (fun b o _ h => ?_) n1 upd_same ?_
    · have := pt.map (pairOf as kvs)
      rwa [pairOf_all nda lak] at this
    · rw [List.map_map, List.map_map]
      refine List.map_congr_left fun a ma => ?_
      exact (nmA a (pt.mem_iff.mp ma)).2
    · exact (upd_ne fun c => by rw [c, n1] at h; cases h).trans (stay b o h)
    · have all : ∀ l : List Addr, (∀ a ∈ l, a ∈ as) → Paired (fun (t : Addr) (q : Key × V) => upd (layT H1 as kvs) h'.objs.size (.lst (ts.map V.ref)) t = some (.tup [kV q.1, q.2])) l (l.map (pairOf as kvs)) := fun l => by
        induction l with
        | nil => exact fun _ => .nil
        | cons a r ih =>
          intro h
          refine .cons ?_ (ih fun b m => h b (List.mem_cons_of_mem _ m))
          have ma := h a List.mem_cons_self
          obtain ⟨j, kq, e1, e2⟩ := at_pair ma lak
          rw [pairOf_at nda e1 e2]
          exact (upd_ne fun c => nLa (by rw [← c]; exact ma)).trans (layT_on nda e1 e2)
      exact all ts fun a ma => pt.mem_iff.mp ma
end
theorem s_sortedItems {te : TE} {σ : L2.St} {H : Hp} {Q : VK} (h : te σ H fun x H1 => ∃ (d : Addr) (kvs : List (Key × V)) (ks : List Str), x = .ref d ∧ H1 d = some (.dK kvs) ∧ kvs.map (·.1) = ks.map Sum.inr ∧ ks.Nodup ∧
  ∀ (H' : Hp) (p : Addr) (ts : List Addr) (kvs' : List (Key × V)) (ys : List Str), kvs'.Perm kvs → kvs'.map (·.1) = ys.map Sum.inr → sortedS ys = true → Kp [] H1 H' → H1 p = none → H' p = some (.lst (ts.map V.ref)) → Paired (fun (t : Addr) (q : Key × V) => H' t = some (.tup [kV q.1, q.2])) ts kvs' → Q (.ref p) H') : tSortedItems te σ H Q := h
end HL

/-! HSk: equal lists of dicts, compared by !=. -/
namespace PySem.SeqAt
open AutoSeq1 (wpAny_loadPart')
open MeetsSeq MeetsSeq2 MeetsSeq3 SeqRoads2
abbrev lob (dx : Option Addr) (xs : Array Value) (m : Nat) (so : Array (Option Value)) : Obj := { cls := .type "list", dict := dx, data := .seq xs m, slots := so }
section
variable {prog : Program} {w : World} {p q : Addr} {xs ys : Array Value} {m m' : Nat} {dx dy : Option Addr} {so so' : Array (Option Value)}
/-- the turns of != of two lists whose items are all equal -/
theorem same_turns (sz : xs.size = ys.size) : ∀ (r i : Nat), xs.size = i + r → MeetsIn prog w (Builtin.«list.__eq__.loop» ⟨[.ref p, .ref q, rawInt i, rawInt 3], []⟩)
    fun A R s => s.heap.get? p = some (lob dx xs m so) ∧ s.heap.get? q = some (lob dy ys m' so') ∧ (∀ j (a : j < xs.size) (b : j < ys.size), EqP prog w A.in1 s xs[j] ys[j] true) ∧ R (.ok (.ret (.bool false))) s := by
  intro r
  induction r with
  | zero =>
    rintro i z A R ⟨hp, g, d, tk, os⟩ ⟨e1, e2, _, f⟩
    wp_walk using wpAny_loadPart' e1, wpAny_loadPart' e2
    have n1 : xs[((i : Nat) : Int).toNat]? = none := by simp; omega
    have n2 : ys[((i : Nat) : Int).toNat]? = none := by simp; omega
    rw [n1, n2]
    wp_walk using wpAny_loadPart' e1, wpAny_loadPart' e2
    show R (.ok (.ret (.bool (xs.size != ys.size)))) _
    rw [sz]
    simpa using f
  | succ r ih =>
    rintro i z A R ⟨hp, g, d, tk, os⟩ ⟨e1, e2, e3, f⟩
    wp_walk using wpAny_loadPart' e1, wpAny_loadPart' e2
    have lx : i < xs.size := by omega
    have ly : i < ys.size := by omega
    have n1 : xs[((i : Nat) : Int).toNat]? = some xs[i] := by simp [lx]
    have n2 : ys[((i : Nat) : Int).toNat]? = some ys[i] := by simp [ly]
    have up : (i : Int) + 1 = ((i + 1 : Nat) : Int) := by push_cast; rfl
    rw [n1, n2]
    refine wpAny_bind (e3 i lx ly _ _ ?_)
    wp_walk
    rw [up]
    refine ⟨plainId_quiet plain_eq_loop _, codeAny_builtin entry_eq_loop ?_⟩
    rw [Around.under_plainId plain_eq_loop _]
    exact ih (i + 1) (by omega) A R _ ⟨e1, e2, e3, f⟩
theorem same_lists (sz : xs.size = ys.size) : MeetsIn prog w (Builtin.«list.__ne__» ⟨[.ref p, .ref q], []⟩)
    fun A R s => s.heap.get? p = some (lob dx xs m so) ∧ s.heap.get? q = some (lob dy ys m' so') ∧ (∀ j (a : j < xs.size) (b : j < ys.size), EqP prog w A.in1 s xs[j] ys[j] true) ∧ R (.ok (.ret (.bool false))) s := by
  rintro A R ⟨hp, g, d, tk, os⟩ ⟨e1, e2, e3, f⟩
  have sub := AutoSeq1.sub_list_list
  have nz : ¬ (xs.size != ys.size) = true := by simp [sz]
  wp_walk using wpAny_loadPart' e1, wpAny_loadPart' e2
  refine ⟨plainId_quiet plain_eq_loop _, codeAny_builtin entry_eq_loop ?_⟩
  rw [Around.under_plainId plain_eq_loop _]
  exact same_turns sz xs.size 0 (by omega) A R _ ⟨e1, e2, e3, f⟩
theorem ne_same {A : Around} {s : Shared} {E Q : Value → Shared → Prop} (hx : s.heap.IsList p xs) (hy : s.heap.IsList q ys) (sz : xs.size = ys.size) (room : A.units < cLine)
    (he : ∀ j (a : j < xs.size) (b : j < ys.size), EqP prog w A.in1 s xs[j] ys[j] true) (f : Q (.bool false) s) : wpAny (model prog w) A (richCompare .NotEq (.ref p) (.ref q)) Q E s := by
  obtain ⟨⟨c1, d1, t1, l1⟩, o1, k1, n1, g1⟩ := id hx
  obtain ⟨⟨c2, d2, t2, l2⟩, o2, k2, n2, g2⟩ := id hy
  dsimp only at k1 g1 k2 g2
  subst k1 g1 k2 g2
  have t1 : s.TypeIs (.ref p) "list" := ⟨_, o1, rfl⟩
  have t2 : s.TypeIs (.ref q) "list" := ⟨_, o2, rfl⟩
  refine wpAny_richCompare_same_room (op := .NotEq) t1 t2 F.slot_list_ne (call_meetsIn F.slot_list_ne t1 F.entry_list_ne (F.args_list_ne_2 _ _) (same_lists sz) ⟨o1, o2, he, ?_⟩) room
  show Value.bool false ≠ Value.notImplemented ∧ Q (.bool false) s
  exact ⟨(fun x => nomatch x), f⟩
end
end PySem.SeqAt
namespace HL
open PySem PySem.Spec PyProof.Rows L2 TL
/-- != of two lists whose items are equal, one by one -/
def rNeSame (K : PySem.W.Frag) : R2 := fun x y H Q => ∃ n a b xs ys, n ≤ 60 ∧ x = .ref a ∧ y = .ref b ∧ SqL K H a xs ∧ SqL K H b ys ∧ Paired (EqV K H n) xs ys ∧ Q (.bl false) H
theorem neSameK {X : Cx} {K : PySem.W.Frag} (hK : X.K = K) (hu : X.A.units + 64 < cLine) : OpR X (compareOp .NotEq) (rNeSame K) := by
  subst hK
  intro pins s σ H x y v u Q I rx ry h
  obtain ⟨n, a, b, xs, ys, hn, rfl, rfl, hx, hy, hp, q⟩ := h
  obtain rfl : v = Value.ref a := rx
  obtain rfl : u = Value.ref b := ry
  obtain ⟨us, r1, p1, _⟩ := I.list hx
  obtain ⟨ws, r2, p2, _⟩ := I.list hy
  have sz : us.toArray.size = ws.toArray.size := by
    rw [List.size_toArray, List.size_toArray, ← r1.length, ← r2.length]
    exact Paired.length hp
  refine SeqAt.ne_same p1.isList p2.isList sz (by omega) (fun j h1 h2 => ?_) ⟨.bl false, H, I, rfl, q⟩
  have k := items_run (P := X.prog) (w := X.w) (A := X.A.in1) (s := s) (eqV_run I n X.A.in1 (by show X.A.units + 1 + n < cLine; omega)) hp r1 r2 j (by simpa using h1) (by simpa using h2)
  simpa using k
theorem s_neSame {K : PySem.W.Frag} {H : Hp} {Q : VK} {n : Nat} {a b : Addr} {xs ys : List V} (hn : n ≤ 60) (hx : SqL K H a xs) (hy : SqL K H b ys) (hp : Paired (EqV K H n) xs ys) (q : Q (.bl false) H) : rNeSame K (.ref a) (.ref b) H Q := ⟨n, a, b, xs, ys, hn, rfl, rfl, hx, hy, hp, q⟩
/-- a dict and its copy -/
theorem eqV_copy {K : PySem.W.Frag} {H : Hp} {a b : Addr} {kvs : List (Key × V)} (n : Nat) (ha : H a = some (.dK kvs)) (hb : H b = some (.dK kvs)) (nd : (kvs.map (·.1)).Nodup) (h : ∀ p ∈ kvs, EqV K H n p.2 p.2) : EqV K H (n + 1) (.ref a) (.ref b) := by
  refine .inr (.inr (.inr ⟨a, b, kvs, kvs, rfl, rfl, ha, hb, rfl, fun p hp => ⟨p.2, ?_, h p hp⟩⟩))
  have : ∀ l : List (Key × V), (l.map (·.1)).Nodup → p ∈ l → valV l p.1 = some p.2 := fun l => by
    induction l with
    | nil => exact fun _ m => nomatch m
    | cons x r ih =>
      intro nd m
      rw [List.map_cons, List.nodup_cons] at nd
      rcases List.mem_cons.mp m with rfl | m
      · exact valV_pos rfl
      · rw [valV_neg fun e => nd.1 (by rw [e]; exact List.mem_map.mpr ⟨p, m, rfl⟩)]
        exact ih nd.2 m
  exact this kvs nd hp
end HL

/-! HLg: the end of a law whose defs ask that no repr is under way. -/
namespace HL
open PySem PySem.Spec PyProof.Rows L2
/-- the script's object -/
abbrev scObj (vs : List Value) : Obj := { cls := .type "list", data := .seq vs.toArray }
/-- the heap in which the script alone is tracked, or nothing, where it is an object of the module -/
def scT (K : PySem.W.Frag) (a : Addr) (vs : List Value) (ns : List Int) : Hp := fun b =>
  if b = a ∧ K.lookup a = none then some (.frz (scObj vs) (.lst (ns.map V.int))) else none
theorem scT_some {K : PySem.W.Frag} {a b : Addr} {vs : List Value} {ns : List Int} {u : HO} (h : scT K a vs ns b = some u) :
    b = a ∧ K.lookup a = none ∧ u = .frz (scObj vs) (.lst (ns.map V.int)) := by
  unfold scT at h
  split at h
  · rename_i c
    exact ⟨c.1, c.2, (Option.some.inj h).symm⟩
  · cases h
theorem scT_ne {K : PySem.W.Frag} {a b : Addr} {vs : List Value} {ns : List Int} (h : b ≠ a) : scT K a vs ns b = none :=
  if_neg fun c => h c.1
theorem scT_own {K : PySem.W.Frag} {a b : Addr} {vs : List Value} {ns : List Int} {o : Obj} (h : K.lookup b = some o) : scT K a vs ns b = none :=
  if_neg fun c => by
    rw [c.1, c.2] at h
    exact absurd h (by simp)
theorem scT_only (K : PySem.W.Frag) (a : Addr) (vs : List Value) (ns : List Int) : Only (scT K a vs ns) := fun b => by
  cases e : scT K a vs ns b with
  | none => exact Or.inl rfl
  | some u => exact Or.inr ⟨_, _, congrArg some (scT_some e).2.2⟩
/-- a law's call, from the promise of its def -/
theorem law_callG {P : Program} {w : World} {K : PySem.W.Frag} {mg mb : Str → Option Value} {k : Nat} {fa a : Addr}
    {fd : FuncData} {x : Str} {sp : Sp} {t : Shared} {vs : List Value} {ns : List Int}
    (inK : K.In t.heap) (glob : t.heap.Ns mainGlobals mg) (blt : t.heap.Ns builtinsNs mb)
    (bltq : ∀ x : Str, x ≠ "__name__" → mb x = bootBuiltins x) (lim : t.heap.NoLimit) (gens : t.gens = #[])
    (ob : t.heap.get? a = some (scObj vs)) (hints : IntsAre vs ns)
    (size : ns.length ≤ sizeLine) (room : Room k callerA)
    (F : ∀ base : Heap, K.In base → base.Ns mainGlobals mg → FnG P w K mg base k fa fd [x] sp)
    (bind : ∀ (s : Shared) (u : Value), BindsTo s fd ⟨[u], []⟩ [(x, u)])
    (prm : ∀ H : Hp, Only H → SqL K H a (ns.map V.int) → sp [.ref a] H (fun v _ => v = .bl true) fun _ _ _ => False) :
    codeAny (model P w) callerA (.call (.ref fa) ⟨[.ref a], []⟩)
      (fun r s' => r = .ok (.ret (.bool true)) ∧ OldK t.heap s'.heap ∧ s'.os = t.os ∧ AllBare s'.gens) t := by
  generalize hT : scT K a vs ns = T
  have visK : K.In (hidT t.heap T) := fun b o e => hidT_get (inK b o e) (hT ▸ scT_own e)
  have visN : ∀ b m, t.heap.Ns b m → (hidT t.heap T).Ns b m := by
    rintro b m ⟨o, es, ep, e, d, r⟩
    refine ⟨o, es, ep, hidT_get e ?_, d, r⟩
    rw [← hT]
    apply scT_ne
    rintro rfl
    rw [← Option.some.inj (ob.symm.trans e)] at d
    exact Data.noConfusion d
  have held : HOk P w T t.heap := by
    intro b u e
    rw [← hT] at e
    obtain ⟨rfl, _, rfl⟩ := scT_some e
    exact ⟨ob, by rw [List.length_map]; exact size, vs, _, vals_ints hints, ob⟩
  have seq : SqL K T a (ns.map V.int) := by
    cases e : K.lookup a with
    | none => exact .inl (.inr ⟨scObj vs, hT ▸ if_pos ⟨rfl, e⟩⟩)
    | some o =>
      rw [← Option.some.inj (ob.symm.trans (inK a o e))] at e
      exact .inr ⟨_, vs.toArray, _, e, rfl, rfl, rfl, by rw [List.size_toArray, hints.length]; exact size, by simpa using vals_ints hints⟩
  have around : Env0 P w K mg (hidT t.heap T) callerA [] t T :=
    { frames := rfl
      mod := ⟨visK, visN _ _ glob, ⟨mb, visN _ _ blt, bltq⟩, lim.imp fun mc h => ⟨visN _ _ h.1, h.2⟩⟩
      bs := fun _ _ e => of_hidT e
      bsz := Nat.le_of_eq (hidT_size _ _)
      funs := trivial
      frf := fun _ hb => (List.not_mem_nil hb).elim
      hok := held
      bare := .of_eq gens }
  apply codeAny_mono ((F _ visK (visN _ _ glob)).run callerA [] t T ⟨[.ref a], []⟩ [.ref a] [.ref a] _ _ rfl room around (bind t (.ref a)) (.cons rfl .nil) (prm T (hT ▸ scT_only K a vs ns) seq))
  intro r s' h
  match r, h with
  | .error _, z => exact z.elim
  | .ok .next, z => exact z.elim
  | .ok .brk, z => exact z.elim
  | .ok .cont, z => exact z.elim
  | .ok (.ret u), ⟨v, H', os, bare, un, held', rel, q⟩ =>
    cases q
    cases (show u = Value.bool true from rel)
    refine ⟨rfl, .of_keep ?_, os, bare⟩
    intro b o e
    by_cases c : T b = none
    · exact un.keep b o e c List.not_mem_nil List.not_mem_nil
    · obtain ⟨y, hy⟩ := Option.ne_none_iff_exists'.mp c
      have z := scT_some (hT ▸ hy)
      have hy2 : T b = some (.frz (scObj vs) (.lst (ns.map V.int))) := z.2.2 ▸ hy
      have same : some o = some (scObj vs) := e.symm.trans (held b _ hy2).1
      exact same ▸ (held' b _ (un.frzs b _ _ hy2)).1
/-- the goal that the head leaves, from the promise of the law's def -/
theorem walk_ofG {l : PySem.W.OpenLaw} {n k : Nat} {q : Program} {loose : List Str}
    {XP : (Str → Option Value) → Heap → Prop} {YP : World → Heap → Prop} {d : DefRec} {K : Params → PySem.W.Frag}
    {sp : World → Sp} {x : Str} (hn : l.most = some n) (hn2 : n ≤ sizeLine) (hdf : d.params.defaults = [])
    (room : Room k callerA) (hY : ∀ (w : World) (h : Heap), YP w h → (K w.params).In h)
    (F : ∀ (w : World) (mg : Str → Option Value) (fa : Addr) (h : Heap), (K w.params).In h → h.Ns mainGlobals mg →
      mg d.name = some (.ref fa) → ∃ fd : FuncData, (∀ (s : Shared) (u : Value), BindsTo s fd ⟨[u], []⟩ [(x, u)]) ∧
        ∀ base : Heap, (K w.params).In base → base.Ns mainGlobals mg →
          FnG l.prog w (K w.params) mg base k fa fd [x] (sp w))
    (prm : ∀ (w : World) (H : Hp) (a : Addr) (ns : List Int), ns.length ≤ n → Only H →
      SqL (K w.params) H a (ns.map V.int) → sp w [.ref a] H (fun v _ => v = .bl true) fun _ _ _ => False) :
    PySem.W.WalkO q loose XP YP
      l.row.toRowW d [] (fun f vs => PySem.call f vs) :=
  Att.attach_call hn hdf fun w _ _ _ _ fa _ _ _ _ a _ ns G Y _ _ _ hmg hobj hints hlen hg =>
    have inK := hY w _ Y
    let ⟨_, hb, hF⟩ := F w _ fa _ inK G.T.g hmg
    law_callG inK G.T.g G.T.b G.T.builtins G.T.nolimit hg hobj hints (Nat.le_trans hlen hn2) room hF hb
      fun H hO hS => prm w H a ns hlen hO hS
end HL

/-! HSl: a dict that may be locked already; sorted of alike data. -/
namespace HL
open PySem PySem.Spec PyProof.Rows L2 TL
/-! walked over here, be it locked by who called or not -/
def lockD (D : Ends) (d od : Addr) (ob : Obj) (u w : HO) : Ends := ⟨fun σ' H' => H' d = some (.frz ob u) ∧ D.nx σ' (upd H' d w), fun v H' => H' d = some (.frz ob u) ∧ D.rt v (upd H' d w), fun σ' H' => H' d = some (.frz ob u) ∧ D.bk σ' (upd H' d w), fun σ' H' => H' d = some (.frz ob u) ∧ D.ct σ' (upd H' d w)⟩
theorem upd_self {H : Hp} {d : Addr} {o : HO} (e : H d = some o) : upd H d o = H := funext fun b => by
  by_cases c : b = d
  · rw [c, upd_same, e]
  · exact upd_ne c
def tLkR (t : TS) : TS := fun D σ H => ∃ (d : Addr) (u w : HO), H d = some w ∧ L2.Mut (some u) ∧ (w = u ∨ ∃ o, w = .frz o u) ∧ ∀ ob, t (lockD D d d ob u w) σ (upd H d (.frz ob u))
def tLkE (t : TE) : TE := fun σ H Q => ∃ (d : Addr) (u w : HO), H d = some w ∧ L2.Mut (some u) ∧ (w = u ∨ ∃ o, w = .frz o u) ∧ ∀ ob, t σ (upd H d (.frz ob u)) fun v H' => H' d = some (.frz ob u) ∧ Q v (upd H' d w)
section
variable {X : Cx}
theorem ps_lockR {st : Stmt} {t : TS} (h : PS X st t) : PS X st (tLkR t) := by
  refine ⟨fun pins s σ H D I hw => ?_⟩
  obtain ⟨d, u, w, hd, mu, e, hw⟩ := hw
  rcases e with rfl | ⟨o, rfl⟩
  · exact (ps_lock h).run pins s σ H D I ⟨d, _, hd, mu, hw⟩
  · have hq := hw o
    rw [upd_self hd] at hq
    refine thn (h.run pins s σ H _ I hq) fun f s1 q => ?_
    cases f with
    | next => obtain ⟨σ', H', I2, e, q⟩ := q; rw [upd_self e] at q; exact ⟨σ', _, I2, q⟩
    | brk => obtain ⟨σ', H', I2, e, q⟩ := q; rw [upd_self e] at q; exact ⟨σ', _, I2, q⟩
    | cont => obtain ⟨σ', H', I2, e, q⟩ := q; rw [upd_self e] at q; exact ⟨σ', _, I2, q⟩
    | ret v => obtain ⟨x, σ', H', I2, r, e, q⟩ := q; rw [upd_self e] at q; exact ⟨x, σ', _, I2, r, q⟩
theorem pe_lockR {e : Expr} {t : TE} (h : PE X e t) : PE X e (tLkE t) := by
  refine ⟨fun pins s σ H Q I hw => ?_⟩
  obtain ⟨d, u, w, hd, mu, e, hw⟩ := hw
  rcases e with rfl | ⟨o, rfl⟩
  · exact (pe_lock h).run pins s σ H Q I ⟨d, _, hd, mu, hw⟩
  · have hq := hw o
    rw [upd_self hd] at hq
    refine thn (h.run pins s σ H _ I hq) fun v s1 ⟨x, H1, I2, r, e2, q⟩ => ?_
    rw [upd_self e2] at q
    exact ⟨x, _, I2, r, q⟩
end
section
variable {t : TS} {te : TE} {D : Ends} {σ : L2.St} {H : Hp} {Q : VK} {d : Addr} {u : HO}
theorem s_lockR (r : Rd H d u) (mu : L2.Mut (some u)) (h : ∀ w, H d = some w → (w = u ∨ ∃ o, w = .frz o u) → ∀ ob, t (lockD D d d ob u w) σ (upd H d (.frz ob u))) : tLkR t D σ H := by
  rcases r with r | ⟨o, r⟩
  · exact ⟨d, u, u, r, mu, .inl rfl, h u r (.inl rfl)⟩
  · exact ⟨d, u, _, r, mu, .inr ⟨o, rfl⟩, h _ r (.inr ⟨o, rfl⟩)⟩
theorem s_lockRE (r : Rd H d u) (mu : L2.Mut (some u)) (h : ∀ w, H d = some w → (w = u ∨ ∃ o, w = .frz o u) → ∀ ob, te σ (upd H d (.frz ob u)) fun v H' => H' d = some (.frz ob u) ∧ Q v (upd H' d w)) : tLkE te σ H Q := by
  rcases r with r | ⟨o, r⟩
  · exact ⟨d, u, u, r, mu, .inl rfl, h u r (.inl rfl)⟩
  · exact ⟨d, u, _, r, mu, .inr ⟨o, rfl⟩, h _ r (.inr ⟨o, rfl⟩)⟩
end
/-! sorted of alike data -/
noncomputable def sortD (ds : List PyData) : List PyData := ds.mergeSort (PySem.W.sortLe (PyProof.Rows.listOrd PyProof.Rows.itemOrd) false PySem.W.keyToks)
theorem sortD_perm (ds : List PyData) : (sortD ds).Perm ds := List.mergeSort_perm _ _
theorem toks_eq {x y : PyData} (h : PySem.W.alike x y = true) (e : PySem.W.keyToks x = PySem.W.keyToks y) : PyData.eqv x y = true := by
  cases c : PyData.eqv x y with
  | true => rfl
  | false =>
    have h2 := (PySem.W.toks_eqv x y h).2 c [] [.inl 0]
    rw [e, PySem.W.lex_pre, PyProof.Rows.lex_irrefl] at h2
    cases h2
/-- the order of one lot, however it came -/
theorem sortD_of {ds es : List PyData} (p : ds.Perm es) (al : PySem.W.AllAlike ds) (eq : ∀ a ∈ ds, ∀ b ∈ ds, PyData.eqv a b = true → a = b) : sortD ds = sortD es := by
  have h := PySem.W.sortLe_total (PyProof.Rows.listOrd PyProof.Rows.itemOrd) false PySem.W.keyToks
  have t : (sortD ds).Perm (sortD es) := (sortD_perm ds).trans (p.trans (sortD_perm es).symm)
  refine List.Perm.eq_of_pairwise (le := fun a b => PySem.W.sortLe (PyProof.Rows.listOrd PyProof.Rows.itemOrd) false PySem.W.keyToks a b = true) (fun a b ha hb h1 h2 => ?_) (PySem.W.sort_pairwise h ds) (PySem.W.sort_pairwise h es) t
  have ma : a ∈ ds := (sortD_perm ds).mem_iff.mp ha
  have mb : b ∈ ds := p.mem_iff.mpr ((sortD_perm es).mem_iff.mp hb)
  refine eq a ma b mb (toks_eq (al a ma b mb) ?_)
  unfold PySem.W.sortLe at h1 h2
  exact PyProof.Rows.lex_total _ _ (by simpa using h2) (by simpa using h1)
def rSortedDat (K : PySem.W.Frag) : List V → Hp → VK → Prop := fun vs H Q => ∃ (a : Addr) (xs : List V) (ds : List PyData), vs = [V.ref a] ∧ SqL K H a xs ∧ DpAll K H xs ds ∧ PySem.W.AllAlike ds ∧ PySem.W.Sortable ds ∧ (∀ d ∈ ds, d.depth ≤ 50) ∧
  ∀ (p : Addr) (ys : List V), H p = none → ys.Perm xs → DpAll K (upd H p (.lst ys)) ys (sortD ds) → Q (.ref p) (upd H p (.lst ys))
/-- a value, what is tracked of it, what it reads as -/
def Tri (K : PySem.W.Frag) (H : Hp) (v : Value) (b : V × PyData) : Prop := RelV b.1 v ∧ Dp K H b.1 b.2
theorem tri_of {K : PySem.W.Frag} {H : Hp} : ∀ {xs : List V} {its : List Value} {ds : List PyData}, Vals xs its → DpAll K H xs ds → PySem.W.EachIs (Tri K H) its (xs.zip ds)
  | _, _, _, .nil, .nil => .nil
  | _, _, _, .cons r t, .cons d e => .cons ⟨r, d⟩ (tri_of t e)
theorem tri_out {K : PySem.W.Frag} {H H' : Hp} (k : Kp [] H H') : ∀ {out : List Value} {bs : List (V × PyData)}, PySem.W.EachIs (Tri K H) out bs → Vals (bs.map (·.1)) out ∧ DpAll K H' (bs.map (·.1)) (bs.map (·.2))
  | _, _, .nil => ⟨.nil, .nil⟩
  | _, _, .cons h t => ⟨.cons h.1 (tri_out k t).1, .cons (Dp.same k _ _ h.2) (tri_out k t).2⟩
section
variable {X : Cx}
open PySem.W in
theorem sortedDatK {K : PySem.W.Frag} (hK : X.K = K) (hu : X.A.units + 64 < cLine) : CallR X (.builtin "sorted") (rSortedDat K) := by
  subst hK
  intro pins s σ H vs us Q I r h
  obtain ⟨a, xs, ds, rfl, hs, dd, al, so, dp, q⟩ := h
  obtain ⟨its, rv, hl, hz⟩ := I.list hs
  obtain ⟨u, rfl, ru⟩ := vals1 r
  obtain rfl : u = Value.ref a := ru
  have lx : xs.length = ds.length := HL.DpAll.len dd
  have li : xs.length = its.length := rv.length
  have tri := tri_of rv dd
  have rds : EachIs (fun v (d : PyData) => ∃ as, Reads s.heap v d as) its ds := by
    have h := tri
    have e2 : (xs.zip ds).map (·.2) = ds := List.map_snd_zip (by omega)
    have m : ∀ {out : List Value} {bs : List (V × PyData)}, EachIs (Tri X.K H) out bs → EachIs (fun v (d : PyData) => ∃ as, Reads s.heap v d as) out (bs.map (·.2)) := fun {out bs} h => by
      induction h with
      | nil => exact .nil
      | cons h _ ih => exact .cons (Dp.reads I _ _ _ h.2 h.1) ih
    have := m h
    rwa [e2] at this
  have S : SortsAt X.prog X.w X.A.in1.in1 { s with heap := sortingHeap (copyHeap s.heap its) (s.heap.objs.size + 1) its } (dataKind (sortingHeap (copyHeap s.heap its) (s.heap.objs.size + 1) its) ds) its :=
    SortsAt.data (s := { s with heap := sortingHeap (copyHeap s.heap its) (s.heap.objs.size + 1) its }) (rds.mono fun v d ⟨as, h⟩ => ⟨as, Reads.keeps (fun b o e => sorting_copy_old e) h⟩) al so fun d hd => by
      have := dp d hd
      show X.A.units + 1 + 1 + _ < cLine
      omega
  refine sorted_vals (l := a) (vs := its) hl.isList S (by rw [← li]; exact hz) ?_
  have hk : EachIs (fun v (b : V × PyData) => (dataKind (sortingHeap (copyHeap s.heap its) (s.heap.objs.size + 1) its) ds).keyOf v = some (keyToks b.2)) its (xs.zip ds) := by
    have m : ∀ {out : List Value} {bs : List (V × PyData)}, EachIs (Tri X.K H) out bs → (∀ b ∈ bs, b.2 ∈ ds) → EachIs (fun v (b : V × PyData) => (dataKind (sortingHeap (copyHeap s.heap its) (s.heap.objs.size + 1) its) ds).keyOf v = some (keyToks b.2)) out bs := fun {out bs} h => by
      induction h with
      | nil => exact fun _ => .nil
      | cons h _ ih =>
        intro hm
        obtain ⟨as, hr⟩ := Dp.reads I _ _ _ h.2 h.1
        exact .cons (dataKind_some al (hm _ List.mem_cons_self) (Reads.keeps (fun b o e => sorting_copy_old e) hr)) (ih fun b hb => hm b (List.mem_cons_of_mem _ hb))
    exact m tri fun b hb => (List.of_mem_zip hb).2
  have out := sortVals_each (κ := dataKind (sortingHeap (copyHeap s.heap its) (s.heap.objs.size + 1) its) ds) (rev := false) (fun b : V × PyData => keyToks b.2) tri hk
  generalize sortVals (dataKind (sortingHeap (copyHeap s.heap its) (s.heap.objs.size + 1) its) ds) false its its = vs' at out ⊢
  have pm : ((xs.zip ds).mergeSort (sortLe (dataKind (sortingHeap (copyHeap s.heap its) (s.heap.objs.size + 1) its) ds).toKeyOrd false fun b : V × PyData => keyToks b.2)).Perm (xs.zip ds) := List.mergeSort_perm _ _
  have e2 : ((xs.zip ds).mergeSort (sortLe (dataKind (sortingHeap (copyHeap s.heap its) (s.heap.objs.size + 1) its) ds).toKeyOrd false fun b : V × PyData => keyToks b.2)).map (·.2) = sortD ds := by
    have := sort_maps (fun b : V × PyData => b.2) (r := sortLe (dataKind (sortingHeap (copyHeap s.heap its) (s.heap.objs.size + 1) its) ds).toKeyOrd false fun b : V × PyData => keyToks b.2) (s := sortLe (PyProof.Rows.listOrd PyProof.Rows.itemOrd) false keyToks) (l := xs.zip ds) fun a _ b _ => rfl
    rw [List.map_snd_zip (by omega)] at this
    exact this
  generalize (xs.zip ds).mergeSort (sortLe (dataKind (sortingHeap (copyHeap s.heap its) (s.heap.objs.size + 1) its) ds).toKeyOrd false fun b : V × PyData => keyToks b.2) = bs at out pm e2
  have pm1 : (bs.map (·.1)).Perm xs := by
    have := pm.map (·.1)
    rwa [List.map_fst_zip (by omega)] at this
  obtain ⟨n, hn⟩ := PyProof.Rows.sortedAll_at s.heap its vs'.toArray
  have hd : s.heap.objs.size ≤ s.heap.objs.size + 1 := Nat.le_succ _
  have hp : H (s.heap.objs.size + 1) = none := I.hok.fresh hd
  obtain ⟨v1, v2⟩ := tri_out (Kp.refl.upd_new (o := .lst (bs.map (·.1))) hp) out
  refine ⟨.ref (s.heap.objs.size + 1), upd H (s.heap.objs.size + 1) (.lst (bs.map (·.1))), I.laid (t' := s.toks) (fun b o e => PyProof.Rows.sortedAll_old e) hd ⟨by rw [pm1.length_eq]; exact hz, vs', n, v1, hn⟩, rfl, q _ _ hp pm1 (by rw [← e2]; exact v2)⟩
end
end HL

/-! HSm: sorted of a dict whose keys are tuples. -/
namespace HL
open PySem PySem.Spec PyProof.Rows L2 TL
def keyD : Key → PyData
  | .inl i => .int i
  | .inr z => .str z
def keysD (kvs : List (List Key × V)) : List PyData := kvs.map fun p => .tuple (p.1.map keyD)
theorem dp_key {K : PySem.W.Frag} {H : Hp} : ∀ k : List Key, DpAll K H (k.map kV) (k.map keyD)
  | [] => .nil
  | .inl i :: r => .cons (.int i) (dp_key r)
  | .inr z :: r => .cons (.str z) (dp_key r)
theorem dp_keys {K : PySem.W.Frag} {H : Hp} {kvs : List (List Key × V)} {bs : List Addr} (h : IsKeys H kvs bs) : DpAll K H (bs.map V.ref) (keysD kvs) := by
  unfold IsKeys at h
  induction h with
  | nil => exact .nil
  | cons h _ ih => exact .cons (.tup (sq_t h) (dp_key _)) ih
def rSortedDT (K : PySem.W.Frag) : List V → Hp → VK → Prop := fun vs H Q => ∃ (d : Addr) (kvs : List (List Key × V)), vs = [V.ref d] ∧ Rd H d (.dT kvs) ∧ PySem.W.AllAlike (keysD kvs) ∧ PySem.W.Sortable (keysD kvs) ∧ (∀ x ∈ keysD kvs, x.depth ≤ 50) ∧
  ∀ (p : Addr) (ys : List V), H p = none → ys.length = kvs.length → DpAll K (upd H p (.lst ys)) ys (sortD (keysD kvs)) → Q (.ref p) (upd H p (.lst ys))
section
variable {X : Cx}
open PySem.W in
theorem sortedDTK {K : PySem.W.Frag} (hK : X.K = K) (hc : X.calm = true) (hu : X.A.units + 64 < cLine) : CallR X (.builtin "sorted") (rSortedDT K) := by
  subst hK
  intro pins s σ H vs us Q I r h
  obtain ⟨d, kvs, rfl, hd, al, so, dpt, q⟩ := h
  obtain ⟨u, rfl, ru⟩ := vals1 r
  obtain rfl : u = Value.ref d := ru
  obtain ⟨z, hs, ks, pr, o, es, ep, ho, hx, hdt, he, hn⟩ := (show ObjOk X.prog X.w H s.heap d (.dT kvs) from hd.ok I.hok)
  have l1 : es.size = ks.length := size_of_entries he
  have l2 : kvs.length = ks.length := Paired.length pr
  refine Calls.call_function_entry PyProof.Rows.kind_sorted PyProof.Rows.plain_sorted PyProof.Rows.entry_sorted (PyProof.Rows.args_sorted1 _) ?_
  unfold Builtin.«sorted»
  refine wpAny_bind (m := checkCount "sorted" 1 1 _) (wpAny_pure ?_)
  refine wpAny_bind (PySem.W.kdu_collect (A := X.A.in1) (kdl_raw hs hx hdt) (I.ok.hd hc) ho (by omega) fun h' tk acc kp it => ?_)
  have ea : acc.toList = (ks.map fun x => x.2.1).map Value.ref := by
    have hl : acc.toList.length = ks.length := by rw [Array.length_toList, it.1]; exact l1
    rw [List.map_map]
    apply List.ext_getElem?
    intro j
    rw [List.getElem?_map]
    cases hj : acc.toList[j]? with
    | none =>
      have h1 := List.getElem?_eq_none_iff.mp hj
      rw [List.getElem?_eq_none (by omega)]
      all_goals rfl
    | some v =>
      obtain ⟨en, hen, hv⟩ := it.2 j v (by rw [← Array.getElem?_toList]; exact hj)
      have qe := entry_at he j
      rw [hen] at qe
      cases hb : ks[j]? with
      | none =>
        rw [hb] at qe
        exact nomatch (show some en = none from qe)
      | some b =>
        rw [hb] at qe
        have e2 : en = entryOfKey (tupleKind (mixKind X.prog X.w)) b := Option.some.inj qe
        rw [hv, e2]
        all_goals rfl
  have ik : IsKeys H kvs (ks.map fun x => x.2.1) := isKeys_of pr
  generalize hbs : (ks.map fun x => x.2.1) = bs at ea ik
  have lb : bs.length = kvs.length := by rw [← hbs, List.length_map]; omega
  have rv : Vals (bs.map V.ref) acc.toList := by rw [ea]; exact LiI.vals_refs bs
  have dd := dp_keys (K := X.K) ik
  have I1 : Inv X pins σ H { s with heap := h', toks := tk } := I.kept kp
  generalize acc.toList = its at rv
  have li : bs.length = its.length := by
    have := rv.length
    rwa [List.length_map] at this
  refine wpAny_bind (wpAny_newList ?_ (by omega))
  have hoL : (h'.push (seqObj "list" its.toArray 0)).get? h'.objs.size = some (seqObj "list" its.toArray 0) := Heap.get?_push_size _ rfl
  show wpAny _ _ _ _ _ { s with heap := h'.push (seqObj "list" its.toArray 0), toks := tk }
  have up : ∀ b o, h'.get? b = some o → (sortingHeap (h'.push (seqObj "list" its.toArray 0)) h'.objs.size its).get? b = some o := fun b o e => sortingHeap_old (Nat.ne_of_lt (Heap.lt_size e)) (Heap.get?_push_of_some _ e)
  generalize hxs : bs.map V.ref = xs at rv dd
  generalize hds : keysD kvs = ds at dd al so dpt q
  have lx : xs.length = ds.length := HL.DpAll.len dd
  have tri := tri_of rv dd
  have rds : EachIs (fun v (d : PyData) => ∃ as, Reads h' v d as) its ds := by
    have e2 : (xs.zip ds).map (·.2) = ds := List.map_snd_zip (by omega)
    have m : ∀ {out : List Value} {bs : List (V × PyData)}, EachIs (Tri X.K H) out bs → EachIs (fun v (d : PyData) => ∃ as, Reads h' v d as) out (bs.map (·.2)) := fun {out bs} h => by
      induction h with
      | nil => exact .nil
      | cons h _ ih => exact .cons (Dp.reads I1 _ _ _ h.2 h.1) ih
    have := m tri
    rwa [e2] at this
  have S : SortsAt X.prog X.w X.A.in1.in1 { s with heap := sortingHeap (h'.push (seqObj "list" its.toArray 0)) h'.objs.size its, toks := tk } (dataKind (sortingHeap (h'.push (seqObj "list" its.toArray 0)) h'.objs.size its) ds) its :=
    SortsAt.data (s := { s with heap := sortingHeap (h'.push (seqObj "list" its.toArray 0)) h'.objs.size its, toks := tk }) (rds.mono fun v d ⟨as, h⟩ => ⟨as, Reads.keeps up h⟩) al so fun d hd => by
      have := dpt d hd
      show X.A.units + 1 + 1 + _ < cLine
      omega
  have hk : EachIs (fun v (b : V × PyData) => (dataKind (sortingHeap (h'.push (seqObj "list" its.toArray 0)) h'.objs.size its) ds).keyOf v = some (keyToks b.2)) its (xs.zip ds) := by
    have m : ∀ {out : List Value} {bs : List (V × PyData)}, EachIs (Tri X.K H) out bs → (∀ b ∈ bs, b.2 ∈ ds) → EachIs (fun v (b : V × PyData) => (dataKind (sortingHeap (h'.push (seqObj "list" its.toArray 0)) h'.objs.size its) ds).keyOf v = some (keyToks b.2)) out bs := fun {out bs} h => by
      induction h with
      | nil => exact fun _ => .nil
      | cons h _ ih =>
        intro hm
        obtain ⟨as, hr⟩ := Dp.reads I1 _ _ _ h.2 h.1
        exact .cons (dataKind_some al (hm _ List.mem_cons_self) (Reads.keeps up hr)) (ih fun b hb => hm b (List.mem_cons_of_mem _ hb))
    exact m tri fun b hb => (List.of_mem_zip hb).2
  have out := sortVals_each (κ := dataKind (sortingHeap (h'.push (seqObj "list" its.toArray 0)) h'.objs.size its) ds) (rev := false) (fun b : V × PyData => keyToks b.2) tri hk
  refine wpAny_bind (wpAny_holding (wpAny_call_entry PyProof.Rows.slot_list_sort ⟨_, hoL, rfl⟩ PyProof.Rows.entry_list_sort
    (list_sort_vals (s := { s with heap := h'.push (seqObj "list" its.toArray 0), toks := tk }) hoL S (by omega) ⟨_, rfl, ?_⟩) (PyProof.Rows.args_list_sort _)))
  generalize sortVals (dataKind (sortingHeap (h'.push (seqObj "list" its.toArray 0)) h'.objs.size its) ds) false its its = vs' at out ⊢
  have pm : ((xs.zip ds).mergeSort (sortLe (dataKind (sortingHeap (h'.push (seqObj "list" its.toArray 0)) h'.objs.size its) ds).toKeyOrd false fun b : V × PyData => keyToks b.2)).Perm (xs.zip ds) := List.mergeSort_perm _ _
  have e2 : ((xs.zip ds).mergeSort (sortLe (dataKind (sortingHeap (h'.push (seqObj "list" its.toArray 0)) h'.objs.size its) ds).toKeyOrd false fun b : V × PyData => keyToks b.2)).map (·.2) = sortD ds := by
    have := sort_maps (fun b : V × PyData => b.2) (r := sortLe (dataKind (sortingHeap (h'.push (seqObj "list" its.toArray 0)) h'.objs.size its) ds).toKeyOrd false fun b : V × PyData => keyToks b.2) (s := sortLe (PyProof.Rows.listOrd PyProof.Rows.itemOrd) false keyToks) (l := xs.zip ds) fun a _ b _ => rfl
    rw [List.map_snd_zip (by omega)] at this
    exact this
  generalize (xs.zip ds).mergeSort (sortLe (dataKind (sortingHeap (h'.push (seqObj "list" its.toArray 0)) h'.objs.size its) ds).toKeyOrd false fun b : V × PyData => keyToks b.2) = bs2 at out pm e2
  have pm1 : (bs2.map (·.1)).Perm xs := by
    have := pm.map (·.1)
    rwa [List.map_fst_zip (by omega)] at this
  have lxk : xs.length = kvs.length := by rw [← hxs, List.length_map]; exact lb
  obtain ⟨n, hn'⟩ := PyProof.Rows.sortedHeap_at (vs := its) (out := vs'.toArray) hoL
  have hp : H h'.objs.size = none := I1.hok.fresh (Nat.le_refl _)
  obtain ⟨v1, v2⟩ := tri_out (Kp.refl.upd_new (o := .lst (bs2.map (·.1))) hp) out
  refine wpAny_pure ⟨_, rfl, .ref h'.objs.size, upd H h'.objs.size (.lst (bs2.map (·.1))), I1.laid (t' := tk) (fun b u e => ?_) (Nat.le_refl _)
    (show ObjOk X.prog X.w _ _ _ (.lst (bs2.map (·.1))) from ⟨by rw [pm1.length_eq]; omega, vs', n, v1, hn'⟩), rfl, q _ _ hp (by rw [pm1.length_eq]; exact lxk) (by rw [← e2]; exact v2)⟩
  have hb : b < h'.objs.size := Heap.lt_size e
  rw [PyProof.Rows.sortedHeap_old (Nat.ne_of_lt hb) (by rw [size_push']; exact Nat.lt_succ_of_lt hb)]
  exact Heap.get?_push_of_some _ e
end
end HL

/-! FSa: plain stocks, in plain Lean and in the heap. -/
namespace PH
open PySem PySem.Spec PyProof.Rows L2 HL TL
/-- rows of plain stocks -/
def PlainW : Row → Prop
  | .set _ _ => True
  | .late _ _ => True
  | .take _ _ => True
  | .draw _ _ _ => True
  | _ => False
def bndR : Row → Str
  | .set x _ => x
  | .late x _ => x
  | .take x _ => x
  | .draw x _ _ => x
  | _ => ""
def aimR : Row → Option Str
  | .take _ p => some p
  | .draw _ p _ => some p
  | _ => none
def aimsL (b : List Row) : List Str := b.filterMap aimR
def firstR (b : List Row) (z : Str) : Option Nat := b.findIdx? fun r => decide (bndR r = z)
/-- a row's parts as they stand -/
def rowV : Row → List V
  | .set x n => [.str "set", .str x, .int n]
  | .late x q => [.str "late", .str x, .str q]
  | .take x p => [.str "take", .str x, .str p]
  | .draw x p y => [.str "draw", .str x, .str p, .str y]
  | _ => []
theorem row_sq {K : PySem.W.Frag} {H : Hp} {v : V} {r : Row} (w : PlainW r) (h : Dp K H v (r.dat 3)) : ∃ t, v = .ref t ∧ SqT K H t (rowV r) := by
  cases r with
  | set x n => cases h with | tup s q => cases q with | cons d1 q => cases d1; cases q with | cons d2 q => cases d2; cases q with | cons d3 q => cases d3; cases q; exact ⟨_, rfl, s⟩
  | late x n => cases h with | tup s q => cases q with | cons d1 q => cases d1; cases q with | cons d2 q => cases d2; cases q with | cons d3 q => cases d3; cases q; exact ⟨_, rfl, s⟩
  | take x n => cases h with | tup s q => cases q with | cons d1 q => cases d1; cases q with | cons d2 q => cases d2; cases q with | cons d3 q => cases d3; cases q; exact ⟨_, rfl, s⟩
  | draw x n y => cases h with | tup s q => cases q with | cons d1 q => cases d1; cases q with | cons d2 q => cases d2; cases q with | cons d3 q => cases d3; cases q with | cons d4 q => cases d4; cases q; exact ⟨_, rfl, s⟩
  | _ => exact w.elim
theorem sq_row {K : PySem.W.Frag} {H : Hp} {t : Addr} {r : Row} (w : PlainW r) (h : SqT K H t (rowV r)) : Dp K H (.ref t) (r.dat 3) := by
  cases r with
  | set x n => exact .tup h (.cons (.str _) (.cons (.str _) (.cons (.int _) .nil)))
  | late x n => exact .tup h (.cons (.str _) (.cons (.str _) (.cons (.str _) .nil)))
  | take x n => exact .tup h (.cons (.str _) (.cons (.str _) (.cons (.str _) .nil)))
  | draw x n y => exact .tup h (.cons (.str _) (.cons (.str _) (.cons (.str _) (.cons (.str _) .nil))))
  | _ => exact w.elim
/-- a stock's names -/
abbrev keysS (st : Shelf) : List Str := st.map (·.1)
def PlainR (st : Shelf) : Row → Prop
  | .set x n => NmOk x ∧ n.natAbs < 10 ^ 400
  | .late x q => NmOk x ∧ PthOk q
  | .take x p => NmOk x ∧ PthOk p ∧ p ∈ keysS st
  | .draw x p y => NmOk x ∧ PthOk p ∧ NmOk y ∧ ∃ b, getA st p = some b ∧ y ∈ b.map bndR
  | _ => False
theorem PlainR.w {st : Shelf} {r : Row} (h : PlainR st r) : PlainW r := by
  cases r <;> first | trivial | exact h.elim
theorem PlainR.ok {st : Shelf} {r : Row} (h : PlainR st r) (d : Nat) : RowOk d r := by
  cases r with
  | set x n => cases d <;> exact h
  | late x q => cases d <;> exact h
  | take x p => cases d <;> exact ⟨h.1, h.2.1⟩
  | draw x p y => cases d <;> exact ⟨h.1, h.2.1, h.2.2.1⟩
  | _ => exact h.elim
structure PlainS (st : Shelf) : Prop where
  nd : (keysS st).Nodup
  key : ∀ e ∈ st, NmOk e.1
  len : ∀ e ∈ st, e.2.length ≤ 40
  row : ∀ e ∈ st, ∀ r ∈ e.2, PlainR st r
  few : st.length ≤ 16
theorem plain_cnt {st : Shelf} : ∀ {b : List Row}, (∀ r ∈ b, PlainR st r) → cntsR 3 b = b.length
  | [], _ => rfl
  | r :: t, h => by
    have ih : cntsR 3 t = t.length := plain_cnt fun y hy => h y (List.mem_cons_of_mem _ hy)
    have hr := h r List.mem_cons_self
    have e : cntR 3 r = 1 := by
      cases r <;> first | rfl | exact hr.elim
    unfold cntsR at ih ⊢
    rw [List.map_cons, List.sum_cons, e, ih, List.length_cons]
    omega
theorem PlainS.body {st : Shelf} (P : PlainS st) {e : Str × List Row} (he : e ∈ st) : BodyOk e.2 := ⟨fun r hr => (P.row e he r hr).ok 3, by rw [plain_cnt (P.row e he)]; exact P.len e he⟩
theorem PlainS.aim {st : Shelf} (P : PlainS st) {e : Str × List Row} (he : e ∈ st) {z : Str} (hz : z ∈ aimsL e.2) : z ∈ keysS st := by
  obtain ⟨r, hr, ez⟩ := List.mem_filterMap.mp hz
  have := P.row e he r hr
  cases r with
  | take x p => cases ez; exact this.2.2
  | draw x p y =>
    cases ez
    obtain ⟨b, hb, _⟩ := this.2.2.2
    exact List.mem_map.mpr ⟨_, getA_mem hb, rfl⟩
  | _ => cases ez
theorem PlainS.get {st : Shelf} (P : PlainS st) {z : Str} (h : z ∈ keysS st) : ∃ b, getA st z = some b ∧ (z, b) ∈ st := by
  cases e : getA st z with
  | none => exact absurd h (getA_none.mp e)
  | some b => exact ⟨b, rfl, getA_mem e⟩
theorem PlainS.at_ {st : Shelf} (P : PlainS st) {z : Str} {b : List Row} (h : (z, b) ∈ st) : getA st z = some b := by
  have all : ∀ l : Shelf, (l.map (·.1)).Nodup → (z, b) ∈ l → getA l z = some b := fun l => by
    induction l with
    | nil => exact fun _ h => nomatch h
    | cons x r ih =>
      intro nd m
      rw [List.map_cons, List.nodup_cons] at nd
      rw [getA_cons]
      rcases List.mem_cons.mp m with c | m
      · rw [← c, if_pos rfl]
      · rw [if_neg fun e => nd.1 (by rw [e]; exact List.mem_map.mpr ⟨_, m, rfl⟩)]
        exact ih nd.2 m
  exact all st P.nd h
/-! going on from aim to aim -/
inductive Come (st : Shelf) (ws as : List Str) : Str → Prop
  | start {z : Str} : z ∈ as → z ∉ ws → Come st ws as z
  | step {y z : Str} {b : List Row} : Come st ws as y → getA st y = some b → z ∈ aimsL b → z ∉ ws → Come st ws as z
noncomputable def comeL (st : Shelf) (ws as : List Str) : List Str := open Classical in srt ((keysS st).filter fun z => decide (Come st ws as z))
theorem come_key {st : Shelf} {ws as : List Str} (P : PlainS st) (ha : ∀ z ∈ as, z ∈ keysS st) {z : Str} (h : Come st ws as z) : z ∈ keysS st := by
  induction h with
  | start h _ => exact ha _ h
  | step _ e m _ _ => exact P.aim (getA_mem e) m
theorem comeL_of {st : Shelf} {ws as ys fs : List Str} (P : PlainS st) (ha : ∀ z ∈ as, z ∈ keysS st) (nd : fs.Nodup) (m : ∀ z, z ∈ fs ↔ Come st ws as z) (p : ys.Perm fs) (s : sortedS ys = true) : ys = comeL st ws as := by
  classical
  refine srt_eq (p.trans ?_) s
  refine (List.perm_ext_iff_of_nodup nd (P.nd.filter _)).mpr fun z => ?_
  rw [m z, List.mem_filter, decide_eq_true_eq]
  exact ⟨fun h => ⟨come_key P ha h, h⟩, fun h => h.2⟩
theorem comeL_mem {st : Shelf} {ws as : List Str} (P : PlainS st) (ha : ∀ z ∈ as, z ∈ keysS st) {z : Str} : z ∈ comeL st ws as ↔ Come st ws as z := by
  classical
  unfold comeL
  rw [(srt_perm _).mem_iff, List.mem_filter, decide_eq_true_eq]
  exact ⟨fun h => h.2, fun h => ⟨come_key P ha h, h⟩⟩
theorem comeL_nd {st : Shelf} {ws as : List Str} (P : PlainS st) : (comeL st ws as).Nodup := by
  classical
  exact (srt_perm _).nodup_iff.mpr (P.nd.filter _)
theorem comeL_sub {st : Shelf} {ws as : List Str} : ∀ z ∈ comeL st ws as, z ∈ keysS st := fun z hz => by
  classical
  unfold comeL at hz
  rw [(srt_perm _).mem_iff] at hz
  exact (List.mem_filter.mp hz).1
theorem comeL_len {st : Shelf} {ws as : List Str} (P : PlainS st) : (comeL st ws as).length ≤ 16 := by
  have := List.Nodup.length_le_of_subset (comeL_nd P (ws := ws) (as := as)) comeL_sub
  rw [List.length_map] at this
  exact Nat.le_trans this P.few
/-- what the going on knows: found, waiting -/
structure Gone (st : Shelf) (ws as fs wt : List Str) : Prop where
  nd : fs.Nodup
  f : ∀ z ∈ fs, Come st ws as z
  w : ∀ z ∈ wt, Come st ws as z
  cl : ∀ z ∈ fs, ∀ b, getA st z = some b → ∀ y ∈ aimsL b, y ∉ ws → y ∈ fs ∨ y ∈ wt
  st : ∀ z ∈ as, z ∉ ws → z ∈ fs ∨ z ∈ wt
theorem Gone.start {st : Shelf} {ws as : List Str} : Gone st ws as [] (as.filter fun z => !decide (z ∈ ws)) :=
  ⟨.nil, (fun z h => nomatch h), fun z h => by
    obtain ⟨a, b⟩ := List.mem_filter.mp h
    exact .start a (by simpa using b), (fun z h => nomatch h), fun z h n => .inr (List.mem_filter.mpr ⟨h, by simpa using n⟩)⟩
theorem Gone.skip {st : Shelf} {ws as fs wt : List Str} {z : Str} (G : Gone st ws as fs (wt ++ [z])) (h : z ∈ fs) : Gone st ws as fs wt := by
  have mv : ∀ y, y ∈ fs ∨ y ∈ wt ++ [z] → y ∈ fs ∨ y ∈ wt := fun y e => by
    rcases e with e | e
    · exact .inl e
    · rcases List.mem_append.mp e with e | e
      · exact .inr e
      · rw [List.mem_singleton.mp e]; exact .inl h
  exact ⟨G.nd, G.f, fun y hy => G.w y (List.mem_append_left _ hy), fun x hx b eb y hy n => mv y (G.cl x hx b eb y hy n), fun y hy n => mv y (G.st y hy n)⟩
theorem Gone.on {st : Shelf} {ws as fs wt : List Str} {z : Str} {b : List Row} (G : Gone st ws as fs (wt ++ [z])) (h : z ∉ fs) (eb : getA st z = some b) : Gone st ws as (fs ++ [z]) (wt ++ (aimsL b).filter fun y => !decide (y ∈ ws)) := by
  have cz := G.w z (List.mem_append_right _ List.mem_cons_self)
  have mv : ∀ y, y ∈ fs ∨ y ∈ wt ++ [z] → y ∈ fs ++ [z] ∨ y ∈ wt ++ (aimsL b).filter fun y => !decide (y ∈ ws) := fun y e => by
    rcases e with e | e
    · exact .inl (List.mem_append_left _ e)
    · rcases List.mem_append.mp e with e | e
      · exact .inr (List.mem_append_left _ e)
      · exact .inl (List.mem_append_right _ e)
  refine ⟨List.nodup_append.mpr ⟨G.nd, List.pairwise_singleton _ _, fun x hx y hy c => h (by rw [← List.mem_singleton.mp hy, ← c]; exact hx)⟩, fun y hy => ?_, fun y hy => ?_, fun x hx b' eb' y hy n => ?_, fun y hy n => mv y (G.st y hy n)⟩
  · rcases List.mem_append.mp hy with hy | hy
    · exact G.f y hy
    · rw [List.mem_singleton.mp hy]; exact cz
  · rcases List.mem_append.mp hy with hy | hy
    · exact G.w y (List.mem_append_left _ hy)
    · obtain ⟨h1, h2⟩ := List.mem_filter.mp hy
      exact .step cz eb h1 (by simpa using h2)
  · rcases List.mem_append.mp hx with hx | hx
    · exact mv y (G.cl x hx b' eb' y hy n)
    · rw [List.mem_singleton.mp hx, eb] at eb'
      cases eb'
      exact .inr (List.mem_append_right _ (List.mem_filter.mpr ⟨hy, by simpa using n⟩))
theorem Gone.done {st : Shelf} {ws as fs : List Str} (G : Gone st ws as fs []) (z : Str) : z ∈ fs ↔ Come st ws as z := by
  refine ⟨G.f z, fun h => ?_⟩
  induction h with
  | start a n => exact (G.st _ a n).resolve_right List.not_mem_nil
  | step _ e m n ih => exact (G.cl _ ih _ e _ m n).resolve_right List.not_mem_nil
/-! a stock in the heap -/
structure StkAt (K : PySem.W.Frag) (H : Hp) (S : Addr) (kvs : List (Key × V)) (st : Shelf) : Prop where
  rd : Rd H S (.dK kvs)
  nm : NmR (fun b v => Dp K H v (.tuple (rowsD b))) st kvs
theorem Rd.same {H H' : Hp} {S : Addr} {u : HO} (r : Rd H S u) (k : Kp [] H H') : Rd H' S u := r.elim (fun h => .inl (k.get trivial h)) fun ⟨o, h⟩ => .inr ⟨o, k.get trivial h⟩
theorem Rd.kp {H H' : Hp} {S : Addr} {u : HO} {W : List Addr} (r : Rd H S u) (k : Kp W H H') (n : Nin S W) : Rd H' S u := r.elim (fun h => .inl (k.get n h)) fun ⟨o, h⟩ => .inr ⟨o, k.get n h⟩
theorem StkAt.kp {K : PySem.W.Frag} {H H' : Hp} {S : Addr} {kvs : List (Key × V)} {st : Shelf} {W : List Addr} (h : StkAt K H S kvs st) (k : Kp W H H') (n : Nin S W) (t : TupK H H') : StkAt K H' S kvs st := ⟨Rd.kp h.rd k n, h.nm.mono fun b v q => Dp.tups t _ _ (flat_rowsD b) q⟩
theorem StkAt.same {K : PySem.W.Frag} {H H' : Hp} {S : Addr} {kvs : List (Key × V)} {st : Shelf} (h : StkAt K H S kvs st) (k : Kp [] H H') : StkAt K H' S kvs st := h.kp k trivial (TupK.same k)
theorem StkAt.lock {K : PySem.W.Frag} {H : Hp} {S : Addr} {kvs : List (Key × V)} {st : Shelf} (h : StkAt K H S kvs st) (ob : Obj) : StkAt K (upd H S (.frz ob (.dK kvs))) S kvs st ∧ Kp [S] H (upd H S (.frz ob (.dK kvs))) ∧ TupK H (upd H S (.frz ob (.dK kvs))) := by
  have k : Kp [S] H (upd H S (.frz ob (.dK kvs))) := Kp.refl.upd_mem List.mem_cons_self
  have t : TupK H (upd H S (.frz ob (.dK kvs))) := .of k fun x hx => by
    rw [List.mem_singleton.mp hx]
    rcases h.rd with e | ⟨o, e⟩
    · exact notup_dK e
    · exact fun ys r => by rcases r with r | ⟨o', r⟩ <;> rw [e] at r <;> cases r
  exact ⟨⟨.inr ⟨ob, upd_same⟩, h.nm.mono fun b v q => Dp.tups t _ _ (flat_rowsD b) q⟩, k, t⟩
/-- behind the walk -/
theorem Kp.unlockR {H H2 : Hp} {d : Addr} {w : HO} (e : H d = some w) (k : Kp [d] H H2) : Kp [] H (upd H2 d w) := fun a o _ h => by
  by_cases c : a = d
  · subst c
    rw [upd_same, ← h, e]
  · exact (upd_ne c).trans (k a o ⟨c, trivial⟩ h)
theorem s_inR {H : Hp} {a : Addr} {kvs : List (Key × V)} {z : Str} {R : Option V → Prop} (h : Rd H a (.dK kvs)) (q : R (valV kvs (.inr z))) : ∃ a' o, V.ref a = .ref a' ∧ DGet H a' (.str z) o ∧ R o := ⟨a, _, rfl, .inl ⟨kvs, .inr z, h, rfl, rfl⟩, q⟩
theorem s_getR {H : Hp} {a : Addr} {kvs : List (Key × V)} {z : Str} {v : V} {R : V → Prop} (h : Rd H a (.dK kvs)) (e : valV kvs (.inr z) = some v) (q : R v) : ∃ a' v, V.ref a = .ref a' ∧ DGet H a' (.str z) (some v) ∧ R v := ⟨a, v, rfl, .inl ⟨kvs, .inr z, h, rfl, e.symm⟩, q⟩
theorem StkAt.get {K : PySem.W.Frag} {H : Hp} {S : Addr} {kvs : List (Key × V)} {st : Shelf} (h : StkAt K H S kvs st) {z : Str} {b : List Row} (e : getA st z = some b) : ∃ v, valV kvs (.inr z) = some v ∧ Dp K H v (.tuple (rowsD b)) := by
  rcases h.nm.get z with ⟨g, _⟩ | ⟨b', v, g, gv, dv⟩
  · rw [e] at g; cases g
  · rw [e] at g; cases g
    exact ⟨v, gv, dv⟩
theorem StkAt.none {K : PySem.W.Frag} {H : Hp} {S : Addr} {kvs : List (Key × V)} {st : Shelf} (h : StkAt K H S kvs st) {z : Str} (e : getA st z = none) : valV kvs (.inr z) = none := by
  rcases h.nm.get z with ⟨_, g⟩ | ⟨b', v, g, _⟩
  · exact g
  · rw [e] at g; cases g
theorem PlainS.pw {st : Shelf} (P : PlainS st) {z : Str} {b : List Row} (e : getA st z = some b) : (∀ r ∈ b, PlainW r) ∧ b.length ≤ 40 := ⟨fun r hr => (P.row _ (getA_mem e) r hr).w, P.len _ (getA_mem e)⟩
/-- what is asked of the callers: a plain stock that stands -/
structure Plain (K : PySem.W.Frag) (H : Hp) (S : Addr) (kvs : List (Key × V)) (st : Shelf) : Prop where
  at_ : StkAt K H S kvs st
  ok : PlainS st
theorem Plain.same {K : PySem.W.Frag} {H H' : Hp} {S : Addr} {kvs : List (Key × V)} {st : Shelf} (h : Plain K H S kvs st) (k : Kp [] H H') : Plain K H' S kvs st := ⟨h.at_.same k, h.ok⟩
theorem Plain.kp {K : PySem.W.Frag} {H H' : Hp} {S : Addr} {kvs : List (Key × V)} {st : Shelf} {W : List Addr} (h : Plain K H S kvs st) (k : Kp W H H') (n : Nin S W) (t : TupK H H') : Plain K H' S kvs st := ⟨h.at_.kp k n t, h.ok⟩
theorem firstR_some {b : List Row} {z : Str} (h : z ∈ b.map bndR) : ∃ k, firstR b z = some k := by
  unfold firstR
  cases e : b.findIdx? fun r => decide (bndR r = z) with
  | some k => exact ⟨k, rfl⟩
  | none =>
    obtain ⟨r, hr, er⟩ := List.mem_map.mp h
    have := List.findIdx?_eq_none_iff.mp e r hr
    rw [decide_eq_true er] at this
    cases this
theorem pairG {α β : Type} {F : α → β → Prop} : ∀ {xs : List α} {ys : List β} {i : Nat} {x : α}, Paired F xs ys → xs[i]? = some x → ∃ y, ys[i]? = some y ∧ F x y
  | _, _, 0, _, .cons h _, e => ⟨_, rfl, by cases e; exact h⟩
  | _, _, i + 1, _, .cons _ t, e => pairG (i := i) t e
theorem pairG' {α β : Type} {F : α → β → Prop} : ∀ {xs : List α} {ys : List β} {i : Nat} {y : β}, Paired F xs ys → ys[i]? = some y → ∃ x, xs[i]? = some x ∧ F x y
  | _, _, 0, _, .cons h _, e => ⟨_, rfl, by cases e; exact h⟩
  | _, _, i + 1, _, .cons _ t, e => pairG' (i := i) t e
theorem s_iEnumL {K : PySem.W.Frag} {σ : L2.St} {H : Hp} {ta : TA} {R : It → Hp → Prop} (h : ta σ H fun vs H1 => ∃ a xs, vs = [.ref a] ∧ SqL K H1 a xs ∧ R (Ite K a) H1) : iEnum K ta σ H R := h
end PH

/-! FSb: what a law keeps of a plain stock and compares. -/
namespace PH
open PySem PySem.Spec PyProof.Rows L2 HL TL
/-- data that may be compared, at most k deep -/
def ShD (d : PyData) (k : Nat) : Prop := d.canLay0 = true ∧ d.depth ≤ k
theorem ShD.up {d : PyData} {k n : Nat} (h : ShD d k) (l : k ≤ n) : ShD d n := ⟨h.1, Nat.le_trans h.2 l⟩
theorem ShD.all : ∀ {ds : List PyData} {k : Nat}, (∀ d ∈ ds, ShD d k) → PyData.canLayAll0 ds = true ∧ PyData.depthAll ds ≤ k
  | [], _, _ => by simp [PyData.canLayAll0, PyData.depthAll]
  | d :: r, k, h => by
    obtain ⟨h1, h2⟩ := ShD.all (ds := r) fun x hx => h x (List.mem_cons_of_mem _ hx)
    obtain ⟨g1, g2⟩ := h d List.mem_cons_self
    simp only [PyData.canLayAll0, PyData.depthAll, g1, h1]
    exact ⟨rfl, Nat.max_le.mpr ⟨g2, h2⟩⟩
theorem ShD.list {ds : List PyData} {k : Nat} (h : ∀ d ∈ ds, ShD d k) : ShD (.list ds) (k + 1) := by
  obtain ⟨h1, h2⟩ := ShD.all h
  refine ⟨by simp only [PyData.canLay0, h1], ?_⟩
  simp only [PyData.depth]
  omega
theorem ShD.tup {ds : List PyData} {k : Nat} (h : ∀ d ∈ ds, ShD d k) : ShD (.tuple ds) (k + 1) := by
  obtain ⟨h1, h2⟩ := ShD.all h
  refine ⟨by simp only [PyData.canLay0, h1], ?_⟩
  simp only [PyData.depth]
  omega
theorem ShD.str {z : Str} (h : OkL (tl z)) : ShD (.str z) 0 := ⟨by simp only [PyData.canLay0, OkL.strT h], by simp only [PyData.depth]; exact Nat.le_refl _⟩
theorem ShD.int {i : Int} : ShD (.int i) 0 := ⟨by simp only [PyData.canLay0], by simp only [PyData.depth]; exact Nat.le_refl _⟩
theorem ShD.none : ShD .none 0 := ⟨by simp only [PyData.canLay0], by simp only [PyData.depth]; exact Nat.le_refl _⟩
theorem ShD.bool {b : Bool} : ShD (.bool b) 0 := ⟨by simp only [PyData.canLay0], by simp only [PyData.depth]; exact Nat.le_refl _⟩
theorem ShD.ok {d : PyData} {k : Nat} (h : ShD d k) (l : k ≤ 64) : SeqAt.shaped d = true := by
  unfold SeqAt.shaped
  rw [h.1, decide_eq_true (Nat.le_trans h.2 l)]
  rfl
theorem eqv_self {d : PyData} (h : SeqAt.shaped d = true) : PyData.eqv d d = true := PySem.SeqAt.eqv_refl d (SeqAt.canLay_of_shaped h)
theorem ShD.nm {z : Str} (h : NmOk z) : ShD (.str z) 0 := .str (isNameL_ok h)
theorem ShD.pth {z : Str} (h : PthOk z) : ShD (.str z) 0 := .str (isPathL_ok h)
theorem okl_word {z : Str} (h : z ∈ (["set", "late", "take", "draw", "end", "zz", "begin"] : List Str)) : OkL (tl z) := by
  rcases List.mem_cons.mp h with rfl | h
  · unfold OkL; decide +kernel
  rcases List.mem_cons.mp h with rfl | h
  · unfold OkL; decide +kernel
  rcases List.mem_cons.mp h with rfl | h
  · unfold OkL; decide +kernel
  rcases List.mem_cons.mp h with rfl | h
  · unfold OkL; decide +kernel
  rcases List.mem_cons.mp h with rfl | h
  · unfold OkL; decide +kernel
  rcases List.mem_cons.mp h with rfl | h
  · unfold OkL; decide +kernel
  rw [List.mem_singleton.mp h]
  unfold OkL; decide +kernel
theorem ShD.word {z : Str} (h : z ∈ (["set", "late", "take", "draw", "end", "zz", "begin"] : List Str)) : ShD (.str z) 0 := .str (okl_word h)
theorem ShD.row {st : Shelf} {r : Row} (h : PlainR st r) : ShD (r.dat 3) 1 := by
  have c3 : ∀ {a b c : PyData}, ShD a 0 → ShD b 0 → ShD c 0 → ShD (.tuple [a, b, c]) 1 := fun ha hb hc => .tup fun d hd => by
    rcases List.mem_cons.mp hd with rfl | hd
    · exact ha
    rcases List.mem_cons.mp hd with rfl | hd
    · exact hb
    rw [List.mem_singleton.mp hd]; exact hc
  cases r with
  | set x n => exact c3 (.word (by simp)) (.nm h.1) .int
  | late x q => exact c3 (.word (by simp)) (.nm h.1) (.pth h.2)
  | take x p => exact c3 (.word (by simp)) (.nm h.1) (.pth h.2.1)
  | draw x p y =>
    refine ShD.tup fun d hd => ?_
    rcases List.mem_cons.mp hd with rfl | hd
    · exact .word (by simp)
    rcases List.mem_cons.mp hd with rfl | hd
    · exact .nm h.1
    rcases List.mem_cons.mp hd with rfl | hd
    · exact .pth h.2.1
    rw [List.mem_singleton.mp hd]; exact .nm h.2.2.1
  | _ => exact h.elim
/-- the items of a stock, as data -/
def keptD (st : Shelf) : PyData := .list (st.map fun e => .tuple [.str e.1, .tuple (rowsD e.2)])
theorem shaped_kept {st : Shelf} (P : PlainS st) : SeqAt.shaped (keptD st) = true := by
  refine ShD.ok (k := 4) (.list fun d hd => ?_) (by decide)
  obtain ⟨e, he, rfl⟩ := List.mem_map.mp hd
  refine .tup fun d hd => ?_
  rcases List.mem_cons.mp hd with rfl | hd
  · exact (ShD.nm (P.key e he)).up (by omega)
  rw [List.mem_singleton.mp hd]
  refine .tup fun d hd => ?_
  obtain ⟨r, hr, rfl⟩ := List.mem_map.mp hd
  exact .row (P.row e he r hr)
theorem dp_kept {K : PySem.W.Frag} {H : Hp} {p : Addr} {ts : List Addr} {kvs : List (Key × V)} {st : Shelf} (e : H p = some (.lst (ts.map V.ref))) (pr : Paired (fun (t : Addr) (q : Key × V) => H t = some (.tup [kV q.1, q.2])) ts kvs)
    (nm : NmR (fun b v => Dp K H v (.tuple (rowsD b))) st kvs) : Dp K H (.ref p) (keptD st) := by
  refine .lst (sq_l e) ?_
  clear e
  have all : ∀ (st : Shelf) (kvs : List (Key × V)) (ts : List Addr), Paired (fun (t : Addr) (q : Key × V) => H t = some (.tup [kV q.1, q.2])) ts kvs → NmR (fun b v => Dp K H v (.tuple (rowsD b))) st kvs → DpAll K H (ts.map V.ref) (st.map fun e => .tuple [.str e.1, .tuple (rowsD e.2)]) := fun st kvs => by
    induction kvs generalizing st with
    | nil => intro ts pr nm; cases pr; cases nm; exact .nil
    | cons q r ih =>
      intro ts pr nm
      cases pr with
      | cons h t =>
        cases nm with
        | cons g u =>
          obtain ⟨g1, g2⟩ := g
          obtain ⟨k, v⟩ := q
          have g1 : k = Sum.inr _ := g1
          subst g1
          exact .cons (.tup (sq_t h) (.cons (.str _) (.cons g2 .nil))) (ih _ _ t u)
  exact all st kvs ts pr nm
end PH

/-! FSc: draws, early aims, steps ahead: plain. -/
namespace PH
open PySem PySem.Spec PyProof.Rows L2 HL TL
noncomputable def bodyS (st : Shelf) (z : Str) : List Row := (getA st z).getD []
theorem body_key {st : Shelf} (P : PlainS st) {z : Str} (h : z ∈ keysS st) : getA st z = some (bodyS st z) := by
  obtain ⟨b, e, _⟩ := P.get h
  unfold bodyS
  rw [e]
  rfl
theorem body_row {st : Shelf} (P : PlainS st) {z : Str} (h : z ∈ keysS st) : ∀ r ∈ bodyS st z, PlainR st r := fun r hr => P.row _ (getA_mem (body_key P h)) r hr
theorem body_len {st : Shelf} (P : PlainS st) {z : Str} (h : z ∈ keysS st) : (bodyS st z).length ≤ 40 := P.len _ (getA_mem (body_key P h))
theorem aims_body {st : Shelf} (P : PlainS st) {z : Str} (h : z ∈ keysS st) : ∀ y ∈ aimsL (bodyS st z), y ∈ keysS st := fun y hy => P.aim (getA_mem (body_key P h)) hy
theorem key_nmS {st : Shelf} (P : PlainS st) {z : Str} (h : z ∈ keysS st) : NmOk z := by
  obtain ⟨e, he, rfl⟩ := List.mem_map.mp h
  exact P.key e he
theorem aimsL_app (a b : List Row) : aimsL (a ++ b) = aimsL a ++ aimsL b := List.filterMap_append
theorem aims_take {b : List Row} {n : Nat} {y : Str} (h : y ∈ aimsL (b.take n)) : y ∈ aimsL b := by
  obtain ⟨r, hr, e⟩ := List.mem_filterMap.mp h
  exact List.mem_filterMap.mpr ⟨r, List.mem_of_mem_take hr, e⟩
/-! draws -/
abbrev Dw := Str × Nat × Str × Str
def drawR (z : Str) (k : Nat) : Row → Option Dw
  | .draw _ m y => some (z, k, m, y)
  | _ => none
def drawsB (z : Str) (b : List Row) : List Dw := b.zipIdx.filterMap fun e => drawR z e.2 e.1
theorem drawsB_put {z : Str} {b : List Row} {i : Nat} {r : Row} (e : b[i]? = some r) : drawsB z (b.take (i + 1)) = drawsB z (b.take i) ++ (drawR z i r).toList := by
  unfold drawsB
  have li := (List.getElem?_eq_some_iff.mp e).1
  have l0 : (b.take i).length = i := by rw [List.length_take]; omega
  rw [take_put e, List.zipIdx_append, List.filterMap_append, l0]
  congr 1
  cases h : drawR z i r with
  | none => simp [List.filterMap, h]
  | some d => simp [List.filterMap, h]
theorem drawsB_len (z : Str) (b : List Row) : (drawsB z b).length ≤ b.length := Nat.le_trans (List.length_filterMap_le _ _) (by rw [List.length_zipIdx]; exact Nat.le_refl _)
theorem drawsB_mem {z : Str} {b : List Row} {d : Dw} (h : d ∈ drawsB z b) : d.1 = z ∧ ∃ x, b[d.2.1]? = some (.draw x d.2.2.1 d.2.2.2) := by
  obtain ⟨⟨r, k⟩, hr, e⟩ := List.mem_filterMap.mp h
  have ek : b[k]? = some r := by
    have := List.mem_zipIdx_iff_getElem?.mp hr
    exact this
  cases r with
  | draw x m y => cases e; exact ⟨rfl, x, ek⟩
  | _ => cases e
def dwV (d : Dw) : List V := [.str d.1, .int (d.2.1 : Nat), .str d.2.2.1, .str d.2.2.2]
def dwD (d : Dw) : PyData := .tuple [.str d.1, .int (d.2.1 : Nat), .str d.2.2.1, .str d.2.2.2]
theorem dw_sq {K : PySem.W.Frag} {H : Hp} {v : V} {d : Dw} (h : Dp K H v (dwD d)) : ∃ t, v = .ref t ∧ SqT K H t (dwV d) := by
  cases h with | tup s q => cases q with | cons d1 q => cases d1; cases q with | cons d2 q => cases d2; cases q with | cons d3 q => cases d3; cases q with | cons d4 q => cases d4; cases q; exact ⟨_, rfl, s⟩
theorem sq_dw {K : PySem.W.Frag} {H : Hp} {t : Addr} {d : Dw} (h : SqT K H t (dwV d)) : Dp K H (.ref t) (dwD d) := .tup h (.cons (.str _) (.cons (.int _) (.cons (.str _) (.cons (.str _) .nil))))
noncomputable def allDraws (st : Shelf) (zs : List Str) : List Dw := zs.flatMap fun z => drawsB z (bodyS st z)
theorem allDraws_put {st : Shelf} {zs : List Str} {i : Nat} {z : Str} (e : zs[i]? = some z) : allDraws st (zs.take (i + 1)) = allDraws st (zs.take i) ++ drawsB z (bodyS st z) := by
  unfold allDraws
  rw [take_put e, List.flatMap_append, List.flatMap_singleton]
theorem allDraws_len {st : Shelf} (P : PlainS st) : ∀ zs : List Str, (∀ z ∈ zs, z ∈ keysS st) → (allDraws st zs).length ≤ 40 * zs.length
  | [], _ => Nat.zero_le _
  | z :: r, h => by
    have ih := allDraws_len P r fun y hy => h y (List.mem_cons_of_mem _ hy)
    have := drawsB_len z (bodyS st z)
    have := body_len P (h z List.mem_cons_self)
    unfold allDraws at ih ⊢
    rw [List.flatMap_cons, List.length_append, List.length_cons]
    omega
/-- a draw of a plain stock -/
structure DwOk (st : Shelf) (d : Dw) : Prop where
  c : d.1 ∈ keysS st
  row : ∃ x, (bodyS st d.1)[d.2.1]? = some (.draw x d.2.2.1 d.2.2.2)
  m : d.2.2.1 ∈ keysS st
  y : d.2.2.2 ∈ (bodyS st d.2.2.1).map bndR
  yn : NmOk d.2.2.2
theorem DwOk.of {st : Shelf} (P : PlainS st) {zs : List Str} (hz : ∀ z ∈ zs, z ∈ keysS st) {d : Dw} (h : d ∈ allDraws st zs) : DwOk st d := by
  obtain ⟨z, mz, hd⟩ := List.mem_flatMap.mp h
  obtain ⟨e, x, ex⟩ := drawsB_mem hd
  have kz := hz z mz
  have pr := body_row P kz _ (List.mem_of_getElem? ex)
  obtain ⟨_, _, h3, b, gb, my⟩ := pr
  refine ⟨by rw [e]; exact kz, ⟨x, by rw [e]; exact ex⟩, List.mem_map.mpr ⟨_, getA_mem gb, rfl⟩, ?_, h3⟩
  unfold bodyS
  rw [gb]
  exact my
theorem DwOk.lt {st : Shelf} {d : Dw} (h : DwOk st d) (P : PlainS st) : d.2.1 < 40 := by
  obtain ⟨x, e⟩ := h.row
  have := (List.getElem?_eq_some_iff.mp e).1
  have := body_len P h.c
  omega
/-- the number of the first row that binds a name -/
def fstR (b : List Row) (z : Str) : Nat := (firstR b z).getD b.length
theorem fstR_some {b : List Row} {z : Str} (h : z ∈ b.map bndR) : firstR b z = some (fstR b z) := by
  obtain ⟨k, e⟩ := firstR_some h
  unfold fstR
  rw [e]
  rfl
theorem firstR_lt {b : List Row} {z : Str} {k : Nat} (h : firstR b z = some k) : k < b.length := by
  unfold firstR at h
  obtain ⟨hk, _⟩ := List.findIdx?_eq_some_iff_getElem.mp h
  exact hk
noncomputable def earlyL (st : Shelf) (m y : Str) : List Str := (aimsL ((bodyS st m).take (fstR (bodyS st m) y + 1))).filter fun z => !decide (z = m)
theorem early_keys {st : Shelf} (P : PlainS st) {m y : Str} (h : m ∈ keysS st) : (∀ z ∈ earlyL st m y, z ∈ keysS st) ∧ (earlyL st m y).length ≤ 40 := by
  refine ⟨fun z hz => aims_body P h z (aims_take (List.mem_filter.mp hz).1), ?_⟩
  refine Nat.le_trans (List.length_filter_le _ _) (Nat.le_trans (List.length_filterMap_le _ _) ?_)
  rw [List.length_take]
  have := body_len P h
  omega
/-- the lot of a draw -/
noncomputable def lotL (st : Shelf) (m y : Str) : List Str := comeL st [m] (earlyL st m y)
theorem lot_mem {st : Shelf} (P : PlainS st) {m y z : Str} (h : m ∈ keysS st) : z ∈ lotL st m y ↔ Come st [m] (earlyL st m y) z := comeL_mem P (early_keys P h).1
/-! steps ahead -/
noncomputable def rowsA (st : Shelf) (m : Str) (n : Nat) (h : Str) : List Row := if h = m then (bodyS st m).take n else bodyS st h
abbrev Ah := List (Str × (Str × Nat))
structure Ahd (st : Shelf) (m : Str) (n : Nat) (ah : Ah) : Prop where
  nd : (ah.map (·.1)).Nodup
  st : ∀ (i : Nat) (z h : Str) (k : Nat), ah[i]? = some (z, h, k) → z ≠ m ∧ (∃ r, (rowsA st m n h)[k]? = some r ∧ aimR r = some z) ∧ (h = m ∨ ∃ j, j < i ∧ (ah.map (·.1))[j]? = some h)
/-- all that stand before place j have been walked -/
def Clo (st : Shelf) (m : Str) (n : Nat) (ah : Ah) (j : Nat) : Prop := ∀ i : Nat, i < j → ∀ h : Str, (m :: ah.map (·.1))[i]? = some h → ∀ a ∈ aimsL (rowsA st m n h), a ≠ m → a ∈ ah.map (·.1)
theorem Ahd.nil {st : Shelf} {m : Str} {n : Nat} : Ahd st m n [] := ⟨.nil, fun i z h k e => by cases i <;> cases e⟩
theorem Clo.zero {st : Shelf} {m : Str} {n : Nat} {ah : Ah} : Clo st m n ah 0 := fun i h => absurd h (Nat.not_lt_zero i)
theorem get_app {α : Type} {l r : List α} {i : Nat} {x : α} (h : l[i]? = some x) : (l ++ r)[i]? = some x := by
  rw [List.getElem?_append_left (List.getElem?_eq_some_iff.mp h).1]
  exact h
theorem Ahd.key {st : Shelf} (P : PlainS st) {m : Str} {n : Nat} {ah : Ah} (A : Ahd st m n ah) (hm : m ∈ keysS st) : ∀ z ∈ ah.map (·.1), z ∈ keysS st := by
  have all : ∀ i z, (ah.map (·.1))[i]? = some z → z ∈ keysS st := fun i => by
    induction i using Nat.strongRecOn with
    | ind i ih =>
      intro z e
      rw [List.getElem?_map] at e
      obtain ⟨⟨z', h, k⟩, e1, e2⟩ := Option.map_eq_some_iff.mp e
      cases (show z' = z from e2)
      obtain ⟨_, ⟨r, er, ar⟩, hh⟩ := A.st i _ h k e1
      have kh : h ∈ keysS st := by
        rcases hh with rfl | ⟨j, hj, ej⟩
        · exact hm
        · exact ih j hj h ej
      have mr : r ∈ bodyS st h := by
        have mem := List.mem_of_getElem? er
        unfold rowsA at mem
        split at mem
        · rename_i c
          rw [c]
          exact List.mem_of_mem_take mem
        · exact mem
      exact aims_body P kh _ (List.mem_filterMap.mpr ⟨r, mr, ar⟩)
  intro z hz
  obtain ⟨i, e⟩ := List.mem_iff_getElem?.mp hz
  exact all i z e
theorem Ahd.put {st : Shelf} {m : Str} {n : Nat} {ah : Ah} (A : Ahd st m n ah) {z h : Str} {k : Nat} {r : Row} (nz : z ∉ ah.map (·.1)) (zm : z ≠ m) (er : (rowsA st m n h)[k]? = some r) (ar : aimR r = some z) (hh : h ∈ m :: ah.map (·.1)) : Ahd st m n (ah ++ [(z, h, k)]) := by
  refine ⟨?_, fun i z' h' k' e => ?_⟩
  · rw [List.map_append]
    exact List.nodup_append.mpr ⟨A.nd, List.pairwise_singleton _ _, fun a ha b hb c => nz ((show a = z from c.trans (List.mem_singleton.mp hb)) ▸ ha)⟩
  · by_cases c : i < ah.length
    · rw [List.getElem?_append_left c] at e
      obtain ⟨a1, a2, a3⟩ := A.st i z' h' k' e
      refine ⟨a1, a2, a3.imp id fun ⟨j, hj, ej⟩ => ⟨j, hj, by rw [List.map_append]; exact get_app ej⟩⟩
    · rw [List.getElem?_append_right (by omega)] at e
      have i0 : i - ah.length = 0 := by
        have := (List.getElem?_eq_some_iff.mp e).1
        simp at this
        omega
      rw [i0] at e
      cases e
      refine ⟨zm, ⟨r, er, ar⟩, ?_⟩
      rcases List.mem_cons.mp hh with c | c
      · exact .inl c
      · obtain ⟨j, ej⟩ := List.mem_iff_getElem?.mp c
        have lj := (List.getElem?_eq_some_iff.mp ej).1
        rw [List.length_map] at lj
        exact .inr ⟨j, by omega, by rw [List.map_append]; exact get_app ej⟩
theorem Clo.put {st : Shelf} {m : Str} {n : Nat} {ah : Ah} {j : Nat} (C : Clo st m n ah j) (hj : j ≤ ah.length + 1) (e : Str × (Str × Nat)) : Clo st m n (ah ++ [e]) j := fun i hi h eh a ha na => by
  have : (m :: ah.map (·.1))[i]? = some h := by
    rw [List.map_append, ← List.cons_append] at eh
    rwa [List.getElem?_append_left (by rw [List.length_cons, List.length_map]; omega)] at eh
  rw [List.map_append]
  exact List.mem_append_left _ (C i hi h this a ha na)
theorem Clo.next {st : Shelf} {m : Str} {n : Nat} {ah : Ah} {j : Nat} {h : Str} (C : Clo st m n ah j) (e : (m :: ah.map (·.1))[j]? = some h) (w : ∀ a ∈ aimsL (rowsA st m n h), a ≠ m → a ∈ ah.map (·.1)) : Clo st m n ah (j + 1) := fun i hi h' eh a ha na => by
  by_cases c : i = j
  · subst c
    rw [e] at eh
    cases eh
    exact w a ha na
  · exact C i (by omega) h' eh a ha na
/-- the names that are come to -/
theorem Ahd.come {st : Shelf} (P : PlainS st) {m y : Str} {ah : Ah} (hm : m ∈ keysS st) (A : Ahd st m (fstR (bodyS st m) y + 1) ah) (C : Clo st m (fstR (bodyS st m) y + 1) ah (ah.length + 1)) (z : Str) : z ∈ ah.map (·.1) ↔ Come st [m] (earlyL st m y) z := by
  have rm : rowsA st m (fstR (bodyS st m) y + 1) m = (bodyS st m).take (fstR (bodyS st m) y + 1) := if_pos rfl
  constructor
  · have all : ∀ i z, (ah.map (·.1))[i]? = some z → Come st [m] (earlyL st m y) z := fun i => by
      induction i using Nat.strongRecOn with
      | ind i ih =>
        intro z e
        rw [List.getElem?_map] at e
        obtain ⟨⟨z', h, k⟩, e1, e2⟩ := Option.map_eq_some_iff.mp e
        cases (show z' = z from e2)
        obtain ⟨zm, ⟨r, er, ar⟩, hh⟩ := A.st i _ h k e1
        have az : _ ∈ aimsL (rowsA st m (fstR (bodyS st m) y + 1) h) := List.mem_filterMap.mpr ⟨r, List.mem_of_getElem? er, ar⟩
        by_cases c : h = m
        · subst c
          rw [rm] at az
          exact .start (List.mem_filter.mpr ⟨az, by simpa using zm⟩) (by simpa using zm)
        · obtain ⟨j, hj, ej⟩ := hh.resolve_left c
          have ch := ih j hj h ej
          have kh := A.key P hm h (List.mem_of_getElem? ej)
          rw [show rowsA st m (fstR (bodyS st m) y + 1) h = bodyS st h from if_neg c] at az
          exact .step ch (body_key P kh) az (by simpa using zm)
    intro hz
    obtain ⟨i, e⟩ := List.mem_iff_getElem?.mp hz
    exact all i z e
  · intro h
    induction h with
    | @start z a nm =>
      obtain ⟨h1, h2⟩ := List.mem_filter.mp a
      exact C 0 (by omega) m rfl z (by rw [rm]; exact h1) (by simpa using h2)
    | @step x z b _ eb hz nm ih =>
      obtain ⟨i, e⟩ := List.mem_iff_getElem?.mp ih
      have li := (List.getElem?_eq_some_iff.mp e).1
      rw [List.length_map] at li
      have xm : x ≠ m := by
        rw [List.getElem?_map] at e
        obtain ⟨⟨z', h, k⟩, e1, e2⟩ := Option.map_eq_some_iff.mp e
        cases (show z' = x from e2)
        exact (A.st i _ h k e1).1
      refine C (i + 1) (by omega) x e z ?_ (by simpa using nm)
      rw [show rowsA st m (fstR (bodyS st m) y + 1) x = bodyS st x from if_neg xm]
      unfold bodyS
      rw [eb]
      exact hz
end PH

/-! HSs: set(xs) of texts, xs a tuple or a list; len(set(xs)), sorted(set(xs)). -/
namespace HL
open PySem PySem.Spec PyProof.Rows L2
def adL (l : List Str) (k : Str) : List Str := if k ∈ l then l else l ++ [k]
def miL (ks : List Str) : List Str := ks.foldl adL []
theorem miL_put {ks : List Str} {i : Nat} {z : Str} (h : ks[i]? = some z) : miL (ks.take (i + 1)) = adL (miL (ks.take i)) z := by
  unfold miL
  rw [List.take_add_one, h, Option.toList_some, List.foldl_append]
  rfl
theorem adL_nd {l : List Str} {k : Str} (h : l.Nodup) : (adL l k).Nodup := by
  unfold adL
  split
  · exact h
  · rename_i c
    exact List.nodup_append.mpr ⟨h, List.pairwise_singleton _ _, fun a ha b hb e => c (by rw [← List.mem_singleton.mp hb, ← e]; exact ha)⟩
theorem adL_mem {l : List Str} {k z : Str} : z ∈ adL l k ↔ z ∈ l ∨ z = k := by
  unfold adL
  split
  · rename_i c
    exact ⟨.inl, fun h => h.elim id fun e => e ▸ c⟩
  · rw [List.mem_append, List.mem_singleton]
theorem miL_all (ks : List Str) : ∀ l : List Str, l.Nodup → (ks.foldl adL l).Nodup ∧ (∀ z, z ∈ ks.foldl adL l ↔ z ∈ l ∨ z ∈ ks) ∧ (ks.foldl adL l).length ≤ l.length + ks.length := by
  induction ks with
  | nil => exact fun l h => ⟨h, fun z => ⟨.inl, fun h => h.elim id (fun h => nomatch h)⟩, Nat.le_refl _⟩
  | cons k r ih =>
    intro l h
    obtain ⟨h1, h2, h3⟩ := ih (adL l k) (adL_nd h)
    refine ⟨h1, fun z => (h2 z).trans ?_, Nat.le_trans h3 ?_⟩
    · rw [adL_mem, List.mem_cons]
      exact ⟨fun h => h.elim (fun h => h.elim .inl fun e => .inr (.inl e)) fun h => .inr (.inr h), fun h => h.elim (fun h => .inl (.inl h)) fun h => h.elim (fun e => .inl (.inr e)) .inr⟩
    · have : (adL l k).length ≤ l.length + 1 := by
        unfold adL
        split
        · omega
        · rw [List.length_append]; exact Nat.le_refl _
      rw [List.length_cons]
      omega
theorem miL_nd (ks : List Str) : (miL ks).Nodup := (miL_all ks [] .nil).1
theorem miL_mem {ks : List Str} {z : Str} : z ∈ miL ks ↔ z ∈ ks := ((miL_all ks [] .nil).2.1 z).trans ⟨fun h => h.elim (fun h => nomatch h) id, .inr⟩
theorem miL_len (ks : List Str) : (miL ks).length ≤ ks.length := by
  have := (miL_all ks [] .nil).2.2
  rwa [List.length_nil, Nat.zero_add] at this
def keyS (e : Int × Value) : Str := match e.2 with | .str k _ => k | _ => Str.empty
def GoodS (P : Program) (w : World) (e : Int × Value) : Prop := ∃ k tk, e.2 = Value.str k tk ∧ e.1 = (strKind P w).hash k
/-- the set of the texts l at a -/
def SetS (P : Program) (w : World) (h : Heap) (a : Addr) (l : List Str) : Prop :=
  ∃ o es ep t, h.get? a = some o ∧ o.ExactSet ∧ o.data = .set es ep t ∧ (∀ e ∈ es.toList, GoodS P w e) ∧ (es.toList.map keyS).Perm l ∧ l.Nodup ∧
    es.size < scanBound ∧ t.fits es.size = true ∧ Ris t.place.toList ∧ (w.params.followText "set-order" = true ∨ t.led = true)
section
variable {P : Program} {w : World} {A : Around} {E : Value → Shared → Prop} {s : Shared} {h h' : Heap} {a : Addr} {l : List Str}
theorem SetS.at (R : SetS P w h a l) (k : ∀ o, h.get? a = some o → h'.get? a = some o) : SetS P w h' a l := by
  obtain ⟨o, es, ep, t, ho, r⟩ := R
  exact ⟨o, es, ep, t, k o ho, r⟩
theorem goodS_elems {l : List (Int × Value)} (g : ∀ e ∈ l, GoodS P w e) : ElemsOf (strKind P w) l := fun e he => by
  obtain ⟨k, tk, h1, h2⟩ := g e he
  exact ⟨⟨k, by rw [h1]; exact strKind_is P w k tk, h2⟩, by rw [h1] <;> rfl⟩
theorem goodS_is {e : Int × Value} (g : GoodS P w e) (k : Str) : (strKind P w).is k e.2 = true ↔ keyS e = k := by
  obtain ⟨k0, tk, h1, _⟩ := g
  unfold keyS
  rw [h1]
  constructor
  · intro h
    exact (strKind P w).inj (.str k0 tk) k0 k (strKind_is P w k0 tk) h
  · rintro rfl
    exact strKind_is P w _ tk
theorem goodS_mem {l : List (Int × Value)} (g : ∀ e ∈ l, GoodS P w e) (k : Str) : k ∈ l.map keyS ↔ ∃ e ∈ l, (strKind P w).is k e.2 = true := by
  rw [List.mem_map]
  constructor
  · rintro ⟨e, he, q⟩
    exact ⟨e, he, (goodS_is (g e he) k).2 q⟩
  · rintro ⟨e, he, q⟩
    exact ⟨e, he, (goodS_is (g e he) k).1 q⟩
theorem setS_add_tail {g : Bool → Sem Unit} (hg : ∀ (b : Bool) (s₁ : Shared) (Q' : Unit → Shared → Prop), Q' () s₁ → wpAny (model P w) A (g b) Q' E s₁)
    {o : Obj} {es : Array (Int × Value)} {ep : Nat} {t : SetTable} (ho : s.heap.get? a = some o) (hex : o.ExactSet) (hd : o.data = .set es ep t)
    {es1 : Array (Int × Value)} {t2 : SetTable} {l' : List Str} (g1 : ∀ e ∈ es1.toList, GoodS P w e) (pm1 : (es1.toList.map keyS).Perm l') (nd1 : l'.Nodup)
    (hb1 : es1.size < scanBound) (hf2 : t2.fits es1.size = true) (hr : Ris t2.place.toList) (hl : w.params.followText "set-order" = true ∨ t2.led = true) {wasDummy : Bool} {R : Option Bool → Shared → Prop}
    (hR : ∀ h', Heap.SameBut a s.heap h' → SetS P w h' a l' → R (some true) { s with heap := h' }) :
    wpAny (model P w) A (do
        storeSet a es1 t2
        if (!wasDummy && t2.tooFull) = true then do
            g (relayAll t2 es1 (SetTable.grown es1.size)).2.2
            storeSet a (relayAll t2 es1 (SetTable.grown es1.size)).1 (relayAll t2 es1 (SetTable.grown es1.size)).2.1
            pure (some true)
          else pure (some true)) R E s := by
  refine wpAny_bind (wpAny_storeSet_of ho hd ?_ (fits_of_scanBound hb1))
  have ho1 := store_at (es' := es1) (t' := t2) ho hd
  have sb1 := Heap.SameBut.update s.heap a (Obj.putSet es1 t2)
  split
  · have pm := relayAll_perm t2 es1 (SetTable.grown es1.size)
    have hf3 := relayAll_fits t2 es1 (SetTable.grown es1.size)
    have hr3 := relayAll_ris t2 es1 (SetTable.grown es1.size)
    have hl3 := relayAll_led t2 es1 (SetTable.grown es1.size)
    generalize relayAll t2 es1 (SetTable.grown es1.size) = Z at pm hf3 hr3 hl3 ⊢
    obtain ⟨es2, t3, gave⟩ := Z
    dsimp only at pm hf3 hr3 hl3 ⊢
    have hsz : es2.size = es1.size := by rw [← Array.length_toList, pm.length_eq, Array.length_toList]
    have hb2 : es2.size < scanBound := by rw [hsz]; exact hb1
    refine wpAny_bind (hg _ _ _ ?_)
    refine wpAny_bind (wpAny_storeSet_of ho1 rfl ?_ (fits_of_scanBound hb2))
    have ho2 := store_at (es' := es2) (t' := t3) ho1 rfl
    refine wpAny_pure (hR _ (sb1.trans (Heap.SameBut.update _ a _)) ?_)
    exact ⟨_, es2, _, t3, ho2, hex, rfl, fun e he => g1 e (pm.mem_iff.mp he), (pm.map keyS).trans pm1, nd1, hb2, hf3, hr3,
      hl.imp id fun z => by rw [hl3]; exact z⟩
  · exact wpAny_pure (hR _ sb1 ⟨_, es1, _, t2, ho1, hex, rfl, g1, pm1, nd1, hb1, hf2, hr, hl⟩)
theorem setS_add_hashed {k : Str} {tk : Tok} {Q : Bool → Shared → Prop} (R : SetS P w s.heap a l) (room : l.length + 1 < scanBound)
    (hQ : ∀ b h', Heap.SameBut a s.heap h' → SetS P w h' a (adL l k) → Q b { s with heap := h' }) :
    wpAny (model P w) A (setAddHashed a (.str k tk) ((strKind P w).hash k)) Q E s := by
  obtain ⟨o, es, ep, t, ho, hex, hd, g, pm0, nd, hb, hf, hr, hl⟩ := R
  have hn : es.size = l.length := by rw [← pm0.length_eq, List.length_map, Array.length_toList]
  have hkey : (strKind P w).is k (.str k tk) = true := strKind_is P w k tk
  have hsc : (Value.str k tk).scannable = true := rfl
  have hel : ElemsOf (strKind P w) es.toList := goodS_elems g
  unfold setAddHashed setAddHashedIn
  refine wpAny_holding (wpAny_bind (wpAny_setState_of ho hd hf ?_))
  dsimp only
  rw [byScan_of hsc hb hel]
  simp only [↓reduceIte]
  unfold setAddByScan
  refine wpAny_bind ?_
  refine wpAny_bind (wpAny_rule ?_)
  refine wpAny_bind (wpAny_setScan_of hkey ho hd hf hel ?_)
  cases hfi : List.findIdx? (fun e => (strKind P w).is k e.2) es.toList with
  | some j =>
    dsimp only
    obtain ⟨hj, pj, _⟩ := List.findIdx?_eq_some_iff_getElem.mp hfi
    have hSk : k ∈ l := pm0.mem_iff.mp ((goodS_mem (P := P) (w := w) g k).2 ⟨es.toList[j], List.getElem_mem hj, pj⟩)
    refine wpAny_pure (wpAny_pure ?_)
    have e : adL l k = l := if_pos hSk
    exact hQ _ s.heap (Heap.SameBut.refl a s.heap) ⟨o, es, ep, t, ho, hex, hd, g, by rw [e]; exact pm0, by rw [e]; exact nd, hb, hf, hr, hl⟩
  | none =>
    dsimp only
    have hnk : k ∉ l := fun z => by
      obtain ⟨e, he, q⟩ := (goodS_mem (P := P) (w := w) g k).1 (pm0.mem_iff.mpr z)
      have c := List.findIdx?_eq_none_iff.mp hfi e he
      rw [q] at c
      cases c
    have el : adL l k = l ++ [k] := if_neg hnk
    have hgw : ∀ (b : Bool) {s₁ : Shared} {Q' : Unit → Shared → Prop}, Q' () s₁ → wpAny (model P w) A (match b with | true => rule "set.scan.the-table-gave-way" | false => pure ()) Q' E s₁ :=
      fun b s₁ Q' q => by cases b <;> first | exact wpAny_pure q | exact wpAny_rule q
    have pm := layNew_perm t es ((strKind P w).hash k) (.str k tk)
    have hf1 := layNew_fits t es ((strKind P w).hash k) (.str k tk)
    have hr1 := layNew_ris t es ((strKind P w).hash k) (.str k tk) hr
    have hl1 := layNew_led t es ((strKind P w).hash k) (.str k tk)
    generalize layNew t es ((strKind P w).hash k) (.str k tk) = Z at pm hf1 hr1 hl1 ⊢
    obtain ⟨es1, t1, wasDummy, gave⟩ := Z
    dsimp only at pm hf1 hr1 hl1 ⊢
    rw [Array.toList_push] at pm
    have pc : es1.toList.Perm (((strKind P w).hash k, Value.str k tk) :: es.toList) := pm.trans (List.perm_append_singleton _ _)
    have pk : (es1.toList.map keyS).Perm (adL l k) := by
      rw [el]
      refine (pc.map keyS).trans ?_
      exact (List.Perm.cons k pm0).trans (List.perm_append_singleton _ _).symm
    have g1 : ∀ e ∈ es1.toList, GoodS P w e := fun e he => by
      rcases List.mem_cons.mp (pc.mem_iff.mp he) with z | z
      · rw [z]; exact ⟨k, tk, rfl, rfl⟩
      · exact g e z
    have nd1 : (adL l k).Nodup := adL_nd nd
    have hsz : es1.size = l.length + 1 := by rw [← Array.length_toList, pc.length_eq, List.length_cons, Array.length_toList, hn]
    have hb1 : es1.size < scanBound := by rw [hsz]; exact room
    have hled : w.params.followText "set-order" = true ∨ t1.led = true := hl.imp id fun z => by rw [hl1]; exact z
    refine wpAny_bind (hgw _ ?_)
    split
    · refine wpAny_bind ?_
      rw [hashByValue_scannable 8 hsc]
      refine wpAny_pure ?_
      refine setS_add_tail ?_ ho hex hd g1 pk nd1 hb1 ?_ ?_ ?_ ?_
      · intro b s₁ Q' q; cases b <;> first | exact wpAny_pure q | exact wpAny_rule q
      · first | (split <;> first | exact hf1 | exact SetTable.fits_plain_off hf1) | exact hf1
      · first | (split <;> exact hr1) | exact hr1
      · first | (split <;> exact hled) | exact hled
      · intro h' sb r; dsimp only; exact wpAny_pure (hQ _ h' sb r)
    · refine wpAny_bind (wpAny_pure ?_)
      simp only [↓reduceIte]
      refine setS_add_tail ?_ ho hex hd g1 pk nd1 hb1 hf1 hr1 hled ?_
      · intro b s₁ Q' q; cases b <;> first | exact wpAny_pure q | exact wpAny_rule q
      · intro h' sb r; dsimp only; exact wpAny_pure (hQ _ h' sb r)
abbrev eT (w : World) : Obj := { cls := .type "set", dict := none, data := .set #[] 0 (.fresh 0 0 (!w.params.followText "set-order")) }
theorem setS_fresh {h : Heap} (P : Program) (w : World) : SetS P w (h.push (eT w)) h.objs.size [] :=
  ⟨_, #[], 0, _, Heap.get?_push_size _ rfl, ⟨rfl, rfl, rfl⟩, rfl, (fun e he => by simp at he), (by simp), .nil, (by decide), (by rfl), List.Pairwise.nil, by
    show _ ∨ (!w.params.followText "set-order") = true
    cases w.params.followText "set-order"
    · exact .inr rfl
    · exact .inl rfl⟩
theorem code_set_led1 (x : Value) {Q₁ : Value → Shared → Prop}
    (h : Q₁ (.ref s.heap.objs.size) { s with heap := s.heap.push (eT w) }) :
    codeAny (model P w) A (.call (.builtin "set.__new__") ⟨[.type "set", x], []⟩) (wants Q₁ E) s := by
  refine codeAny_of_tree ?_
  show wpAny _ A.in1 (do checkBuiltinCall "set.__new__" ⟨[.type "set", x], []⟩; again (.builtin "set.__new__" ⟨[.type "set", x], []⟩)) _ _ s
  refine wpAny_bind (wpAny_of_eq (F.newCall_set_1 x) (wpAny_pure ⟨plainId_quiet F.plain_set_new _, codeAny_builtin F.entry_set_new ?_⟩))
  rw [Around.under_plainId F.plain_set_new _]
  unfold Builtin.«set.__new__» Builtin.Frozenset.newClass
  have hsub := sub_set_self
  obtain ⟨hp, g, d, tk, os⟩ := s
  dsimp only
  wp_walk
  refine wpAny_askSetting (wpAny_pure ?_)
  dsimp only
  simp only [newObj]
  refine wpAny_bind (wpAny_alloc (wpAny_pure ?_))
  exact wpAny_pure h
/-- the loop that lays what a walk yields into the set -/
theorem lay_allS {R : Result → Shared → Prop} {I : Addr} {fp wr : List Addr} {G : Array GenState → Array GenState → Prop} {n : Nat} {Pv : Nat → Value → Prop} {St : Nat → Shared → Prop}
    (W : WalksS P w A.in1 I fp wr G n Pv St) {S : Addr} (far : S ∉ fp) (ks : List Str) (many : ks.length = n) (few : n + 1 < scanBound)
    (is : ∀ i v, Pv i v → ∃ t, v = .str (ks.getD i Str.empty) t) : ∀ (m : Nat) (i : Nat) (s : Shared), m + i = n → St i s →
      SetS P w s.heap S (miL (ks.take i)) →
      (∀ s', Moved (S :: wr) G s s' → SetS P w s'.heap S (miL ks) → R (.ok (.ret .none)) s') →
      codeAny (model P w) A (.builtin "set.update.loop" ⟨[.ref S, .ref I], []⟩) R s := by
  have off : S ∉ wr := fun z => far (W.sub _ z)
  have more : ∀ b ∈ wr, b ∈ S :: wr := fun _ z => .tail _ z
  intro m
  induction m with
  | zero =>
    intro i s e st held fin
    obtain rfl : i = n := by omega
    apply codeAny_builtin PyProof.Rows.F.entry_set_update_loop
    rw [Around.under_plainId PyProof.Rows.F.plain_set_update_loop _]
    show wpAny _ A.in1 (pyNext (.ref I) >>= _) _ _ s
    apply wpAny_bind
    apply W.done s _ _ st
    intro s' mv
    rw [List.take_of_length_le (by omega)] at held
    exact wpAny_pure (fin s' (mv.mono more) (held.at fun o e => mv.heap S _ off e))
  | succ m ih =>
    intro i s e st held fin
    have lt : i < n := by omega
    apply codeAny_builtin PyProof.Rows.F.entry_set_update_loop
    rw [Around.under_plainId PyProof.Rows.F.plain_set_update_loop _]
    show wpAny _ A.in1 (pyNext (.ref I) >>= _) _ _ s
    apply wpAny_bind
    apply W.item i s _ _ lt st
    intro v s' hv st' mv
    obtain ⟨t, rfl⟩ := is i v hv
    have held' : SetS P w s'.heap S (miL (ks.take i)) := held.at fun o e => mv.heap S _ off e
    show wpAny _ A.in1 (holding [Value.str (ks.getD i Str.empty) t] (setAdd S (.str (ks.getD i Str.empty) t)) >>= _) _ _ s'
    apply wpAny_bind
    apply wpAny_holding
    unfold setAdd
    apply wpAny_holding
    apply wpAny_bind
    apply (strKind P w).pyHash (k := ks.getD i Str.empty) (strKind_is _ _ _ _)
    have room : (miL (ks.take i)).length + 1 < scanBound := by
      have := miL_len (ks.take i)
      rw [List.length_take] at this
      omega
    refine setS_add_hashed (s := { s' with toks := s'.toks + 1 }) held' room ?_
    intro b h' same held2
    have ez : ks[i]? = some (ks.getD i Str.empty) := by
      rw [List.getD_eq_getElem?_getD, List.getElem?_eq_getElem (by omega)]
      rfl
    have held3 : SetS P w h' S (miL (ks.take (i + 1))) := by
      rw [miL_put ez]
      exact held2
    apply wpAny_pure
    refine ⟨plainId_quiet PyProof.Rows.F.plain_set_update_loop _, ih (i + 1) _ (by omega) ?_ held3 ?_⟩
    · apply W.frame _ s' _ _ st' (Nat.le_succ _)
      intro b hb o z
      rw [same.2 b (fun y : b = S => far (y ▸ hb))]
      exact z
    · intro s'' mv2 held4
      apply fin s'' _ held4
      apply Moved.trans W.gtrans _ mv2
      apply (mv.mono more).then_heap (Nat.le_succ _)
      intro b o hb z
      rw [same.2 b (fun y : b = S => hb (y ▸ List.mem_cons_self))]
      exact z
/-- what set(xs) leaves: a new set, all else as it was -/
def SetLeftS (P : Program) (w : World) (s : Shared) (ks : List Str) (s' : Shared) : Prop :=
  ∃ (h' : Heap) (tk : Nat), s' = { s with heap := h', toks := tk } ∧ SetS P w h' s.heap.objs.size (miL ks) ∧
    ∀ b o, b < s.heap.objs.size → s.heap.get? b = some o → h'.get? b = some o
theorem setS_of {x : Value} {R : Shared → Prop} {Q : Value → Shared → Prop} (calm : A.handled = none)
    (init : ∀ (B : Around), B.handled = none → codeAny (model P w) B (.call (.builtin "set.__init__") ⟨[.ref s.heap.objs.size, x], []⟩)
      (wants (fun r s2 => r = .none ∧ R s2) E) { s with heap := s.heap.push (eT w) }) (q : ∀ s2, R s2 → Q (.ref s.heap.objs.size) s2) :
    wpAny (model P w) A (call (.type "set") [x]) Q E s := by
  have F := PySem.F.called_set
  have ⟨_, _, mro⟩ := F.mro
  have sub := F.sub; have made := F.made; have may := F.canCreate; have other := F.notType
  have by1 := PySem.F.typeCall_set_1 x
  apply wpAny_call
  apply codeAny_of_tree
  change wpAny (model P w) _ (callAny (Value.type "set") ⟨[x], []⟩) _ _ s
  refine wpAny_pure ⟨Code.quiet_builtin _ (by decide +kernel), ?_⟩
  apply codeAny_builtin PySem.F.entry_type_call
  rw [Around.under_plain (weight_type_call_type "set" [x] []) rfl]
  repeat any_goals first | assumption | wp_step
  refine told (code_set_led1 x (E := E) (Q₁ := fun v s2 => v = .ref s.heap.objs.size ∧ s2 = { s with heap := s.heap.push (eT w) }) ⟨rfl, rfl⟩) ?_ fun _ _ z => z
  rintro _ _ ⟨rfl, rfl⟩
  have of : Shared.TypeIs { s with heap := s.heap.push (eT w) } (.ref s.heap.objs.size) "set" := ⟨_, Heap.get?_push_size _ rfl, rfl⟩
  have look := F.init.lookup
  have bound := F.init.bind (.ref s.heap.objs.size)
  repeat any_goals first | assumption | wp_step
  refine told (init _ (by simpa using calm)) ?_ fun _ _ z => z
  rintro _ s2 ⟨rfl, left⟩
  repeat any_goals first | assumption | wp_step
  exact q s2 left
theorem init_tupS {l : Addr} {items : Array Value} {ks : List Str} (hh : A.handled = none) (hl : s.heap.IsTuple l items)
    (hi : StrsAre items.toList ks) (few : ks.length + 1 < scanBound) :
    codeAny (model P w) A (.call (.builtin "set.__init__") ⟨[.ref s.heap.objs.size, .ref l], []⟩)
      (wants (fun r s₂ => r = .none ∧ SetLeftS P w s ks s₂) E) { s with heap := s.heap.push (eT w) } := by
  have many : items.size = ks.length := by simpa using hi.len_eq
  have ⟨⟨c0, d0, k0, sl⟩, at_, ec, nl, ed⟩ := hl
  cases (show c0 = .type "tuple" from ec)
  cases (show k0 = .seq items nl from ed)
  have below : l < s.heap.objs.size := Heap.lt_size at_
  have stays : ∀ b o, s.heap.get? b = some o → (s.heap.push (eT w)).get? b = some o := fun _ _ => Heap.get?_push_of_some _
  have made : (s.heap.push (eT w)).get? s.heap.objs.size = some (eT w) := Heap.get?_push_size _ rfl
  have isT : (s.heap.push (eT w)).IsTuple l items := ⟨_, stays _ _ at_, rfl, nl, rfl⟩
  have at1 := stays _ _ at_
  have size1 : (s.heap.push (eT w)).objs.size = s.heap.objs.size + 1 := Heap.size_push ..
  have no1 := PySem.F.sub_tuple_set
  have no2 := PySem.F.sub_tuple_frozenset
  have no3 : (Value.type "tuple" == Value.type "dict") = false := by decide
  refine codeAny_call_builtin PySem.F.called_set.init.plain PySem.F.entry_set_init (check_set_init_1 ⟨_, made, rfl⟩ ?_)
  unfold Builtin.«set.__init__» noKeywords Builtin.Frozenset.updateFrom
  generalize hPI : pyIter = PI
  wp_walk
  subst hPI
  refine wpAny_pyIter_tuple isT (wpAny_bind (wpAny_runValue ?_))
  have other : ∀ n : Nat, n ≠ l → n ≠ s.heap.objs.size + 1 → n ∉ [(s.heap.push (eT w)).objs.size, l] := by
    intro n n1 n2
    simp [size1, n1, n2]
  have W := Walks.tuple (prog := P) (w := w) (A := A.in1.in1) (by simp [hh]) (s.heap.push (eT w)).objs.size l (by rw [size1]; unfold Addr at *; omega) items
  have off := other s.heap.objs.size (by unfold Addr at *; omega) (by omega)
  apply lay_allS W.toS off ks many.symm (by omega)
    (fun i v hv => SS.strs_at hi i v (by simpa using hv)) items.size 0 _ (Nat.add_zero _) ⟨⟨_, Heap.get?_push_size _ rfl, rfl, rfl⟩, isT.push _⟩
  · exact (setS_fresh (h := s.heap) P w).at fun o e => Heap.get?_push_of_some _ e
  · intro s' mv held
    refine wpAny_pure (wpAny_pure ⟨rfl, s'.heap, s'.toks, ?_, held, fun b o lt e => mv.heap b o ?_ (Heap.get?_push_of_some _ (stays _ _ e))⟩)
    · obtain ⟨h', g', d', tk', os'⟩ := s'
      cases (show g' = s.gens from mv.gens)
      cases (show d' = s.drawn from mv.drawn)
      cases (show os' = s.os from mv.os)
      rfl
    · simp only [List.mem_cons, List.not_mem_nil, or_false, size1]
      unfold Addr at *
      omega
theorem init_listS {l : Addr} {items : Array Value} {ks : List Str} (hh : A.handled = none) (hl : s.heap.IsList l items)
    (hi : StrsAre items.toList ks) (few : ks.length + 1 < scanBound) :
    codeAny (model P w) A (.call (.builtin "set.__init__") ⟨[.ref s.heap.objs.size, .ref l], []⟩)
      (wants (fun r s₂ => r = .none ∧ SetLeftS P w s ks s₂) E) { s with heap := s.heap.push (eT w) } := by
  have many : items.size = ks.length := by simpa using hi.len_eq
  have ⟨⟨c0, d0, k0, sl⟩, at_, ec, nl, ed⟩ := hl
  cases (show c0 = .type "list" from ec)
  cases (show k0 = .seq items nl from ed)
  have below : l < s.heap.objs.size := Heap.lt_size at_
  have stays : ∀ b o, s.heap.get? b = some o → (s.heap.push (eT w)).get? b = some o := fun _ _ => Heap.get?_push_of_some _
  have made : (s.heap.push (eT w)).get? s.heap.objs.size = some (eT w) := Heap.get?_push_size _ rfl
  have isT : (s.heap.push (eT w)).IsList l items := ⟨_, stays _ _ at_, rfl, nl, rfl⟩
  have at1 := stays _ _ at_
  have size1 : (s.heap.push (eT w)).objs.size = s.heap.objs.size + 1 := Heap.size_push ..
  have no1 := PySem.F.sub_list_set
  have no2 := PySem.F.sub_list_frozenset
  have no3 : (Value.type "list" == Value.type "dict") = false := by decide
  refine codeAny_call_builtin PySem.F.called_set.init.plain PySem.F.entry_set_init (check_set_init_1 ⟨_, made, rfl⟩ ?_)
  unfold Builtin.«set.__init__» noKeywords Builtin.Frozenset.updateFrom
  generalize hPI : pyIter = PI
  wp_walk
  subst hPI
  refine wpAny_pyIter_list isT (wpAny_bind (wpAny_runValue ?_))
  have other : ∀ n : Nat, n ≠ l → n ≠ s.heap.objs.size + 1 → n ∉ [(s.heap.push (eT w)).objs.size, l] := by
    intro n n1 n2
    simp [size1, n1, n2]
  have W := Walks.list (prog := P) (w := w) (A := A.in1.in1) (by simp [hh]) (s.heap.push (eT w)).objs.size l (by rw [size1]; unfold Addr at *; omega) items
  have off := other s.heap.objs.size (by unfold Addr at *; omega) (by omega)
  apply lay_allS W.toS off ks many.symm (by omega)
    (fun i v hv => SS.strs_at hi i v (by simpa using hv)) items.size 0 _ (Nat.add_zero _) ⟨⟨_, Heap.get?_push_size _ rfl, rfl, rfl⟩, isT.push _⟩
  · exact (setS_fresh (h := s.heap) P w).at fun o e => Heap.get?_push_of_some _ e
  · intro s' mv held
    refine wpAny_pure (wpAny_pure ⟨rfl, s'.heap, s'.toks, ?_, held, fun b o lt e => mv.heap b o ?_ (Heap.get?_push_of_some _ (stays _ _ e))⟩)
    · obtain ⟨h', g', d', tk', os'⟩ := s'
      cases (show g' = s.gens from mv.gens)
      cases (show d' = s.drawn from mv.drawn)
      cases (show os' = s.os from mv.os)
      rfl
    · simp only [List.mem_cons, List.not_mem_nil, or_false, size1]
      unfold Addr at *
      omega
end
/-- a tuple or a list of texts -/
def SqS (K : PySem.W.Frag) (H : Hp) (l : Addr) (ks : List Str) : Prop := SqT K H l (ks.map V.str) ∨ SqL K H l (ks.map V.str)
theorem set_sq {X : Cx} {pins : List (Addr × Obj)} {σ : L2.St} {H : Hp} {s : Shared} {A : Around} {E : Value → Shared → Prop} {l : Addr} {ks : List Str} {Q : Value → Shared → Prop}
    (I : Inv X pins σ H s) (hh : A.handled = none) (hq : SqS X.K H l ks) (few : ks.length ≤ 100)
    (q : ∀ s', SetLeftS X.prog X.w s ks s' → Q (.ref s.heap.objs.size) s') : wpAny (model X.prog X.w) A (call (.type "set") [.ref l]) Q E s := by
  rcases hq with hq | hq
  · obtain ⟨its, vals, isT, _⟩ := I.tuple hq
    exact setS_of hh (fun _ calm => init_tupS calm isT (strsAre (by simpa using vals)) (by unfold scanBound; omega)) q
  · obtain ⟨its, vals, isL, _⟩ := I.list hq
    exact setS_of hh (fun _ calm => init_listS calm isL.isList (strsAre (by simpa using vals)) (by unfold scanBound; omega)) q
theorem left_inv {X : Cx} {pins : List (Addr × Obj)} {σ : L2.St} {H : Hp} {s s' : Shared} {ks : List Str} (I : Inv X pins σ H s) (h : SetLeftS X.prog X.w s ks s') : Inv X pins σ H s' := by
  obtain ⟨h', tk, rfl, _, keep⟩ := h
  exact I.kept fun b o e => keep b o (Heap.lt_size e) e
end HL

/-! HSt: len(set(xs)), sorted(set(xs)), xs a tuple or a list of texts. -/
namespace HL
open PySem PySem.Spec PyProof.Rows L2
theorem strs_strOf : ∀ {vs : List Value}, (∀ v ∈ vs, ∃ k tk, v = Value.str k tk) → StrsAre vs (vs.map strOf)
  | [], _ => .nil
  | v :: vs, h => by
    obtain ⟨k, tk, rfl⟩ := h v List.mem_cons_self
    exact .cons k tk (strs_strOf fun u hu => h u (List.mem_cons_of_mem _ hu))
section
variable {P : Program} {w : World} {A : Around} {E : Value → Shared → Prop} {s : Shared} {a : Addr} {l : List Str}
theorem sorted_setS {Q : Value → Shared → Prop} (R : SetS P w s.heap a l) (hh : A.handled = none) (h64 : l.length < 64)
    (hQ : ∀ s' p (out : Array Value) (c : Nat) (ys : List Str), (∀ b o, s.heap.get? b = some o → s'.heap.get? b = some o) → s'.gens = s.gens → s'.os = s.os → s.heap.objs.size ≤ p →
      s'.heap.get? p = some (seqObj "list" out c) → StrsAre out.toList ys → ys.Perm l → sortedS ys = true → Q (.ref p) s') :
    wpAny (model P w) A (call (.builtin "sorted") [.ref a]) Q E s := by
  obtain ⟨o, es, ep, t, ho, hex, hd, g, pm0, nd, hb, hf, hr, hl⟩ := R
  refine Calls.call_function_entry kind_sorted plain_sorted entry_sorted (args_sorted1 _) ?_
  unfold Builtin.«sorted»
  refine wpAny_bind (m := checkCount "sorted" 1 1 _) (wpAny_pure ?_)
  refine wpAny_bind (collect_set (A := A.in1) hh ⟨o, ho, hex.1, hd⟩ hf hb hr hl fun s1 vs k1 hz g1 o1 pm => ?_)
  have hvl : vs.length = l.length := by rw [pm.length_eq, List.length_map, ← pm0.length_eq, List.length_map]
  have allS : ∀ v ∈ vs, ∃ k tk, v = Value.str k tk := fun v hv => by
    obtain ⟨e, he, q⟩ := List.mem_map.mp (pm.mem_iff.mp hv)
    obtain ⟨k, tk, h1, _⟩ := g e he
    exact ⟨k, tk, by rw [← q]; exact h1⟩
  have hS : StrsAre vs (vs.map strOf) := strs_strOf allS
  have pk : (vs.map strOf).Perm l := by
    refine ((pm.map strOf).trans ?_).trans pm0
    rw [List.map_map]
    refine List.Perm.of_eq (List.map_congr_left fun e he => ?_)
    obtain ⟨k, tk, h1, _⟩ := g e he
    show strOf e.2 = keyS e
    unfold keyS
    rw [h1]
    rfl
  refine wpAny_bind (wpAny_newList ?_ (by rw [hvl, sizeLine_eq]; omega))
  have hoL : (s1.heap.push (seqObj "list" vs.toArray 0)).get? s1.heap.objs.size = some (seqObj "list" vs.toArray 0) := Heap.get?_push_size _ rfl
  refine wpAny_bind (wpAny_holding (wpAny_call_entry slot_list_sort ⟨_, hoL, rfl⟩ entry_list_sort
    (list_sort_treeK strKind_oneLt (s := { s1 with heap := s1.heap.push (seqObj "list" vs.toArray 0) }) hoL hS.keysOf (fun v₁ v₂ rest e => keyKind_strs (by rw [← e]; exact hS)) (by rw [hvl]; exact h64) fun st' hp hs => ⟨_, rfl, ?_⟩)
    (args_list_sort _)))
  obtain ⟨ys, q1, q2, q3⟩ := sorted_out_str hS hp hs
  obtain ⟨c, hc⟩ := sortedHeap_at (vs := vs) (out := (arrOf st').map (·.2)) hoL
  refine wpAny_pure ⟨_, rfl, hQ _ s1.heap.objs.size _ c ys (fun b u e => ?_) g1 o1 hz hc q1 (q2.trans pk) q3⟩
  have q := k1 b u e
  have hlt := Heap.lt_size q
  show (sortedHeap (s1.heap.push (seqObj "list" vs.toArray 0)) s1.heap.objs.size vs _).get? b = some u
  rw [sortedHeap_old (Nat.ne_of_lt hlt) (by rw [size_push']; exact Nat.lt_succ_of_lt hlt)]
  exact Heap.get?_push_of_some _ q
end
def tLenSet (K : PySem.W.Frag) (ta : TE) : TE := fun σ H Q =>
  ta σ H fun x H1 => ∃ (l : Addr) (ks : List Str), x = .ref l ∧ SqS K H1 l ks ∧ ks.length ≤ 100 ∧ Q (.int ((miL ks).length : Nat)) H1
def tSortedSet (K : PySem.W.Frag) (ta : TE) : TE := fun σ H Q =>
  ta σ H fun x H1 => ∃ (l : Addr) (ks : List Str), x = .ref l ∧ SqS K H1 l ks ∧ ks.length ≤ 60 ∧
    ∀ (ys : List Str) (p : Addr), ys.Perm (miL ks) → sortedS ys = true → H1 p = none → Q (.ref p) (upd H1 p (.lst (ys.map V.str)))
section
variable {X : Cx} {K : PySem.W.Frag} {a : Expr} {ta : TE} {p p2 q pos : Pos}
theorem pe_lenSet (hK : X.K = K) (calm : X.calm = true)
    (g1 : Gl X "len") (m1 : X.mg "len" = none) (g2 : Gl X "set") (m2 : X.mg "set" = none) (ha : PE X a ta)
    (na : starEach [a] X.env = (false, eval a X.env) :: starEach [] X.env := by rfl) :
    PE X (.Call (.Name "len" p) [.Call (.Name "set" p2) [a] [] q] [] pos) (tLenSet K ta) where
  run := by
    subst hK
    intro pins s σ H Q I h
    apply Call_ (ld_blt I g1 m1 boot_len ?_)
    apply callWith_builtin1 (args_cons ?_ rfl) rfl rfl
    apply Call_ (ld_blt I g2 m2 boot_set ?_)
    apply callWith_type1 (args_cons (thn (ha.run pins s σ H _ I h) ?_) na) na rfl
    rintro v s1 ⟨x, H1, J, rv, l, ks, rfl, hq, few, hQ⟩
    apply args_nil
    cases rv
    refine set_sq J (J.ok.hd calm) hq few fun s2 left => ?_
    have J2 := left_inv J left
    obtain ⟨h', tk, rfl, ⟨o, es, ep, t, ho, hex, hd, g, pm0, nd, hb, hf, hr, hl⟩, keep⟩ := left
    apply args_nil
    have many : es.size = (miL ks).length := by rw [← pm0.length_eq, List.length_map, Array.length_toList]
    have := miL_len ks
    apply call_len_set ho hex hd hf (by rw [many]; omega)
    exact ⟨.int ((miL ks).length : Nat), H1, J2.tok _, ⟨_, by rw [many]⟩, hQ⟩
theorem pe_sortedSet (hK : X.K = K) (calm : X.calm = true)
    (g1 : Gl X "sorted") (m1 : X.mg "sorted" = none) (g2 : Gl X "set") (m2 : X.mg "set" = none) (ha : PE X a ta)
    (na : starEach [a] X.env = (false, eval a X.env) :: starEach [] X.env := by rfl) :
    PE X (.Call (.Name "sorted" p) [.Call (.Name "set" p2) [a] [] q] [] pos) (tSortedSet K ta) where
  run := by
    subst hK
    intro pins s σ H Q I h
    apply Call_ (ld_blt I g1 m1 boot_sorted ?_)
    apply callWith_builtin1 (args_cons ?_ rfl) rfl rfl
    apply Call_ (ld_blt I g2 m2 boot_set ?_)
    apply callWith_type1 (args_cons (thn (ha.run pins s σ H _ I h) ?_) na) na rfl
    rintro v s1 ⟨x, H1, J, rv, l, ks, rfl, hq, few, hQ⟩
    apply args_nil
    cases rv
    refine set_sq J (J.ok.hd calm) hq (by omega) fun s2 left => ?_
    have J2 := left_inv J left
    obtain ⟨h', tk, rfl, R, keep⟩ := left
    apply args_nil
    have := miL_len ks
    refine sorted_setS R (J2.ok.hd calm) (by omega) fun s' p out c ys k g o hp hg hi pm so => ?_
    have hlen : (ys.map V.str).length ≤ sizeLine := by rw [List.length_map, pm.length_eq, sizeLine_eq]; omega
    have hn : H1 p = none := J2.hok.fresh hp
    have J3 : Inv X pins σ (upd H1 p (.lst (ys.map V.str))) { ({ s1 with heap := h', toks := tk } : Shared) with heap := s'.heap, gens := s'.gens, drawn := s'.drawn, toks := s'.toks } :=
      J2.call (ch := []) (Un.laid k hp hn) (J2.hok.laid k hp ⟨hlen, out.toList, c, vals_of_strs hi, hg⟩) (by rw [g]; exact J2.bare) (fun _ z => nomatch z)
    have e : s' = { s1 with heap := s'.heap, gens := s'.gens, drawn := s'.drawn, toks := s'.toks } := by
      obtain ⟨a1, a2, a3, a4, a5⟩ := s'
      cases (show a5 = s1.os from o)
      rfl
    rw [e]
    exact ⟨.ref p, _, J3, rfl, hQ ys p pm so hn⟩
end
section
variable {σ : L2.St} {H : Hp} {Q : VK} {K : PySem.W.Frag} {te : TE}
theorem s_lenSetQ (h : te σ H fun x H1 => ∃ (l : Addr) (ks : List Str), x = .ref l ∧ SqS K H1 l ks ∧ ks.length ≤ 100 ∧ Q (.int ((miL ks).length : Nat)) H1) : tLenSet K te σ H Q := h
theorem s_sortedSet (h : te σ H fun x H1 => ∃ (l : Addr) (ks : List Str), x = .ref l ∧ SqS K H1 l ks ∧ ks.length ≤ 60 ∧
    ∀ (ys : List Str) (p : Addr), ys.Perm (miL ks) → sortedS ys = true → H1 p = none → Q (.ref p) (upd H1 p (.lst (ys.map V.str)))) : tSortedSet K te σ H Q := h
end
end HL

/-! HSu: d.clear() of a dict whose keys are tuples; (z, {}) == (z, {}). -/
namespace HL
open PySem PySem.Spec PyProof.Rows L2
def rTClear : V → List V → Hp → VK → Prop := fun x vs H Q => ∃ (a : Addr) (kvs : List (List Key × V)), x = .ref a ∧ vs = [] ∧ H a = some (.dT kvs) ∧ Q .non (upd H a (.dT []))
theorem mtt_clear {X : Cx} : MtR X "dict.clear" rTClear := by
  intro pins s σ H x vs v us Q I rx rv h
  obtain ⟨a, kvs, ex, ev, e, q⟩ := h
  subst ex
  subst ev
  obtain rfl : v = Value.ref a := rx
  have hus := rv.zero
  subst hus
  obtain ⟨z, hd, xs, pr, o, es, ep, ho, hx, hdt, he, hn⟩ := (show ObjOk X.prog X.w H s.heap a (.dT kvs) from I.hok a _ e)
  have raw : s.heap.DictRaw a es ep := ⟨o, ho, hx, hdt⟩
  have hes : es.size ≤ sizeLine := by
    have l1 : es.size = xs.length := size_of_entries he
    have l2 : kvs.length = xs.length := Paired.length pr
    omega
  refine call_meetsIn PySem.F.slot_dict_clear raw.typeIs PySem.F.entry_dict_clear (PySem.F.args_dict_clear_1 _) (meets_dict_clear_raw (prog := X.prog) (w := X.w) a) ⟨es, ep, raw, hes, fun h' raw' sb => ?_⟩
  obtain ⟨o', ho', hx', hdt'⟩ := raw'
  exact ⟨.non, _, d_write (t' := s.toks) I (by rw [e]; exact True.intro) sb ⟨o', ho'⟩ (show ObjOk X.prog X.w _ h' a (.dT []) from ⟨Nat.zero_le _, hd, [], .nil, o', #[], ep + 1, ho', hx', hdt', rfl, .nil⟩), rfl, q⟩
section
variable {X : Cx} {o : Expr} {to : TE} {apos cpos : Pos}
theorem pe_tclear (ho : PE X o to) (hbase : attributeBase o "clear" X.env (eval o X.env) = eval o X.env := by rfl) (hline : (apos.endLine == cpos.line) = true := by rfl) : PE X (.Call (.Attribute o "clear" apos) [] [] cpos) (tBM0 X.K "dict" rTClear to) :=
  pe_bm0 PySem.F.plainAttrs_dict PySem.F.slot_dict_clear PySem.F.type_dict_clear mtt_clear ho hbase hline
end
/-- an empty dict -/
def EmpD (H : Hp) (a : Addr) : Prop := H a = some (.dT []) ∨ H a = some (.dK [])
theorem emp_of {h : Heap} {a : Addr} {o : Obj} {es : Array DictEntry} {ep : Nat} {P : Program} {w : World} (ho : h.get? a = some o) (hx : o.ExactDict) (hd : o.data = .dict es ep) (he : es.toList = []) : h.DictOf (mixKind P w) a [] := by
  have e0 : es = #[] := Array.toList_inj.mp he
  subst e0
  exact ⟨o, #[], ep, ho, hx, hd, (fun x hx => by simp at hx), .nil, .nil⟩
theorem EmpD.of {X : Cx} {pins : List (Addr × Obj)} {σ : L2.St} {H : Hp} {s : Shared} {a : Addr} (I : Inv X pins σ H s) (h : EmpD H a) : (a == sysModules) = false ∧ ∀ (P : Program) (w : World), s.heap.DictOf (mixKind P w) a [] := by
  rcases h with e | e
  · obtain ⟨z, hd, xs, pr, o, es, ep, ho, hx, hdt, he, hn⟩ := (show ObjOk X.prog X.w H s.heap a (.dT []) from I.hok a _ e)
    cases pr
    exact ⟨hd, fun P w => emp_of ho hx hdt he⟩
  · obtain ⟨z, hd, vs, rel, dd⟩ := (show ObjOk X.prog X.w H s.heap a (.dK []) from I.hok a _ e)
    cases rel
    obtain ⟨o, es, ep, ho, hc, hdat, hk, hp, hn⟩ := dd
    have he : es.toList = [] := by
      cases e : es.toList with
      | nil => rfl
      | cons x r => rw [e] at hp; cases hp
    exact ⟨hd, fun P w => emp_of ho hc hdat he⟩
def rEqEmp (K : PySem.W.Frag) : R2 := fun x y H Q => ∃ (a b : Addr) (z : Str) (d e : Addr), x = .ref a ∧ y = .ref b ∧ SqT K H a [.str z, .ref d] ∧ SqT K H b [.str z, .ref e] ∧ EmpD H d ∧ EmpD H e ∧ Q (.bl true) H
theorem eqEmpK {X : Cx} {K : PySem.W.Frag} (hK : X.K = K) (hu : X.A.units + 64 < cLine) : OpR X (compareOp .Eq) (rEqEmp K) := by
  subst hK
  intro pins s σ H x y v u Q I rx ry h
  obtain ⟨a, b, z, d, e, rfl, rfl, ha, hb, hd, he, q⟩ := h
  cases (show v = Value.ref a from rx)
  cases (show u = Value.ref b from ry)
  obtain ⟨us, r1, p1, _⟩ := I.tuple ha
  obtain ⟨ws, r2, p2, _⟩ := I.tuple hb
  obtain ⟨d1, d2⟩ := hd.of I
  obtain ⟨e1, e2⟩ := he.of I
  cases r1 with
  | cons a1 t1 =>
    cases t1 with
    | cons b1 n1 =>
      cases n1
      cases r2 with
      | cons a2 t2 =>
        cases t2 with
        | cons b2 n2 =>
          cases n2
          cases (show _ = Value.ref d from b1)
          cases (show _ = Value.ref e from b2)
          have two : SeqAt.EqAt X.A.in1 s (.ref d) (.ref e) true := by
            by_cases c : d = e
            · rw [c]; exact SeqAt.EqAt.same _
            · refine SeqAt.EqAt.of_refs c fun P w E Q h => ?_
              refine PySem.W.rcP_dicts (knd := mixKind P w) (r := true) d1 e1 (d2 P w) (e2 P w) (by show X.A.units + 1 < cLine; omega) (fun _ => .nil) E Q ?_
              exact h
          refine SeqAt.eq_tupleAt (e := fun _ => true) p1 p2 (by omega) (fun j h1 h2 => ?_) ?_
          · match j, h1, h2 with
            | 0, _, _ => exact eqAt_same (v := .str z) a1 a2 rfl
            | 1, _, _ => exact two
            | j + 2, h1, _ => simp at h1; omega
          · exact ⟨.bl true, H, I, rfl, q⟩
/-! x is True, x is not True, of a bool -/
def rIsB : R2 := fun x y H Q => ∃ a b, x = .bl a ∧ y = .bl b ∧ Q (.bl (decide (a = b))) H
def rNotB : R2 := fun x y H Q => ∃ a b, x = .bl a ∧ y = .bl b ∧ Q (.bl (!decide (a = b))) H
theorem op_isB {X : Cx} : OpR X (compareOp .Is) rIsB := by
  intro pins s σ H x y v u Q I rx ry h
  obtain ⟨a, b, rfl, rfl, q⟩ := h
  cases (show v = Value.bool a from rx)
  cases (show u = Value.bool b from ry)
  exact wpAny_is_plain rfl (fin_bl I q (by cases a <;> cases b <;> rfl))
theorem op_notB {X : Cx} : OpR X (compareOp .IsNot) rNotB := by
  intro pins s σ H x y v u Q I rx ry h
  obtain ⟨a, b, rfl, rfl, q⟩ := h
  cases (show v = Value.bool a from rx)
  cases (show u = Value.bool b from ry)
  exact wpAny_isNot_plain rfl (fin_bl I q (by cases a <;> cases b <;> rfl))
end HL

namespace K83
open PySem PySem.Spec PyProof.Rows L2 HL TL PH
local macro_rules | `(tactic| walk_at "N") => `(tactic| first
  | with_reducible assumption
  | (apply Ne.symm; with_reducible assumption)
  | (refine' ne_of_none (H := ?H0) ?h1 ?h2; (case h2 => with_reducible assumption); (case h1 => walk_at "L"))
  | (apply Ne.symm; refine' ne_of_none (H := ?H0) ?h1 ?h2; (case h2 => with_reducible assumption); (case h1 => walk_at "L"))
  | fail "no")
local macro_rules | `(tactic| walk_at "M") => `(tactic| first
  | exact trivial
  | exact True.intro
  | (refine ⟨?_, ?_⟩; (walk_at "N"); (walk_at "M"))
  | fail "no")
local macro_rules | `(tactic| walk_at "L") => `(tactic| first
  | with_reducible assumption
  | with_reducible exact upd_same
  | ((with_reducible refine' (upd_ne ?n1).trans ?l1); (case n1 => walk_at "N"); (case l1 => walk_at "L"))
  | ((with_reducible refine' Kp.get ?k1 ?m1 ?l1); (case k1 => with_reducible assumption); (case l1 => walk_at "L"); (case m1 => walk_at "M"))
  | fail "no")
local macro_rules | `(tactic| walk_at "Q") => `(tactic| first
  | with_reducible assumption
  | ((with_reducible refine' sq_l ?e1); (case e1 => walk_at "L"))
  | ((with_reducible refine' sq_t ?e1); (case e1 => walk_at "L"))
  | ((with_reducible refine' Kp.seqL ?k1 ?m1 ?l1); (case k1 => with_reducible assumption); (case l1 => walk_at "Q"); (case m1 => walk_at "M"))
  | fail "no")
local macro_rules | `(tactic| walk_at "K") => `(tactic| first
  | with_reducible assumption
  | with_reducible exact Kp.refl
  | ((with_reducible refine' Kp.upd_mem ?k1 ?m1); (case m1 => simp only [List.mem_cons, true_or, or_true]); (case k1 => walk_at "K"))
  | ((with_reducible refine' Kp.upd_new ?k1 ?m1); (case m1 => with_reducible assumption); (case k1 => walk_at "K"))
  | ((with_reducible refine' Kp.upd_loc ?k1 ?m1); (case m1 => with_reducible assumption); (case k1 => walk_at "K"))
  | ((with_reducible refine' Kp.step ?k1 ?k2 ?m1); (case k2 => with_reducible assumption); (case m1 => (intro z hz; first | exact (List.not_mem_nil hz).elim | exact .inl hz | (simp only [List.mem_cons, List.not_mem_nil, or_false] at hz ⊢; first | (left; assumption) | (subst hz; first | (left; rfl) | (right; assumption))))); (case k1 => walk_at "K"))
  | fail "no")
local macro_rules | `(tactic| walk_at "C") => `(tactic| first | decide | assumption | omega | (show (0 : Int) < _; omega) | exact ⟨by decide, by decide⟩ | exact ⟨by omega, by omega⟩ | (left; exact ⟨by omega, by omega⟩) | (right; exact ⟨by omega, by omega⟩) | fail "no")
local macro_rules | `(tactic| walk_at "S1") => `(tactic| first
  | ((with_reducible refine' s_var ?h1 ?_); (case h1 => exact rfl))
  | with_reducible refine' s_c ?_
  | with_reducible refine' s_op ?_
  | with_reducible refine' s_un ?_
  | with_reducible refine' s_nil ?_
  | with_reducible refine' s_cons ?_
  | with_reducible refine' s_cb ?_
  | with_reducible refine' s_call ?_
  | with_reducible refine' s_test ?_
  | with_reducible refine' s_B ?_
  | with_reducible refine' s_and ?_
  | with_reducible refine' s_or ?_
  | with_reducible refine' s_not ?_
  | with_reducible refine' s_andV ?_
  | with_reducible refine' s_orV ?_
  | with_reducible refine' s_notV ?_
  | with_reducible refine' s_ifE ?_
  | with_reducible refine' s_chain ?_
  | with_reducible refine' s_tup ?_
  | with_reducible refine' s_lst ?_
  | with_reducible refine' s_sl ?_
  | with_reducible refine' s_noPart ?_
  | with_reducible refine' s_part ?_
  | with_reducible refine' s_fld ?_
  | with_reducible refine' s_bm ?_
  | with_reducible refine' s_bm0 ?_
  | with_reducible refine' s_m1 ?_
  | with_reducible refine' s_m0 ?_
  | with_reducible refine' s_seq ?_
  | with_reducible refine' s_next ?_
  | with_reducible refine' s_asg ?_
  | with_reducible refine' s_gname ?_
  | with_reducible refine' s_drop ?_
  | with_reducible refine' s_ret ?_
  | with_reducible refine' s_retN ?_
  | with_reducible refine' s_ifS ?_
  | with_reducible refine' s_gsub ?_
  | with_reducible refine' s_par ?_
  | with_reducible refine' s_bl ?_
  | with_reducible refine' s_iStr ?_
  | with_reducible refine' s_iList ?_
  | with_reducible refine' s_iTup ?_
  | with_reducible refine' s_iRng1 ?_
  | with_reducible refine' s_str ?_
  | with_reducible refine' s_ref ?_
  | with_reducible refine' s_yes ?_
  | with_reducible refine' s_for ?_
  | with_reducible refine' s_lc ?_
  | with_reducible refine' i_T ?_
  | with_reducible refine' i_F ?_
  | with_reducible refine' i_nT ?_
  | with_reducible refine' i_nF ?_
  | with_reducible refine' s_int ?_
  | with_reducible refine' s_ints2 ?_
  | with_reducible refine' s_ints1 ?_
  | with_reducible refine' s_strs1 ?_
  | with_reducible refine' s_vals2 ?_
  | with_reducible refine' s_vals3 ?_
  | ((with_reducible refine' s_gtup ?h1 ?l1 ?_); (case h1 => walk_at "Q"); (case l1 => exact rfl))
  | with_reducible refine' s_gcons ?_
  | with_reducible refine' s_gnil ?_
  | with_reducible refine' s_par3 ?_
  | with_reducible refine' s_ex ?_
  | with_reducible refine' s_I0 ?_
  | ((with_reducible refine' s_I ?c1 ?_); (case c1 => walk_at "C"))
  | ((with_reducible refine' s_eq ?h1 ?_); (case h1 => exact rfl))
  | ((with_reducible refine' s_ne ?h1 ?_); (case h1 => exact rfl))
  | ((with_reducible refine' s_ixL ?h1 ?a1 ?_); (case h1 => walk_at "Q"); (case a1 => exact rfl))
  | ((with_reducible refine' s_ixT ?h1 ?a1 ?_); (case h1 => walk_at "Q"); (case a1 => exact rfl))
  | ((with_reducible refine' s_setL ?h1 ?a1 ?_); (case h1 => walk_at "L"); (case a1 => exact rfl))
  | ((with_reducible refine' s_lenL ?h1 ?_); (case h1 => walk_at "Q"))
  | ((with_reducible refine' s_lenT ?h1 ?_); (case h1 => walk_at "Q"))
  | ((with_reducible refine' s_lenStr ?h1 ?_); (case h1 => assumption))
  | ((with_reducible refine' s_slL ?h1 ?_); (case h1 => walk_at "Q"))
  | ((with_reducible refine' s_slS ?h1 ?_); (case h1 => assumption))
  | with_reducible refine' s_U ?_
  | ((with_reducible refine' s_tyL ?h1 ?_); (case h1 => walk_at "L"))
  | with_reducible refine' s_inSg ?_
  | with_reducible refine' s_nn ?_
  | with_reducible refine' s_meth ?_
  | with_reducible refine' s_make ?_
  | with_reducible refine' s_dnew ?_
  | with_reducible refine' s_dget ?_
  | with_reducible refine' s_din ?_
  | with_reducible refine' s_dnotin ?_
  | with_reducible refine' s_dput ?_
  | with_reducible refine' s_dget1 ?_
  | with_reducible refine' s_sfld ?_
  | with_reducible refine' s_revL ?_
  | with_reducible refine' s_iZip3 ?_
  | with_reducible refine' s_iRng2 ?_
  | with_reducible refine' L3.s_methY ?_
  | with_reducible refine' L3.s_dpop1 ?_
  | with_reducible refine' L3.s_dpop2 ?_
  | with_reducible refine' L3.s_dget2 ?_
  | dsimp only
  | fail "no")
local macro_rules | `(tactic| walk_at "S") => `(tactic| repeat walk_at "S1")

def topS (i : Nat) : Stmt := PySem.Challenge.pw_halfmade_k83_whole_lots_walked.main.body.getD i (.Pass ⟨0, 0, 0, 0⟩)
abbrev s_is_name : Stmt := topS 8
abbrev N_is_name : List Str := ["thing", "sign"]
theorem sc_is_name : FnScope ["thing", "sign"] ["thing"] (defScope s_is_name) := ⟨rfl, rfl, rfl, by decide +kernel, rfl, by decide +kernel, by decide +kernel⟩
abbrev s_is_path : Stmt := topS 9
abbrev N_is_path : List Str := ["thing", "names", "name"]
theorem sc_is_path : FnScope ["thing", "names", "name"] ["thing"] (defScope s_is_path) := ⟨rfl, rfl, rfl, by decide +kernel, rfl, by decide +kernel, by decide +kernel⟩
abbrev s_is_whole : Stmt := topS 16
abbrev N_is_whole : List Str := ["thing"]
theorem sc_is_whole : FnScope ["thing"] ["thing"] (defScope s_is_whole) := ⟨rfl, rfl, rfl, by decide +kernel, rfl, by decide +kernel, by decide +kernel⟩
abbrev s_is_word : Stmt := topS 17
abbrev N_is_word : List Str := ["thing"]
theorem sc_is_word : FnScope ["thing"] ["thing"] (defScope s_is_word) := ⟨rfl, rfl, rfl, by decide +kernel, rfl, by decide +kernel, by decide +kernel⟩
abbrev s_are_words : Stmt := topS 18
abbrev N_are_words : List Str := ["thing", "word"]
theorem sc_are_words : FnScope ["thing", "word"] ["thing"] (defScope s_are_words) := ⟨rfl, rfl, rfl, by decide +kernel, rfl, by decide +kernel, by decide +kernel⟩
abbrev s_is_bare : Stmt := topS 19
abbrev N_is_bare : List Str := ["row", "word"]
theorem sc_is_bare : FnScope ["row", "word"] ["row"] (defScope s_is_bare) := ⟨rfl, rfl, rfl, by decide +kernel, rfl, by decide +kernel, by decide +kernel⟩
abbrev s_is_row_within : Stmt := topS 20
abbrev N_is_row_within : List Str := ["thing", "tries"]
theorem sc_is_row_within : FnScope ["thing", "tries"] ["thing", "tries"] (defScope s_is_row_within) := ⟨rfl, rfl, rfl, by decide +kernel, rfl, by decide +kernel, by decide +kernel⟩
abbrev s_are_rows : Stmt := topS 21
abbrev N_are_rows : List Str := ["thing", "tries", "row"]
theorem sc_are_rows : FnScope ["thing", "tries", "row"] ["thing", "tries"] (defScope s_are_rows) := ⟨rfl, rfl, rfl, by decide +kernel, rfl, by decide +kernel, by decide +kernel⟩
abbrev s_counted : Stmt := topS 22
abbrev N_counted : List Str := ["body", "found", "row"]
theorem sc_counted : FnScope ["body", "found", "row"] ["body"] (defScope s_counted) := ⟨rfl, rfl, rfl, by decide +kernel, rfl, by decide +kernel, by decide +kernel⟩
abbrev s_is_body : Stmt := topS 23
abbrev N_is_body : List Str := ["thing"]
theorem sc_is_body : FnScope ["thing"] ["thing"] (defScope s_is_body) := ⟨rfl, rfl, rfl, by decide +kernel, rfl, by decide +kernel, by decide +kernel⟩
abbrev s_bound_by : Stmt := topS 24
abbrev N_bound_by : List Str := ["row"]
theorem sc_bound_by : FnScope ["row"] ["row"] (defScope s_bound_by) := ⟨rfl, rfl, rfl, by decide +kernel, rfl, by decide +kernel, by decide +kernel⟩
abbrev s_aim_of : Stmt := topS 28
abbrev N_aim_of : List Str := ["row"]
theorem sc_aim_of : FnScope ["row"] ["row"] (defScope s_aim_of) := ⟨rfl, rfl, rfl, by decide +kernel, rfl, by decide +kernel, by decide +kernel⟩
abbrev s_aims_of : Stmt := topS 29
abbrev N_aims_of : List Str := ["rows", "row"]
theorem sc_aims_of : FnScope ["rows", "row"] ["rows"] (defScope s_aims_of) := ⟨rfl, rfl, rfl, by decide +kernel, rfl, by decide +kernel, by decide +kernel⟩
abbrev s_first_row : Stmt := topS 30
abbrev N_first_row : List Str := ["body", "name", "k", "row"]
theorem sc_first_row : FnScope ["body", "name", "k", "row"] ["body", "name"] (defScope s_first_row) := ⟨rfl, rfl, rfl, by decide +kernel, rfl, by decide +kernel, by decide +kernel⟩
abbrev s_may_stand : Stmt := topS 31
abbrev N_may_stand : List Str := ["stock", "row", "aim"]
theorem sc_may_stand : FnScope ["stock", "row", "aim"] ["stock", "row"] (defScope s_may_stand) := ⟨rfl, rfl, rfl, by decide +kernel, rfl, by decide +kernel, by decide +kernel⟩
abbrev s_is_plain : Stmt := topS 32
abbrev N_is_plain : List Str := ["thing", "body", "name", "row"]
theorem sc_is_plain : FnScope ["thing", "body", "name", "row"] ["thing"] (defScope s_is_plain) := ⟨rfl, rfl, rfl, by decide +kernel, rfl, by decide +kernel, by decide +kernel⟩
abbrev s_want_plain : Stmt := topS 33
abbrev N_want_plain : List Str := ["thing"]
theorem sc_want_plain : FnScope ["thing"] ["thing"] (defScope s_want_plain) := ⟨rfl, rfl, rfl, by decide +kernel, rfl, by decide +kernel, by decide +kernel⟩
abbrev s_come_to : Stmt := topS 34
abbrev N_come_to : List Str := ["stock", "starts", "without", "found", "waiting", "here", "name"]
theorem sc_come_to : FnScope ["stock", "starts", "without", "found", "waiting", "here", "name"] ["stock", "starts", "without"] (defScope s_come_to) := ⟨rfl, rfl, rfl, by decide +kernel, rfl, by decide +kernel, by decide +kernel⟩
abbrev s_draws_of : Stmt := topS 36
abbrev N_draws_of : List Str := ["stock", "found", "name", "k", "row"]
theorem sc_draws_of : FnScope ["stock", "found", "name", "k", "row"] ["stock"] (defScope s_draws_of) := ⟨rfl, rfl, rfl, by decide +kernel, rfl, by decide +kernel, by decide +kernel⟩
abbrev s_early_aims : Stmt := topS 37
abbrev N_early_aims : List Str := ["stock", "m", "x", "last", "name"]
theorem sc_early_aims : FnScope ["stock", "m", "x", "last", "name"] ["stock", "m", "x"] (defScope s_early_aims) := ⟨rfl, rfl, rfl, by decide +kernel, rfl, by decide +kernel, by decide +kernel⟩
abbrev s_is_tuple_of_names : Stmt := topS 38
abbrev N_is_tuple_of_names : List Str := ["stock", "thing", "name"]
theorem sc_is_tuple_of_names : FnScope ["stock", "thing", "name"] ["stock", "thing"] (defScope s_is_tuple_of_names) := ⟨rfl, rfl, rfl, by decide +kernel, rfl, by decide +kernel, by decide +kernel⟩
abbrev s_keeps_in : Stmt := topS 39
abbrev N_keeps_in : List Str := ["stock", "lot", "m", "name", "aim"]
theorem sc_keeps_in : FnScope ["stock", "lot", "m", "name", "aim"] ["stock", "lot", "m"] (defScope s_keeps_in) := ⟨rfl, rfl, rfl, by decide +kernel, rfl, by decide +kernel, by decide +kernel⟩
abbrev s_is_lot : Stmt := topS 40
abbrev N_is_lot : List Str := ["stock", "name", "row", "thing", "m", "x", "aim"]
theorem sc_is_lot : FnScope ["stock", "name", "row", "thing", "m", "x", "aim"] ["stock", "name", "row", "thing"] (defScope s_is_lot) := ⟨rfl, rfl, rfl, by decide +kernel, rfl, by decide +kernel, by decide +kernel⟩
abbrev s_steps_from : Stmt := topS 41
abbrev N_steps_from : List Str := ["stock", "m", "last", "ahead", "waiting", "here", "rows", "k", "row", "aim"]
theorem sc_steps_from : FnScope ["stock", "m", "last", "ahead", "waiting", "here", "rows", "k", "row", "aim"] ["stock", "m", "last"] (defScope s_steps_from) := ⟨rfl, rfl, rfl, by decide +kernel, rfl, by decide +kernel, by decide +kernel⟩
abbrev s_snare_of : Stmt := topS 42
abbrev N_snare_of : List Str := ["stock", "draw", "c", "late", "m", "x", "last", "ahead", "steps"]
theorem sc_snare_of : FnScope ["stock", "draw", "c", "late", "m", "x", "last", "ahead", "steps"] ["stock", "draw"] (defScope s_snare_of) := ⟨rfl, rfl, rfl, by decide +kernel, rfl, by decide +kernel, by decide +kernel⟩
abbrev s_safe : Stmt := topS 43
abbrev N_safe : List Str := ["stock", "lots", "draw", "found", "c", "late", "m", "x"]
theorem sc_safe : FnScope ["stock", "lots", "draw", "found", "c", "late", "m", "x"] ["stock"] (defScope s_safe) := ⟨rfl, rfl, rfl, by decide +kernel, rfl, by decide +kernel, by decide +kernel⟩
abbrev s_l_at : Stmt := topS 45
abbrev N_l_at : List Str := ["_law_script", "_law_k"]
theorem sc_l_at : FnScope ["_law_script", "_law_k"] ["_law_script", "_law_k"] (defScope s_l_at) := ⟨rfl, rfl, rfl, by decide +kernel, rfl, by decide +kernel, by decide +kernel⟩
abbrev s_l_pot : Stmt := topS 46
abbrev N_l_pot : List Str := ["_law_script", "_law_k", "_law_cell"]
theorem sc_l_pot : FnScope ["_law_script", "_law_k", "_law_cell"] ["_law_script", "_law_k"] (defScope s_l_pot) := ⟨rfl, rfl, rfl, by decide +kernel, rfl, by decide +kernel, by decide +kernel⟩
abbrev s_l_draw : Stmt := topS 47
abbrev N_l_draw : List Str := ["_law_pot_here", "_law_size", "_law_digit"]
theorem sc_l_draw : FnScope ["_law_pot_here", "_law_size", "_law_digit"] ["_law_pot_here", "_law_size"] (defScope s_l_draw) := ⟨rfl, rfl, rfl, by decide +kernel, rfl, by decide +kernel, by decide +kernel⟩
abbrev s_l_name : Stmt := topS 48
abbrev N_l_name : List Str := ["_law_pot_here", "_law_taken", "_law_letters", "_law_way", "_law_name_here", "_law_k", "_law_letter"]
theorem sc_l_name : FnScope ["_law_pot_here", "_law_taken", "_law_letters", "_law_way", "_law_name_here", "_law_k", "_law_letter"] ["_law_pot_here", "_law_taken"] (defScope s_l_name) := ⟨rfl, rfl, rfl, by decide +kernel, rfl, by decide +kernel, by decide +kernel⟩
abbrev s_l_number : Stmt := topS 49
abbrev N_l_number : List Str := ["_law_pot_here"]
theorem sc_l_number : FnScope ["_law_pot_here"] ["_law_pot_here"] (defScope s_l_number) := ⟨rfl, rfl, rfl, by decide +kernel, rfl, by decide +kernel, by decide +kernel⟩
abbrev s_l_plan : Stmt := topS 50
abbrev N_l_plan : List Str := ["_law_pot_here", "_law_pool", "_law_way", "_law_rows", "_law_k", "_law_word", "_law_heads", "_law_row_here"]
theorem sc_l_plan : FnScope ["_law_pot_here", "_law_pool", "_law_way", "_law_rows", "_law_k", "_law_word", "_law_heads", "_law_row_here"] ["_law_pot_here", "_law_pool", "_law_way"] (defScope s_l_plan) := ⟨rfl, rfl, rfl, by decide +kernel, rfl, by decide +kernel, by decide +kernel⟩
abbrev s_l_drawable : Stmt := topS 51
abbrev N_l_drawable : List Str := ["_law_plan_here", "_law_way", "_law_found", "_law_word", "_law_bound", "_law_first_here", "_law_other", "_law_one"]
theorem sc_l_drawable : FnScope ["_law_plan_here", "_law_way", "_law_found", "_law_word", "_law_bound", "_law_first_here", "_law_other", "_law_one"] ["_law_plan_here", "_law_way"] (defScope s_l_drawable) := ⟨rfl, rfl, rfl, by decide +kernel, rfl, by decide +kernel, by decide +kernel⟩
abbrev s_l_row : Stmt := topS 52
abbrev N_l_row : List Str := ["_law_pot_here", "_law_head", "_law_plans", "_law_at_here", "_law_way", "_law_word", "_law_bound", "_law_names", "_law_some", "_law_aim", "_law_k"]
theorem sc_l_row : FnScope ["_law_pot_here", "_law_head", "_law_plans", "_law_at_here", "_law_way", "_law_word", "_law_bound", "_law_names", "_law_some", "_law_aim", "_law_k"] ["_law_pot_here", "_law_head", "_law_plans", "_law_at_here", "_law_way"] (defScope s_l_row) := ⟨rfl, rfl, rfl, by decide +kernel, rfl, by decide +kernel, by decide +kernel⟩
abbrev s_l_stock : Stmt := topS 53
abbrev N_l_stock : List Str := ["_law_script", "_law_pot_here", "_law_way", "_law_size", "_law_names", "_law_k", "_law_pool", "_law_pots", "_law_plans", "_law_name_here", "_law_stock_here", "_law_head"]
theorem sc_l_stock : FnScope ["_law_script", "_law_pot_here", "_law_way", "_law_size", "_law_names", "_law_k", "_law_pool", "_law_pots", "_law_plans", "_law_name_here", "_law_stock_here", "_law_head"] ["_law_script"] (defScope s_l_stock) := ⟨rfl, rfl, rfl, by decide +kernel, rfl, by decide +kernel, by decide +kernel⟩
abbrev s_l_aims : Stmt := topS 54
abbrev N_l_aims : List Str := ["_law_rows", "_law_row_here"]
theorem sc_l_aims : FnScope ["_law_rows", "_law_row_here"] ["_law_rows"] (defScope s_l_aims) := ⟨rfl, rfl, rfl, by decide +kernel, rfl, by decide +kernel, by decide +kernel⟩
abbrev s_l_first : Stmt := topS 55
abbrev N_l_first : List Str := ["_law_body", "_law_name_here", "_law_k", "_law_row_here"]
theorem sc_l_first : FnScope ["_law_body", "_law_name_here", "_law_k", "_law_row_here"] ["_law_body", "_law_name_here"] (defScope s_l_first) := ⟨rfl, rfl, rfl, by decide +kernel, rfl, by decide +kernel, by decide +kernel⟩
abbrev s_l_draws : Stmt := topS 56
abbrev N_l_draws : List Str := ["_law_stock_here", "_law_found", "_law_name_here", "_law_k", "_law_row_here"]
theorem sc_l_draws : FnScope ["_law_stock_here", "_law_found", "_law_name_here", "_law_k", "_law_row_here"] ["_law_stock_here"] (defScope s_l_draws) := ⟨rfl, rfl, rfl, by decide +kernel, rfl, by decide +kernel, by decide +kernel⟩
abbrev s_l_fits : Stmt := topS 57
abbrev N_l_fits : List Str := ["_law_stock_here", "_law_lot", "_law_draw_here", "_law_c", "_law_q", "_law_m", "_law_x", "_law_due", "_law_name_here", "_law_aim"]
theorem sc_l_fits : FnScope ["_law_stock_here", "_law_lot", "_law_draw_here", "_law_c", "_law_q", "_law_m", "_law_x", "_law_due", "_law_name_here", "_law_aim"] ["_law_stock_here", "_law_lot", "_law_draw_here"] (defScope s_l_fits) := ⟨rfl, rfl, rfl, by decide +kernel, rfl, by decide +kernel, by decide +kernel⟩
abbrev s_l_lots_right : Stmt := topS 58
abbrev N_l_lots_right : List Str := ["_law_stock_here", "_law_lots", "_law_draws_here", "_law_due", "_law_draw_here", "_law_c", "_law_q", "_law_m", "_law_x"]
theorem sc_l_lots_right : FnScope ["_law_stock_here", "_law_lots", "_law_draws_here", "_law_due", "_law_draw_here", "_law_c", "_law_q", "_law_m", "_law_x"] ["_law_stock_here", "_law_lots"] (defScope s_l_lots_right) := ⟨rfl, rfl, rfl, by decide +kernel, rfl, by decide +kernel, by decide +kernel⟩
abbrev s_law : Stmt := topS 59
abbrev N_law : List Str := ["_law_script", "_law_stock_here", "_law_kept", "_law_turn", "_law_said"]
theorem sc_law : FnScope ["_law_script", "_law_stock_here", "_law_kept", "_law_turn", "_law_said"] ["_law_script"] (defScope s_law) := ⟨rfl, rfl, rfl, by decide +kernel, rfl, by decide +kernel, by decide +kernel⟩
structure Txt (K : PySem.W.Frag) (mg : Str → Option Value) : Prop where
  n_len : mg "len" = none
  n_isinstance : mg "isinstance" = none
  n_str : mg "str" = none
  n_all : mg "all" = none
  n_bool : mg "bool" = none
  n_int : mg "int" = none
  n_tuple : mg "tuple" = none
  n_set : mg "set" = none
  n_enumerate : mg "enumerate" = none
  n_dict : mg "dict" = none
  n_sorted : mg "sorted" = none
  n_list : mg "list" = none
  n_max : mg "max" = none
  n_divmod : mg "divmod" = none
  n_range : mg "range" = none
  c_MOST_LETTERS : ∃ t, mg "MOST_LETTERS" = some (.int 8 t)
  c_LETTERS : ∃ t, mg "LETTERS" = some (.str "abcdefghijklmnopqrstuvwxyz" t)
  c_DOT : ∃ t, mg "DOT" = some (.str "." t)
  c_MOST_NAMES : ∃ t, mg "MOST_NAMES" = some (.int 4 t)
  c_FAULT_WORDS : ∃ a, mg "FAULT_WORDS" = some (.ref a) ∧ ∀ H, SqT K H a [.str "NOMODULE", .str "NONAME", .str "HALF", .str "FLAT", .str "NOTASK", .str "ALL"]
  c_LEADING : ∃ a, mg "LEADING" = some (.ref a) ∧ ∀ H, SqT K H a [.str "now", .str "take", .str "late", .str "ask"]
  c_MOST_ROWS : ∃ t, mg "MOST_ROWS" = some (.int 40 t)
  c_MOST_TRIES : ∃ t, mg "MOST_TRIES" = some (.int 3 t)
  c_BINDING : ∃ a, mg "BINDING" = some (.ref a) ∧ ∀ H, SqT K H a [.str "set", .str "now", .str "take", .str "draw", .str "late", .str "ask"]
  c_AIMING_WORDS : ∃ a, mg "AIMING_WORDS" = some (.ref a) ∧ ∀ H, SqT K H a [.str "take", .str "draw"]
  c_PLAIN_WORDS : ∃ a, mg "PLAIN_WORDS" = some (.ref a) ∧ ∀ H, SqT K H a [.str "set", .str "late", .str "take", .str "draw"]
theorem small_le {n : Nat} (h : n ≤ 100010) : n ≤ sizeLine := PH.small_le (by omega)
theorem small_lt {n : Nat} (h : n ≤ 100010) : n < sizeLine := PH.small_lt (by omega)

def spIsName (K : PySem.W.Frag) : Sp := fun vs H Q _ =>
  (∃ z : Str, vs = [.str z] ∧ z.length ≤ 100010 ∧ ∀ H', Kp [] H H' → Q (.bl (isNameL (tl z))) H') ∨
  (∃ (x : V) (t : String), vs = [x] ∧ TyX K H x (.type t) ∧ kitB t "str" = some false ∧ Q (.bl false) H)
def spIsPath (K : PySem.W.Frag) : Sp := fun vs H Q _ =>
  (∃ z : Str, vs = [.str z] ∧ z.length ≤ 100000 ∧ ∀ H', Kp [] H H' → Q (.bl (isPathL (tl z))) H') ∨
  (∃ (x : V) (t : String), vs = [x] ∧ TyX K H x (.type t) ∧ kitB t "str" = some false ∧ Q (.bl false) H)
section
variable {P : Program} {w : World} {K : PySem.W.Frag} {mg : Str → Option Value} {base : Heap}
theorem ok_is_name {f : Addr} {fd : FuncData} (F : Fun K "is_name" "is_name" s_is_name f fd) (T : Txt K mg ) : FnOk P w K mg base CX0 1 f fd ["thing"] (spIsName K) := by
  refine F.ok sc_is_name (fun vs H Q E h => ?_) (fun cdv A outer s H vs Q E hr h => ?_)
  · rcases h with ⟨z, rfl, _⟩ | ⟨x, t, rfl, _⟩ <;> rfl
  · obtain ⟨t_MOST_LETTERS, hc_MOST_LETTERS⟩ := T.c_MOST_LETTERS; obtain ⟨t_LETTERS, hc_LETTERS⟩ := T.c_LETTERS
    rcases h with ⟨z, rfl, hz', k⟩ | ⟨x, t, rfl, ht, hk, q⟩
    · have hz := small_le hz'
      have kz := len_tl z
      refine ⟨_, (pss_cons (ps_if (PW.pt (pw_or (pt_not (pt_val (pe_callB (isiK (K := K) rfl) (by rfl) T.n_isinstance (by decide +kernel) (pa_cons (pv 0) (pa_cons (pe_bltn (v := .ty "str") (by rfl) T.n_str (by decide +kernel) rfl) pa_nil))))) (pw_or (pt_cmpR op_lt (pe_callB lenS (by rfl) T.n_len (by decide +kernel) (pa_cons (pv 0) pa_nil)) pe_int (nomark _)) (pw_or1 (pt_cmpR op_gt (pe_callB lenS (by rfl) T.n_len (by decide +kernel) (pa_cons (pv 0) pa_nil)) (pe_glob (v := .int 8) rfl hc_MOST_LETTERS ⟨_, rfl⟩) (nomark _)))))) (pss_one (ps_ret pe_bl)) pss_nil)
      (pss_one (ps_ret (pe_callB (allK (K := K) rfl rfl) (by rfl) T.n_all (by decide +kernel) (pa_cons (pe_lc (own := [("sign", 1)]) (g := gName 1) (tt := tYes) rfl sc_is_name.nd (pi_str (pv 0)) (blkOk_by (own := [("sign", 1)]) (N := N_is_name) (sc := (defScope s_is_name)) (by decide +kernel)) (fun _ _ _ _ _ => (pg_name (i := 1) sc_is_name.nd rfl (Or.inl rfl))) (fun _ _ _ _ _ => pts_nil) (fun _ _ _ _ _ => (pe_cmpR inSg (pv 1) (pe_glob (v := .str "abcdefghijklmnopqrstuvwxyz") rfl hc_LETTERS ⟨_, rfl⟩) rfl))) pa_nil))))), ?_⟩
      refine st_start (σ' := [some (.str z), none]) rfl ?_
      walk_at "S"
      refine isi_ty (.base (.str z)) (b := true) (by decide +kernel) ?_
      walk_at "S"
      have e0 : isNameL (tl z) = (decide (1 ≤ z.length) && decide (z.length ≤ 8) && (tl z).all fun c => decide (c ∈ lets)) := by
        unfold isNameL
        rw [kz]
      rw [e0] at k
      refine s_dec (fun h1 => ?_) (fun h1 => ?_)
      · walk_at "S"
        rw [decide_eq_false (p := 1 ≤ z.length) (by omega)] at k
        exact k _ Kp.refl
      walk_at "S"
      refine s_dec (fun h2 => ?_) (fun h2 => ?_)
      · walk_at "S"
        rw [decide_eq_false (p := z.length ≤ 8) (by omega), Bool.and_false] at k
        exact k _ Kp.refl
      walk_at "S"
      intro D hD
      have L : LcOk D z.cps.size (fun i => (((tl z).map fun c => decide (c ∈ lets)).take i).map V.bl) [] H (fun _ _ => True) :=
        ⟨by have := hz; unfold Str.length at this; exact this, rfl, fun i hi => by rw [List.length_map, List.length_take]; omega, hD, trivial, fun _ _ _ h => h⟩
      refine lc_go walk_str L trivial (fun _ _ => trivial) (fun i x H2 H' hi I y => ?_) fun H2 I => ?_
      · obtain ⟨rfl, c, hc, rfl⟩ := y
        walk_at "S"
        refine ⟨rfl, ?_⟩
        walk_at "S"
        refine I.put L hi ?_ Kp.refl trivial
        have e1 : ((tl z).map fun c => decide (c ∈ lets))[i]? = some (decide (c ∈ lets)) := by
          rw [List.getElem?_map, show (tl z)[i]? = some c by simpa using hc]
          rfl
        show List.map V.bl (List.take (i + 1) _) = _
        rw [take_put e1, List.map_append]
        rfl
      · obtain ⟨p1, p2, _⟩ := I
        walk_at "S"
        refine s_all (sq_l p1) ?_
        rw [decide_eq_true (p := 1 ≤ z.length) (by omega), decide_eq_true (p := z.length ≤ 8) (by omega)] at k
        rw [List.take_of_length_le (by simp), List.all_map]
        exact k _ p2
    · refine ⟨_, (pss_cons (ps_if (PW.pt (pw_or (pt_not (pt_val (pe_callB (isiK (K := K) rfl) (by rfl) T.n_isinstance (by decide +kernel) (pa_cons (pv 0) (pa_cons (pe_bltn (v := .ty "str") (by rfl) T.n_str (by decide +kernel) rfl) pa_nil))))) (pw_or (pt_cmpR op_lt (pe_callB lenS (by rfl) T.n_len (by decide +kernel) (pa_cons (pv 0) pa_nil)) pe_int (nomark _)) (pw_or1 (pt_cmpR op_gt (pe_callB lenS (by rfl) T.n_len (by decide +kernel) (pa_cons (pv 0) pa_nil)) (pe_glob (v := .int 8) rfl hc_MOST_LETTERS ⟨_, rfl⟩) (nomark _)))))) (pss_one (ps_ret pe_bl)) pss_nil)
      (pss_one (ps_ret (pe_callB (allK (K := K) rfl rfl) (by rfl) T.n_all (by decide +kernel) (pa_cons (pe_lc (own := [("sign", 1)]) (g := gName 1) (tt := tYes) rfl sc_is_name.nd (pi_str (pv 0)) (blkOk_by (own := [("sign", 1)]) (N := N_is_name) (sc := (defScope s_is_name)) (by decide +kernel)) (fun _ _ _ _ _ => (pg_name (i := 1) sc_is_name.nd rfl (Or.inl rfl))) (fun _ _ _ _ _ => pts_nil) (fun _ _ _ _ _ => (pe_cmpR inSg (pv 1) (pe_glob (v := .str "abcdefghijklmnopqrstuvwxyz") rfl hc_LETTERS ⟨_, rfl⟩) rfl))) pa_nil))))), ?_⟩
      refine st_start (σ' := [some x, none]) rfl ?_
      walk_at "S"
      refine isi_ty ht hk ?_
      walk_at "S"
      exact q
theorem ok_is_path {f : Addr} {fd : FuncData} (F : Fun K "is_path" "is_path" s_is_path f fd) (T : Txt K mg )
    (D_is_name : DnF P w K mg base 1 "is_name" ["thing"] (spIsName K)) : FnOk P w K mg base CX0 2 f fd ["thing"] (spIsPath K) := by
  refine F.ok sc_is_path (fun vs H Q E h => ?_) (fun cdv A outer s H vs Q E hr h => ?_)
  · rcases h with ⟨z, rfl, _⟩ | ⟨x, t, rfl, _⟩ <;> rfl
  · obtain ⟨f_is_name, fd_is_name, G_is_name, m_is_name, k_is_name, b_is_name⟩ := D_is_name; obtain ⟨t_DOT, hc_DOT⟩ := T.c_DOT; obtain ⟨t_MOST_NAMES, hc_MOST_NAMES⟩ := T.c_MOST_NAMES
    rcases h with ⟨z, rfl, hz, k⟩ | ⟨x, t, rfl, ht, hk, q⟩
    · have hzl : (tl z).length ≤ 100000 := by rw [← len_tl]; exact hz
      have hwl := wds_length (tl z) []
      refine ⟨_, (pss_cons (ps_if (pt_not (pt_val (pe_callB (isiK (K := K) rfl) (by rfl) T.n_isinstance (by decide +kernel) (pa_cons (pv 0) (pa_cons (pe_bltn (v := .ty "str") (by rfl) T.n_str (by decide +kernel) rfl) pa_nil))))) (pss_one (ps_ret pe_bl)) pss_nil)
      (pss_cons (ps_set (i := 1) sc_is_path.nd rfl (Or.inl rfl) (pe_m1 PySem.F.slot_str_split PySem.F.type_str_split splitR (pv 0) (pe_glob (v := .str ".") rfl hc_DOT ⟨_, rfl⟩)))
      (pss_one (ps_ret (pe_and (pe_cmpR op_le (pe_callB (lenK (K := K) rfl) (by rfl) T.n_len (by decide +kernel) (pa_cons (pv 1) pa_nil)) (pe_glob (v := .int 4) rfl hc_MOST_NAMES ⟨_, rfl⟩) (nomark _)) (pe_one (pe_callB (allK (K := K) rfl rfl) (by rfl) T.n_all (by decide +kernel) (pa_cons (pe_lc (own := [("name", 2)]) (g := gName 2) (tt := tYes) rfl sc_is_path.nd (kiL (K := K) rfl (pi_list (pv 1))) (blkOk_by (own := [("name", 2)]) (N := N_is_path) (sc := (defScope s_is_path)) (by decide +kernel)) (fun _ _ _ _ _ => (pg_name (i := 2) sc_is_path.nd rfl (Or.inl rfl))) (fun _ _ _ _ _ => pts_nil) (fun _ _ _ _ _ => (pe_call G_is_name (hr.mono (by first | decide | omega)) (by rfl) m_is_name k_is_name b_is_name .nil pass0 (pa_cons (pv 2) pa_nil)))) pa_nil)))))))), ?_⟩
      refine st_start (σ' := [some (.str z), none, none]) rfl ?_
      walk_at "S"
      refine isi_ty (.base (.str z)) (b := true) (by decide +kernel) ?_
      walk_at "S"
      refine s_splitS (by decide +kernel) (small_le (by omega)) fun a ha => ?_
      rw [split_dot]
      walk_at "S"
      generalize hN : wds [] (tl z) = ws at *
      have el : (((ws.map mkS).map V.str).length : Int) = (ws.length : Int) := by simp
      rw [el]
      have ep : isPathL (tl z) = (decide ((ws.length : Int) ≤ 4) && ws.all isNameL) := by
        unfold isPathL
        rw [hN]
        congr 1
        exact decide_eq_decide.mpr (by omega)
      rw [ep] at k
      by_cases h4 : (ws.length : Int) ≤ 4
      · rw [decide_eq_true h4] at k ⊢
        walk_at "S"
        refine ⟨⟨_, sq_l upd_same⟩, fun D hD => ?_⟩
        have na : a ≠ D := ne_of_none upd_same hD
        have L : LcOk D ((ws.map mkS).map V.str).length (fun i => ((ws.map isNameL).map V.bl).take i) [] (upd H a (.lst ((ws.map mkS).map V.str))) (fun _ _ => True) :=
          .ofTake (by simp; exact small_le (by omega)) hD trivial (fun _ _ _ h => h)
        refine lc_go (walk_list (K := K) (a := a) (xs := (ws.map mkS).map V.str)) L trivial (fun H2 k2 => k2.seqL trivial (sq_l upd_same)) (fun i x H2 H' hi I y => ?_) fun H2 I => ?_
        · obtain ⟨rfl, hx⟩ := y
          rw [List.getElem?_map, List.getElem?_map] at hx
          obtain ⟨p, hp, rfl⟩ : ∃ p, ws[i]? = some p ∧ x = V.str (mkS p) := by
            cases e : ws[i]? with
            | none => rw [e] at hx; cases hx
            | some p => rw [e] at hx; exact ⟨p, rfl, (Option.some.inj hx).symm⟩
          walk_at "S"
          refine ⟨rfl, ?_⟩
          walk_at "S"
          refine .inl ⟨mkS p, rfl, ?_, fun H3 K3 => ?_⟩
          · have := wds_mem (tl z) [] p (by rw [hN]; exact List.mem_of_getElem? hp)
            rw [mkS_len]
            rw [List.length_nil] at this
            omega
          · rw [tl_mkS]
            refine I.put L hi (take_put ?_) K3 trivial
            rw [List.getElem?_map, List.getElem?_map, hp]
            rfl
        · obtain ⟨p1, p2, _⟩ := I
          walk_at "S"
          dsimp only at p1
          rw [List.take_of_length_le (by simp)] at p1
          refine s_all (bs := ws.map isNameL) (sq_l p1) ?_
          rw [List.all_map]
          exact k H2 (by walk_at "K")
      · rw [decide_eq_false h4] at k ⊢
        walk_at "S"
        exact k _ (Kp.refl.upd_new ha)
    · refine ⟨_, (pss_cons (ps_if (pt_not (pt_val (pe_callB (isiK (K := K) rfl) (by rfl) T.n_isinstance (by decide +kernel) (pa_cons (pv 0) (pa_cons (pe_bltn (v := .ty "str") (by rfl) T.n_str (by decide +kernel) rfl) pa_nil))))) (pss_one (ps_ret pe_bl)) pss_nil)
      (pss_cons (ps_set (i := 1) sc_is_path.nd rfl (Or.inl rfl) (pe_m1 PySem.F.slot_str_split PySem.F.type_str_split splitR (pv 0) (pe_glob (v := .str ".") rfl hc_DOT ⟨_, rfl⟩)))
      (pss_one (ps_ret (pe_and (pe_cmpR op_le (pe_callB (lenK (K := K) rfl) (by rfl) T.n_len (by decide +kernel) (pa_cons (pv 1) pa_nil)) (pe_glob (v := .int 4) rfl hc_MOST_NAMES ⟨_, rfl⟩) (nomark _)) (pe_one (pe_callB (allK (K := K) rfl rfl) (by rfl) T.n_all (by decide +kernel) (pa_cons (pe_lc (own := [("name", 2)]) (g := gName 2) (tt := tYes) rfl sc_is_path.nd (kiL (K := K) rfl (pi_list (pv 1))) (blkOk_by (own := [("name", 2)]) (N := N_is_path) (sc := (defScope s_is_path)) (by decide +kernel)) (fun _ _ _ _ _ => (pg_name (i := 2) sc_is_path.nd rfl (Or.inl rfl))) (fun _ _ _ _ _ => pts_nil) (fun _ _ _ _ _ => (pe_call G_is_name (hr.mono (by first | decide | omega)) (by rfl) m_is_name k_is_name b_is_name .nil pass0 (pa_cons (pv 2) pa_nil)))) pa_nil)))))))), ?_⟩
      refine st_start (σ' := [some x, none, none]) rfl ?_
      walk_at "S"
      refine isi_ty ht hk ?_
      walk_at "S"
      exact q
end

def spIsWhole (K : PySem.W.Frag) : Sp := fun vs H Q _ => ∃ (v : V) (d : PyData), vs = [v] ∧ Dp K H v d ∧ Part d ∧ Q (.bl (isWholeX d)) H
def spIsWord : Sp := fun vs H Q _ => ∃ z : Str, vs = [.str z] ∧ z.length ≤ 100000 ∧ ∀ H', Kp [] H H' → Q (.bl (isWordS z)) H'
theorem name_arg {K : PySem.W.Frag} {H : Hp} {v : V} {d : PyData} {Q : VK} {E : XK} (h : Dp K H v d) (p : Part d) (q : ∀ H', Kp [] H H' → Q (.bl (isNameX d)) H') : spIsName K [v] H Q E := by
  cases p with
  | non => cases h; exact .inr ⟨_, "NoneType", rfl, .base .non, by decide +kernel, q _ Kp.refl⟩
  | int n => cases h; exact .inr ⟨_, "int", rfl, .base (.int _), by decide +kernel, q _ Kp.refl⟩
  | str l => cases h; exact .inl ⟨_, rfl, Nat.le_trans l (by decide), q⟩
theorem path_arg {K : PySem.W.Frag} {H : Hp} {v : V} {d : PyData} {Q : VK} {E : XK} (h : Dp K H v d) (p : Part d) (q : ∀ H', Kp [] H H' → Q (.bl (isPathX d)) H') : spIsPath K [v] H Q E := by
  cases p with
  | non => cases h; exact .inr ⟨_, "NoneType", rfl, .base .non, by decide +kernel, q _ Kp.refl⟩
  | int n => cases h; exact .inr ⟨_, "int", rfl, .base (.int _), by decide +kernel, q _ Kp.refl⟩
  | str l => cases h; exact .inl ⟨_, rfl, l, q⟩
section
variable {P : Program} {w : World} {K : PySem.W.Frag} {mg : Str → Option Value} {base : Heap}
theorem ok_is_whole {f : Addr} {fd : FuncData} (F : Fun K "is_whole" "is_whole" s_is_whole f fd) (T : Txt K mg ) : FnOk P w K mg base CX0 1 f fd ["thing"] (spIsWhole K) := by
  refine F.ok sc_is_whole (fun vs H Q E h => ?_) (fun cdv A outer s H vs Q E hr h => ?_)
  · obtain ⟨v, d, rfl, _⟩ := h
    rfl
  · obtain ⟨v, d, rfl, hd, hp, q⟩ := h
    refine ⟨_, (pss_one (ps_ret (pe_and (pe_callB (isiK (K := K) rfl) (by rfl) T.n_isinstance (by decide +kernel) (pa_cons (pv 0) (pa_cons (pe_bltn (v := .ty "int") (by rfl) T.n_int (by decide +kernel) rfl) pa_nil))) (pe_one (pe_not (pe_callB (isiK (K := K) rfl) (by rfl) T.n_isinstance (by decide +kernel) (pa_cons (pv 0) (pa_cons (pe_bltn (v := .ty "bool") (by rfl) T.n_bool (by decide +kernel) rfl) pa_nil)))))))), ?_⟩
    refine st_start (σ' := [some v]) rfl ?_
    cases hp with
    | non =>
      cases hd
      walk_at "S"
      refine isi_ty (.base .non) (b := false) (by decide +kernel) ?_
      walk_at "S"
      exact q
    | int n =>
      cases hd
      walk_at "S"
      refine isi_ty (.base (.int _)) (b := true) (by decide +kernel) ?_
      walk_at "S"
      refine isi_ty (.base (.int _)) (b := false) (by decide +kernel) ?_
      walk_at "S"
      exact q
    | str l =>
      cases hd
      walk_at "S"
      refine isi_ty (.base (.str _)) (b := false) (by decide +kernel) ?_
      walk_at "S"
      exact q
theorem ok_is_word {f : Addr} {fd : FuncData} (F : Fun K "is_word" "is_word" s_is_word f fd) (T : Txt K mg )
    (D_is_name : DnF P w K mg base 1 "is_name" ["thing"] (spIsName K)) : FnOk P w K mg base CX0 2 f fd ["thing"] spIsWord := by
  refine F.ok sc_is_word (fun vs H Q E h => ?_) (fun cdv A outer s H vs Q E hr h => ?_)
  · obtain ⟨z, rfl, _⟩ := h
    rfl
  · obtain ⟨f_is_name, fd_is_name, G_is_name, m_is_name, k_is_name, b_is_name⟩ := D_is_name; obtain ⟨a_FAULT_WORDS, hc_FAULT_WORDS, sq_FAULT_WORDS⟩ := T.c_FAULT_WORDS
    obtain ⟨z, rfl, hz, q⟩ := h
    refine ⟨_, (pss_one (ps_ret (pe_or (pe_call G_is_name (hr.mono (by first | decide | omega)) (by rfl) m_is_name k_is_name b_is_name .nil pass0 (pa_cons (pv 0) pa_nil)) (pe_one (pe_and (pe_callB (isiK (K := K) rfl) (by rfl) T.n_isinstance (by decide +kernel) (pa_cons (pv 0) (pa_cons (pe_bltn (v := .ty "str") (by rfl) T.n_str (by decide +kernel) rfl) pa_nil))) (pe_one (pe_cmpR (inK (K := K) rfl) (pv 0) (pe_glob (v := .ref a_FAULT_WORDS) rfl hc_FAULT_WORDS rfl) (by rfl)))))))), ?_⟩
    refine st_start (σ' := [some (.str z)]) rfl ?_
    walk_at "S"
    refine .inl ⟨z, rfl, by omega, fun H1 k1 => ?_⟩
    have qq := q H1 k1
    unfold isWordS at qq
    walk_at "S"
    refine s_bool (fun h1 => ?_) (fun h1 => ?_)
    · rw [h1, Bool.true_or] at qq
      exact qq
    · rw [h1, Bool.false_or] at qq
      walk_at "S"
      refine isi_ty (.base (.str z)) (b := true) (by decide +kernel) ?_
      walk_at "S"
      refine ⟨_, faultW.map V.str, rfl, .inr (sq_FAULT_WORDS H1), rfl, flatV_strs _, ?_⟩
      rw [inV_strs]
      walk_at "S"
      exact qq
end

theorem dpAll_strs_inv {K : PySem.W.Frag} {H : Hp} : ∀ {ws : List Str} {vs : List V}, DpAll K H vs (ws.map PyData.str) → vs = ws.map V.str
  | [], _, .nil => rfl
  | z :: ws, _, .cons h t => by
    cases h
    rw [dpAll_strs_inv t]
    rfl
theorem areWordsX_strs (ws : List Str) : areWordsX (.tuple (ws.map .str)) = (ws.all isWordS && decide ws.Nodup) := by
  have e : ∀ (f : Str → Str), (∀ z, f z = z) → ws.map f = ws := fun f h => (List.map_congr_left fun z _ => h z).trans (List.map_id' ws)
  have g := e ((fun d : PyData => match d with | .str z => z | _ => Str.empty) ∘ PyData.str) fun _ => rfl
  unfold areWordsX
  dsimp only
  rw [List.all_map, List.map_map]
  refine congr (congrArg _ rfl) (decide_eq_decide.mpr ?_)
  exact Iff.of_eq (congrArg List.Nodup g)
def spAreWords (K : PySem.W.Frag) : Sp := fun vs H Q _ =>
  (∃ (v : V) (ws : List Str), vs = [v] ∧ Dp K H v (.tuple (ws.map .str)) ∧ (∀ z ∈ ws, z.length ≤ 100000) ∧ ws.length ≤ 100 ∧ ∀ H', Kp [] H H' → Q (.bl (areWordsX (.tuple (ws.map .str)))) H') ∨
  (∃ (x : V) (t : String), vs = [x] ∧ TyX K H x (.type t) ∧ kitB t "tuple" = some false ∧ Q (.bl false) H)
section
variable {P : Program} {w : World} {K : PySem.W.Frag} {mg : Str → Option Value} {base : Heap}
theorem ok_are_words {f : Addr} {fd : FuncData} (F : Fun K "are_words" "are_words" s_are_words f fd) (T : Txt K mg )
    (D_is_word : DnF P w K mg base 2 "is_word" ["thing"] spIsWord) : FnOk P w K mg base CX0 3 f fd ["thing"] (spAreWords K) := by
  refine F.ok sc_are_words (fun vs H Q E h => ?_) (fun cdv A outer s H vs Q E hr h => ?_)
  · rcases h with ⟨v, ws, rfl, _⟩ | ⟨x, t, rfl, _⟩ <;> rfl
  · obtain ⟨f_is_word, fd_is_word, G_is_word, m_is_word, k_is_word, b_is_word⟩ := D_is_word
    rcases h with ⟨v, ws, rfl, hd, hz, hl, q⟩ | ⟨x, t, rfl, ht, hk, q⟩
    · have ty : TyX K H v (.type "tuple") := Dp.ty hd
      cases hd with
      | tup hs ha =>
        rename_i a vs
        obtain rfl := dpAll_strs_inv ha
        rw [areWordsX_strs] at q
        refine ⟨_, (pss_cons (ps_if (PW.pt (pw_or (pt_not (pt_val (pe_callB (isiK (K := K) rfl) (by rfl) T.n_isinstance (by decide +kernel) (pa_cons (pv 0) (pa_cons (pe_bltn (v := .ty "tuple") (by rfl) T.n_tuple (by decide +kernel) rfl) pa_nil))))) (pw_or1 (pt_not (pt_val (pe_callB (allK (K := K) rfl rfl) (by rfl) T.n_all (by decide +kernel) (pa_cons (pe_lc (own := [("word", 1)]) (g := gName 1) (tt := tYes) rfl sc_are_words.nd (kiT (K := K) rfl (pi_tup (pv 0))) (blkOk_by (own := [("word", 1)]) (N := N_are_words) (sc := (defScope s_are_words)) (by decide +kernel)) (fun _ _ _ _ _ => (pg_name (i := 1) sc_are_words.nd rfl (Or.inl rfl))) (fun _ _ _ _ _ => pts_nil) (fun _ _ _ _ _ => (pe_call G_is_word (hr.mono (by first | decide | omega)) (by rfl) m_is_word k_is_word b_is_word .nil pass0 (pa_cons (pv 1) pa_nil)))) pa_nil))))))) (pss_one (ps_ret pe_bl)) pss_nil)
      (pss_one (ps_ret (pe_cmpR op_eq (pe_lenSetT (K := K) rfl rfl (by rfl) T.n_len (by rfl) T.n_set (pv 0)) (pe_callB (lenK (K := K) rfl) (by rfl) T.n_len (by decide +kernel) (pa_cons (pv 0) pa_nil)) (nomark _))))), ?_⟩
        refine st_start (σ' := [some (.ref a), none]) rfl ?_
        walk_at "S"
        refine isi_ty ty (b := true) (by decide +kernel) ?_
        walk_at "S"
        refine ⟨⟨_, hs⟩, fun D hD => ?_⟩
        have L : LcOk D (ws.map V.str).length (fun i => ((ws.map isWordS).map V.bl).take i) [] H (fun _ _ => True) :=
          .ofTake (by rw [List.length_map]; exact small_le (by omega)) hD trivial (fun _ _ _ h => h)
        refine lc_go (walk_tup (K := K) (a := a) (xs := ws.map V.str)) L trivial (fun H2 k2 => k2.seqT trivial hs) (fun i x H2 H' hi I y => ?_) fun H2 I => ?_
        · obtain ⟨rfl, hx⟩ := y
          rw [List.getElem?_map] at hx
          obtain ⟨p, hp, rfl⟩ : ∃ p, ws[i]? = some p ∧ x = V.str p := by
            cases e : ws[i]? with
            | none => rw [e] at hx; cases hx
            | some p => rw [e] at hx; exact ⟨p, rfl, (Option.some.inj hx).symm⟩
          walk_at "S"
          refine ⟨rfl, ?_⟩
          walk_at "S"
          refine ⟨p, rfl, hz p (List.mem_of_getElem? hp), fun H3 K3 => ?_⟩
          refine I.put L hi (take_put ?_) K3 trivial
          rw [List.getElem?_map, List.getElem?_map, hp]
          rfl
        · obtain ⟨p1, p2, _⟩ := I
          dsimp only at p1
          rw [List.take_of_length_le (by simp)] at p1
          walk_at "S"
          refine s_all (bs := ws.map isWordS) (sq_l p1) ?_
          rw [List.all_map]
          have qq := q H2 p2
          walk_at "S"
          by_cases hw : ws.all isWordS = true
          · rw [show ws.all (id ∘ isWordS) = true from hw]
            rw [hw, Bool.true_and] at qq
            walk_at "S"
            refine s_lenSet ?_
            walk_at "S"
            refine ⟨a, ws, rfl, p2.seqT trivial hs, hl, ?_⟩
            walk_at "S"
            refine s_lenT (p2.seqT trivial hs) ?_
            walk_at "S"
            rw [List.length_map]
            have e : decide (V.int (unlike ws ws.length : Nat) = V.int (ws.length : Nat)) = decide ws.Nodup := decide_eq_decide.mpr (by
              have u := unlike_all ws ws.length (Nat.le_refl _)
              rw [List.take_of_length_le (Nat.le_refl _)] at u
              rw [← u]
              exact ⟨fun z => by have := V.int.inj z; omega, fun z => by rw [z]⟩)
            rw [e]
            exact qq
          · rw [show ws.all (id ∘ isWordS) = false from Bool.eq_false_iff.mpr hw]
            rw [Bool.eq_false_iff.mpr hw, Bool.false_and] at qq
            walk_at "S"
            exact qq
    · refine ⟨_, (pss_cons (ps_if (PW.pt (pw_or (pt_not (pt_val (pe_callB (isiK (K := K) rfl) (by rfl) T.n_isinstance (by decide +kernel) (pa_cons (pv 0) (pa_cons (pe_bltn (v := .ty "tuple") (by rfl) T.n_tuple (by decide +kernel) rfl) pa_nil))))) (pw_or1 (pt_not (pt_val (pe_callB (allK (K := K) rfl rfl) (by rfl) T.n_all (by decide +kernel) (pa_cons (pe_lc (own := [("word", 1)]) (g := gName 1) (tt := tYes) rfl sc_are_words.nd (kiT (K := K) rfl (pi_tup (pv 0))) (blkOk_by (own := [("word", 1)]) (N := N_are_words) (sc := (defScope s_are_words)) (by decide +kernel)) (fun _ _ _ _ _ => (pg_name (i := 1) sc_are_words.nd rfl (Or.inl rfl))) (fun _ _ _ _ _ => pts_nil) (fun _ _ _ _ _ => (pe_call G_is_word (hr.mono (by first | decide | omega)) (by rfl) m_is_word k_is_word b_is_word .nil pass0 (pa_cons (pv 1) pa_nil)))) pa_nil))))))) (pss_one (ps_ret pe_bl)) pss_nil)
      (pss_one (ps_ret (pe_cmpR op_eq (pe_lenSetT (K := K) rfl rfl (by rfl) T.n_len (by rfl) T.n_set (pv 0)) (pe_callB (lenK (K := K) rfl) (by rfl) T.n_len (by decide +kernel) (pa_cons (pv 0) pa_nil)) (nomark _))))), ?_⟩
      refine st_start (σ' := [some x, none]) rfl ?_
      walk_at "S"
      refine isi_ty ht hk ?_
      walk_at "S"
      exact q
end

def spIsBare (K : PySem.W.Frag) : Sp := fun vs H Q _ => ∃ (v : V) (z : Str) (ds : List PyData), vs = [v] ∧ Dp K H v (.tuple (.str z :: ds)) ∧ (∀ d ∈ ds, Part d) ∧ ds.length ≤ 100000 ∧ ∀ H', Kp [] H H' → Q (.bl (isBareX z ds)) H'
theorem dpAll_nth {K : PySem.W.Frag} {H : Hp} : ∀ {vs : List V} {ds : List PyData}, DpAll K H vs ds → ∀ k, k < ds.length → ∃ v, vs[k]? = some v ∧ Dp K H v (nth ds k) ∧ nth ds k ∈ ds
  | _, _, .nil, k, h => absurd h (Nat.not_lt_zero _)
  | _, _, .cons a b, 0, _ => ⟨_, rfl, a, List.mem_cons_self⟩
  | _, _, .cons a b, k + 1, h => by
    obtain ⟨v, e, d, m⟩ := dpAll_nth b k (Nat.lt_of_succ_lt_succ h)
    exact ⟨v, e, d, List.mem_cons_of_mem _ m⟩
section
variable {P : Program} {w : World} {K : PySem.W.Frag} {mg : Str → Option Value} {base : Heap}
theorem ok_is_bare {f : Addr} {fd : FuncData} (F : Fun K "is_bare" "is_bare" s_is_bare f fd) (T : Txt K mg )
    (D_is_name : DnF P w K mg base 1 "is_name" ["thing"] (spIsName K)) (D_is_path : DnF P w K mg base 2 "is_path" ["thing"] (spIsPath K))
    (D_is_whole : DnF P w K mg base 1 "is_whole" ["thing"] (spIsWhole K)) : FnOk P w K mg base CX0 3 f fd ["row"] (spIsBare K) := by
  refine F.ok sc_is_bare (fun vs H Q E h => ?_) (fun cdv A outer s H vs Q E hr h => ?_)
  · obtain ⟨v, z, ds, rfl, _⟩ := h
    rfl
  · obtain ⟨f_is_path, fd_is_path, G_is_path, m_is_path, k_is_path, b_is_path⟩ := D_is_path; obtain ⟨f_is_name, fd_is_name, G_is_name, m_is_name, k_is_name, b_is_name⟩ := D_is_name; obtain ⟨f_is_whole, fd_is_whole, G_is_whole, m_is_whole, k_is_whole, b_is_whole⟩ := D_is_whole; obtain ⟨a_LEADING, hc_LEADING, sq_LEADING⟩ := T.c_LEADING
    obtain ⟨v, z, ds, rfl, hd, hp, hl, q⟩ := h
    cases hd with
    | tup hs ha =>
      rename_i a vs
      cases ha with
      | cons h0 ht =>
        rename_i v0 vt
        cases h0
        have el : vt.length = ds.length := DpAll.len ht
        have at_ : ∀ k, k < ds.length → ∃ v, atI (V.str z :: vt) ((k + 1 : Nat) : Int) = some v ∧ Dp K H v (nth ds k) ∧ Part (nth ds k) := fun k hk => by
          obtain ⟨v, e, d, m⟩ := dpAll_nth ht k hk
          exact ⟨v, atI_nat e, d, hp _ m⟩
        have q0 := q H Kp.refl
        refine ⟨_, (pss_cons (ps_set (i := 1) sc_is_bare.nd rfl (Or.inl rfl) (pe_ix (ixTK (K := K) rfl) (pv 0) pe_int (fun _ _ => rfl)))
      (pss_cons (ps_if (pt_cmpR op_eq (pv 1) pe_str (nomark _)) (pss_one (ps_ret (pe_and (pe_cmpR op_eq (pe_callB (lenK (K := K) rfl) (by rfl) T.n_len (by decide +kernel) (pa_cons (pv 0) pa_nil)) pe_int (nomark _)) (pe_one (pe_call G_is_path (hr.mono (by first | decide | omega)) (by rfl) m_is_path k_is_path b_is_path .nil pass0 (pa_cons (pe_ix (ixTK (K := K) rfl) (pv 0) pe_int (fun _ _ => rfl)) pa_nil)))))) pss_nil)
      (pss_cons (ps_if (pt_cmpR op_eq (pv 1) pe_str (nomark _)) (pss_one (ps_ret (pe_and (pe_cmpR op_eq (pe_callB (lenK (K := K) rfl) (by rfl) T.n_len (by decide +kernel) (pa_cons (pv 0) pa_nil)) pe_int (nomark _)) (pe_one (pe_call G_is_name (hr.mono (by first | decide | omega)) (by rfl) m_is_name k_is_name b_is_name .nil pass0 (pa_cons (pe_ix (ixTK (K := K) rfl) (pv 0) pe_int (fun _ _ => rfl)) pa_nil)))))) pss_nil)
      (pss_cons (ps_if (PW.pt (pw_or (pt_cmpR op_lt (pe_callB (lenK (K := K) rfl) (by rfl) T.n_len (by decide +kernel) (pa_cons (pv 0) pa_nil)) pe_int (nomark _)) (pw_or1 (pt_not (pt_val (pe_call G_is_name (hr.mono (by first | decide | omega)) (by rfl) m_is_name k_is_name b_is_name .nil pass0 (pa_cons (pe_ix (ixTK (K := K) rfl) (pv 0) pe_int (fun _ _ => rfl)) pa_nil))))))) (pss_one (ps_ret pe_bl)) pss_nil)
      (pss_cons (ps_if (pt_cmpR op_eq (pv 1) pe_str (nomark _)) (pss_one (ps_ret (pe_and (pe_cmpR op_eq (pe_callB (lenK (K := K) rfl) (by rfl) T.n_len (by decide +kernel) (pa_cons (pv 0) pa_nil)) pe_int (nomark _)) (pe_one (pe_call G_is_whole (hr.mono (by first | decide | omega)) (by rfl) m_is_whole k_is_whole b_is_whole .nil pass0 (pa_cons (pe_ix (ixTK (K := K) rfl) (pv 0) pe_int (fun _ _ => rfl)) pa_nil)))))) pss_nil)
      (pss_cons (ps_if (pt_cmpR op_eq (pv 1) pe_str (nomark _)) (pss_one (ps_ret (pe_and (pe_cmpR op_eq (pe_callB (lenK (K := K) rfl) (by rfl) T.n_len (by decide +kernel) (pa_cons (pv 0) pa_nil)) pe_int (nomark _)) (pe_and (pe_call G_is_path (hr.mono (by first | decide | omega)) (by rfl) m_is_path k_is_path b_is_path .nil pass0 (pa_cons (pe_ix (ixTK (K := K) rfl) (pv 0) pe_int (fun _ _ => rfl)) pa_nil)) (pe_one (pe_call G_is_name (hr.mono (by first | decide | omega)) (by rfl) m_is_name k_is_name b_is_name .nil pass0 (pa_cons (pe_ix (ixTK (K := K) rfl) (pv 0) pe_int (fun _ _ => rfl)) pa_nil))))))) pss_nil)
      (pss_one (ps_ret (pe_and (pe_cmpR (inK (K := K) rfl) (pv 1) (pe_glob (v := .ref a_LEADING) rfl hc_LEADING rfl) (by rfl)) (pe_and (pe_cmpR op_eq (pe_callB (lenK (K := K) rfl) (by rfl) T.n_len (by decide +kernel) (pa_cons (pv 0) pa_nil)) pe_int (nomark _)) (pe_one (pe_call G_is_path (hr.mono (by first | decide | omega)) (by rfl) m_is_path k_is_path b_is_path .nil pass0 (pa_cons (pe_ix (ixTK (K := K) rfl) (pv 0) pe_int (fun _ _ => rfl)) pa_nil))))))))))))), ?_⟩
        refine st_start (σ' := [some (.ref a), none]) rfl ?_
        have e0 : atI (V.str z :: vt) ((0 : Nat) : Int) = some (.str z) := atI_nat rfl
        walk_at "S"
        refine s_ixT hs e0 ?_
        walk_at "S"
        refine s_dec (fun h1 => ?_) (fun h1 => ?_)
        · have e1 := V.str.inj h1
          subst e1
          unfold isBareX at q q0
          rw [if_pos rfl] at q0
          walk_at "S"
          refine s_dec (fun h2 => ?_) (fun h2 => ?_)
          · have h2' : ds.length = 1 := by have := V.int.inj h2; rw [List.length_cons, el] at this; omega
            obtain ⟨v, e, d, pt⟩ := at_ 0 (by omega)
            walk_at "S"
            refine s_ixT hs e ?_
            walk_at "S"
            refine path_arg d pt fun H1 k1 => ?_
            have q1 := q H1 k1
            rw [if_pos rfl, decide_eq_true h2', Bool.true_and] at q1
            exact q1
          · have h2' : ¬ ds.length = 1 := fun z => h2 (by rw [List.length_cons, el, z]; rfl)
            rw [decide_eq_false h2', Bool.false_and] at q0
            exact q0
        have n1 : z ≠ "note" := fun e => h1 (by rw [e])
        walk_at "S"
        refine s_dec (fun h2 => ?_) (fun h2 => ?_)
        · have e1 := V.str.inj h2
          subst e1
          unfold isBareX at q q0
          rw [if_neg n1, if_pos rfl] at q0
          walk_at "S"
          refine s_dec (fun h2 => ?_) (fun h2 => ?_)
          · have h2' : ds.length = 1 := by have := V.int.inj h2; rw [List.length_cons, el] at this; omega
            obtain ⟨v, e, d, pt⟩ := at_ 0 (by omega)
            walk_at "S"
            refine s_ixT hs e ?_
            walk_at "S"
            refine name_arg d pt fun H1 k1 => ?_
            have q1 := q H1 k1
            rw [if_neg n1, if_pos rfl, decide_eq_true h2', Bool.true_and] at q1
            exact q1
          · have h2' : ¬ ds.length = 1 := fun z => h2 (by rw [List.length_cons, el, z]; rfl)
            rw [decide_eq_false h2', Bool.false_and] at q0
            exact q0
        have n2 : z ≠ "fail" := fun e => h2 (by rw [e])
        unfold isBareX at q q0
        rw [if_neg n1, if_neg n2] at q0
        walk_at "S"
        refine s_dec (fun h3 => ?_) (fun h3 => ?_)
        · walk_at "S"
          have h3' : ds.length < 2 := by rw [List.length_cons, el] at h3; omega
          rw [if_pos h3'] at q0
          exact q0
        have h3' : ¬ ds.length < 2 := by rw [List.length_cons, el] at h3; omega
        rw [if_neg h3'] at q0
        obtain ⟨v1, e1, d1, p1⟩ := at_ 0 (by omega)
        obtain ⟨v2, e2, d2, p2⟩ := at_ 1 (by omega)
        walk_at "S"
        refine s_ixT hs e1 ?_
        walk_at "S"
        refine name_arg d1 p1 fun H1 k1 => ?_
        have q1 := q H1 k1
        rw [if_neg n1, if_neg n2, if_neg h3'] at q1
        have hs1 := k1.seqT trivial hs
        have at1 : ∀ k, k < ds.length → ∃ v, atI (V.str z :: vt) ((k + 1 : Nat) : Int) = some v ∧ Dp K H1 v (nth ds k) ∧ Part (nth ds k) := fun k hk => by
          obtain ⟨v, e, d, m⟩ := at_ k hk
          exact ⟨v, e, Dp.same k1 _ _ d, m⟩
        walk_at "S"
        refine s_bool (fun h4 => ?_) (fun h4 => ?_)
        · have h4' : isNameX (nth ds 0) = false := by simpa using h4
          walk_at "S"
          rw [if_pos h4'] at q1
          exact q1
        have h4' : ¬ isNameX (nth ds 0) = false := by simpa using h4
        rw [if_neg h4'] at q1
        walk_at "S"
        refine s_dec (fun h5 => ?_) (fun h5 => ?_)
        · have e1 := V.str.inj h5
          subst e1
          rw [if_pos rfl] at q1
          walk_at "S"
          refine s_dec (fun h2 => ?_) (fun h2 => ?_)
          · have h2' : ds.length = 2 := by have := V.int.inj h2; rw [List.length_cons, el] at this; omega
            obtain ⟨v, e, d, pt⟩ := at1 1 (by omega)
            walk_at "S"
            refine s_ixT hs1 e ?_
            walk_at "S"
            rw [decide_eq_true h2', Bool.true_and] at q1
            exact ⟨v, _, rfl, d, pt, q1⟩
          · have h2' : ¬ ds.length = 2 := fun z => h2 (by rw [List.length_cons, el, z]; rfl)
            rw [decide_eq_false h2', Bool.false_and] at q1
            exact q1
        have n5 : z ≠ "set" := fun e => h5 (by rw [e])
        rw [if_neg n5] at q1
        walk_at "S"
        refine s_dec (fun h6 => ?_) (fun h6 => ?_)
        · have e1 := V.str.inj h6
          subst e1
          rw [if_pos rfl] at q1
          walk_at "S"
          refine s_dec (fun h2 => ?_) (fun h2 => ?_)
          · have h2' : ds.length = 3 := by have := V.int.inj h2; rw [List.length_cons, el] at this; omega
            obtain ⟨v, e, d, pt⟩ := at1 1 (by omega)
            obtain ⟨v', e', d', pt'⟩ := at1 2 (by omega)
            walk_at "S"
            refine s_ixT hs1 e ?_
            walk_at "S"
            refine path_arg d pt fun H2 k2 => ?_
            have q2 := q H2 (k1.tr k2)
            rw [if_neg n1, if_neg n2, if_neg h3', if_neg h4', if_neg n5, if_pos rfl, decide_eq_true h2', Bool.true_and] at q2
            walk_at "S"
            refine s_bool (fun h7 => ?_) (fun h7 => ?_)
            · walk_at "S"
              refine s_ixT (k2.seqT trivial hs1) e' ?_
              walk_at "S"
              refine name_arg (Dp.same k2 _ _ d') pt' fun H3 k3 => ?_
              have q3 := q H3 ((k1.tr k2).tr k3)
              rw [if_neg n1, if_neg n2, if_neg h3', if_neg h4', if_neg n5, if_pos rfl, decide_eq_true h2', Bool.true_and, h7, Bool.true_and] at q3
              exact q3
            · rw [h7, Bool.false_and] at q2
              exact q2
          · have h2' : ¬ ds.length = 3 := fun z => h2 (by rw [List.length_cons, el, z]; rfl)
            rw [decide_eq_false h2', Bool.false_and] at q1
            exact q1
        have n6 : z ≠ "draw" := fun e => h6 (by rw [e])
        rw [if_neg n6] at q1
        walk_at "S"
        refine ⟨_, leadW.map V.str, rfl, .inr (sq_LEADING H1), rfl, flatV_strs _, ?_⟩
        rw [inV_strs]
        walk_at "S"
        refine s_dec (fun h7 => ?_) (fun h7 => ?_)
        · rw [decide_eq_true h7, Bool.true_and] at q1
          walk_at "S"
          refine s_dec (fun h2 => ?_) (fun h2 => ?_)
          · have h2' : ds.length = 2 := by have := V.int.inj h2; rw [List.length_cons, el] at this; omega
            obtain ⟨v, e, d, pt⟩ := at1 1 (by omega)
            walk_at "S"
            refine s_ixT hs1 e ?_
            walk_at "S"
            refine path_arg d pt fun H2 k2 => ?_
            have q2 := q H2 (k1.tr k2)
            rw [if_neg n1, if_neg n2, if_neg h3', if_neg h4', if_neg n5, if_neg n6, decide_eq_true h7, Bool.true_and, decide_eq_true h2', Bool.true_and] at q2
            exact q2
          · have h2' : ¬ ds.length = 2 := fun z => h2 (by rw [List.length_cons, el, z]; rfl)
            rw [decide_eq_false h2', Bool.false_and] at q1
            exact q1
        · rw [decide_eq_false h7, Bool.false_and] at q1
          exact q1
end

def spRowIn (K : PySem.W.Frag) (d : Nat) : Sp := fun vs H Q _ => ∃ (v : V) (x : PyData), vs = [v, .int d] ∧ Dp K H v x ∧ RowG x ∧ ∀ H', Kp [] H H' → Q (.bl (isRowX d x)) H'
def spAreRows (K : PySem.W.Frag) (d : Nat) : Sp := fun vs H Q _ =>
  (∃ (v : V) (xs : List PyData), vs = [v, .int d] ∧ Dp K H v (.tuple xs) ∧ (∀ x ∈ xs, RowG x) ∧ xs.length ≤ 100000 ∧ ∀ H', Kp [] H H' → Q (.bl (xs.all (isRowX d))) H') ∨
  (∃ (x : V) (t : String), vs = [x, .int d] ∧ TyX K H x (.type t) ∧ kitB t "tuple" = some false ∧ Q (.bl false) H)
def spAreRowsP (K : PySem.W.Frag) : Nat → Sp
  | 0 => fun _ _ _ _ => False
  | d + 1 => spAreRows K d
theorem part_words {d : PyData} (h : Part d) : areWordsX d = false := by cases h <;> rfl
theorem words_part {K : PySem.W.Frag} {H : Hp} {v : V} {d : PyData} {Q : VK} {E : XK} (h : Dp K H v d) (p : Part d) (q : Q (.bl false) H) : spAreWords K [v] H Q E := by
  cases p with
  | non => cases h; exact .inr ⟨_, "NoneType", rfl, .base .non, by decide +kernel, q⟩
  | int n => cases h; exact .inr ⟨_, "int", rfl, .base (.int _), by decide +kernel, q⟩
  | str l => cases h; exact .inr ⟨_, "str", rfl, .base (.str _), by decide +kernel, q⟩
theorem isRowX_bare {d : Nat} {z : Str} {ds : List PyData} (h : z ≠ "try") : isRowX d (.tuple (.str z :: ds)) = isBareX z ds := by
  cases d with
  | zero => exact if_neg h
  | succ d => exact if_neg h
theorem isRowX_zero (ds : List PyData) : isRowX 0 (.tuple (.str "try" :: ds)) = false := if_pos rfl
theorem isRowX_try (d : Nat) (ds : List PyData) : isRowX (d + 1) (.tuple (.str "try" :: ds)) = (decide (ds.length = 3) && (areWordsX (nth ds 1) &&
      ((partT 1 (.tuple (.str "try" :: ds))).all (isRowX d) && (partT 3 (.tuple (.str "try" :: ds))).all (isRowX d)))) := if_pos rfl
section
variable {P : Program} {w : World} {K : PySem.W.Frag} {mg : Str → Option Value} {base : Heap}
theorem ok_row_in {d : Nat} {f : Addr} {fd : FuncData} (F : Fun K "is_row_within" "is_row_within" s_is_row_within f fd) (T : Txt K mg )
    (D_is_bare : DnF P w K mg base 3 "is_bare" ["row"] (spIsBare K)) (D_are_words : DnF P w K mg base 3 "are_words" ["thing"] (spAreWords K))
    (D_are_rows : DnF P w K mg base (3 + 2 * d) "are_rows" ["thing", "tries"] (spAreRowsP K d)) :
    FnOk P w K mg base CX0 (3 + 2 * d + 1) f fd ["thing", "tries"] (spRowIn K d) := by
  refine F.ok sc_is_row_within (fun vs H Q E h => ?_) (fun cdv A outer s H vs Q E hr h => ?_)
  · obtain ⟨v, x, rfl, _⟩ := h
    rfl
  · obtain ⟨f_is_bare, fd_is_bare, G_is_bare, m_is_bare, k_is_bare, b_is_bare⟩ := D_is_bare; obtain ⟨f_are_words, fd_are_words, G_are_words, m_are_words, k_are_words, b_are_words⟩ := D_are_words; obtain ⟨f_are_rows, fd_are_rows, G_are_rows, m_are_rows, k_are_rows, b_are_rows⟩ := D_are_rows
    obtain ⟨v, x, rfl, hd, hg, q⟩ := h
    have q0 := q H Kp.refl
    refine ⟨_, (pss_cons (ps_if (PW.pt (pw_or (pt_not (pt_val (pe_callB (isiK (K := K) rfl) (by rfl) T.n_isinstance (by decide +kernel) (pa_cons (pv 0) (pa_cons (pe_bltn (v := .ty "tuple") (by rfl) T.n_tuple (by decide +kernel) rfl) pa_nil))))) (pw_or1 (pt_cmpR op_eq (pe_callB (lenK (K := K) rfl) (by rfl) T.n_len (by decide +kernel) (pa_cons (pv 0) pa_nil)) pe_int (nomark _))))) (pss_one (ps_ret pe_bl)) pss_nil)
      (pss_cons (ps_if (pt_cmpR op_ne (pe_ix (ixTK (K := K) rfl) (pv 0) pe_int (fun _ _ => rfl)) pe_str (nomark _)) (pss_one (ps_ret (pe_call G_is_bare (hr.mono (by first | decide | omega)) (by rfl) m_is_bare k_is_bare b_is_bare .nil pass0 (pa_cons (pv 0) pa_nil)))) pss_nil)
      (pss_cons (ps_if (PW.pt (pw_or (pt_cmpR op_eq (pv 1) pe_int (nomark _)) (pw_or (pt_cmpR op_ne (pe_callB (lenK (K := K) rfl) (by rfl) T.n_len (by decide +kernel) (pa_cons (pv 0) pa_nil)) pe_int (nomark _)) (pw_or1 (pt_not (pt_val (pe_call G_are_words (hr.mono (by first | decide | omega)) (by rfl) m_are_words k_are_words b_are_words .nil pass0 (pa_cons (pe_ix (ixTK (K := K) rfl) (pv 0) pe_int (fun _ _ => rfl)) pa_nil)))))))) (pss_one (ps_ret pe_bl)) pss_nil)
      (pss_one (ps_ret (pe_and (pe_call G_are_rows (hr.mono (by first | decide | omega)) (by rfl) m_are_rows k_are_rows b_are_rows .nil pass0 (pa_cons (pe_ix (ixTK (K := K) rfl) (pv 0) pe_int (fun _ _ => rfl)) (pa_cons (pe_op op_sub (pv 1) pe_int) pa_nil))) (pe_one (pe_call G_are_rows (hr.mono (by first | decide | omega)) (by rfl) m_are_rows k_are_rows b_are_rows .nil pass0 (pa_cons (pe_ix (ixTK (K := K) rfl) (pv 0) pe_int (fun _ _ => rfl)) (pa_cons (pe_op op_sub (pv 1) pe_int) pa_nil)))))))))), ?_⟩
    refine st_start (σ' := [some v, some (.int d)]) rfl ?_
    cases hg with
    | @bare z ds hz hp hl =>
      have hd' := hd
      have ty : TyX K H v (.type "tuple") := Dp.ty hd
      cases hd with
      | tup hs ha =>
        rename_i a vs
        cases ha with
        | cons h0 ht =>
          rename_i v0 vt
          cases h0
          have el : vt.length = ds.length := DpAll.len ht
          have e0 : atI (V.str z :: vt) ((0 : Nat) : Int) = some (.str z) := atI_nat rfl
          walk_at "S"
          refine isi_ty ty (b := true) (by decide +kernel) ?_
          walk_at "S"
          refine s_dec (fun h => absurd (V.int.inj h) (by rw [List.length_cons]; omega)) (fun _ => ?_)
          walk_at "S"
          refine s_ixT hs e0 ?_
          walk_at "S"
          refine s_ndec (fun h1 => ?_) (fun h1 => ?_)
          · walk_at "S"
            refine ⟨_, z, ds, rfl, hd', hp, hl, fun H1 k1 => ?_⟩
            have q1 := q H1 k1
            rw [isRowX_bare fun e => h1 (by rw [e])] at q1
            exact q1
          · have e1 := V.str.inj h1
            subst e1
            walk_at "S"
            refine s_dec (fun h2 => ?_) (fun h2 => ?_)
            · have e2 : d = 0 := by have := V.int.inj h2; omega
              subst e2
              rw [isRowX_zero] at q0
              walk_at "S"
              exact q0
            · obtain ⟨e, rfl⟩ : ∃ e, d = e + 1 := ⟨d - 1, by
                have : d ≠ 0 := fun z => h2 (by rw [z]; rfl)
                omega⟩
              rw [isRowX_try] at q0
              walk_at "S"
              refine s_ndec (fun h3 => ?_) (fun h3 => ?_)
              · have h3' : ¬ ds.length = 3 := fun z => h3 (by rw [List.length_cons, el, z]; rfl)
                rw [decide_eq_false h3', Bool.false_and] at q0
                walk_at "S"
                exact q0
              · have h3' : ds.length = 3 := by have := V.int.inj h3; rw [List.length_cons, el] at this; omega
                obtain ⟨u, eu, du, mu⟩ := dpAll_nth ht 1 (by omega)
                walk_at "S"
                refine s_ixT hs (k := ((2 : Nat) : Int)) (atI_nat eu) ?_
                walk_at "S"
                rw [part_words (hp _ mu), Bool.false_and, Bool.and_false] at q0
                refine words_part du (hp _ mu) ?_
                walk_at "S"
                exact q0
    | @tryr a b ws ga la gw lw gb lb =>
      have ty : TyX K H v (.type "tuple") := Dp.ty hd
      cases hd with
      | tup hs ha =>
        rename_i ad vs
        obtain _ | ⟨h0, _ | ⟨d1, _ | ⟨d2, _ | ⟨d3, h4⟩⟩⟩⟩ := ha
        cases h4
        cases h0
        rename_i v1 v2 v3
        walk_at "S"
        refine isi_ty ty (b := true) (by decide +kernel) ?_
        walk_at "S"
        refine s_dec (fun h => absurd (V.int.inj h) (by simp)) (fun _ => ?_)
        walk_at "S"
        refine s_ndec (fun h1 => absurd rfl h1) (fun _ => ?_)
        walk_at "S"
        refine s_dec (fun h2 => ?_) (fun h2 => ?_)
        · have e2 : d = 0 := by have := V.int.inj h2; omega
          subst e2
          rw [isRowX_zero] at q0
          walk_at "S"
          exact q0
        · obtain ⟨e, rfl⟩ : ∃ e, d = e + 1 := ⟨d - 1, by
            have : d ≠ 0 := fun z => h2 (by rw [z]; rfl)
            omega⟩
          have eq1 : isRowX (e + 1) (.tuple [.str "try", .tuple a, .tuple (ws.map .str), .tuple b]) = (areWordsX (.tuple (ws.map .str)) && (a.all (isRowX e) && b.all (isRowX e))) := by
            rw [isRowX_try]
            exact Bool.true_and _
          have em : (((e + 1 : Nat) : Int)) - 1 = (e : Int) := by omega
          walk_at "S"
          refine s_ndec (fun h => absurd rfl h) (fun _ => ?_)
          walk_at "S"
          refine .inl ⟨v2, ws, rfl, d2, gw, lw, fun H1 k1 => ?_⟩
          have q1 := q H1 k1
          rw [eq1] at q1
          walk_at "S"
          refine s_bool (fun h3 => ?_) (fun h3 => ?_)
          · have h3' : areWordsX (.tuple (ws.map .str)) = false := by simpa using h3
            rw [h3', Bool.false_and] at q1
            walk_at "S"
            exact q1
          · have h3' : areWordsX (.tuple (ws.map .str)) = true := by simpa using h3
            have hs1 := k1.seqT trivial hs
            walk_at "S"
            rw [em]
            refine .inl ⟨v1, a, rfl, Dp.same k1 _ _ d1, ga, la, fun H2 k2 => ?_⟩
            have q2 := q H2 (k1.tr k2)
            rw [eq1, h3', Bool.true_and] at q2
            walk_at "S"
            refine s_bool (fun h4 => ?_) (fun h4 => ?_)
            · have hs2 := k2.seqT trivial hs1
              walk_at "S"
              rw [em]
              refine .inl ⟨v3, b, rfl, Dp.same k2 _ _ (Dp.same k1 _ _ d3), gb, lb, fun H3 k3 => ?_⟩
              have q3 := q H3 ((k1.tr k2).tr k3)
              rw [eq1, h3', Bool.true_and, h4, Bool.true_and] at q3
              exact q3
            · rw [h4, Bool.false_and] at q2
              exact q2
end

section
variable {P : Program} {w : World} {K : PySem.W.Frag} {mg : Str → Option Value} {base : Heap}
theorem ok_are_rows {d : Nat} {f : Addr} {fd : FuncData} (F : Fun K "are_rows" "are_rows" s_are_rows f fd) (T : Txt K mg )
    (D_is_row_within : DnF P w K mg base (3 + 2 * d + 1) "is_row_within" ["thing", "tries"] (spRowIn K d)) :
    FnOk P w K mg base CX0 (3 + 2 * d + 1 + 1) f fd ["thing", "tries"] (spAreRows K d) := by
  refine F.ok sc_are_rows (fun vs H Q E h => ?_) (fun cdv A outer s H vs Q E hr h => ?_)
  · rcases h with ⟨v, xs, rfl, _⟩ | ⟨x, t, rfl, _⟩ <;> rfl
  · obtain ⟨f_is_row_within, fd_is_row_within, G_is_row_within, m_is_row_within, k_is_row_within, b_is_row_within⟩ := D_is_row_within
    rcases h with ⟨v, xs, rfl, hd, hg, hl, q⟩ | ⟨x, t, rfl, ht, hk, q⟩
    · have ty : TyX K H v (.type "tuple") := Dp.ty hd
      cases hd with
      | tup hs ha =>
        rename_i a vs
        have el : vs.length = xs.length := DpAll.len ha
        refine ⟨_, (pss_one (ps_ret (pe_and (pe_callB (isiK (K := K) rfl) (by rfl) T.n_isinstance (by decide +kernel) (pa_cons (pv 0) (pa_cons (pe_bltn (v := .ty "tuple") (by rfl) T.n_tuple (by decide +kernel) rfl) pa_nil))) (pe_one (pe_callB (allK (K := K) rfl rfl) (by rfl) T.n_all (by decide +kernel) (pa_cons (pe_lc (own := [("row", 2)]) (g := gName 2) (tt := tYes) rfl sc_are_rows.nd (kiT (K := K) rfl (pi_tup (pv 0))) (blkOk_by (own := [("row", 2)]) (N := N_are_rows) (sc := (defScope s_are_rows)) (by decide +kernel)) (fun _ _ _ _ _ => (pg_name (i := 2) sc_are_rows.nd rfl (Or.inl rfl))) (fun _ _ _ _ _ => pts_nil) (fun _ _ _ _ _ => (pe_call G_is_row_within (hr.mono (by first | decide | omega)) (by rfl) m_is_row_within k_is_row_within b_is_row_within .nil pass0 (pa_cons (pv 2) (pa_cons (pv 1) pa_nil))))) pa_nil)))))), ?_⟩
        refine st_start (σ' := [some (.ref a), some (.int d), none]) rfl ?_
        walk_at "S"
        refine isi_ty ty (b := true) (by decide +kernel) ?_
        walk_at "S"
        refine ⟨⟨_, hs⟩, fun D hD => ?_⟩
        have L : LcOk D vs.length (fun i => ((xs.map (isRowX d)).map V.bl).take i) [] H (fun _ _ => True) :=
          .ofTake (small_le (by omega)) hD trivial (fun _ _ _ h => h)
        refine lc_go (walk_tup (K := K) (a := a) (xs := vs)) L trivial (fun H2 k2 => k2.seqT trivial hs) (fun i x H2 H' hi I y => ?_) fun H2 I => ?_
        · obtain ⟨rfl, hx⟩ := y
          obtain ⟨u, eu, du, mu⟩ := dpAll_nth ha i (by omega)
          rw [eu] at hx
          cases hx
          have k2 := I.2.1
          walk_at "S"
          refine ⟨rfl, ?_⟩
          walk_at "S"
          refine ⟨x, nth xs i, rfl, Dp.same k2 _ _ du, hg _ mu, fun H3 K3 => ?_⟩
          refine I.put L hi (take_put ?_) K3 trivial
          rw [List.getElem?_map, List.getElem?_map, List.getElem?_eq_getElem (by omega)]
          show some (V.bl (isRowX d xs[i])) = _
          unfold nth
          rw [List.getD_eq_getElem?_getD, List.getElem?_eq_getElem (by omega)]
          rfl
        · obtain ⟨p1, p2, _⟩ := I
          dsimp only at p1
          rw [List.take_of_length_le (by simp; omega)] at p1
          walk_at "S"
          refine s_all (bs := xs.map (isRowX d)) (sq_l p1) ?_
          rw [List.all_map]
          exact q H2 p2
    · refine ⟨_, (pss_one (ps_ret (pe_and (pe_callB (isiK (K := K) rfl) (by rfl) T.n_isinstance (by decide +kernel) (pa_cons (pv 0) (pa_cons (pe_bltn (v := .ty "tuple") (by rfl) T.n_tuple (by decide +kernel) rfl) pa_nil))) (pe_one (pe_callB (allK (K := K) rfl rfl) (by rfl) T.n_all (by decide +kernel) (pa_cons (pe_lc (own := [("row", 2)]) (g := gName 2) (tt := tYes) rfl sc_are_rows.nd (kiT (K := K) rfl (pi_tup (pv 0))) (blkOk_by (own := [("row", 2)]) (N := N_are_rows) (sc := (defScope s_are_rows)) (by decide +kernel)) (fun _ _ _ _ _ => (pg_name (i := 2) sc_are_rows.nd rfl (Or.inl rfl))) (fun _ _ _ _ _ => pts_nil) (fun _ _ _ _ _ => (pe_call G_is_row_within (hr.mono (by first | decide | omega)) (by rfl) m_is_row_within k_is_row_within b_is_row_within .nil pass0 (pa_cons (pv 2) (pa_cons (pv 1) pa_nil))))) pa_nil)))))), ?_⟩
      refine st_start (σ' := [some x, some (.int d), none]) rfl ?_
      walk_at "S"
      refine isi_ty ht hk ?_
      walk_at "S"
      exact q
/-- are_rows, whatever the tries -/
theorem are_rows_all {f_are_rows f_is_row_within : Addr} {fd_are_rows fd_is_row_within : FuncData} (F1 : Fun K "are_rows" "are_rows" s_are_rows f_are_rows fd_are_rows) (F2 : Fun K "is_row_within" "is_row_within" s_is_row_within f_is_row_within fd_is_row_within) (T : Txt K mg )
    (D_is_bare : DnF P w K mg base 3 "is_bare" ["row"] (spIsBare K)) (D_are_words : DnF P w K mg base 3 "are_words" ["thing"] (spAreWords K))
    (m1 : mg "are_rows" = some (.ref f_are_rows)) (k1 : PySem.W.keepIn K (.ref f_are_rows) = true) (b1 : Binds K fd_are_rows ["thing", "tries"] [])
    (m2 : mg "is_row_within" = some (.ref f_is_row_within)) (k2 : PySem.W.keepIn K (.ref f_is_row_within) = true) (b2 : Binds K fd_is_row_within ["thing", "tries"] []) :
    ∀ d : Nat, FnOk P w K mg base CX0 (3 + 2 * d + 1 + 1) f_are_rows fd_are_rows ["thing", "tries"] (spAreRows K d)
  | 0 => ok_are_rows (d := 0) F1 T ⟨_, _, ok_row_in (d := 0) F2 T D_is_bare D_are_words ⟨_, _, ⟨fun _ _ _ _ z => z.elim, fun _ _ _ _ _ _ _ _ _ _ _ _ _ z => z.elim⟩, m1, k1, b1⟩, m2, k2, b2⟩
  | d + 1 => ok_are_rows (d := d + 1) F1 T ⟨_, _, ok_row_in F2 T D_is_bare D_are_words ⟨_, _, are_rows_all F1 F2 T D_is_bare D_are_words m1 k1 b1 m2 k2 b2 d, m1, k1, b1⟩, m2, k2, b2⟩
end

def spCounted (K : PySem.W.Frag) (d : Nat) : Sp := fun vs H Q _ => ∃ (v : V) (xs : List PyData), vs = [v] ∧ Dp K H v (.tuple xs) ∧ (∀ x ∈ xs, RowG x) ∧ xs.all (isRowX d) = true ∧ Q (.int (cnts d xs : Nat)) H
def spCountedP (K : PySem.W.Frag) : Nat → Sp
  | 0 => fun _ _ _ _ => False
  | d + 1 => spCounted K d
/-- what a row is that is judged good -/
theorem row_good {d : Nat} {x : PyData} (g : RowG x) (h : isRowX d x = true) :
    (∃ z ds, x = .tuple (.str z :: ds) ∧ z ≠ "try" ∧ cntRow d x = 1) ∨
    (∃ (e : Nat) (a b : List PyData) (ws : List Str), d = e + 1 ∧ x = .tuple [.str "try", .tuple a, .tuple (ws.map .str), .tuple b] ∧ (∀ y ∈ a, RowG y) ∧ (∀ y ∈ b, RowG y) ∧ a.all (isRowX e) = true ∧ b.all (isRowX e) = true) := by
  cases g with
  | @bare z ds hz hp hl =>
    by_cases c : z = "try"
    · subst c
      cases d with
      | zero => rw [isRowX_zero] at h; cases h
      | succ d =>
        rw [isRowX_try] at h
        simp only [Bool.and_eq_true, decide_eq_true_eq] at h
        obtain ⟨h1, h2, _⟩ := h
        have m : nth ds 1 ∈ ds := by
          unfold nth
          rw [List.getD_eq_getElem?_getD, List.getElem?_eq_getElem (by omega)]
          exact List.getElem_mem _
        rw [part_words (hp _ m)] at h2
        cases h2
    · refine .inl ⟨z, ds, rfl, c, ?_⟩
      cases d with
      | zero => rfl
      | succ d => unfold cntRow; rw [isTry_w _ c]; rfl
  | @tryr a b ws ga la gw lw gb lb =>
    cases d with
    | zero => rw [isRowX_zero] at h; cases h
    | succ d =>
      rw [isRowX_try] at h
      simp only [Bool.and_eq_true] at h
      exact .inr ⟨d, a, b, ws, rfl, rfl, ga, gb, h.2.2.1, h.2.2.2⟩
section
variable {P : Program} {w : World} {K : PySem.W.Frag} {mg : Str → Option Value} {base : Heap}
theorem ok_counted {d : Nat} {f : Addr} {fd : FuncData} (F : Fun K "counted" "counted" s_counted f fd)
    (D_counted : DnF P w K mg base d "counted" ["body"] (spCountedP K d)) :
    FnOk P w K mg base CX0 (d + 1) f fd ["body"] (spCounted K d) := by
  refine F.ok sc_counted (fun vs H Q E h => ?_) (fun cdv A outer s H vs Q E hr h => ?_)
  · obtain ⟨v, xs, rfl, _⟩ := h
    rfl
  · obtain ⟨f_counted, fd_counted, G_counted, m_counted, k_counted, b_counted⟩ := D_counted
    obtain ⟨v, xs, rfl, hd, hg, hb, q⟩ := h
    cases hd with
    | tup hs ha =>
      rename_i a vs
      have el : vs.length = xs.length := DpAll.len ha
      refine ⟨_, (pss_cons (ps_set (i := 1) sc_counted.nd rfl (Or.inl rfl) pe_int)
      (pss_cons (ps_for PassesOwn.never rfl (kiT (K := K) rfl (pi_tup (pv 0))) (pg_name (i := 2) sc_counted.nd rfl (Or.inl rfl)) (pss_cons (ps_set (i := 1) sc_counted.nd rfl (Or.inl rfl) (pe_op op_add (pv 1) pe_int))
      (pss_one (ps_if (pt_cmpR op_eq (pe_ix (ixTK (K := K) rfl) (pv 2) pe_int (fun _ _ => rfl)) pe_str (nomark _)) (pss_one (ps_set (i := 1) sc_counted.nd rfl (Or.inl rfl) (pe_op op_add (pe_op op_add (pv 1) (pe_call G_counted (hr.mono (by first | decide | omega)) (by rfl) m_counted k_counted b_counted .nil pass0 (pa_cons (pe_ix (ixTK (K := K) rfl) (pv 2) pe_int (fun _ _ => rfl)) pa_nil))) (pe_call G_counted (hr.mono (by first | decide | omega)) (by rfl) m_counted k_counted b_counted .nil pass0 (pa_cons (pe_ix (ixTK (K := K) rfl) (pv 2) pe_int (fun _ _ => rfl)) pa_nil))))) pss_nil))))
      (pss_one (ps_ret (pv 1))))), ?_⟩
      refine st_start (σ' := [some (.ref a), none, none]) rfl ?_
      walk_at "S"
      refine ⟨⟨_, hs⟩, ?_⟩
      refine for_go (walk_tup (K := K) (a := a) (xs := vs)) (fun i σ H2 => ∃ o : Option V, σ = [some (.ref a), some (.int (cnts d (xs.take i) : Nat)), o] ∧ H2 = H) ⟨_, rfl, rfl⟩ (fun i σ H2 hi I => by obtain ⟨o, _, rfl⟩ := I; exact hs) (fun i x σ Ha Hb hi I y => ?_) fun σ H2 I => ?_
      · obtain ⟨rfl, hx⟩ := y
        obtain ⟨o, rfl, rfl⟩ := I
        have hi2 : i < xs.length := by omega
        obtain ⟨u, eu, du, mu⟩ := dpAll_nth ha i hi2
        rw [eu] at hx
        cases hx
        have en : xs[i]? = some (nth xs i) := by
          unfold nth
          rw [List.getD_eq_getElem?_getD, List.getElem?_eq_getElem hi2]
          rfl
        have ec : cnts d (xs.take (i + 1)) = cnts d (xs.take i) + cntRow d (nth xs i) := by rw [take_put en, cnts_app, cnts_one]
        have good := row_good (hg _ mu) (List.all_eq_true.mp hb _ mu)
        generalize nth xs i = rw_ at *
        walk_at "S"
        rcases good with ⟨z, ds, rfl, hz, c1⟩ | ⟨e, ra, rb, ws, rfl, rfl, ga, gb, g1, g2⟩
        · cases du with
          | tup hs2 ha2 =>
            cases ha2 with
            | cons h0 ht =>
              cases h0
              refine s_ixT hs2 (k := ((0 : Nat) : Int)) (atI_nat rfl) ?_
              walk_at "S"
              refine s_dec (fun h => absurd (V.str.inj h) hz) (fun _ => ?_)
              walk_at "S"
              have e : (V.int (((cnts d (xs.take i) : Nat) : Int) + 1)) = V.int ((cnts d (xs.take (i + 1)) : Nat) : Int) := by rw [ec, c1]; rfl
              rw [e]
              exact ⟨_, rfl, rfl⟩
        · cases du with
          | tup hs2 ha2 =>
            obtain _ | ⟨h0, _ | ⟨d1, _ | ⟨d2, _ | ⟨d3, h4⟩⟩⟩⟩ := ha2
            cases h4
            cases h0
            walk_at "S"
            refine s_dec (fun _ => ?_) (fun h => absurd rfl h)
            walk_at "S"
            refine ⟨_, ra, rfl, d1, ga, g1, ?_⟩
            walk_at "S"
            refine ⟨_, rb, rfl, d3, gb, g2, ?_⟩
            walk_at "S"
            have en2 : (V.int (((cnts (e + 1) (xs.take i) : Nat) : Int) + 1 + ((cnts e ra : Nat) : Int) + ((cnts e rb : Nat) : Int))) = V.int ((cnts (e + 1) (xs.take (i + 1)) : Nat) : Int) := by
              rw [ec, cntRow_try]
              congr 1
              omega
            rw [en2]
            exact ⟨_, rfl, rfl⟩
      · obtain ⟨o, rfl, rfl⟩ := I
        rw [List.take_of_length_le (by omega)]
        walk_at "S"
        exact q
theorem counted_all {f_counted : Addr} {fd_counted : FuncData} (F : Fun K "counted" "counted" s_counted f_counted fd_counted)
    (m1 : mg "counted" = some (.ref f_counted)) (k1 : PySem.W.keepIn K (.ref f_counted) = true) (b1 : Binds K fd_counted ["body"] []) :
    ∀ d : Nat, FnOk P w K mg base CX0 (d + 1) f_counted fd_counted ["body"] (spCounted K d)
  | 0 => ok_counted (d := 0) F ⟨_, _, ⟨fun _ _ _ _ z => z.elim, fun _ _ _ _ _ _ _ _ _ _ _ _ _ z => z.elim⟩, m1, k1, b1⟩
  | d + 1 => ok_counted (d := d + 1) F ⟨_, _, counted_all F m1 k1 b1 d, m1, k1, b1⟩
def spIsBody (K : PySem.W.Frag) : Sp := fun vs H Q _ =>
  (∃ (v : V) (xs : List PyData), vs = [v] ∧ Dp K H v (.tuple xs) ∧ (∀ x ∈ xs, RowG x) ∧ xs.length ≤ 100000 ∧ ∀ H', Kp [] H H' → Q (.bl (xs.all (isRowX 3) && decide (cnts 3 xs ≤ 40))) H') ∨
  (∃ (x : V) (t : String), vs = [x] ∧ TyX K H x (.type t) ∧ kitB t "tuple" = some false ∧ ∀ H', Kp [] H H' → Q (.bl false) H')
theorem ok_is_body {f : Addr} {fd : FuncData} (F : Fun K "is_body" "is_body" s_is_body f fd) (T : Txt K mg )
    (D_are_rows : DnF P w K mg base 11 "are_rows" ["thing", "tries"] (spAreRows K 3)) (D_counted : DnF P w K mg base 4 "counted" ["body"] (spCounted K 3)) :
    FnOk P w K mg base CX0 12 f fd ["thing"] (spIsBody K) := by
  refine F.ok sc_is_body (fun vs H Q E h => ?_) (fun cdv A outer s H vs Q E hr h => ?_)
  · rcases h with ⟨v, xs, rfl, _⟩ | ⟨x, t, rfl, _⟩ <;> rfl
  · obtain ⟨f_counted, fd_counted, G_counted, m_counted, k_counted, b_counted⟩ := D_counted; obtain ⟨f_are_rows, fd_are_rows, G_are_rows, m_are_rows, k_are_rows, b_are_rows⟩ := D_are_rows; obtain ⟨t_MOST_ROWS, hc_MOST_ROWS⟩ := T.c_MOST_ROWS; obtain ⟨t_MOST_TRIES, hc_MOST_TRIES⟩ := T.c_MOST_TRIES
    rcases h with ⟨v, xs, rfl, hd, hg, hl, q⟩ | ⟨x, t, rfl, ht, hk, q⟩
    · refine ⟨_, (pss_one (ps_ret (pe_and (pe_call G_are_rows (hr.mono (by first | decide | omega)) (by rfl) m_are_rows k_are_rows b_are_rows .nil pass0 (pa_cons (pv 0) (pa_cons (pe_glob (v := .int 3) rfl hc_MOST_TRIES ⟨_, rfl⟩) pa_nil))) (pe_one (pe_cmpR op_le (pe_call G_counted (hr.mono (by first | decide | omega)) (by rfl) m_counted k_counted b_counted .nil pass0 (pa_cons (pv 0) pa_nil)) (pe_glob (v := .int 40) rfl hc_MOST_ROWS ⟨_, rfl⟩) (nomark _)))))), ?_⟩
      refine st_start (σ' := [some v]) rfl ?_
      walk_at "S"
      refine .inl ⟨v, xs, rfl, hd, hg, hl, fun H1 k1 => ?_⟩
      have q1 := q H1 k1
      walk_at "S"
      refine s_bool (fun h => ?_) (fun h => ?_)
      · rw [h, Bool.true_and] at q1
        walk_at "S"
        refine ⟨v, xs, rfl, Dp.same k1 _ _ hd, hg, h, ?_⟩
        walk_at "S"
        rw [show decide (((cnts 3 xs : Nat) : Int) ≤ 40) = decide (cnts 3 xs ≤ 40) from decide_eq_decide.mpr (by omega)]
        exact q1
      · rw [h, Bool.false_and] at q1
        exact q1
    · refine ⟨_, (pss_one (ps_ret (pe_and (pe_call G_are_rows (hr.mono (by first | decide | omega)) (by rfl) m_are_rows k_are_rows b_are_rows .nil pass0 (pa_cons (pv 0) (pa_cons (pe_glob (v := .int 3) rfl hc_MOST_TRIES ⟨_, rfl⟩) pa_nil))) (pe_one (pe_cmpR op_le (pe_call G_counted (hr.mono (by first | decide | omega)) (by rfl) m_counted k_counted b_counted .nil pass0 (pa_cons (pv 0) pa_nil)) (pe_glob (v := .int 40) rfl hc_MOST_ROWS ⟨_, rfl⟩) (nomark _)))))), ?_⟩
      refine st_start (σ' := [some x]) rfl ?_
      walk_at "S"
      refine .inr ⟨x, t, rfl, ht, hk, ?_⟩
      walk_at "S"
      exact q _ Kp.refl
end

def optI : Option Nat → V
  | none => .non
  | some k => .int (k : Nat)
def optS : Option Str → V
  | none => .non
  | some z => .str z
def spBoundBy (K : PySem.W.Frag) : Sp := fun vs H Q _ => ∃ (v : V) (r : PH.Row), vs = [v] ∧ PlainW r ∧ Dp K H v (r.dat 3) ∧ Q (.str (bndR r)) H
def spAimOf (K : PySem.W.Frag) : Sp := fun vs H Q _ => ∃ (v : V) (r : PH.Row), vs = [v] ∧ PlainW r ∧ Dp K H v (r.dat 3) ∧ Q (optS (aimR r)) H
def spAimsOf (K : PySem.W.Frag) : Sp := fun vs H Q _ => ∃ (v : V) (b : List PH.Row), vs = [v] ∧ (∀ r ∈ b, PlainW r) ∧ b.length ≤ 1000 ∧ Dp K H v (.tuple (rowsD b)) ∧ ∀ H' l, Kp [] H H' → H l = none → H' l = some (.lst ((aimsL b).map V.str)) → Q (.ref l) H'
def spFirstRow (K : PySem.W.Frag) : Sp := fun vs H Q _ => ∃ (v : V) (b : List PH.Row) (z : Str), vs = [v, .str z] ∧ (∀ r ∈ b, PlainW r) ∧ b.length ≤ 1000 ∧ Dp K H v (.tuple (rowsD b)) ∧ ∀ H', Kp [] H H' → Q (optI (firstR b z)) H'
section
variable {P : Program} {w : World} {K : PySem.W.Frag} {mg : Str → Option Value} {base : Heap}
theorem ok_bound_by {f : Addr} {fd : FuncData} (F : Fun K "bound_by" "bound_by" s_bound_by f fd) (T : Txt K mg )
     :
    FnOk P w K mg base CX0 1 f fd ["row"] (spBoundBy K) := by
  refine F.ok sc_bound_by (fun vs H Q E h => ?_) (fun cdv A outer s H vs Q E hr h => ?_)
  · obtain ⟨v, r, rfl, _⟩ := h
    rfl
  · obtain ⟨a_BINDING, hc_BINDING, sq_BINDING⟩ := T.c_BINDING
    obtain ⟨v, r, rfl, pw, dv, q⟩ := h
    obtain ⟨t, rfl, st⟩ := row_sq pw dv
    refine ⟨_, (pss_cons (ps_if (pt_cmpR (inK (K := K) rfl) (pe_ix (ixTK (K := K) rfl) (pv 0) pe_int (fun _ _ => rfl)) (pe_glob (v := .ref a_BINDING) rfl hc_BINDING rfl) (by rfl)) (pss_one (ps_ret (pe_ix (ixTK (K := K) rfl) (pv 0) pe_int (fun _ _ => rfl)))) pss_nil)
      (pss_one (ps_ret pe_non))), ?_⟩
    refine st_start (σ' := [some (.ref t)]) rfl ?_
    cases r <;> first | exact pw.elim | (
      unfold rowV at st
      walk_at "S"
      refine ⟨a_BINDING, (["set", "now", "take", "draw", "late", "ask"] : List Str).map V.str, rfl, .inr (sq_BINDING _), rfl, flatV_strs _, ?_⟩
      rw [inV_strs]
      walk_at "S"
      rw [if_pos (by decide +kernel)]
      walk_at "S"
      exact q)
theorem ok_aim_of {f : Addr} {fd : FuncData} (F : Fun K "aim_of" "aim_of" s_aim_of f fd) (T : Txt K mg )
     :
    FnOk P w K mg base CX0 1 f fd ["row"] (spAimOf K) := by
  refine F.ok sc_aim_of (fun vs H Q E h => ?_) (fun cdv A outer s H vs Q E hr h => ?_)
  · obtain ⟨v, r, rfl, _⟩ := h
    rfl
  · obtain ⟨a_AIMING_WORDS, hc_AIMING_WORDS, sq_AIMING_WORDS⟩ := T.c_AIMING_WORDS
    obtain ⟨v, r, rfl, pw, dv, q⟩ := h
    obtain ⟨t, rfl, st⟩ := row_sq pw dv
    refine ⟨_, (pss_cons (ps_if (pt_cmpR (inK (K := K) rfl) (pe_ix (ixTK (K := K) rfl) (pv 0) pe_int (fun _ _ => rfl)) (pe_glob (v := .ref a_AIMING_WORDS) rfl hc_AIMING_WORDS rfl) (by rfl)) (pss_one (ps_ret (pe_ix (ixTK (K := K) rfl) (pv 0) pe_int (fun _ _ => rfl)))) pss_nil)
      (pss_one (ps_ret pe_non))), ?_⟩
    refine st_start (σ' := [some (.ref t)]) rfl ?_
    cases r <;> first | exact pw.elim | (
      unfold rowV at st
      walk_at "S"
      refine ⟨a_AIMING_WORDS, (["take", "draw"] : List Str).map V.str, rfl, .inr (sq_AIMING_WORDS _), rfl, flatV_strs _, ?_⟩
      rw [inV_strs]
      walk_at "S"
      first
        | (rw [if_pos (by decide +kernel)]
           walk_at "S"
           exact q)
        | (rw [if_neg (by decide +kernel)]
           walk_at "S"
           exact q))
theorem aimsL_put {b : List PH.Row} {i : Nat} {r : PH.Row} (e : b[i]? = some r) : aimsL (b.take (i + 1)) = aimsL (b.take i) ++ (aimR r).toList := by
  unfold aimsL
  rw [take_put e, List.filterMap_append, List.filterMap_cons]
  cases aimR r <;> rfl
theorem ok_aims_of {f : Addr} {fd : FuncData} (F : Fun K "aims_of" "aims_of" s_aims_of f fd) (T : Txt K mg )
    (D_aim_of : DnF P w K mg base 1 "aim_of" ["row"] (spAimOf K)) :
    FnOk P w K mg base CX0 2 f fd ["rows"] (spAimsOf K) := by
  refine F.ok sc_aims_of (fun vs H Q E h => ?_) (fun cdv A outer s H vs Q E hr h => ?_)
  · obtain ⟨v, b, rfl, _⟩ := h
    rfl
  · obtain ⟨f_aim_of, fd_aim_of, G_aim_of, m_aim_of, k_aim_of, b_aim_of⟩ := D_aim_of
    obtain ⟨v, b, rfl, pw, lb, dv, q⟩ := h
    obtain ⟨tb, vs, rfl, stb, dvs⟩ : ∃ tb vs, v = .ref tb ∧ SqT K H tb vs ∧ DpAll K H vs (rowsD b) := by
      cases dv with
      | tup h d => exact ⟨_, _, rfl, h, d⟩
    have lvs : vs.length = b.length := by rw [HL.DpAll.len dvs]; exact List.length_map ..
    refine ⟨_, (pss_one (ps_ret (pe_lc (own := [("row", 1)]) (g := gName 1) rfl sc_aims_of.nd (kiT (K := K) rfl (pi_tup (pv 0))) (blkOk_by (own := [("row", 1)]) (N := N_aims_of) (sc := (defScope s_aims_of)) (by decide +kernel)) (fun _ _ _ _ _ => (pg_name (i := 1) sc_aims_of.nd rfl (Or.inl rfl))) (fun _ _ _ _ _ => (pts_one (pt_cmpR op_notN (pe_call G_aim_of (hr.mono (by first | decide | omega)) (by rfl) m_aim_of k_aim_of b_aim_of .nil pass0 (pa_cons (pv 1) pa_nil)) pe_non (nomark _)))) (fun _ _ _ _ _ => (pe_call G_aim_of (hr.mono (by first | decide | omega)) (by rfl) m_aim_of k_aim_of b_aim_of .nil pass0 (pa_cons (pv 1) pa_nil)))))), ?_⟩
    refine st_start (σ' := [some (.ref tb), none]) rfl ?_
    walk_at "S"
    refine ⟨⟨_, stb⟩, fun D hD => ?_⟩
    have LC : LcOk D vs.length (fun i => (aimsL (b.take i)).map V.str) [] H (fun _ _ => True) := ⟨small_le (by omega), rfl, fun i hi => by
      rw [List.length_map]
      refine Nat.le_trans (List.length_filterMap_le _ _) ?_
      rw [List.length_take]
      omega, hD, trivial, fun _ _ _ h => h⟩
    refine lc_go (walk_tup (K := K) (a := tb) (xs := vs)) LC trivial (fun Hq kq => kq.seqT trivial stb) (fun i x Ha Hb hi Ib y => ?_) fun H4 I4 => ?_
    · obtain ⟨rfl, hx⟩ := y
      obtain ⟨e, ee, de⟩ := dpAll_get dvs hx
      have hib : i < b.length := by omega
      have eb := List.getElem?_eq_getElem hib
      have mb := List.getElem_mem hib
      generalize b[i] = r at eb mb
      rw [List.getElem?_map, eb] at ee
      obtain rfl : r.dat 3 = e := Option.some.inj ee
      have de := Dp.same Ib.2.1 _ _ de
      have acc := aimsL_put eb
      walk_at "S"
      refine ⟨rfl, ?_⟩
      walk_at "S"
      refine ⟨x, r, rfl, pw r mb, de, ?_⟩
      walk_at "S"
      cases ea : aimR r with
      | none =>
        rw [show optS none = V.non from rfl, if_neg (by simp)]
        refine Ib.skip LC ?_ Kp.refl trivial
        rw [acc, ea]
        show List.map V.str (_ ++ []) = _
        rw [List.append_nil]
      | some z =>
        rw [show optS (some z) = V.str z from rfl, if_pos (by simp)]
        walk_at "S"
        refine ⟨x, r, rfl, pw r mb, de, ?_⟩
        rw [ea]
        refine Ib.put LC hi ?_ Kp.refl trivial
        rw [acc, ea, List.map_append]
        rfl
    · obtain ⟨x4, k4, _⟩ := I4
      dsimp only at x4
      rw [List.take_of_length_le (by omega)] at x4
      walk_at "S"
      exact q _ D k4 hD x4
theorem firstR_step {b : List PH.Row} {z : Str} {i : Nat} {r : PH.Row} (h : firstR (b.take i) z = none) (e : b[i]? = some r) : (bndR r = z → firstR b z = some i) ∧ (bndR r ≠ z → firstR (b.take (i + 1)) z = none) := by
  unfold firstR at h ⊢
  have hn := List.findIdx?_eq_none_iff.mp h
  refine ⟨fun c => ?_, fun c => ?_⟩
  · rw [List.findIdx?_eq_some_iff_getElem]
    obtain ⟨li, ei⟩ := List.getElem?_eq_some_iff.mp e
    refine ⟨li, by rw [ei]; exact decide_eq_true c, fun j hj => ?_⟩
    have := hn b[j] (List.mem_take_iff_getElem.mpr ⟨j, by omega, rfl⟩)
    rw [this]
    simp
  · rw [List.findIdx?_eq_none_iff]
    intro x hx
    rw [take_put e] at hx
    rcases List.mem_append.mp hx with hx | hx
    · exact hn x hx
    · rw [List.mem_singleton.mp hx]
      exact decide_eq_false c
theorem ok_first_row {f : Addr} {fd : FuncData} (F : Fun K "first_row" "first_row" s_first_row f fd) (T : Txt K mg )
    (D_bound_by : DnF P w K mg base 1 "bound_by" ["row"] (spBoundBy K)) :
    FnOk P w K mg base CX0 2 f fd ["body", "name"] (spFirstRow K) := by
  refine F.ok sc_first_row (fun vs H Q E h => ?_) (fun cdv A outer s H vs Q E hr h => ?_)
  · obtain ⟨v, b, z, rfl, _⟩ := h
    rfl
  · obtain ⟨f_bound_by, fd_bound_by, G_bound_by, m_bound_by, k_bound_by, b_bound_by⟩ := D_bound_by
    obtain ⟨v, b, z, rfl, pw, lb, dv, q⟩ := h
    obtain ⟨tb, vs, rfl, stb, dvs⟩ : ∃ tb vs, v = .ref tb ∧ SqT K H tb vs ∧ DpAll K H vs (rowsD b) := by
      cases dv with
      | tup h d => exact ⟨_, _, rfl, h, d⟩
    have lvs : vs.length = b.length := by rw [HL.DpAll.len dvs]; exact List.length_map ..
    refine ⟨_, (pss_cons (ps_for PassesOwn.never rfl (pi_enumT (K := K) rfl (by rfl) T.n_enumerate (pa_cons (pv 0) pa_nil)) (kgT (K := K) rfl (pg_tup rfl (pgs_cons (pg_name (i := 2) sc_first_row.nd rfl (Or.inl rfl)) (pgs_cons (pg_name (i := 3) sc_first_row.nd rfl (Or.inl rfl)) pgs_nil)))) (pss_one (ps_if (pt_cmpR op_eq (pe_call G_bound_by (hr.mono (by first | decide | omega)) (by rfl) m_bound_by k_bound_by b_bound_by .nil pass0 (pa_cons (pv 3) pa_nil)) (pv 1) (nomark _)) (pss_one (ps_ret (pv 2))) pss_nil)))
      (pss_one (ps_ret pe_non))), ?_⟩
    refine st_start (σ' := [some (.ref tb), some (.str z), none, none]) rfl ?_
    walk_at "S"
    refine s_iEnumT ?_
    walk_at "S"
    refine ⟨tb, vs, rfl, stb, ?_⟩
    refine for_go (walk_enumT (K := K) (a := tb) (xs := vs)) (fun i σ Hi => ∃ o2 o3 : Option V, σ = [some (.ref tb), some (.str z), o2, o3] ∧ Kp [] H Hi ∧ firstR (b.take i) z = none)
      ⟨_, _, rfl, Kp.refl, rfl⟩ (fun i σ Hi _ I => by obtain ⟨_, _, rfl, k, _⟩ := I; exact k.seqT trivial stb) (fun i x σ Ha Hb hi I y => ?_) fun σ Hb I => ?_
    · obtain ⟨t, kx, vx, rfl, nt, rfl, y1, y2⟩ := y
      obtain ⟨o2, o3, rfl, kk, no⟩ := I
      dsimp only at y1 y2
      obtain rfl : V.int (i : Nat) = kx := Option.some.inj y1
      obtain ⟨e, ee, de⟩ := dpAll_get dvs y2
      have hib : i < b.length := by omega
      have eb := List.getElem?_eq_getElem hib
      have mb := List.getElem_mem hib
      generalize b[i] = r at eb mb
      rw [List.getElem?_map, eb] at ee
      obtain rfl : r.dat 3 = e := Option.some.inj ee
      have kt := kp_new (o := .tup [.int (i : Nat), vx]) nt
      have de := Dp.same (kk.tr kt) _ _ de
      obtain ⟨f1, f2⟩ := firstR_step no eb
      refine s_gtup (sq_t upd_same) rfl ?_
      walk_at "S"
      refine ⟨vx, r, rfl, pw r mb, de, ?_⟩
      walk_at "S"
      by_cases c : bndR r = z
      · rw [if_pos (by rw [c]; simp)]
        walk_at "S"
        have := q _ (kk.tr kt)
        rw [f1 c] at this
        exact this
      · rw [if_neg (by simp [c])]
        walk_at "S"
        exact ⟨_, _, rfl, kk.tr kt, f2 c⟩
    · obtain ⟨o2, o3, rfl, kk, no⟩ := I
      rw [List.take_of_length_le (by omega)] at no
      walk_at "S"
      have := q _ kk
      rw [no] at this
      exact this
end

def spMayStand (K : PySem.W.Frag) : Sp := fun vs H Q _ => ∃ (S : Addr) (kvs : List (Key × V)) (st : Shelf) (v : V) (r : PH.Row), vs = [.ref S, v] ∧ Plain K H S kvs st ∧ Dp K H v (r.dat 3) ∧ PlainR st r ∧ ∀ H', Kp [] H H' → Q (.bl true) H'
def spIsPlain (K : PySem.W.Frag) : Sp := fun vs H Q _ => ∃ (S : Addr) (kvs : List (Key × V)) (st : Shelf), vs = [.ref S] ∧ Plain K H S kvs st ∧ ∀ H', Kp [] H H' → Q (.bl true) H'
def spWantPlain (K : PySem.W.Frag) : Sp := fun vs H Q _ => ∃ (S : Addr) (kvs : List (Key × V)) (st : Shelf), vs = [.ref S] ∧ Plain K H S kvs st ∧ ∀ H', Kp [] H H' → Q .non H'
section
variable {P : Program} {w : World} {K : PySem.W.Frag} {mg : Str → Option Value} {base : Heap}
theorem ok_may_stand {f : Addr} {fd : FuncData} (F : Fun K "may_stand" "may_stand" s_may_stand f fd) (T : Txt K mg )
    (D_aim_of : DnF P w K mg base 1 "aim_of" ["row"] (spAimOf K)) (D_first_row : DnF P w K mg base 2 "first_row" ["body", "name"] (spFirstRow K)) :
    FnOk P w K mg base CX0 3 f fd ["stock", "row"] (spMayStand K) := by
  refine F.ok sc_may_stand (fun vs H Q E h => ?_) (fun cdv A outer s H vs Q E hr h => ?_)
  · obtain ⟨S, kvs, st, v, r, rfl, _⟩ := h
    rfl
  · obtain ⟨f_aim_of, fd_aim_of, G_aim_of, m_aim_of, k_aim_of, b_aim_of⟩ := D_aim_of; obtain ⟨f_first_row, fd_first_row, G_first_row, m_first_row, k_first_row, b_first_row⟩ := D_first_row; obtain ⟨a_PLAIN_WORDS, hc_PLAIN_WORDS, sq_PLAIN_WORDS⟩ := T.c_PLAIN_WORDS
    obtain ⟨S, kvs, st, v, r, rfl, PL, dv, pr, q⟩ := h
    have hu := hu_of hr
    have pw := pr.w
    obtain ⟨t, rfl, sq⟩ := row_sq pw dv
    refine ⟨_, (pss_cons (ps_if (pt_cmpR (ninK (K := K) rfl) (pe_ix (ixTK (K := K) rfl) (pv 1) pe_int (fun _ _ => rfl)) (pe_glob (v := .ref a_PLAIN_WORDS) rfl hc_PLAIN_WORDS rfl) (by rfl)) (pss_one (ps_ret pe_bl)) pss_nil)
      (pss_cons (ps_set (i := 2) sc_may_stand.nd rfl (Or.inl rfl) (pe_call G_aim_of (hr.mono (by first | decide | omega)) (by rfl) m_aim_of k_aim_of b_aim_of .nil pass0 (pa_cons (pv 1) pa_nil)))
      (pss_cons (ps_if (pt_cmpR op_isN (pv 2) pe_non (nomark _)) (pss_one (ps_ret pe_bl)) pss_nil)
      (pss_cons (ps_if (pt_cmp (pc_dnotin hu (pv 2) (pv 0))) (pss_one (ps_ret pe_bl)) pss_nil)
      (pss_one (ps_ret (pe_or (pe_cmpR op_eq (pe_ix (ixTK (K := K) rfl) (pv 1) pe_int (fun _ _ => rfl)) pe_str (nomark _)) (pe_one (pe_cmpR op_notN (pe_call G_first_row (hr.mono (by first | decide | omega)) (by rfl) m_first_row k_first_row b_first_row .nil pass0 (pa_cons (pe_dget hu (pv 0) (pv 2) (fun _ _ => rfl)) (pa_cons (pe_ix (ixTK (K := K) rfl) (pv 1) pe_int (fun _ _ => rfl)) pa_nil))) pe_non (nomark _)))))))))), ?_⟩
    refine st_start (σ' := [some (.ref S), some (.ref t), none]) rfl ?_
    cases r <;> first | exact pw.elim | skip
    all_goals
      unfold rowV at sq
      walk_at "S"
      refine ⟨a_PLAIN_WORDS, (["set", "late", "take", "draw"] : List Str).map V.str, rfl, .inr (sq_PLAIN_WORDS _), rfl, flatV_strs _, ?_⟩
      rw [inV_strs]
      walk_at "S"
      rw [if_neg (by decide +kernel)]
      walk_at "S"
      refine ⟨_, _, rfl, pw, dv, ?_⟩
      walk_at "S"
    · rw [show optS (aimR (PH.Row.set _ _)) = V.non from rfl, if_pos (by simp)]
      walk_at "S"
      exact q _ Kp.refl
    · rw [show optS (aimR (PH.Row.take _ _)) = V.str _ from rfl, if_neg (by simp)]
      rename_i x p
      walk_at "S"
      obtain ⟨b, eb, mb⟩ := PL.ok.get pr.2.2
      obtain ⟨vb, gv, dvb⟩ := PL.at_.get eb
      refine s_inR PL.at_.rd ?_
      rw [gv]
      walk_at "S"
      rw [if_neg (by simp)]
      walk_at "S"
      exact q _ Kp.refl
    · rename_i x p y
      rw [show optS (aimR (PH.Row.draw _ _ _)) = V.str _ from rfl, if_neg (by simp)]
      obtain ⟨b, eb, my⟩ := pr.2.2.2
      obtain ⟨vb, gv, dvb⟩ := PL.at_.get eb
      walk_at "S"
      refine s_inR PL.at_.rd ?_
      rw [gv]
      walk_at "S"
      rw [if_neg (by simp)]
      walk_at "S"
      rw [if_neg (by decide +kernel)]
      walk_at "S"
      refine s_getR PL.at_.rd gv ?_
      walk_at "S"
      obtain ⟨w1, w2⟩ := PL.ok.pw eb
      refine ⟨vb, b, y, rfl, w1, by omega, dvb, fun H1 k1 => ?_⟩
      obtain ⟨k, ek⟩ := firstR_some my
      rw [ek]
      walk_at "S"
      have := q H1 k1
      simpa [optI] using this
    · rw [show optS (aimR (PH.Row.late _ _)) = V.non from rfl, if_pos (by simp)]
      walk_at "S"
      exact q _ Kp.refl
theorem lcTrue {n : Nat} : (List.replicate n true).all id = true := List.all_eq_true.mpr fun b hb => List.eq_of_mem_replicate hb
theorem ok_is_plain {f : Addr} {fd : FuncData} (F : Fun K "is_plain" "is_plain" s_is_plain f fd) (T : Txt K mg )
    (D_is_name : DnF P w K mg base 1 "is_name" ["thing"] (spIsName K)) (D_is_body : DnF P w K mg base 12 "is_body" ["thing"] (spIsBody K)) (D_may_stand : DnF P w K mg base 3 "may_stand" ["stock", "row"] (spMayStand K)) :
    FnOk P w K mg base CX0 13 f fd ["thing"] (spIsPlain K) := by
  refine F.ok sc_is_plain (fun vs H Q E h => ?_) (fun cdv A outer s H vs Q E hr h => ?_)
  · obtain ⟨S, kvs, st, rfl, _⟩ := h
    rfl
  · obtain ⟨f_is_name, fd_is_name, G_is_name, m_is_name, k_is_name, b_is_name⟩ := D_is_name; obtain ⟨f_is_body, fd_is_body, G_is_body, m_is_body, k_is_body, b_is_body⟩ := D_is_body; obtain ⟨f_may_stand, fd_may_stand, G_may_stand, m_may_stand, k_may_stand, b_may_stand⟩ := D_may_stand
    obtain ⟨S, kvs, st, rfl, PL, q⟩ := h
    have hu := hu_of hr
    have few : kvs.length ≤ 16 := by rw [PL.at_.nm.len]; exact PL.ok.few
    refine ⟨_, (pss_cons (ps_if (PW.pt (pw_or (pt_not (pt_val (pe_callB (isiK (K := K) rfl) (by rfl) T.n_isinstance (by decide +kernel) (pa_cons (pv 0) (pa_cons (pe_bltn (v := .ty "dict") (by rfl) T.n_dict (by decide +kernel) rfl) pa_nil))))) (pw_or1 (pt_not (pt_val (pe_callB (allK (K := K) rfl rfl) (by rfl) T.n_all (by decide +kernel) (pa_cons (pe_lockR (pe_lc (own := [("name", 2)]) (g := gName 2) (tt := tYes) rfl sc_is_plain.nd (pi_keys (pv 0)) (blkOk_by (own := [("name", 2)]) (N := N_is_plain) (sc := (defScope s_is_plain)) (by decide +kernel)) (fun _ _ _ _ _ => (pg_name (i := 2) sc_is_plain.nd rfl (Or.inl rfl))) (fun _ _ _ _ _ => pts_nil) (fun _ _ _ _ _ => (pe_call G_is_name (hr.mono (by first | decide | omega)) (by rfl) m_is_name k_is_name b_is_name .nil pass0 (pa_cons (pv 2) pa_nil))))) pa_nil))))))) (pss_one (ps_ret pe_bl)) pss_nil)
      (pss_cons (ps_if (pt_not (pt_val (pe_callB (allK (K := K) rfl rfl) (by rfl) T.n_all (by decide +kernel) (pa_cons (pe_lockR (pe_lc (own := [("body", 1)]) (g := gName 1) (tt := tYes) rfl sc_is_plain.nd (pi_values (pv 0)) (blkOk_by (own := [("body", 1)]) (N := N_is_plain) (sc := (defScope s_is_plain)) (by decide +kernel)) (fun _ _ _ _ _ => (pg_name (i := 1) sc_is_plain.nd rfl (Or.inl rfl))) (fun _ _ _ _ _ => pts_nil) (fun _ _ _ _ _ => (pe_call G_is_body (hr.mono (by first | decide | omega)) (by rfl) m_is_body k_is_body b_is_body .nil pass0 (pa_cons (pv 1) pa_nil))))) pa_nil)))) (pss_one (ps_ret pe_bl)) pss_nil)
      (pss_cons (ps_lockR (ps_for PassesOwn.never rfl (pi_values (pv 0)) (pg_name (i := 1) sc_is_plain.nd rfl (Or.inl rfl)) (pss_one (ps_if (pt_not (pt_val (pe_callB (allK (K := K) rfl rfl) (by rfl) T.n_all (by decide +kernel) (pa_cons (pe_lc (own := [("row", 3)]) (g := gName 3) (tt := tYes) rfl sc_is_plain.nd (kiT (K := K) rfl (pi_tup (pv 1))) (blkOk_by (own := [("row", 3)]) (N := N_is_plain) (sc := (defScope s_is_plain)) (by decide +kernel)) (fun _ _ _ _ _ => (pg_name (i := 3) sc_is_plain.nd rfl (Or.inl rfl))) (fun _ _ _ _ _ => pts_nil) (fun _ _ _ _ _ => (pe_call G_may_stand (hr.mono (by first | decide | omega)) (by rfl) m_may_stand k_may_stand b_may_stand .nil pass0 (pa_cons (pv 0) (pa_cons (pv 3) pa_nil))))) pa_nil)))) (pss_one (ps_ret pe_bl)) pss_nil))))
      (pss_one (ps_ret pe_bl))))), ?_⟩
    refine st_start (σ' := [some (.ref S), none, none, none]) rfl ?_
    walk_at "S"
    have ty : TyX K H (.ref S) (.type "dict") := PL.at_.rd.elim (fun e => .base (.dK e)) fun ⟨o, e⟩ => .fDict e
    refine isi_ty ty (b := true) (by decide +kernel) ?_
    walk_at "S"
    refine s_lockRE PL.at_.rd trivial fun w0 hw0 _ ob => ?_
    obtain ⟨P1, kl, tl_⟩ := PL.at_.lock ob
    have el : upd H S (.frz ob (.dK kvs)) S = some (.frz ob (.dK kvs)) := upd_same
    generalize upd H S (.frz ob (.dK kvs)) = Hl at *
    walk_at "S"
    refine s_iKeys ?_
    walk_at "S"
    refine ⟨S, ob, rfl, .inl ⟨_, el, fun E2 hE2 => ?_⟩⟩
    have LE : LcOk E2 kvs.length (fun i => (List.replicate kvs.length (V.bl true)).take i) [] Hl (fun _ _ => True) := .ofTake (small_le (by omega)) hE2 trivial (fun _ _ _ h => h)
    refine lc_go walk_keys LE trivial (fun (Hq : Hp) (kq : Kp [] Hl Hq) => kq.get trivial el) (fun i2 x Hp2 Hb hi2 Ib yb => ?_) fun He Ie => ?_
    · obtain ⟨rfl, k, v, ek, rfl⟩ := yb
      obtain ⟨⟨z, bz⟩, ez, e1, dz⟩ := pairG' P1.nm ek
      have hz : NmOk z := PL.ok.key _ (List.mem_of_getElem? ez)
      have e1 : k = Sum.inr z := e1
      subst e1
      have lz := (isNameL_len hz).2
      walk_at "S"
      refine ⟨rfl, ?_⟩
      walk_at "S"
      refine .inl ⟨z, rfl, by rw [len_tl]; omega, fun H4 k4 => ?_⟩
      rw [show isNameL (tl z) = true from hz]
      exact Ib.put LE hi2 (take_put (by rw [List.getElem?_replicate, if_pos hi2])) k4 trivial
    obtain ⟨pe, ke, _⟩ := Ie
    dsimp only at pe
    rw [List.take_of_length_le (by rw [List.length_replicate]; exact Nat.le_refl _)] at pe
    refine ⟨ke.get trivial el, ?_⟩
    have k1 : Kp [] H (upd He S w0) := Kp.unlockR hw0 (kl.tr (Kp.nil_W ke))
    have pe2 : upd He S w0 E2 = some (.lst (List.replicate kvs.length (V.bl true))) := (upd_ne fun e => by rw [e, el] at hE2; cases hE2).trans pe
    have PL1 := PL.same k1
    generalize upd He S w0 = H1 at *
    walk_at "S"
    refine s_all (bs := List.replicate kvs.length true) (sq_l (by rw [pe2, List.map_replicate])) ?_
    rw [lcTrue]
    walk_at "S"
    clear hw0 el kl tl_ P1 pe ke
    refine s_lockRE PL1.at_.rd trivial fun w1 hw1 _ ob1 => ?_
    obtain ⟨P1, kl, tl_⟩ := PL1.at_.lock ob1
    have el : upd H1 S (.frz ob1 (.dK kvs)) S = some (.frz ob1 (.dK kvs)) := upd_same
    generalize upd H1 S (.frz ob1 (.dK kvs)) = Hm at *
    walk_at "S"
    refine s_iVals ?_
    walk_at "S"
    refine ⟨S, ob1, _, rfl, el, fun E3 hE3 => ?_⟩
    have LE : LcOk E3 kvs.length (fun i => (List.replicate kvs.length (V.bl true)).take i) [] Hm (fun _ _ => True) := .ofTake (small_le (by omega)) hE3 trivial (fun _ _ _ h => h)
    refine lc_go walk_values LE trivial (fun (Hq : Hp) (kq : Kp [] Hm Hq) => kq.get trivial el) (fun i2 x Hp2 Hb hi2 Ib yb => ?_) fun He Ie => ?_
    · obtain ⟨rfl, k, ek⟩ := yb
      obtain ⟨⟨z, bz⟩, ez, e1, dz⟩ := pairG' P1.nm ek
      have hz := (PL.ok.body (List.mem_of_getElem? ez)).good
      have dv2 := Dp.same Ib.2.1 _ _ dz
      walk_at "S"
      refine ⟨rfl, ?_⟩
      walk_at "S"
      refine .inl ⟨x, rowsD bz, rfl, dv2, hz.1, hz.2.1, fun H4 k4 => ?_⟩
      rw [hz.2.2]
      exact Ib.put LE hi2 (take_put (by rw [List.getElem?_replicate, if_pos hi2])) k4 trivial
    obtain ⟨pe, ke, _⟩ := Ie
    dsimp only at pe
    rw [List.take_of_length_le (by rw [List.length_replicate]; exact Nat.le_refl _)] at pe
    refine ⟨ke.get trivial el, ?_⟩
    have k2 : Kp [] H1 (upd He S w1) := Kp.unlockR hw1 (kl.tr (Kp.nil_W ke))
    have pe2 : upd He S w1 E3 = some (.lst (List.replicate kvs.length (V.bl true))) := (upd_ne fun e => by rw [e, el] at hE3; cases hE3).trans pe
    have PL2 := PL1.same k2
    generalize upd He S w1 = H2 at *
    walk_at "S"
    refine s_all (bs := List.replicate kvs.length true) (sq_l (by rw [pe2, List.map_replicate])) ?_
    rw [lcTrue]
    walk_at "S"
    clear hw1 el kl tl_ P1 pe ke
    refine s_lockR PL2.at_.rd trivial fun w2 hw2 _ ob2 => ?_
    obtain ⟨P1, kl, tl_⟩ := PL2.at_.lock ob2
    have el : upd H2 S (.frz ob2 (.dK kvs)) S = some (.frz ob2 (.dK kvs)) := upd_same
    generalize upd H2 S (.frz ob2 (.dK kvs)) = Hn at *
    walk_at "S"
    refine s_iVals ?_
    walk_at "S"
    refine ⟨S, ob2, _, rfl, el, ?_⟩
    refine for_go walk_values (fun i σ Hi => ∃ o1 o3 : Option V, σ = [some (.ref S), o1, none, none] ∧ Kp [] Hn Hi)
      ⟨_, none, rfl, Kp.refl⟩ (fun i σ Hi _ I => by obtain ⟨_, _, rfl, k⟩ := I; exact k.get trivial el) (fun i x σ Ha Hb hi I yb => ?_) fun σ Hb I => ?_
    · obtain ⟨rfl, k, ek⟩ := yb
      obtain ⟨o1, o3, rfl, kk⟩ := I
      obtain ⟨⟨z, bz⟩, ez, e1, dz⟩ := pairG' P1.nm ek
      have mz := List.mem_of_getElem? ez
      have dv2 := Dp.same kk _ _ dz
      obtain ⟨tb, vs, rfl, stb, dvs⟩ : ∃ tb vs, x = .ref tb ∧ SqT K Hb tb vs ∧ DpAll K Hb vs (rowsD bz) := by
        cases dv2 with
        | tup h d => exact ⟨_, _, rfl, h, d⟩
      have lvs : vs.length = bz.length := by rw [HL.DpAll.len dvs]; exact List.length_map ..
      have lb := PL.ok.len _ mz
      have lb : bz.length ≤ 40 := lb
      have Pb : Plain K Hb S kvs st := ⟨P1.same kk, PL.ok⟩
      walk_at "S"
      refine ⟨⟨_, stb⟩, fun D hD => ?_⟩
      have LC : LcOk D vs.length (fun i => (List.replicate vs.length (V.bl true)).take i) [] Hb (fun _ _ => True) := .ofTake (small_le (by omega)) hD trivial (fun _ _ _ h => h)
      refine lc_go (walk_tup (K := K) (a := tb) (xs := vs)) LC trivial (fun Hq kq => kq.seqT trivial stb) (fun j y Hc Hd hj Ib yy => ?_) fun H4 I4 => ?_
      · obtain ⟨rfl, hx⟩ := yy
        obtain ⟨e, ee, de⟩ := dpAll_get dvs hx
        have hib : j < bz.length := by omega
        have eb := List.getElem?_eq_getElem hib
        have mb := List.getElem_mem hib
        generalize bz[j] = r at eb mb
        rw [List.getElem?_map, eb] at ee
        obtain rfl : r.dat 3 = e := Option.some.inj ee
        have de := Dp.same Ib.2.1 _ _ de
        walk_at "S"
        refine ⟨rfl, ?_⟩
        walk_at "S"
        refine ⟨S, kvs, st, y, r, rfl, Pb.same Ib.2.1, de, PL.ok.row _ mz r mb, fun H5 k5 => ?_⟩
        exact Ib.put LC hj (take_put (by rw [List.getElem?_replicate, if_pos hj])) k5 trivial
      · obtain ⟨x4, k4, _⟩ := I4
        dsimp only at x4
        rw [List.take_of_length_le (by rw [List.length_replicate]; exact Nat.le_refl _)] at x4
        walk_at "S"
        refine s_all (bs := List.replicate vs.length true) (sq_l (by rw [x4, List.map_replicate])) ?_
        rw [lcTrue]
        walk_at "S"
        exact ⟨_, o3, rfl, kk.tr k4⟩
    · obtain ⟨o1, o3, rfl, kk⟩ := I
      refine ⟨kk.get trivial el, ?_⟩
      have k3 : Kp [] H2 (upd Hb S w2) := Kp.unlockR hw2 (kl.tr (Kp.nil_W kk))
      walk_at "S"
      exact q _ (k1.tr (k2.tr k3))
theorem ok_want_plain {f : Addr} {fd : FuncData} (F : Fun K "want_plain" "want_plain" s_want_plain f fd) (T : Txt K mg )
    (D_is_plain : DnF P w K mg base 13 "is_plain" ["thing"] (spIsPlain K)) :
    FnOk P w K mg base CX0 14 f fd ["thing"] (spWantPlain K) := by
  refine F.ok sc_want_plain (fun vs H Q E h => ?_) (fun cdv A outer s H vs Q E hr h => ?_)
  · obtain ⟨S, kvs, st, rfl, _⟩ := h
    rfl
  · obtain ⟨f_is_plain, fd_is_plain, G_is_plain, m_is_plain, k_is_plain, b_is_plain⟩ := D_is_plain
    obtain ⟨S, kvs, st, rfl, PL, q⟩ := h
    refine ⟨_, (pss_one (ps_if (pt_not (pt_val (pe_call G_is_plain (hr.mono (by first | decide | omega)) (by rfl) m_is_plain k_is_plain b_is_plain .nil pass0 (pa_cons (pv 0) pa_nil)))) (pss_one ps_never) pss_nil)), ?_⟩
    refine st_start (σ' := [some (.ref S)]) rfl ?_
    walk_at "S"
    refine ⟨S, kvs, st, rfl, PL, fun H1 k1 => ?_⟩
    walk_at "S"
    exact q _ k1
end

def spComeTo (K : PySem.W.Frag) : Sp := fun vs H Q _ => ∃ (S A W : Addr) (kvs : List (Key × V)) (st : Shelf) (as ws : List Str), vs = [.ref S, .ref A, .ref W] ∧ Plain K H S kvs st ∧ SqL K H A (as.map V.str) ∧ SqL K H W (ws.map V.str) ∧ (∀ z ∈ as, z ∈ keysS st) ∧ as.length ≤ 40 ∧
  ∀ H' p, Kp [] H H' → H p = none → H' p = some (.lst ((comeL st ws as).map V.str)) → Q (.ref p) H'
section
variable {P : Program} {w : World} {K : PySem.W.Frag} {mg : Str → Option Value} {base : Heap}
theorem filt_put {l ws : List Str} {i : Nat} {z : Str} (e : l[i]? = some z) : (l.take (i + 1)).filter (fun z => !decide (z ∈ ws)) = (l.take i).filter (fun z => !decide (z ∈ ws)) ++ (if z ∈ ws then [] else [z]) := by
  rw [take_put e, List.filter_append, List.filter_cons]
  by_cases c : z ∈ ws
  · simp [c]
  · simp [c]
theorem ok_come_to {f : Addr} {fd : FuncData} (F : Fun K "come_to" "come_to" s_come_to f fd) (T : Txt K mg )
    (D_aims_of : DnF P w K mg base 2 "aims_of" ["rows"] (spAimsOf K)) :
    FnOk P w K mg base CX0 3 f fd ["stock", "starts", "without"] (spComeTo K) := by
  refine F.ok sc_come_to (fun vs H Q E h => ?_) (fun cdv A outer s H vs Q E hr h => ?_)
  · obtain ⟨S, A_, W, kvs, st, as, ws, rfl, _⟩ := h
    rfl
  · obtain ⟨f_aims_of, fd_aims_of, G_aims_of, m_aims_of, k_aims_of, b_aims_of⟩ := D_aims_of
    obtain ⟨S, A_, W, kvs, st, as, ws, rfl, PL, hA, hW, ka, la, q⟩ := h
    have hu := hu_of hr
    have few : kvs.length ≤ 16 := by rw [PL.at_.nm.len]; exact PL.ok.few
    refine ⟨_, (pss_cons (ps_set (i := 3) sc_come_to.nd rfl (Or.inl rfl) pe_dnewK)
      (pss_cons (ps_setLc (i := 4) (own := [("name", 6)]) (g := gName 6) rfl sc_come_to.nd rfl rfl (sw_true rfl rfl rfl (by decide +kernel)) (kiL (K := K) rfl (pi_list (pv 1))) (blkOk_by (own := [("name", 6)]) (N := N_come_to) (sc := (defScope s_come_to)) (by decide +kernel)) (fun _ _ _ _ _ => (pg_name (i := 6) sc_come_to.nd rfl (Or.inl rfl))) (fun _ _ _ _ _ => (pts_one (pt_cmpR (ninK (K := K) rfl) (pv 6) (pv 2) (by rfl)))) (fun _ _ _ _ _ => (pv 6)))
      (pss_cons (ps_while PassesOwn.never (pt_cmpR (neNilK (K := K) rfl hr.units) (pv 4) (pe_lst pa_nil) (nomark _)) (pss_cons (ps_set (i := 5) sc_come_to.nd rfl (Or.inl rfl) (kBM0 (K := K) rfl (pe_bm0 PySem.F.plainAttrs_list PySem.F.slot_list_pop PySem.F.type_list_pop mt_pop (pv 4))))
      (pss_one (ps_if (pt_cmp (pc_dnotin hu (pv 5) (pv 3))) (pss_cons (ps_dput hu (pv 3) (pv 5) pe_bl rfl)
      (pss_one (ps_expr (kBM (K := K) rfl (pe_bm PySem.F.plainAttrs_list PySem.F.slot_list_extend PySem.F.type_list_extend mt_extend (pv 4) (pa_cons (pe_lc (own := [("name", 6)]) (g := gName 6) rfl sc_come_to.nd (kiL (K := K) rfl (pi_list (pe_call G_aims_of (hr.mono (by first | decide | omega)) (by rfl) m_aims_of k_aims_of b_aims_of .nil pass0 (pa_cons (pe_dget hu (pv 0) (pv 5) (fun _ _ => rfl)) pa_nil)))) (blkOk_by (own := [("name", 6)]) (N := N_come_to) (sc := (defScope s_come_to)) (by decide +kernel)) (fun _ _ _ _ _ => (pg_name (i := 6) sc_come_to.nd rfl (Or.inl rfl))) (fun _ _ _ _ _ => (pts_one (pt_cmpR (ninK (K := K) rfl) (pv 6) (pv 2) (by rfl)))) (fun _ _ _ _ _ => (pv 6))) pa_nil)))))) pss_nil))))
      (pss_one (ps_ret (pe_callB (call_sortedD rfl) (by rfl) T.n_sorted (by decide +kernel) (pa_cons (pv 3) pa_nil))))))), ?_⟩
    refine st_start (σ' := [some (.ref S), some (.ref A_), some (.ref W), none, none, none, none]) rfl ?_
    walk_at "S"
    intro fd hfd
    have k1 := kp_new (o := .dK []) hfd
    have efd : upd H fd (.dK []) fd = some (.dK []) := upd_same
    have hA1 := k1.seqL trivial hA
    have hW1 := k1.seqL trivial hW
    generalize upd H fd (.dK []) = H1 at *
    walk_at "S"
    refine ⟨⟨_, hA1⟩, fun wl hwl => ?_⟩
    have LC : LcOk wl (as.map V.str).length (fun i => ((as.take i).filter fun z => !decide (z ∈ ws)).map V.str) [] H1 (fun _ _ => True) := ⟨small_le (by rw [List.length_map]; omega), rfl, fun i hi => by
      rw [List.length_map]
      refine Nat.le_trans (List.length_filter_le _ _) ?_
      rw [List.length_take]
      omega, hwl, trivial, fun _ _ _ h => h⟩
    refine lc_go (walk_list (K := K) (a := A_) (xs := as.map V.str)) LC trivial (fun Hq kq => kq.seqL trivial hA1) (fun i x Ha Hb hi Ib y => ?_) fun H2 I2 => ?_
    · obtain ⟨rfl, hx⟩ := y
      rw [List.length_map] at hi
      have ez := List.getElem?_eq_getElem hi
      generalize as[i] = z at ez
      rw [List.getElem?_map, ez] at hx
      obtain rfl : V.str z = x := Option.some.inj hx
      have hWb := Ib.2.1.seqL trivial hW1
      have acc := filt_put (ws := ws) ez
      walk_at "S"
      refine ⟨rfl, ?_⟩
      walk_at "S"
      refine ⟨W, _, rfl, .inl hWb, rfl, flatV_strs ws, ?_⟩
      rw [inV_strs]
      walk_at "S"
      refine s_ndec (fun c => ?_) (fun c => ?_)
      · walk_at "S"
        refine Ib.put LC (by rw [List.length_map]; exact hi) ?_ Kp.refl trivial
        rw [acc, if_neg c, List.map_append]
        rfl
      · refine Ib.skip LC ?_ Kp.refl trivial
        rw [acc, if_pos c, List.append_nil]
    · obtain ⟨x2, k12, _⟩ := I2
      dsimp only at x2
      rw [List.length_map, List.take_of_length_le (Nat.le_refl _)] at x2
      have efd2 := k12.get trivial efd
      have k2 := k1.tr k12
      have n1 : fd ≠ wl := ne_of_none efd hwl
      have hwl0 : H wl = none := k1.free trivial hwl
      walk_at "S"
      refine ⟨fun m σ Hi => ∃ (fs wt : List Str) (o5 : Option V), σ = [some (.ref S), some (.ref A_), some (.ref W), some (.ref fd), some (.ref wl), o5, none] ∧ Kp [] H Hi ∧ Hi fd = some (.dK (fs.map fun z => ((Sum.inr z : Key), V.bl true))) ∧ Hi wl = some (.lst (wt.map V.str)) ∧ Gone st ws as fs wt ∧ wt.length ≤ 40 + 40 * fs.length ∧ m = 41 * (16 - fs.length) + wt.length,
        ⟨_, [], _, _, rfl, k2, efd2, x2, Gone.start, by rw [List.length_nil]; exact Nat.le_trans (List.length_filter_le _ _) (by omega), rfl⟩, fun m σ Hi I => ?_⟩
      obtain ⟨fs, wt, o5, rfl, ki, efi, ewi, G, lw, em⟩ := I
      have lf : fs.length ≤ 16 := by
        have := List.Nodup.length_le_of_subset G.nd fun z hz => come_key PL.ok ka (G.f z hz)
        rw [List.length_map] at this
        exact Nat.le_trans this PL.ok.few
      walk_at "S"
      refine ⟨small_le (by simp), fun l0 hl0 => ?_⟩
      have k0 := kp_new (o := .lst []) hl0
      have ewj := k0.get trivial ewi
      have efj := k0.get trivial efi
      have kj := ki.tr k0
      have el0 : upd Hi l0 (.lst []) l0 = some (.lst []) := upd_same
      generalize upd Hi l0 (.lst []) = Hj at *
      refine s_nil0 (sq_l ewj) (sq_l el0) ?_
      walk_at "S"
      rcases List.eq_nil_or_concat wt with rfl | ⟨wt', z, rfl⟩
      · rw [if_neg (by simp)]
        walk_at "S"
        exact ⟨fd, _, fs, rfl, .inl efj, by rw [List.map_map]; rfl, by omega, fun ys p pm so hp => q _ p (kj.upd_new hp) (kj.free trivial hp) (by rw [upd_same, comeL_of PL.ok ka G.nd G.done pm so])⟩
      · rw [List.concat_eq_append] at *
        rw [if_pos (by simp)]
        refine ⟨_, fun _ _ h => h, ?_⟩
        have lw2 : wt'.length + 1 ≤ 40 + 40 * fs.length := by rw [List.length_append, List.length_singleton] at lw; exact lw
        have em2 : m = 41 * (16 - fs.length) + (wt'.length + 1) := by rw [em, List.length_append, List.length_singleton]
        have cz := G.w z (List.mem_append_right _ List.mem_cons_self)
        obtain ⟨b, eb, mb⟩ := PL.ok.get (come_key PL.ok ka cz)
        walk_at "S"
        refine ⟨wl, _, .str z, rfl, rfl, ewj, by rw [List.length_map, List.length_append, List.length_singleton, Nat.add_sub_cancel, List.getElem?_map, List.getElem?_append_right (Nat.le_refl _), Nat.sub_self]; rfl, ?_⟩
        rw [show ((wt' ++ [z]).map V.str).dropLast = wt'.map V.str from by rw [List.map_append]; exact List.dropLast_concat]
        have kk : Kp [] H (upd Hj wl (.lst (wt'.map V.str))) := kj.upd_loc hwl0
        have efk : upd Hj wl (.lst (wt'.map V.str)) fd = some (.dK (fs.map fun z => ((Sum.inr z : Key), V.bl true))) := (upd_ne n1).trans efj
        have ewk : upd Hj wl (.lst (wt'.map V.str)) wl = some (.lst (wt'.map V.str)) := upd_same
        generalize upd Hj wl (.lst (wt'.map V.str)) = Hk at *
        walk_at "S"
        refine s_inS efk ?_
        by_cases c : z ∈ fs
        · have hv : valV (fs.map fun z => ((Sum.inr z : Key), V.bl true)) (.inr z) = some (.bl true) := by
            obtain ⟨j, hj, e⟩ := List.mem_iff_getElem.mp c
            have all : ∀ l : List Str, z ∈ l → valV (l.map fun z => ((Sum.inr z : Key), V.bl true)) (.inr z) = some (.bl true) := fun l => by
              induction l with
              | nil => exact fun h => nomatch h
              | cons y r ih =>
                intro h
                by_cases cy : y = z
                · exact valV_pos (by rw [cy])
                · exact (valV_neg fun e => cy (Sum.inr.inj e)).trans (ih ((List.mem_cons.mp h).resolve_left fun e => cy e.symm))
            exact all fs c
          rw [hv]
          walk_at "S"
          rw [if_neg (by simp)]
          walk_at "S"
          exact ⟨41 * (16 - fs.length) + wt'.length, by omega, fs, wt', _, rfl, kk, efk, ewk, G.skip c, by omega, rfl⟩
        · have hv : valV (fs.map fun z => ((Sum.inr z : Key), V.bl true)) (.inr z) = none := valV_no fun h => by
            obtain ⟨y, hy, e⟩ := List.mem_map.mp h
            obtain ⟨u, hu, rfl⟩ := List.mem_map.mp hy
            exact c (Sum.inr.inj e ▸ hu)
          rw [hv]
          walk_at "S"
          rw [if_pos (by simp)]
          walk_at "S"
          refine s_putS efk (small_lt (by rw [List.length_map]; omega)) ?_
          rw [L2.putK_new _ hv]
          have hfd0 : H fd = none := hfd
          have kl : Kp [] H (upd Hk fd (.dK ((fs.map fun z => ((Sum.inr z : Key), V.bl true)) ++ [(Sum.inr z, .bl true)]))) := kk.upd_loc hfd0
          have efl : upd Hk fd (.dK ((fs.map fun z => ((Sum.inr z : Key), V.bl true)) ++ [(Sum.inr z, .bl true)])) fd = some (.dK ((fs ++ [z]).map fun z => ((Sum.inr z : Key), V.bl true))) := by rw [upd_same, List.map_append]; rfl
          have ewl : upd Hk fd (.dK ((fs.map fun z => ((Sum.inr z : Key), V.bl true)) ++ [(Sum.inr z, .bl true)])) wl = some (.lst (wt'.map V.str)) := (upd_ne n1.symm).trans ewk
          generalize upd Hk fd (.dK ((fs.map fun z => ((Sum.inr z : Key), V.bl true)) ++ [(Sum.inr z, .bl true)])) = Hl at *
          have PLl := PL.same kl
          obtain ⟨vb, gv, dvb⟩ := PLl.at_.get eb
          obtain ⟨w1, w2⟩ := PL.ok.pw eb
          walk_at "S"
          refine s_getR PLl.at_.rd gv ?_
          walk_at "S"
          refine ⟨vb, b, rfl, w1, by omega, dvb, fun Hm al km nal eal => ?_⟩
          have lal : (aimsL b).length ≤ 40 := Nat.le_trans (List.length_filterMap_le _ _) w2
          have hWm := (kl.tr km).seqL trivial hW
          walk_at "S"
          refine ⟨⟨_, sq_l eal⟩, fun D hD => ?_⟩
          have LC2 : LcOk D ((aimsL b).map V.str).length (fun i => (((aimsL b).take i).filter fun z => !decide (z ∈ ws)).map V.str) [] Hm (fun _ _ => True) := ⟨small_le (by rw [List.length_map]; omega), rfl, fun i hi => by
            rw [List.length_map]
            refine Nat.le_trans (List.length_filter_le _ _) ?_
            rw [List.length_take]
            omega, hD, trivial, fun _ _ _ h => h⟩
          refine lc_go (walk_list (K := K) (a := al) (xs := (aimsL b).map V.str)) LC2 trivial (fun Hq kq => sq_l (kq.get trivial eal)) (fun i x Ha Hb hi Ib y => ?_) fun Hn In => ?_
          · obtain ⟨rfl, hx⟩ := y
            rw [List.length_map] at hi
            have ez := List.getElem?_eq_getElem hi
            generalize (aimsL b)[i] = z at ez
            rw [List.getElem?_map, ez] at hx
            obtain rfl : V.str z = x := Option.some.inj hx
            have hWb := Ib.2.1.seqL trivial hWm
            have acc := filt_put (ws := ws) ez
            walk_at "S"
            refine ⟨rfl, ?_⟩
            walk_at "S"
            refine ⟨W, _, rfl, .inl hWb, rfl, flatV_strs ws, ?_⟩
            rw [inV_strs]
            walk_at "S"
            refine s_ndec (fun c => ?_) (fun c => ?_)
            · walk_at "S"
              refine Ib.put LC2 (by rw [List.length_map]; exact hi) ?_ Kp.refl trivial
              rw [acc, if_neg c, List.map_append]
              rfl
            · refine Ib.skip LC2 ?_ Kp.refl trivial
              rw [acc, if_pos c, List.append_nil]
          · obtain ⟨xn, kmn, _⟩ := In
            dsimp only at xn
            rw [List.length_map, List.take_of_length_le (Nat.le_refl _)] at xn
            have kln := km.tr kmn
            have ewn := kln.get trivial ewl
            have efn := kln.get trivial efl
            have nDw : D ≠ wl := fun e => by rw [e, km.get trivial ewl] at hD; cases hD
            have lfil := List.length_filter_le (fun z => !decide (z ∈ ws)) (aimsL b)
            have lf2 : fs.length + 1 ≤ 16 := by
              have := List.Nodup.length_le_of_subset (G.on c eb).nd fun z hz => come_key PL.ok ka ((G.on c eb).f z hz)
              rw [List.length_map, List.length_append, List.length_singleton] at this
              exact Nat.le_trans this PL.ok.few
            walk_at "S"
            refine ⟨wl, D, _, _, rfl, rfl, ewn, xn, small_le (by rw [List.length_map, List.length_map]; omega), ?_⟩
            rw [← List.map_append]
            walk_at "S"
            refine ⟨41 * (16 - (fs ++ [z]).length) + (wt' ++ (aimsL b).filter fun z => !decide (z ∈ ws)).length, ?_, fs ++ [z], wt' ++ (aimsL b).filter fun z => !decide (z ∈ ws), _, rfl, (kl.tr kln).upd_loc hwl0, (upd_ne n1).trans efn, upd_same, G.on c eb, ?_, rfl⟩
            · simp only [List.length_append, List.length_singleton]
              omega
            · simp only [List.length_append, List.length_singleton]
              omega
end

/-! the pot -/
abbrev Pot := Int × Int
def PotOk (H : Hp) (p : Addr) : Prop := ∃ s : Pot, H p = some (.lst [.int s.1, .int s.2])
theorem PotOk.upd {H : Hp} {p D : Addr} {o : HO} (h : PotOk H p) (n : p ≠ D) : PotOk (upd H D o) p := by
  obtain ⟨s, e⟩ := h
  exact ⟨s, (upd_ne n).trans e⟩
theorem PotOk.ne {H : Hp} {p D : Addr} (h : PotOk H p) (n : H D = none) : p ≠ D := by
  obtain ⟨s, e⟩ := h
  exact ne_of_none e n
theorem PotOk.kp {H H' : Hp} {p : Addr} {W : List Addr} (h : PotOk H p) (k : Kp W H H') (n : Nin p W) : PotOk H' p := by
  obtain ⟨s, e⟩ := h
  exact ⟨s, k.get n e⟩
def spAt (K : PySem.W.Frag) : Sp := fun vs H Q _ => ∃ (a : Addr) (ns : List Int) (k : Nat), vs = [.ref a, .int k] ∧ SqL K H a (ns.map V.int) ∧ Q (.int (ns.getD k 0)) H
def spPot (K : PySem.W.Frag) : Sp := fun vs H Q _ => ∃ (a : Addr) (ns : List Int) (k : Nat), vs = [.ref a, .int k] ∧ SqL K H a (ns.map V.int) ∧ k ≤ 1000 ∧
  ∀ H' p, Kp [] H H' → H p = none → PotOk H' p → Q (.ref p) H'
/-- a draw: some number below m -/
def spDraw : Sp := fun vs H Q _ => ∃ (p : Addr) (m : Int), vs = [.ref p, .int m] ∧ PotOk H p ∧ 0 < m ∧ m ≤ 2000000000000000000000000000000000000000000000000000000000000 ∧
  ∀ H' v, Kp [p] H H' → PotOk H' p → 0 ≤ v → v < m → Q (.int v) H'
section
variable {P : Program} {w : World} {K : PySem.W.Frag} {mg : Str → Option Value} {base : Heap}
theorem ok_at {f : Addr} {fd : FuncData} (F : Fun K "_law_at" "_law_at" s_l_at f fd) (T : Txt K mg ) : FnOk P w K mg base CX0 1 f fd ["_law_script", "_law_k"] (spAt K) := by
  refine F.ok sc_l_at (fun vs H Q E h => ?_) (fun cdv A outer s H vs Q E hr h => ?_)
  · obtain ⟨a, ns, j, rfl, _⟩ := h
    rfl
  · obtain ⟨a, ns, j, rfl, hs, q⟩ := h
    refine ⟨_, (pss_one (ps_ret (pe_ifExp (pt_cmpR op_lt (pv 1) (pe_callB (lenK (K := K) rfl) (by rfl) T.n_len (by decide +kernel) (pa_cons (pv 0) pa_nil)) (nomark _)) (pe_ix (ixLK (K := K) rfl) (pv 0) (pv 1) (fun _ _ => rfl)) pe_int))), ?_⟩
    refine st_start (σ' := [some (.ref a), some (.int j)]) rfl ?_
    walk_at "S"
    rw [List.length_map]
    refine s_dec (fun h1 => ?_) (fun h1 => ?_)
    · walk_at "S"
      have hj : j < ns.length := by omega
      have e : (ns.map V.int)[j]? = some (.int (ns.getD j 0)) := by
        rw [List.getElem?_map, List.getD_eq_getElem?_getD, List.getElem?_eq_getElem hj]
        rfl
      exact s_ixL hs (atI_nat e) q
    · walk_at "S"
      have e : ns.getD j 0 = 0 := by
        rw [List.getD_eq_getElem?_getD, List.getElem?_eq_none (Nat.le_of_not_lt fun z => h1 (by omega))]
        rfl
      rw [e] at q
      exact q
theorem ok_pot {f : Addr} {fd : FuncData} (F : Fun K "_law_pot" "_law_pot" s_l_pot f fd) (T : Txt K mg )
    (D_l_at : DnF P w K mg base 1 "_law_at" ["_law_script", "_law_k"] (spAt K)) : FnOk P w K mg base CX0 2 f fd ["_law_script", "_law_k"] (spPot K) := by
  refine F.ok sc_l_pot (fun vs H Q E h => ?_) (fun cdv A outer s H vs Q E hr h => ?_)
  · obtain ⟨a, ns, j, rfl, _⟩ := h
    rfl
  · obtain ⟨f_l_at, fd_l_at, G_l_at, m_l_at, k_l_at, b_l_at⟩ := D_l_at
    obtain ⟨a, ns, j, rfl, hs, hj, q⟩ := h
    refine ⟨_, (pss_cons (ps_set (i := 2) sc_l_pot.nd rfl (Or.inl rfl) (pe_call G_l_at (hr.mono (by first | decide | omega)) (by rfl) m_l_at k_l_at b_l_at .nil pass0 (pa_cons (pv 0) (pa_cons (pv 1) pa_nil))))
      (pss_one (ps_ret (pe_lst (pa_cons (pe_callB (call_max2 rfl) (by rfl) T.n_max (by decide +kernel) (pa_cons pe_int (pa_cons (pe_op op_sub (pv 2) (pe_op op_pow pe_int pe_int)) pa_nil))) (pa_cons (pe_op op_add (pe_op op_mod (pe_op op_pow (pe_op op_add (pe_op op_mod (pv 2) pe_int) (pe_op op_mul pe_int (pe_op op_add (pv 1) pe_int))) pe_int) pe_int) pe_int) pa_nil)))))), ?_⟩
    refine st_start (σ' := [some (.ref a), some (.int j), none]) rfl ?_
    walk_at "S"
    refine ⟨a, ns, j, rfl, hs, ?_⟩
    walk_at "S"
    exact ⟨small_le (by simp), fun p hp => q _ _ (Kp.refl.upd_new hp) hp ⟨(_, _), upd_same⟩⟩
theorem ok_draw {f : Addr} {fd : FuncData} (F : Fun K "_law_draw" "_law_draw" s_l_draw f fd) (T : Txt K mg ) : FnOk P w K mg base CX0 1 f fd ["_law_pot_here", "_law_size"] spDraw := by
  refine F.ok sc_l_draw (fun vs H Q E h => ?_) (fun cdv A outer s H vs Q E hr h => ?_)
  · obtain ⟨p, m, rfl, _⟩ := h
    rfl
  · obtain ⟨p, m, rfl, ⟨⟨a, b⟩, hp⟩, m0, m1, k⟩ := h
    dsimp only at hp
    refine ⟨_, (pss_cons (ps_if (pt_cmpR op_gt (pe_ix (ixLK (K := K) rfl) (pv 0) pe_int (fun _ _ => rfl)) pe_int (nomark _)) (pss_cons (ps_asg (pe_callB divmodPR (by rfl) T.n_divmod (by decide +kernel) (pa_cons (pe_ix (ixLK (K := K) rfl) (pv 0) pe_int (fun _ _ => rfl)) (pa_cons (pv 1) pa_nil))) (kgT (K := K) rfl (pg_tup rfl (pgs_cons (pg_sub (pv 0) pe_int set_list) (pgs_cons (pg_name (i := 2) sc_l_draw.nd rfl (Or.inl rfl)) pgs_nil)))))
      (pss_one (ps_ret (pv 2)))) pss_nil)
      (pss_cons (ps_asg (pe_op op_mod (pe_op op_add (pe_op op_mul (pe_ix (ixLK (K := K) rfl) (pv 0) pe_int (fun _ _ => rfl)) pe_int) pe_int) pe_int) (pg_sub (pv 0) pe_int set_list))
      (pss_one (ps_ret (pe_op op_mod (pe_op op_fdiv (pe_op op_mod (pe_op op_mul (pe_ix (ixLK (K := K) rfl) (pv 0) pe_int (fun _ _ => rfl)) (pe_ix (ixLK (K := K) rfl) (pv 0) pe_int (fun _ _ => rfl))) pe_int) pe_int) (pv 1)))))), ?_⟩
    refine st_start (σ' := [some (.ref p), some (.int m), none]) rfl ?_
    walk_at "S"
    refine s_dec (fun h => ?_) (fun h => ?_)
    · walk_at "S"
      refine s_divP m0 m1 fun t ht => ?_
      walk_at "S"
      exact k _ _ (by walk_at "K") ⟨(_, _), upd_same⟩ (Int.emod_nonneg _ (by omega)) (Int.emod_lt_of_pos _ m0)
    · walk_at "S"
      exact k _ _ (by walk_at "K") ⟨(_, _), upd_same⟩ (Int.emod_nonneg _ (by omega)) (Int.emod_lt_of_pos _ m0)
end

/-! what names are -/
structure OkN (z : Str) : Prop where
  pos : 1 ≤ z.length
  len : z.length ≤ 8
  abc : ∀ c ∈ tl z, c ∈ lets
structure Taken (zs : List Str) : Prop where
  nd : zs.Nodup
  ok : ∀ z ∈ zs, OkN z
theorem OkN.nm {z : Str} (h : OkN z) : isNameL (tl z) = true := isNameL_of (by rw [← len_tl]; exact h.pos) (by rw [← len_tl]; exact h.len) h.abc
theorem OkN.path {z : Str} (h : OkN z) : isPathL (tl z) = true := isPathL_of (ps := [tl z]) (by simp) (by simp) fun p hp => by rw [List.mem_singleton.mp hp]; exact h.nm
theorem OkN.okl {z : Str} (h : OkN z) : OkL (tl z) := isNameL_ok h.nm
theorem lets_nd : ∀ c ∈ lets, c ≠ 46 := by decide +kernel
theorem lets_lt : ∀ c ∈ lets, c < 1114112 := by decide +kernel
theorem cut_mem {z : Str} {lo hi : Option Int} {c : Nat} (h : c ∈ tl (cutS z lo hi)) : c ∈ tl z :=
  List.mem_of_mem_drop (List.mem_of_mem_take (show c ∈ List.take (HT.sIx z.length z.length hi - HT.sIx z.length 0 lo) (List.drop (HT.sIx z.length 0 lo) z.cps.toList) from h))
theorem cut8 (z : Str) : (cutS z none (some 8)).length ≤ 8 := by
  rw [len_tl]
  show ((z.cps.toList.drop (HT.sIx z.length 0 none)).take (HT.sIx z.length z.length (some 8) - HT.sIx z.length 0 none)).length ≤ 8
  rw [List.length_take, show HT.sIx z.length z.length (some 8) = min 8 z.length from HT.sIx_nat z.length z.length 8]
  omega
theorem OkN.name {cs : List Nat} (h0 : 1 ≤ cs.length) (h : cs.length ≤ 8) (g : ∀ c ∈ cs, c ∈ lets) : OkN (mkS cs) := ⟨by rw [mkS_len]; exact h0, by rw [mkS_len]; exact h, g⟩
theorem cut8_len (z : Str) : (cutS z none (some 8)).length = min 8 z.length := by
  rw [len_tl]
  show ((z.cps.toList.drop (HT.sIx z.length 0 none)).take (HT.sIx z.length z.length (some 8) - HT.sIx z.length 0 none)).length = _
  rw [List.length_take, List.length_drop, show HT.sIx z.length z.length (some 8) = min 8 z.length from HT.sIx_nat z.length z.length 8, show HT.sIx z.length 0 none = 0 from HT.sIx_none .., show z.cps.toList.length = z.length from (len_tl z).symm]
  omega
abbrev cands : List Str := lets.map sg
theorem lets_at {i c : Nat} (h : ("abcdefghijklmnopqrstuvwxyz" : Str).cps[i]? = some c) : lets[i]? = some c := by
  show ("abcdefghijklmnopqrstuvwxyz" : Str).cps.toList[i]? = some c
  rw [Array.getElem?_toList]
  exact h
theorem cands_nd : cands.Nodup := by decide +kernel
theorem cands_ok : ∀ z ∈ cands, 1 ≤ z.length ∧ z.length ≤ 8 ∧ ∀ c ∈ tl z, c ∈ lets := by decide +kernel
theorem cands_len : cands.length = 26 := by decide +kernel
theorem free_cand {zs : List Str} (h : zs.length ≤ 25) : cands.filter (fun c => !decide (c ∈ zs)) ≠ [] := fun e => by
  have := List.Nodup.length_le_of_subset (l₂ := zs) cands_nd fun x hx => by
    by_cases m : x ∈ zs
    · exact m
    · have : x ∈ cands.filter (fun c => !decide (c ∈ zs)) := List.mem_filter.mpr ⟨hx, by simp [m]⟩
      rw [e] at this
      cases this
  rw [cands_len] at this
  omega
theorem pot_strs {H : Hp} {p t : Addr} {zs : List Str} (h : PotOk H p) (g : H t = some (.lst (zs.map V.str))) : p ≠ t := by
  rintro rfl
  obtain ⟨s, e⟩ := h
  rw [e] at g
  cases zs with
  | nil => simp at g
  | cons z r => simp at g
theorem tup_pot {H H' : Hp} {p : Addr} (k : Kp [p] H H') (h : PotOk H p) : TupK H H' := .of k fun x hx => by
  rw [List.mem_singleton.mp hx]
  obtain ⟨s, e⟩ := h
  exact .lst e
def spName : Sp := fun vs H Q _ => ∃ (p t : Addr) (zs : List Str), vs = [.ref p, .ref t] ∧ PotOk H p ∧ H t = some (.lst (zs.map V.str)) ∧ Taken zs ∧ zs.length ≤ 20 ∧
  ∀ H' z, Kp [p, t] H H' → PotOk H' p → H' t = some (.lst ((zs ++ [z]).map V.str)) → Taken (zs ++ [z]) → Q (.str z) H'
def ten : List V := [.str "begin", .str "end", .str "fail", .str "have", .str "again", .str "note", .str "caught", .str "take", .str "draw"]
theorem ten_ok : ∀ y ∈ ten, ∃ z : Str, y = .str z ∧ OkN z := by
  have e : ∀ z ∈ (["begin", "end", "fail", "have", "again", "note", "caught", "take", "draw"] : List Str), 1 ≤ z.length ∧ z.length ≤ 8 ∧ ∀ c ∈ tl z, c ∈ lets := by decide +kernel
  intro y hy
  have : y ∈ (["begin", "end", "fail", "have", "again", "note", "caught", "take", "draw"] : List Str).map V.str := hy
  obtain ⟨z, hz, rfl⟩ := List.mem_map.mp this
  exact ⟨z, rfl, (e z hz).1, (e z hz).2.1, (e z hz).2.2⟩
section
variable {P : Program} {w : World} {K : PySem.W.Frag} {mg : Str → Option Value} {base : Heap}
theorem pickM {α : Type} {xs : List α} {g : α → V} {v : Int} (h0 : 0 ≤ v) (h1 : v < (xs.length : Int)) : ∃ (n : Nat) (x : α), v = (n : Int) ∧ n < xs.length ∧ xs[n]? = some x ∧ x ∈ xs ∧ atI (xs.map g) v = some (g x) := by
  obtain ⟨n, rfl⟩ := Int.eq_ofNat_of_zero_le h0
  have hn : n < xs.length := by omega
  refine ⟨n, xs[n], rfl, hn, List.getElem?_eq_getElem hn, List.getElem_mem hn, atI_nat ?_⟩
  rw [List.getElem?_map, List.getElem?_eq_getElem hn]
  rfl
theorem ok_l_name {f : Addr} {fd : FuncData} (F : Fun K "_law_name" "_law_name" s_l_name f fd) (T : Txt K mg )
    (D_l_draw : DnF P w K mg base 1 "_law_draw" ["_law_pot_here", "_law_size"] spDraw) :
    FnOk P w K mg base CX0 2 f fd ["_law_pot_here", "_law_taken"] spName := by
  refine F.ok sc_l_name (fun vs H Q E h => ?_) (fun cdv A outer s H vs Q E hr h => ?_)
  · obtain ⟨p, t, zs, rfl, _⟩ := h
    rfl
  · obtain ⟨f_l_draw, fd_l_draw, G_l_draw, m_l_draw, k_l_draw, b_l_draw⟩ := D_l_draw
    obtain ⟨p, t, zs, rfl, hp, ht, tk, nz, q⟩ := h
    have npt := pot_strs hp ht
    have eA : (tl ("abcdefghijklmnopqrstuvwxyz" : Str)) = lets := rfl
    refine ⟨_, (pss_cons (ps_set (i := 2) sc_l_name.nd rfl (Or.inr rfl) pe_str)
      (pss_cons (ps_set (i := 3) sc_l_name.nd rfl (Or.inl rfl) (pe_call G_l_draw (hr.mono (by first | decide | omega)) (by rfl) m_l_draw k_l_draw b_l_draw .nil pass0 (pa_cons (pv 0) (pa_cons pe_int pa_nil))))
      (pss_cons (ps_set (i := 4) sc_l_name.nd rfl (Or.inl rfl) (pe_m1 PySem.F.slot_str_join PySem.F.type_str_join (joinK (K := K) rfl) pe_str (pe_lc (own := [("_law_k", 5)]) (g := gName 5) (tt := tYes) rfl sc_l_name.nd (pi_range1 rfl T.n_range (pa_cons (pe_op op_add pe_int (pe_op op_mul (pe_call G_l_draw (hr.mono (by first | decide | omega)) (by rfl) m_l_draw k_l_draw b_l_draw .nil pass0 (pa_cons (pv 0) (pa_cons pe_int pa_nil))) (pe_call G_l_draw (hr.mono (by first | decide | omega)) (by rfl) m_l_draw k_l_draw b_l_draw .nil pass0 (pa_cons (pv 0) (pa_cons pe_int pa_nil))))) pa_nil)) (blkOk_by (own := [("_law_k", 5)]) (N := N_l_name) (sc := (defScope s_l_name)) (by decide +kernel)) (fun _ _ _ _ _ => (pg_name (i := 5) sc_l_name.nd rfl (Or.inl rfl))) (fun _ _ _ _ _ => pts_nil) (fun _ _ _ _ _ => (pe_ix ix_str (pv 2) (pe_call G_l_draw (hr.mono (by first | decide | omega)) (by rfl) m_l_draw k_l_draw b_l_draw .nil pass0 (pa_cons (pv 0) (pa_cons pe_int pa_nil))) (fun _ _ => rfl))))))
      (pss_cut2 (ps_if (pt_cmpR op_eq (pv 3) pe_int (nomark _)) (pss_one (ps_set (i := 4) sc_l_name.nd rfl (Or.inl rfl) (pe_ix (ixLK (K := K) rfl) (pe_lst (pa_cons pe_str (pa_cons pe_str (pa_cons pe_str (pa_cons pe_str (pa_cons pe_str (pa_cons pe_str (pa_cons pe_str (pa_cons pe_str (pa_cons pe_str pa_nil)))))))))) (pe_call G_l_draw (hr.mono (by first | decide | omega)) (by rfl) m_l_draw k_l_draw b_l_draw .nil pass0 (pa_cons (pv 0) (pa_cons pe_int pa_nil))) (fun _ _ => rfl)))) pss_nil)
      (pss_cut2 (ps_if (PW.pt (pw_and (pt_cmpR op_eq (pv 3) pe_int (nomark _)) (pw_and1 (pt_cmpR (neNilK (K := K) rfl hr.units) (pv 1) (pe_lst pa_nil) (nomark _))))) (pss_one (ps_set (i := 4) sc_l_name.nd rfl (Or.inl rfl) (pe_slice sl_str (pe_op addS (pe_ix (ixLK (K := K) rfl) (pv 1) (pe_un un_neg pe_int) (fun _ _ => rfl)) (pv 4)) po_none (po_some pe_int)))) pss_nil)
      (pss_cut2 (ps_if (pt_cmpR (inK (K := K) rfl) (pv 4) (pv 1) (by rfl)) (pss_one (ps_set (i := 4) sc_l_name.nd rfl (Or.inl rfl) (pe_ix (ixLK (K := K) rfl) (pe_lc (own := [("_law_letter", 6)]) (g := gName 6) rfl sc_l_name.nd (pi_str (pv 2)) (blkOk_by (own := [("_law_letter", 6)]) (N := N_l_name) (sc := (defScope s_l_name)) (by decide +kernel)) (fun _ _ _ _ _ => (pg_name (i := 6) sc_l_name.nd rfl (Or.inl rfl))) (fun _ _ _ _ _ => (pts_one (pt_cmpR (ninK (K := K) rfl) (pv 6) (pv 1) (by rfl)))) (fun _ _ _ _ _ => (pv 6))) pe_int (fun _ _ => rfl)))) pss_nil)
      (pss_cons (ps_expr (kBM (K := K) rfl (pe_bm PySem.F.plainAttrs_list PySem.F.slot_list_append PySem.F.type_list_append mt_append (pv 1) (pa_cons (pv 4) pa_nil))))
      (pss_one (ps_ret (pv 4)))))))))), ?_⟩
    refine st_start (σ' := [some (.ref p), some (.ref t), none, none, none, none, none]) rfl ?_
    walk_at "S"
    refine ⟨p, _, rfl, hp, by omega, by omega, fun H0 wy kw hp0 w0 w1 => ?_⟩
    walk_at "S"
    refine ⟨p, _, rfl, hp0, by omega, by omega, fun H1 v1 k1' hp1 a0 a1 => ?_⟩
    have k1 : Kp [p] H H1 := kw.step k1' fun x hx => .inl hx
    walk_at "S"
    refine ⟨p, _, rfl, hp1, by omega, by omega, fun H2 v2 k2 hp2 b0 b1 => ?_⟩
    have kk : Kp [p] H H2 := k1.step k2 fun x hx => .inl hx
    have b3 : 0 ≤ v1 * v2 ∧ v1 * v2 ≤ 7 := by
      rcases (show v1 = 0 ∨ v1 = 1 by omega) with rfl | rfl
      · simp
      · simp only [Int.one_mul]; omega
    walk_at "S"
    generalize v1 * v2 = m at b3 ⊢
    refine ⟨by omega, by omega, fun l hl => ?_⟩
    have np : p ≠ l := hp2.ne hl
    let PL : Nat → List V → Prop := fun i xs => ∃ cs : List Nat, xs = (cs.map sg).map V.str ∧ (∀ c ∈ cs, c ∈ lets) ∧ cs.length = i
    have L : LcOkP l (1 + m).toNat PL [p] H2 (fun _ H => PotOk H p) :=
      ⟨small_le (by omega), ⟨[], rfl, by simp, rfl⟩, hl, ⟨np.symm, trivial⟩, fun _ _ _ h => h.upd np⟩
    refine lc_goP walk_range L hp2 (fun _ _ => trivial) (fun i x Ha Hb hi I y => ?_) fun H5 I => ?_
    · obtain ⟨rfl, rfl⟩ := y
      obtain ⟨_, _, hpI⟩ := id I
      walk_at "S"
      refine ⟨rfl, ?_⟩
      walk_at "S"
      refine ⟨p, _, rfl, hpI, by omega, by omega, fun Hc v kc hpc e0 e1 => ?_⟩
      obtain ⟨c, hc, hm⟩ := pickS (z := "abcdefghijklmnopqrstuvwxyz") e0 (by rw [show (tl ("abcdefghijklmnopqrstuvwxyz" : Str)).length = 26 from by decide +kernel]; omega)
      refine s_ixS (by decide +kernel) hc ?_
      refine I.put L hi (fun xs hx => ?_) kc hpc
      obtain ⟨cs, rfl, h1, h2⟩ := hx
      refine ⟨cs ++ [c], by simp, fun d hd => ?_, by simp [h2]⟩
      rcases List.mem_append.mp hd with hd | hd
      · exact h1 d hd
      · rw [List.mem_singleton.mp hd]
        exact hm
    obtain ⟨⟨xs, x0, ⟨cs, rfl, hcs, hcl⟩, _⟩, k5, hp5⟩ := I
    walk_at "S"
    have eL : ("" : Str).length = 0 := by decide +kernel
    refine s_joinL (zs := cs.map sg) (sq_l x0) (by rw [sg_sum, List.length_map, eL]; omega) ?_
    rw [join_sg]
    have k05 : Kp [p] H H5 := kk.step k5 fun x hx => .inl hx
    walk_at "S"
    obtain ⟨H6, eH6⟩ : ∃ H6, H6 = H5 := ⟨_, rfl⟩
    subst eH6
    have k06 := k05
    have hp6 := hp5
    refine s_cut (fun σ H7 => ∃ z : Str, σ = [some (.ref p), some (.ref t), some (.str "abcdefghijklmnopqrstuvwxyz"), some (.int wy), some (.str z), none, none] ∧ OkN z ∧ Kp [p] H H7 ∧ PotOk H7 p) (fun J hJ => ?_) ?_
    · walk_at "S"
      refine s_dec (fun h => ?_) (fun h => ?_)
      · walk_at "S"
        refine ⟨small_le (by simp), fun l2 hl2 => ?_⟩
        walk_at "S"
        have np2 := hp6.ne hl2
        refine ⟨p, _, rfl, hp6.upd np2, by omega, by omega, fun H7 v7 k7 hp7 e0 e1 => ?_⟩
        obtain ⟨y, hy, hm⟩ := pick (xs := ten) e0 e1
        obtain ⟨z, rfl, hz⟩ := ten_ok y hm
        refine s_ixL (xs := ten) (sq_l (k7.get ⟨np2.symm, trivial⟩ upd_same)) hy ?_
        walk_at "S"
        exact hJ _ _ ⟨z, rfl, hz, (k06.upd_new hl2).step k7 fun x hx => .inl hx, hp7⟩
      · walk_at "S"
        exact hJ _ _ ⟨_, rfl, .name (by omega) (by omega) hcs, k06, hp6⟩
    · rintro σ H7 ⟨z, rfl, hz, k07, hp7⟩
      have ht7 := k07.get ⟨npt.symm, trivial⟩ ht
      walk_at "S"
      refine s_cut (fun σ H8 => ∃ z : Str, σ = [some (.ref p), some (.ref t), some (.str "abcdefghijklmnopqrstuvwxyz"), some (.int wy), some (.str z), none, none] ∧ OkN z ∧ Kp [p] H H8 ∧ PotOk H8 p) (fun J hJ => ?_) ?_
      · walk_at "S"
        refine s_dec (fun h => ?_) (fun h => ?_)
        · walk_at "S"
          refine ⟨small_le (by simp), fun l2 hl2 => ?_⟩
          have np2 := hp7.ne hl2
          have ht8 : upd H7 l2 (.lst []) t = some (.lst (zs.map V.str)) := by walk_at "L"
          walk_at "S"
          refine s_nil0 (sq_l ht8) (sq_l upd_same) ?_
          walk_at "S"
          cases hzs : zs.reverse with
          | nil =>
            have e : zs = [] := by rw [← List.reverse_reverse zs, hzs]; rfl
            subst e
            walk_at "S"
            exact hJ _ _ ⟨z, rfl, hz, k07.upd_new hl2, hp7.upd np2⟩
          | cons zl zr =>
            have e : zs = zr.reverse ++ [zl] := by rw [← List.reverse_reverse zs, hzs, List.reverse_cons]
            have ml : zl ∈ zs := by rw [e]; simp
            rw [show ((zs.map V.str).isEmpty) = false from by rw [e]; simp]
            walk_at "S"
            refine s_ixL (xs := (zr.reverse).map V.str ++ [.str zl]) (sq_l (by rw [ht8, e, List.map_append]; rfl)) (atI_last _ _) ?_
            walk_at "S"
            have l1 := (tk.ok zl ml).len
            have l2' := hz.len
            refine s_addS (small_le (by omega)) ?_
            walk_at "S"
            refine s_slS (small_le (by rw [len_tl, tl_append, List.length_append, ← len_tl, ← len_tl]; omega)) ?_
            walk_at "S"
            refine hJ _ _ ⟨_, rfl, ⟨?_, cut8 _, ?_⟩, k07.upd_new hl2, hp7.upd np2⟩
            · have lz := (tk.ok zl ml).pos
              rw [cut8_len, len_tl, tl_append, List.length_append, ← len_tl, ← len_tl]
              omega
            · intro c hc
              have := cut_mem hc
              rw [tl_append] at this
              rcases List.mem_append.mp this with h | h
              · exact (tk.ok zl ml).abc c h
              · exact hz.abc c h
        · walk_at "S"
          exact hJ _ _ ⟨z, rfl, hz, k07, hp7⟩
      · rintro σ H8 ⟨z, rfl, hz, k08, hp8⟩
        have ht8 := k08.get ⟨npt.symm, trivial⟩ ht
        walk_at "S"
        refine s_cut (fun σ H9 => ∃ z : Str, σ = [some (.ref p), some (.ref t), some (.str "abcdefghijklmnopqrstuvwxyz"), some (.int wy), some (.str z), none, none] ∧ OkN z ∧ z ∉ zs ∧ Kp [p] H H9 ∧ PotOk H9 p) (fun J hJ => ?_) ?_
        · walk_at "S"
          refine ⟨t, _, rfl, .inl (sq_l ht8), rfl, flatV_strs zs, ?_⟩
          rw [inV_strs]
          walk_at "S"
          refine s_dec (fun h => ?_) (fun h => ?_)
          · walk_at "S"
            intro D1 hD1
            have L1 : LcOk D1 ("abcdefghijklmnopqrstuvwxyz" : Str).cps.size (fun i => (((lets.take i).map sg).filter fun c => !decide (c ∈ zs)).map V.str) [] H8 (fun _ _ => True) :=
              ⟨by decide +kernel, rfl, fun i hi => by
                rw [List.length_map]
                have := List.length_filter_le (fun c => !decide (c ∈ zs)) ((lets.take i).map sg)
                rw [List.length_map, List.length_take] at this
                omega, hD1, trivial, fun _ _ _ h => h⟩
            refine lc_go walk_str L1 trivial (fun _ _ => trivial) (fun i x H2' H' hi I y => ?_) fun H9 I => ?_
            · obtain ⟨rfl, c, hc, rfl⟩ := y
              have ht9 := I.2.1.get trivial ht8
              have ep : (lets.take (i + 1)).map sg = (lets.take i).map sg ++ [sg c] := by rw [take_put (lets_at hc), List.map_append]; rfl
              walk_at "S"
              refine ⟨rfl, ?_⟩
              walk_at "S"
              refine ⟨t, _, rfl, .inl (sq_l ht9), rfl, flatV_strs zs, ?_⟩
              rw [inV_strs]
              walk_at "S"
              refine s_ndec (fun h => ?_) (fun h => ?_)
              · walk_at "S"
                refine I.put L1 hi ?_ Kp.refl trivial
                rw [ep, List.filter_append, List.map_append]
                congr 1
                rw [List.filter_cons_of_pos (by simpa using h)]
                rfl
              · refine I.skip L1 ?_ Kp.refl trivial
                rw [ep, List.filter_append, List.filter_cons_of_neg (by simpa using h)]
                simp
            obtain ⟨x1, k9, _⟩ := I
            dsimp only at x1
            rw [show List.take ("abcdefghijklmnopqrstuvwxyz" : Str).cps.size lets = lets from by decide +kernel] at x1
            obtain ⟨c, r, ecr⟩ : ∃ c r, (lets.map sg).filter (fun c => !decide (c ∈ zs)) = c :: r := by
              cases e : (lets.map sg).filter (fun c => !decide (c ∈ zs)) with
              | nil => exact absurd e (free_cand (by omega))
              | cons c r => exact ⟨c, r, rfl⟩
            rw [ecr] at x1
            have mc : c ∈ (lets.map sg).filter (fun c => !decide (c ∈ zs)) := by rw [ecr]; exact List.mem_cons_self
            rw [List.mem_filter] at mc
            walk_at "S"
            refine s_ixL (sq_l x1) (k := ((0 : Nat) : Int)) (atI_nat rfl) ?_
            walk_at "S"
            exact hJ _ _ ⟨c, rfl, ⟨(cands_ok c mc.1).1, (cands_ok c mc.1).2.1, (cands_ok c mc.1).2.2⟩, by simpa using mc.2, k08.tr (Kp.nil_W k9), hp8.kp k9 trivial⟩
          · walk_at "S"
            exact hJ _ _ ⟨z, rfl, hz, h, k08, hp8⟩
        · rintro σ H9 ⟨z, rfl, hz, nm, k09, hp9⟩
          have ht9 := k09.get ⟨npt.symm, trivial⟩ ht
          walk_at "S"
          refine s_append ht9 (small_lt (by rw [List.length_map]; omega)) ?_
          walk_at "S"
          refine q _ z ?_ (hp9.upd npt) (by rw [upd_same, List.map_append]; rfl) ⟨List.nodup_append.mpr ⟨tk.nd, List.pairwise_singleton _ _, fun a ha b hb e => nm (by rw [← List.mem_singleton.mp hb, ← e]; exact ha)⟩, fun y hy => ?_⟩
          · exact (k09.weak fun x hx => by rw [List.mem_singleton.mp hx]; exact List.mem_cons_self).upd_mem (by simp)
          · rcases List.mem_append.mp hy with hy | hy
            · exact tk.ok y hy
            · rw [List.mem_singleton.mp hy]; exact hz
end

theorem cut_to (xs : List V) (m : Nat) : cutV xs none (some (m : Int)) = xs.take m := by
  unfold cutV
  rw [HT.sIx_none, HT.sIx_nat, Nat.sub_zero, List.drop_zero]
  by_cases h : m ≤ xs.length
  · rw [Nat.min_eq_left h]
  · rw [Nat.min_eq_right (by omega), List.take_of_length_le (Nat.le_refl _), List.take_of_length_le (by omega)]
theorem cut_from (xs : List V) (m : Nat) : cutV xs (some (m : Int)) none = xs.drop m := by
  unfold cutV
  rw [HT.sIx_none, HT.sIx_nat]
  by_cases h : m ≤ xs.length
  · rw [Nat.min_eq_left h, List.take_of_length_le (by rw [List.length_drop]; exact Nat.le_refl _)]
  · rw [Nat.min_eq_right (by omega), Nat.sub_self, List.take_zero, List.drop_eq_nil_of_le (by omega)]
abbrev Hd := Str × Str
abbrev words4 : List Str := ["set", "late", "take", "draw"]
def hdV (h : Hd) : List V := [.str h.1, .str h.2]
/-- heads as they are told: a list of pairs -/
structure HdsAt (K : PySem.W.Frag) (H : Hp) (l : Addr) (xs : List V) (hs : List Hd) : Prop where
  at_ : H l = some (.lst xs)
  pr : Paired (fun (x : V) (h : Hd) => ∃ t, x = .ref t ∧ SqT K H t (hdV h)) xs hs
theorem HdsAt.kp {K : PySem.W.Frag} {H H' : Hp} {l : Addr} {xs : List V} {hs : List Hd} {W : List Addr} (h : HdsAt K H l xs hs) (k : Kp W H H') (n : Nin l W) (t : TupK H H') : HdsAt K H' l xs hs :=
  ⟨k.get n h.at_, Paired.mapP h.pr fun x y ⟨a, e, s⟩ => ⟨a, e, seqT_tups t s⟩⟩
theorem paired_app {α β : Type} {R : α → β → Prop} : ∀ {xs ys : List α} {us vs : List β}, Paired R xs us → Paired R ys vs → Paired R (xs ++ ys) (us ++ vs)
  | _, _, _, _, .nil, h => h
  | _, _, _, _, .cons a b, h => .cons a (paired_app b h)
structure HdOk (zs : List Str) (h : Hd) : Prop where
  wd : h.1 ∈ words4
  nm : h.2 ∈ zs
def spNumber : Sp := fun vs H Q _ => ∃ p : Addr, vs = [.ref p] ∧ PotOk H p ∧ ∀ H' (n : Int), Kp [p] H H' → PotOk H' p → n.natAbs < 10 ^ 60 → Q (.int n) H'
def spPlan (K : PySem.W.Frag) : Sp := fun vs H Q _ => ∃ (p B : Addr) (zs : List Str) (wy : Int), vs = [.ref p, .ref B, .int wy] ∧ PotOk H p ∧ H B = some (.lst (zs.map V.str)) ∧ zs ≠ [] ∧ zs.length ≤ 1000 ∧
  ∀ H' l xs hs, Kp [p] H H' → PotOk H' p → H l = none → HdsAt K H' l xs hs → (∀ h ∈ hs, HdOk zs h) → hs.length ≤ 40 → Q (.ref l) H'
def spDrawable (K : PySem.W.Frag) : Sp := fun vs H Q _ => ∃ (l : Addr) (xs : List V) (hs : List Hd) (wy : Int), vs = [.ref l, .int wy] ∧ HdsAt K H l xs hs ∧ hs.length ≤ 1000 ∧
  ∀ H' a (ys : List Str), Kp [] H H' → H a = none → H' a = some (.lst (ys.map V.str)) → (∀ y ∈ ys, y ∈ hs.map (·.2)) → ys.length ≤ hs.length → Q (.ref a) H'
section
variable {P : Program} {w : World} {K : PySem.W.Frag} {mg : Str → Option Value} {base : Heap}
theorem ok_l_number {f : Addr} {fd : FuncData} (F : Fun K "_law_number" "_law_number" s_l_number f fd) (T : Txt K mg )
    (D_l_draw : DnF P w K mg base 1 "_law_draw" ["_law_pot_here", "_law_size"] spDraw) :
    FnOk P w K mg base CX0 2 f fd ["_law_pot_here"] spNumber := by
  refine F.ok sc_l_number (fun vs H Q E h => ?_) (fun cdv A outer s H vs Q E hr h => ?_)
  · obtain ⟨p, rfl, _⟩ := h
    rfl
  · obtain ⟨f_l_draw, fd_l_draw, G_l_draw, m_l_draw, k_l_draw, b_l_draw⟩ := D_l_draw
    obtain ⟨p, rfl, hp, q⟩ := h
    have e : (10 : Int) ^ (60 : Int).toNat = 1000000000000000000000000000000000000000000000000000000000000 := by decide +kernel
    refine ⟨_, (pss_cons (ps_if (pt_cmpR op_eq (pe_call G_l_draw (hr.mono (by first | decide | omega)) (by rfl) m_l_draw k_l_draw b_l_draw .nil pass0 (pa_cons (pv 0) (pa_cons pe_int pa_nil))) pe_int (nomark _)) (pss_one (ps_ret (pe_op op_add (pe_op op_sub (pe_call G_l_draw (hr.mono (by first | decide | omega)) (by rfl) m_l_draw k_l_draw b_l_draw .nil pass0 (pa_cons (pv 0) (pa_cons (pe_op op_sub (pe_op op_mul pe_int (pe_op op_pow pe_int pe_int)) pe_int) pa_nil))) (pe_op op_pow pe_int pe_int)) pe_int))) pss_nil)
      (pss_one (ps_ret (pe_op op_sub (pe_call G_l_draw (hr.mono (by first | decide | omega)) (by rfl) m_l_draw k_l_draw b_l_draw .nil pass0 (pa_cons (pv 0) (pa_cons pe_int pa_nil))) pe_int)))), ?_⟩
    refine st_start (σ' := [some (.ref p)]) rfl ?_
    walk_at "S"
    refine ⟨p, _, rfl, hp, by omega, by omega, fun H1 v1 k1 hp1 a0 a1 => ?_⟩
    walk_at "S"
    refine s_dec (fun h => ?_) (fun h => ?_)
    · walk_at "S"
      rw [e]
      refine ⟨p, _, rfl, hp1, by omega, by omega, fun H2 v2 k2 hp2 b0 b1 => ?_⟩
      walk_at "S"
      rw [e]
      exact q _ _ (k1.tr k2) hp2 (by omega)
    · walk_at "S"
      refine ⟨p, _, rfl, hp1, by omega, by omega, fun H2 v2 k2 hp2 b0 b1 => ?_⟩
      walk_at "S"
      exact q _ _ (k1.tr k2) hp2 (by omega)
theorem ok_l_plan {f : Addr} {fd : FuncData} (F : Fun K "_law_plan" "_law_plan" s_l_plan f fd) (T : Txt K mg )
    (D_l_draw : DnF P w K mg base 1 "_law_draw" ["_law_pot_here", "_law_size"] spDraw) :
    FnOk P w K mg base CX0 2 f fd ["_law_pot_here", "_law_pool", "_law_way"] (spPlan K) := by
  refine F.ok sc_l_plan (fun vs H Q E h => ?_) (fun cdv A outer s H vs Q E hr h => ?_)
  · obtain ⟨p, B, zs, wy, rfl, _⟩ := h
    rfl
  · obtain ⟨f_l_draw, fd_l_draw, G_l_draw, m_l_draw, k_l_draw, b_l_draw⟩ := D_l_draw
    obtain ⟨p, B, zs, wy, rfl, hp, hB, nz, lz, q⟩ := h
    refine ⟨_, (pss_cons (ps_set (i := 3) sc_l_plan.nd rfl (Or.inl rfl) (pe_lst pa_nil))
      (pss_cons (ps_for PassesOwn.never rfl (pi_range1 rfl T.n_range (pa_cons (pe_call G_l_draw (hr.mono (by first | decide | omega)) (by rfl) m_l_draw k_l_draw b_l_draw .nil pass0 (pa_cons (pv 0) (pa_cons (pe_ix (ixLK (K := K) rfl) (pe_lst (pa_cons pe_int (pa_cons pe_int pa_nil))) (pe_op op_fdiv (pe_call G_l_draw (hr.mono (by first | decide | omega)) (by rfl) m_l_draw k_l_draw b_l_draw .nil pass0 (pa_cons (pv 0) (pa_cons pe_int pa_nil))) pe_int) (fun _ _ => rfl)) pa_nil))) pa_nil)) (pg_name (i := 4) sc_l_plan.nd rfl (Or.inl rfl)) (pss_cons (ps_set (i := 5) sc_l_plan.nd rfl (Or.inl rfl) (pe_ix (ixLK (K := K) rfl) (pe_lst (pa_cons pe_str (pa_cons pe_str (pa_cons pe_str (pa_cons pe_str (pa_cons pe_str (pa_cons pe_str (pa_cons pe_str pa_nil)))))))) (pe_call G_l_draw (hr.mono (by first | decide | omega)) (by rfl) m_l_draw k_l_draw b_l_draw .nil pass0 (pa_cons (pv 0) (pa_cons pe_int pa_nil))) (fun _ _ => rfl)))
      (pss_one (ps_expr (kBM (K := K) rfl (pe_bm PySem.F.plainAttrs_list PySem.F.slot_list_append PySem.F.type_list_append mt_append (pv 3) (pa_cons (pe_tup (pa_cons (pv 5) (pa_cons (pe_ix (ixLK (K := K) rfl) (pv 1) (pe_call G_l_draw (hr.mono (by first | decide | omega)) (by rfl) m_l_draw k_l_draw b_l_draw .nil pass0 (pa_cons (pv 0) (pa_cons (pe_callB (lenK (K := K) rfl) (by rfl) T.n_len (by decide +kernel) (pa_cons (pv 1) pa_nil)) pa_nil))) (fun _ _ => rfl)) pa_nil))) pa_nil)))))))
      (pss_cut2 (ps_if (pt_cmpR op_eq (pv 2) pe_int (nomark _)) (pss_cons (ps_setLc (i := 6) (own := [("_law_row_here", 7)]) (g := gName 7) rfl sc_l_plan.nd rfl rfl (sw_true rfl rfl rfl (by decide +kernel)) (kiL (K := K) rfl (pi_list (pv 3))) (blkOk_by (own := [("_law_row_here", 7)]) (N := N_l_plan) (sc := (defScope s_l_plan)) (by decide +kernel)) (fun _ _ _ _ _ => (pg_name (i := 7) sc_l_plan.nd rfl (Or.inl rfl))) (fun _ _ _ _ _ => (pts_one (pt_cmpR (inK (K := K) rfl) (pe_ix (ixTK (K := K) rfl) (pv 7) pe_int (fun _ _ => rfl)) (pe_tup (pa_cons pe_str (pa_cons pe_str pa_nil))) (by rfl)))) (fun _ _ _ _ _ => (pv 7)))
      (pss_one (ps_set (i := 3) sc_l_plan.nd rfl (Or.inl rfl) (pe_op op_cat (pv 6) (pe_lc (own := [("_law_row_here", 7)]) (g := gName 7) rfl sc_l_plan.nd (kiL (K := K) rfl (pi_list (pv 3))) (blkOk_by (own := [("_law_row_here", 7)]) (N := N_l_plan) (sc := (defScope s_l_plan)) (by decide +kernel)) (fun _ _ _ _ _ => (pg_name (i := 7) sc_l_plan.nd rfl (Or.inl rfl))) (fun _ _ _ _ _ => (pts_one (pt_cmpR (inK (K := K) rfl) (pe_ix (ixTK (K := K) rfl) (pv 7) pe_int (fun _ _ => rfl)) (pe_tup (pa_cons pe_str (pa_cons pe_str pa_nil))) (by rfl)))) (fun _ _ _ _ _ => (pv 7))))))) pss_nil)
      (pss_one (ps_ret (pv 3)))))), ?_⟩
    refine st_start (σ' := [some (.ref p), some (.ref B), some (.int wy), none, none, none, none, none]) rfl ?_
    walk_at "S"
    refine ⟨small_le (by simp), fun RL hRL => ?_⟩
    have npR := hp.ne hRL
    have k1 := kp_new (o := .lst []) hRL
    have hp1 := hp.upd npR (o := .lst [])
    have hB1 := k1.get trivial hB
    have eR1 : upd H RL (.lst []) RL = some (.lst []) := upd_same
    have kA : Kp [p] H (upd H RL (.lst [])) := Kp.nil_W k1
    have nRB : B ≠ RL := ne_of_none hB hRL
    have npB := pot_strs hp hB
    generalize upd H RL (.lst []) = H1 at *
    walk_at "S"
    refine ⟨small_le (by simp), fun l2 hl2 => ?_⟩
    have k2 := kp_new (o := .lst [.int 7, .int 41]) hl2
    have hp2 := hp1.kp k2 trivial
    have el2 : upd H1 l2 (.lst [.int 7, .int 41]) l2 = some (.lst [.int 7, .int 41]) := upd_same
    have hB2 := k2.get trivial hB1
    have eR2 := k2.get trivial eR1
    have kA := kA.tr (Kp.nil_W k2)
    have npl2 := hp1.ne hl2
    generalize upd H1 l2 (.lst [.int 7, .int 41]) = H2 at *
    walk_at "S"
    refine ⟨p, _, rfl, hp2, by omega, by omega, fun H3 v3 k3 hp3 a0 a1 => ?_⟩
    have el3 := k3.get (nin1' npl2) el2
    have hB3 := k3.get (nin1' npB) hB2
    have eR3 := k3.get (nin1' npR) eR2
    have kA := kA.tr k3
    walk_at "S"
    obtain ⟨m, mm, em⟩ : ∃ m : Int, (m = 7 ∨ m = 41) ∧ atI [V.int 7, V.int 41] (v3 / 11) = some (.int m) := by
      rcases (show v3 / 11 = 0 ∨ v3 / 11 = 1 by omega) with e | e
      · exact ⟨7, .inl rfl, by rw [e]; rfl⟩
      · exact ⟨41, .inr rfl, by rw [e]; rfl⟩
    refine s_ixL (sq_l el3) em ?_
    walk_at "S"
    refine ⟨p, _, rfl, hp3, by omega, by omega, fun H4 v4 k4 hp4 b0 b1 => ?_⟩
    have hB4 := k4.get (nin1' npB) hB3
    have eR4 := k4.get (nin1' npR) eR3
    have kA := kA.tr k4
    walk_at "S"
    refine ⟨by omega, by omega, ?_⟩
    have lzs := List.length_pos_iff.mpr nz
    refine for_go walk_range (fun i σ Hi => ∃ (xs : List V) (hs : List Hd) (o4 o5 : Option V), σ = [some (.ref p), some (.ref B), some (.int wy), some (.ref RL), o4, o5, none, none] ∧ Kp [p] H Hi ∧ PotOk Hi p ∧ Hi B = some (.lst (zs.map V.str)) ∧ HdsAt K Hi RL xs hs ∧ (∀ h ∈ hs, HdOk zs h) ∧ hs.length = i)
      ⟨[], [], _, _, rfl, kA, hp4, hB4, ⟨eR4, .nil⟩, (fun h hh => nomatch hh), rfl⟩ (fun _ _ _ _ _ => trivial) (fun i x σ Ha Hb hi I y => ?_) fun σ H5 I => ?_
    · obtain ⟨rfl, rfl⟩ := y
      obtain ⟨xs, hs, o4, o5, rfl, kI, hpI, hBI, hdI, okI, li⟩ := I
      have lxs : xs.length = hs.length := Paired.length hdI.pr
      walk_at "S"
      refine ⟨small_le (by simp), fun l7 hl7 => ?_⟩
      have k7 := kp_new (o := .lst [.str "set", .str "late", .str "take", .str "take", .str "draw", .str "draw", .str "draw"]) hl7
      have el7 : upd Hb l7 (.lst [.str "set", .str "late", .str "take", .str "take", .str "draw", .str "draw", .str "draw"]) l7 = some (.lst ((["set", "late", "take", "take", "draw", "draw", "draw"] : List Str).map V.str)) := upd_same
      have npl7 := hpI.ne hl7
      have hp7 := hpI.kp k7 trivial
      have hB7 := k7.get trivial hBI
      have hd7 := hdI.kp k7 trivial (TupK.same k7)
      have kJ := kI.tr (Kp.nil_W k7)
      generalize upd Hb l7 (.lst [.str "set", .str "late", .str "take", .str "take", .str "draw", .str "draw", .str "draw"]) = Hc at *
      walk_at "S"
      refine ⟨p, _, rfl, hp7, by omega, by omega, fun Hd_ v k8 hp8 c0 c1 => ?_⟩
      obtain ⟨j, wd, rfl, hj, ej, mw, aw⟩ := pickM (xs := (["set", "late", "take", "take", "draw", "draw", "draw"] : List Str)) (g := V.str) c0 (by simpa using c1)
      have hB8 := k8.get (nin1' npB) hB7
      have hd8 := hd7.kp k8 (nin1' npR) (tup_pot k8 hp7)
      have kK := kJ.tr k8
      refine s_ixL (sq_l (k8.get (nin1' npl7) el7)) aw ?_
      have mw4 : wd ∈ words4 := by
        simp only [List.mem_cons, List.not_mem_nil, or_false] at mw ⊢
        rcases mw with h | h | h | h | h | h | h <;> simp [h]
      have ed8 := hd8.at_
      walk_at "S"
      rw [List.length_map]
      refine ⟨p, _, rfl, hp8, by omega, by omega, fun He v9 k9 hp9 d0 d1 => ?_⟩
      obtain ⟨j2, z, rfl, hj2, ej2, mz, az⟩ := pickM (xs := zs) (g := V.str) d0 (by omega)
      have hB9 := k9.get (nin1' npB) hB8
      have hd9 := hd8.kp k9 (nin1' npR) (tup_pot k9 hp8)
      have kL := kK.tr k9
      refine s_ixL (sq_l hB9) az ?_
      walk_at "S"
      refine ⟨small_le (by simp), fun t ht => ?_⟩
      have kt := kp_new (o := .tup [.str wd, .str z]) ht
      have hp10 := hp9.kp kt trivial
      have hB10 := kt.get trivial hB9
      have hd10 := hd9.kp kt trivial (TupK.same kt)
      have sqt : SqT K (upd He t (.tup [.str wd, .str z])) t (hdV (wd, z)) := sq_t upd_same
      have kM := kL.tr (Kp.nil_W kt)
      generalize upd He t (.tup [.str wd, .str z]) = Hf at *
      walk_at "S"
      refine s_append hd10.at_ (small_lt (by omega)) ?_
      have tk : TupK Hf (upd Hf RL (.lst (xs ++ [.ref t]))) := (Keep.one hd10.at_ (.lst _)).tup
      refine ⟨_, hs ++ [(wd, z)], _, _, rfl, kM.upd_loc hRL, hp10.upd npR, (upd_ne nRB).trans hB10, ⟨upd_same, Paired.snoc (Paired.mapP hd10.pr fun x y ⟨a, e, s⟩ => ⟨a, e, seqT_tups tk s⟩) ⟨t, rfl, seqT_tups tk sqt⟩⟩, fun h hh => ?_, by rw [List.length_append, li]; rfl⟩
      rcases List.mem_append.mp hh with hh | hh
      · exact okI h hh
      · rw [List.mem_singleton.mp hh]
        exact ⟨mw4, mz⟩
    · obtain ⟨xs, hs, o4, o5, rfl, kI, hpI, hBI, hdI, okI, li⟩ := I
      walk_at "S"
      have li40 : hs.length ≤ 40 := by omega
      refine s_cut (fun σ Hq => ∃ (RL' : Addr) (xs' : List V) (hs' : List Hd) (o6 : Option V), σ = [some (.ref p), some (.ref B), some (.int wy), some (.ref RL'), o4, o5, o6, none] ∧ Kp [p] H Hq ∧ PotOk Hq p ∧ H RL' = none ∧ HdsAt K Hq RL' xs' hs' ∧ (∀ h ∈ hs', HdOk zs h) ∧ hs'.length ≤ 40) (fun J hJ => ?_) ?_
      · walk_at "S"
        refine s_dec (fun hw => ?_) (fun hw => ?_)
        · have lxs : xs.length = hs.length := Paired.length hdI.pr
          have filt : ∀ (w1 w2 : Str) (H5 : Hp) (D : Addr), HdsAt K H5 RL xs hs → H5 D = none → True := fun _ _ _ _ _ _ => trivial
          clear filt
          have edI := hdI.at_
          walk_at "S"
          refine ⟨⟨_, sq_l edI⟩, fun DA hDA => ?_⟩
          refine lc_goH (walk_list (K := K) (a := RL) (xs := xs)) (W := []) (PL := fun i ys H' => Paired (fun (x : V) (h : Hd) => ∃ t, x = .ref t ∧ SqT K H' t (hdV h)) ys ((hs.take i).filter fun h => decide (h.1 ∈ (["set", "late"] : List Str)))) hDA .nil (fun Hq kq => sq_l (kq.get trivial edI)) (fun i x Ha Hb hi Ib y => ?_) fun H6 I6 => ?_
          · obtain ⟨rfl, hx⟩ := y
            obtain ⟨ys, ey, py, ly, k0⟩ := Ib
            obtain ⟨hd, eh, t, rfl, sq⟩ := pairG hdI.pr hx
            have sq := k0.seqT trivial sq
            have acc : (hs.take (i + 1)).filter (fun h => decide (h.1 ∈ (["set", "late"] : List Str))) = (hs.take i).filter (fun h => decide (h.1 ∈ (["set", "late"] : List Str))) ++ (if hd.1 ∈ (["set", "late"] : List Str) then [hd] else []) := by
              rw [take_put eh, List.filter_append, List.filter_cons]
              by_cases c : hd.1 ∈ (["set", "late"] : List Str)
              · simp only [c, decide_true, if_true, List.filter_nil]
              · simp only [c, decide_false, Bool.false_eq_true, if_false, List.filter_nil]
            walk_at "S"
            refine ⟨rfl, ?_⟩
            walk_at "S"
            refine ⟨small_le (by simp), fun t2 ht2 => ?_⟩
            have k2 := kp_new (o := .tup [.str "set", .str "late"]) ht2
            walk_at "S"
            refine ⟨t2, (["set", "late"] : List Str).map V.str, rfl, .inr (sq_t upd_same), rfl, flatV_strs _, ?_⟩
            rw [inV_strs]
            walk_at "S"
            have py2 := Paired.mapP (G := fun (x : V) (h : Hd) => ∃ t, x = .ref t ∧ SqT K (upd Hb t2 (.tup [.str "set", .str "late"])) t (hdV h)) py fun x y ⟨a, e, s⟩ => ⟨a, e, k2.seqT trivial s⟩
            refine s_dec (fun c => ?_) (fun c => ?_)
            · walk_at "S"
              refine LcInvH.put (k2.get trivial ey |> fun _ => ey) ly k0 hDA trivial k2 (small_lt (by omega)) ?_
              rw [acc, if_pos c]
              have ey2 := k2.get trivial ey
              have tk := (Keep.one (o' := .lst (ys ++ [.ref t])) ey2 (.lst _)).tup
              exact Paired.snoc (Paired.mapP py2 fun x y ⟨a, e, s⟩ => ⟨a, e, seqT_tups tk s⟩) ⟨t, rfl, seqT_tups tk (k2.seqT trivial sq)⟩
            · refine ⟨ys, k2.get trivial ey, ?_, by omega, k0.tr k2⟩
              dsimp only
              rw [acc, if_neg c, List.append_nil]
              exact py2
          · obtain ⟨ys, ey, py, ly, k6⟩ := I6
            rw [List.take_of_length_le (by omega)] at py
            have hdJ := hdI.kp k6 trivial (TupK.same k6)
            have edJ := hdJ.at_
            walk_at "S"
            refine ⟨⟨_, sq_l edJ⟩, fun DB hDB => ?_⟩
            refine lc_goH (walk_list (K := K) (a := RL) (xs := xs)) (W := []) (PL := fun i ys H' => Paired (fun (x : V) (h : Hd) => ∃ t, x = .ref t ∧ SqT K H' t (hdV h)) ys ((hs.take i).filter fun h => decide (h.1 ∈ (["take", "draw"] : List Str)))) hDB .nil (fun Hq kq => sq_l (kq.get trivial edJ)) (fun i x Ha Hb hi Ib y => ?_) fun H7 I7 => ?_
            · obtain ⟨rfl, hx⟩ := y
              obtain ⟨ys, ey, py, ly, k0⟩ := Ib
              obtain ⟨hd, eh, t, rfl, sq⟩ := pairG hdJ.pr hx
              have sq := k0.seqT trivial sq
              have acc : (hs.take (i + 1)).filter (fun h => decide (h.1 ∈ (["take", "draw"] : List Str))) = (hs.take i).filter (fun h => decide (h.1 ∈ (["take", "draw"] : List Str))) ++ (if hd.1 ∈ (["take", "draw"] : List Str) then [hd] else []) := by
                rw [take_put eh, List.filter_append, List.filter_cons]
                by_cases c : hd.1 ∈ (["take", "draw"] : List Str)
                · simp only [c, decide_true, if_true, List.filter_nil]
                · simp only [c, decide_false, Bool.false_eq_true, if_false, List.filter_nil]
              walk_at "S"
              refine ⟨rfl, ?_⟩
              walk_at "S"
              refine ⟨small_le (by simp), fun t2 ht2 => ?_⟩
              have k2 := kp_new (o := .tup [.str "take", .str "draw"]) ht2
              walk_at "S"
              refine ⟨t2, (["take", "draw"] : List Str).map V.str, rfl, .inr (sq_t upd_same), rfl, flatV_strs _, ?_⟩
              rw [inV_strs]
              walk_at "S"
              have py2 := Paired.mapP (G := fun (x : V) (h : Hd) => ∃ t, x = .ref t ∧ SqT K (upd Hb t2 (.tup [.str "take", .str "draw"])) t (hdV h)) py fun x y ⟨a, e, s⟩ => ⟨a, e, k2.seqT trivial s⟩
              refine s_dec (fun c => ?_) (fun c => ?_)
              · walk_at "S"
                refine LcInvH.put (k2.get trivial ey |> fun _ => ey) ly k0 hDB trivial k2 (small_lt (by omega)) ?_
                rw [acc, if_pos c]
                have ey2 := k2.get trivial ey
                have tk := (Keep.one (o' := .lst (ys ++ [.ref t])) ey2 (.lst _)).tup
                exact Paired.snoc (Paired.mapP py2 fun x y ⟨a, e, s⟩ => ⟨a, e, seqT_tups tk s⟩) ⟨t, rfl, seqT_tups tk (k2.seqT trivial sq)⟩
              · refine ⟨ys, k2.get trivial ey, ?_, by omega, k0.tr k2⟩
                dsimp only
                rw [acc, if_neg c, List.append_nil]
                exact py2
            · obtain ⟨ys2, ey2, py2, ly2, k7⟩ := I7
              rw [List.take_of_length_le (by omega)] at py2
              have eyA := k7.get trivial ey
              have pyA := Paired.mapP (G := fun (x : V) (h : Hd) => ∃ t, x = .ref t ∧ SqT K H7 t (hdV h)) py fun x y ⟨a, e, s⟩ => ⟨a, e, k7.seqT trivial s⟩
              walk_at "S"
              have lsum : (hs.filter fun h => decide (h.1 ∈ (["set", "late"] : List Str))).length + (hs.filter fun h => decide (h.1 ∈ (["take", "draw"] : List Str))).length = hs.length := by
                have all : ∀ l : List Hd, (∀ h ∈ l, HdOk zs h) → (l.filter fun h => decide (h.1 ∈ (["set", "late"] : List Str))).length + (l.filter fun h => decide (h.1 ∈ (["take", "draw"] : List Str))).length = l.length := fun l => by
                  induction l with
                  | nil => exact fun _ => rfl
                  | cons h r ih =>
                    intro ok
                    have ih := ih fun x hx => ok x (List.mem_cons_of_mem _ hx)
                    have := (ok h List.mem_cons_self).wd
                    simp only [List.mem_cons, List.not_mem_nil, or_false] at this
                    rw [List.filter_cons, List.filter_cons, List.length_cons]
                    rcases this with e | e | e | e
                    · rw [e, if_pos (by decide +kernel), if_neg (by decide +kernel), List.length_cons]; omega
                    · rw [e, if_pos (by decide +kernel), if_neg (by decide +kernel), List.length_cons]; omega
                    · rw [e, if_neg (by decide +kernel), if_pos (by decide +kernel), List.length_cons]; omega
                    · rw [e, if_neg (by decide +kernel), if_pos (by decide +kernel), List.length_cons]; omega
                exact all hs okI
              have l1 := Paired.length pyA
              have l2 := Paired.length py2
              refine s_cat eyA ey2 (small_le (by omega)) fun RN hRN => ?_
              have k8 := kp_new (o := .lst (ys ++ ys2)) hRN
              have k58 := k6.tr (k7.tr k8)
              walk_at "S"
              refine hJ _ _ ⟨RN, _, (hs.filter fun h => decide (h.1 ∈ (["set", "late"] : List Str))) ++ hs.filter fun h => decide (h.1 ∈ (["take", "draw"] : List Str)), _, rfl, kI.tr (Kp.nil_W k58), hpI.kp k58 trivial, ?_, ⟨upd_same, paired_app (Paired.mapP pyA fun x y ⟨a, e, s⟩ => ⟨a, e, k8.seqT trivial s⟩) (Paired.mapP py2 fun x y ⟨a, e, s⟩ => ⟨a, e, k8.seqT trivial s⟩)⟩, fun h hh => ?_, by rw [List.length_append, lsum]; exact li40⟩
              · exact (kI.tr (Kp.nil_W (k6.tr k7))).free ⟨((hpI.kp (k6.tr k7) trivial).ne hRN).symm, trivial⟩ hRN
              · rcases List.mem_append.mp hh with hh | hh
                · exact okI h (List.mem_filter.mp hh).1
                · exact okI h (List.mem_filter.mp hh).1
        · walk_at "S"
          exact hJ _ _ ⟨RL, xs, hs, _, rfl, kI, hpI, hRL, hdI, okI, li40⟩
      · rintro σ Hq ⟨RL', xs', hs', o6, rfl, kq, hpq, hn, hdq, okq, lq⟩
        walk_at "S"
        exact q _ RL' xs' hs' kq hpq hn hdq okq lq
theorem ok_l_drawable {f : Addr} {fd : FuncData} (F : Fun K "_law_drawable" "_law_drawable" s_l_drawable f fd) (T : Txt K mg )
     :
    FnOk P w K mg base CX0 1 f fd ["_law_plan_here", "_law_way"] (spDrawable K) := by
  refine F.ok sc_l_drawable (fun vs H Q E h => ?_) (fun cdv A outer s H vs Q E hr h => ?_)
  · obtain ⟨l, xs, hs, wy, rfl, _⟩ := h
    rfl
  · obtain ⟨l, xs, hs, wy, rfl, hd, lh, q⟩ := h
    have lxs : xs.length = hs.length := Paired.length hd.pr
    refine ⟨_, (pss_cons (ps_set (i := 2) sc_l_drawable.nd rfl (Or.inl rfl) (pe_lst pa_nil))
      (pss_cons (ps_for PassesOwn.never rfl (kiL (K := K) rfl (pi_list (pv 0))) (kgT (K := K) rfl (pg_tup rfl (pgs_cons (pg_name (i := 3) sc_l_drawable.nd rfl (Or.inl rfl)) (pgs_cons (pg_name (i := 4) sc_l_drawable.nd rfl (Or.inr rfl)) pgs_nil)))) (pss_cons (ps_set (i := 5) sc_l_drawable.nd rfl (Or.inl rfl) (pe_ix (ixLK (K := K) rfl) (pe_lc (own := [("_law_other", 6), ("_law_one", 7)]) (g := gTup K 2 (gCons (gName 6) (gCons (gName 7) gNil))) rfl sc_l_drawable.nd (kiL (K := K) rfl (pi_list (pv 0))) (blkOk_by (own := [("_law_other", 6), ("_law_one", 7)]) (N := N_l_drawable) (sc := (defScope s_l_drawable)) (by decide +kernel)) (fun _ _ _ _ _ => (kgT (K := K) rfl (pg_tup rfl (pgs_cons (pg_name (i := 6) sc_l_drawable.nd rfl (Or.inl rfl)) (pgs_cons (pg_name (i := 7) sc_l_drawable.nd rfl (Or.inl rfl)) pgs_nil))))) (fun _ _ _ _ _ => (pts_one (pt_cmpR op_eq (pv 7) (pv 4) (nomark _)))) (fun _ _ _ _ _ => (pv 6))) pe_int (fun _ _ => rfl)))
      (pss_one (ps_if (PW.pt (pw_or (pt_cmpR op_lt (pv 1) pe_int (nomark _)) (pw_or1 (pt_cmpR (inK (K := K) rfl) (pv 5) (pe_tup (pa_cons pe_str (pa_cons pe_str pa_nil))) (by rfl))))) (pss_one (ps_expr (kBM (K := K) rfl (pe_bm PySem.F.plainAttrs_list PySem.F.slot_list_append PySem.F.type_list_append mt_append (pv 2) (pa_cons (pv 4) pa_nil))))) pss_nil))))
      (pss_one (ps_ret (pv 2))))), ?_⟩
    refine st_start (σ' := [some (.ref l), some (.int wy), none, none, none, none, none, none]) rfl ?_
    walk_at "S"
    refine ⟨small_le (by simp), fun fl hfl => ?_⟩
    have k1 := kp_new (o := .lst []) hfl
    have efl : upd H fl (.lst []) fl = some (.lst (([] : List Str).map V.str)) := upd_same
    have hd1 := hd.kp k1 trivial (TupK.same k1)
    have nlf : l ≠ fl := ne_of_none hd.at_ hfl
    generalize upd H fl (.lst []) = H1 at *
    walk_at "S"
    have ed1 := hd1.at_
    refine ⟨⟨_, sq_l ed1⟩, ?_⟩
    refine for_go (walk_list (K := K) (a := l) (xs := xs)) (fun i σ Hi => ∃ (ys : List Str) (o3 o4 o5 : Option V), σ = [some (.ref l), some (.int wy), some (.ref fl), o3, o4, o5, none, none] ∧ Kp [] H Hi ∧ Hi fl = some (.lst (ys.map V.str)) ∧ HdsAt K Hi l xs hs ∧ (∀ y ∈ ys, y ∈ hs.map (·.2)) ∧ ys.length ≤ i)
      ⟨[], _, _, _, rfl, k1, efl, hd1, (fun y hy => nomatch hy), Nat.le_refl _⟩ (fun i σ Hi _ I => by obtain ⟨_, _, _, _, rfl, _, _, h, _⟩ := I; exact sq_l h.at_) (fun i x σ Ha Hb hi I y => ?_) fun σ Hb I => ?_
    · obtain ⟨rfl, hx⟩ := y
      obtain ⟨ys, o3, o4, o5, rfl, kI, efI, hdI, okI, lI⟩ := I
      obtain ⟨hd0, eh, t, rfl, sq⟩ := pairG hdI.pr hx
      obtain ⟨wd, bd⟩ := hd0
      have mh := List.mem_of_getElem? eh
      have edI := hdI.at_
      refine s_gtup (xs := [.str wd, .str bd]) sq rfl ?_
      walk_at "S"
      refine ⟨⟨_, sq_l edI⟩, fun D hD => ?_⟩
      have LC : LcOk D xs.length (fun i => (((hs.take i).filter fun h => decide (h.2 = bd)).map (·.1)).map V.str) [] Hb (fun _ _ => True) := ⟨small_le (by omega), rfl, fun i hi => by
        rw [List.length_map, List.length_map]
        refine Nat.le_trans (List.length_filter_le _ _) ?_
        rw [List.length_take]
        omega, hD, trivial, fun _ _ _ h => h⟩
      refine lc_go (walk_list (K := K) (a := l) (xs := xs)) LC trivial (fun Hq kq => sq_l (kq.get trivial edI)) (fun j x Hc Hd_ hj Ib y => ?_) fun H4 I4 => ?_
      · obtain ⟨rfl, hx2⟩ := y
        obtain ⟨h2, eh2, t2, rfl, sq2⟩ := pairG hdI.pr hx2
        obtain ⟨w2, b2⟩ := h2
        have sq2 := Ib.2.1.seqT trivial sq2
        have acc : (((hs.take (j + 1)).filter fun h => decide (h.2 = bd)).map (·.1)).map V.str = (((hs.take j).filter fun h => decide (h.2 = bd)).map (·.1)).map V.str ++ (if b2 = bd then [V.str w2] else []) := by
          rw [take_put eh2, List.filter_append, List.filter_cons]
          by_cases c : b2 = bd
          · simp [c]
          · simp [c]
        refine s_gtup (xs := [.str w2, .str b2]) sq2 rfl ?_
        walk_at "S"
        refine ⟨rfl, ?_⟩
        walk_at "S"
        refine s_dec (fun c => ?_) (fun c => ?_)
        · walk_at "S"
          refine Ib.put LC hj ?_ Kp.refl trivial
          rw [acc, if_pos (V.str.inj c)]
        · refine Ib.skip LC ?_ Kp.refl trivial
          rw [acc, if_neg (fun e => c (by rw [e])), List.append_nil]
      · obtain ⟨x4, k4, _⟩ := I4
        dsimp only at x4
        rw [List.take_of_length_le (by omega)] at x4
        obtain ⟨w0, r0, e0⟩ : ∃ w0 r0, ((hs.filter fun h => decide (h.2 = bd)).map (·.1)) = w0 :: r0 := by
          have m : (wd, bd) ∈ hs.filter fun h => decide (h.2 = bd) := List.mem_filter.mpr ⟨mh, by simp⟩
          cases e : hs.filter fun h => decide (h.2 = bd) with
          | nil => rw [e] at m; cases m
          | cons a r => exact ⟨_, _, rfl⟩
        rw [e0] at x4
        have efJ := k4.get trivial efI
        have hdJ := hdI.kp k4 trivial (TupK.same k4)
        have kJ := kI.tr k4
        walk_at "S"
        refine s_ixL (sq_l x4) (k := ((0 : Nat) : Int)) (atI_nat rfl) ?_
        walk_at "S"
        have mb : bd ∈ hs.map (·.2) := List.mem_map.mpr ⟨_, mh, rfl⟩
        have lys : ys.length ≤ 1000 := by omega
        have put : ∀ Hq, Kp [] H4 Hq → Kp [] H (upd Hq fl (.lst ((ys ++ [bd]).map V.str))) ∧ upd Hq fl (.lst ((ys ++ [bd]).map V.str)) fl = some (.lst ((ys ++ [bd]).map V.str)) ∧ HdsAt K (upd Hq fl (.lst ((ys ++ [bd]).map V.str))) l xs hs ∧ (∀ y ∈ ys ++ [bd], y ∈ hs.map (·.2)) ∧ (ys ++ [bd]).length ≤ i + 1 := fun Hq kq => by
          have efq := kq.get trivial efJ
          have hdq := hdJ.kp kq trivial (TupK.same kq)
          have k : Kp [fl] Hq (upd Hq fl (.lst ((ys ++ [bd]).map V.str))) := Kp.refl.upd_mem List.mem_cons_self
          refine ⟨(kJ.tr kq).upd_loc hfl, upd_same, hdq.kp k ⟨nlf, trivial⟩ (Keep.one efq (.lst _)).tup, fun y hy => ?_, by rw [List.length_append, List.length_singleton]; omega⟩
          rcases List.mem_append.mp hy with hy | hy
          · exact okI y hy
          · rw [List.mem_singleton.mp hy]; exact mb
        refine s_bool (fun c => ?_) (fun c => ?_)
        · walk_at "S"
          refine s_append efJ (small_lt (by rw [List.length_map]; omega)) ?_
          obtain ⟨p1, p2, p3, p4, p5⟩ := put _ Kp.refl
          rw [List.map_append] at p1 p2 p3
          exact ⟨ys ++ [bd], _, _, _, rfl, p1, by rw [List.map_append]; exact p2, p3, p4, p5⟩
        · walk_at "S"
          refine ⟨small_le (by simp), fun t2 ht2 => ?_⟩
          have k2 := kp_new (o := .tup [.str "set", .str "late"]) ht2
          walk_at "S"
          refine ⟨t2, (["set", "late"] : List Str).map V.str, rfl, .inr (sq_t upd_same), rfl, flatV_strs _, ?_⟩
          rw [inV_strs]
          walk_at "S"
          have ef2 := k2.get trivial efJ
          refine s_dec (fun c2 => ?_) (fun c2 => ?_)
          · walk_at "S"
            refine s_append ef2 (small_lt (by rw [List.length_map]; omega)) ?_
            obtain ⟨p1, p2, p3, p4, p5⟩ := put _ k2
            rw [List.map_append] at p1 p2 p3
            exact ⟨ys ++ [bd], _, _, _, rfl, p1, by rw [List.map_append]; exact p2, p3, p4, p5⟩
          · walk_at "S"
            exact ⟨ys, _, _, _, rfl, kJ.tr k2, ef2, hdJ.kp k2 trivial (TupK.same k2), okI, by omega⟩
    · obtain ⟨ys, o3, o4, o5, rfl, kI, efI, hdI, okI, lI⟩ := I
      walk_at "S"
      exact q _ fl ys kI hfl efI okI (by omega)
end

abbrev Plans := List (Str × List Hd)
structure PlansAt (K : PySem.W.Frag) (H : Hp) (D : Addr) (pkv : List (Key × V)) (ps : Plans) : Prop where
  at_ : H D = some (.dK pkv)
  nm : NmR (fun hs v => ∃ l xs, v = V.ref l ∧ HdsAt K H l xs hs) ps pkv
theorem pot_hds {K : PySem.W.Frag} {H : Hp} {p l : Addr} {xs : List V} {hs : List Hd} (h : PotOk H p) (g : HdsAt K H l xs hs) : p ≠ l := by
  rintro rfl
  obtain ⟨s, e⟩ := h
  have e2 := g.at_
  rw [e] at e2
  have pr := g.pr
  cases e2
  cases pr with
  | cons a _ => obtain ⟨t, e, _⟩ := a; cases e
theorem pot_dK {H : Hp} {p d : Addr} {kvs : List (Key × V)} (h : PotOk H p) (e : H d = some (.dK kvs)) : p ≠ d := by
  rintro rfl
  obtain ⟨s, e1⟩ := h
  rw [e1] at e
  cases e
theorem PlansAt.same {K : PySem.W.Frag} {H H' : Hp} {D : Addr} {pkv : List (Key × V)} {ps : Plans} (h : PlansAt K H D pkv ps) (k : Kp [] H H') : PlansAt K H' D pkv ps :=
  ⟨k.get trivial h.at_, h.nm.mono fun hs v ⟨l, xs, e, g⟩ => ⟨l, xs, e, g.kp k trivial (TupK.same k)⟩⟩
theorem PlansAt.pot {K : PySem.W.Frag} {H H' : Hp} {D p : Addr} {pkv : List (Key × V)} {ps : Plans} (h : PlansAt K H D pkv ps) (hp : PotOk H p) (k : Kp [p] H H') : PlansAt K H' D pkv ps :=
  ⟨k.get (nin1' (pot_dK hp h.at_)) h.at_, h.nm.mono fun hs v ⟨l, xs, e, g⟩ => ⟨l, xs, e, g.kp k (nin1' (pot_hds hp g)) (tup_pot k hp)⟩⟩
structure PlansOk (zs : List Str) (ps : Plans) : Prop where
  nd : (ps.map (·.1)).Nodup
  few : ps.length ≤ 16
  nm : ∀ e ∈ ps, OkN e.1
  bd : ∀ e ∈ ps, ∀ h ∈ e.2, HdOk zs h
  zok : ∀ z ∈ zs, OkN z
  len : ∀ e ∈ ps, e.2.length ≤ 40
/-- a row that goes with plans -/
def RowP (ps : Plans) : PH.Row → Prop
  | .set x n => NmOk x ∧ n.natAbs < 10 ^ 400
  | .late x q => NmOk x ∧ PthOk q
  | .take x p => NmOk x ∧ PthOk p ∧ p ∈ ps.map (·.1)
  | .draw x p y => NmOk x ∧ PthOk p ∧ NmOk y ∧ ∃ hs, getA ps p = some hs ∧ y ∈ hs.map (·.2)
  | _ => False
theorem RowP.w {ps : Plans} {r : PH.Row} (h : RowP ps r) : PlainW r := by
  cases r <;> first | trivial | exact h.elim
def spRow (K : PySem.W.Frag) : Sp := fun vs H Q _ => ∃ (p t D : Addr) (pkv : List (Key × V)) (ps : Plans) (zs : List Str) (at_ : Nat) (wy : Int) (wd bd : Str), vs = [.ref p, .ref t, .ref D, .int (at_ : Nat), .int wy] ∧ PotOk H p ∧ SqT K H t (hdV (wd, bd)) ∧ PlansAt K H D pkv ps ∧ PlansOk zs ps ∧ HdOk zs (wd, bd) ∧ at_ ≤ 1000 ∧
  ∀ H' u r, Kp [p] H H' → PotOk H' p → SqT K H' u (rowV r) → RowP ps r → bndR r = bd → Q (.ref u) H'
theorem OkN.nmok {z : Str} (h : OkN z) : NmOk z := h.nm
theorem join_path {zs : List Str} (h : ∀ z ∈ zs, OkN z) (h1 : 1 ≤ zs.length) (h4 : zs.length ≤ 4) : PthOk (Txt.join "." zs) := by
  have e : zs = (zs.map tl).map mkS := (map_mkS_tl zs).symm
  unfold PthOk
  rw [e, joinS, tl_mkS]
  refine isPathL_of (fun c => ?_) (by rw [List.length_map]; exact h4) fun q hq => ?_
  · have := congrArg List.length c
    rw [List.length_map, List.length_nil] at this
    omega
  · obtain ⟨z, hz, rfl⟩ := List.mem_map.mp hq
    exact (h z hz).nm
theorem join_few {zs : List Str} (h : ∀ z ∈ zs, OkN z) (h4 : zs.length ≤ 4) : (zs.map (·.length)).sum + zs.length * (1 : Nat) ≤ 40 := by
  have : ∀ ds : List Str, (∀ c ∈ ds, OkN c) → (ds.map (·.length)).sum ≤ 8 * ds.length := by
    intro ds
    induction ds with
    | nil => simp
    | cons d r ih =>
      intro h
      have h1 := (h d List.mem_cons_self).len
      have h2 := ih fun c hc => h c (List.mem_cons_of_mem _ hc)
      rw [List.map_cons, List.sum_cons, List.length_cons]
      omega
  have := this zs h
  omega
theorem big_num {n : Int} (h : n.natAbs < 10 ^ 60) : n.natAbs < 10 ^ 400 := Nat.lt_of_lt_of_le h (Nat.pow_le_pow_right (by decide) (by decide))
section
variable {P : Program} {w : World} {K : PySem.W.Frag} {mg : Str → Option Value} {base : Heap}
theorem ok_l_row {f : Addr} {fd : FuncData} (F : Fun K "_law_row" "_law_row" s_l_row f fd) (T : Txt K mg )
    (D_l_number : DnF P w K mg base 2 "_law_number" ["_law_pot_here"] spNumber) (D_l_draw : DnF P w K mg base 1 "_law_draw" ["_law_pot_here", "_law_size"] spDraw) (D_l_drawable : DnF P w K mg base 1 "_law_drawable" ["_law_plan_here", "_law_way"] (spDrawable K)) :
    FnOk P w K mg base CX0 3 f fd ["_law_pot_here", "_law_head", "_law_plans", "_law_at_here", "_law_way"] (spRow K) := by
  refine F.ok sc_l_row (fun vs H Q E h => ?_) (fun cdv A outer s H vs Q E hr h => ?_)
  · obtain ⟨p, t, D, pkv, ps, zs, at_, wy, wd, bd, rfl, _⟩ := h
    rfl
  · obtain ⟨f_l_number, fd_l_number, G_l_number, m_l_number, k_l_number, b_l_number⟩ := D_l_number; obtain ⟨f_l_draw, fd_l_draw, G_l_draw, m_l_draw, k_l_draw, b_l_draw⟩ := D_l_draw; obtain ⟨f_l_drawable, fd_l_drawable, G_l_drawable, m_l_drawable, k_l_drawable, b_l_drawable⟩ := D_l_drawable
    obtain ⟨p, t, D, pkv, ps, zs, at_, wy, wd, bd, rfl, hp, sqt, PA, PO, ho, la, q⟩ := h
    have hu := hu_of hr
    have okb := PO.zok bd ho.nm
    refine ⟨_, (pss_cons (ps_asg (pv 1) (kgT (K := K) rfl (pg_tup rfl (pgs_cons (pg_name (i := 5) sc_l_row.nd rfl (Or.inl rfl)) (pgs_cons (pg_name (i := 6) sc_l_row.nd rfl (Or.inl rfl)) pgs_nil)))))
      (pss_cons (ps_set (i := 7) sc_l_row.nd rfl (Or.inl rfl) (pe_callTy (call_listD rfl) (by rfl) T.n_list (by decide +kernel) (pa_cons (pv 2) pa_nil)))
      (pss_cut2 (ps_if (pt_cmpR op_eq (pv 4) pe_int (nomark _)) (pss_one (ps_set (i := 7) sc_l_row.nd rfl (Or.inl rfl) (pe_slice (slLK (K := K) rfl) (pv 7) po_none (po_some (pv 3))))) pss_nil)
      (pss_cons (ps_if (PW.pt (pw_or (pt_cmpR op_eq (pv 5) pe_str (nomark _)) (pw_or1 (PW.pt (pw_and (pt_cmpR op_ne (pv 5) pe_str (nomark _)) (pw_and1 (pt_cmpR (eqNilK (K := K) rfl hr.units) (pv 7) (pe_lst pa_nil) (nomark _)))))))) (pss_one (ps_ret (pe_tup (pa_cons pe_str (pa_cons (pv 6) (pa_cons (pe_call G_l_number (hr.mono (by first | decide | omega)) (by rfl) m_l_number k_l_number b_l_number .nil pass0 (pa_cons (pv 0) pa_nil)) pa_nil)))))) pss_nil)
      (pss_cons (ps_if (pt_cmpR op_eq (pv 5) pe_str (nomark _)) (pss_cons (ps_set (i := 8) sc_l_row.nd rfl (Or.inr rfl) (pe_op op_cat (pe_lst (pa_cons (pv 6) pa_nil)) (pe_callTy (call_listD rfl) (by rfl) T.n_list (by decide +kernel) (pa_cons (pv 2) pa_nil))))
      (pss_one (ps_ret (pe_tup (pa_cons pe_str (pa_cons (pv 6) (pa_cons (pe_m1 PySem.F.slot_str_join PySem.F.type_str_join (joinK (K := K) rfl) pe_str (pe_lc (own := [("_law_k", 10)]) (g := gName 10) (tt := tYes) rfl sc_l_row.nd (pi_range1 rfl T.n_range (pa_cons (pe_op op_add pe_int (pe_call G_l_draw (hr.mono (by first | decide | omega)) (by rfl) m_l_draw k_l_draw b_l_draw .nil pass0 (pa_cons (pv 0) (pa_cons pe_int pa_nil)))) pa_nil)) (blkOk_by (own := [("_law_k", 10)]) (N := N_l_row) (sc := (defScope s_l_row)) (by decide +kernel)) (fun _ _ _ _ _ => (pg_name (i := 10) sc_l_row.nd rfl (Or.inl rfl))) (fun _ _ _ _ _ => pts_nil) (fun _ _ _ _ _ => (pe_ix (ixLK (K := K) rfl) (pv 8) (pe_call G_l_draw (hr.mono (by first | decide | omega)) (by rfl) m_l_draw k_l_draw b_l_draw .nil pass0 (pa_cons (pv 0) (pa_cons (pe_callB (lenK (K := K) rfl) (by rfl) T.n_len (by decide +kernel) (pa_cons (pv 8) pa_nil)) pa_nil))) (fun _ _ => rfl))))) pa_nil))))))) pss_nil)
      (pss_cons (ps_set (i := 9) sc_l_row.nd rfl (Or.inl rfl) (pe_ix (ixLK (K := K) rfl) (pv 7) (pe_call G_l_draw (hr.mono (by first | decide | omega)) (by rfl) m_l_draw k_l_draw b_l_draw .nil pass0 (pa_cons (pv 0) (pa_cons (pe_callB (lenK (K := K) rfl) (by rfl) T.n_len (by decide +kernel) (pa_cons (pv 7) pa_nil)) pa_nil))) (fun _ _ => rfl)))
      (pss_cons (ps_set (i := 8) sc_l_row.nd rfl (Or.inr rfl) (pe_call G_l_drawable (hr.mono (by first | decide | omega)) (by rfl) m_l_drawable k_l_drawable b_l_drawable .nil pass0 (pa_cons (pe_dget hu (pv 2) (pv 9) (fun _ _ => rfl)) (pa_cons (pv 4) pa_nil))))
      (pss_cons (ps_if (PW.pt (pw_or (pt_cmpR op_eq (pv 5) pe_str (nomark _)) (pw_or1 (pt_cmpR (eqNilK (K := K) rfl hr.units) (pv 8) (pe_lst pa_nil) (nomark _))))) (pss_one (ps_ret (pe_tup (pa_cons pe_str (pa_cons (pv 6) (pa_cons (pv 9) pa_nil)))))) pss_nil)
      (pss_one (ps_ret (pe_tup (pa_cons pe_str (pa_cons (pv 6) (pa_cons (pv 9) (pa_cons (pe_ix (ixLK (K := K) rfl) (pv 8) (pe_call G_l_draw (hr.mono (by first | decide | omega)) (by rfl) m_l_draw k_l_draw b_l_draw .nil pass0 (pa_cons (pv 0) (pa_cons (pe_callB (lenK (K := K) rfl) (by rfl) T.n_len (by decide +kernel) (pa_cons (pv 8) pa_nil)) pa_nil))) (fun _ _ => rfl)) pa_nil))))))))))))))), ?_⟩
    refine st_start (σ' := [some (.ref p), some (.ref t), some (.ref D), some (.int (at_ : Nat)), some (.int wy), none, none, none, none, none, none]) rfl ?_
    have sqt' : SqT K H t [.str wd, .str bd] := sqt
    have keys : pkv.map (fun kv => kV kv.1) = (ps.map (·.1)).map V.str := by
      have := PA.nm.keys
      rw [show (fun kv : Key × V => kV kv.1) = kV ∘ (fun kv => kv.1) from rfl, ← List.map_map, this, List.map_map]
      rfl
    have oks : ∀ z ∈ ps.map (·.1), OkN z := fun z hz => by
      obtain ⟨e, he, rfl⟩ := List.mem_map.mp hz
      exact PO.nm e he
    have lps : (ps.map (·.1)).length ≤ 16 := by rw [List.length_map]; exact PO.few
    walk_at "S"
    refine ⟨D, pkv, rfl, .inl PA.at_, fun nl hnl => ?_⟩
    rw [keys]
    have k1 := kp_new (o := .lst ((ps.map (·.1)).map V.str)) hnl
    have en : upd H nl (.lst ((ps.map (·.1)).map V.str)) nl = some (.lst ((ps.map (·.1)).map V.str)) := upd_same
    have hp1 := hp.kp k1 trivial
    have PA1 := PA.same k1
    have kA : Kp [p] H (upd H nl (.lst ((ps.map (·.1)).map V.str))) := Kp.nil_W k1
    have npn := hp.ne hnl
    generalize upd H nl (.lst ((ps.map (·.1)).map V.str)) = H1 at *
    walk_at "S"
    refine s_cut (fun σ Hq => ∃ (nl' : Addr) (ns : List Str), σ = [some (.ref p), some (.ref t), some (.ref D), some (.int (at_ : Nat)), some (.int wy), some (.str wd), some (.str bd), some (.ref nl'), none, none, none] ∧ Kp [] H1 Hq ∧ Hq nl' = some (.lst (ns.map V.str)) ∧ (∀ z ∈ ns, z ∈ ps.map (·.1)) ∧ ns.length ≤ 16 ∧ p ≠ nl') (fun J hJ => ?_) ?_
    · walk_at "S"
      refine s_dec (fun c => ?_) (fun c => ?_)
      · walk_at "S"
        intro l2 hl2
        have ec : cutV ((ps.map (·.1)).map V.str) none (some (at_ : Int)) = ((ps.map (·.1)).take at_).map V.str := (cut_to _ at_).trans List.map_take.symm
        rw [ec]
        walk_at "S"
        exact hJ _ _ ⟨l2, _, rfl, kp_new hl2, upd_same, fun z hz => List.mem_of_mem_take hz, by rw [List.length_take]; omega, hp1.ne hl2⟩
      · walk_at "S"
        exact hJ _ _ ⟨nl, _, rfl, Kp.refl, en, fun z hz => hz, lps, npn⟩
    · rintro σ H2 ⟨nl', ns, rfl, k12, en2, hns, lns, npn2⟩
      have hp2 := hp1.kp k12 trivial
      have PA2 := PA1.same k12
      have kB := kA.tr (Kp.nil_W k12)
      -- a row told
      have tell : ∀ (r : PH.Row) (vs : List V) (Hq : Hp) (u : Addr), Kp [p] H Hq → PotOk Hq p → Hq u = none → rowV r = vs → RowP ps r → bndR r = bd → Q (.ref u) (upd Hq u (.tup vs)) := fun r vs Hq u kq hq hu' er rp br => q _ u r (kq.tr (Kp.nil_W (kp_new hu'))) (hq.kp (kp_new hu') trivial) (by rw [er]; exact sq_t upd_same) rp br
      have setR : ∀ Hq, Kp [p] H Hq → PotOk Hq p → ∀ (n : Int) (u : Addr), n.natAbs < 10 ^ 60 → Hq u = none → Q (.ref u) (upd Hq u (.tup [.str "set", .str bd, .int n])) := fun Hq kq hq n u hn hu' => tell (.set bd n) _ Hq u kq hq hu' rfl ⟨okb.nm, big_num hn⟩ rfl
      walk_at "S"
      refine s_dec (fun c => ?_) (fun c => ?_)
      · rw [if_pos rfl]
        walk_at "S"
        refine ⟨p, rfl, hp2, fun H3 n k3 hp3 hn => ?_⟩
        walk_at "S"
        exact ⟨small_le (by simp), fun u hu' => setR _ (kB.tr k3) hp3 n u hn hu'⟩
      · walk_at "S"
        refine s_ndec (fun c2 => ?_) (fun c2 => ?_)
        · walk_at "S"
          refine ⟨small_le (by simp), fun l0 hl0 => ?_⟩
          have k0 := kp_new (o := .lst []) hl0
          have en3 := k0.get trivial en2
          have hp3 := hp2.kp k0 trivial
          have PA3 := PA2.same k0
          have kC := kB.tr (Kp.nil_W k0)
          have el0 : upd H2 l0 (.lst []) l0 = some (.lst []) := upd_same
          generalize upd H2 l0 (.lst []) = H3 at *
          refine s_nil0 (sq_l en3) (sq_l el0) ?_
          walk_at "S"
          rcases ns with _ | ⟨n0, nr⟩
          · rw [if_pos (by rfl)]
            walk_at "S"
            refine ⟨p, rfl, hp3, fun H4 n k4 hp4 hn => ?_⟩
            walk_at "S"
            exact ⟨small_le (by simp), fun u hu' => setR _ (kC.tr k4) hp4 n u hn hu'⟩
          · rw [if_neg (by simp)]
            have lns2 : (n0 :: nr).length ≤ 16 := lns
            have lns1 : 1 ≤ (n0 :: nr).length := by simp
            generalize (n0 :: nr) = ns at *
            walk_at "S"
            rw [if_neg (by simpa using c2)]
            walk_at "S"
            rw [List.length_map]
            refine ⟨p, _, rfl, hp3, by omega, by omega, fun H4 v4 k4 hp4 a0 a1 => ?_⟩
            obtain ⟨j, z, rfl, hj, ej, mz, az⟩ := pickM (xs := ns) (g := V.str) a0 (by omega)
            have en4 := k4.get (nin1' npn2) en3
            have PA4 := PA3.pot hp3 k4
            have kD := kC.tr k4
            refine s_ixL (sq_l en4) az ?_
            walk_at "S"
            have mk := hns z mz
            obtain ⟨hs, v, gh, gv, l, xs, rfl, hd⟩ : ∃ hs v, getA ps z = some hs ∧ valV pkv (.inr z) = some v ∧ ∃ l xs, v = V.ref l ∧ HdsAt K H4 l xs hs := by
              rcases PA4.nm.get z with ⟨g, _⟩ | ⟨t, v, g, gv, r⟩
              · exact absurd mk (getA_none.mp g)
              · exact ⟨t, v, g, gv, r⟩
            have mhs := getA_mem gh
            have okz := oks z mk
            refine s_getS PA4.at_ gv ?_
            walk_at "S"
            refine ⟨l, xs, hs, wy, rfl, hd, by have := PO.len _ mhs; have : hs.length ≤ 40 := this; omega, fun H5 sl ys k5 nsl esl hys lys => ?_⟩
            have hp5 := hp4.kp k5 trivial
            have kE := kD.tr (Kp.nil_W k5)
            have lhs : hs.length ≤ 40 := PO.len _ mhs
            have takeR : ∀ Hq, Kp [p] H Hq → PotOk Hq p → ∀ u, Hq u = none → Q (.ref u) (upd Hq u (.tup [.str "take", .str bd, .str z])) := fun Hq kq hq u hu' => tell (.take bd z) _ Hq u kq hq hu' rfl ⟨okb.nm, okz.path, mk⟩ rfl
            walk_at "S"
            refine s_bool (fun c3 => ?_) (fun c3 => ?_)
            · walk_at "S"
              exact ⟨small_le (by simp), fun u hu' => takeR _ kE hp5 u hu'⟩
            · walk_at "S"
              refine ⟨small_le (by simp), fun l6 hl6 => ?_⟩
              have k6 := kp_new (o := .lst []) hl6
              have esl6 := k6.get trivial esl
              have hp6 := hp5.kp k6 trivial
              have kF := kE.tr (Kp.nil_W k6)
              have el6 : upd H5 l6 (.lst []) l6 = some (.lst []) := upd_same
              generalize upd H5 l6 (.lst []) = H6 at *
              refine s_nil0 (sq_l esl6) (sq_l el6) ?_
              walk_at "S"
              rcases ys with _ | ⟨y0, yr⟩
              · rw [if_pos (by rfl)]
                walk_at "S"
                exact ⟨small_le (by simp), fun u hu' => takeR _ kF hp6 u hu'⟩
              · rw [if_neg (by simp)]
                have ly1 : 1 ≤ (y0 :: yr).length := by simp
                have ly2 : (y0 :: yr).length ≤ 40 := by omega
                have hys2 := hys
                generalize (y0 :: yr) = ys at *
                have nps : p ≠ sl := by
                  have := (hp4.ne nsl)
                  exact this
                walk_at "S"
                rw [List.length_map]
                refine ⟨p, _, rfl, hp6, by omega, by omega, fun H7 v7 k7 hp7 b0 b1 => ?_⟩
                obtain ⟨j7, y, rfl, hj7, ej7, my, ay⟩ := pickM (xs := ys) (g := V.str) b0 (by omega)
                refine s_ixL (sq_l (k7.get (nin1' nps) esl6)) ay ?_
                walk_at "S"
                refine ⟨small_le (by simp), fun u hu' => tell (.draw bd z y) _ _ u (kF.tr k7) hp7 hu' rfl ⟨okb.nm, okz.path, ?_, hs, gh, hys2 y my⟩ rfl⟩
                obtain ⟨hh, mh, rfl⟩ := List.mem_map.mp (hys2 y my)
                exact (PO.zok _ (PO.bd _ mhs hh mh).nm).nm
        · walk_at "S"
          rw [if_pos (by simp [c2])]
          walk_at "S"
          refine ⟨small_le (by simp), fun l3 hl3 => ?_⟩
          have k3 := kp_new (o := .lst [.str bd]) hl3
          have el3 : upd H2 l3 (.lst [.str bd]) l3 = some (.lst [.str bd]) := upd_same
          have hp3 := hp2.kp k3 trivial
          have PA3 := PA2.same k3
          have kC := kB.tr (Kp.nil_W k3)
          generalize upd H2 l3 (.lst [.str bd]) = H3 at *
          walk_at "S"
          refine ⟨D, pkv, rfl, .inl PA3.at_, fun l4 hl4 => ?_⟩
          rw [keys]
          have k4 := kp_new (o := .lst ((ps.map (·.1)).map V.str)) hl4
          have el4 : upd H3 l4 (.lst ((ps.map (·.1)).map V.str)) l4 = some (.lst ((ps.map (·.1)).map V.str)) := upd_same
          have el3 := k4.get trivial el3
          have hp4 := hp3.kp k4 trivial
          have kD := kC.tr (Kp.nil_W k4)
          generalize upd H3 l4 (.lst ((ps.map (·.1)).map V.str)) = H4 at *
          walk_at "S"
          refine s_cat el3 el4 (small_le (by rw [List.length_map, List.length_singleton]; omega)) fun sl hsl => ?_
          have k5 := kp_new (o := .lst ([V.str bd] ++ (ps.map (·.1)).map V.str)) hsl
          have esl : upd H4 sl (.lst ([V.str bd] ++ (ps.map (·.1)).map V.str)) sl = some (.lst ((bd :: ps.map (·.1)).map V.str)) := upd_same
          have hp5 := hp4.kp k5 trivial
          have kE := kD.tr (Kp.nil_W k5)
          have nps := hp4.ne hsl
          generalize upd H4 sl (.lst ([V.str bd] ++ (ps.map (·.1)).map V.str)) = H5 at *
          have oksl : ∀ z ∈ bd :: ps.map (·.1), OkN z := fun z hz => by
            rcases List.mem_cons.mp hz with rfl | hz
            · exact okb
            · exact oks z hz
          have lsl : (bd :: ps.map (·.1)).length ≤ 17 ∧ 1 ≤ (bd :: ps.map (·.1)).length := by rw [List.length_cons]; omega
          generalize (bd :: ps.map (·.1)) = sz at *
          walk_at "S"
          refine ⟨p, _, rfl, hp5, by omega, by omega, fun H6 v6 k6 hp6 a0 a1 => ?_⟩
          walk_at "S"
          refine ⟨by omega, by omega, fun JD hJD => ?_⟩
          have npJ := hp6.ne hJD
          let PL : Nat → List V → Prop := fun i xs => ∃ zs : List Str, xs = zs.map V.str ∧ (∀ z ∈ zs, OkN z) ∧ zs.length = i
          have LO : LcOkP JD (1 + v6).toNat PL [p] H6 (fun _ H => PotOk H p) := ⟨small_le (by omega), ⟨[], rfl, by simp, rfl⟩, hJD, ⟨npJ.symm, trivial⟩, fun _ _ _ h => h.upd npJ⟩
          refine lc_goP walk_range LO hp6 (fun _ _ => trivial) (fun i x Ha Hb hi Ib y => ?_) fun H7 I7 => ?_
          · obtain ⟨rfl, rfl⟩ := y
            obtain ⟨_, kk, hpI⟩ := id Ib
            have esI := (k6.tr kk).get (nin1' nps) esl
            walk_at "S"
            refine ⟨rfl, ?_⟩
            walk_at "S"
            rw [List.length_map]
            refine ⟨p, _, rfl, hpI, by omega, by omega, fun Hc v kc hpc e0 e1 => ?_⟩
            obtain ⟨j, z, rfl, hj, ej, mz, az⟩ := pickM (xs := sz) (g := V.str) e0 (by omega)
            refine s_ixL (sq_l (kc.get (nin1' nps) esI)) az ?_
            refine Ib.put LO hi (fun xs hx => ?_) kc hpc
            obtain ⟨zs', rfl, h1, h2⟩ := hx
            refine ⟨zs' ++ [z], by rw [List.map_append]; rfl, fun b hb => ?_, by rw [List.length_append, h2]; rfl⟩
            rcases List.mem_append.mp hb with hb | hb
            · exact h1 b hb
            · rw [List.mem_singleton.mp hb]; exact oksl z mz
          · obtain ⟨⟨xs, x0, ⟨zs', rfl, hz1, hz2⟩, _⟩, k7, hp7⟩ := I7
            have kF := (kE.tr k6).tr k7
            walk_at "S"
            have eL : ("." : Str).length = 1 := by decide +kernel
            refine s_joinL (zs := zs') (sq_l x0) (by have := join_few hz1 (by omega); rw [eL]; omega) ?_
            walk_at "S"
            exact ⟨small_le (by simp), fun u hu' => tell (.late bd _) _ _ u kF hp7 hu' rfl ⟨okb.nm, join_path hz1 (by omega) (by omega)⟩ rfl⟩
end

theorem PotOk.any {H H' : Hp} {p q : Addr} (h : PotOk H q) (k : Kp [p] H H') (hp : PotOk H' p) : PotOk H' q := by
  by_cases c : q = p
  · rw [c]; exact hp
  · exact h.kp k (nin1' (Ne.symm c))
theorem pot_refs {H : Hp} {p t : Addr} {zs : List Addr} (h : PotOk H p) (e : H t = some (.lst (zs.map V.ref))) : p ≠ t := by
  rintro rfl
  obtain ⟨s, e1⟩ := h
  rw [e1] at e
  cases zs with
  | nil => simp at e
  | cons z r => simp at e
structure PotsOk (H0 H : Hp) (pl : List Addr) : Prop where
  ok : ∀ q ∈ pl, PotOk H q ∧ H0 q = none
theorem PotsOk.pot {H0 H H' : Hp} {pl : List Addr} {p : Addr} (h : PotsOk H0 H pl) (k : Kp [p] H H') (hp : PotOk H' p) : PotsOk H0 H' pl := ⟨fun q hq => ⟨(h.ok q hq).1.any k hp, (h.ok q hq).2⟩⟩
theorem PotsOk.same {H0 H H' : Hp} {pl : List Addr} (h : PotsOk H0 H pl) (k : Kp [] H H') : PotsOk H0 H' pl := ⟨fun q hq => ⟨(h.ok q hq).1.kp k trivial, (h.ok q hq).2⟩⟩
def spStock (K : PySem.W.Frag) : Sp := fun vs H Q _ => ∃ (a : Addr) (ns : List Int), vs = [.ref a] ∧ SqL K H a (ns.map V.int) ∧
  ∀ H' S kvs st, Kp [] H H' → H S = none → H' S = some (.dK kvs) → Plain K H' S kvs st → 1 ≤ st.length → Q (.ref S) H'
theorem PlansAt.put {K : PySem.W.Frag} {H : Hp} {D l : Addr} {pkv : List (Key × V)} {ps : Plans} {xs : List V} {hs : List Hd} {z : Str} (h : PlansAt K H D pkv ps) (nz : z ∉ ps.map (·.1)) (g : HdsAt K H l xs hs) :
    PlansAt K (upd H D (.dK (putK pkv (.inr z) (.ref l)))) D (pkv ++ [(Sum.inr z, .ref l)]) (ps ++ [(z, hs)]) := by
  have un : valV pkv (.inr z) = none := by
    rcases h.nm.get z with ⟨_, g⟩ | ⟨t, v, g, _⟩
    · exact g
    · exact absurd (List.mem_map.mpr ⟨_, getA_mem g, rfl⟩) nz
  rw [L2.putK_new _ un]
  have k : Kp [D] H (upd H D (.dK (pkv ++ [(Sum.inr z, .ref l)]))) := Kp.refl.upd_mem List.mem_cons_self
  have t : TupK H (upd H D (.dK (pkv ++ [(Sum.inr z, .ref l)]))) := (Keep.one h.at_ (.dK _)).tup
  have mv : ∀ {l' : Addr} {xs : List V} {hs : List Hd}, HdsAt K H l' xs hs → HdsAt K (upd H D (.dK (pkv ++ [(Sum.inr z, .ref l)]))) l' xs hs := fun {l'} {_} {_} g => by
    have ne : l' ≠ D := fun e => by
      have := g.at_
      rw [e, h.at_] at this
      cases this
    exact g.kp k ⟨ne, trivial⟩ t
  exact ⟨upd_same, (h.nm.mono fun hs v ⟨l, xs, e, g⟩ => ⟨l, xs, e, mv g⟩).snoc ⟨l, xs, rfl, mv g⟩⟩
theorem PlansAt.dk {K : PySem.W.Frag} {H : Hp} {D S : Addr} {pkv kvs kvs' : List (Key × V)} {ps : Plans} (h : PlansAt K H D pkv ps) (e : H S = some (.dK kvs)) (ne : D ≠ S) : PlansAt K (upd H S (.dK kvs')) D pkv ps := by
  have k : Kp [S] H (upd H S (.dK kvs')) := Kp.refl.upd_mem List.mem_cons_self
  have t : TupK H (upd H S (.dK kvs')) := (Keep.one e (.dK _)).tup
  refine ⟨k.get ⟨ne, trivial⟩ h.at_, h.nm.mono fun hs v ⟨l, xs, ev, g⟩ => ⟨l, xs, ev, g.kp k ⟨fun c => ?_, trivial⟩ t⟩⟩
  have := g.at_
  rw [c, e] at this
  cases this
section
variable {P : Program} {w : World} {K : PySem.W.Frag} {mg : Str → Option Value} {base : Heap}
theorem ok_l_stock {f : Addr} {fd : FuncData} (F : Fun K "_law_stock" "_law_stock" s_l_stock f fd) (T : Txt K mg )
    (D_l_pot : DnF P w K mg base 2 "_law_pot" ["_law_script", "_law_k"] (spPot K)) (D_l_draw : DnF P w K mg base 1 "_law_draw" ["_law_pot_here", "_law_size"] spDraw) (D_l_name : DnF P w K mg base 2 "_law_name" ["_law_pot_here", "_law_taken"] spName) (D_l_plan : DnF P w K mg base 2 "_law_plan" ["_law_pot_here", "_law_pool", "_law_way"] (spPlan K)) (D_l_row : DnF P w K mg base 3 "_law_row" ["_law_pot_here", "_law_head", "_law_plans", "_law_at_here", "_law_way"] (spRow K)) :
    FnOk P w K mg base CX0 4 f fd ["_law_script"] (spStock K) := by
  refine F.ok sc_l_stock (fun vs H Q E h => ?_) (fun cdv A outer s H vs Q E hr h => ?_)
  · obtain ⟨a, ns, rfl, _⟩ := h
    rfl
  · obtain ⟨f_l_pot, fd_l_pot, G_l_pot, m_l_pot, k_l_pot, b_l_pot⟩ := D_l_pot; obtain ⟨f_l_draw, fd_l_draw, G_l_draw, m_l_draw, k_l_draw, b_l_draw⟩ := D_l_draw; obtain ⟨f_l_name, fd_l_name, G_l_name, m_l_name, k_l_name, b_l_name⟩ := D_l_name; obtain ⟨f_l_plan, fd_l_plan, G_l_plan, m_l_plan, k_l_plan, b_l_plan⟩ := D_l_plan; obtain ⟨f_l_row, fd_l_row, G_l_row, m_l_row, k_l_row, b_l_row⟩ := D_l_row
    obtain ⟨a, ns, rfl, hs0, q⟩ := h
    have hu := hu_of hr
    refine ⟨_, (pss_cons (ps_set (i := 1) sc_l_stock.nd rfl (Or.inl rfl) (pe_call G_l_pot (hr.mono (by first | decide | omega)) (by rfl) m_l_pot k_l_pot b_l_pot .nil pass0 (pa_cons (pv 0) (pa_cons pe_int pa_nil))))
      (pss_cons (ps_set (i := 2) sc_l_stock.nd rfl (Or.inr rfl) (pe_call G_l_draw (hr.mono (by first | decide | omega)) (by rfl) m_l_draw k_l_draw b_l_draw .nil pass0 (pa_cons (pv 1) (pa_cons pe_int pa_nil))))
      (pss_cons (ps_set (i := 3) sc_l_stock.nd rfl (Or.inl rfl) (pe_ix (ixLK (K := K) rfl) (pe_lst (pa_cons (pe_op op_add pe_int (pe_call G_l_draw (hr.mono (by first | decide | omega)) (by rfl) m_l_draw k_l_draw b_l_draw .nil pass0 (pa_cons (pv 1) (pa_cons pe_int pa_nil)))) (pa_cons (pe_op op_add pe_int (pe_call G_l_draw (hr.mono (by first | decide | omega)) (by rfl) m_l_draw k_l_draw b_l_draw .nil pass0 (pa_cons (pv 1) (pa_cons pe_int pa_nil)))) pa_nil))) (pe_op op_fdiv (pe_call G_l_draw (hr.mono (by first | decide | omega)) (by rfl) m_l_draw k_l_draw b_l_draw .nil pass0 (pa_cons (pv 1) (pa_cons pe_int pa_nil))) pe_int) (fun _ _ => rfl)))
      (pss_cons (ps_set (i := 4) sc_l_stock.nd rfl (Or.inl rfl) (pe_lst pa_nil))
      (pss_cons (ps_for PassesOwn.never rfl (pi_range1 rfl T.n_range (pa_cons (pv 3) pa_nil)) (pg_name (i := 5) sc_l_stock.nd rfl (Or.inr rfl)) (pss_one (ps_expr (pe_call G_l_name (hr.mono (by first | decide | omega)) (by rfl) m_l_name k_l_name b_l_name .nil pass0 (pa_cons (pv 1) (pa_cons (pv 4) pa_nil))))))
      (pss_cons (ps_set (i := 6) sc_l_stock.nd rfl (Or.inl rfl) (pe_lst pa_nil))
      (pss_cons (ps_for PassesOwn.never rfl (pi_range1 rfl T.n_range (pa_cons (pe_op op_add pe_int (pe_call G_l_draw (hr.mono (by first | decide | omega)) (by rfl) m_l_draw k_l_draw b_l_draw .nil pass0 (pa_cons (pv 1) (pa_cons pe_int pa_nil)))) pa_nil)) (pg_name (i := 5) sc_l_stock.nd rfl (Or.inr rfl)) (pss_one (ps_expr (pe_call G_l_name (hr.mono (by first | decide | omega)) (by rfl) m_l_name k_l_name b_l_name .nil pass0 (pa_cons (pv 1) (pa_cons (pv 6) pa_nil))))))
      (pss_cut2 (ps_if (pt_cmpR op_eq (pe_call G_l_draw (hr.mono (by first | decide | omega)) (by rfl) m_l_draw k_l_draw b_l_draw .nil pass0 (pa_cons (pv 1) (pa_cons pe_int pa_nil))) pe_int (nomark _)) (pss_one (ps_set (i := 6) sc_l_stock.nd rfl (Or.inl rfl) (pe_op op_cat (pe_slice (slLK (K := K) rfl) (pv 6) po_none (po_some pe_int)) (pe_slice (slLK (K := K) rfl) (pv 4) po_none (po_some pe_int))))) pss_nil)
      (pss_cons (ps_set (i := 7) sc_l_stock.nd rfl (Or.inr rfl) (pe_lc (own := [("_law_k", 5)]) (g := gName 5) (tt := tYes) rfl sc_l_stock.nd (pi_range1 rfl T.n_range (pa_cons (pv 3) pa_nil)) (blkOk_by (own := [("_law_k", 5)]) (N := N_l_stock) (sc := (defScope s_l_stock)) (by decide +kernel)) (fun _ _ _ _ _ => (pg_name (i := 5) sc_l_stock.nd rfl (Or.inl rfl))) (fun _ _ _ _ _ => pts_nil) (fun _ _ _ _ _ => (pe_call G_l_pot (hr.mono (by first | decide | omega)) (by rfl) m_l_pot k_l_pot b_l_pot .nil pass0 (pa_cons (pv 0) (pa_cons (pe_op op_add pe_int (pv 5)) pa_nil))))))
      (pss_cons (ps_set (i := 8) sc_l_stock.nd rfl (Or.inr rfl) pe_dnewK)
      (pss_cons (ps_for PassesOwn.never rfl (kiE (K := K) rfl (pi_enum (by rfl) T.n_enumerate (pa_cons (pv 4) pa_nil))) (kgT (K := K) rfl (pg_tup rfl (pgs_cons (pg_name (i := 5) sc_l_stock.nd rfl (Or.inr rfl)) (pgs_cons (pg_name (i := 9) sc_l_stock.nd rfl (Or.inl rfl)) pgs_nil)))) (pss_one (ps_dput hu (pv 8) (pv 9) (pe_call G_l_plan (hr.mono (by first | decide | omega)) (by rfl) m_l_plan k_l_plan b_l_plan .nil pass0 (pa_cons (pe_ix (ixLK (K := K) rfl) (pv 7) (pv 5) (fun _ _ => rfl)) (pa_cons (pv 6) (pa_cons (pv 2) pa_nil)))) rfl)))
      (pss_cons (ps_set (i := 10) sc_l_stock.nd rfl (Or.inl rfl) pe_dnewK)
      (pss_cons (ps_for PassesOwn.never rfl (kiE (K := K) rfl (pi_enum (by rfl) T.n_enumerate (pa_cons (pv 4) pa_nil))) (kgT (K := K) rfl (pg_tup rfl (pgs_cons (pg_name (i := 5) sc_l_stock.nd rfl (Or.inr rfl)) (pgs_cons (pg_name (i := 9) sc_l_stock.nd rfl (Or.inl rfl)) pgs_nil)))) (pss_one (ps_dput hu (pv 10) (pv 9) (pe_callTy (tupleK (K := K) rfl) (by rfl) T.n_tuple (by decide +kernel) (pa_cons (pe_lc (own := [("_law_head", 11)]) (g := gName 11) (tt := tYes) rfl sc_l_stock.nd (kiL (K := K) rfl (pi_list (pe_dget hu (pv 8) (pv 9) (fun _ _ => rfl)))) (blkOk_by (own := [("_law_head", 11)]) (N := N_l_stock) (sc := (defScope s_l_stock)) (by decide +kernel)) (fun _ _ _ _ _ => (pg_name (i := 11) sc_l_stock.nd rfl (Or.inl rfl))) (fun _ _ _ _ _ => pts_nil) (fun _ _ _ _ _ => (pe_call G_l_row (hr.mono (by first | decide | omega)) (by rfl) m_l_row k_l_row b_l_row .nil pass0 (pa_cons (pe_ix (ixLK (K := K) rfl) (pv 7) (pv 5) (fun _ _ => rfl)) (pa_cons (pv 11) (pa_cons (pv 8) (pa_cons (pv 5) (pa_cons (pv 2) pa_nil)))))))) pa_nil)) rfl)))
      (pss_one (ps_ret (pv 10)))))))))))))))), ?_⟩
    refine st_start (σ' := [some (.ref a), none, none, none, none, none, none, none, none, none, none, none]) rfl ?_
    walk_at "S"
    refine ⟨a, ns, 0, rfl, hs0, by omega, fun H1 p k1 hp0 hp => ?_⟩
    have kA := k1
    walk_at "S"
    refine ⟨p, _, rfl, hp, by omega, by omega, fun H2 wy k2 hp2 a0 a1 => ?_⟩
    have kA : Kp [] H H2 := kA.step k2 fun x hx => .inr (by rw [List.mem_singleton.mp hx]; exact hp0)
    walk_at "S"
    refine ⟨p, _, rfl, hp2, by omega, by omega, fun H3 v3 k3 hp3 b0 b1 => ?_⟩
    have kA : Kp [] H H3 := kA.step k3 fun x hx => .inr (by rw [List.mem_singleton.mp hx]; exact hp0)
    walk_at "S"
    refine ⟨p, _, rfl, hp3, by omega, by omega, fun H4 v4 k4 hp4 c0 c1 => ?_⟩
    have kA : Kp [] H H4 := kA.step k4 fun x hx => .inr (by rw [List.mem_singleton.mp hx]; exact hp0)
    walk_at "S"
    refine ⟨small_le (by simp), fun sl hsl => ?_⟩
    have k5 := kp_new (o := .lst [.int (1 + v3), .int (9 + v4)]) hsl
    have esl : upd H4 sl (.lst [.int (1 + v3), .int (9 + v4)]) sl = some (.lst [.int (1 + v3), .int (9 + v4)]) := upd_same
    have hp5 := hp4.kp k5 trivial
    have kA := kA.tr k5
    have nps := hp4.ne hsl
    generalize upd H4 sl (.lst [.int (1 + v3), .int (9 + v4)]) = H5 at *
    walk_at "S"
    refine ⟨p, _, rfl, hp5, by omega, by omega, fun H6 v6 k6 hp6 d0 d1 => ?_⟩
    have kA : Kp [] H H6 := kA.step k6 fun x hx => .inr (by rw [List.mem_singleton.mp hx]; exact hp0)
    walk_at "S"
    obtain ⟨sz, hsz, esz⟩ : ∃ sz : Nat, (1 ≤ sz ∧ sz ≤ 16) ∧ atI [V.int (1 + v3), V.int (9 + v4)] (v6 / 15) = some (.int (sz : Nat)) := by
      rcases (show v6 / 15 = 0 ∨ v6 / 15 = 1 by omega) with e | e
      · exact ⟨(1 + v3).toNat, by omega, by rw [e, show (((1 + v3).toNat : Nat) : Int) = 1 + v3 from by omega]; rfl⟩
      · exact ⟨(9 + v4).toNat, by omega, by rw [e, show (((9 + v4).toNat : Nat) : Int) = 9 + v4 from by omega]; rfl⟩
    refine s_ixL (sq_l (k6.get (nin1' nps) esl)) esz ?_
    walk_at "S"
    refine ⟨small_le (by simp), fun N hN => ?_⟩
    have npN := hp6.ne hN
    have hN0 : H N = none := kA.free trivial hN
    have k7 := kp_new (o := .lst []) hN
    have eN : upd H6 N (.lst []) N = some (.lst (([] : List Str).map V.str)) := upd_same
    have hp7 := hp6.kp k7 trivial
    have kA := kA.tr k7
    generalize upd H6 N (.lst []) = H7 at *
    walk_at "S"
    refine ⟨by omega, by omega, ?_⟩
    refine for_go walk_range (fun i σ Hi => ∃ (zs : List Str) (o5 : Option V), σ = [some (.ref a), some (.ref p), some (.int wy), some (.int (sz : Nat)), some (.ref N), o5, none, none, none, none, none, none] ∧ Kp [] H Hi ∧ PotOk Hi p ∧ Hi N = some (.lst (zs.map V.str)) ∧ Taken zs ∧ zs.length = i)
      ⟨[], _, rfl, kA, hp7, eN, ⟨.nil, by simp⟩, rfl⟩ (fun _ _ _ _ _ => trivial) (fun i x σ Ha Hb hi I y => ?_) fun σ H8 I => ?_
    · obtain ⟨rfl, rfl⟩ := y
      obtain ⟨zs, o5, rfl, kI, hpi, eNi, tk, nz⟩ := I
      have hi : i < sz := by have := hi; omega
      walk_at "S"
      refine ⟨p, N, zs, rfl, hpi, eNi, tk, by omega, fun H9 z k9 hp9 ht9 tk9 => ?_⟩
      walk_at "S"
      refine ⟨_, _, rfl, ?_, hp9, ht9, tk9, by rw [List.length_append, List.length_singleton]; omega⟩
      exact kI.step k9 fun x hx => by
        simp only [List.mem_cons, List.not_mem_nil, or_false] at hx
        rcases hx with rfl | rfl
        · exact .inr hp0
        · exact .inr hN0
    obtain ⟨nms, o5, rfl, kA, hp8, eN8, tkN, lN⟩ := I
    have lN : nms.length = sz := by have := lN; omega
    walk_at "S"
    refine ⟨small_le (by simp), fun B hB => ?_⟩
    have npB := hp8.ne hB
    have k9 := kp_new (o := .lst []) hB
    have eB : upd H8 B (.lst []) B = some (.lst (([] : List Str).map V.str)) := upd_same
    have hp9 := hp8.kp k9 trivial
    have hB0 : H B = none := kA.free trivial hB
    have eN9 := k9.get trivial eN8
    have nNB : N ≠ B := ne_of_none eN8 hB
    have kA := kA.tr k9
    generalize upd H8 B (.lst []) = H9 at *
    walk_at "S"
    refine ⟨p, _, rfl, hp9, by omega, by omega, fun H10 v10 k10 hp10 e0 e1 => ?_⟩
    have kA : Kp [] H H10 := kA.step k10 fun x hx => .inr (by rw [List.mem_singleton.mp hx]; exact hp0)
    have eN10 := k10.get (nin1' npN) eN9
    have eB10 := k10.get (nin1' npB) eB
    walk_at "S"
    refine ⟨by omega, by omega, ?_⟩
    refine for_go walk_range (fun i σ Hi => ∃ (zs : List Str) (o5 : Option V), σ = [some (.ref a), some (.ref p), some (.int wy), some (.int (sz : Nat)), some (.ref N), o5, some (.ref B), none, none, none, none, none] ∧ Kp [] H Hi ∧ PotOk Hi p ∧ Hi N = some (.lst (nms.map V.str)) ∧ Hi B = some (.lst (zs.map V.str)) ∧ Taken zs ∧ zs.length = i)
      ⟨[], _, rfl, kA, hp10, eN10, eB10, ⟨.nil, by simp⟩, rfl⟩ (fun _ _ _ _ _ => trivial) (fun i x σ Ha Hb hi I y => ?_) fun σ H11 I => ?_
    · obtain ⟨rfl, rfl⟩ := y
      obtain ⟨zs, o5, rfl, kI, hpi, eNi, eBi, tk, nz⟩ := I
      have hi : i < 6 := by have := hi; omega
      walk_at "S"
      refine ⟨p, B, zs, rfl, hpi, eBi, tk, by omega, fun H12 z k12 hp12 ht12 tk12 => ?_⟩
      walk_at "S"
      refine ⟨_, _, rfl, ?_, hp12, k12.get ⟨npN.symm, nNB, trivial⟩ eNi, ht12, tk12, by rw [List.length_append, List.length_singleton]; omega⟩
      exact kI.step k12 fun x hx => by
        simp only [List.mem_cons, List.not_mem_nil, or_false] at hx
        rcases hx with rfl | rfl
        · exact .inr hp0
        · exact .inr hB0
    obtain ⟨pol, o5', rfl, kA, hp11, eN11, eB11, tkB, lB⟩ := I
    walk_at "S"
    refine s_cut (fun σ Hq => ∃ (B' : Addr) (zs : List Str), σ = [some (.ref a), some (.ref p), some (.int wy), some (.int (sz : Nat)), some (.ref N), o5', some (.ref B'), none, none, none, none, none] ∧ Kp [] H Hq ∧ Hq N = some (.lst (nms.map V.str)) ∧ Hq B' = some (.lst (zs.map V.str)) ∧ H B' = none ∧ (∀ z ∈ zs, OkN z) ∧ 1 ≤ zs.length ∧ zs.length ≤ 100) (fun J hJ => ?_) ?_
    · walk_at "S"
      refine ⟨p, _, rfl, hp11, by omega, by omega, fun H12 v12 k12 hp12 f0 f1 => ?_⟩
      have kA : Kp [] H H12 := kA.step k12 fun x hx => .inr (by rw [List.mem_singleton.mp hx]; exact hp0)
      have eN12 := k12.get (nin1' npN) eN11
      have eB12 := k12.get (nin1' npB) eB11
      have lB : 1 ≤ pol.length ∧ pol.length ≤ 5 := by have := lB; omega
      walk_at "S"
      refine s_dec (fun c => ?_) (fun c => ?_)
      · walk_at "S"
        intro l1 hl1
        have ec : cutV (pol.map V.str) none (some 1) = (pol.take 1).map V.str := (cut_to _ 1).trans List.map_take.symm
        rw [ec]
        have k13 := kp_new (o := .lst ((pol.take 1).map V.str)) hl1
        have el1 : upd H12 l1 (.lst ((pol.take 1).map V.str)) l1 = some (.lst ((pol.take 1).map V.str)) := upd_same
        have eN13 := k13.get trivial eN12
        have kA := kA.tr k13
        generalize upd H12 l1 (.lst ((pol.take 1).map V.str)) = H13 at *
        walk_at "S"
        intro l2 hl2
        have ec2 : cutV (nms.map V.str) none (some 4) = (nms.take 4).map V.str := (cut_to _ 4).trans List.map_take.symm
        rw [ec2]
        have k14 := kp_new (o := .lst ((nms.take 4).map V.str)) hl2
        have el2 : upd H13 l2 (.lst ((nms.take 4).map V.str)) l2 = some (.lst ((nms.take 4).map V.str)) := upd_same
        have el1 := k14.get trivial el1
        have eN14 := k14.get trivial eN13
        have kA := kA.tr k14
        generalize upd H13 l2 (.lst ((nms.take 4).map V.str)) = H14 at *
        walk_at "S"
        refine s_cat el1 el2 (small_le (by rw [List.length_map, List.length_map, List.length_take, List.length_take]; omega)) fun l3 hl3 => ?_
        rw [← List.map_append]
        walk_at "S"
        refine hJ _ _ ⟨l3, _, rfl, kA.upd_new hl3, (kp_new hl3).get trivial eN14, upd_same, kA.free trivial hl3, fun z hz => ?_, by rw [List.length_append, List.length_take]; omega, by rw [List.length_append, List.length_take, List.length_take]; omega⟩
        rcases List.mem_append.mp hz with hz | hz
        · exact tkB.ok z (List.mem_of_mem_take hz)
        · exact tkN.ok z (List.mem_of_mem_take hz)
      · walk_at "S"
        exact hJ _ _ ⟨B, pol, rfl, kA, eN12, eB12, hB0, tkB.ok, lB.1, by omega⟩
    · rintro σ H12 ⟨B', pool, rfl, kA, eN12, eB12, hB0', okp, lp1, lp2⟩
      clear hp11 hp10 hp9 hp8 hp7 hp6 hp5
      walk_at "S"
      refine ⟨by omega, by omega, fun PD hPD => ?_⟩
      refine lc_goH walk_range (W := []) (PL := fun i xs H' => ∃ pl : List Addr, xs = pl.map V.ref ∧ PotsOk H H' pl ∧ pl.length = i) hPD ⟨[], rfl, ⟨(fun q hq => nomatch hq)⟩, rfl⟩ (fun _ _ => trivial) (fun i x Ha Hb hi Ib y => ?_) fun H13 I13 => ?_
      · obtain ⟨rfl, rfl⟩ := y
        obtain ⟨xs, ex, ⟨pl, rfl, po, lp⟩, lx, k0⟩ := Ib
        have hi : i < sz := by have := hi; omega
        walk_at "S"
        refine ⟨rfl, ?_⟩
        walk_at "S"
        refine ⟨a, ns, 1 + i, by rw [show ((1 + i : Nat) : Int) = 1 + (0 + (i : Int)) from by omega]; rfl, (kA.tr k0).seqL trivial hs0, by omega, fun Hc pq kc hpq hpqo => ?_⟩
        have exc := kc.get trivial ex
        have poc := po.same kc
        refine LcInvH.put ex lx k0 hPD trivial kc (small_lt (by omega)) ⟨pl ++ [pq], by rw [List.map_append]; rfl, ⟨fun q' hq => ?_⟩, by rw [List.length_append, lp]; rfl⟩
        rcases List.mem_append.mp hq with hq | hq
        · exact ⟨(poc.ok q' hq).1.upd (pot_refs (poc.ok q' hq).1 exc), (poc.ok q' hq).2⟩
        · rw [List.mem_singleton.mp hq]
          exact ⟨hpqo.upd (pot_refs hpqo exc), (kA.tr k0).free trivial hpq⟩
      obtain ⟨xs, exP, ⟨pl, rfl, po, lpl⟩, lx, k1213⟩ := I13
      have lpl : pl.length = sz := by have := lpl; omega
      have kA := kA.tr k1213
      have eN13 := k1213.get trivial eN12
      have eB13 := k1213.get trivial eB12
      walk_at "S"
      intro D hD
      have k14 := kp_new (o := .dK []) hD
      have eD : upd H13 D (.dK []) D = some (.dK []) := upd_same
      have hD0 : H D = none := kA.free trivial hD
      have kA := kA.tr k14
      have eN14 := k14.get trivial eN13
      have eB14 := k14.get trivial eB13
      have eP14 := k14.get trivial exP
      have po := po.same k14
      generalize upd H13 D (.dK []) = H14 at *
      walk_at "S"
      refine s_iEnumL ?_
      walk_at "S"
      refine ⟨N, _, rfl, sq_l eN14, ?_⟩
      refine for_go walk_enum (fun i σ Hi => ∃ (pkv : List (Key × V)) (ps : Plans) (o5 o9 : Option V), σ = [some (.ref a), some (.ref p), some (.int wy), some (.int (sz : Nat)), some (.ref N), o5, some (.ref B'), some (.ref PD), some (.ref D), o9, none, none] ∧ Kp [] H Hi ∧ PotsOk H Hi pl ∧ Hi N = some (.lst (nms.map V.str)) ∧ Hi B' = some (.lst (pool.map V.str)) ∧ Hi PD = some (.lst (pl.map V.ref)) ∧
          PlansAt K Hi D pkv ps ∧ ps.map (·.1) = nms.take i ∧ (∀ e ∈ ps, (∀ h ∈ e.2, HdOk pool h) ∧ e.2.length ≤ 40))
        ⟨[], [], _, _, rfl, kA, po, eN14, eB14, eP14, ⟨eD, .nil⟩, rfl, (fun e he => nomatch he)⟩ (fun j σ Hj _ I => by obtain ⟨_, _, _, _, rfl, _, _, e, _⟩ := I; exact sq_l e) (fun i x σ Ha Hb hi I y => ?_) fun σ H15 I => ?_
      · obtain ⟨t, kx, vx, rfl, nt, rfl, y1, y2⟩ := y
        obtain ⟨pkv, ps, o5, o9, rfl, kI, po, eNi, eBi, ePi, PA, ek, ok⟩ := I
        rw [List.length_map] at hi
        have ez := List.getElem?_eq_getElem hi
        generalize nms[i] = z at ez
        dsimp only at y1 y2
        rw [List.getElem?_map, ez] at y2
        obtain rfl : V.int (i : Nat) = kx := Option.some.inj y1
        obtain rfl : V.str z = vx := Option.some.inj y2
        have hpl : i < pl.length := by omega
        have epq := List.getElem?_eq_getElem hpl
        generalize pl[i] = pq at epq
        have mpq := List.mem_of_getElem? epq
        refine s_gtup (sq_t upd_same) rfl ?_
        have kt := kp_new (o := .tup [.int (i : Nat), .str z]) nt
        have kI := kI.tr kt
        have po := po.same kt
        have eNi := kt.get trivial eNi
        have eBi := kt.get trivial eBi
        have ePi := kt.get trivial ePi
        have PA := PA.same kt
        generalize upd Ha t (.tup [.int (i : Nat), .str z]) = Hc at *
        walk_at "S"
        refine s_ixL (sq_l ePi) (atI_nat (by rw [List.getElem?_map, epq]; rfl)) ?_
        walk_at "S"
        refine ⟨pq, B', pool, wy, rfl, (po.ok pq mpq).1, eBi, fun e => by rw [e] at lp1; exact absurd lp1 (by decide), by omega, fun H16 l xs hs k16 hp16 nl hd hok lh => ?_⟩
        have hpq := (po.ok pq mpq).1
        have kI : Kp [] H H16 := kI.step k16 fun x hx => .inr (by rw [List.mem_singleton.mp hx]; exact (po.ok pq mpq).2)
        have PA := PA.pot hpq k16
        have eNi := k16.get (nin1' (pot_strs hpq eNi)) eNi
        have eBi := k16.get (nin1' (pot_strs hpq eBi)) eBi
        have ePi := k16.get (nin1' (pot_refs hpq ePi)) ePi
        have po := po.pot k16 hp16
        have nz : z ∉ ps.map (·.1) := by
          rw [ek]
          intro hm
          obtain ⟨j, hj, e⟩ := List.mem_take_iff_getElem.mp hm
          have e2 := (List.getElem?_eq_some_iff.mp ez).2
          exact absurd (e.trans e2.symm) (List.pairwise_iff_getElem.mp tkN.nd j i (by omega) hi (by omega))
        walk_at "S"
        have lps : ps.length ≤ 16 := by
          have := congrArg List.length ek
          rw [List.length_map, List.length_take] at this
          omega
        refine s_putS PA.at_ (small_lt (by rw [PA.nm.len]; omega)) ?_
        have PA2 := PA.put nz hd
        have kd : Kp [D] H16 (upd H16 D (.dK (putK pkv (.inr z) (.ref l)))) := Kp.refl.upd_mem List.mem_cons_self
        have lne : ∀ {q : Addr} {xs : List V}, H16 q = some (.lst xs) → q ≠ D := fun {q xs} h e => by rw [e, PA.at_] at h; cases h
        refine ⟨_, _, _, _, rfl, kI.upd_loc hD0, ⟨fun q' hq => ⟨(po.ok q' hq).1.upd (pot_dK (po.ok q' hq).1 PA.at_), (po.ok q' hq).2⟩⟩, kd.get ⟨lne eNi, trivial⟩ eNi, kd.get ⟨lne eBi, trivial⟩ eBi, kd.get ⟨lne ePi, trivial⟩ ePi, PA2, ?_, fun e he => ?_⟩
        · rw [List.map_append, ek, take_put ez]
          rfl
        · rcases List.mem_append.mp he with he | he
          · exact ok e he
          · rw [List.mem_singleton.mp he]; exact ⟨hok, lh⟩
      · obtain ⟨pkv, ps, o5, o9, rfl, kA, po, eN15, eB15, eP15, PA, ek, ok⟩ := I
        rw [List.length_map, List.take_of_length_le (Nat.le_refl _)] at ek
        have PO : PlansOk pool ps := ⟨by rw [ek]; exact tkN.nd, by have := congrArg List.length ek; rw [List.length_map] at this; omega, fun e he => tkN.ok _ (by rw [← ek]; exact List.mem_map.mpr ⟨e, he, rfl⟩), fun e he => (ok e he).1, okp, fun e he => (ok e he).2⟩
        walk_at "S"
        intro S hS
        have k16 := kp_new (o := .dK []) hS
        have eS : upd H15 S (.dK []) S = some (.dK []) := upd_same
        have hS0 : H S = none := kA.free trivial hS
        have nDS : D ≠ S := ne_of_none PA.at_ hS
        have kA := kA.tr k16
        have eN16 := k16.get trivial eN15
        have eP16 := k16.get trivial eP15
        have PA := PA.same k16
        have po := po.same k16
        generalize upd H15 S (.dK []) = H16 at *
        walk_at "S"
        refine s_iEnumL ?_
        walk_at "S"
        refine ⟨N, _, rfl, sq_l eN16, ?_⟩
        refine for_go walk_enum (fun i σ Hi => ∃ (kvs : List (Key × V)) (st : Shelf) (o5 o9 : Option V), σ = [some (.ref a), some (.ref p), some (.int wy), some (.int (sz : Nat)), some (.ref N), o5, some (.ref B'), some (.ref PD), some (.ref D), o9, some (.ref S), none] ∧ Kp [] H Hi ∧ PotsOk H Hi pl ∧ Hi N = some (.lst (nms.map V.str)) ∧ Hi PD = some (.lst (pl.map V.ref)) ∧
            PlansAt K Hi D pkv ps ∧ Hi S = some (.dK kvs) ∧ NmR (fun b v => Dp K Hi v (.tuple (rowsD b))) st kvs ∧ st.map (·.1) = nms.take i ∧ (∀ e ∈ st, ∃ hs, getA ps e.1 = some hs ∧ e.2.map bndR = hs.map (·.2) ∧ ∀ r ∈ e.2, RowP ps r))
          ⟨[], [], _, _, rfl, kA, po, eN16, eP16, PA, eS, .nil, rfl, (fun e he => nomatch he)⟩ (fun j σ Hj _ I => by obtain ⟨_, _, _, _, rfl, _, _, e, _⟩ := I; exact sq_l e) (fun i x σ Ha Hb hi I y => ?_) fun σ H17 I => ?_
        · obtain ⟨t, kx, vx, rfl, nt, rfl, y1, y2⟩ := y
          obtain ⟨kvs, st, o5, o9, rfl, kI, po, eNi, ePi, PA, eSi, nm, es, oks⟩ := I
          rw [List.length_map] at hi
          have ez := List.getElem?_eq_getElem hi
          generalize nms[i] = z at ez
          dsimp only at y1 y2
          rw [List.getElem?_map, ez] at y2
          obtain rfl : V.int (i : Nat) = kx := Option.some.inj y1
          obtain rfl : V.str z = vx := Option.some.inj y2
          have hpl : i < pl.length := by omega
          have epq := List.getElem?_eq_getElem hpl
          generalize pl[i] = pq at epq
          have mpq := List.mem_of_getElem? epq
          refine s_gtup (sq_t upd_same) rfl ?_
          have kt := kp_new (o := .tup [.int (i : Nat), .str z]) nt
          have kI := kI.tr kt
          have po := po.same kt
          have eNi := kt.get trivial eNi
          have ePi := kt.get trivial ePi
          have eSi := kt.get trivial eSi
          have PA := PA.same kt
          have nm := nm.mono (R' := fun b v => Dp K (upd Ha t (.tup [.int (i : Nat), .str z])) v (.tuple (rowsD b))) fun b v h => Dp.same kt _ _ h
          generalize upd Ha t (.tup [.int (i : Nat), .str z]) = Hc at *
          have mz : z ∈ ps.map (·.1) := by rw [ek]; exact List.mem_of_getElem? ez
          obtain ⟨hs, v, gh, gv, l, xs, rfl, hd⟩ : ∃ hs v, getA ps z = some hs ∧ valV pkv (.inr z) = some v ∧ ∃ l xs, v = V.ref l ∧ HdsAt K Hc l xs hs := by
            rcases PA.nm.get z with ⟨g, _⟩ | ⟨t, v, g, gv, r⟩
            · exact absurd mz (getA_none.mp g)
            · exact ⟨t, v, g, gv, r⟩
          have lhs : hs.length ≤ 40 := PO.len _ (getA_mem gh)
          have hpq := (po.ok pq mpq).1
          have lxs : xs.length = hs.length := Paired.length hd.pr
          have edl := hd.at_
          walk_at "S"
          refine s_getS PA.at_ gv ?_
          walk_at "S"
          refine ⟨⟨_, sq_l edl⟩, fun E hE => ?_⟩
          have npE := hpq.ne hE
          refine lc_goH (walk_list (K := K) (a := l) (xs := xs)) (W := [pq]) (PL := fun j ys H' => ∃ rs : List PH.Row, DpAll K H' ys (rowsD rs) ∧ rs.map bndR = (hs.take j).map (·.2) ∧ (∀ r ∈ rs, RowP ps r) ∧ PotOk H' pq) hE ⟨[], .nil, rfl, (fun r hr => nomatch hr), hpq.upd npE⟩ (fun Hq kq => sq_l (kq.get (nin1' (pot_hds hpq hd)) edl)) (fun j x Hd_ He hj Ib y => ?_) fun H18 I18 => ?_
          · obtain ⟨rfl, hx⟩ := y
            obtain ⟨ys, ey, ⟨rs, dr, er, okr, hpI⟩, ly, k0⟩ := Ib
            obtain ⟨hd0, eh, th, rfl, sq⟩ := pairG hd.pr hx
            obtain ⟨wd, bd⟩ := hd0
            have sqI := seqT_tups (tup_pot k0 hpq) sq
            have PAI := PA.pot hpq k0
            have ePI := k0.get (nin1' (pot_refs hpq ePi)) ePi
            walk_at "S"
            refine ⟨rfl, ?_⟩
            walk_at "S"
            refine s_ixL (sq_l ePI) (atI_nat (by rw [List.getElem?_map, epq]; rfl)) ?_
            walk_at "S"
            refine ⟨pq, th, D, pkv, ps, pool, i, wy, wd, bd, rfl, hpI, sqI, PAI, PO, PO.bd _ (getA_mem gh) _ (List.mem_of_getElem? eh), by omega, fun Hf u r kf hpf squ rp br => ?_⟩
            have eyf := kf.get (nin1' npE) ey
            refine LcInvH.put ey ly k0 hE ⟨npE.symm, trivial⟩ kf (small_lt (by omega)) ?_
            have tk := (Keep.one (o' := .lst (ys ++ [.ref u])) eyf (.lst _)).tup
            refine ⟨rs ++ [r], ?_, by rw [List.map_append, er, take_put eh, List.map_append]; simp [br], fun x hx => ?_, hpf.upd npE⟩
            · unfold rowsD at dr ⊢
              rw [List.map_append]
              exact PH.dpAll_app (Dp.tupsAll tk _ _ (flat_rowsD rs) (Dp.tupsAll (tup_pot kf hpI) _ _ (flat_rowsD rs) dr)) (.cons (sq_row rp.w (seqT_tups tk squ)) .nil)
            · rcases List.mem_append.mp hx with hx | hx
              · exact okr x hx
              · rw [List.mem_singleton.mp hx]; exact rp
          · obtain ⟨ys, ey, ⟨rs, dr, er, okr, hpI⟩, ly, k0⟩ := I18
            rw [List.take_of_length_le (by omega)] at er
            have tk0 := tup_pot k0 hpq
            have kI : Kp [] H H18 := kI.step k0 fun x hx => .inr (by rw [List.mem_singleton.mp hx]; exact (po.ok pq mpq).2)
            have PA := PA.pot hpq k0
            have eNi := k0.get (nin1' (pot_strs hpq eNi)) eNi
            have ePi := k0.get (nin1' (pot_refs hpq ePi)) ePi
            have eSi := k0.get (nin1' (pot_dK hpq eSi)) eSi
            have po := po.pot k0 hpI
            have nm := nm.mono (R' := fun b v => Dp K H18 v (.tuple (rowsD b))) fun b v h => Dp.tups tk0 _ _ (flat_rowsD b) h
            walk_at "S"
            refine s_tupL (sq_l ey) fun u hu' => ?_
            have ku := kp_new (o := .tup ys) hu'
            have du : Dp K (upd H18 u (.tup ys)) (.ref u) (.tuple (rowsD rs)) := .tup (sq_t upd_same) (Dp.sameAll ku _ _ dr)
            have kI := kI.tr ku
            have PA := PA.same ku
            have eNi := ku.get trivial eNi
            have ePi := ku.get trivial ePi
            have eSi := ku.get trivial eSi
            have po := po.same ku
            have nm := nm.mono (R' := fun b v => Dp K (upd H18 u (.tup ys)) v (.tuple (rowsD b))) fun b v h => Dp.same ku _ _ h
            generalize upd H18 u (.tup ys) = H19 at *
            have nz : z ∉ st.map (·.1) := by
              rw [es]
              intro hm
              obtain ⟨j, hj, e⟩ := List.mem_take_iff_getElem.mp hm
              have e2 := (List.getElem?_eq_some_iff.mp ez).2
              exact absurd (e.trans e2.symm) (List.pairwise_iff_getElem.mp tkN.nd j i (by omega) hi (by omega))
            have lst_ : st.length ≤ 16 := by
              have := congrArg List.length es
              rw [List.length_map, List.length_take] at this
              omega
            walk_at "S"
            refine s_putS eSi (small_lt (by rw [nm.len]; omega)) ?_
            have tk2 := (Keep.one (o' := .dK (putK kvs (.inr z) (.ref u))) eSi (.dK _)).tup
            have nm2 := (nm.mono (R' := fun b v => Dp K (upd H19 S (.dK (putK kvs (.inr z) (.ref u)))) v (.tuple (rowsD b))) fun b v h => Dp.tups tk2 _ _ (flat_rowsD b) h).put (z := z) (t := rs) (v := .ref u) (Dp.tups tk2 _ _ (flat_rowsD rs) du)
            rw [putA_new nz] at nm2
            have kd : Kp [S] H19 (upd H19 S (.dK (putK kvs (.inr z) (.ref u)))) := Kp.refl.upd_mem List.mem_cons_self
            have lne : ∀ {q : Addr} {xs : List V}, H19 q = some (.lst xs) → q ≠ S := fun {q xs} h e => by rw [e, eSi] at h; cases h
            refine ⟨_, st ++ [(z, rs)], _, _, rfl, kI.upd_loc hS0, ⟨fun q' hq => ⟨(po.ok q' hq).1.upd (pot_dK (po.ok q' hq).1 eSi), (po.ok q' hq).2⟩⟩, kd.get ⟨lne eNi, trivial⟩ eNi, kd.get ⟨lne ePi, trivial⟩ ePi, PA.dk eSi nDS, upd_same, nm2, ?_, fun e he => ?_⟩
            · rw [List.map_append, es, take_put ez]
              rfl
            · rcases List.mem_append.mp he with he | he
              · exact oks e he
              · rw [List.mem_singleton.mp he]
                exact ⟨hs, gh, er, okr⟩
        · obtain ⟨kvs, st, o5, o9, rfl, kA, po, eN17, eP17, PA, eS17, nm, es, oks⟩ := I
          rw [List.length_map, List.take_of_length_le (Nat.le_refl _)] at es
          walk_at "S"
          have mk : ∀ p, p ∈ ps.map (·.1) → p ∈ keysS st := fun p hp => by show p ∈ st.map (·.1); rw [es, ← ek]; exact hp
          have ndS : (keysS st).Nodup := by show (st.map (·.1)).Nodup; rw [es]; exact tkN.nd
          have PS : PlainS st := by
            refine ⟨ndS, fun e he => (tkN.ok _ (by rw [← es]; exact List.mem_map.mpr ⟨e, he, rfl⟩)).nm, fun e he => ?_, fun e he r hr => ?_, by have := congrArg List.length es; rw [List.length_map] at this; omega⟩
            · obtain ⟨hs, gh, er, _⟩ := oks e he
              have := congrArg List.length er
              rw [List.length_map, List.length_map] at this
              have := PO.len _ (getA_mem gh)
              have : hs.length ≤ 40 := this
              omega
            · obtain ⟨hs, gh, er, okr⟩ := oks e he
              have rp := okr r hr
              cases r with
              | set x n => exact rp
              | late x n => exact rp
              | take x p => exact ⟨rp.1, rp.2.1, mk p rp.2.2⟩
              | draw x p y =>
                obtain ⟨r1, r2, r3, hs2, g2, m2⟩ := rp
                have mp := mk p (List.mem_map.mpr ⟨_, getA_mem g2, rfl⟩)
                cases gs : getA st p with
                | none => exact absurd mp (getA_none.mp gs)
                | some b =>
                  obtain ⟨hs3, g3, e3, _⟩ := oks _ (getA_mem gs)
                  rw [g2] at g3
                  cases g3
                  exact ⟨r1, r2, r3, b, gs, by rw [e3]; exact m2⟩
              | _ => exact rp.elim
          exact q _ S kvs st kA hS0 eS17 ⟨⟨.inl eS17, nm⟩, PS⟩ (by have := congrArg List.length es; rw [List.length_map] at this; omega)
end

def spLAims (K : PySem.W.Frag) : Sp := fun vs H Q _ => ∃ (v : V) (b : List PH.Row), vs = [v] ∧ (∀ r ∈ b, PlainW r) ∧ b.length ≤ 1000 ∧ Dp K H v (.tuple (rowsD b)) ∧ ∀ H' l, Kp [] H H' → H l = none → H' l = some (.lst ((aimsL b).map V.str)) → Q (.ref l) H'
def spDrawsOf (K : PySem.W.Frag) : Sp := fun vs H Q _ => ∃ (S : Addr) (kvs : List (Key × V)) (st : Shelf), vs = [.ref S] ∧ Plain K H S kvs st ∧ ∀ H' p xs, Kp [] H H' → H p = none → H' p = some (.lst xs) → DpAll K H' xs ((allDraws st (srt (keysS st))).map dwD) → Q (.ref p) H'
def spLDraws (K : PySem.W.Frag) : Sp := fun vs H Q _ => ∃ (S : Addr) (kvs : List (Key × V)) (st : Shelf), vs = [.ref S] ∧ Plain K H S kvs st ∧ ∀ H' p xs, Kp [] H H' → H p = none → H' p = some (.lst xs) → DpAll K H' xs ((allDraws st (keysS st)).map dwD) → Q (.ref p) H'
def spEarlyAims (K : PySem.W.Frag) : Sp := fun vs H Q _ => ∃ (S : Addr) (kvs : List (Key × V)) (st : Shelf) (m y : Str), vs = [.ref S, .str m, .str y] ∧ Plain K H S kvs st ∧ m ∈ keysS st ∧ y ∈ (bodyS st m).map bndR ∧ ∀ H' p, Kp [] H H' → H p = none → H' p = some (.lst ((earlyL st m y).map V.str)) → Q (.ref p) H'
def spLFirst (K : PySem.W.Frag) : Sp := fun vs H Q _ => ∃ (v : V) (b : List PH.Row) (z : Str), vs = [v, .str z] ∧ (∀ r ∈ b, PlainW r) ∧ b.length ≤ 1000 ∧ Dp K H v (.tuple (rowsD b)) ∧ ∀ H', Kp [] H H' → Q (.int (fstR b z : Nat)) H'
theorem upd_swap {H : Hp} {a b : Addr} {o u : HO} (n : a ≠ b) : upd (upd H b u) a o = upd (upd H a o) b u := funext fun c => by
  by_cases c1 : c = a
  · subst c1
    rw [upd_same, upd_ne n, upd_same]
  · by_cases c2 : c = b
    · subst c2
      rw [upd_ne c1, upd_same, upd_same]
    · rw [upd_ne c1, upd_ne c2, upd_ne c2, upd_ne c1]
theorem dpAll_take {K : PySem.W.Frag} {H : Hp} : ∀ {xs : List V} {ds : List PyData} (n : Nat), DpAll K H xs ds → DpAll K H (xs.take n) (ds.take n)
  | _, _, 0, _ => .nil
  | _, _, _ + 1, .nil => .nil
  | _, _, n + 1, .cons h t => .cons h (dpAll_take n t)
theorem s_slTake {K : PySem.W.Frag} {H : Hp} {Q : VK} {a : Addr} {xs : List V} {ds : List PyData} (s : SqT K H a xs) (dd : DpAll K H xs ds) (n : Nat) (q : ∀ x H', Kp [] H H' → Dp K H' x (.tuple (ds.take n)) → Q x H') : rSlA K (.ref a) none (some (n : Int)) H Q := by
  have l : xs.length = ds.length := HL.DpAll.len dd
  refine ⟨a, xs, rfl, s, fun h => ?_, fun h p hp => ?_⟩
  · have h2 := h.2
    rw [HT.sIx_nat] at h2
    refine q _ _ Kp.refl ?_
    rw [List.take_of_length_le (by omega)]
    exact .tup s dd
  · have e : cutV xs none (some (n : Int)) = xs.take n := by
      unfold cutV
      rw [HT.sIx_nat, HT.sIx_none, List.drop_zero, Nat.sub_zero]
      by_cases c : n ≤ xs.length
      · rw [Nat.min_eq_left c]
      · rw [Nat.min_eq_right (by omega), List.take_of_length_le (Nat.le_refl _), List.take_of_length_le (by omega)]
    rw [e]
    exact q _ _ (kp_new hp) (.tup (sq_t upd_same) (Dp.sameAll (kp_new hp) _ _ (dpAll_take n dd)))
theorem flat_row {r : PH.Row} (w : PlainW r) : flatD (r.dat 3) = true := by
  cases r <;> first | rfl | exact w.elim
/-- a list of draws -/
structure DwAt (K : PySem.W.Frag) (H : Hp) (l : Addr) (xs : List V) (ds : List Dw) : Prop where
  at_ : H l = some (.lst xs)
  dp : DpAll K H xs (ds.map dwD)
theorem flat_dws (ds : List Dw) : flatAll (ds.map dwD) = true := flatAll_of fun x hx => by
  obtain ⟨d, _, rfl⟩ := List.mem_map.mp hx
  rfl
theorem DwAt.same {K : PySem.W.Frag} {H H' : Hp} {l : Addr} {xs : List V} {ds : List Dw} (h : DwAt K H l xs ds) (k : Kp [] H H') : DwAt K H' l xs ds := ⟨k.get trivial h.at_, Dp.sameAll k _ _ h.dp⟩
theorem DwAt.len {K : PySem.W.Frag} {H : Hp} {l : Addr} {xs : List V} {ds : List Dw} (h : DwAt K H l xs ds) : xs.length = ds.length := by
  rw [HL.DpAll.len h.dp, List.length_map]
theorem DwAt.snoc {K : PySem.W.Frag} {H : Hp} {l t : Addr} {xs : List V} {ds : List Dw} {d : Dw} (h : DwAt K H l xs ds) (s : SqT K H t (dwV d)) : DwAt K (upd H l (.lst (xs ++ [.ref t]))) l (xs ++ [.ref t]) (ds ++ [d]) := by
  have tk : TupK H (upd H l (.lst (xs ++ [.ref t]))) := (Keep.one h.at_ (.lst _)).tup
  refine ⟨upd_same, ?_⟩
  rw [List.map_append]
  exact DpAll.snoc (Dp.tupsAll tk _ _ (flat_dws ds) h.dp) (sq_dw (seqT_tups tk s))
section
variable {P : Program} {w : World} {K : PySem.W.Frag} {mg : Str → Option Value} {base : Heap}
theorem ok_l_aims {f : Addr} {fd : FuncData} (F : Fun K "_law_aims" "_law_aims" s_l_aims f fd) (T : Txt K mg )
     :
    FnOk P w K mg base CX0 1 f fd ["_law_rows"] (spLAims K) := by
  refine F.ok sc_l_aims (fun vs H Q E h => ?_) (fun cdv A outer s H vs Q E hr h => ?_)
  · obtain ⟨v, b, rfl, _⟩ := h
    rfl
  · obtain ⟨v, b, rfl, pw, lb, dv, q⟩ := h
    obtain ⟨tb, vs, rfl, stb, dvs⟩ : ∃ tb vs, v = .ref tb ∧ SqT K H tb vs ∧ DpAll K H vs (rowsD b) := by
      cases dv with
      | tup h d => exact ⟨_, _, rfl, h, d⟩
    have lvs : vs.length = b.length := by rw [HL.DpAll.len dvs]; exact List.length_map ..
    refine ⟨_, (pss_one (ps_ret (pe_lc (own := [("_law_row_here", 1)]) (g := gName 1) rfl sc_l_aims.nd (kiT (K := K) rfl (pi_tup (pv 0))) (blkOk_by (own := [("_law_row_here", 1)]) (N := N_l_aims) (sc := (defScope s_l_aims)) (by decide +kernel)) (fun _ _ _ _ _ => (pg_name (i := 1) sc_l_aims.nd rfl (Or.inl rfl))) (fun _ _ _ _ _ => (pts_one (pt_cmpR (inK (K := K) rfl) (pe_ix (ixTK (K := K) rfl) (pv 1) pe_int (fun _ _ => rfl)) (pe_tup (pa_cons pe_str (pa_cons pe_str pa_nil))) (by rfl)))) (fun _ _ _ _ _ => (pe_ix (ixTK (K := K) rfl) (pv 1) pe_int (fun _ _ => rfl)))))), ?_⟩
    refine st_start (σ' := [some (.ref tb), none]) rfl ?_
    walk_at "S"
    refine ⟨⟨_, stb⟩, fun D hD => ?_⟩
    have LC : LcOk D vs.length (fun i => (aimsL (b.take i)).map V.str) [] H (fun _ _ => True) := ⟨small_le (by omega), rfl, fun i hi => by
      rw [List.length_map]
      refine Nat.le_trans (List.length_filterMap_le _ _) ?_
      rw [List.length_take]
      omega, hD, trivial, fun _ _ _ h => h⟩
    refine lc_go (walk_tup (K := K) (a := tb) (xs := vs)) LC trivial (fun Hq kq => kq.seqT trivial stb) (fun i x Ha Hb hi Ib y => ?_) fun H4 I4 => ?_
    · obtain ⟨rfl, hx⟩ := y
      obtain ⟨e, ee, de⟩ := dpAll_get dvs hx
      have hib : i < b.length := by omega
      have eb := List.getElem?_eq_getElem hib
      have mb := List.getElem_mem hib
      generalize b[i] = r at eb mb
      rw [List.getElem?_map, eb] at ee
      obtain rfl : r.dat 3 = e := Option.some.inj ee
      have de := Dp.same Ib.2.1 _ _ de
      have acc := aimsL_put eb
      have pr := pw r mb
      obtain ⟨t, rfl, sq⟩ := row_sq pr de
      cases r <;> first | exact pr.elim | skip
      all_goals
        unfold rowV at sq
        walk_at "S"
        refine ⟨rfl, ?_⟩
        walk_at "S"
        refine ⟨small_le (by simp), fun t2 ht2 => ?_⟩
        have k2 := kp_new (o := .tup [.str "take", .str "draw"]) ht2
        have sq := k2.seqT trivial sq
        walk_at "S"
        refine ⟨t2, (["take", "draw"] : List Str).map V.str, rfl, .inr (sq_t upd_same), rfl, flatV_strs _, ?_⟩
        rw [inV_strs]
        walk_at "S"
        first
          | (rw [if_pos (by decide +kernel)]
             walk_at "S"
             refine Ib.put LC hi ?_ k2 trivial
             rw [acc, List.map_append]
             rfl)
          | (rw [if_neg (by decide +kernel)]
             refine Ib.skip LC ?_ k2 trivial
             rw [acc]
             show List.map V.str (_ ++ []) = _
             rw [List.append_nil])
    · obtain ⟨x4, k4, _⟩ := I4
      dsimp only at x4
      rw [List.take_of_length_le (by omega)] at x4
      walk_at "S"
      exact q _ D k4 hD x4
theorem ok_early_aims {f : Addr} {fd : FuncData} (F : Fun K "early_aims" "early_aims" s_early_aims f fd) (T : Txt K mg )
    (D_first_row : DnF P w K mg base 2 "first_row" ["body", "name"] (spFirstRow K)) (D_aims_of : DnF P w K mg base 2 "aims_of" ["rows"] (spAimsOf K)) :
    FnOk P w K mg base CX0 3 f fd ["stock", "m", "x"] (spEarlyAims K) := by
  refine F.ok sc_early_aims (fun vs H Q E h => ?_) (fun cdv A outer s H vs Q E hr h => ?_)
  · obtain ⟨S, kvs, st, m, y, rfl, _⟩ := h
    rfl
  · obtain ⟨f_first_row, fd_first_row, G_first_row, m_first_row, k_first_row, b_first_row⟩ := D_first_row; obtain ⟨f_aims_of, fd_aims_of, G_aims_of, m_aims_of, k_aims_of, b_aims_of⟩ := D_aims_of
    obtain ⟨S, kvs, st, m, y, rfl, PL, km, my, q⟩ := h
    have hu := hu_of hr
    refine ⟨_, (pss_cons (ps_set (i := 3) sc_early_aims.nd rfl (Or.inl rfl) (pe_call G_first_row (hr.mono (by first | decide | omega)) (by rfl) m_first_row k_first_row b_first_row .nil pass0 (pa_cons (pe_dget hu (pv 0) (pv 1) (fun _ _ => rfl)) (pa_cons (pv 2) pa_nil))))
      (pss_one (ps_ret (pe_lc (own := [("name", 4)]) (g := gName 4) rfl sc_early_aims.nd (kiL (K := K) rfl (pi_list (pe_call G_aims_of (hr.mono (by first | decide | omega)) (by rfl) m_aims_of k_aims_of b_aims_of .nil pass0 (pa_cons (pe_slice sl_tupA (pe_dget hu (pv 0) (pv 1) (fun _ _ => rfl)) po_none (po_some (pe_op op_add (pv 3) pe_int))) pa_nil)))) (blkOk_by (own := [("name", 4)]) (N := N_early_aims) (sc := (defScope s_early_aims)) (by decide +kernel)) (fun _ _ _ _ _ => (pg_name (i := 4) sc_early_aims.nd rfl (Or.inl rfl))) (fun _ _ _ _ _ => (pts_one (pt_cmpR op_ne (pv 4) (pv 1) (nomark _)))) (fun _ _ _ _ _ => (pv 4)))))), ?_⟩
    refine st_start (σ' := [some (.ref S), some (.str m), some (.str y), none, none]) rfl ?_
    have eb := body_key PL.ok km
    obtain ⟨vb, gv, dvb⟩ := PL.at_.get eb
    obtain ⟨w1, w2⟩ := PL.ok.pw eb
    walk_at "S"
    refine s_getR PL.at_.rd gv ?_
    walk_at "S"
    refine ⟨vb, _, y, rfl, w1, by omega, dvb, fun H1 k1 => ?_⟩
    rw [fstR_some my, show optI (some (fstR (bodyS st m) y)) = V.int (fstR (bodyS st m) y : Nat) from rfl]
    have PL1 := PL.same k1
    obtain ⟨vb1, gv1, dvb1⟩ := PL1.at_.get eb
    walk_at "S"
    refine s_getR PL1.at_.rd gv1 ?_
    walk_at "S"
    have e1 : ((fstR (bodyS st m) y : Nat) : Int) + 1 = ((fstR (bodyS st m) y + 1 : Nat) : Int) := by omega
    rw [e1]
    obtain ⟨tb, vs, rfl, stb, dvs⟩ : ∃ tb vs, vb1 = .ref tb ∧ SqT K H1 tb vs ∧ DpAll K H1 vs (rowsD (bodyS st m)) := by
      cases dvb1 with
      | tup h d => exact ⟨_, _, rfl, h, d⟩
    refine s_slTake stb dvs _ fun x H2 k2 dx => ?_
    rw [← List.map_take] at dx
    walk_at "S"
    refine ⟨x, (bodyS st m).take (fstR (bodyS st m) y + 1), rfl, fun r hr => w1 r (List.mem_of_mem_take hr), by rw [List.length_take]; omega, dx, fun H3 l k3 nl el => ?_⟩
    walk_at "S"
    refine ⟨⟨_, sq_l el⟩, fun E hE => ?_⟩
    have kk := k1.tr (k2.tr k3)
    have hE0 : H E = none := kk.free trivial hE
    generalize has : aimsL ((bodyS st m).take (fstR (bodyS st m) y + 1)) = as at *
    have las : as.length ≤ 40 := by
      rw [← has]
      refine Nat.le_trans (List.length_filterMap_le _ _) ?_
      rw [List.length_take]
      omega
    have LC : LcOk E (as.map V.str).length (fun i => ((as.take i).filter fun z => !decide (z = m)).map V.str) [] H3 (fun _ _ => True) := ⟨small_le (by rw [List.length_map]; omega), rfl, fun i hi => by
      rw [List.length_map]
      refine Nat.le_trans (List.length_filter_le _ _) ?_
      rw [List.length_take]
      omega, hE, trivial, fun _ _ _ h => h⟩
    refine lc_go (walk_list (K := K) (a := l) (xs := as.map V.str)) LC trivial (fun Hq kq => sq_l (kq.get trivial el)) (fun i x Ha Hb hi Ib y => ?_) fun H4 I4 => ?_
    · obtain ⟨rfl, hx⟩ := y
      have hi' := hi
      rw [List.length_map] at hi'
      have ez := List.getElem?_eq_getElem hi'
      generalize as[i] = z at ez
      rw [List.getElem?_map, ez] at hx
      obtain rfl : V.str z = x := Option.some.inj hx
      have acc : (as.take (i + 1)).filter (fun z => !decide (z = m)) = (as.take i).filter (fun z => !decide (z = m)) ++ if z = m then [] else [z] := by
        rw [take_put ez, List.filter_append]
        congr 1
        by_cases d : z = m
        · rw [if_pos d, List.filter_cons_of_neg (by simpa using d)]; rfl
        · rw [if_neg d, List.filter_cons_of_pos (by simpa using d)]; rfl
      walk_at "S"
      refine ⟨rfl, ?_⟩
      walk_at "S"
      by_cases d : z = m
      · rw [if_neg (by simp [d])]
        rw [if_pos d, List.append_nil] at acc
        refine Ib.skip LC ?_ Kp.refl trivial
        rw [acc]
      · rw [if_pos (by simp [d])]
        rw [if_neg d] at acc
        walk_at "S"
        refine Ib.put LC hi ?_ Kp.refl trivial
        rw [acc, List.map_append]
        rfl
    · obtain ⟨x4, k4, _⟩ := I4
      dsimp only at x4
      rw [List.take_of_length_le (by rw [List.length_map]; exact Nat.le_refl _)] at x4
      walk_at "S"
      refine q H4 E (kk.tr k4) hE0 ?_
      rw [x4, ← has]
      rfl
theorem ok_l_first {f : Addr} {fd : FuncData} (F : Fun K "_law_first" "_law_first" s_l_first f fd) (T : Txt K mg )
     :
    FnOk P w K mg base CX0 1 f fd ["_law_body", "_law_name_here"] (spLFirst K) := by
  refine F.ok sc_l_first (fun vs H Q E h => ?_) (fun cdv A outer s H vs Q E hr h => ?_)
  · obtain ⟨v, b, z, rfl, _⟩ := h
    rfl
  · skip
    obtain ⟨v, b, z, rfl, pw, lb, dv, q⟩ := h
    obtain ⟨tb, vs, rfl, stb, dvs⟩ : ∃ tb vs, v = .ref tb ∧ SqT K H tb vs ∧ DpAll K H vs (rowsD b) := by
      cases dv with
      | tup h d => exact ⟨_, _, rfl, h, d⟩
    have lvs : vs.length = b.length := by rw [HL.DpAll.len dvs]; exact List.length_map ..
    refine ⟨_, (pss_cons (ps_for PassesOwn.never rfl (pi_enumT (K := K) rfl (by rfl) T.n_enumerate (pa_cons (pv 0) pa_nil)) (kgT (K := K) rfl (pg_tup rfl (pgs_cons (pg_name (i := 2) sc_l_first.nd rfl (Or.inl rfl)) (pgs_cons (pg_name (i := 3) sc_l_first.nd rfl (Or.inl rfl)) pgs_nil)))) (pss_one (ps_if (pt_cmpR op_eq (pe_ix (ixTK (K := K) rfl) (pv 3) pe_int (fun _ _ => rfl)) (pv 1) (nomark _)) (pss_one (ps_ret (pv 2))) pss_nil)))
      (pss_one (ps_ret (pe_callB (lenK (K := K) rfl) (by rfl) T.n_len (by decide +kernel) (pa_cons (pv 0) pa_nil))))), ?_⟩
    refine st_start (σ' := [some (.ref tb), some (.str z), none, none]) rfl ?_
    walk_at "S"
    refine s_iEnumT ?_
    walk_at "S"
    refine ⟨tb, vs, rfl, stb, ?_⟩
    refine for_go (walk_enumT (K := K) (a := tb) (xs := vs)) (fun i σ Hi => ∃ o2 o3 : Option V, σ = [some (.ref tb), some (.str z), o2, o3] ∧ Kp [] H Hi ∧ firstR (b.take i) z = none)
      ⟨_, _, rfl, Kp.refl, rfl⟩ (fun i σ Hi _ I => by obtain ⟨_, _, rfl, k, _⟩ := I; exact k.seqT trivial stb) (fun i x σ Ha Hb hi I y => ?_) fun σ Hb I => ?_
    · obtain ⟨t, kx, vx, rfl, nt, rfl, y1, y2⟩ := y
      obtain ⟨o2, o3, rfl, kk, no⟩ := I
      dsimp only at y1 y2
      obtain rfl : V.int (i : Nat) = kx := Option.some.inj y1
      obtain ⟨e, ee, de⟩ := dpAll_get dvs y2
      have hib : i < b.length := by omega
      have eb := List.getElem?_eq_getElem hib
      have mb := List.getElem_mem hib
      generalize b[i] = r at eb mb
      rw [List.getElem?_map, eb] at ee
      obtain rfl : r.dat 3 = e := Option.some.inj ee
      have kt := kp_new (o := .tup [.int (i : Nat), vx]) nt
      have de := Dp.same (kk.tr kt) _ _ de
      obtain ⟨f1, f2⟩ := firstR_step no eb
      refine s_gtup (sq_t upd_same) rfl ?_
      obtain ⟨tr, rfl, sq⟩ := row_sq (pw r mb) de
      have sq1 : atI (rowV r) 1 = some (V.str (bndR r)) := by
        have := pw r mb
        cases r <;> first | rfl | exact this.elim
      walk_at "S"
      refine s_ixT sq sq1 ?_
      walk_at "S"
      by_cases c : bndR r = z
      · rw [if_pos (by simp [c])]
        walk_at "S"
        have := q _ (kk.tr kt)
        unfold fstR at this
        rw [f1 c] at this
        exact this
      · rw [if_neg (by simp [c])]
        walk_at "S"
        exact ⟨_, _, rfl, kk.tr kt, f2 c⟩
    · obtain ⟨o2, o3, rfl, kk, no⟩ := I
      rw [List.take_of_length_le (by omega)] at no
      walk_at "S"
      refine s_lenT (kk.seqT trivial stb) ?_
      have := q _ kk
      unfold fstR at this
      rw [no] at this
      rw [lvs]
      exact this
theorem ok_draws_of {f : Addr} {fd : FuncData} (F : Fun K "draws_of" "draws_of" s_draws_of f fd) (T : Txt K mg )
     :
    FnOk P w K mg base CX0 1 f fd ["stock"] (spDrawsOf K) := by
  refine F.ok sc_draws_of (fun vs H Q E h => ?_) (fun cdv A outer s H vs Q E hr h => ?_)
  · obtain ⟨S, kvs, st, rfl, _⟩ := h
    rfl
  · skip
    obtain ⟨S, kvs, st, rfl, PL, q⟩ := h
    have hu := hu_of hr
    refine ⟨_, (pss_cons (ps_set (i := 1) sc_draws_of.nd rfl (Or.inl rfl) (pe_lst pa_nil))
      (pss_cons (ps_for PassesOwn.never rfl (kiL (K := K) rfl (pi_list (pe_callB (call_sortedD rfl) (by rfl) T.n_sorted (by decide +kernel) (pa_cons (pv 0) pa_nil)))) (pg_name (i := 2) sc_draws_of.nd rfl (Or.inl rfl)) (pss_one (ps_for PassesOwn.never rfl (pi_enumT (K := K) rfl (by rfl) T.n_enumerate (pa_cons (pe_dget hu (pv 0) (pv 2) (fun _ _ => rfl)) pa_nil)) (kgT (K := K) rfl (pg_tup rfl (pgs_cons (pg_name (i := 3) sc_draws_of.nd rfl (Or.inl rfl)) (pgs_cons (pg_name (i := 4) sc_draws_of.nd rfl (Or.inl rfl)) pgs_nil)))) (pss_one (ps_if (pt_cmpR op_eq (pe_ix (ixTK (K := K) rfl) (pv 4) pe_int (fun _ _ => rfl)) pe_str (nomark _)) (pss_one (ps_expr (kBM (K := K) rfl (pe_bm PySem.F.plainAttrs_list PySem.F.slot_list_append PySem.F.type_list_append mt_append (pv 1) (pa_cons (pe_tup (pa_cons (pv 2) (pa_cons (pv 3) (pa_cons (pe_ix (ixTK (K := K) rfl) (pv 4) pe_int (fun _ _ => rfl)) (pa_cons (pe_ix (ixTK (K := K) rfl) (pv 4) pe_int (fun _ _ => rfl)) pa_nil))))) pa_nil))))) pss_nil)))))
      (pss_one (ps_ret (pv 1))))), ?_⟩
    refine st_start (σ' := [some (.ref S), none, none, none, none]) rfl ?_
    walk_at "S"
    refine ⟨small_le (by simp), fun fl hfl => ?_⟩
    have k1 := kp_new (o := .lst []) hfl
    have D1 : DwAt K (upd H fl (.lst [])) fl [] [] := ⟨upd_same, .nil⟩
    have PL1 := PL.same k1
    generalize upd H fl (.lst []) = H1 at *
    have few : (keysS st).length ≤ 16 := by have := PL.ok.few; rw [show (keysS st).length = st.length from List.length_map ..]; exact this
    walk_at "S"
    refine ⟨S, kvs, keysS st, rfl, PL1.at_.rd, PL1.at_.nm.keys, by omega, fun ys p pm so hp => ?_⟩
    obtain rfl : ys = srt (keysS st) := srt_eq pm so
    have k2 := kp_new (o := .lst ((srt (keysS st)).map V.str)) hp
    have ep : upd H1 p (.lst ((srt (keysS st)).map V.str)) p = some (.lst ((srt (keysS st)).map V.str)) := upd_same
    have D2 := D1.same k2
    have PL2 := PL1.same k2
    have nfp : p ≠ fl := fun e => by rw [e, D1.at_] at hp; cases hp
    have kA := k1.tr k2
    generalize upd H1 p (.lst ((srt (keysS st)).map V.str)) = H2 at *
    have lsr : (srt (keysS st)).length ≤ 16 := by rw [(srt_perm _).length_eq]; exact few
    have ZK : ∀ y ∈ srt (keysS st), y ∈ keysS st := fun y hy => (srt_perm _).mem_iff.mp hy
    walk_at "S"
    refine ⟨⟨_, sq_l ep⟩, ?_⟩
    refine for_go (walk_list (K := K) (a := p) (xs := (srt (keysS st)).map V.str)) (fun i σ Hi => ∃ (o2 o3 o4 : Option V) (xs : List V), σ = [some (.ref S), some (.ref fl), o2, o3, o4] ∧ Kp [] H Hi ∧ Hi p = some (.lst ((srt (keysS st)).map V.str)) ∧ DwAt K Hi fl xs (allDraws st ((srt (keysS st)).take i)))
      ⟨_, _, _, _, rfl, kA, ep, D2⟩ (fun i σ Hi _ I => by obtain ⟨_, _, _, _, rfl, _, e, _⟩ := I; exact sq_l e) (fun i x σ Ha Hi hi I y => ?_) fun σ H3 I => ?_
    · obtain ⟨rfl, hx⟩ := y
      obtain ⟨o2, o3, o4, xs0, rfl, kI, epi, DI⟩ := I
      rw [List.length_map] at hi
      have ez := List.getElem?_eq_getElem hi
      generalize (srt (keysS st))[i] = z at ez
      rw [List.getElem?_map, ez] at hx
      obtain rfl : V.str z = x := Option.some.inj hx
      have mz : z ∈ keysS st := ZK z (List.mem_of_getElem? ez)
      have PLi := PL.same kI
      have eb := body_key PL.ok mz
      obtain ⟨vb, gv, dvb⟩ := PLi.at_.get eb
      obtain ⟨w1, w2⟩ := PL.ok.pw eb
      obtain ⟨tb, vs, rfl, stb, dvs⟩ : ∃ tb vs, vb = .ref tb ∧ SqT K Hi tb vs ∧ DpAll K Hi vs (rowsD (bodyS st z)) := by
        cases dvb with
        | tup h d => exact ⟨_, _, rfl, h, d⟩
      have lvs : vs.length = (bodyS st z).length := by rw [HL.DpAll.len dvs]; exact List.length_map ..
      have put := allDraws_put (st := st) ez
      have lz : (allDraws st ((srt (keysS st)).take i)).length ≤ 40 * 16 := by
        refine Nat.le_trans (allDraws_len PL.ok _ fun y hy => ZK y (List.mem_of_mem_take hy)) ?_
        have := List.length_take_le i (srt (keysS st))
        rw [List.length_take]
        omega
      walk_at "S"
      refine s_iEnumT ?_
      walk_at "S"
      refine s_getR PLi.at_.rd gv ?_
      walk_at "S"
      refine ⟨tb, vs, rfl, stb, ?_⟩
      refine for_go (walk_enumT (K := K) (a := tb) (xs := vs)) (fun j σ Hj => ∃ (o3 o4 : Option V) (xs : List V), σ = [some (.ref S), some (.ref fl), some (.str z), o3, o4] ∧ Kp [] H Hj ∧ Kp [fl] Hi Hj ∧ TupK Hi Hj ∧ DwAt K Hj fl xs (allDraws st ((srt (keysS st)).take i) ++ drawsB z ((bodyS st z).take j)))
        ⟨_, _, _, rfl, kI, Kp.refl, TupK.same Kp.refl, by rw [List.take_zero, show drawsB z [] = [] from rfl, List.append_nil]; exact DI⟩ (fun j σ Hj _ J => by obtain ⟨_, _, _, rfl, _, k, t, _⟩ := J; exact seqT_tups t stb) (fun j x σ Hj Hk hj J y => ?_) fun σ Hj J => ?_
      · obtain ⟨t, kx, vx, rfl, nt, rfl, y1, y2⟩ := y
        obtain ⟨o3, o4, xs, rfl, kJ, kJ2, tJ, DJ⟩ := J
        dsimp only at y1 y2
        obtain rfl : V.int (j : Nat) = kx := Option.some.inj y1
        obtain ⟨e, ee, de⟩ := dpAll_get dvs y2
        have hjb : j < (bodyS st z).length := by omega
        have er := List.getElem?_eq_getElem hjb
        have mr := List.getElem_mem hjb
        generalize (bodyS st z)[j] = r at er mr
        rw [List.getElem?_map, er] at ee
        obtain rfl : r.dat 3 = e := Option.some.inj ee
        have kt := kp_new (o := .tup [.int (j : Nat), vx]) nt
        have de := Dp.same kt _ _ (Dp.tups tJ _ _ (flat_row (w1 r mr)) de)
        have pr := w1 r mr
        obtain ⟨tr, rfl, sq⟩ := row_sq pr de
        have step := drawsB_put (z := z) er
        have DJ := DJ.same kt
        have lj : (drawsB z ((bodyS st z).take j)).length ≤ 40 := by
          refine Nat.le_trans (drawsB_len _ _) ?_
          rw [List.length_take]
          omega
        refine s_gtup (sq_t upd_same) rfl ?_
        have kJ := kJ.tr kt
        have kJ2 := kJ2.tr (Kp.nil_W kt)
        have tJ := tJ.trans (TupK.same kt)
        generalize upd Hj t (.tup [.int (j : Nat), .ref tr]) = Hl at *
        cases r with
        | draw x m y0 =>
          unfold rowV at sq
          walk_at "S"
          rw [if_pos (by decide +kernel)]
          have edj := DJ.at_
          walk_at "S"
          refine ⟨small_le (by simp), fun t2 ht2 => ?_⟩
          have k2 := kp_new (o := .tup [.str z, .int (j : Nat), .str m, .str y0]) ht2
          have D2 := DJ.same k2
          walk_at "S"
          refine s_append D2.at_ (small_lt (by rw [D2.len, List.length_append]; omega)) ?_
          have D3 := D2.snoc (d := (z, j, m, y0)) (sq_t upd_same)
          rw [List.append_assoc] at D3
          have tk2 := (Keep.one (o' := .lst (xs ++ [.ref t2])) D2.at_ (.lst _)).tup
          exact ⟨_, _, _, rfl, (kJ.tr k2).upd_loc hfl, (kJ2.tr (Kp.nil_W k2)).upd_mem List.mem_cons_self, (tJ.trans (TupK.same k2)).trans tk2, by rw [step]; exact D3⟩
        | set x n =>
          unfold rowV at sq
          walk_at "S"
          rw [if_neg (by decide +kernel)]
          walk_at "S"
          refine ⟨_, _, xs, rfl, kJ, kJ2, tJ, ?_⟩
          rw [step]
          show DwAt _ _ _ _ (_ ++ (_ ++ []))
          rw [List.append_nil]
          exact DJ
        | late x n =>
          unfold rowV at sq
          walk_at "S"
          rw [if_neg (by decide +kernel)]
          walk_at "S"
          refine ⟨_, _, xs, rfl, kJ, kJ2, tJ, ?_⟩
          rw [step]
          show DwAt _ _ _ _ (_ ++ (_ ++ []))
          rw [List.append_nil]
          exact DJ
        | take x n =>
          unfold rowV at sq
          walk_at "S"
          rw [if_neg (by decide +kernel)]
          walk_at "S"
          refine ⟨_, _, xs, rfl, kJ, kJ2, tJ, ?_⟩
          rw [step]
          show DwAt _ _ _ _ (_ ++ (_ ++ []))
          rw [List.append_nil]
          exact DJ
        | _ => exact pr.elim
      · obtain ⟨o3, o4, xs, rfl, kJ, kJ2, tJ, DJ⟩ := J
        rw [lvs, List.take_of_length_le (Nat.le_refl (bodyS st z).length)] at DJ
        walk_at "S"
        exact ⟨_, _, _, _, rfl, kJ, kJ2.get ⟨nfp, trivial⟩ epi, by rw [put]; exact DJ⟩
    · obtain ⟨o2, o3, o4, xs, rfl, kI, _, DI⟩ := I
      rw [List.length_map, List.take_of_length_le (Nat.le_refl _)] at DI
      walk_at "S"
      exact q _ fl xs kI hfl DI.at_ DI.dp
theorem ok_l_draws {f : Addr} {fd : FuncData} (F : Fun K "_law_draws" "_law_draws" s_l_draws f fd) (T : Txt K mg )
     :
    FnOk P w K mg base CX0 1 f fd ["_law_stock_here"] (spLDraws K) := by
  refine F.ok sc_l_draws (fun vs H Q E h => ?_) (fun cdv A outer s H vs Q E hr h => ?_)
  · obtain ⟨S, kvs, st, rfl, _⟩ := h
    rfl
  · skip
    obtain ⟨S, kvs, st, rfl, PL, q⟩ := h
    have hu := hu_of hr
    refine ⟨_, (pss_cons (ps_set (i := 1) sc_l_draws.nd rfl (Or.inl rfl) (pe_lst pa_nil))
      (pss_cons (ps_lockR (ps_for PassesOwn.never rfl (pi_keys (pv 0)) (pg_name (i := 2) sc_l_draws.nd rfl (Or.inl rfl)) (pss_one (ps_for PassesOwn.never rfl (pi_enumT (K := K) rfl (by rfl) T.n_enumerate (pa_cons (pe_dget hu (pv 0) (pv 2) (fun _ _ => rfl)) pa_nil)) (kgT (K := K) rfl (pg_tup rfl (pgs_cons (pg_name (i := 3) sc_l_draws.nd rfl (Or.inl rfl)) (pgs_cons (pg_name (i := 4) sc_l_draws.nd rfl (Or.inl rfl)) pgs_nil)))) (pss_one (ps_if (pt_cmpR op_eq (pe_ix (ixTK (K := K) rfl) (pv 4) pe_int (fun _ _ => rfl)) pe_str (nomark _)) (pss_one (ps_expr (kBM (K := K) rfl (pe_bm PySem.F.plainAttrs_list PySem.F.slot_list_append PySem.F.type_list_append mt_append (pv 1) (pa_cons (pe_tup (pa_cons (pv 2) (pa_cons (pv 3) (pa_cons (pe_ix (ixTK (K := K) rfl) (pv 4) pe_int (fun _ _ => rfl)) (pa_cons (pe_ix (ixTK (K := K) rfl) (pv 4) pe_int (fun _ _ => rfl)) pa_nil))))) pa_nil))))) pss_nil))))))
      (pss_one (ps_ret (pv 1))))), ?_⟩
    refine st_start (σ' := [some (.ref S), none, none, none, none]) rfl ?_
    walk_at "S"
    refine ⟨small_le (by simp), fun fl hfl => ?_⟩
    have k1 := kp_new (o := .lst []) hfl
    have nfS : fl ≠ S := fun e => by
      subst e
      rcases PL.at_.rd with e | ⟨o, e⟩ <;> rw [hfl] at e <;> cases e
    have PL1 : Plain K (upd H fl (.lst [])) S kvs st := PL.same k1
    have few : (keysS st).length ≤ 16 := by have := PL.ok.few; rw [show (keysS st).length = st.length from List.length_map ..]; exact this
    walk_at "S"
    refine s_lockR PL1.at_.rd trivial fun w0 hw0 _ ob => ?_
    rw [upd_ne (Ne.symm nfS)] at hw0
    rw [upd_swap (Ne.symm nfS)]
    obtain ⟨P1, kl, _⟩ := PL.at_.lock ob
    have PLb : Plain K (upd H S (.frz ob (.dK kvs))) S kvs st := ⟨P1, PL.ok⟩
    have hflb : upd H S (.frz ob (.dK kvs)) fl = none := (upd_ne nfS).trans hfl
    have el : upd H S (.frz ob (.dK kvs)) S = some (.frz ob (.dK kvs)) := upd_same
    generalize upd H S (.frz ob (.dK kvs)) = Hb at *
    have kD := kp_new (o := .lst []) hflb
    have D1 : DwAt K (upd Hb fl (.lst [])) fl [] [] := ⟨upd_same, .nil⟩
    have elD := kD.get trivial el
    generalize upd Hb fl (.lst []) = H2 at *
    walk_at "S"
    refine s_iKeys ?_
    walk_at "S"
    have ZK : ∀ y ∈ keysS st, y ∈ keysS st := fun y hy => hy
    have lsr : (keysS st).length ≤ 16 := few
    refine ⟨S, ob, rfl, .inl ⟨_, elD, ?_⟩⟩
    refine for_go walk_keys (fun i σ Hi => ∃ (o2 o3 o4 : Option V) (xs : List V), σ = [some (.ref S), some (.ref fl), o2, o3, o4] ∧ Kp [] Hb Hi ∧ DwAt K Hi fl xs (allDraws st ((keysS st).take i)))
      ⟨_, _, _, _, rfl, kD, D1⟩ (fun i σ Hi _ I => by obtain ⟨_, _, _, _, rfl, k, _⟩ := I; exact k.get trivial el) (fun i x σ Ha Hi hi I y => ?_) fun σ H3 I => ?_
    · obtain ⟨rfl, k, v, ek, ex⟩ := y
      obtain ⟨o2, o3, o4, xs0, rfl, kI, DI⟩ := I
      obtain ⟨⟨z, bz⟩, ez0, e1, dz⟩ := pairG' P1.nm ek
      have e1 : k = Sum.inr z := e1
      subst e1
      obtain rfl : V.str z = x := ex.symm
      have ez : (keysS st)[i]? = some z := by show (st.map (·.1))[i]? = _; rw [List.getElem?_map, ez0]; rfl
      have mz : z ∈ keysS st := List.mem_of_getElem? ez
      have PLi := PLb.same kI
      have eb := body_key PL.ok mz
      obtain ⟨vb, gv, dvb⟩ := PLi.at_.get eb
      obtain ⟨w1, w2⟩ := PL.ok.pw eb
      obtain ⟨tb, vs, rfl, stb, dvs⟩ : ∃ tb vs, vb = .ref tb ∧ SqT K Hi tb vs ∧ DpAll K Hi vs (rowsD (bodyS st z)) := by
        cases dvb with
        | tup h d => exact ⟨_, _, rfl, h, d⟩
      have lvs : vs.length = (bodyS st z).length := by rw [HL.DpAll.len dvs]; exact List.length_map ..
      have put := allDraws_put (st := st) ez
      have lz : (allDraws st ((keysS st).take i)).length ≤ 40 * 16 := by
        refine Nat.le_trans (allDraws_len PL.ok _ fun y hy => ZK y (List.mem_of_mem_take hy)) ?_
        have := List.length_take_le i (keysS st)
        rw [List.length_take]
        omega
      walk_at "S"
      refine s_iEnumT ?_
      walk_at "S"
      refine s_getR PLi.at_.rd gv ?_
      walk_at "S"
      refine ⟨tb, vs, rfl, stb, ?_⟩
      refine for_go (walk_enumT (K := K) (a := tb) (xs := vs)) (fun j σ Hj => ∃ (o3 o4 : Option V) (xs : List V), σ = [some (.ref S), some (.ref fl), some (.str z), o3, o4] ∧ Kp [] Hb Hj ∧ Kp [fl] Hi Hj ∧ TupK Hi Hj ∧ DwAt K Hj fl xs (allDraws st ((keysS st).take i) ++ drawsB z ((bodyS st z).take j)))
        ⟨_, _, _, rfl, kI, Kp.refl, TupK.same Kp.refl, by rw [List.take_zero, show drawsB z [] = [] from rfl, List.append_nil]; exact DI⟩ (fun j σ Hj _ J => by obtain ⟨_, _, _, rfl, _, k, t, _⟩ := J; exact seqT_tups t stb) (fun j x σ Hj Hk hj J y => ?_) fun σ Hj J => ?_
      · obtain ⟨t, kx, vx, rfl, nt, rfl, y1, y2⟩ := y
        obtain ⟨o3, o4, xs, rfl, kJ, kJ2, tJ, DJ⟩ := J
        dsimp only at y1 y2
        obtain rfl : V.int (j : Nat) = kx := Option.some.inj y1
        obtain ⟨e, ee, de⟩ := dpAll_get dvs y2
        have hjb : j < (bodyS st z).length := by omega
        have er := List.getElem?_eq_getElem hjb
        have mr := List.getElem_mem hjb
        generalize (bodyS st z)[j] = r at er mr
        rw [List.getElem?_map, er] at ee
        obtain rfl : r.dat 3 = e := Option.some.inj ee
        have kt := kp_new (o := .tup [.int (j : Nat), vx]) nt
        have de := Dp.same kt _ _ (Dp.tups tJ _ _ (flat_row (w1 r mr)) de)
        have pr := w1 r mr
        obtain ⟨tr, rfl, sq⟩ := row_sq pr de
        have step := drawsB_put (z := z) er
        have DJ := DJ.same kt
        have lj : (drawsB z ((bodyS st z).take j)).length ≤ 40 := by
          refine Nat.le_trans (drawsB_len _ _) ?_
          rw [List.length_take]
          omega
        refine s_gtup (sq_t upd_same) rfl ?_
        have kJ := kJ.tr kt
        have kJ2 := kJ2.tr (Kp.nil_W kt)
        have tJ := tJ.trans (TupK.same kt)
        generalize upd Hj t (.tup [.int (j : Nat), .ref tr]) = Hl at *
        cases r with
        | draw x m y0 =>
          unfold rowV at sq
          walk_at "S"
          rw [if_pos (by decide +kernel)]
          have edj := DJ.at_
          walk_at "S"
          refine ⟨small_le (by simp), fun t2 ht2 => ?_⟩
          have k2 := kp_new (o := .tup [.str z, .int (j : Nat), .str m, .str y0]) ht2
          have D2 := DJ.same k2
          walk_at "S"
          refine s_append D2.at_ (small_lt (by rw [D2.len, List.length_append]; omega)) ?_
          have D3 := D2.snoc (d := (z, j, m, y0)) (sq_t upd_same)
          rw [List.append_assoc] at D3
          have tk2 := (Keep.one (o' := .lst (xs ++ [.ref t2])) D2.at_ (.lst _)).tup
          exact ⟨_, _, _, rfl, (kJ.tr k2).upd_loc hflb, (kJ2.tr (Kp.nil_W k2)).upd_mem List.mem_cons_self, (tJ.trans (TupK.same k2)).trans tk2, by rw [step]; exact D3⟩
        | set x n =>
          unfold rowV at sq
          walk_at "S"
          rw [if_neg (by decide +kernel)]
          walk_at "S"
          refine ⟨_, _, xs, rfl, kJ, kJ2, tJ, ?_⟩
          rw [step]
          show DwAt _ _ _ _ (_ ++ (_ ++ []))
          rw [List.append_nil]
          exact DJ
        | late x n =>
          unfold rowV at sq
          walk_at "S"
          rw [if_neg (by decide +kernel)]
          walk_at "S"
          refine ⟨_, _, xs, rfl, kJ, kJ2, tJ, ?_⟩
          rw [step]
          show DwAt _ _ _ _ (_ ++ (_ ++ []))
          rw [List.append_nil]
          exact DJ
        | take x n =>
          unfold rowV at sq
          walk_at "S"
          rw [if_neg (by decide +kernel)]
          walk_at "S"
          refine ⟨_, _, xs, rfl, kJ, kJ2, tJ, ?_⟩
          rw [step]
          show DwAt _ _ _ _ (_ ++ (_ ++ []))
          rw [List.append_nil]
          exact DJ
        | _ => exact pr.elim
      · obtain ⟨o3, o4, xs, rfl, kJ, kJ2, tJ, DJ⟩ := J
        rw [lvs, List.take_of_length_le (Nat.le_refl (bodyS st z).length)] at DJ
        walk_at "S"
        exact ⟨_, _, _, _, rfl, kJ, by rw [put]; exact DJ⟩
    · obtain ⟨o2, o3, o4, xs, rfl, kI, DI⟩ := I
      have lk : kvs.length = (keysS st).length := by rw [PL.at_.nm.len]; exact (List.length_map ..).symm
      rw [List.take_of_length_le (by omega)] at DI
      refine ⟨kI.get trivial el, ?_⟩
      have k8 : Kp [] H (upd H3 S w0) := Kp.unlockR hw0 (kl.tr (Kp.nil_W kI))
      have tk : TupK H3 (upd H3 S w0) := .of (W := [S]) (Kp.refl.upd_mem List.mem_cons_self) fun x hx => by
        rw [List.mem_singleton.mp hx]
        intro ys r
        rcases r with r | ⟨o', r⟩ <;> rw [kI.get trivial el] at r <;> cases r
      have e8 : upd H3 S w0 fl = some (.lst xs) := (upd_ne nfS).trans DI.at_
      have d8 := Dp.tupsAll tk _ _ (flat_dws _) DI.dp
      generalize upd H3 S w0 = H8 at *
      walk_at "S"
      exact q H8 fl xs k8 hfl e8 d8
end

noncomputable def tonB (st : Shelf) (zs : List Str) : Bool := (zs.all fun z => decide (z ∈ keysS st)) && decide (zs = srt (miL zs))
noncomputable def keepsB (st : Shelf) (zs : List Str) (m : Str) : Bool := zs.all fun z => (aimsL (bodyS st z)).all fun a => decide (a ∈ zs) || decide (a = m)
noncomputable def lotB (st : Shelf) (c m y : Str) (zs : List Str) : Bool := tonB st zs && !decide (c ∈ zs) && keepsB st zs m && (earlyL st m y).all fun a => decide (a ∈ zs)
def spIsTon (K : PySem.W.Frag) : Sp := fun vs H Q _ => ∃ (S t : Addr) (kvs : List (Key × V)) (st : Shelf) (zs : List Str), vs = [.ref S, .ref t] ∧ Plain K H S kvs st ∧ SqT K H t (zs.map V.str) ∧ zs.length ≤ 60 ∧ ∀ H', Kp [] H H' → Q (.bl (tonB st zs)) H'
def spKeepsIn (K : PySem.W.Frag) : Sp := fun vs H Q _ => ∃ (S t : Addr) (kvs : List (Key × V)) (st : Shelf) (zs : List Str) (m : Str), vs = [.ref S, .ref t, .str m] ∧ Plain K H S kvs st ∧ SqT K H t (zs.map V.str) ∧ zs.length ≤ 60 ∧ (∀ z ∈ zs, z ∈ keysS st) ∧ ∀ H', Kp [] H H' → Q (.bl (keepsB st zs m)) H'
def spIsLot (K : PySem.W.Frag) : Sp := fun vs H Q _ => ∃ (S t : Addr) (kvs : List (Key × V)) (st : Shelf) (zs : List Str) (d : Dw), vs = [.ref S, .str d.1, .int (d.2.1 : Nat), .ref t] ∧ Plain K H S kvs st ∧ SqT K H t (zs.map V.str) ∧ zs.length ≤ 60 ∧ DwOk st d ∧ ∀ H', Kp [] H H' → Q (.bl (lotB st d.1 d.2.2.1 d.2.2.2 zs)) H'
theorem key_val {K : PySem.W.Frag} {H : Hp} {S : Addr} {kvs : List (Key × V)} {st : Shelf} (A : StkAt K H S kvs st) (z : Str) : (valV kvs (.inr z)).isSome = decide (z ∈ keysS st) := by
  rcases A.nm.get z with ⟨g, e⟩ | ⟨t, v, g, e, _⟩
  · rw [e, decide_eq_false (getA_none.mp g)]; rfl
  · rw [e, decide_eq_true (List.mem_map.mpr ⟨_, getA_mem g, rfl⟩)]; rfl
theorem dpAll_at {K : PySem.W.Frag} {H : Hp} : ∀ {xs : List V} {ds : List PyData} {i : Nat} {d : PyData}, DpAll K H xs ds → ds[i]? = some d → ∃ v, xs[i]? = some v ∧ Dp K H v d
  | _, _, 0, _, .cons h _, e => by cases e; exact ⟨_, rfl, h⟩
  | _, _, i + 1, _, .cons _ t, e => dpAll_at (i := i) t e
theorem eqv_strs {xs ys : List Str} : PyData.eqv (.list (xs.map .str)) (.list (ys.map .str)) = decide (xs = ys) := by
  rw [PyData.eqv]
  exact eqvAll_strs xs ys
section
variable {P : Program} {w : World} {K : PySem.W.Frag} {mg : Str → Option Value} {base : Heap}
theorem ok_is_tuple_of_names {f : Addr} {fd : FuncData} (F : Fun K "is_tuple_of_names" "is_tuple_of_names" s_is_tuple_of_names f fd) (T : Txt K mg )
     :
    FnOk P w K mg base CX0 1 f fd ["stock", "thing"] (spIsTon K) := by
  refine F.ok sc_is_tuple_of_names (fun vs H Q E h => ?_) (fun cdv A outer s H vs Q E hr h => ?_)
  · obtain ⟨S, t, kvs, st, zs, rfl, _⟩ := h
    rfl
  · skip
    obtain ⟨S, t, kvs, st, zs, rfl, PL, sq, lz, q⟩ := h
    have hu := hu_of hr
    refine ⟨_, (pss_cons (ps_if (PW.pt (pw_or (pt_not (pt_val (pe_callB (isiK (K := K) rfl) (by rfl) T.n_isinstance (by decide +kernel) (pa_cons (pv 1) (pa_cons (pe_bltn (v := .ty "tuple") (by rfl) T.n_tuple (by decide +kernel) rfl) pa_nil))))) (pw_or1 (pt_not (pt_val (pe_callB (allK (K := K) rfl rfl) (by rfl) T.n_all (by decide +kernel) (pa_cons (pe_lc (own := [("name", 2)]) (g := gName 2) (tt := tYes) rfl sc_is_tuple_of_names.nd (kiT (K := K) rfl (pi_tup (pv 1))) (blkOk_by (own := [("name", 2)]) (N := N_is_tuple_of_names) (sc := (defScope s_is_tuple_of_names)) (by decide +kernel)) (fun _ _ _ _ _ => (pg_name (i := 2) sc_is_tuple_of_names.nd rfl (Or.inl rfl))) (fun _ _ _ _ _ => pts_nil) (fun _ _ _ _ _ => (pe_and (pe_callB (isiK (K := K) rfl) (by rfl) T.n_isinstance (by decide +kernel) (pa_cons (pv 2) (pa_cons (pe_bltn (v := .ty "str") (by rfl) T.n_str (by decide +kernel) rfl) pa_nil))) (pe_one (pe_cmp (pc_din hu (pv 2) (pv 0)) rfl))))) pa_nil))))))) (pss_one (ps_ret pe_bl)) pss_nil)
      (pss_one (ps_ret (pe_cmpR (eqDK (K := K) rfl hr.units) (pe_callTy (listK (K := K) rfl) (by rfl) T.n_list (by decide +kernel) (pa_cons (pv 1) pa_nil)) (pe_sortedSet (K := K) rfl rfl (by rfl) T.n_sorted (by rfl) T.n_set (pv 1)) (nomark _))))), ?_⟩
    refine st_start (σ' := [some (.ref S), some (.ref t), none]) rfl ?_
    have ty : TyX K H (.ref t) (.type "tuple") := Dp.ty (.tup sq (dpStrs zs))
    walk_at "S"
    refine isi_ty ty (b := true) (by decide +kernel) ?_
    walk_at "S"
    refine ⟨⟨_, sq⟩, fun D hD => ?_⟩
    have LC : LcOk D (zs.map V.str).length (fun i => (zs.map fun z => V.bl (decide (z ∈ keysS st))).take i) [] H (fun _ _ => True) := ⟨small_le (by rw [List.length_map]; omega), rfl, fun i hi => List.length_take_le _ _, hD, trivial, fun _ _ _ h => h⟩
    refine lc_go (walk_tup (K := K) (a := t) (xs := zs.map V.str)) LC trivial (fun Hq kq => kq.seqT trivial sq) (fun i x Ha Hb hi Ib y => ?_) fun H4 I4 => ?_
    · obtain ⟨rfl, hx⟩ := y
      have hi' := hi
      rw [List.length_map] at hi'
      have ez := List.getElem?_eq_getElem hi'
      generalize zs[i] = z at ez
      rw [List.getElem?_map, ez] at hx
      obtain rfl : V.str z = x := Option.some.inj hx
      have PLi := PL.same Ib.2.1
      walk_at "S"
      refine ⟨rfl, ?_⟩
      walk_at "S"
      refine isi_ty (t := "str") (b := true) (Dp.ty (Dp.str z)) (by decide +kernel) ?_
      walk_at "S"
      refine s_inR PLi.at_.rd ?_
      rw [key_val PLi.at_]
      exact Ib.put LC hi (take_put (by rw [List.getElem?_map, ez]; rfl)) Kp.refl trivial
    · obtain ⟨x4, k4, _⟩ := I4
      dsimp only at x4
      rw [List.take_of_length_le (by rw [List.length_map, List.length_map]; exact Nat.le_refl _)] at x4
      walk_at "S"
      refine s_all (bs := zs.map fun z => decide (z ∈ keysS st)) (sq_l (by rw [x4, List.map_map]; rfl)) ?_
      have eA : ((zs.map fun z => decide (z ∈ keysS st)).all id) = zs.all fun z => decide (z ∈ keysS st) := by rw [List.all_map]; rfl
      rw [eA]
      unfold tonB at q
      cases c : zs.all fun z => decide (z ∈ keysS st) with
      | false =>
        rw [c] at q
        walk_at "S"
        exact q H4 k4
      | true =>
        rw [c] at q
        have sub : ∀ z ∈ zs, z ∈ keysS st := fun z hz => of_decide_eq_true (List.all_eq_true.mp c z hz)
        walk_at "S"
        have sq4 := k4.seqT trivial sq
        refine ⟨t, zs.map V.str, rfl, .inr sq4, fun l hl => ?_⟩
        have k5 := kp_new (o := .lst (zs.map V.str)) hl
        have e5 : upd H4 l (.lst (zs.map V.str)) l = some (.lst (zs.map V.str)) := upd_same
        have sq5 := k5.seqT trivial sq4
        generalize upd H4 l (.lst (zs.map V.str)) = H5 at *
        walk_at "S"
        refine s_sortedSet ?_
        walk_at "S"
        refine ⟨t, zs, rfl, .inl sq5, lz, fun ys p pm so hp => ?_⟩
        obtain rfl : ys = srt (miL zs) := srt_eq pm so
        have k6 := kp_new (o := .lst ((srt (miL zs)).map V.str)) hp
        have nmz : ∀ (l : List Str), (∀ z ∈ l, z ∈ zs) → SeqAt.shaped (.list (l.map PyData.str)) = true := fun l hl => ShD.ok (k := 1) (.list fun d hd => by
          obtain ⟨z, hz, rfl⟩ := List.mem_map.mp hd
          exact .nm (key_nmS PL.ok (sub z (hl z hz)))) (by decide)
        refine s_eqD (Dp.lst (sq_l (k6.get trivial e5)) (dpStrs zs)) (Dp.lst (sq_l upd_same) (dpStrs _)) (nmz _ fun z hz => hz) (nmz _ fun z hz => miL_mem.mp ((srt_perm _).mem_iff.mp hz)) ?_
        rw [eqv_strs]
        exact q _ (k4.tr (k5.tr k6))
theorem ok_keeps_in {f : Addr} {fd : FuncData} (F : Fun K "keeps_in" "keeps_in" s_keeps_in f fd) (T : Txt K mg )
    (D_aims_of : DnF P w K mg base 2 "aims_of" ["rows"] (spAimsOf K)) :
    FnOk P w K mg base CX0 3 f fd ["stock", "lot", "m"] (spKeepsIn K) := by
  refine F.ok sc_keeps_in (fun vs H Q E h => ?_) (fun cdv A outer s H vs Q E hr h => ?_)
  · obtain ⟨S, t, kvs, st, zs, m, rfl, _⟩ := h
    rfl
  · obtain ⟨f_aims_of, fd_aims_of, G_aims_of, m_aims_of, k_aims_of, b_aims_of⟩ := D_aims_of
    obtain ⟨S, t, kvs, st, zs, m, rfl, PL, sq, lz, sub, q⟩ := h
    have hu := hu_of hr
    refine ⟨_, (pss_cons (ps_for PassesOwn.never rfl (kiT (K := K) rfl (pi_tup (pv 1))) (pg_name (i := 3) sc_keeps_in.nd rfl (Or.inl rfl)) (pss_one (ps_if (pt_not (pt_val (pe_callB (allK (K := K) rfl rfl) (by rfl) T.n_all (by decide +kernel) (pa_cons (pe_lc (own := [("aim", 4)]) (g := gName 4) (tt := tYes) rfl sc_keeps_in.nd (kiL (K := K) rfl (pi_list (pe_call G_aims_of (hr.mono (by first | decide | omega)) (by rfl) m_aims_of k_aims_of b_aims_of .nil pass0 (pa_cons (pe_dget hu (pv 0) (pv 3) (fun _ _ => rfl)) pa_nil)))) (blkOk_by (own := [("aim", 4)]) (N := N_keeps_in) (sc := (defScope s_keeps_in)) (by decide +kernel)) (fun _ _ _ _ _ => (pg_name (i := 4) sc_keeps_in.nd rfl (Or.inl rfl))) (fun _ _ _ _ _ => pts_nil) (fun _ _ _ _ _ => (pe_or (pe_cmpR (inK (K := K) rfl) (pv 4) (pv 1) (by rfl)) (pe_one (pe_cmpR op_eq (pv 4) (pv 2) (nomark _)))))) pa_nil)))) (pss_one (ps_ret pe_bl)) pss_nil)))
      (pss_one (ps_ret pe_bl))), ?_⟩
    refine st_start (σ' := [some (.ref S), some (.ref t), some (.str m), none, none]) rfl ?_
    walk_at "S"
    refine ⟨⟨_, sq⟩, ?_⟩
    refine for_go (walk_tup (K := K) (a := t) (xs := zs.map V.str)) (fun i σ Hi => ∃ o3 : Option V, σ = [some (.ref S), some (.ref t), some (.str m), o3, none] ∧ Kp [] H Hi ∧ (zs.take i).all (fun z => (aimsL (bodyS st z)).all fun a => decide (a ∈ zs) || decide (a = m)) = true)
      ⟨_, rfl, Kp.refl, rfl⟩ (fun i σ Hi _ I => by obtain ⟨_, rfl, k, _⟩ := I; exact k.seqT trivial sq) (fun i x σ Ha Hb hi I y => ?_) fun σ Hb I => ?_
    · obtain ⟨rfl, hx⟩ := y
      obtain ⟨o3, rfl, kI, al⟩ := I
      rw [List.length_map] at hi
      have ez := List.getElem?_eq_getElem hi
      generalize zs[i] = z at ez
      rw [List.getElem?_map, ez] at hx
      obtain rfl : V.str z = x := Option.some.inj hx
      have mz := sub z (List.mem_of_getElem? ez)
      have PLi := PL.same kI
      have eb := body_key PL.ok mz
      obtain ⟨vb, gv, dvb⟩ := PLi.at_.get eb
      obtain ⟨w1, w2⟩ := PL.ok.pw eb
      walk_at "S"
      refine s_getR PLi.at_.rd gv ?_
      walk_at "S"
      refine ⟨vb, _, rfl, w1, by omega, dvb, fun H1 l k1 nl el => ?_⟩
      walk_at "S"
      refine ⟨⟨_, sq_l el⟩, fun E hE => ?_⟩
      have sq1 := (kI.tr k1).seqT trivial sq
      have las : (aimsL (bodyS st z)).length ≤ 40 := Nat.le_trans (List.length_filterMap_le _ _) (body_len PL.ok mz)
      have step : (zs.take (i + 1)).all (fun z => (aimsL (bodyS st z)).all fun a => decide (a ∈ zs) || decide (a = m)) = ((aimsL (bodyS st z)).all fun a => decide (a ∈ zs) || decide (a = m)) := by
        rw [take_put ez, List.all_append, al, List.all_cons, List.all_nil, Bool.true_and, Bool.and_true]
      have fals : ((aimsL (bodyS st z)).all fun a => decide (a ∈ zs) || decide (a = m)) = false → keepsB st zs m = false := fun c => by
        unfold keepsB
        rw [← Bool.not_eq_true, List.all_eq_true]
        intro h
        have := h z (List.mem_of_getElem? ez)
        rw [c] at this
        cases this
      generalize aimsL (bodyS st z) = as at *
      have LC : LcOk E (as.map V.str).length (fun i => (as.map fun a => V.bl (decide (a ∈ zs) || decide (a = m))).take i) [] H1 (fun _ _ => True) := ⟨small_le (by rw [List.length_map]; omega), rfl, fun i hi => List.length_take_le _ _, hE, trivial, fun _ _ _ h => h⟩
      refine lc_go (walk_list (K := K) (a := l) (xs := as.map V.str)) LC trivial (fun Hq kq => sq_l (kq.get trivial el)) (fun j x Ha Hb hj Ib y => ?_) fun H4 I4 => ?_
      · obtain ⟨rfl, hx⟩ := y
        have hj' := hj
        rw [List.length_map] at hj'
        have ey := List.getElem?_eq_getElem hj'
        generalize as[j] = a at ey
        rw [List.getElem?_map, ey] at hx
        obtain rfl : V.str a = x := Option.some.inj hx
        walk_at "S"
        refine ⟨rfl, ?_⟩
        walk_at "S"
        refine ⟨t, zs.map V.str, rfl, .inr (Ib.2.1.seqT trivial sq1), rfl, flatV_strs _, ?_⟩
        have put := fun v (e : v = V.bl (decide (a ∈ zs) || decide (a = m))) => Ib.put (y := v) LC hj (take_put (by rw [List.getElem?_map, ey]; exact congrArg some e.symm)) Kp.refl trivial
        rw [show (if false = true then !inV (.str a) (zs.map V.str) else inV (.str a) (zs.map V.str)) = decide (a ∈ zs) from inV_strs _ _]
        refine ⟨_, rfl, ?_⟩
        by_cases c1 : a ∈ zs
        · rw [if_pos (decide_eq_true c1)]
          exact put _ (by rw [decide_eq_true c1]; rfl)
        · rw [if_neg (by rw [decide_eq_false c1]; exact Bool.false_ne_true)]
          walk_at "S"
          exact put _ (by rw [decide_eq_false c1, Bool.false_or]; simp)
      · obtain ⟨x4, k4, _⟩ := I4
        dsimp only at x4
        rw [List.take_of_length_le (by rw [List.length_map, List.length_map]; exact Nat.le_refl _)] at x4
        walk_at "S"
        refine s_all (bs := as.map fun a => decide (a ∈ zs) || decide (a = m)) (sq_l (by rw [x4, List.map_map]; rfl)) ?_
        have eA : ((as.map fun a => decide (a ∈ zs) || decide (a = m)).all id) = as.all fun a => decide (a ∈ zs) || decide (a = m) := by rw [List.all_map]; rfl
        rw [eA]
        cases c : as.all fun a => decide (a ∈ zs) || decide (a = m) with
        | false =>
          walk_at "S"
          have := q H4 (kI.tr (k1.tr k4))
          rw [fals c] at this
          exact this
        | true =>
          walk_at "S"
          exact ⟨_, rfl, kI.tr (k1.tr k4), by rw [step]; exact c⟩
    · obtain ⟨o3, rfl, kI, al⟩ := I
      rw [List.length_map, List.take_of_length_le (Nat.le_refl _)] at al
      walk_at "S"
      have := q Hb kI
      unfold keepsB at this
      rw [al] at this
      exact this
theorem ok_is_lot {f : Addr} {fd : FuncData} (F : Fun K "is_lot" "is_lot" s_is_lot f fd) (T : Txt K mg )
    (D_want_plain : DnF P w K mg base 14 "want_plain" ["thing"] (spWantPlain K)) (D_keeps_in : DnF P w K mg base 3 "keeps_in" ["stock", "lot", "m"] (spKeepsIn K)) (D_is_tuple_of_names : DnF P w K mg base 1 "is_tuple_of_names" ["stock", "thing"] (spIsTon K)) (D_early_aims : DnF P w K mg base 3 "early_aims" ["stock", "m", "x"] (spEarlyAims K)) :
    FnOk P w K mg base CX0 15 f fd ["stock", "name", "row", "thing"] (spIsLot K) := by
  refine F.ok sc_is_lot (fun vs H Q E h => ?_) (fun cdv A outer s H vs Q E hr h => ?_)
  · obtain ⟨S, t, kvs, st, zs, d, rfl, _⟩ := h
    rfl
  · obtain ⟨f_want_plain, fd_want_plain, G_want_plain, m_want_plain, k_want_plain, b_want_plain⟩ := D_want_plain; obtain ⟨f_keeps_in, fd_keeps_in, G_keeps_in, m_keeps_in, k_keeps_in, b_keeps_in⟩ := D_keeps_in; obtain ⟨f_is_tuple_of_names, fd_is_tuple_of_names, G_is_tuple_of_names, m_is_tuple_of_names, k_is_tuple_of_names, b_is_tuple_of_names⟩ := D_is_tuple_of_names; obtain ⟨f_early_aims, fd_early_aims, G_early_aims, m_early_aims, k_early_aims, b_early_aims⟩ := D_early_aims
    obtain ⟨S, t, kvs, st, zs, d, rfl, PL, sq, lz, ok, q⟩ := h
    have hu := hu_of hr
    refine ⟨_, (pss_cons (ps_expr (pe_call G_want_plain (hr.mono (by first | decide | omega)) (by rfl) m_want_plain k_want_plain b_want_plain .nil pass0 (pa_cons (pv 0) pa_nil)))
      (pss_cons (ps_asg (pe_slice sl_tupA (pe_ix (ixTK (K := K) rfl) (pe_dget hu (pv 0) (pv 1) (fun _ _ => rfl)) (pv 2) (fun _ _ => rfl)) (po_some pe_int) po_none) (kgT (K := K) rfl (pg_tup rfl (pgs_cons (pg_name (i := 4) sc_is_lot.nd rfl (Or.inl rfl)) (pgs_cons (pg_name (i := 5) sc_is_lot.nd rfl (Or.inl rfl)) pgs_nil)))))
      (pss_cons (ps_if (PW.pt (pw_or (pt_not (pt_val (pe_call G_is_tuple_of_names (hr.mono (by first | decide | omega)) (by rfl) m_is_tuple_of_names k_is_tuple_of_names b_is_tuple_of_names .nil pass0 (pa_cons (pv 0) (pa_cons (pv 3) pa_nil))))) (pw_or (pt_cmpR (inK (K := K) rfl) (pv 1) (pv 3) (by rfl)) (pw_or1 (pt_not (pt_val (pe_call G_keeps_in (hr.mono (by first | decide | omega)) (by rfl) m_keeps_in k_keeps_in b_keeps_in .nil pass0 (pa_cons (pv 0) (pa_cons (pv 3) (pa_cons (pv 4) pa_nil)))))))))) (pss_one (ps_ret pe_bl)) pss_nil)
      (pss_one (ps_ret (pe_callB (allK (K := K) rfl rfl) (by rfl) T.n_all (by decide +kernel) (pa_cons (pe_lc (own := [("aim", 6)]) (g := gName 6) (tt := tYes) rfl sc_is_lot.nd (kiL (K := K) rfl (pi_list (pe_call G_early_aims (hr.mono (by first | decide | omega)) (by rfl) m_early_aims k_early_aims b_early_aims .nil pass0 (pa_cons (pv 0) (pa_cons (pv 4) (pa_cons (pv 5) pa_nil)))))) (blkOk_by (own := [("aim", 6)]) (N := N_is_lot) (sc := (defScope s_is_lot)) (by decide +kernel)) (fun _ _ _ _ _ => (pg_name (i := 6) sc_is_lot.nd rfl (Or.inl rfl))) (fun _ _ _ _ _ => pts_nil) (fun _ _ _ _ _ => (pe_cmpR (inK (K := K) rfl) (pv 6) (pv 3) (by rfl)))) pa_nil))))))), ?_⟩
    refine st_start (σ' := [some (.ref S), some (.str d.1), some (.int (d.2.1 : Nat)), some (.ref t), none, none, none]) rfl ?_
    walk_at "S"
    refine ⟨S, kvs, st, rfl, PL, fun H1 k1 => ?_⟩
    have PL1 := PL.same k1
    have sq1 := k1.seqT trivial sq
    have eb := body_key PL.ok ok.c
    obtain ⟨vb, gv, dvb⟩ := PL1.at_.get eb
    obtain ⟨tb, vs, rfl, stb, dvs⟩ : ∃ tb vs, vb = .ref tb ∧ SqT K H1 tb vs ∧ DpAll K H1 vs (rowsD (bodyS st d.1)) := by
      cases dvb with
      | tup h d => exact ⟨_, _, rfl, h, d⟩
    obtain ⟨x, er⟩ := ok.row
    obtain ⟨v, ev, dv⟩ := dpAll_at dvs (show (rowsD (bodyS st d.1))[d.2.1]? = some ((PH.Row.draw x d.2.2.1 d.2.2.2).dat 3) by rw [List.getElem?_map, er]; rfl)
    obtain ⟨tr, rfl, sqr⟩ := row_sq (r := .draw x d.2.2.1 d.2.2.2) trivial dv
    walk_at "S"
    refine s_getR PL1.at_.rd gv ?_
    walk_at "S"
    refine s_ixT stb (atI_nat ev) ?_
    walk_at "S"
    refine ⟨tr, _, rfl, sqr, fun h => absurd (show (2 : Nat) = 0 from h.1) (by decide), fun _ p hp => ?_⟩
    have k2 := kp_new (o := .tup [.str d.2.2.1, .str d.2.2.2]) hp
    have e2 : upd H1 p (.tup [.str d.2.2.1, .str d.2.2.2]) p = some (.tup [.str d.2.2.1, .str d.2.2.2]) := upd_same
    rw [show cutV (rowV (.draw x d.2.2.1 d.2.2.2)) (some 2) none = [.str d.2.2.1, .str d.2.2.2] from rfl]
    generalize upd H1 p (.tup [.str d.2.2.1, .str d.2.2.2]) = H2 at *
    refine s_gtup (sq_t e2) rfl ?_
    walk_at "S"
    have kA := k1.tr k2
    have PL2 := PL1.same k2
    have sq2 := k2.seqT trivial sq1
    refine ⟨S, t, kvs, st, zs, rfl, PL2, sq2, lz, fun H3 k3 => ?_⟩
    have sq3 := k3.seqT trivial sq2
    have PL3 := PL2.same k3
    unfold lotB at q
    cases c1 : tonB st zs with
    | false =>
      rw [c1] at q
      walk_at "S"
      exact q H3 (kA.tr k3)
    | true =>
      rw [c1] at q
      have sub : ∀ z ∈ zs, z ∈ keysS st := fun z hz => by
        unfold tonB at c1
        exact of_decide_eq_true (List.all_eq_true.mp (Bool.and_eq_true_iff.mp c1).1 z hz)
      walk_at "S"
      refine ⟨t, zs.map V.str, rfl, .inr sq3, rfl, flatV_strs _, ?_⟩
      walk_at "S"
      rw [show (if false = true then !inV (.str d.1) (zs.map V.str) else inV (.str d.1) (zs.map V.str)) = decide (d.1 ∈ zs) from inV_strs _ _]
      by_cases c2 : d.1 ∈ zs
      · rw [decide_eq_true c2] at q ⊢
        walk_at "S"
        exact q H3 (kA.tr k3)
      · rw [decide_eq_false c2] at q ⊢
        walk_at "S"
        refine ⟨S, t, kvs, st, zs, _, rfl, PL3, sq3, lz, sub, fun H4 k4 => ?_⟩
        have PL4 := PL3.same k4
        have sq4 := k4.seqT trivial sq3
        cases c3 : keepsB st zs d.2.2.1 with
        | false =>
          rw [c3] at q
          walk_at "S"
          exact q H4 (kA.tr (k3.tr k4))
        | true =>
          rw [c3] at q
          walk_at "S"
          refine ⟨S, kvs, st, _, _, rfl, PL4, ok.m, ok.y, fun H5 l k5 nl el => ?_⟩
          have sq5 := k5.seqT trivial sq4
          have las := (early_keys PL.ok ok.m (y := d.2.2.2)).2
          generalize earlyL st d.2.2.1 d.2.2.2 = as at *
          walk_at "S"
          refine ⟨⟨_, sq_l el⟩, fun E hE => ?_⟩
          have LC : LcOk E (as.map V.str).length (fun i => (as.map fun a => V.bl (decide (a ∈ zs))).take i) [] H5 (fun _ _ => True) := ⟨small_le (by rw [List.length_map]; omega), rfl, fun i hi => List.length_take_le _ _, hE, trivial, fun _ _ _ h => h⟩
          refine lc_go (walk_list (K := K) (a := l) (xs := as.map V.str)) LC trivial (fun Hq kq => sq_l (kq.get trivial el)) (fun j x Ha Hb hj Ib y => ?_) fun H6 I6 => ?_
          · obtain ⟨rfl, hx⟩ := y
            have hj' := hj
            rw [List.length_map] at hj'
            have ey := List.getElem?_eq_getElem hj'
            generalize as[j] = a at ey
            rw [List.getElem?_map, ey] at hx
            obtain rfl : V.str a = x := Option.some.inj hx
            walk_at "S"
            refine ⟨rfl, ?_⟩
            walk_at "S"
            refine ⟨t, zs.map V.str, rfl, .inr (Ib.2.1.seqT trivial sq5), rfl, flatV_strs _, ?_⟩
            rw [show (if false = true then !inV (.str a) (zs.map V.str) else inV (.str a) (zs.map V.str)) = decide (a ∈ zs) from inV_strs _ _]
            exact Ib.put LC hj (take_put (by rw [List.getElem?_map, ey]; rfl)) Kp.refl trivial
          · obtain ⟨x4, k6, _⟩ := I6
            dsimp only at x4
            rw [List.take_of_length_le (by rw [List.length_map, List.length_map]; exact Nat.le_refl _)] at x4
            walk_at "S"
            refine s_all (bs := as.map fun a => decide (a ∈ zs)) (sq_l (by rw [x4, List.map_map]; rfl)) ?_
            have eA : ((as.map fun a => decide (a ∈ zs)).all id) = as.all fun a => decide (a ∈ zs) := by rw [List.all_map]; rfl
            rw [eA]
            exact q H6 (kA.tr (k3.tr (k4.tr (k5.tr k6))))
end

abbrev hkV (e : Str × Nat) : List V := [.str e.1, .int (e.2 : Nat)]
abbrev AhAt (K : PySem.W.Frag) (H : Hp) (D : Addr) (kvs : List (Key × V)) (ah : Ah) : Prop := H D = some (.dK kvs) ∧ NmR (fun e v => ∃ t, v = V.ref t ∧ SqT K H t (hkV e)) ah kvs
def spStepsFrom (K : PySem.W.Frag) : Sp := fun vs H Q _ => ∃ (S : Addr) (kvs : List (Key × V)) (st : Shelf) (m : Str) (n : Nat), vs = [.ref S, .str m, .int (n : Nat)] ∧ Plain K H S kvs st ∧ m ∈ keysS st ∧
  ∀ H' D akv ah, Kp [] H H' → H D = none → AhAt K H' D akv ah → Ahd st m (n + 1) ah → Clo st m (n + 1) ah (ah.length + 1) → Q (.ref D) H'
section
variable {P : Program} {w : World} {K : PySem.W.Frag} {mg : Str → Option Value} {base : Heap}
theorem ok_steps_from {f : Addr} {fd : FuncData} (F : Fun K "steps_from" "steps_from" s_steps_from f fd) (T : Txt K mg )
    (D_aim_of : DnF P w K mg base 1 "aim_of" ["row"] (spAimOf K)) :
    FnOk P w K mg base CX0 2 f fd ["stock", "m", "last"] (spStepsFrom K) := by
  refine F.ok sc_steps_from (fun vs H Q E h => ?_) (fun cdv A outer s H vs Q E hr h => ?_)
  · obtain ⟨S, kvs, st, m, n, rfl, _⟩ := h
    rfl
  · obtain ⟨f_aim_of, fd_aim_of, G_aim_of, m_aim_of, k_aim_of, b_aim_of⟩ := D_aim_of
    obtain ⟨S, kvs, st, m, n, rfl, PL, km, q⟩ := h
    have hu := hu_of hr
    refine ⟨_, (pss_cons (ps_set (i := 3) sc_steps_from.nd rfl (Or.inl rfl) pe_dnewK)
      (pss_cons (ps_set (i := 4) sc_steps_from.nd rfl (Or.inl rfl) (pe_lst (pa_cons (pv 1) pa_nil)))
      (pss_cons (ps_while PassesOwn.never (pt_cmpR (neNilK (K := K) rfl hr.units) (pv 4) (pe_lst pa_nil) (nomark _)) (pss_cons (ps_set (i := 5) sc_steps_from.nd rfl (Or.inl rfl) (kBM (K := K) rfl (pe_bm PySem.F.plainAttrs_list PySem.F.slot_list_pop PySem.F.type_list_pop mt_popAt (pv 4) (pa_cons pe_int pa_nil))))
      (pss_cons (ps_set (i := 6) sc_steps_from.nd rfl (Or.inl rfl) (pe_dget hu (pv 0) (pv 5) (fun _ _ => rfl)))
      (pss_cut2 (ps_if (pt_cmpR op_eq (pv 5) (pv 1) (nomark _)) (pss_one (ps_set (i := 6) sc_steps_from.nd rfl (Or.inl rfl) (pe_slice sl_tupA (pv 6) po_none (po_some (pe_op op_add (pv 2) pe_int))))) pss_nil)
      (pss_one (ps_for PassesOwn.never rfl (pi_enumT (K := K) rfl (by rfl) T.n_enumerate (pa_cons (pv 6) pa_nil)) (kgT (K := K) rfl (pg_tup rfl (pgs_cons (pg_name (i := 7) sc_steps_from.nd rfl (Or.inl rfl)) (pgs_cons (pg_name (i := 8) sc_steps_from.nd rfl (Or.inl rfl)) pgs_nil)))) (pss_cons (ps_set (i := 9) sc_steps_from.nd rfl (Or.inl rfl) (pe_call G_aim_of (hr.mono (by first | decide | omega)) (by rfl) m_aim_of k_aim_of b_aim_of .nil pass0 (pa_cons (pv 8) pa_nil)))
      (pss_one (ps_if (PW.pt (pw_and (pt_cmpR op_notN (pv 9) pe_non (nomark _)) (pw_and (pt_cmpR op_ne (pv 9) (pv 1) (nomark _)) (pw_and1 (pt_cmp (pc_dnotin hu (pv 9) (pv 3))))))) (pss_cons (ps_dput hu (pv 3) (pv 9) (pe_tup (pa_cons (pv 5) (pa_cons (pv 7) pa_nil))) rfl)
      (pss_one (ps_expr (kBM (K := K) rfl (pe_bm PySem.F.plainAttrs_list PySem.F.slot_list_append PySem.F.type_list_append mt_append (pv 4) (pa_cons (pv 9) pa_nil)))))) pss_nil)))))))))
      (pss_one (ps_ret (pv 3)))))), ?_⟩
    refine st_start (σ' := [some (.ref S), some (.str m), some (.int (n : Nat)), none, none, none, none, none, none, none]) rfl ?_
    walk_at "S"
    intro D hD
    have k1 := kp_new (o := .dK []) hD
    have eD : upd H D (.dK []) D = some (.dK []) := upd_same
    generalize upd H D (.dK []) = H1 at *
    walk_at "S"
    refine ⟨small_le (by simp), fun wl hwl => ?_⟩
    have ewl : upd H1 wl (.lst [.str m]) wl = some (.lst [.str m]) := upd_same
    have k2 := kp_new (o := .lst [.str m]) hwl
    have nDw : D ≠ wl := fun e => by rw [← e, eD] at hwl; cases hwl
    have eD2 := k2.get trivial eD
    have hw0 : H wl = none := k1.free trivial hwl
    have kA := k1.tr k2
    generalize upd H1 wl (.lst [.str m]) = H2 at *
    walk_at "S"
    have fewA : ∀ {ah : Ah}, Ahd st m (n + 1) ah → ah.length ≤ 16 := fun A => by
      have := List.Nodup.length_le_of_subset A.nd (A.key PL.ok km)
      rw [List.length_map, List.length_map] at this
      exact Nat.le_trans this PL.ok.few
    refine ⟨fun mm σ Hi => ∃ (j : Nat) (ah : Ah) (akv : List (Key × V)) (o5 o6 o7 o8 o9 : Option V), σ = [some (.ref S), some (.str m), some (.int (n : Nat)), some (.ref D), some (.ref wl), o5, o6, o7, o8, o9] ∧ Kp [] H Hi ∧ AhAt K Hi D akv ah ∧ Hi wl = some (.lst (((m :: ah.map (·.1)).drop j).map V.str)) ∧ Ahd st m (n + 1) ah ∧ Clo st m (n + 1) ah j ∧ j ≤ ah.length + 1 ∧ mm = 20 - j,
      ⟨20, 0, [], [], _, _, _, _, _, rfl, kA, ⟨eD2, .nil⟩, ewl, Ahd.nil, Clo.zero, Nat.zero_le _, rfl⟩, fun mm σ Hi I => ?_⟩
    obtain ⟨j, ah, akv, o5, o6, o7, o8, o9, rfl, kI, AH, ewi, A_, C_, lj, em⟩ := I
    have lah := fewA A_
    walk_at "S"
    refine ⟨small_le (by simp), fun l0 hl0 => ?_⟩
    have k0 := kp_new (o := .lst []) hl0
    have ewj := k0.get trivial ewi
    have AJ : AhAt K (upd Hi l0 (.lst [])) D akv ah := ⟨k0.get trivial AH.1, AH.2.mono fun e v ⟨t, et, s⟩ => ⟨t, et, k0.seqT trivial s⟩⟩
    have kj := kI.tr k0
    have el0 : upd Hi l0 (.lst []) l0 = some (.lst []) := upd_same
    generalize upd Hi l0 (.lst []) = Hj at *
    refine s_nil0 (sq_l ewj) (sq_l el0) ?_
    walk_at "S"
    by_cases cj : ah.length + 1 ≤ j
    · have e0 : (m :: ah.map (·.1)).drop j = [] := List.drop_eq_nil_of_le (by rw [List.length_cons, List.length_map]; exact cj)
      rw [e0]
      rw [if_neg (by simp)]
      walk_at "S"
      obtain rfl : j = ah.length + 1 := by omega
      exact q Hj D akv ah kj hD AJ A_ C_
    · have lk : j < (m :: ah.map (·.1)).length := by rw [List.length_cons, List.length_map]; omega
      obtain ⟨h, eh⟩ : ∃ h, (m :: ah.map (·.1))[j]? = some h := ⟨_, List.getElem?_eq_getElem lk⟩
      have ed : (m :: ah.map (·.1)).drop j = h :: (m :: ah.map (·.1)).drop (j + 1) := by
        rw [List.drop_eq_getElem_cons lk]
        congr 1
        rw [List.getElem?_eq_getElem lk] at eh
        exact Option.some.inj eh
      rw [ed] at ewj ⊢
      rw [if_pos (by simp)]
      have kh : h ∈ keysS st := by
        rcases List.mem_cons.mp (List.mem_of_getElem? eh) with c | c
        · rw [c]; exact km
        · exact A_.key PL.ok km h c
      refine ⟨_, fun _ _ h => h, ?_⟩
      walk_at "S"
      refine ⟨wl, _, 0, 0, .str h, rfl, rfl, ewj, by omega, by omega, by rw [List.map_cons, List.length_cons]; simp [seqIndex?], rfl, ?_⟩
      rw [show (List.map V.str (h :: (m :: ah.map (·.1)).drop (j + 1))).eraseIdx 0 = ((m :: ah.map (·.1)).drop (j + 1)).map V.str from rfl]
      have kk : Kp [] H (upd Hj wl (.lst (((m :: ah.map (·.1)).drop (j + 1)).map V.str))) := kj.upd_loc hw0
      have tk : TupK Hj (upd Hj wl (.lst (((m :: ah.map (·.1)).drop (j + 1)).map V.str))) := TupK.lst ewj
      have AK : AhAt K (upd Hj wl (.lst (((m :: ah.map (·.1)).drop (j + 1)).map V.str))) D akv ah := ⟨(upd_ne nDw).trans AJ.1, AJ.2.mono fun e v ⟨t, et, s⟩ => ⟨t, et, seqT_tups tk s⟩⟩
      have ewk : upd Hj wl (.lst (((m :: ah.map (·.1)).drop (j + 1)).map V.str)) wl = some (.lst (((m :: ah.map (·.1)).drop (j + 1)).map V.str)) := upd_same
      generalize upd Hj wl (.lst (((m :: ah.map (·.1)).drop (j + 1)).map V.str)) = Hk at *
      have PLk := PL.same kk
      have eb := body_key PL.ok kh
      obtain ⟨vb, gv, dvb⟩ := PLk.at_.get eb
      obtain ⟨w1, w2⟩ := PL.ok.pw eb
      walk_at "S"
      refine s_getR PLk.at_.rd gv ?_
      walk_at "S"
      refine s_cut (fun σ Hq => ∃ (tb : Addr) (vs : List V), σ = [some (.ref S), some (.str m), some (.int (n : Nat)), some (.ref D), some (.ref wl), some (.str h), some (.ref tb), o7, o8, o9] ∧ Kp [] Hk Hq ∧ SqT K Hq tb vs ∧ DpAll K Hq vs (rowsD (rowsA st m (n + 1) h))) (fun J hJ => ?_) ?_
      · obtain ⟨tb, vs, rfl, stb, dvs⟩ : ∃ tb vs, vb = .ref tb ∧ SqT K Hk tb vs ∧ DpAll K Hk vs (rowsD (bodyS st h)) := by
          cases dvb with
          | tup h d => exact ⟨_, _, rfl, h, d⟩
        walk_at "S"
        by_cases c : h = m
        · rw [if_pos (by simp [c])]
          subst c
          walk_at "S"
          rw [show ((n : Nat) : Int) + 1 = ((n + 1 : Nat) : Int) by omega]
          refine s_slTake stb dvs _ fun x H5 k5 dx => ?_
          rw [← List.map_take] at dx
          walk_at "S"
          obtain ⟨tb, vs, rfl, stb, dvs⟩ : ∃ tb vs, x = .ref tb ∧ SqT K H5 tb vs ∧ DpAll K H5 vs (rowsD ((bodyS st h).take (n + 1))) := by
            cases dx with
            | tup h d => exact ⟨_, _, rfl, h, d⟩
          exact hJ _ _ ⟨tb, vs, rfl, k5, stb, by rw [show rowsA st h (n + 1) h = (bodyS st h).take (n + 1) from if_pos rfl]; exact dvs⟩
        · rw [if_neg (by simp [c])]
          walk_at "S"
          exact hJ _ _ ⟨tb, vs, rfl, Kp.refl, stb, by rw [show rowsA st m (n + 1) h = bodyS st h from if_neg c]; exact dvs⟩
      · rintro σ Hq ⟨tb, vs, rfl, kq, stb, dvs⟩
        walk_at "S"
        refine s_iEnumT ?_
        walk_at "S"
        have lvs : vs.length = (rowsA st m (n + 1) h).length := by rw [HL.DpAll.len dvs]; exact List.length_map ..
        have wR : ∀ r ∈ rowsA st m (n + 1) h, PlainW r := fun r hr => by
          unfold rowsA at hr
          split at hr
          · rename_i c
            exact (body_row PL.ok km r (List.mem_of_mem_take hr)).w
          · exact (body_row PL.ok kh r hr).w
        have lR : (rowsA st m (n + 1) h).length ≤ 40 := by
          unfold rowsA
          split
          · have := body_len PL.ok km
            rw [List.length_take]
            omega
          · exact body_len PL.ok kh
        generalize hRA : rowsA st m (n + 1) h = RA at *
        have kqH := kk.tr kq
        have AQ : AhAt K Hq D akv ah := ⟨kq.get trivial AK.1, AK.2.mono fun e v ⟨t, et, s⟩ => ⟨t, et, kq.seqT trivial s⟩⟩
        have ewq := kq.get trivial ewk
        refine ⟨tb, vs, rfl, stb, ?_⟩
        refine for_go (walk_enumT (K := K) (a := tb) (xs := vs)) (fun i σ Hi => ∃ (ah' : Ah) (akv' : List (Key × V)) (o7 o8 o9 : Option V), σ = [some (.ref S), some (.str m), some (.int (n : Nat)), some (.ref D), some (.ref wl), some (.str h), some (.ref tb), o7, o8, o9] ∧ Kp [] H Hi ∧ TupK Hq Hi ∧ AhAt K Hi D akv' ah' ∧ Hi wl = some (.lst (((m :: ah'.map (·.1)).drop (j + 1)).map V.str)) ∧ Ahd st m (n + 1) ah' ∧ Clo st m (n + 1) ah' j ∧ (m :: ah'.map (·.1))[j]? = some h ∧ ∀ a ∈ aimsL (RA.take i), a ≠ m → a ∈ ah'.map (·.1))
          ⟨ah, akv, _, _, _, rfl, kqH, TupK.same Kp.refl, AQ, ewq, A_, C_, eh, fun a ha => nomatch ha⟩ (fun i σ Hi _ I => by obtain ⟨_, _, _, _, _, rfl, _, t, _⟩ := I; exact seqT_tups t stb) (fun i x σ Ha Hb hi I y => ?_) fun σ Hb I => ?_
        · obtain ⟨t, kx, vx, rfl, nt, rfl, y1, y2⟩ := y
          obtain ⟨ah', akv', o7', o8', o9', rfl, kI, tI, AI, ewi', A', C', eh', al⟩ := I
          dsimp only at y1 y2
          obtain rfl : V.int (i : Nat) = kx := Option.some.inj y1
          obtain ⟨e, ee, de⟩ := dpAll_get dvs y2
          have hib : i < RA.length := by omega
          have er := List.getElem?_eq_getElem hib
          have mr := List.getElem_mem hib
          generalize RA[i] = r at er mr
          rw [List.getElem?_map, er] at ee
          obtain rfl : r.dat 3 = e := Option.some.inj ee
          have kt := kp_new (o := .tup [.int (i : Nat), vx]) nt
          have de := Dp.same kt _ _ (Dp.tups tI _ _ (flat_row (wR r mr)) de)
          have kI := kI.tr kt
          have tI := tI.trans (TupK.same kt)
          have AI : AhAt K (upd Ha t (.tup [.int (i : Nat), vx])) D akv' ah' := ⟨kt.get trivial AI.1, AI.2.mono fun e v ⟨t, et, s⟩ => ⟨t, et, kt.seqT trivial s⟩⟩
          have ewi' := kt.get trivial ewi'
          have lj : j < (m :: ah'.map (·.1)).length := (List.getElem?_eq_some_iff.mp eh').1
          have la' := fewA A'
          refine s_gtup (sq_t upd_same) rfl ?_
          generalize upd Ha t (.tup [.int (i : Nat), vx]) = Hc at *
          walk_at "S"
          refine ⟨vx, r, rfl, wR r mr, de, ?_⟩
          have acc := aimsL_put er
          have skip : (∀ a ∈ (aimR r).toList, a ≠ m → a ∈ ah'.map (·.1)) → ∀ a ∈ aimsL (RA.take (i + 1)), a ≠ m → a ∈ ah'.map (·.1) := fun h1 a ha na => by
            rw [acc] at ha
            rcases List.mem_append.mp ha with ha | ha
            · exact al a ha na
            · exact h1 a ha na
          walk_at "S"
          cases ea : aimR r with
          | none =>
            rw [show optS none = V.non from rfl]
            rw [if_neg (by simp)]
            walk_at "S"
            exact ⟨ah', akv', _, _, _, rfl, kI, tI, AI, ewi', A', C', eh', skip (by rw [ea]; exact fun a ha => nomatch ha)⟩
          | some z =>
            rw [show optS (some z) = V.str z from rfl]
            rw [if_pos (by simp)]
            walk_at "S"
            have skipz : (z ≠ m → z ∈ ah'.map (·.1)) → ∀ a ∈ aimsL (RA.take (i + 1)), a ≠ m → a ∈ ah'.map (·.1) := fun h1 => skip (by
              rw [ea]
              intro a ha na
              obtain rfl : a = z := by simpa using ha
              exact h1 na)
            by_cases cm : z = m
            · rw [if_neg (by simp [cm])]
              walk_at "S"
              exact ⟨ah', akv', _, _, _, rfl, kI, tI, AI, ewi', A', C', eh', skipz fun h => absurd cm h⟩
            · rw [if_pos (by simp [cm])]
              walk_at "S"
              refine s_inR (.inl AI.1) ?_
              rcases AI.2.get z with ⟨g, gv⟩ | ⟨e', v', g, gv, _⟩
              · have nz : z ∉ ah'.map (·.1) := getA_none.mp g
                rw [gv]
                walk_at "S"
                rw [if_pos (by rfl)]
                walk_at "S"
                refine ⟨small_le (by simp), fun t2 ht2 => ?_⟩
                have k2 := kp_new (o := .tup [.str h, .int (i : Nat)]) ht2
                have A2 : AhAt K (upd Hc t2 (.tup [.str h, .int (i : Nat)])) D akv' ah' := ⟨k2.get trivial AI.1, AI.2.mono fun e v ⟨t, et, s⟩ => ⟨t, et, k2.seqT trivial s⟩⟩
                have s2 : SqT K (upd Hc t2 (.tup [.str h, .int (i : Nat)])) t2 (hkV (h, i)) := sq_t upd_same
                have ew2 := k2.get trivial ewi'
                have kI2 := kI.tr k2
                have tI2 := tI.trans (TupK.same k2)
                generalize upd Hc t2 (.tup [.str h, .int (i : Nat)]) = Hd at *
                walk_at "S"
                refine s_putS A2.1 (small_lt (by rw [A2.2.len]; omega)) ?_
                have tk2 : TupK Hd (upd Hd D (.dK (putK akv' (.inr z) (.ref t2)))) := (Keep.one (o' := .dK (putK akv' (.inr z) (.ref t2))) A2.1 (.dK _)).tup
                have N3 := (A2.2.mono (R' := fun e v => ∃ t, v = V.ref t ∧ SqT K (upd Hd D (.dK (putK akv' (.inr z) (.ref t2)))) t (hkV e)) fun e v ⟨t, et, s⟩ => ⟨t, et, seqT_tups tk2 s⟩).put (z := z) (t := (h, i)) (v := .ref t2) ⟨t2, rfl, seqT_tups tk2 s2⟩
                rw [putA_new nz] at N3
                have e3 : upd Hd D (.dK (putK akv' (.inr z) (.ref t2))) D = some (.dK (putK akv' (.inr z) (.ref t2))) := upd_same
                have ew3 : upd Hd D (.dK (putK akv' (.inr z) (.ref t2))) wl = some (.lst (((m :: ah'.map (·.1)).drop (j + 1)).map V.str)) := (upd_ne nDw.symm).trans ew2
                have kI3 : Kp [] H (upd Hd D (.dK (putK akv' (.inr z) (.ref t2)))) := kI2.upd_loc hD
                have tI3 := tI2.trans tk2
                generalize upd Hd D (.dK (putK akv' (.inr z) (.ref t2))) = He at *
                walk_at "S"
                refine s_append ew3 (small_lt (by rw [List.length_map, List.length_drop, List.length_cons, List.length_map]; omega)) ?_
                have tk4 : TupK He (upd He wl (.lst (((m :: ah'.map (·.1)).drop (j + 1)).map V.str ++ [.str z]))) := TupK.lst ew3
                have app : ((m :: ah'.map (·.1)).drop (j + 1)).map V.str ++ [V.str z] = ((m :: (ah' ++ [(z, h, i)]).map (·.1)).drop (j + 1)).map V.str := by
                  rw [List.map_append, ← List.cons_append, List.drop_append_of_le_length (by omega), List.map_append]
                  rfl
                have hm : h ∈ m :: ah'.map (·.1) := List.mem_of_getElem? eh'
                refine ⟨ah' ++ [(z, h, i)], _, _, _, _, rfl, kI3.upd_loc hw0, tI3.trans tk4, ⟨(upd_ne nDw).trans e3, N3.mono fun e v ⟨t, et, s⟩ => ⟨t, et, seqT_tups tk4 s⟩⟩, by rw [upd_same, app], A'.put nz cm (by rw [hRA]; exact er) ea hm, C'.put (by rw [List.length_cons, List.length_map] at lj; omega) _, ?_, fun a ha na => ?_⟩
                · rw [List.map_append, ← List.cons_append]
                  exact get_app eh'
                · rw [List.map_append]
                  rw [acc] at ha
                  rcases List.mem_append.mp ha with ha | ha
                  · exact List.mem_append_left _ (al a ha na)
                  · rw [ea] at ha
                    obtain rfl : a = z := by simpa using ha
                    exact List.mem_append_right _ List.mem_cons_self
              · rw [gv]
                walk_at "S"
                rw [if_neg (by simp)]
                walk_at "S"
                exact ⟨ah', akv', _, _, _, rfl, kI, tI, AI, ewi', A', C', eh', skipz fun _ => List.mem_map.mpr ⟨_, getA_mem g, rfl⟩⟩
        · obtain ⟨ah', akv', o7', o8', o9', rfl, kI, tI, AI, ewi', A', C', eh', al⟩ := I
          rw [List.take_of_length_le (by omega)] at al
          have la' := fewA A'
          have lj' : j < (m :: ah'.map (·.1)).length := (List.getElem?_eq_some_iff.mp eh').1
          rw [List.length_cons, List.length_map] at lj'
          exact ⟨20 - (j + 1), by omega, j + 1, ah', akv', _, _, _, _, _, rfl, kI, AI, ewi', A', C'.next eh' (by rw [hRA]; exact al), by omega, rfl⟩
end

def StepA (st : Shelf) (e : Str × Nat) (z : Str) : Prop := e.1 ∈ keysS st ∧ ∃ r, (bodyS st e.1)[e.2]? = some r ∧ aimR r = some z
def stD (e : Str × Nat) : PyData := .tuple [.str e.1, .int (e.2 : Nat)]
/-- a snare that ends with a draw out of another body -/
structure SnareL (st : Shelf) (d : Dw) (sts : List (Str × Nat)) : Prop where
  last : ∃ ys, sts = ys ++ [(d.1, d.2.1)]
  head : ∃ k ys, sts = (d.2.2.1, k) :: ys ∧ (d.1 ≠ d.2.2.1 → k < fstR (bodyS st d.2.2.1) d.2.2.2 + 1)
  nd : (sts.map (·.1)).Nodup
  link : ∀ (i : Nat) (a b : Str × Nat), sts[i]? = some a → sts[i + 1]? = some b → StepA st a b.1
  self : d.1 = d.2.2.1 → sts = [(d.1, d.2.1)] ∧ d.2.1 ≤ fstR (bodyS st d.2.2.1) d.2.2.2
/-- no snare ends with it -/
def SafeD (st : Shelf) (d : Dw) : Prop := (d.1 = d.2.2.1 → fstR (bodyS st d.2.2.1) d.2.2.2 < d.2.1) ∧ (d.1 ≠ d.2.2.1 → d.1 ∉ lotL st d.2.2.1 d.2.2.2)
def spSnareOf (K : PySem.W.Frag) : Sp := fun vs H Q _ => ∃ (S t : Addr) (kvs : List (Key × V)) (st : Shelf) (d : Dw), vs = [.ref S, .ref t] ∧ Plain K H S kvs st ∧ SqT K H t (dwV d) ∧ DwOk st d ∧
  (SafeD st d → ∀ H', Kp [] H H' → Q .non H') ∧ ∀ H' p xs sts, SnareL st d sts → Kp [] H H' → H p = none → H' p = some (.lst xs) → DpAll K H' xs (sts.map stD) → Q (.ref p) H'
/-- walking back -/
structure Bk (st : Shelf) (m : Str) (n : Nat) (ah : Ah) (c : Str) (k0 : Nat) (h : Str) (k : Nat) (ys : List (Str × Nat)) : Prop where
  hd : (h = m ∧ k < n) ∨ ∃ p : Nat, (ah.map (·.1))[p]? = some h ∧ ∀ e ∈ ys, ∃ p' : Nat, p < p' ∧ (ah.map (·.1))[p']? = some e.1
  tl : ∀ e ∈ ys, e.1 ∈ ah.map (·.1)
  last : ∃ us, (h, k) :: ys = us ++ [(c, k0)]
  nd : (((h, k) :: ys).map (·.1)).Nodup
  link : ∀ (i : Nat) (a b : Str × Nat), ((h, k) :: ys)[i]? = some a → ((h, k) :: ys)[i + 1]? = some b → StepA st a b.1
theorem Bk.start {st : Shelf} {m : Str} {n : Nat} {ah : Ah} {c : Str} {k0 : Nat} (hc : c ∈ ah.map (·.1)) : Bk st m n ah c k0 c k0 [] := by
  obtain ⟨p, ep⟩ := List.mem_iff_getElem?.mp hc
  refine ⟨.inr ⟨p, ep, fun e he => nomatch he⟩, fun e he => (nomatch he), ⟨[], rfl⟩, List.nodup_cons.mpr ⟨List.not_mem_nil, .nil⟩, fun i a b _ hb => by simp at hb⟩
theorem ah_m {st : Shelf} {m : Str} {n : Nat} {ah : Ah} (A : Ahd st m n ah) : m ∉ ah.map (·.1) := fun h => by
  obtain ⟨p, ep⟩ := List.mem_iff_getElem?.mp h
  rw [List.getElem?_map] at ep
  obtain ⟨⟨z, h', k'⟩, e1, e2⟩ := Option.map_eq_some_iff.mp ep
  exact (A.st p z h' k' e1).1 e2
theorem nd_ix {l : List Str} (nd : l.Nodup) {i j : Nat} {z : Str} (h1 : l[i]? = some z) (h2 : l[j]? = some z) : i = j := by
  obtain ⟨li, ei⟩ := List.getElem?_eq_some_iff.mp h1
  obtain ⟨lj, ej⟩ := List.getElem?_eq_some_iff.mp h2
  rcases Nat.lt_trichotomy i j with c | c | c
  · exact absurd (ei.trans ej.symm) (List.pairwise_iff_getElem.mp nd i j li lj c)
  · exact c
  · exact absurd (ej.trans ei.symm) (List.pairwise_iff_getElem.mp nd j i lj li c)
theorem Bk.step {st : Shelf} (P : PlainS st) {m : Str} {n : Nat} {ah : Ah} {c : Str} {k0 : Nat} {h : Str} {k : Nat} {ys : List (Str × Nat)} (km : m ∈ keysS st) (A : Ahd st m n ah) (B : Bk st m n ah c k0 h k ys) {p : Nat} {h' : Str} {k' : Nat} (ep : ah[p]? = some (h, h', k')) :
    Bk st m n ah c k0 h' k' ((h, k) :: ys) ∧ (h' = m ∨ ∃ j, j < p ∧ (ah.map (·.1))[j]? = some h') := by
  obtain ⟨hm, ⟨r, er, ar⟩, hh⟩ := A.st p h h' k' ep
  have eph : (ah.map (·.1))[p]? = some h := by rw [List.getElem?_map, ep]; rfl
  have mh : h ∈ ah.map (·.1) := List.mem_of_getElem? eph
  obtain ⟨p0, ep0, tl⟩ := B.hd.resolve_left fun x => hm x.1
  obtain rfl := nd_ix A.nd ep0 eph
  have all : ∀ e ∈ (h, k) :: ys, e.1 ∈ ah.map (·.1) := fun e he => by
    rcases List.mem_cons.mp he with rfl | he
    · exact mh
    · exact B.tl e he
  have big : ∀ j, j < p0 → ∀ e ∈ (h, k) :: ys, ∃ p' : Nat, j < p' ∧ (ah.map (·.1))[p']? = some e.1 := fun j hj e he => by
    rcases List.mem_cons.mp he with rfl | he
    · exact ⟨p0, hj, eph⟩
    · obtain ⟨p', h1, h2⟩ := tl e he
      exact ⟨p', by omega, h2⟩
  have kh : h' ∈ keysS st := by
    rcases hh with rfl | ⟨j, _, ej⟩
    · exact km
    · exact A.key P km h' (List.mem_of_getElem? ej)
  have erb : (bodyS st h')[k']? = some r ∧ (h' = m → k' < n) := by
    unfold rowsA at er
    split at er
    · rename_i c
      rw [List.getElem?_take] at er
      split at er
      · rename_i lt
        exact ⟨by rw [c]; exact er, fun _ => lt⟩
      · cases er
    · rename_i c
      exact ⟨er, fun e => absurd e c⟩
  refine ⟨⟨?_, all, ?_, ?_, fun i a b ha hb => ?_⟩, hh⟩
  · rcases hh with e | ⟨j, hj, ej⟩
    · exact .inl ⟨e, erb.2 e⟩
    · exact .inr ⟨j, ej, big j hj⟩
  · obtain ⟨us, e⟩ := B.last
    exact ⟨(h', k') :: us, by rw [e]; rfl⟩
  · rw [List.map_cons, List.nodup_cons]
    refine ⟨fun hx => ?_, B.nd⟩
    obtain ⟨e, he, e2⟩ := List.mem_map.mp hx
    have e2 : e.1 = h' := e2
    rcases hh with c | ⟨j, hj, ej⟩
    · exact ah_m A (by rw [← c, ← e2]; exact all e he)
    · obtain ⟨p', h1, h2⟩ := big j hj e he
      rw [e2] at h2
      have := nd_ix A.nd h2 ej
      omega
  · cases i with
    | zero =>
      cases ha
      cases hb
      exact ⟨kh, r, erb.1, ar⟩
    | succ i => exact B.link i a b ha hb
section
variable {P : Program} {w : World} {K : PySem.W.Frag} {mg : Str → Option Value} {base : Heap}
theorem ok_snare_of {f : Addr} {fd : FuncData} (F : Fun K "snare_of" "snare_of" s_snare_of f fd) (T : Txt K mg )
    (D_first_row : DnF P w K mg base 2 "first_row" ["body", "name"] (spFirstRow K)) (D_steps_from : DnF P w K mg base 2 "steps_from" ["stock", "m", "last"] (spStepsFrom K)) :
    FnOk P w K mg base CX0 3 f fd ["stock", "draw"] (spSnareOf K) := by
  refine F.ok sc_snare_of (fun vs H Q E h => ?_) (fun cdv A outer s H vs Q E hr h => ?_)
  · obtain ⟨S, t, kvs, st, d, rfl, _⟩ := h
    rfl
  · obtain ⟨f_first_row, fd_first_row, G_first_row, m_first_row, k_first_row, b_first_row⟩ := D_first_row; obtain ⟨f_steps_from, fd_steps_from, G_steps_from, m_steps_from, k_steps_from, b_steps_from⟩ := D_steps_from
    obtain ⟨S, t, kvs, st, d, rfl, PL, sq, ok, q1, q2⟩ := h
    have hu := hu_of hr
    refine ⟨_, (pss_cons (ps_asg (pv 1) (kgT (K := K) rfl (pg_tup rfl (pgs_cons (pg_name (i := 2) sc_snare_of.nd rfl (Or.inl rfl)) (pgs_cons (pg_name (i := 3) sc_snare_of.nd rfl (Or.inl rfl)) (pgs_cons (pg_name (i := 4) sc_snare_of.nd rfl (Or.inl rfl)) (pgs_cons (pg_name (i := 5) sc_snare_of.nd rfl (Or.inl rfl)) pgs_nil)))))))
      (pss_cons (ps_set (i := 6) sc_snare_of.nd rfl (Or.inl rfl) (pe_call G_first_row (hr.mono (by first | decide | omega)) (by rfl) m_first_row k_first_row b_first_row .nil pass0 (pa_cons (pe_dget hu (pv 0) (pv 4) (fun _ _ => rfl)) (pa_cons (pv 5) pa_nil))))
      (pss_cons (ps_if (pt_cmpR op_eq (pv 2) (pv 4) (nomark _)) (pss_one (ps_ret (pe_ifExp (pt_cmpR op_lt (pv 6) (pv 3) (nomark _)) pe_non (pe_lst (pa_cons (pe_tup (pa_cons (pv 2) (pa_cons (pv 3) pa_nil))) pa_nil))))) pss_nil)
      (pss_cons (ps_set (i := 7) sc_snare_of.nd rfl (Or.inl rfl) (pe_call G_steps_from (hr.mono (by first | decide | omega)) (by rfl) m_steps_from k_steps_from b_steps_from .nil pass0 (pa_cons (pv 0) (pa_cons (pv 4) (pa_cons (pv 6) pa_nil)))))
      (pss_cons (ps_if (pt_cmp (pc_dnotin hu (pv 2) (pv 7))) (pss_one (ps_ret pe_non)) pss_nil)
      (pss_cons (ps_set (i := 8) sc_snare_of.nd rfl (Or.inl rfl) (pe_lst (pa_cons (pe_tup (pa_cons (pv 2) (pa_cons (pv 3) pa_nil))) pa_nil)))
      (pss_cons (ps_while PassesOwn.never (pt_cmpR op_ne (pe_ix (ixTK (K := K) rfl) (pe_ix (ixLK (K := K) rfl) (pv 8) pe_int (fun _ _ => rfl)) pe_int (fun _ _ => rfl)) (pv 4) (nomark _)) (pss_one (ps_expr (kBM (K := K) rfl (pe_bm PySem.F.plainAttrs_list PySem.F.slot_list_insert PySem.F.type_list_insert mt_insert (pv 8) (pa_cons pe_int (pa_cons (pe_dget hu (pv 7) (pe_ix (ixTK (K := K) rfl) (pe_ix (ixLK (K := K) rfl) (pv 8) pe_int (fun _ _ => rfl)) pe_int (fun _ _ => rfl)) (fun _ _ => rfl)) pa_nil)))))))
      (pss_one (ps_ret (pv 8)))))))))), ?_⟩
    refine st_start (σ' := [some (.ref S), some (.ref t), none, none, none, none, none, none, none]) rfl ?_
    obtain ⟨c, k0, m, y⟩ := d
    have sq : SqT K H t [.str c, .int (k0 : Nat), .str m, .str y] := sq
    have okc : c ∈ keysS st := ok.c
    have okm : m ∈ keysS st := ok.m
    have oky : y ∈ (bodyS st m).map bndR := ok.y
    obtain ⟨x0, okr⟩ : ∃ x, (bodyS st c)[k0]? = some (.draw x m y) := ok.row
    walk_at "S"
    have eb := body_key PL.ok okm
    obtain ⟨vb, gv, dvb⟩ := PL.at_.get eb
    obtain ⟨w1, w2⟩ := PL.ok.pw eb
    walk_at "S"
    refine s_getR PL.at_.rd gv ?_
    walk_at "S"
    refine ⟨vb, _, _, rfl, w1, by omega, dvb, fun H1 k1 => ?_⟩
    rw [fstR_some oky, show optI (some (fstR (bodyS st m) y)) = V.int (fstR (bodyS st m) y : Nat) from rfl]
    have PL1 := PL.same k1
    walk_at "S"
    by_cases cm : c = m
    · subst cm
      rw [if_pos (by simp)]
      walk_at "S"
      by_cases cl : fstR (bodyS st c) y < k0
      · rw [if_pos (by simpa using cl)]
        exact q1 ⟨fun _ => cl, fun h => absurd rfl h⟩ H1 k1
      · rw [if_neg (by simpa using cl)]
        walk_at "S"
        refine ⟨small_le (by simp), fun t2 ht2 => ?_⟩
        have k2 := kp_new (o := .tup [.str c, .int (k0 : Nat)]) ht2
        walk_at "S"
        refine ⟨small_le (by simp), fun l2 hl2 => ?_⟩
        have k3 := kp_new (o := .lst [.ref t2]) hl2
        refine q2 _ l2 [.ref t2] [(c, k0)] ⟨⟨[], rfl⟩, ⟨k0, [], rfl, fun h => absurd rfl h⟩, List.nodup_cons.mpr ⟨List.not_mem_nil, .nil⟩, fun i a b _ hb => by simp at hb, fun _ => ⟨rfl, Nat.le_of_not_lt cl⟩⟩ (k1.tr (k2.tr k3)) ((k1.tr k2).free trivial hl2) upd_same ?_
        exact .cons (.tup (sq_t (k3.get trivial upd_same)) (.cons (.str _) (.cons (.int _) .nil))) .nil
    · rw [if_neg (by simpa using cm)]
      walk_at "S"
      refine ⟨S, kvs, st, m, _, rfl, PL1, okm, fun H2 D akv ah k2 hD AH A_ C_ => ?_⟩
      have come := A_.come PL.ok okm C_ c
      have lah : ah.length ≤ 16 := by
        have := List.Nodup.length_le_of_subset A_.nd (A_.key PL.ok okm)
        rw [List.length_map, List.length_map] at this
        exact Nat.le_trans this PL.ok.few
      walk_at "S"
      refine s_inR (.inl AH.1) ?_
      rcases AH.2.get c with ⟨g, gv⟩ | ⟨e', v', g, gv, _⟩
      · rw [gv]
        have nz : c ∉ ah.map (·.1) := getA_none.mp g
        walk_at "S"
        rw [if_pos (by rfl)]
        walk_at "S"
        exact q1 ⟨fun h => absurd h cm, fun _ hl => nz (come.mpr ((lot_mem PL.ok okm).mp hl))⟩ H2 (k1.tr k2)
      · rw [gv]
        have mz : c ∈ ah.map (·.1) := List.mem_map.mpr ⟨_, getA_mem g, rfl⟩
        walk_at "S"
        rw [if_neg (by simp)]
        walk_at "S"
        refine ⟨small_le (by simp), fun t2 ht2 => ?_⟩
        have k3 := kp_new (o := .tup [.str c, .int (k0 : Nat)]) ht2
        have s3 : SqT K (upd H2 t2 (.tup [.str c, .int (k0 : Nat)])) t2 [.str c, .int (k0 : Nat)] := sq_t upd_same
        have A3 : AhAt K (upd H2 t2 (.tup [.str c, .int (k0 : Nat)])) D akv ah := ⟨k3.get trivial AH.1, AH.2.mono fun e v ⟨t, et, s⟩ => ⟨t, et, k3.seqT trivial s⟩⟩
        generalize upd H2 t2 (.tup [.str c, .int (k0 : Nat)]) = H3 at *
        walk_at "S"
        refine ⟨small_le (by simp), fun l hl => ?_⟩
        have k4 := kp_new (o := .lst [.ref t2]) hl
        have s4 := k4.seqT trivial s3
        have A4 : AhAt K (upd H3 l (.lst [.ref t2])) D akv ah := ⟨k4.get trivial A3.1, A3.2.mono fun e v ⟨t, et, s⟩ => ⟨t, et, k4.seqT trivial s⟩⟩
        have e4 : upd H3 l (.lst [.ref t2]) l = some (.lst [.ref t2]) := upd_same
        have kB := k1.tr (k2.tr (k3.tr k4))
        have hl0 : H l = none := (k1.tr (k2.tr k3)).free trivial hl
        have nDl : D ≠ l := fun e => by rw [← e, A3.1] at hl; cases hl
        generalize upd H3 l (.lst [.ref t2]) = H4 at *
        walk_at "S"
        refine ⟨fun mm σ Hi => ∃ (h : Str) (k : Nat) (ys : List (Str × Nat)) (xs : List V), σ = [some (.ref S), some (.ref t), some (.str c), some (.int (k0 : Nat)), some (.str m), some (.str y), some (.int (fstR (bodyS st m) y : Nat)), some (.ref D), some (.ref l)] ∧ Kp [] H Hi ∧ AhAt K Hi D akv ah ∧ Hi l = some (.lst xs) ∧ DpAll K Hi xs (((h, k) :: ys).map stD) ∧ Bk st m (fstR (bodyS st m) y + 1) ah c k0 h k ys ∧ (h ≠ m → ∃ p, (ah.map (·.1))[p]? = some h ∧ mm = p + 1),
          ⟨_, c, k0, [], [.ref t2], rfl, kB, A4, e4, .cons (.tup s4 (.cons (.str _) (.cons (.int _) .nil))) .nil, Bk.start mz, fun _ => ⟨_, (List.getElem?_eq_getElem (List.idxOf_lt_length_iff.mpr mz)).trans (congrArg some (List.getElem_idxOf _)), rfl⟩⟩, fun mm σ Hi I => ?_⟩
        obtain ⟨h, k, ys, xs, rfl, kI, AI, ei, di, B_, ms⟩ := I
        obtain ⟨x1, xr, rfl, s1, dr⟩ : ∃ x1 xr, xs = .ref x1 :: xr ∧ SqT K Hi x1 [.str h, .int (k : Nat)] ∧ DpAll K Hi xr (ys.map stD) := by
          cases di with
          | cons h1 h2 =>
            cases h1 with
            | tup s q => cases q with | cons d1 q => cases d1; cases q with | cons d2 q => cases d2; cases q; exact ⟨_, _, rfl, s, h2⟩
        walk_at "S"
        refine s_ixL (sq_l ei) (show atI (V.ref x1 :: xr) ((0 : Nat) : Int) = some (V.ref x1) from atI_nat rfl) ?_
        walk_at "S"
        by_cases hm : h = m
        · rw [if_neg (by simp [hm])]
          subst hm
          walk_at "S"
          have kn : k < fstR (bodyS st h) y + 1 := by
            rcases B_.hd with ⟨_, e⟩ | ⟨p, ep, _⟩
            · exact e
            · exact absurd (List.mem_of_getElem? ep) (ah_m A_)
          exact q2 Hi l _ ((h, k) :: ys) ⟨B_.last, ⟨k, ys, rfl, fun _ => kn⟩, B_.nd, B_.link, fun e => absurd e cm⟩ kI hl0 ei (.cons (.tup s1 (.cons (.str _) (.cons (.int _) .nil))) dr)
        · rw [if_pos (by simp [hm])]
          refine ⟨_, fun _ _ h => h, ?_⟩
          obtain ⟨p, ep, em⟩ := ms hm
          obtain ⟨⟨h', k'⟩, t5, g5, gv5, s5⟩ : ∃ (e : Str × Nat) (t5 : Addr), ah[p]? = some (h, e) ∧ valV akv (.inr h) = some (.ref t5) ∧ SqT K Hi t5 (hkV e) := by
            rcases AI.2.get h with ⟨g, _⟩ | ⟨e, v, g, gv, t5, rfl, s5⟩
            · exact absurd (List.mem_of_getElem? ep) (getA_none.mp g)
            · obtain ⟨p', ep'⟩ := List.mem_iff_getElem?.mp (getA_mem g)
              have e2 : (ah.map (·.1))[p']? = some h := by rw [List.getElem?_map, ep']; rfl
              obtain rfl := nd_ix A_.nd ep e2
              exact ⟨e, t5, ep', gv, s5⟩
          obtain ⟨B2, st2⟩ := B_.step PL.ok okm A_ g5
          walk_at "S"
          refine s_ixL (sq_l ei) (show atI (V.ref x1 :: xr) ((0 : Nat) : Int) = some (V.ref x1) from atI_nat rfl) ?_
          walk_at "S"
          refine s_getR (.inl AI.1) gv5 ?_
          walk_at "S"
          have lys : ys.length ≤ 16 := by
            have nd := B_.nd
            rw [List.map_cons, List.nodup_cons] at nd
            have := List.Nodup.length_le_of_subset nd.2 (fun z hz => by
              obtain ⟨e, he, e2⟩ := List.mem_map.mp hz
              have e2 : e.1 = z := e2
              rw [← e2]
              exact A_.key PL.ok okm _ (B_.tl e he))
            rw [List.length_map, List.length_map] at this
            exact Nat.le_trans this PL.ok.few
          have lxr : xr.length = ys.length := by rw [HL.DpAll.len dr, List.length_map]
          refine ⟨l, _, 0, .ref t5, rfl, rfl, ei, small_lt (by rw [List.length_cons]; omega), by omega, by omega, ?_⟩
          rw [show List.take (Int.toNat 0) (V.ref x1 :: xr) ++ [V.ref t5] ++ List.drop (Int.toNat 0) (V.ref x1 :: xr) = V.ref t5 :: V.ref x1 :: xr from rfl]
          have tk : TupK Hi (upd Hi l (.lst (V.ref t5 :: V.ref x1 :: xr))) := TupK.lst ei
          have flat : ∀ zs : List (Str × Nat), flatAll (zs.map stD) = true := fun zs => flatAll_of fun x hx => by
            obtain ⟨d, _, rfl⟩ := List.mem_map.mp hx
            rfl
          have dd : DpAll K (upd Hi l (.lst (V.ref t5 :: V.ref x1 :: xr))) (V.ref t5 :: V.ref x1 :: xr) (((h', k') :: (h, k) :: ys).map stD) := .cons (.tup (seqT_tups tk s5) (.cons (.str _) (.cons (.int _) .nil))) (.cons (.tup (seqT_tups tk s1) (.cons (.str _) (.cons (.int _) .nil))) (Dp.tupsAll tk _ _ (flat ys) dr))
          have AN : AhAt K (upd Hi l (.lst (V.ref t5 :: V.ref x1 :: xr))) D akv ah := ⟨(upd_ne nDl).trans AI.1, AI.2.mono fun e v ⟨t, et, s⟩ => ⟨t, et, seqT_tups tk s⟩⟩
          by_cases hm' : h' = m
          · exact ⟨0, by omega, h', k', (h, k) :: ys, _, rfl, kI.upd_loc hl0, AN, upd_same, dd, B2, fun x => absurd hm' x⟩
          · obtain ⟨j, hj, ej⟩ := st2.resolve_left hm'
            exact ⟨j + 1, by omega, h', k', (h, k) :: ys, _, rfl, kI.upd_loc hl0, AN, upd_same, dd, B2, fun _ => ⟨j, ej, rfl⟩⟩
end

theorem drawsB_pw (z : Str) (b : List PH.Row) : ∀ i, i ≤ b.length → (drawsB z (b.take i)).Pairwise (fun d e => d.2.1 < e.2.1) ∧ ∀ d ∈ drawsB z (b.take i), d.2.1 < i := fun i => by
  induction i with
  | zero => exact fun _ => ⟨by rw [List.take_zero]; exact .nil, fun d hd => by rw [List.take_zero] at hd; exact nomatch hd⟩
  | succ i ih =>
    intro hi
    obtain ⟨h1, h2⟩ := ih (by omega)
    have e := List.getElem?_eq_getElem (show i < b.length by omega)
    rw [drawsB_put e]
    have all : ∀ d ∈ (drawR z i b[i]).toList, d.2.1 = i := fun d hd => by
      cases hr : b[i] with
      | draw x m y =>
        rw [hr] at hd
        obtain rfl : d = (z, i, m, y) := by simpa [drawR] using hd
        rfl
      | _ => rw [hr] at hd; simp [drawR] at hd
    refine ⟨List.pairwise_append.mpr ⟨h1, ?_, fun d hd e he => by rw [all e he]; exact h2 d hd⟩, fun d hd => ?_⟩
    · cases drawR z i b[i] with
      | none => exact .nil
      | some d => exact List.pairwise_singleton _ _
    · rcases List.mem_append.mp hd with hd | hd
      · have := h2 d hd; omega
      · rw [all d hd]; omega
theorem draws_pw {st : Shelf} {zs : List Str} (nd : zs.Nodup) : (allDraws st zs).Pairwise fun d e => ¬ (d.1 = e.1 ∧ d.2.1 = e.2.1) := by
  unfold allDraws
  rw [List.pairwise_flatMap]
  refine ⟨fun z _ => ?_, nd.imp fun {a b} hab d hd e he h => hab ?_⟩
  · have := (drawsB_pw z (bodyS st z) _ (Nat.le_refl _)).1
    rw [List.take_of_length_le (Nat.le_refl _)] at this
    exact this.imp fun {d e} h c => by omega
  · rw [← (drawsB_mem hd).1, ← (drawsB_mem he).1]
    exact h.1
theorem putT_new {kvs : List (List Key × V)} {k : List Key} {v : V} (h : k ∉ kvs.map (·.1)) : putK kvs k v = kvs ++ [(k, v)] := by
  unfold putK
  rw [if_neg]
  intro c
  obtain ⟨q, hq, e⟩ := List.any_eq_true.mp c
  exact h (List.mem_map.mpr ⟨q, hq, of_decide_eq_true e⟩)
def otherD (d : Dw) : Bool := !decide (d.1 = d.2.2.1)
abbrev keyD2 (d : Dw) : List Key := [.inr d.1, .inl (d.2.1 : Nat)]
abbrev LotsAt (K : PySem.W.Frag) (H : Hp) (L : Addr) (st : Shelf) (lkv : List (List Key × V)) (ds : List Dw) : Prop := H L = some (.dT lkv) ∧ Paired (fun (q : List Key × V) (d : Dw) => q.1 = keyD2 d ∧ ∃ t, q.2 = V.ref t ∧ SqT K H t ((lotL st d.2.2.1 d.2.2.2).map V.str)) lkv ds
def spSafe (K : PySem.W.Frag) : Sp := fun vs H Q _ => ∃ (S : Addr) (kvs : List (Key × V)) (st : Shelf), vs = [.ref S] ∧ Plain K H S kvs st ∧
  (∀ H' t f xs d sts, d ∈ allDraws st (srt (keysS st)) → SnareL st d sts → Kp [] H H' → H t = none → H f = none → H' t = some (.tup [.str "unsafe", .ref f]) → H' f = some (.lst xs) → DpAll K H' xs (sts.map stD) → Q (.ref t) H') ∧
  ((∀ d ∈ allDraws st (srt (keysS st)), SafeD st d) → ∀ H' t L lkv, Kp [] H H' → H t = none → H L = none → H' t = some (.tup [.str "safe", .ref L]) → LotsAt K H' L st lkv ((allDraws st (srt (keysS st))).filter otherD) → Q (.ref t) H')
section
variable {P : Program} {w : World} {K : PySem.W.Frag} {mg : Str → Option Value} {base : Heap}
theorem ok_safe {f : Addr} {fd : FuncData} (F : Fun K "safe" "safe" s_safe f fd) (T : Txt K mg )
    (D_want_plain : DnF P w K mg base 14 "want_plain" ["thing"] (spWantPlain K)) (D_draws_of : DnF P w K mg base 1 "draws_of" ["stock"] (spDrawsOf K)) (D_snare_of : DnF P w K mg base 3 "snare_of" ["stock", "draw"] (spSnareOf K)) (D_come_to : DnF P w K mg base 3 "come_to" ["stock", "starts", "without"] (spComeTo K)) (D_early_aims : DnF P w K mg base 3 "early_aims" ["stock", "m", "x"] (spEarlyAims K)) :
    FnOk P w K mg base CX0 15 f fd ["stock"] (spSafe K) := by
  refine F.ok sc_safe (fun vs H Q E h => ?_) (fun cdv A outer s H vs Q E hr h => ?_)
  · obtain ⟨S, kvs, st, rfl, _⟩ := h
    rfl
  · obtain ⟨f_want_plain, fd_want_plain, G_want_plain, m_want_plain, k_want_plain, b_want_plain⟩ := D_want_plain; obtain ⟨f_draws_of, fd_draws_of, G_draws_of, m_draws_of, k_draws_of, b_draws_of⟩ := D_draws_of; obtain ⟨f_snare_of, fd_snare_of, G_snare_of, m_snare_of, k_snare_of, b_snare_of⟩ := D_snare_of; obtain ⟨f_come_to, fd_come_to, G_come_to, m_come_to, k_come_to, b_come_to⟩ := D_come_to; obtain ⟨f_early_aims, fd_early_aims, G_early_aims, m_early_aims, k_early_aims, b_early_aims⟩ := D_early_aims
    obtain ⟨S, kvs, st, rfl, PL, q1, q2⟩ := h
    have hu := hu_of hr
    refine ⟨_, (pss_cons (ps_expr (pe_call G_want_plain (hr.mono (by first | decide | omega)) (by rfl) m_want_plain k_want_plain b_want_plain .nil pass0 (pa_cons (pv 0) pa_nil)))
      (pss_cons (ps_set (i := 1) sc_safe.nd rfl (Or.inl rfl) pe_dnewT)
      (pss_cons (ps_for PassesOwn.never rfl (kiL (K := K) rfl (pi_list (pe_call G_draws_of (hr.mono (by first | decide | omega)) (by rfl) m_draws_of k_draws_of b_draws_of .nil pass0 (pa_cons (pv 0) pa_nil)))) (pg_name (i := 2) sc_safe.nd rfl (Or.inl rfl)) (pss_cons (ps_set (i := 3) sc_safe.nd rfl (Or.inl rfl) (pe_call G_snare_of (hr.mono (by first | decide | omega)) (by rfl) m_snare_of k_snare_of b_snare_of .nil pass0 (pa_cons (pv 0) (pa_cons (pv 2) pa_nil))))
      (pss_cons (ps_if (pt_cmpR op_notN (pv 3) pe_non (nomark _)) (pss_one (ps_ret (pe_tup (pa_cons pe_str (pa_cons (pv 3) pa_nil))))) pss_nil)
      (pss_cons (ps_asg (pv 2) (kgT (K := K) rfl (pg_tup rfl (pgs_cons (pg_name (i := 4) sc_safe.nd rfl (Or.inl rfl)) (pgs_cons (pg_name (i := 5) sc_safe.nd rfl (Or.inl rfl)) (pgs_cons (pg_name (i := 6) sc_safe.nd rfl (Or.inl rfl)) (pgs_cons (pg_name (i := 7) sc_safe.nd rfl (Or.inl rfl)) pgs_nil)))))))
      (pss_one (ps_if (pt_cmpR op_ne (pv 4) (pv 6) (nomark _)) (pss_one (ps_dput hu (pv 1) (pe_tup (pa_cons (pv 4) (pa_cons (pv 5) pa_nil))) (pe_callTy (tupleK (K := K) rfl) (by rfl) T.n_tuple (by decide +kernel) (pa_cons (pe_call G_come_to (hr.mono (by first | decide | omega)) (by rfl) m_come_to k_come_to b_come_to .nil pass0 (pa_cons (pv 0) (pa_cons (pe_call G_early_aims (hr.mono (by first | decide | omega)) (by rfl) m_early_aims k_early_aims b_early_aims .nil pass0 (pa_cons (pv 0) (pa_cons (pv 6) (pa_cons (pv 7) pa_nil)))) (pa_cons (pe_lst (pa_cons (pv 6) pa_nil)) pa_nil)))) pa_nil)) rfl)) pss_nil))))))
      (pss_one (ps_ret (pe_tup (pa_cons pe_str (pa_cons (pv 1) pa_nil)))))))), ?_⟩
    refine st_start (σ' := [some (.ref S), none, none, none, none, none, none, none]) rfl ?_
    walk_at "S"
    refine ⟨S, kvs, st, rfl, PL, fun H1 k1 => ?_⟩
    have PL1 := PL.same k1
    walk_at "S"
    intro L hL
    have k2 := kp_new (o := .dT []) hL
    have hL0 : H L = none := k1.free trivial hL
    have e2 : upd H1 L (.dT []) L = some (.dT []) := upd_same
    have kA := k1.tr k2
    have PL2 := PL1.same k2
    generalize upd H1 L (.dT []) = H2 at *
    walk_at "S"
    refine ⟨S, kvs, st, rfl, PL2, fun H3 p xs k3 hp ep dx => ?_⟩
    have e3 := k3.get trivial e2
    have kB := kA.tr k3
    have npL : p ≠ L := fun e => by rw [e, e2] at hp; cases hp
    walk_at "S"
    refine ⟨⟨_, sq_l ep⟩, ?_⟩
    have okd : ∀ d ∈ allDraws st (srt (keysS st)), DwOk st d := fun d hd => DwOk.of PL.ok (fun z hz => (srt_perm _).mem_iff.mp hz) hd
    have pw := draws_pw (st := st) ((srt_perm (keysS st)).nodup_iff.mpr PL.ok.nd)
    have lds : (allDraws st (srt (keysS st))).length ≤ 640 := by
      refine Nat.le_trans (allDraws_len PL.ok _ fun z hz => (srt_perm _).mem_iff.mp hz) ?_
      rw [(srt_perm _).length_eq]
      have := PL.ok.few
      have : (keysS st).length = st.length := List.length_map ..
      omega
    generalize allDraws st (srt (keysS st)) = ds at *
    have lxs : xs.length = ds.length := by rw [HL.DpAll.len dx, List.length_map]
    refine for_go (walk_list (K := K) (a := p) (xs := xs)) (fun i σ Hi => ∃ (lkv : List (List Key × V)) (o2 o3 o4 o5 o6 o7 : Option V), σ = [some (.ref S), some (.ref L), o2, o3, o4, o5, o6, o7] ∧ Kp [] H Hi ∧ Kp [L] H3 Hi ∧ TupK H3 Hi ∧ LotsAt K Hi L st lkv ((ds.take i).filter otherD) ∧ ∀ d ∈ ds.take i, SafeD st d)
      ⟨[], _, _, _, _, _, _, rfl, kB, Kp.refl, TupK.same Kp.refl, ⟨e3, .nil⟩, fun d hd => nomatch hd⟩ (fun i σ Hi _ I => by obtain ⟨_, _, _, _, _, _, _, rfl, _, k, _⟩ := I; exact sq_l (k.get ⟨npL, trivial⟩ ep)) (fun i x σ Ha Hb hi I y => ?_) fun σ Hb I => ?_
    · obtain ⟨rfl, hx⟩ := y
      obtain ⟨lkv, o2, o3, o4, o5, o6, o7, rfl, kI, kL, tI, LA, sf⟩ := I
      obtain ⟨e, ee, de⟩ := dpAll_get dx hx
      rw [List.getElem?_map] at ee
      obtain ⟨d, ed, rfl⟩ := Option.map_eq_some_iff.mp ee
      have md := List.mem_of_getElem? ed
      have ok := okd d md
      have de := Dp.tups tI _ _ (by rfl) de
      obtain ⟨t, rfl, sq⟩ := dw_sq de
      walk_at "S"
      refine ⟨S, t, kvs, st, d, rfl, PL.same kI, sq, ok, fun hs H5 k5 => ?_, fun H5 f fs sts sn k5 nf ef df => ?_⟩
      · have tk5 : TupK H3 H5 := tI.trans (TupK.same k5)
        have kL5 : Kp [L] H3 H5 := kL.tr (Kp.nil_W k5)
        have LA5 : LotsAt K H5 L st lkv ((ds.take i).filter otherD) := ⟨k5.get trivial LA.1, Paired.mapP LA.2 fun q d ⟨e, t, et, s⟩ => ⟨e, t, et, k5.seqT trivial s⟩⟩
        have kI5 := kI.tr k5
        have sq5 := k5.seqT trivial sq
        have PL5 := PL.same kI5
        have sf5 : ∀ d' ∈ ds.take (i + 1), SafeD st d' := fun d' hd' => by
          rw [take_put ed] at hd'
          rcases List.mem_append.mp hd' with hd' | hd'
          · exact sf d' hd'
          · rw [List.mem_singleton.mp hd']; exact hs
        have fput := congrArg (List.filter otherD) (take_put ed)
        rw [List.filter_append] at fput
        have fresh : keyD2 d ∉ ((ds.take i).filter otherD).map keyD2 := fun hm => by
          obtain ⟨d', hd', e'⟩ := List.mem_map.mp hm
          obtain ⟨j, hj, ej⟩ := List.mem_take_iff_getElem.mp (List.mem_filter.mp hd').1
          obtain ⟨li, ei⟩ := List.getElem?_eq_some_iff.mp ed
          have := List.pairwise_iff_getElem.mp pw j i (by omega) li (by omega)
          rw [ej, ei] at this
          injection e' with h1 h2
          injection h2 with h2 _
          exact this ⟨Sum.inr.inj h1, Int.ofNat.inj (Sum.inl.inj h2)⟩
        have lfd : ((ds.take i).filter otherD).length ≤ 640 := by
          refine Nat.le_trans (List.length_filter_le _ _) ?_
          rw [List.length_take]
          omega
        obtain ⟨c, k0, m, y⟩ := d
        have sq5 : SqT K H5 t [.str c, .int (k0 : Nat), .str m, .str y] := sq5
        have okm : m ∈ keysS st := ok.m
        have oky : y ∈ (bodyS st m).map bndR := ok.y
        walk_at "S"
        rw [if_neg (by simp)]
        walk_at "S"
        by_cases cm : c = m
        · rw [if_neg (by simp [cm])]
          walk_at "S"
          rw [List.filter_cons_of_neg (by simp [otherD, cm]), List.filter_nil, List.append_nil] at fput
          exact ⟨lkv, _, _, _, _, _, _, rfl, kI5, kL5, tk5, by rw [fput]; exact LA5, sf5⟩
        · rw [if_pos (by simp [cm])]
          rw [List.filter_cons_of_pos (by simp [otherD, cm]), List.filter_nil] at fput
          walk_at "S"
          refine ⟨S, kvs, st, m, y, rfl, PL5, okm, oky, fun H6 l k6 nl el => ?_⟩
          walk_at "S"
          refine ⟨small_le (by simp), fun wl hwl => ?_⟩
          have k7 := kp_new (o := .lst [.str m]) hwl
          walk_at "S"
          refine ⟨S, l, wl, kvs, st, _, [m], rfl, (PL5.same k6).same k7, sq_l (k7.get trivial el), sq_l upd_same, (early_keys PL.ok okm).1, (early_keys PL.ok okm).2, fun H8 p8 k8 np8 ep8 => ?_⟩
          walk_at "S"
          refine ⟨p8, _, rfl, .inl ⟨sq_l ep8, fun t9 ht9 => ?_⟩⟩
          have k9 := kp_new (o := .tup ((comeL st [m] (earlyL st m y)).map V.str)) ht9
          have s9 : SqT K (upd H8 t9 (.tup ((comeL st [m] (earlyL st m y)).map V.str))) t9 ((lotL st m y).map V.str) := sq_t upd_same
          have kk := k6.tr (k7.tr (k8.tr k9))
          generalize upd H8 t9 (.tup ((comeL st [m] (earlyL st m y)).map V.str)) = H9 at *
          walk_at "S"
          refine ⟨small_le (by simp), fun t10 ht10 => ?_⟩
          have k10 := kp_new (o := .tup [.str c, .int (k0 : Nat)]) ht10
          have et10 : upd H9 t10 (.tup [.str c, .int (k0 : Nat)]) t10 = some (.tup ((keyD2 (c, k0, m, y)).map kV)) := upd_same
          have s10 := k10.seqT trivial s9
          have kk := kk.tr k10
          generalize upd H9 t10 (.tup [.str c, .int (k0 : Nat)]) = H10 at *
          have LA10 : LotsAt K H10 L st lkv ((ds.take i).filter otherD) := ⟨kk.get trivial LA5.1, Paired.mapP LA5.2 fun q d ⟨e, t, et, s⟩ => ⟨e, t, et, kk.seqT trivial s⟩⟩
          have kI10 := kI5.tr kk
          have kL10 := kL5.tr (Kp.nil_W kk)
          have tk10 := tk5.trans (TupK.same kk)
          have ll : lkv.length = ((ds.take i).filter otherD).length := Paired.length LA10.2
          have keys : lkv.map (·.1) = ((ds.take i).filter otherD).map keyD2 := by
            have all : ∀ (xs : List (List Key × V)) (ys : List Dw), Paired (fun (q : List Key × V) (d : Dw) => q.1 = keyD2 d ∧ ∃ t, q.2 = V.ref t ∧ SqT K H10 t ((lotL st d.2.2.1 d.2.2.2).map V.str)) xs ys → xs.map (·.1) = ys.map keyD2 := fun xs ys h => by
              induction h with
              | nil => rfl
              | cons h _ ih => rw [List.map_cons, List.map_cons, h.1, ih]
            exact all _ _ LA10.2
          walk_at "S"
          refine ⟨L, _, rfl, DPut.t LA10.1 et10 (small_lt (by omega)), ?_⟩
          rw [putT_new (by rw [keys]; exact fresh)]
          have tkL : TupK H10 (upd H10 L (.dT (lkv ++ [(keyD2 (c, k0, m, y), .ref t9)]))) := .of (W := [L]) (Kp.refl.upd_mem List.mem_cons_self) fun x hx => by
            rw [List.mem_singleton.mp hx]
            intro ys r
            rcases r with r | ⟨o', r⟩ <;> rw [LA10.1] at r <;> cases r
          exact ⟨_, _, _, _, _, _, _, rfl, kI10.upd_loc hL0, kL10.upd_mem List.mem_cons_self, tk10.trans tkL, by
            rw [fput]
            exact ⟨upd_same, Paired.snoc (Paired.mapP LA10.2 fun q d ⟨e, t, et, s⟩ => ⟨e, t, et, seqT_tups tkL s⟩) ⟨rfl, t9, rfl, seqT_tups tkL s10⟩⟩, sf5⟩
      · walk_at "S"
        rw [if_pos (by simp)]
        walk_at "S"
        refine ⟨small_le (by simp), fun t2 ht2 => ?_⟩
        have k9 := kp_new (o := .tup [.str "unsafe", .ref f]) ht2
        exact q1 _ t2 f fs d sts md sn (kI.tr (k5.tr k9)) ((kI.tr k5).free trivial ht2) (kI.free trivial nf) upd_same (k9.get trivial ef) (Dp.sameAll k9 _ _ df)
    · obtain ⟨lkv, o2, o3, o4, o5, o6, o7, rfl, kI, kL, tI, LA, sf⟩ := I
      rw [List.take_of_length_le (by omega)] at LA sf
      walk_at "S"
      refine ⟨small_le (by simp), fun t2 ht2 => ?_⟩
      have k9 := kp_new (o := .tup [.str "safe", .ref L]) ht2
      exact q2 sf _ t2 L lkv (kI.tr k9) (kI.free trivial ht2) hL0 upd_same ⟨k9.get trivial LA.1, Paired.mapP LA.2 fun q d ⟨e, t, et, s⟩ => ⟨e, t, et, k9.seqT trivial s⟩⟩
end

theorem lot_keys {st : Shelf} (P : PlainS st) {m y : Str} : ∀ z ∈ lotL st m y, z ∈ keysS st := fun z hz => comeL_sub z hz
theorem srt_sorted (ks : List Str) : sortedS (srt ks) = true := by
  have ex : ∃ ys : List Str, ys.Perm ks ∧ sortedS ys = true := by
    refine ⟨ks.mergeSort fun a b => decide (¬ tl b < tl a), List.mergeSort_perm _ _, ?_⟩
    have pw := List.pairwise_mergeSort (le := fun a b : Str => decide (¬ tl b < tl a)) (by
      intro x y z hxy hyz
      simp only [decide_eq_true_eq] at *
      exact List.not_lt.mpr (List.le_trans (List.not_lt.mp hxy) (List.not_lt.mp hyz))) (by
      intro x y
      simp only [Bool.or_eq_true, decide_eq_true_eq]
      rcases List.le_total (tl x) (tl y) with c | c
      · exact .inl (List.not_lt.mpr c)
      · exact .inr (List.not_lt.mpr c)) ks
    refine sortedS_of_pairwise _ (pw.imp fun {a b} h => ?_)
    rw [ltCps_eq]
    exact decide_eq_false (of_decide_eq_true h)
  obtain ⟨ys, p, s⟩ := ex
  rw [← srt_eq p s]
  exact s
theorem srt_self {l : List Str} (h : l.Nodup) (s : sortedS l = true) : srt (miL l) = l := (srt_eq ((List.perm_ext_iff_of_nodup h (miL_nd _)).mpr fun z => miL_mem.symm) s).symm
theorem lot_srt {st : Shelf} (P : PlainS st) {m y : Str} : srt (miL (lotL st m y)) = lotL st m y := srt_self (comeL_nd P) (srt_sorted _)
theorem lot_early {st : Shelf} (P : PlainS st) {m y : Str} (hm : m ∈ keysS st) {a : Str} (h : a ∈ aimsL ((bodyS st m).take (fstR (bodyS st m) y + 1))) (na : a ≠ m) : a ∈ lotL st m y :=
  (lot_mem P hm).mpr (.start (List.mem_filter.mpr ⟨h, by simpa using na⟩) (by simpa using na))
theorem lot_on {st : Shelf} (P : PlainS st) {m y : Str} (hm : m ∈ keysS st) {z a : Str} (hz : z ∈ lotL st m y) (h : a ∈ aimsL (bodyS st z)) (na : a ≠ m) : a ∈ lotL st m y :=
  (lot_mem P hm).mpr (.step ((lot_mem P hm).mp hz) (body_key P (lot_keys P z hz)) h (by simpa using na))
def spLFits (K : PySem.W.Frag) : Sp := fun vs H Q _ => ∃ (S tl td : Addr) (kvs : List (Key × V)) (st : Shelf) (d : Dw), vs = [.ref S, .ref tl, .ref td] ∧ Plain K H S kvs st ∧ SqT K H tl ((lotL st d.2.2.1 d.2.2.2).map V.str) ∧ SqT K H td (dwV d) ∧ DwOk st d ∧ d.1 ∉ lotL st d.2.2.1 d.2.2.2 ∧ ∀ H', Kp [] H H' → Q (.bl true) H'
section
variable {P : Program} {w : World} {K : PySem.W.Frag} {mg : Str → Option Value} {base : Heap}
theorem ok_l_fits {f : Addr} {fd : FuncData} (F : Fun K "_law_fits" "_law_fits" s_l_fits f fd) (T : Txt K mg )
    (D_l_aims : DnF P w K mg base 1 "_law_aims" ["_law_rows"] (spLAims K)) (D_l_first : DnF P w K mg base 1 "_law_first" ["_law_body", "_law_name_here"] (spLFirst K)) :
    FnOk P w K mg base CX0 2 f fd ["_law_stock_here", "_law_lot", "_law_draw_here"] (spLFits K) := by
  refine F.ok sc_l_fits (fun vs H Q E h => ?_) (fun cdv A outer s H vs Q E hr h => ?_)
  · obtain ⟨S, tl, td, kvs, st, d, rfl, _⟩ := h
    rfl
  · obtain ⟨f_l_aims, fd_l_aims, G_l_aims, m_l_aims, k_l_aims, b_l_aims⟩ := D_l_aims; obtain ⟨f_l_first, fd_l_first, G_l_first, m_l_first, k_l_first, b_l_first⟩ := D_l_first
    obtain ⟨S, tl, td, kvs, st, d, rfl, PL, sq, sd, ok, nc, q⟩ := h
    have hu := hu_of hr
    refine ⟨_, (pss_cons (ps_asg (pv 2) (kgT (K := K) rfl (pg_tup rfl (pgs_cons (pg_name (i := 3) sc_l_fits.nd rfl (Or.inl rfl)) (pgs_cons (pg_name (i := 4) sc_l_fits.nd rfl (Or.inl rfl)) (pgs_cons (pg_name (i := 5) sc_l_fits.nd rfl (Or.inr rfl)) (pgs_cons (pg_name (i := 6) sc_l_fits.nd rfl (Or.inl rfl)) pgs_nil)))))))
      (pss_cons (ps_if (PW.pt (pw_or (pt_not (pt_val (pe_callB (isiK (K := K) rfl) (by rfl) T.n_isinstance (by decide +kernel) (pa_cons (pv 1) (pa_cons (pe_bltn (v := .ty "tuple") (by rfl) T.n_tuple (by decide +kernel) rfl) pa_nil))))) (pw_or (pt_cmpR (neNilK (K := K) rfl hr.units) (pe_lc (own := [("_law_name_here", 8)]) (g := gName 8) rfl sc_l_fits.nd (kiT (K := K) rfl (pi_tup (pv 1))) (blkOk_by (own := [("_law_name_here", 8)]) (N := N_l_fits) (sc := (defScope s_l_fits)) (by decide +kernel)) (fun _ _ _ _ _ => (pg_name (i := 8) sc_l_fits.nd rfl (Or.inl rfl))) (fun _ _ _ _ _ => (pts_one (pt_cmp (pc_dnotin hu (pv 8) (pv 0))))) (fun _ _ _ _ _ => (pv 8))) (pe_lst pa_nil) (nomark _)) (pw_or1 (pt_cmpR (inK (K := K) rfl) (pv 3) (pv 1) (by rfl)))))) (pss_one (ps_ret pe_bl)) pss_nil)
      (pss_cons (ps_if (pt_cmpR (neDK (K := K) rfl hr.units) (pe_callTy (listK (K := K) rfl) (by rfl) T.n_list (by decide +kernel) (pa_cons (pv 1) pa_nil)) (pe_sortedSet (K := K) rfl rfl (by rfl) T.n_sorted (by rfl) T.n_set (pv 1)) (nomark _)) (pss_one (ps_ret pe_bl)) pss_nil)
      (pss_cons (ps_set (i := 7) sc_l_fits.nd rfl (Or.inl rfl) (pe_call G_l_aims (hr.mono (by first | decide | omega)) (by rfl) m_l_aims k_l_aims b_l_aims .nil pass0 (pa_cons (pe_slice sl_tupA (pe_dget hu (pv 0) (pv 5) (fun _ _ => rfl)) po_none (po_some (pe_op op_add (pe_call G_l_first (hr.mono (by first | decide | omega)) (by rfl) m_l_first k_l_first b_l_first .nil pass0 (pa_cons (pe_dget hu (pv 0) (pv 5) (fun _ _ => rfl)) (pa_cons (pv 6) pa_nil))) pe_int))) pa_nil)))
      (pss_cons (ps_for PassesOwn.never rfl (kiT (K := K) rfl (pi_tup (pv 1))) (pg_name (i := 8) sc_l_fits.nd rfl (Or.inl rfl)) (pss_one (ps_set (i := 7) sc_l_fits.nd rfl (Or.inl rfl) (pe_op op_cat (pv 7) (pe_call G_l_aims (hr.mono (by first | decide | omega)) (by rfl) m_l_aims k_l_aims b_l_aims .nil pass0 (pa_cons (pe_dget hu (pv 0) (pv 8) (fun _ _ => rfl)) pa_nil))))))
      (pss_one (ps_ret (pe_cmpR (eqNilK (K := K) rfl hr.units) (pe_lc (own := [("_law_aim", 9)]) (g := gName 9) rfl sc_l_fits.nd (kiL (K := K) rfl (pi_list (pv 7))) (blkOk_by (own := [("_law_aim", 9)]) (N := N_l_fits) (sc := (defScope s_l_fits)) (by decide +kernel)) (fun _ _ _ _ _ => (pg_name (i := 9) sc_l_fits.nd rfl (Or.inl rfl))) (fun _ _ _ _ _ => (pts_one (PW.pt (pw_and (pt_cmpR op_ne (pv 9) (pv 5) (nomark _)) (pw_and1 (pt_cmpR (ninK (K := K) rfl) (pv 9) (pv 1) (by rfl))))))) (fun _ _ _ _ _ => (pv 9))) (pe_lst pa_nil) (nomark _))))))))), ?_⟩
    refine st_start (σ' := [some (.ref S), some (.ref tl), some (.ref td), none, none, none, none, none, none, none]) rfl ?_
    obtain ⟨c, k0, m, y⟩ := d
    have sd : SqT K H td [.str c, .int (k0 : Nat), .str m, .str y] := sd
    have okm : m ∈ keysS st := ok.m
    have oky : y ∈ (bodyS st m).map bndR := ok.y
    have nc : c ∉ lotL st m y := nc
    have sq : SqT K H tl ((lotL st m y).map V.str) := sq
    have q : ∀ H', Kp [] H H' → Q (.bl true) H' := q
    have zk := lot_keys PL.ok (m := m) (y := y)
    have zs_srt := lot_srt PL.ok (m := m) (y := y)
    have ze := @lot_early st PL.ok m y okm
    have zo := @lot_on st PL.ok m y okm
    have lz : (lotL st m y).length ≤ 16 := comeL_len PL.ok
    generalize lotL st m y = zs at *
    walk_at "S"
    refine isi_ty (t := "tuple") (b := true) (Dp.ty (.tup sq (dpStrs zs))) (by decide +kernel) ?_
    walk_at "S"
    refine ⟨⟨_, sq⟩, fun D hD => ?_⟩
    have LC : LcOk D (zs.map V.str).length (fun i => []) [] H (fun _ _ => True) := ⟨small_le (by rw [List.length_map]; omega), rfl, fun i hi => Nat.zero_le _, hD, trivial, fun _ _ _ h => h⟩
    refine lc_go (walk_tup (K := K) (a := tl) (xs := zs.map V.str)) LC trivial (fun Hq kq => kq.seqT trivial sq) (fun i x Ha Hb hi Ib y => ?_) fun H4 I4 => ?_
    · obtain ⟨rfl, hx⟩ := y
      have hi' := hi
      rw [List.length_map] at hi'
      have ez := List.getElem?_eq_getElem hi'
      generalize zs[i] = z at ez
      rw [List.getElem?_map, ez] at hx
      obtain rfl : V.str z = x := Option.some.inj hx
      have PLi := PL.same Ib.2.1
      walk_at "S"
      refine ⟨rfl, ?_⟩
      walk_at "S"
      refine s_inR PLi.at_.rd ?_
      rw [key_val PLi.at_, decide_eq_true (zk z (List.mem_of_getElem? ez))]
      walk_at "S"
      refine Ib.skip LC rfl Kp.refl trivial
    · obtain ⟨x4, k4, _⟩ := I4
      dsimp only at x4
      have sq4 := k4.seqT trivial sq
      have PL4 := PL.same k4
      have sd4 := k4.seqT trivial sd
      walk_at "S"
      refine ⟨small_le (by simp), fun l0 hl0 => ?_⟩
      have k5 := kp_new (o := .lst []) hl0
      have e5 := k5.get trivial x4
      have el0 : upd H4 l0 (.lst []) l0 = some (.lst []) := upd_same
      have sq5 := k5.seqT trivial sq4
      have PL5 := PL4.same k5
      have kA := k4.tr k5
      generalize upd H4 l0 (.lst []) = H5 at *
      refine ⟨D, l0, [], rfl, rfl, sq_l e5, sq_l el0, ?_⟩
      walk_at "S"
      rw [if_neg (by simp)]
      walk_at "S"
      refine ⟨tl, zs.map V.str, rfl, .inr sq5, rfl, flatV_strs _, ?_⟩
      rw [show (if false = true then !inV (.str c) (zs.map V.str) else inV (.str c) (zs.map V.str)) = decide (c ∈ zs) from inV_strs _ _, decide_eq_false nc]
      walk_at "S"
      refine ⟨tl, zs.map V.str, rfl, .inr sq5, fun l1 hl1 => ?_⟩
      have k6 := kp_new (o := .lst (zs.map V.str)) hl1
      have e6 : upd H5 l1 (.lst (zs.map V.str)) l1 = some (.lst (zs.map V.str)) := upd_same
      have sq6 := k6.seqT trivial sq5
      have PL6 := PL5.same k6
      have kB := kA.tr k6
      generalize upd H5 l1 (.lst (zs.map V.str)) = H6 at *
      walk_at "S"
      refine s_sortedSet ?_
      walk_at "S"
      refine ⟨tl, zs, rfl, .inl sq6, by omega, fun ys p pm so hp => ?_⟩
      obtain rfl : ys = srt (miL zs) := srt_eq pm so
      rw [zs_srt]
      have k7 := kp_new (o := .lst (zs.map V.str)) hp
      have sh : SeqAt.shaped (.list (zs.map PyData.str)) = true := ShD.ok (k := 1) (.list fun d hd => by
        obtain ⟨z, hz, rfl⟩ := List.mem_map.mp hd
        exact .nm (key_nmS PL.ok (zk z hz))) (by decide)
      refine s_neD (Dp.lst (sq_l (k7.get trivial e6)) (dpStrs zs)) (Dp.lst (sq_l upd_same) (dpStrs _)) sh sh ?_
      rw [eqv_self sh]
      have sq7 := k7.seqT trivial sq6
      have PL7 := PL6.same k7
      have kC := kB.tr k7
      generalize upd H6 p (.lst (zs.map V.str)) = H7 at *
      have eb := body_key PL.ok okm
      obtain ⟨vb, gv, dvb⟩ := PL7.at_.get eb
      obtain ⟨w1, w2⟩ := PL.ok.pw eb
      obtain ⟨tb, vs, rfl, stb, dvs⟩ : ∃ tb vs, vb = .ref tb ∧ SqT K H7 tb vs ∧ DpAll K H7 vs (rowsD (bodyS st m)) := by
        cases dvb with
        | tup h d => exact ⟨_, _, rfl, h, d⟩
      walk_at "S"
      refine s_getR PL7.at_.rd gv ?_
      walk_at "S"
      refine s_getR PL7.at_.rd gv ?_
      walk_at "S"
      refine ⟨.ref tb, _, y, rfl, w1, by omega, .tup stb dvs, fun H8 k8 => ?_⟩
      have stb8 := k8.seqT trivial stb
      have dvs8 := Dp.sameAll k8 _ _ dvs
      walk_at "S"
      rw [show ((fstR (bodyS st m) y : Nat) : Int) + 1 = ((fstR (bodyS st m) y + 1 : Nat) : Int) by omega]
      refine s_slTake stb8 dvs8 _ fun x H9 k9 dx => ?_
      rw [← List.map_take] at dx
      walk_at "S"
      refine ⟨x, _, rfl, fun r hr => w1 r (List.mem_of_mem_take hr), by rw [List.length_take]; omega, dx, fun H10 dl k10 nl edl => ?_⟩
      have kD := kC.tr (k8.tr (k9.tr k10))
      have sq10 := (k8.tr (k9.tr k10)).seqT trivial sq7
      have PL10 := PL.same kD
      walk_at "S"
      have las : (aimsL ((bodyS st m).take (fstR (bodyS st m) y + 1))).length ≤ 40 := by
        refine Nat.le_trans (List.length_filterMap_le _ _) ?_
        rw [List.length_take]
        omega
      refine ⟨⟨_, sq10⟩, ?_⟩
      refine for_go (walk_tup (K := K) (a := tl) (xs := zs.map V.str)) (fun i σ Hi => ∃ (l : Addr) (as : List Str) (o8 : Option V), σ = [some (.ref S), some (.ref tl), some (.ref td), some (.str c), some (.int (k0 : Nat)), some (.str m), some (.str y), some (.ref l), o8, none] ∧ Kp [] H10 Hi ∧ Hi l = some (.lst (as.map V.str)) ∧ as.length ≤ 40 + 40 * i ∧ ∀ a ∈ as, a ≠ m → a ∈ zs)
        ⟨dl, _, _, rfl, Kp.refl, edl, by omega, fun a ha na => ze ha na⟩ (fun i σ Hi _ I => by obtain ⟨_, _, _, rfl, k, _⟩ := I; exact k.seqT trivial sq10) (fun i x σ Ha Hb hi I y => ?_) fun σ H11 I => ?_
      · obtain ⟨rfl, hx⟩ := y
        obtain ⟨l, as, o8, rfl, kI, el, la, al⟩ := I
        rw [List.length_map] at hi
        have ez := List.getElem?_eq_getElem hi
        generalize zs[i] = z at ez
        rw [List.getElem?_map, ez] at hx
        obtain rfl : V.str z = x := Option.some.inj hx
        have mz := List.mem_of_getElem? ez
        have PLi := PL10.same kI
        have ebz := body_key PL.ok (zk z mz)
        obtain ⟨vz, gz, dz⟩ := PLi.at_.get ebz
        obtain ⟨wz1, wz2⟩ := PL.ok.pw ebz
        walk_at "S"
        refine s_getR PLi.at_.rd gz ?_
        walk_at "S"
        refine ⟨vz, _, rfl, wz1, by omega, dz, fun H12 l2 k12 nl2 el2 => ?_⟩
        have lz2 : (aimsL (bodyS st z)).length ≤ 40 := Nat.le_trans (List.length_filterMap_le _ _) wz2
        have el12 := k12.get trivial el
        walk_at "S"
        refine s_cat el12 el2 (small_le (by rw [List.length_map, List.length_map]; omega)) fun p hp => ?_
        refine ⟨p, as ++ aimsL (bodyS st z), _, rfl, kI.tr (k12.tr (kp_new hp)), by rw [upd_same, List.map_append], by rw [List.length_append]; omega, fun a ha na => ?_⟩
        rcases List.mem_append.mp ha with ha | ha
        · exact al a ha na
        · exact zo mz ha na
      · obtain ⟨l, as, o8, rfl, kI, el, la, al⟩ := I
        rw [List.length_map] at la
        have sq11 := kI.seqT trivial sq10
        walk_at "S"
        refine ⟨⟨_, sq_l el⟩, fun E hE => ?_⟩
        have LC2 : LcOk E (as.map V.str).length (fun i => []) [] H11 (fun _ _ => True) := ⟨small_le (by rw [List.length_map]; omega), rfl, fun i hi => Nat.zero_le _, hE, trivial, fun _ _ _ h => h⟩
        refine lc_go (walk_list (K := K) (a := l) (xs := as.map V.str)) LC2 trivial (fun Hq kq => sq_l (kq.get trivial el)) (fun i x Ha Hb hi Ib y => ?_) fun H12 I12 => ?_
        · obtain ⟨rfl, hx⟩ := y
          have hi' := hi
          rw [List.length_map] at hi'
          have ea := List.getElem?_eq_getElem hi'
          generalize as[i] = a at ea
          rw [List.getElem?_map, ea] at hx
          obtain rfl : V.str a = x := Option.some.inj hx
          walk_at "S"
          refine ⟨rfl, ?_⟩
          walk_at "S"
          by_cases cm : a = m
          · rw [if_neg (by simp [cm])]
            exact Ib.skip LC2 rfl Kp.refl trivial
          · rw [if_pos (by simp [cm])]
            walk_at "S"
            refine ⟨tl, zs.map V.str, rfl, .inr (Ib.2.1.seqT trivial sq11), rfl, flatV_strs _, ?_⟩
            walk_at "S"
            have ma : a ∈ zs := al a (List.mem_of_getElem? ea) cm
            have e0 : (if true = true then !inV (.str a) (zs.map V.str) else inV (.str a) (zs.map V.str)) = false := by
              show (!inV (.str a) (zs.map V.str)) = false
              rw [inV_strs, decide_eq_true ma]
              rfl
            rw [e0]
            rw [if_neg Bool.false_ne_true]
            exact Ib.skip LC2 rfl Kp.refl trivial
        · obtain ⟨x4, k4, _⟩ := I12
          dsimp only at x4
          walk_at "S"
          refine ⟨small_le (by simp), fun l0 hl0 => ?_⟩
          have k5 := kp_new (o := .lst []) hl0
          refine ⟨E, l0, [], rfl, rfl, sq_l (k5.get trivial x4), sq_l upd_same, ?_⟩
          exact q _ (kD.tr (kI.tr (k4.tr k5)))
end

theorem dw_uniq {st : Shelf} {d e : Dw} (hd : DwOk st d) (he : DwOk st e) (k : keyD2 d = keyD2 e) : d = e := by
  obtain ⟨c, q, m, y⟩ := d
  obtain ⟨c', q', m', y'⟩ := e
  injection k with k1 k2
  injection k2 with k2 _
  have hc : c = c' := Sum.inr.inj k1
  have hq : q = q' := Int.ofNat.inj (Sum.inl.inj (show (Sum.inl ((q : Nat) : Int) : Key) = Sum.inl ((q' : Nat) : Int) from k2))
  clear k1 k2
  subst hc
  subst hq
  obtain ⟨x, e1⟩ := hd.row
  obtain ⟨x', e2⟩ := he.row
  have e1 : (bodyS st c)[q]? = some (.draw x m y) := e1
  have e2 : (bodyS st c)[q]? = some (.draw x' m' y') := e2
  rw [e1] at e2
  cases e2
  rfl
theorem lots_get {K : PySem.W.Frag} {H : Hp} {st : Shelf} {ds : List Dw} {lkv : List (List Key × V)} (pr : Paired (fun (q : List Key × V) (d : Dw) => q.1 = keyD2 d ∧ ∃ t, q.2 = V.ref t ∧ SqT K H t ((lotL st d.2.2.1 d.2.2.2).map V.str)) lkv ds) {d : Dw} (m : d ∈ ds) (ok : ∀ e ∈ ds, DwOk st e) :
    ∃ t, valV lkv (keyD2 d) = some (.ref t) ∧ SqT K H t ((lotL st d.2.2.1 d.2.2.2).map V.str) := by
  have okd := ok d m
  induction pr with
  | nil => cases m
  | @cons q e qs es h _ ih =>
    obtain ⟨h1, t, h2, h3⟩ := h
    obtain ⟨k, v⟩ := q
    by_cases c : keyD2 e = keyD2 d
    · obtain rfl := dw_uniq (ok e List.mem_cons_self) okd c
      exact ⟨t, by rw [← h2]; exact valV_pos h1, h3⟩
    · rw [valV_neg (fun x => c (h1 ▸ x))]
      exact ih ((List.mem_cons.mp m).resolve_left fun x => c (by rw [x])) fun e he => ok e (List.mem_cons_of_mem _ he)
abbrev kqD (d : Dw) : PyData := .tuple [.str d.1, .int (d.2.1 : Nat)]
theorem keysD_lots {K : PySem.W.Frag} {H : Hp} {st : Shelf} {ds : List Dw} {lkv : List (List Key × V)} (pr : Paired (fun (q : List Key × V) (d : Dw) => q.1 = keyD2 d ∧ ∃ t, q.2 = V.ref t ∧ SqT K H t ((lotL st d.2.2.1 d.2.2.2).map V.str)) lkv ds) : keysD lkv = ds.map kqD := by
  unfold keysD
  induction pr with
  | nil => rfl
  | cons h _ ih => rw [List.map_cons, List.map_cons, ih, h.1]; rfl
theorem alike_kq (ds : List Dw) : PySem.W.AllAlike (ds.map kqD) := fun d hd d' hd' => by
  obtain ⟨a, _, rfl⟩ := List.mem_map.mp hd
  obtain ⟨b, _, rfl⟩ := List.mem_map.mp hd'
  rfl
theorem sortable_kq (ds : List Dw) : PySem.W.Sortable (ds.map kqD) := .inl fun d hd => by
  obtain ⟨a, _, rfl⟩ := List.mem_map.mp hd
  exact ⟨_, _, rfl⟩
theorem eq_kq {ds : List Dw} : ∀ a ∈ ds.map kqD, ∀ b ∈ ds.map kqD, PyData.eqv a b = true → a = b := fun a ha b hb h => by
  obtain ⟨d, _, rfl⟩ := List.mem_map.mp ha
  obtain ⟨e, _, rfl⟩ := List.mem_map.mp hb
  simp only [kqD, PyData.eqv, PyData.eqvAll, Bool.and_eq_true, beq_iff_eq, Bool.and_true] at h
  obtain ⟨h1, h2⟩ := h
  show PyData.tuple [.str d.1, .int (d.2.1 : Nat)] = .tuple [.str e.1, .int (e.2.1 : Nat)]
  rw [h1, h2]
theorem sh_kq {st : Shelf} (P : PlainS st) {ds : List Dw} (ok : ∀ d ∈ ds, DwOk st d) {es : List PyData} (p : es.Perm (ds.map kqD)) : SeqAt.shaped (.list es) = true := ShD.ok (k := 2) (.list fun d hd => by
  obtain ⟨a, ha, rfl⟩ := List.mem_map.mp (p.mem_iff.mp hd)
  refine .tup fun d hd => ?_
  rcases List.mem_cons.mp hd with rfl | hd
  · exact .nm (key_nmS P (ok a ha).c)
  rw [List.mem_singleton.mp hd]
  exact .int) (by decide)
theorem draws_perm (st : Shelf) : (allDraws st (srt (keysS st))).Perm (allDraws st (keysS st)) := (srt_perm _).flatMap_right _
theorem lotB_lot {st : Shelf} (P : PlainS st) {c m y : Str} (hm : m ∈ keysS st) (h : c ∉ lotL st m y) : lotB st c m y (lotL st m y) = true := by
  unfold lotB tonB keepsB
  simp only [Bool.and_eq_true]
  refine ⟨⟨⟨⟨List.all_eq_true.mpr fun z hz => decide_eq_true (lot_keys P z hz), decide_eq_true (lot_srt P).symm⟩, by simpa using h⟩, List.all_eq_true.mpr fun z hz => List.all_eq_true.mpr fun a ha => ?_⟩, List.all_eq_true.mpr fun a ha => decide_eq_true ?_⟩
  · by_cases e : a = m
    · rw [decide_eq_true e, Bool.or_true]
    · rw [decide_eq_true (lot_on P hm hz ha e), Bool.true_or]
  · obtain ⟨h1, h2⟩ := List.mem_filter.mp ha
    exact lot_early P hm h1 (by simpa using h2)
def spLotsRight (K : PySem.W.Frag) : Sp := fun vs H Q _ => ∃ (S L : Addr) (kvs : List (Key × V)) (st : Shelf) (lkv : List (List Key × V)), vs = [.ref S, .ref L] ∧ Plain K H S kvs st ∧ LotsAt K H L st lkv ((allDraws st (srt (keysS st))).filter otherD) ∧ (∀ d ∈ allDraws st (srt (keysS st)), SafeD st d) ∧ ∀ H', Kp [] H H' → Q (.bl true) H'
section
variable {P : Program} {w : World} {K : PySem.W.Frag} {mg : Str → Option Value} {base : Heap}
theorem ok_l_lots_right {f : Addr} {fd : FuncData} (F : Fun K "_law_lots_right" "_law_lots_right" s_l_lots_right f fd) (T : Txt K mg )
    (D_l_draws : DnF P w K mg base 1 "_law_draws" ["_law_stock_here"] (spLDraws K)) (D_l_first : DnF P w K mg base 1 "_law_first" ["_law_body", "_law_name_here"] (spLFirst K)) (D_l_fits : DnF P w K mg base 2 "_law_fits" ["_law_stock_here", "_law_lot", "_law_draw_here"] (spLFits K)) (D_is_lot : DnF P w K mg base 15 "is_lot" ["stock", "name", "row", "thing"] (spIsLot K)) :
    FnOk P w K mg base CX0 16 f fd ["_law_stock_here", "_law_lots"] (spLotsRight K) := by
  refine F.ok sc_l_lots_right (fun vs H Q E h => ?_) (fun cdv A outer s H vs Q E hr h => ?_)
  · obtain ⟨S, L, kvs, st, lkv, rfl, _⟩ := h
    rfl
  · obtain ⟨f_l_draws, fd_l_draws, G_l_draws, m_l_draws, k_l_draws, b_l_draws⟩ := D_l_draws; obtain ⟨f_l_first, fd_l_first, G_l_first, m_l_first, k_l_first, b_l_first⟩ := D_l_first; obtain ⟨f_l_fits, fd_l_fits, G_l_fits, m_l_fits, k_l_fits, b_l_fits⟩ := D_l_fits; obtain ⟨f_is_lot, fd_is_lot, G_is_lot, m_is_lot, k_is_lot, b_is_lot⟩ := D_is_lot
    obtain ⟨S, L, kvs, st, lkv, rfl, PL, LA, sf, q⟩ := h
    have hu := hu_of hr
    refine ⟨_, (pss_cons (ps_set (i := 2) sc_l_lots_right.nd rfl (Or.inl rfl) (pe_call G_l_draws (hr.mono (by first | decide | omega)) (by rfl) m_l_draws k_l_draws b_l_draws .nil pass0 (pa_cons (pv 0) pa_nil)))
      (pss_cons (ps_set (i := 3) sc_l_lots_right.nd rfl (Or.inl rfl) (pe_callB (sortedDatK (K := K) rfl hr.units) (by rfl) T.n_sorted (by decide +kernel) (pa_cons (pe_lc (own := [("_law_c", 5), ("_law_q", 6), ("_law_m", 7), ("_law_x", 8)]) (g := gTup K 4 (gCons (gName 5) (gCons (gName 6) (gCons (gName 7) (gCons (gName 8) gNil))))) rfl sc_l_lots_right.nd (kiL (K := K) rfl (pi_list (pv 2))) (blkOk_by (own := [("_law_c", 5), ("_law_q", 6), ("_law_m", 7), ("_law_x", 8)]) (N := N_l_lots_right) (sc := (defScope s_l_lots_right)) (by decide +kernel)) (fun _ _ _ _ _ => (kgT (K := K) rfl (pg_tup rfl (pgs_cons (pg_name (i := 5) sc_l_lots_right.nd rfl (Or.inl rfl)) (pgs_cons (pg_name (i := 6) sc_l_lots_right.nd rfl (Or.inl rfl)) (pgs_cons (pg_name (i := 7) sc_l_lots_right.nd rfl (Or.inl rfl)) (pgs_cons (pg_name (i := 8) sc_l_lots_right.nd rfl (Or.inl rfl)) pgs_nil))))))) (fun _ _ _ _ _ => (pts_one (pt_cmpR op_ne (pv 5) (pv 7) (nomark _)))) (fun _ _ _ _ _ => (pe_tup (pa_cons (pv 5) (pa_cons (pv 6) pa_nil))))) pa_nil)))
      (pss_cons (ps_if (PW.pt (pw_or (pt_not (pt_val (pe_callB (isiK (K := K) rfl) (by rfl) T.n_isinstance (by decide +kernel) (pa_cons (pv 1) (pa_cons (pe_bltn (v := .ty "dict") (by rfl) T.n_dict (by decide +kernel) rfl) pa_nil))))) (pw_or1 (pt_cmpR (neDK (K := K) rfl hr.units) (pe_callB (sortedDTK (K := K) rfl rfl hr.units) (by rfl) T.n_sorted (by decide +kernel) (pa_cons (pv 1) pa_nil)) (pv 3) (nomark _))))) (pss_one (ps_ret pe_bl)) pss_nil)
      (pss_cons (ps_for PassesOwn.never rfl (kiL (K := K) rfl (pi_list (pv 2))) (pg_name (i := 4) sc_l_lots_right.nd rfl (Or.inl rfl)) (pss_cons (ps_asg (pv 4) (kgT (K := K) rfl (pg_tup rfl (pgs_cons (pg_name (i := 5) sc_l_lots_right.nd rfl (Or.inl rfl)) (pgs_cons (pg_name (i := 6) sc_l_lots_right.nd rfl (Or.inl rfl)) (pgs_cons (pg_name (i := 7) sc_l_lots_right.nd rfl (Or.inl rfl)) (pgs_cons (pg_name (i := 8) sc_l_lots_right.nd rfl (Or.inl rfl)) pgs_nil)))))))
      (pss_cons (ps_if (PW.pt (pw_and (pt_cmpR op_eq (pv 5) (pv 7) (nomark _)) (pw_and1 (pt_cmpR op_ge (pe_call G_l_first (hr.mono (by first | decide | omega)) (by rfl) m_l_first k_l_first b_l_first .nil pass0 (pa_cons (pe_dget hu (pv 0) (pv 5) (fun _ _ => rfl)) (pa_cons (pv 8) pa_nil))) (pv 6) (nomark _))))) (pss_one (ps_ret pe_bl)) pss_nil)
      (pss_cons (ps_if (PW.pt (pw_and (pt_cmpR op_ne (pv 5) (pv 7) (nomark _)) (pw_and1 (pt_not (pt_val (pe_call G_l_fits (hr.mono (by first | decide | omega)) (by rfl) m_l_fits k_l_fits b_l_fits .nil pass0 (pa_cons (pv 0) (pa_cons (pe_dget hu (pv 1) (pe_tup (pa_cons (pv 5) (pa_cons (pv 6) pa_nil))) (fun _ _ => rfl)) (pa_cons (pv 4) pa_nil))))))))) (pss_one (ps_ret pe_bl)) pss_nil)
      (pss_one (ps_if (PW.pt (pw_and (pt_cmpR op_ne (pv 5) (pv 7) (nomark _)) (pw_and1 (pt_cmpR op_notB (pe_call G_is_lot (hr.mono (by first | decide | omega)) (by rfl) m_is_lot k_is_lot b_is_lot .nil pass0 (pa_cons (pv 0) (pa_cons (pv 5) (pa_cons (pv 6) (pa_cons (pe_dget hu (pv 1) (pe_tup (pa_cons (pv 5) (pa_cons (pv 6) pa_nil))) (fun _ _ => rfl)) pa_nil))))) pe_bl (nomark _))))) (pss_one (ps_ret pe_bl)) pss_nil))))))
      (pss_one (ps_ret pe_bl)))))), ?_⟩
    refine st_start (σ' := [some (.ref S), some (.ref L), none, none, none, none, none, none, none]) rfl ?_
    have okA : ∀ d ∈ allDraws st (srt (keysS st)), DwOk st d := fun d hd => DwOk.of PL.ok (fun z hz => (srt_perm _).mem_iff.mp hz) hd
    have okB : ∀ d ∈ allDraws st (keysS st), DwOk st d := fun d hd => DwOk.of PL.ok (fun z hz => hz) hd
    have dp := draws_perm st
    have lds : (allDraws st (keysS st)).length ≤ 640 := by
      refine Nat.le_trans (allDraws_len PL.ok _ fun z hz => hz) ?_
      have := PL.ok.few
      have : (keysS st).length = st.length := List.length_map ..
      omega
    walk_at "S"
    refine ⟨S, kvs, st, rfl, PL, fun H1 p xs k1 np ep dx => ?_⟩
    generalize allDraws st (srt (keysS st)) = da at *
    generalize allDraws st (keysS st) = ds at *
    have LA1 : LotsAt K H1 L st lkv (da.filter otherD) := ⟨k1.get trivial LA.1, Paired.mapP LA.2 fun q d ⟨e, t, et, s⟩ => ⟨e, t, et, k1.seqT trivial s⟩⟩
    walk_at "S"
    refine ⟨⟨_, sq_l ep⟩, fun E hE => ?_⟩
    have lxs : xs.length = ds.length := by rw [HL.DpAll.len dx, List.length_map]
    refine lc_goH (walk_list (K := K) (a := p) (xs := xs)) (W := []) (PL := fun i ys H' => DpAll K H' ys (((ds.take i).filter otherD).map kqD)) hE .nil (fun Hq kq => sq_l (kq.get trivial ep)) (fun i x Ha Hb hi Ib y => ?_) fun H4 I4 => ?_
    · obtain ⟨rfl, hx⟩ := y
      obtain ⟨ys, ey, dy, ly, kI⟩ := Ib
      obtain ⟨e, ee, de⟩ := dpAll_get dx hx
      rw [List.getElem?_map] at ee
      obtain ⟨d, ed, rfl⟩ := Option.map_eq_some_iff.mp ee
      have de := Dp.same kI _ _ de
      obtain ⟨t, rfl, sq⟩ := dw_sq de
      have fput := congrArg (List.filter otherD) (take_put ed)
      rw [List.filter_append] at fput
      obtain ⟨c, k0, m, y⟩ := d
      have sq : SqT K _ t [.str c, .int (k0 : Nat), .str m, .str y] := sq
      have flat : ∀ es : List Dw, flatAll (es.map kqD) = true := fun es => flatAll_of fun x hx => by
        obtain ⟨d, _, rfl⟩ := List.mem_map.mp hx
        rfl
      walk_at "S"
      refine ⟨rfl, ?_⟩
      walk_at "S"
      by_cases cm : c = m
      · rw [if_neg (by simp [cm])]
        rw [List.filter_cons_of_neg (by simp [otherD, cm]), List.filter_nil, List.append_nil] at fput
        exact ⟨ys, ey, (by show DpAll K _ ys (((ds.take (i + 1)).filter otherD).map kqD); rw [fput]; exact dy), by omega, kI⟩
      · rw [if_pos (by simp [cm])]
        rw [List.filter_cons_of_pos (by simp [otherD, cm]), List.filter_nil] at fput
        walk_at "S"
        refine ⟨small_le (by simp), fun t2 ht2 => ?_⟩
        have k2 := kp_new (o := .tup [.str c, .int (k0 : Nat)]) ht2
        have s2 : SqT K (upd Hb t2 (.tup [.str c, .int (k0 : Nat)])) t2 [.str c, .int (k0 : Nat)] := sq_t upd_same
        have d2 := Dp.sameAll k2 _ _ dy
        have ey2 := k2.get trivial ey
        generalize upd Hb t2 (.tup [.str c, .int (k0 : Nat)]) = Hc at *
        refine LcInvH.put ey ly kI hE trivial k2 (small_lt (by omega)) ?_
        have tk : TupK Hc (upd Hc E (.lst (ys ++ [.ref t2]))) := TupK.lst ey2
        rw [fput, List.map_append]
        exact DpAll.snoc (Dp.tupsAll tk _ _ (flat _) d2) (.tup (seqT_tups tk s2) (.cons (.str _) (.cons (.int _) .nil)))
    · obtain ⟨ys, ey, dy, ly, k4⟩ := I4
      rw [List.take_of_length_le (by omega)] at dy
      have LA4 : LotsAt K H4 L st lkv (da.filter otherD) := ⟨k4.get trivial LA1.1, Paired.mapP LA1.2 fun q d ⟨e, t, et, s⟩ => ⟨e, t, et, k4.seqT trivial s⟩⟩
      have dep : ∀ (es : List Dw), ∀ x ∈ es.map kqD, x.depth ≤ 50 := fun es x hx => by
        obtain ⟨d, _, rfl⟩ := List.mem_map.mp hx
        simp only [kqD, PyData.depth, PyData.depthAll]
        omega
      walk_at "S"
      refine ⟨E, ys, _, rfl, sq_l ey, dy, alike_kq _, sortable_kq _, dep _, fun p2 zs hp2 pm2 dz => ?_⟩
      have k5 := kp_new (o := .lst zs) hp2
      have e5 : upd H4 p2 (.lst zs) p2 = some (.lst zs) := upd_same
      have LA5 : LotsAt K (upd H4 p2 (.lst zs)) L st lkv (da.filter otherD) := ⟨k5.get trivial LA4.1, Paired.mapP LA4.2 fun q d ⟨e, t, et, s⟩ => ⟨e, t, et, k5.seqT trivial s⟩⟩
      have kA := k1.tr (k4.tr k5)
      have ep5 := (k4.tr k5).get trivial ep
      have dx5 := Dp.sameAll (k4.tr k5) _ _ dx
      generalize upd H4 p2 (.lst zs) = H5 at *
      walk_at "S"
      refine isi_ty (t := "dict") (b := true) (.base (.dT LA5.1)) (by decide +kernel) ?_
      walk_at "S"
      have eK := keysD_lots LA5.2
      refine ⟨L, lkv, rfl, .inl LA5.1, by rw [eK]; exact alike_kq _, by rw [eK]; exact sortable_kq _, by rw [eK]; exact dep _, fun p3 us hp3 lu du => ?_⟩
      rw [eK, sortD_of ((dp.filter _).map kqD) (alike_kq _) eq_kq] at du
      have k6 := kp_new (o := .lst us) hp3
      have shp : SeqAt.shaped (.list (sortD ((ds.filter otherD).map kqD))) = true := sh_kq PL.ok (fun d hd => okB d (List.mem_filter.mp hd).1) (sortD_perm _)
      walk_at "S"
      refine s_neD (Dp.lst (sq_l upd_same) du) (Dp.lst (sq_l (k6.get trivial e5)) (Dp.sameAll k6 _ _ dz)) shp shp ?_
      rw [eqv_self shp]
      have kB := kA.tr k6
      have LA6 : LotsAt K (upd H5 p3 (.lst us)) L st lkv (da.filter otherD) := ⟨k6.get trivial LA5.1, Paired.mapP LA5.2 fun q d ⟨e, t, et, s⟩ => ⟨e, t, et, k6.seqT trivial s⟩⟩
      have ep6 := k6.get trivial ep5
      have dx6 := Dp.sameAll k6 _ _ dx5
      generalize upd H5 p3 (.lst us) = H6 at *
      walk_at "S"
      refine ⟨⟨_, sq_l ep6⟩, ?_⟩
      refine for_go (walk_list (K := K) (a := p) (xs := xs)) (fun i σ Hi => ∃ (o4 o5 o6 o7 o8 : Option V), σ = [some (.ref S), some (.ref L), some (.ref p), some (.ref p2), o4, o5, o6, o7, o8] ∧ Kp [] H6 Hi)
        ⟨_, _, _, _, _, rfl, Kp.refl⟩ (fun i σ Hi _ I => by obtain ⟨_, _, _, _, _, rfl, k⟩ := I; exact sq_l (k.get trivial ep6)) (fun i x σ Ha Hb hi I y => ?_) fun σ H7 I => ?_
      · obtain ⟨rfl, hx⟩ := y
        obtain ⟨o4, o5, o6, o7, o8, rfl, kI⟩ := I
        obtain ⟨e, ee, de⟩ := dpAll_get dx6 hx
        rw [List.getElem?_map] at ee
        obtain ⟨d, ed, rfl⟩ := Option.map_eq_some_iff.mp ee
        have md := List.mem_of_getElem? ed
        have mda := dp.mem_iff.mpr md
        have ok := okB d md
        have sd := sf d mda
        have de := Dp.same kI _ _ de
        obtain ⟨t, rfl, sq⟩ := dw_sq de
        have LAi : LotsAt K Hb L st lkv (da.filter otherD) := ⟨kI.get trivial LA6.1, Paired.mapP LA6.2 fun q d ⟨e, t, et, s⟩ => ⟨e, t, et, kI.seqT trivial s⟩⟩
        have lot : d.1 ≠ d.2.2.1 → ∃ t, valV lkv (keyD2 d) = some (.ref t) ∧ SqT K Hb t ((lotL st d.2.2.1 d.2.2.2).map V.str) := fun cm => lots_get LAi.2 (List.mem_filter.mpr ⟨mda, by simp [otherD, cm]⟩) fun e he => okA e (List.mem_filter.mp he).1
        obtain ⟨c, k0, m, y⟩ := d
        have sq' : SqT K Hb t [.str c, .int (k0 : Nat), .str m, .str y] := sq
        have okc : c ∈ keysS st := ok.c
        have okm : m ∈ keysS st := ok.m
        have PLi := PL.same (kB.tr kI)
        walk_at "S"
        by_cases cm : c = m
        · subst cm
          rw [if_pos (by simp)]
          have eb := body_key PL.ok okc
          obtain ⟨vb, gv, dvb⟩ := PLi.at_.get eb
          obtain ⟨w1, w2⟩ := PL.ok.pw eb
          walk_at "S"
          refine s_getR PLi.at_.rd gv ?_
          walk_at "S"
          refine ⟨vb, _, y, rfl, w1, by omega, dvb, fun H8 k8 => ?_⟩
          walk_at "S"
          have h1 : fstR (bodyS st c) y < k0 := sd.1 rfl
          rw [if_neg (by rw [decide_eq_true_eq]; omega)]
          walk_at "S"
          rw [if_neg (by simp)]
          walk_at "S"
          rw [if_neg (by simp)]
          walk_at "S"
          exact ⟨_, _, _, _, _, rfl, kI.tr k8⟩
        · rw [if_neg (by simp [cm])]
          obtain ⟨tl, gl, sl⟩ := lot cm
          walk_at "S"
          rw [if_pos (by simp [cm])]
          walk_at "S"
          refine ⟨small_le (by simp), fun t2 ht2 => ?_⟩
          have k2 := kp_new (o := .tup [.str c, .int (k0 : Nat)]) ht2
          refine ⟨L, .ref tl, rfl, gl ▸ DGet.t (k := keyD2 (c, k0, m, y)) (k2.get trivial LAi.1) upd_same, ?_⟩
          walk_at "S"
          refine ⟨S, tl, t, kvs, st, (c, k0, m, y), rfl, PLi.same k2, k2.seqT trivial sl, k2.seqT trivial sq, ok, sd.2 cm, fun H9 k9 => ?_⟩
          have k29 := k2.tr k9
          walk_at "S"
          rw [if_pos (by simp [cm])]
          walk_at "S"
          refine ⟨small_le (by simp), fun t3 ht3 => ?_⟩
          have k3 := kp_new (o := .tup [.str c, .int (k0 : Nat)]) ht3
          refine ⟨L, .ref tl, rfl, gl ▸ DGet.t (k := keyD2 (c, k0, m, y)) (k3.get trivial (k29.get trivial LAi.1)) upd_same, ?_⟩
          walk_at "S"
          have k30 := k29.tr k3
          refine ⟨S, tl, kvs, st, lotL st m y, (c, k0, m, y), rfl, PLi.same k30, k30.seqT trivial sl, by have := comeL_len (ws := [m]) (as := earlyL st m y) PL.ok; unfold lotL; omega, ok, fun H10 k10 => ?_⟩
          rw [show lotB st c m y (lotL st m y) = true from lotB_lot PL.ok okm (sd.2 cm)]
          walk_at "S"
          refine ⟨true, true, rfl, rfl, ?_⟩
          walk_at "S"
          exact ⟨_, _, _, _, _, rfl, kI.tr (k30.tr k10)⟩
      · obtain ⟨o4, o5, o6, o7, o8, rfl, kI⟩ := I
        walk_at "S"
        exact q _ (kB.tr kI)
end

def spLaw (K : PySem.W.Frag) : Sp := fun vs H Q _ => ∃ (a : Addr) (ns : List Int), vs = [.ref a] ∧ SqL K H a (ns.map V.int) ∧ ns.length ≤ 63 ∧ ∀ H', Q (.bl true) H'
section
variable {P : Program} {w : World} {K : PySem.W.Frag} {mg : Str → Option Value} {base : Heap}
theorem ok_law {f : Addr} {fd : FuncData} (F : Fun K "law" "law" s_law f fd) (T : Txt K mg )
    (D_l_stock : DnF P w K mg base 4 "_law_stock" ["_law_script"] (spStock K)) (D_safe : DnF P w K mg base 15 "safe" ["stock"] (spSafe K)) (D_l_lots_right : DnF P w K mg base 16 "_law_lots_right" ["_law_stock_here", "_law_lots"] (spLotsRight K)) :
    FnOk P w K mg base CX0 17 f fd ["_law_script"] (spLaw K) := by
  refine F.ok sc_law (fun vs H Q E h => ?_) (fun cdv A outer s H vs Q E hr h => ?_)
  · obtain ⟨a, ns, rfl, _⟩ := h
    rfl
  · obtain ⟨f_l_stock, fd_l_stock, G_l_stock, m_l_stock, k_l_stock, b_l_stock⟩ := D_l_stock; obtain ⟨f_safe, fd_safe, G_safe, m_safe, k_safe, b_safe⟩ := D_safe; obtain ⟨f_l_lots_right, fd_l_lots_right, G_l_lots_right, m_l_lots_right, k_l_lots_right, b_l_lots_right⟩ := D_l_lots_right
    have hu := hu_of hr
    obtain ⟨a, ns, rfl, hs, hn, q⟩ := h
    refine ⟨_, (pss_cons (ps_set (i := 1) sc_law.nd rfl (Or.inl rfl) (pe_call G_l_stock (hr.mono (by first | decide | omega)) (by rfl) m_l_stock k_l_stock b_l_stock .nil pass0 (pa_cons (pv 0) pa_nil)))
      (pss_cons (ps_set (i := 2) sc_law.nd rfl (Or.inl rfl) (LiI.pe_listItems rfl (pv 1) (by rfl) T.n_list (by decide +kernel)))
      (pss_cons (ps_for PassesOwn.never rfl (pi_range1 rfl T.n_range (pa_cons pe_int pa_nil)) (pg_name (i := 3) sc_law.nd rfl (Or.inl rfl)) (pss_cons (ps_set (i := 4) sc_law.nd rfl (Or.inl rfl) (pe_call G_safe (hr.mono (by first | decide | omega)) (by rfl) m_safe k_safe b_safe .nil pass0 (pa_cons (pv 1) pa_nil)))
      (pss_cons (ps_if (PW.pt (pw_or (pt_not (pt_val (pe_callB (isiK (K := K) rfl) (by rfl) T.n_isinstance (by decide +kernel) (pa_cons (pv 4) (pa_cons (pe_bltn (v := .ty "tuple") (by rfl) T.n_tuple (by decide +kernel) rfl) pa_nil))))) (pw_or (pt_cmpR op_ne (pe_callB (lenK (K := K) rfl) (by rfl) T.n_len (by decide +kernel) (pa_cons (pv 4) pa_nil)) pe_int (nomark _)) (pw_or1 (pt_cmpR (ninK (K := K) rfl) (pe_ix (ixTK (K := K) rfl) (pv 4) pe_int (fun _ _ => rfl)) (pe_tup (pa_cons pe_str (pa_cons pe_str pa_nil))) (by rfl)))))) (pss_one (ps_ret pe_bl)) pss_nil)
      (pss_one (ps_if (pt_cmpR op_eq (pe_ix (ixTK (K := K) rfl) (pv 4) pe_int (fun _ _ => rfl)) pe_str (nomark _)) (pss_cons (ps_if (pt_not (pt_val (pe_call G_l_lots_right (hr.mono (by first | decide | omega)) (by rfl) m_l_lots_right k_l_lots_right b_l_lots_right .nil pass0 (pa_cons (pv 1) (pa_cons (pe_ix (ixTK (K := K) rfl) (pv 4) pe_int (fun _ _ => rfl)) pa_nil))))) (pss_one (ps_ret pe_bl)) pss_nil)
      (pss_one (ps_expr (kBM0 (K := K) rfl (pe_tclear (pe_ix (ixTK (K := K) rfl) (pv 4) pe_int (fun _ _ => rfl))))))) pss_nil)))))
      (pss_one (ps_ret (pe_and (pe_cmpR (eqDK (K := K) rfl hr.units) (LiI.pe_listItems rfl (pv 1) (by rfl) T.n_list (by decide +kernel)) (pv 2) (nomark _)) (pe_one (pe_cmpR (eqEmpK (K := K) rfl hr.units) (pe_call G_safe (hr.mono (by first | decide | omega)) (by rfl) m_safe k_safe b_safe .nil pass0 (pa_cons pe_dnewK pa_nil)) (pe_tup (pa_cons pe_str (pa_cons pe_dnewK pa_nil))) (nomark _))))))))), ?_⟩
    refine st_start (σ' := [some (.ref a), none, none, none, none]) rfl ?_
    walk_at "S"
    refine ⟨a, ns, rfl, hs, fun H0 S kvs st k0 nS eS PL l1 => ?_⟩
    clear k0 nS hs
    walk_at "S"
    refine ⟨.ref S, rfl, S, kvs, rfl, eS, fun H1 pk ts k01 npk _ _ epk pr => ?_⟩
    have PL1 : Plain K H1 S kvs st := PL.same fun b o _ h => k01 b o h
    have dpk : Dp K H1 (.ref pk) (keptD st) := dp_kept epk pr PL1.at_.nm
    have eS1 : H1 S = some (.dK kvs) := k01 _ _ eS
    clear k01 npk epk pr eS
    walk_at "S"
    refine ⟨by omega, by omega, ?_⟩
    refine for_go walk_range (fun i σ Hi => ∃ (o3 o4 : Option V), σ = [some (.ref a), some (.ref S), some (.ref pk), o3, o4] ∧ Kp [] H1 Hi)
      ⟨none, none, rfl, .refl⟩ (fun i σ Hi _ I => trivial) (fun i x σ Ha Hc hi I y => ?_) fun σ H9 I => ?_
    · obtain ⟨rfl, rfl⟩ := y
      obtain ⟨o3, o4, rfl, kI⟩ := I
      have PLi := PL1.same kI
      walk_at "S"
      refine ⟨S, kvs, st, rfl, PLi, fun H2 t f xs d sts md sn k2 nt nf et ef df => ?_, fun sf H2 t L lkv k2 nt nL et LA => ?_⟩
      · walk_at "S"
        refine isi_ty (t := "tuple") (b := true) (.base (.tup et)) (by decide +kernel) ?_
        walk_at "S"
        rw [if_neg (by simp)]
        walk_at "S"
        refine ⟨small_le (by simp), fun t2 ht2 => ?_⟩
        have k3 := kp_new (o := .tup [.str "safe", .str "unsafe"]) ht2
        walk_at "S"
        refine ⟨t2, (["safe", "unsafe"] : List Str).map V.str, rfl, .inr (sq_t upd_same), rfl, flatV_strs _, ?_⟩
        have et3 := k3.get trivial et
        refine ⟨_, rfl, ?_⟩
        rw [if_neg (by decide +kernel)]
        walk_at "S"
        rw [if_neg (by decide +kernel)]
        walk_at "S"
        exact ⟨_, _, rfl, kI.tr (k2.tr k3)⟩
      · walk_at "S"
        refine isi_ty (t := "tuple") (b := true) (.base (.tup et)) (by decide +kernel) ?_
        walk_at "S"
        rw [if_neg (by simp)]
        walk_at "S"
        refine ⟨small_le (by simp), fun t2 ht2 => ?_⟩
        have k3 := kp_new (o := .tup [.str "safe", .str "unsafe"]) ht2
        walk_at "S"
        refine ⟨t2, (["safe", "unsafe"] : List Str).map V.str, rfl, .inr (sq_t upd_same), rfl, flatV_strs _, ?_⟩
        have et3 := k3.get trivial et
        have LA3 : LotsAt K (upd H2 t2 (.tup [.str "safe", .str "unsafe"])) L st lkv ((allDraws st (srt (keysS st))).filter otherD) := ⟨k3.get trivial LA.1, Paired.mapP LA.2 fun q d ⟨e, t, et, s⟩ => ⟨e, t, et, k3.seqT trivial s⟩⟩
        have PL3 := (PLi.same k2).same k3
        have kB := kI.tr (k2.tr k3)
        have nL1 : H1 L = none := kI.free trivial nL
        refine ⟨_, rfl, ?_⟩
        rw [if_neg (by decide +kernel)]
        generalize upd H2 t2 (.tup [.str "safe", .str "unsafe"]) = H3 at *
        walk_at "S"
        rw [if_pos (by decide +kernel)]
        walk_at "S"
        refine ⟨S, L, kvs, st, lkv, rfl, PL3, LA3, sf, fun H5 k5 => ?_⟩
        have e5 := k5.get trivial LA3.1
        have et5 := k5.get trivial et3
        walk_at "S"
        refine ⟨.inr (.inr (.inl ⟨rfl, .inr ⟨_, e5⟩⟩)), L, lkv, rfl, rfl, e5, ?_⟩
        exact ⟨_, _, rfl, (kB.tr k5).upd_loc nL1⟩
    · obtain ⟨o3, o4, rfl, kI⟩ := I
      have dpk9 := Dp.same kI _ _ dpk
      have eS9 := kI.get trivial eS1
      have PL9 := PL1.same kI
      walk_at "S"
      refine ⟨.ref S, rfl, S, kvs, rfl, eS9, fun H12 pk2 ts2 k12 npk2 _ _ epk2 pr2 => ?_⟩
      have k12 : Kp [] H9 H12 := fun b o _ h => k12 b o h
      have dpk2 := dp_kept epk2 pr2 (PL9.same k12).at_.nm
      walk_at "S"
      refine s_eqD dpk2 (Dp.same k12 _ _ dpk9) (shaped_kept PL.ok) (shaped_kept PL.ok) ?_
      rw [eqv_self (shaped_kept PL.ok)]
      walk_at "S"
      intro p3 hp3
      have k13 := kp_new (o := .dK []) hp3
      have e13 : upd H12 p3 (.dK []) p3 = some (.dK []) := upd_same
      generalize upd H12 p3 (.dK []) = H13 at *
      walk_at "S"
      refine ⟨p3, [], [], rfl, ⟨⟨.inl e13, .nil⟩, ⟨.nil, (fun e he => nomatch he), (fun e he => nomatch he), (fun e he => nomatch he), Nat.zero_le _⟩⟩, fun H14 t f xs d sts md => ?_, fun sf H14 t L lkv k14 nt nL et LA => ?_⟩
      · have : srt (keysS ([] : Shelf)) = [] := (srt_perm _).eq_nil
        rw [this] at md
        exact nomatch md
      · have e0 : lkv = [] := by
          have := Paired.length LA.2
          have e1 : srt (keysS ([] : Shelf)) = [] := (srt_perm _).eq_nil
          rw [e1] at this
          exact List.eq_nil_of_length_eq_zero this
        subst e0
        walk_at "S"
        intro p4 hp4
        have k15 := kp_new (o := .dK []) hp4
        have e15 : upd H14 p4 (.dK []) p4 = some (.dK []) := upd_same
        walk_at "S"
        refine ⟨small_le (by simp), fun p5 hp5 => ?_⟩
        have k16 := kp_new (o := .tup [.str "safe", .ref p4]) hp5
        exact ⟨t, p5, "safe", L, p4, rfl, rfl, sq_t ((k15.tr k16).get trivial et), sq_t upd_same, .inl ((k15.tr k16).get trivial LA.1), .inr (k16.get trivial e15), q _⟩
end

local macro_rules | `(tactic| walk_at "N") => `(tactic| first
  | with_reducible assumption
  | (apply Ne.symm; with_reducible assumption)
  | (refine' ne_of_none (H := ?H0) ?h1 ?h2; (case h2 => with_reducible assumption); (case h1 => walk_at "L"))
  | (apply Ne.symm; refine' ne_of_none (H := ?H0) ?h1 ?h2; (case h2 => with_reducible assumption); (case h1 => walk_at "L"))
  | fail "no")
local macro_rules | `(tactic| walk_at "M") => `(tactic| first
  | exact trivial
  | exact True.intro
  | (refine ⟨?_, ?_⟩; (walk_at "N"); (walk_at "M"))
  | fail "no")
local macro_rules | `(tactic| walk_at "L") => `(tactic| first
  | with_reducible assumption
  | with_reducible exact upd_same
  | ((with_reducible refine' (upd_ne ?n1).trans ?l1); (case n1 => walk_at "N"); (case l1 => walk_at "L"))
  | ((with_reducible refine' Kp.get ?k1 ?m1 ?l1); (case k1 => with_reducible assumption); (case l1 => walk_at "L"); (case m1 => walk_at "M"))
  | fail "no")
local macro_rules | `(tactic| walk_at "Q") => `(tactic| first
  | with_reducible assumption
  | ((with_reducible refine' sq_l ?e1); (case e1 => walk_at "L"))
  | ((with_reducible refine' sq_t ?e1); (case e1 => walk_at "L"))
  | ((with_reducible refine' Kp.seqL ?k1 ?m1 ?l1); (case k1 => with_reducible assumption); (case l1 => walk_at "Q"); (case m1 => walk_at "M"))
  | fail "no")
local macro_rules | `(tactic| walk_at "K") => `(tactic| first
  | with_reducible assumption
  | with_reducible exact Kp.refl
  | ((with_reducible refine' Kp.upd_mem ?k1 ?m1); (case m1 => simp only [List.mem_cons, true_or, or_true]); (case k1 => walk_at "K"))
  | ((with_reducible refine' Kp.upd_new ?k1 ?m1); (case m1 => with_reducible assumption); (case k1 => walk_at "K"))
  | ((with_reducible refine' Kp.upd_loc ?k1 ?m1); (case m1 => with_reducible assumption); (case k1 => walk_at "K"))
  | ((with_reducible refine' Kp.step ?k1 ?k2 ?m1); (case k2 => with_reducible assumption); (case m1 => (intro z hz; first | exact (List.not_mem_nil hz).elim | exact .inl hz | (simp only [List.mem_cons, List.not_mem_nil, or_false] at hz ⊢; first | (left; assumption) | (subst hz; first | (left; rfl) | (right; assumption))))); (case k1 => walk_at "K"))
  | fail "no")
local macro_rules | `(tactic| walk_at "C") => `(tactic| first | decide | assumption | omega | (show (0 : Int) < _; omega) | exact ⟨by decide, by decide⟩ | exact ⟨by omega, by omega⟩ | (left; exact ⟨by omega, by omega⟩) | (right; exact ⟨by omega, by omega⟩) | fail "no")
local macro_rules | `(tactic| walk_at "S1") => `(tactic| first
  | ((with_reducible refine' s_var ?h1 ?_); (case h1 => exact rfl))
  | with_reducible refine' s_c ?_
  | with_reducible refine' s_op ?_
  | with_reducible refine' s_un ?_
  | with_reducible refine' s_nil ?_
  | with_reducible refine' s_cons ?_
  | with_reducible refine' s_cb ?_
  | with_reducible refine' s_call ?_
  | with_reducible refine' s_test ?_
  | with_reducible refine' s_B ?_
  | with_reducible refine' s_and ?_
  | with_reducible refine' s_or ?_
  | with_reducible refine' s_not ?_
  | with_reducible refine' s_andV ?_
  | with_reducible refine' s_orV ?_
  | with_reducible refine' s_notV ?_
  | with_reducible refine' s_ifE ?_
  | with_reducible refine' s_chain ?_
  | with_reducible refine' s_tup ?_
  | with_reducible refine' s_lst ?_
  | with_reducible refine' s_sl ?_
  | with_reducible refine' s_noPart ?_
  | with_reducible refine' s_part ?_
  | with_reducible refine' s_fld ?_
  | with_reducible refine' s_bm ?_
  | with_reducible refine' s_bm0 ?_
  | with_reducible refine' s_m1 ?_
  | with_reducible refine' s_m0 ?_
  | with_reducible refine' s_seq ?_
  | with_reducible refine' s_next ?_
  | with_reducible refine' s_asg ?_
  | with_reducible refine' s_gname ?_
  | with_reducible refine' s_drop ?_
  | with_reducible refine' s_ret ?_
  | with_reducible refine' s_retN ?_
  | with_reducible refine' s_ifS ?_
  | with_reducible refine' s_gsub ?_
  | with_reducible refine' s_par ?_
  | with_reducible refine' s_bl ?_
  | with_reducible refine' s_iStr ?_
  | with_reducible refine' s_iList ?_
  | with_reducible refine' s_iTup ?_
  | with_reducible refine' s_iRng1 ?_
  | with_reducible refine' s_str ?_
  | with_reducible refine' s_ref ?_
  | with_reducible refine' s_yes ?_
  | with_reducible refine' s_for ?_
  | with_reducible refine' s_lc ?_
  | with_reducible refine' i_T ?_
  | with_reducible refine' i_F ?_
  | with_reducible refine' i_nT ?_
  | with_reducible refine' i_nF ?_
  | with_reducible refine' s_int ?_
  | with_reducible refine' s_ints2 ?_
  | with_reducible refine' s_ints1 ?_
  | with_reducible refine' s_strs1 ?_
  | with_reducible refine' s_vals2 ?_
  | with_reducible refine' s_vals3 ?_
  | ((with_reducible refine' s_gtup ?h1 ?l1 ?_); (case h1 => walk_at "Q"); (case l1 => exact rfl))
  | with_reducible refine' s_gcons ?_
  | with_reducible refine' s_gnil ?_
  | with_reducible refine' s_par3 ?_
  | with_reducible refine' s_ex ?_
  | with_reducible refine' s_I0 ?_
  | ((with_reducible refine' s_I ?c1 ?_); (case c1 => walk_at "C"))
  | ((with_reducible refine' s_eq ?h1 ?_); (case h1 => exact rfl))
  | ((with_reducible refine' s_ne ?h1 ?_); (case h1 => exact rfl))
  | ((with_reducible refine' s_ixL ?h1 ?a1 ?_); (case h1 => walk_at "Q"); (case a1 => exact rfl))
  | ((with_reducible refine' s_ixT ?h1 ?a1 ?_); (case h1 => walk_at "Q"); (case a1 => exact rfl))
  | ((with_reducible refine' s_setL ?h1 ?a1 ?_); (case h1 => walk_at "L"); (case a1 => exact rfl))
  | ((with_reducible refine' s_lenL ?h1 ?_); (case h1 => walk_at "Q"))
  | ((with_reducible refine' s_lenT ?h1 ?_); (case h1 => walk_at "Q"))
  | ((with_reducible refine' s_lenStr ?h1 ?_); (case h1 => assumption))
  | ((with_reducible refine' s_slL ?h1 ?_); (case h1 => walk_at "Q"))
  | ((with_reducible refine' s_slS ?h1 ?_); (case h1 => assumption))
  | with_reducible refine' s_U ?_
  | ((with_reducible refine' s_tyL ?h1 ?_); (case h1 => walk_at "L"))
  | with_reducible refine' s_inSg ?_
  | with_reducible refine' s_nn ?_
  | with_reducible refine' s_meth ?_
  | with_reducible refine' s_make ?_
  | with_reducible refine' s_dnew ?_
  | with_reducible refine' s_dget ?_
  | with_reducible refine' s_din ?_
  | with_reducible refine' s_dnotin ?_
  | with_reducible refine' s_dput ?_
  | with_reducible refine' s_dget1 ?_
  | with_reducible refine' s_sfld ?_
  | with_reducible refine' s_revL ?_
  | with_reducible refine' s_iZip3 ?_
  | with_reducible refine' s_iRng2 ?_
  | dsimp only
  | fail "no")
local macro_rules | `(tactic| walk_at "S") => `(tactic| repeat walk_at "S1")

theorem all_mk {l : PySem.W.OpenLaw} {w : World} {K : PySem.W.Frag} {h : Heap} {mg : Str → Option Value} {fa : Addr} (X : K.In h) (G : h.Ns mainGlobals mg) (hfa : mg "law" = some (.ref fa))
    {od_is_name an_is_name od_is_path an_is_path od_is_whole an_is_whole od_is_word an_is_word od_are_words an_are_words od_is_bare an_is_bare od_is_row_within an_is_row_within od_are_rows an_are_rows od_counted an_counted od_is_body an_is_body od_bound_by an_bound_by od_aim_of an_aim_of od_aims_of an_aims_of od_first_row an_first_row od_may_stand an_may_stand od_is_plain an_is_plain od_want_plain an_want_plain od_come_to an_come_to od_draws_of an_draws_of od_early_aims an_early_aims od_is_tuple_of_names an_is_tuple_of_names od_keeps_in an_keeps_in od_is_lot an_is_lot od_steps_from an_steps_from od_snare_of an_snare_of od_safe an_safe od_l_at an_l_at od_l_pot an_l_pot od_l_draw an_l_draw od_l_name an_l_name od_l_number an_l_number od_l_plan an_l_plan od_l_drawable an_l_drawable od_l_row an_l_row od_l_stock an_l_stock od_l_aims an_l_aims od_l_first an_l_first od_l_draws an_l_draws od_l_fits an_l_fits od_l_lots_right an_l_lots_right od_law an_law : Option Addr} {sl_is_name sl_is_path sl_is_whole sl_is_word sl_are_words sl_is_bare sl_is_row_within sl_are_rows sl_counted sl_is_body sl_bound_by sl_aim_of sl_aims_of sl_first_row sl_may_stand sl_is_plain sl_want_plain sl_come_to sl_draws_of sl_early_aims sl_is_tuple_of_names sl_keeps_in sl_is_lot sl_steps_from sl_snare_of sl_safe sl_l_at sl_l_pot sl_l_draw sl_l_name sl_l_number sl_l_plan sl_l_drawable sl_l_row sl_l_stock sl_l_aims sl_l_first sl_l_draws sl_l_fits sl_l_lots_right sl_law : Array (Option Value)} {oc_is_name kV_is_name dc_is_name pm_is_name cd_is_name ct_is_name oc_is_path kV_is_path dc_is_path pm_is_path cd_is_path ct_is_path oc_is_whole kV_is_whole dc_is_whole pm_is_whole cd_is_whole ct_is_whole oc_is_word kV_is_word dc_is_word pm_is_word cd_is_word ct_is_word oc_are_words kV_are_words dc_are_words pm_are_words cd_are_words ct_are_words oc_is_bare kV_is_bare dc_is_bare pm_is_bare cd_is_bare ct_is_bare oc_is_row_within kV_is_row_within dc_is_row_within pm_is_row_within cd_is_row_within ct_is_row_within oc_are_rows kV_are_rows dc_are_rows pm_are_rows cd_are_rows ct_are_rows oc_counted kV_counted dc_counted pm_counted cd_counted ct_counted oc_is_body kV_is_body dc_is_body pm_is_body cd_is_body ct_is_body oc_bound_by kV_bound_by dc_bound_by pm_bound_by cd_bound_by ct_bound_by oc_aim_of kV_aim_of dc_aim_of pm_aim_of cd_aim_of ct_aim_of oc_aims_of kV_aims_of dc_aims_of pm_aims_of cd_aims_of ct_aims_of oc_first_row kV_first_row dc_first_row pm_first_row cd_first_row ct_first_row oc_may_stand kV_may_stand dc_may_stand pm_may_stand cd_may_stand ct_may_stand oc_is_plain kV_is_plain dc_is_plain pm_is_plain cd_is_plain ct_is_plain oc_want_plain kV_want_plain dc_want_plain pm_want_plain cd_want_plain ct_want_plain oc_come_to kV_come_to dc_come_to pm_come_to cd_come_to ct_come_to oc_draws_of kV_draws_of dc_draws_of pm_draws_of cd_draws_of ct_draws_of oc_early_aims kV_early_aims dc_early_aims pm_early_aims cd_early_aims ct_early_aims oc_is_tuple_of_names kV_is_tuple_of_names dc_is_tuple_of_names pm_is_tuple_of_names cd_is_tuple_of_names ct_is_tuple_of_names oc_keeps_in kV_keeps_in dc_keeps_in pm_keeps_in cd_keeps_in ct_keeps_in oc_is_lot kV_is_lot dc_is_lot pm_is_lot cd_is_lot ct_is_lot oc_steps_from kV_steps_from dc_steps_from pm_steps_from cd_steps_from ct_steps_from oc_snare_of kV_snare_of dc_snare_of pm_snare_of cd_snare_of ct_snare_of oc_safe kV_safe dc_safe pm_safe cd_safe ct_safe oc_l_at kV_l_at dc_l_at pm_l_at cd_l_at ct_l_at oc_l_pot kV_l_pot dc_l_pot pm_l_pot cd_l_pot ct_l_pot oc_l_draw kV_l_draw dc_l_draw pm_l_draw cd_l_draw ct_l_draw oc_l_name kV_l_name dc_l_name pm_l_name cd_l_name ct_l_name oc_l_number kV_l_number dc_l_number pm_l_number cd_l_number ct_l_number oc_l_plan kV_l_plan dc_l_plan pm_l_plan cd_l_plan ct_l_plan oc_l_drawable kV_l_drawable dc_l_drawable pm_l_drawable cd_l_drawable ct_l_drawable oc_l_row kV_l_row dc_l_row pm_l_row cd_l_row ct_l_row oc_l_stock kV_l_stock dc_l_stock pm_l_stock cd_l_stock ct_l_stock oc_l_aims kV_l_aims dc_l_aims pm_l_aims cd_l_aims ct_l_aims oc_l_first kV_l_first dc_l_first pm_l_first cd_l_first ct_l_first oc_l_draws kV_l_draws dc_l_draws pm_l_draws cd_l_draws ct_l_draws oc_l_fits kV_l_fits dc_l_fits pm_l_fits cd_l_fits ct_l_fits oc_l_lots_right kV_l_lots_right dc_l_lots_right pm_l_lots_right cd_l_lots_right ct_l_lots_right oc_law kV_law dc_law pm_law cd_law ct_law : Value}
    {f_is_name f_is_path f_is_whole f_is_word f_are_words f_is_bare f_is_row_within f_are_rows f_counted f_is_body f_bound_by f_aim_of f_aims_of f_first_row f_may_stand f_is_plain f_want_plain f_come_to f_draws_of f_early_aims f_is_tuple_of_names f_keeps_in f_is_lot f_steps_from f_snare_of f_safe f_l_at f_l_pot f_l_draw f_l_name f_l_number f_l_plan f_l_drawable f_l_row f_l_stock f_l_aims f_l_first f_l_draws f_l_fits f_l_lots_right f_law : Addr}
    {t_MOST_LETTERS t_LETTERS t_DOT t_MOST_NAMES t_MOST_ROWS t_MOST_TRIES : Tok}
    {a_FAULT_WORDS : Addr} {o_FAULT_WORDS : Obj} {i_FAULT_WORDS : Array Value} {e_FAULT_WORDS : Nat}
    {a_LEADING : Addr} {o_LEADING : Obj} {i_LEADING : Array Value} {e_LEADING : Nat}
    {a_BINDING : Addr} {o_BINDING : Obj} {i_BINDING : Array Value} {e_BINDING : Nat}
    {a_AIMING_WORDS : Addr} {o_AIMING_WORDS : Obj} {i_AIMING_WORDS : Array Value} {e_AIMING_WORDS : Nat}
    {a_PLAIN_WORDS : Addr} {o_PLAIN_WORDS : Obj} {i_PLAIN_WORDS : Array Value} {e_PLAIN_WORDS : Nat}
    (a_is_name : PySem.W.nsIn K mainGlobals "is_name" = some (some (.ref f_is_name))) (l_is_name : K.lookup f_is_name = some ⟨oc_is_name, od_is_name, .func (PySem.W.fnOf "is_name" "is_name" (defArgs s_is_name) (defBody s_is_name) (defScope s_is_name) .none kV_is_name dc_is_name pm_is_name an_is_name cd_is_name ct_is_name), sl_is_name⟩) (c_is_name : PySem.W.codeIn K cd_is_name "is_name" = true) (k_is_name : PySem.W.keepIn K (.ref f_is_name) = true)
    (a_is_path : PySem.W.nsIn K mainGlobals "is_path" = some (some (.ref f_is_path))) (l_is_path : K.lookup f_is_path = some ⟨oc_is_path, od_is_path, .func (PySem.W.fnOf "is_path" "is_path" (defArgs s_is_path) (defBody s_is_path) (defScope s_is_path) .none kV_is_path dc_is_path pm_is_path an_is_path cd_is_path ct_is_path), sl_is_path⟩) (c_is_path : PySem.W.codeIn K cd_is_path "is_path" = true) (k_is_path : PySem.W.keepIn K (.ref f_is_path) = true)
    (a_is_whole : PySem.W.nsIn K mainGlobals "is_whole" = some (some (.ref f_is_whole))) (l_is_whole : K.lookup f_is_whole = some ⟨oc_is_whole, od_is_whole, .func (PySem.W.fnOf "is_whole" "is_whole" (defArgs s_is_whole) (defBody s_is_whole) (defScope s_is_whole) .none kV_is_whole dc_is_whole pm_is_whole an_is_whole cd_is_whole ct_is_whole), sl_is_whole⟩) (c_is_whole : PySem.W.codeIn K cd_is_whole "is_whole" = true) (k_is_whole : PySem.W.keepIn K (.ref f_is_whole) = true)
    (a_is_word : PySem.W.nsIn K mainGlobals "is_word" = some (some (.ref f_is_word))) (l_is_word : K.lookup f_is_word = some ⟨oc_is_word, od_is_word, .func (PySem.W.fnOf "is_word" "is_word" (defArgs s_is_word) (defBody s_is_word) (defScope s_is_word) .none kV_is_word dc_is_word pm_is_word an_is_word cd_is_word ct_is_word), sl_is_word⟩) (c_is_word : PySem.W.codeIn K cd_is_word "is_word" = true) (k_is_word : PySem.W.keepIn K (.ref f_is_word) = true)
    (a_are_words : PySem.W.nsIn K mainGlobals "are_words" = some (some (.ref f_are_words))) (l_are_words : K.lookup f_are_words = some ⟨oc_are_words, od_are_words, .func (PySem.W.fnOf "are_words" "are_words" (defArgs s_are_words) (defBody s_are_words) (defScope s_are_words) .none kV_are_words dc_are_words pm_are_words an_are_words cd_are_words ct_are_words), sl_are_words⟩) (c_are_words : PySem.W.codeIn K cd_are_words "are_words" = true) (k_are_words : PySem.W.keepIn K (.ref f_are_words) = true)
    (a_is_bare : PySem.W.nsIn K mainGlobals "is_bare" = some (some (.ref f_is_bare))) (l_is_bare : K.lookup f_is_bare = some ⟨oc_is_bare, od_is_bare, .func (PySem.W.fnOf "is_bare" "is_bare" (defArgs s_is_bare) (defBody s_is_bare) (defScope s_is_bare) .none kV_is_bare dc_is_bare pm_is_bare an_is_bare cd_is_bare ct_is_bare), sl_is_bare⟩) (c_is_bare : PySem.W.codeIn K cd_is_bare "is_bare" = true) (k_is_bare : PySem.W.keepIn K (.ref f_is_bare) = true)
    (a_is_row_within : PySem.W.nsIn K mainGlobals "is_row_within" = some (some (.ref f_is_row_within))) (l_is_row_within : K.lookup f_is_row_within = some ⟨oc_is_row_within, od_is_row_within, .func (PySem.W.fnOf "is_row_within" "is_row_within" (defArgs s_is_row_within) (defBody s_is_row_within) (defScope s_is_row_within) .none kV_is_row_within dc_is_row_within pm_is_row_within an_is_row_within cd_is_row_within ct_is_row_within), sl_is_row_within⟩) (c_is_row_within : PySem.W.codeIn K cd_is_row_within "is_row_within" = true) (k_is_row_within : PySem.W.keepIn K (.ref f_is_row_within) = true)
    (a_are_rows : PySem.W.nsIn K mainGlobals "are_rows" = some (some (.ref f_are_rows))) (l_are_rows : K.lookup f_are_rows = some ⟨oc_are_rows, od_are_rows, .func (PySem.W.fnOf "are_rows" "are_rows" (defArgs s_are_rows) (defBody s_are_rows) (defScope s_are_rows) .none kV_are_rows dc_are_rows pm_are_rows an_are_rows cd_are_rows ct_are_rows), sl_are_rows⟩) (c_are_rows : PySem.W.codeIn K cd_are_rows "are_rows" = true) (k_are_rows : PySem.W.keepIn K (.ref f_are_rows) = true)
    (a_counted : PySem.W.nsIn K mainGlobals "counted" = some (some (.ref f_counted))) (l_counted : K.lookup f_counted = some ⟨oc_counted, od_counted, .func (PySem.W.fnOf "counted" "counted" (defArgs s_counted) (defBody s_counted) (defScope s_counted) .none kV_counted dc_counted pm_counted an_counted cd_counted ct_counted), sl_counted⟩) (c_counted : PySem.W.codeIn K cd_counted "counted" = true) (k_counted : PySem.W.keepIn K (.ref f_counted) = true)
    (a_is_body : PySem.W.nsIn K mainGlobals "is_body" = some (some (.ref f_is_body))) (l_is_body : K.lookup f_is_body = some ⟨oc_is_body, od_is_body, .func (PySem.W.fnOf "is_body" "is_body" (defArgs s_is_body) (defBody s_is_body) (defScope s_is_body) .none kV_is_body dc_is_body pm_is_body an_is_body cd_is_body ct_is_body), sl_is_body⟩) (c_is_body : PySem.W.codeIn K cd_is_body "is_body" = true) (k_is_body : PySem.W.keepIn K (.ref f_is_body) = true)
    (a_bound_by : PySem.W.nsIn K mainGlobals "bound_by" = some (some (.ref f_bound_by))) (l_bound_by : K.lookup f_bound_by = some ⟨oc_bound_by, od_bound_by, .func (PySem.W.fnOf "bound_by" "bound_by" (defArgs s_bound_by) (defBody s_bound_by) (defScope s_bound_by) .none kV_bound_by dc_bound_by pm_bound_by an_bound_by cd_bound_by ct_bound_by), sl_bound_by⟩) (c_bound_by : PySem.W.codeIn K cd_bound_by "bound_by" = true) (k_bound_by : PySem.W.keepIn K (.ref f_bound_by) = true)
    (a_aim_of : PySem.W.nsIn K mainGlobals "aim_of" = some (some (.ref f_aim_of))) (l_aim_of : K.lookup f_aim_of = some ⟨oc_aim_of, od_aim_of, .func (PySem.W.fnOf "aim_of" "aim_of" (defArgs s_aim_of) (defBody s_aim_of) (defScope s_aim_of) .none kV_aim_of dc_aim_of pm_aim_of an_aim_of cd_aim_of ct_aim_of), sl_aim_of⟩) (c_aim_of : PySem.W.codeIn K cd_aim_of "aim_of" = true) (k_aim_of : PySem.W.keepIn K (.ref f_aim_of) = true)
    (a_aims_of : PySem.W.nsIn K mainGlobals "aims_of" = some (some (.ref f_aims_of))) (l_aims_of : K.lookup f_aims_of = some ⟨oc_aims_of, od_aims_of, .func (PySem.W.fnOf "aims_of" "aims_of" (defArgs s_aims_of) (defBody s_aims_of) (defScope s_aims_of) .none kV_aims_of dc_aims_of pm_aims_of an_aims_of cd_aims_of ct_aims_of), sl_aims_of⟩) (c_aims_of : PySem.W.codeIn K cd_aims_of "aims_of" = true) (k_aims_of : PySem.W.keepIn K (.ref f_aims_of) = true)
    (a_first_row : PySem.W.nsIn K mainGlobals "first_row" = some (some (.ref f_first_row))) (l_first_row : K.lookup f_first_row = some ⟨oc_first_row, od_first_row, .func (PySem.W.fnOf "first_row" "first_row" (defArgs s_first_row) (defBody s_first_row) (defScope s_first_row) .none kV_first_row dc_first_row pm_first_row an_first_row cd_first_row ct_first_row), sl_first_row⟩) (c_first_row : PySem.W.codeIn K cd_first_row "first_row" = true) (k_first_row : PySem.W.keepIn K (.ref f_first_row) = true)
    (a_may_stand : PySem.W.nsIn K mainGlobals "may_stand" = some (some (.ref f_may_stand))) (l_may_stand : K.lookup f_may_stand = some ⟨oc_may_stand, od_may_stand, .func (PySem.W.fnOf "may_stand" "may_stand" (defArgs s_may_stand) (defBody s_may_stand) (defScope s_may_stand) .none kV_may_stand dc_may_stand pm_may_stand an_may_stand cd_may_stand ct_may_stand), sl_may_stand⟩) (c_may_stand : PySem.W.codeIn K cd_may_stand "may_stand" = true) (k_may_stand : PySem.W.keepIn K (.ref f_may_stand) = true)
    (a_is_plain : PySem.W.nsIn K mainGlobals "is_plain" = some (some (.ref f_is_plain))) (l_is_plain : K.lookup f_is_plain = some ⟨oc_is_plain, od_is_plain, .func (PySem.W.fnOf "is_plain" "is_plain" (defArgs s_is_plain) (defBody s_is_plain) (defScope s_is_plain) .none kV_is_plain dc_is_plain pm_is_plain an_is_plain cd_is_plain ct_is_plain), sl_is_plain⟩) (c_is_plain : PySem.W.codeIn K cd_is_plain "is_plain" = true) (k_is_plain : PySem.W.keepIn K (.ref f_is_plain) = true)
    (a_want_plain : PySem.W.nsIn K mainGlobals "want_plain" = some (some (.ref f_want_plain))) (l_want_plain : K.lookup f_want_plain = some ⟨oc_want_plain, od_want_plain, .func (PySem.W.fnOf "want_plain" "want_plain" (defArgs s_want_plain) (defBody s_want_plain) (defScope s_want_plain) .none kV_want_plain dc_want_plain pm_want_plain an_want_plain cd_want_plain ct_want_plain), sl_want_plain⟩) (c_want_plain : PySem.W.codeIn K cd_want_plain "want_plain" = true) (k_want_plain : PySem.W.keepIn K (.ref f_want_plain) = true)
    (a_come_to : PySem.W.nsIn K mainGlobals "come_to" = some (some (.ref f_come_to))) (l_come_to : K.lookup f_come_to = some ⟨oc_come_to, od_come_to, .func (PySem.W.fnOf "come_to" "come_to" (defArgs s_come_to) (defBody s_come_to) (defScope s_come_to) .none kV_come_to dc_come_to pm_come_to an_come_to cd_come_to ct_come_to), sl_come_to⟩) (c_come_to : PySem.W.codeIn K cd_come_to "come_to" = true) (k_come_to : PySem.W.keepIn K (.ref f_come_to) = true)
    (a_draws_of : PySem.W.nsIn K mainGlobals "draws_of" = some (some (.ref f_draws_of))) (l_draws_of : K.lookup f_draws_of = some ⟨oc_draws_of, od_draws_of, .func (PySem.W.fnOf "draws_of" "draws_of" (defArgs s_draws_of) (defBody s_draws_of) (defScope s_draws_of) .none kV_draws_of dc_draws_of pm_draws_of an_draws_of cd_draws_of ct_draws_of), sl_draws_of⟩) (c_draws_of : PySem.W.codeIn K cd_draws_of "draws_of" = true) (k_draws_of : PySem.W.keepIn K (.ref f_draws_of) = true)
    (a_early_aims : PySem.W.nsIn K mainGlobals "early_aims" = some (some (.ref f_early_aims))) (l_early_aims : K.lookup f_early_aims = some ⟨oc_early_aims, od_early_aims, .func (PySem.W.fnOf "early_aims" "early_aims" (defArgs s_early_aims) (defBody s_early_aims) (defScope s_early_aims) .none kV_early_aims dc_early_aims pm_early_aims an_early_aims cd_early_aims ct_early_aims), sl_early_aims⟩) (c_early_aims : PySem.W.codeIn K cd_early_aims "early_aims" = true) (k_early_aims : PySem.W.keepIn K (.ref f_early_aims) = true)
    (a_is_tuple_of_names : PySem.W.nsIn K mainGlobals "is_tuple_of_names" = some (some (.ref f_is_tuple_of_names))) (l_is_tuple_of_names : K.lookup f_is_tuple_of_names = some ⟨oc_is_tuple_of_names, od_is_tuple_of_names, .func (PySem.W.fnOf "is_tuple_of_names" "is_tuple_of_names" (defArgs s_is_tuple_of_names) (defBody s_is_tuple_of_names) (defScope s_is_tuple_of_names) .none kV_is_tuple_of_names dc_is_tuple_of_names pm_is_tuple_of_names an_is_tuple_of_names cd_is_tuple_of_names ct_is_tuple_of_names), sl_is_tuple_of_names⟩) (c_is_tuple_of_names : PySem.W.codeIn K cd_is_tuple_of_names "is_tuple_of_names" = true) (k_is_tuple_of_names : PySem.W.keepIn K (.ref f_is_tuple_of_names) = true)
    (a_keeps_in : PySem.W.nsIn K mainGlobals "keeps_in" = some (some (.ref f_keeps_in))) (l_keeps_in : K.lookup f_keeps_in = some ⟨oc_keeps_in, od_keeps_in, .func (PySem.W.fnOf "keeps_in" "keeps_in" (defArgs s_keeps_in) (defBody s_keeps_in) (defScope s_keeps_in) .none kV_keeps_in dc_keeps_in pm_keeps_in an_keeps_in cd_keeps_in ct_keeps_in), sl_keeps_in⟩) (c_keeps_in : PySem.W.codeIn K cd_keeps_in "keeps_in" = true) (k_keeps_in : PySem.W.keepIn K (.ref f_keeps_in) = true)
    (a_is_lot : PySem.W.nsIn K mainGlobals "is_lot" = some (some (.ref f_is_lot))) (l_is_lot : K.lookup f_is_lot = some ⟨oc_is_lot, od_is_lot, .func (PySem.W.fnOf "is_lot" "is_lot" (defArgs s_is_lot) (defBody s_is_lot) (defScope s_is_lot) .none kV_is_lot dc_is_lot pm_is_lot an_is_lot cd_is_lot ct_is_lot), sl_is_lot⟩) (c_is_lot : PySem.W.codeIn K cd_is_lot "is_lot" = true) (k_is_lot : PySem.W.keepIn K (.ref f_is_lot) = true)
    (a_steps_from : PySem.W.nsIn K mainGlobals "steps_from" = some (some (.ref f_steps_from))) (l_steps_from : K.lookup f_steps_from = some ⟨oc_steps_from, od_steps_from, .func (PySem.W.fnOf "steps_from" "steps_from" (defArgs s_steps_from) (defBody s_steps_from) (defScope s_steps_from) .none kV_steps_from dc_steps_from pm_steps_from an_steps_from cd_steps_from ct_steps_from), sl_steps_from⟩) (c_steps_from : PySem.W.codeIn K cd_steps_from "steps_from" = true) (k_steps_from : PySem.W.keepIn K (.ref f_steps_from) = true)
    (a_snare_of : PySem.W.nsIn K mainGlobals "snare_of" = some (some (.ref f_snare_of))) (l_snare_of : K.lookup f_snare_of = some ⟨oc_snare_of, od_snare_of, .func (PySem.W.fnOf "snare_of" "snare_of" (defArgs s_snare_of) (defBody s_snare_of) (defScope s_snare_of) .none kV_snare_of dc_snare_of pm_snare_of an_snare_of cd_snare_of ct_snare_of), sl_snare_of⟩) (c_snare_of : PySem.W.codeIn K cd_snare_of "snare_of" = true) (k_snare_of : PySem.W.keepIn K (.ref f_snare_of) = true)
    (a_safe : PySem.W.nsIn K mainGlobals "safe" = some (some (.ref f_safe))) (l_safe : K.lookup f_safe = some ⟨oc_safe, od_safe, .func (PySem.W.fnOf "safe" "safe" (defArgs s_safe) (defBody s_safe) (defScope s_safe) .none kV_safe dc_safe pm_safe an_safe cd_safe ct_safe), sl_safe⟩) (c_safe : PySem.W.codeIn K cd_safe "safe" = true) (k_safe : PySem.W.keepIn K (.ref f_safe) = true)
    (a_l_at : PySem.W.nsIn K mainGlobals "_law_at" = some (some (.ref f_l_at))) (l_l_at : K.lookup f_l_at = some ⟨oc_l_at, od_l_at, .func (PySem.W.fnOf "_law_at" "_law_at" (defArgs s_l_at) (defBody s_l_at) (defScope s_l_at) .none kV_l_at dc_l_at pm_l_at an_l_at cd_l_at ct_l_at), sl_l_at⟩) (c_l_at : PySem.W.codeIn K cd_l_at "_law_at" = true) (k_l_at : PySem.W.keepIn K (.ref f_l_at) = true)
    (a_l_pot : PySem.W.nsIn K mainGlobals "_law_pot" = some (some (.ref f_l_pot))) (l_l_pot : K.lookup f_l_pot = some ⟨oc_l_pot, od_l_pot, .func (PySem.W.fnOf "_law_pot" "_law_pot" (defArgs s_l_pot) (defBody s_l_pot) (defScope s_l_pot) .none kV_l_pot dc_l_pot pm_l_pot an_l_pot cd_l_pot ct_l_pot), sl_l_pot⟩) (c_l_pot : PySem.W.codeIn K cd_l_pot "_law_pot" = true) (k_l_pot : PySem.W.keepIn K (.ref f_l_pot) = true)
    (a_l_draw : PySem.W.nsIn K mainGlobals "_law_draw" = some (some (.ref f_l_draw))) (l_l_draw : K.lookup f_l_draw = some ⟨oc_l_draw, od_l_draw, .func (PySem.W.fnOf "_law_draw" "_law_draw" (defArgs s_l_draw) (defBody s_l_draw) (defScope s_l_draw) .none kV_l_draw dc_l_draw pm_l_draw an_l_draw cd_l_draw ct_l_draw), sl_l_draw⟩) (c_l_draw : PySem.W.codeIn K cd_l_draw "_law_draw" = true) (k_l_draw : PySem.W.keepIn K (.ref f_l_draw) = true)
    (a_l_name : PySem.W.nsIn K mainGlobals "_law_name" = some (some (.ref f_l_name))) (l_l_name : K.lookup f_l_name = some ⟨oc_l_name, od_l_name, .func (PySem.W.fnOf "_law_name" "_law_name" (defArgs s_l_name) (defBody s_l_name) (defScope s_l_name) .none kV_l_name dc_l_name pm_l_name an_l_name cd_l_name ct_l_name), sl_l_name⟩) (c_l_name : PySem.W.codeIn K cd_l_name "_law_name" = true) (k_l_name : PySem.W.keepIn K (.ref f_l_name) = true)
    (a_l_number : PySem.W.nsIn K mainGlobals "_law_number" = some (some (.ref f_l_number))) (l_l_number : K.lookup f_l_number = some ⟨oc_l_number, od_l_number, .func (PySem.W.fnOf "_law_number" "_law_number" (defArgs s_l_number) (defBody s_l_number) (defScope s_l_number) .none kV_l_number dc_l_number pm_l_number an_l_number cd_l_number ct_l_number), sl_l_number⟩) (c_l_number : PySem.W.codeIn K cd_l_number "_law_number" = true) (k_l_number : PySem.W.keepIn K (.ref f_l_number) = true)
    (a_l_plan : PySem.W.nsIn K mainGlobals "_law_plan" = some (some (.ref f_l_plan))) (l_l_plan : K.lookup f_l_plan = some ⟨oc_l_plan, od_l_plan, .func (PySem.W.fnOf "_law_plan" "_law_plan" (defArgs s_l_plan) (defBody s_l_plan) (defScope s_l_plan) .none kV_l_plan dc_l_plan pm_l_plan an_l_plan cd_l_plan ct_l_plan), sl_l_plan⟩) (c_l_plan : PySem.W.codeIn K cd_l_plan "_law_plan" = true) (k_l_plan : PySem.W.keepIn K (.ref f_l_plan) = true)
    (a_l_drawable : PySem.W.nsIn K mainGlobals "_law_drawable" = some (some (.ref f_l_drawable))) (l_l_drawable : K.lookup f_l_drawable = some ⟨oc_l_drawable, od_l_drawable, .func (PySem.W.fnOf "_law_drawable" "_law_drawable" (defArgs s_l_drawable) (defBody s_l_drawable) (defScope s_l_drawable) .none kV_l_drawable dc_l_drawable pm_l_drawable an_l_drawable cd_l_drawable ct_l_drawable), sl_l_drawable⟩) (c_l_drawable : PySem.W.codeIn K cd_l_drawable "_law_drawable" = true) (k_l_drawable : PySem.W.keepIn K (.ref f_l_drawable) = true)
    (a_l_row : PySem.W.nsIn K mainGlobals "_law_row" = some (some (.ref f_l_row))) (l_l_row : K.lookup f_l_row = some ⟨oc_l_row, od_l_row, .func (PySem.W.fnOf "_law_row" "_law_row" (defArgs s_l_row) (defBody s_l_row) (defScope s_l_row) .none kV_l_row dc_l_row pm_l_row an_l_row cd_l_row ct_l_row), sl_l_row⟩) (c_l_row : PySem.W.codeIn K cd_l_row "_law_row" = true) (k_l_row : PySem.W.keepIn K (.ref f_l_row) = true)
    (a_l_stock : PySem.W.nsIn K mainGlobals "_law_stock" = some (some (.ref f_l_stock))) (l_l_stock : K.lookup f_l_stock = some ⟨oc_l_stock, od_l_stock, .func (PySem.W.fnOf "_law_stock" "_law_stock" (defArgs s_l_stock) (defBody s_l_stock) (defScope s_l_stock) .none kV_l_stock dc_l_stock pm_l_stock an_l_stock cd_l_stock ct_l_stock), sl_l_stock⟩) (c_l_stock : PySem.W.codeIn K cd_l_stock "_law_stock" = true) (k_l_stock : PySem.W.keepIn K (.ref f_l_stock) = true)
    (a_l_aims : PySem.W.nsIn K mainGlobals "_law_aims" = some (some (.ref f_l_aims))) (l_l_aims : K.lookup f_l_aims = some ⟨oc_l_aims, od_l_aims, .func (PySem.W.fnOf "_law_aims" "_law_aims" (defArgs s_l_aims) (defBody s_l_aims) (defScope s_l_aims) .none kV_l_aims dc_l_aims pm_l_aims an_l_aims cd_l_aims ct_l_aims), sl_l_aims⟩) (c_l_aims : PySem.W.codeIn K cd_l_aims "_law_aims" = true) (k_l_aims : PySem.W.keepIn K (.ref f_l_aims) = true)
    (a_l_first : PySem.W.nsIn K mainGlobals "_law_first" = some (some (.ref f_l_first))) (l_l_first : K.lookup f_l_first = some ⟨oc_l_first, od_l_first, .func (PySem.W.fnOf "_law_first" "_law_first" (defArgs s_l_first) (defBody s_l_first) (defScope s_l_first) .none kV_l_first dc_l_first pm_l_first an_l_first cd_l_first ct_l_first), sl_l_first⟩) (c_l_first : PySem.W.codeIn K cd_l_first "_law_first" = true) (k_l_first : PySem.W.keepIn K (.ref f_l_first) = true)
    (a_l_draws : PySem.W.nsIn K mainGlobals "_law_draws" = some (some (.ref f_l_draws))) (l_l_draws : K.lookup f_l_draws = some ⟨oc_l_draws, od_l_draws, .func (PySem.W.fnOf "_law_draws" "_law_draws" (defArgs s_l_draws) (defBody s_l_draws) (defScope s_l_draws) .none kV_l_draws dc_l_draws pm_l_draws an_l_draws cd_l_draws ct_l_draws), sl_l_draws⟩) (c_l_draws : PySem.W.codeIn K cd_l_draws "_law_draws" = true) (k_l_draws : PySem.W.keepIn K (.ref f_l_draws) = true)
    (a_l_fits : PySem.W.nsIn K mainGlobals "_law_fits" = some (some (.ref f_l_fits))) (l_l_fits : K.lookup f_l_fits = some ⟨oc_l_fits, od_l_fits, .func (PySem.W.fnOf "_law_fits" "_law_fits" (defArgs s_l_fits) (defBody s_l_fits) (defScope s_l_fits) .none kV_l_fits dc_l_fits pm_l_fits an_l_fits cd_l_fits ct_l_fits), sl_l_fits⟩) (c_l_fits : PySem.W.codeIn K cd_l_fits "_law_fits" = true) (k_l_fits : PySem.W.keepIn K (.ref f_l_fits) = true)
    (a_l_lots_right : PySem.W.nsIn K mainGlobals "_law_lots_right" = some (some (.ref f_l_lots_right))) (l_l_lots_right : K.lookup f_l_lots_right = some ⟨oc_l_lots_right, od_l_lots_right, .func (PySem.W.fnOf "_law_lots_right" "_law_lots_right" (defArgs s_l_lots_right) (defBody s_l_lots_right) (defScope s_l_lots_right) .none kV_l_lots_right dc_l_lots_right pm_l_lots_right an_l_lots_right cd_l_lots_right ct_l_lots_right), sl_l_lots_right⟩) (c_l_lots_right : PySem.W.codeIn K cd_l_lots_right "_law_lots_right" = true) (k_l_lots_right : PySem.W.keepIn K (.ref f_l_lots_right) = true)
    (a_law : PySem.W.nsIn K mainGlobals "law" = some (some (.ref f_law))) (l_law : K.lookup f_law = some ⟨oc_law, od_law, .func (PySem.W.fnOf "law" "law" (defArgs s_law) (defBody s_law) (defScope s_law) .none kV_law dc_law pm_law an_law cd_law ct_law), sl_law⟩) (c_law : PySem.W.codeIn K cd_law "law" = true) (k_law : PySem.W.keepIn K (.ref f_law) = true)
    (z_len : PySem.W.nsIn K mainGlobals "len" = some none)
    (z_isinstance : PySem.W.nsIn K mainGlobals "isinstance" = some none)
    (z_str : PySem.W.nsIn K mainGlobals "str" = some none)
    (z_all : PySem.W.nsIn K mainGlobals "all" = some none)
    (z_bool : PySem.W.nsIn K mainGlobals "bool" = some none)
    (z_int : PySem.W.nsIn K mainGlobals "int" = some none)
    (z_tuple : PySem.W.nsIn K mainGlobals "tuple" = some none)
    (z_set : PySem.W.nsIn K mainGlobals "set" = some none)
    (z_enumerate : PySem.W.nsIn K mainGlobals "enumerate" = some none)
    (z_dict : PySem.W.nsIn K mainGlobals "dict" = some none)
    (z_sorted : PySem.W.nsIn K mainGlobals "sorted" = some none)
    (z_list : PySem.W.nsIn K mainGlobals "list" = some none)
    (z_max : PySem.W.nsIn K mainGlobals "max" = some none)
    (z_divmod : PySem.W.nsIn K mainGlobals "divmod" = some none)
    (z_range : PySem.W.nsIn K mainGlobals "range" = some none)
    (v_MOST_LETTERS : PySem.W.nsIn K mainGlobals "MOST_LETTERS" = some (some (.int 8 t_MOST_LETTERS)))
    (v_LETTERS : PySem.W.nsIn K mainGlobals "LETTERS" = some (some (.str "abcdefghijklmnopqrstuvwxyz" t_LETTERS)))
    (v_DOT : PySem.W.nsIn K mainGlobals "DOT" = some (some (.str "." t_DOT)))
    (v_MOST_NAMES : PySem.W.nsIn K mainGlobals "MOST_NAMES" = some (some (.int 4 t_MOST_NAMES)))
    (v_MOST_ROWS : PySem.W.nsIn K mainGlobals "MOST_ROWS" = some (some (.int 40 t_MOST_ROWS)))
    (v_MOST_TRIES : PySem.W.nsIn K mainGlobals "MOST_TRIES" = some (some (.int 3 t_MOST_TRIES)))
    (v_FAULT_WORDS : PySem.W.nsIn K mainGlobals "FAULT_WORDS" = some (some (.ref a_FAULT_WORDS))) (y_FAULT_WORDS : K.lookup a_FAULT_WORDS = some o_FAULT_WORDS) (w_FAULT_WORDS : o_FAULT_WORDS.cls = .type "tuple" ∧ o_FAULT_WORDS.data = .seq i_FAULT_WORDS e_FAULT_WORDS ∧ i_FAULT_WORDS.size ≤ sizeLine ∧ Vals [.str "NOMODULE", .str "NONAME", .str "HALF", .str "FLAT", .str "NOTASK", .str "ALL"] i_FAULT_WORDS.toList)
    (v_LEADING : PySem.W.nsIn K mainGlobals "LEADING" = some (some (.ref a_LEADING))) (y_LEADING : K.lookup a_LEADING = some o_LEADING) (w_LEADING : o_LEADING.cls = .type "tuple" ∧ o_LEADING.data = .seq i_LEADING e_LEADING ∧ i_LEADING.size ≤ sizeLine ∧ Vals [.str "now", .str "take", .str "late", .str "ask"] i_LEADING.toList)
    (v_BINDING : PySem.W.nsIn K mainGlobals "BINDING" = some (some (.ref a_BINDING))) (y_BINDING : K.lookup a_BINDING = some o_BINDING) (w_BINDING : o_BINDING.cls = .type "tuple" ∧ o_BINDING.data = .seq i_BINDING e_BINDING ∧ i_BINDING.size ≤ sizeLine ∧ Vals [.str "set", .str "now", .str "take", .str "draw", .str "late", .str "ask"] i_BINDING.toList)
    (v_AIMING_WORDS : PySem.W.nsIn K mainGlobals "AIMING_WORDS" = some (some (.ref a_AIMING_WORDS))) (y_AIMING_WORDS : K.lookup a_AIMING_WORDS = some o_AIMING_WORDS) (w_AIMING_WORDS : o_AIMING_WORDS.cls = .type "tuple" ∧ o_AIMING_WORDS.data = .seq i_AIMING_WORDS e_AIMING_WORDS ∧ i_AIMING_WORDS.size ≤ sizeLine ∧ Vals [.str "take", .str "draw"] i_AIMING_WORDS.toList)
    (v_PLAIN_WORDS : PySem.W.nsIn K mainGlobals "PLAIN_WORDS" = some (some (.ref a_PLAIN_WORDS))) (y_PLAIN_WORDS : K.lookup a_PLAIN_WORDS = some o_PLAIN_WORDS) (w_PLAIN_WORDS : o_PLAIN_WORDS.cls = .type "tuple" ∧ o_PLAIN_WORDS.data = .seq i_PLAIN_WORDS e_PLAIN_WORDS ∧ i_PLAIN_WORDS.size ≤ sizeLine ∧ Vals [.str "set", .str "late", .str "take", .str "draw"] i_PLAIN_WORDS.toList) :
    ∃ fd : FuncData, (∀ (s : Shared) (v : Value), BindsTo s fd ⟨[v], []⟩ [("_law_script", v)]) ∧ ∀ base : Heap, K.In base → base.Ns mainGlobals mg → FnG l.prog w K mg base 17 fa fd ["_law_script"] (spLaw K) := by
  have e := hfa.symm.trans (PySem.W.mg_of X G a_law)
  cases e
  have F_is_name := fun_mk (st := s_is_name) l_is_name c_is_name k_is_name
  have b_is_name := F_is_name.binds (ps := ["thing"]) fun _ _ _ _ _ _ us hl => match us, hl with | [_], _ => rfl
  have m_is_name := PySem.W.mg_of X G a_is_name
  have F_is_path := fun_mk (st := s_is_path) l_is_path c_is_path k_is_path
  have b_is_path := F_is_path.binds (ps := ["thing"]) fun _ _ _ _ _ _ us hl => match us, hl with | [_], _ => rfl
  have m_is_path := PySem.W.mg_of X G a_is_path
  have F_is_whole := fun_mk (st := s_is_whole) l_is_whole c_is_whole k_is_whole
  have b_is_whole := F_is_whole.binds (ps := ["thing"]) fun _ _ _ _ _ _ us hl => match us, hl with | [_], _ => rfl
  have m_is_whole := PySem.W.mg_of X G a_is_whole
  have F_is_word := fun_mk (st := s_is_word) l_is_word c_is_word k_is_word
  have b_is_word := F_is_word.binds (ps := ["thing"]) fun _ _ _ _ _ _ us hl => match us, hl with | [_], _ => rfl
  have m_is_word := PySem.W.mg_of X G a_is_word
  have F_are_words := fun_mk (st := s_are_words) l_are_words c_are_words k_are_words
  have b_are_words := F_are_words.binds (ps := ["thing"]) fun _ _ _ _ _ _ us hl => match us, hl with | [_], _ => rfl
  have m_are_words := PySem.W.mg_of X G a_are_words
  have F_is_bare := fun_mk (st := s_is_bare) l_is_bare c_is_bare k_is_bare
  have b_is_bare := F_is_bare.binds (ps := ["row"]) fun _ _ _ _ _ _ us hl => match us, hl with | [_], _ => rfl
  have m_is_bare := PySem.W.mg_of X G a_is_bare
  have F_is_row_within := fun_mk (st := s_is_row_within) l_is_row_within c_is_row_within k_is_row_within
  have b_is_row_within := F_is_row_within.binds (ps := ["thing", "tries"]) fun _ _ _ _ _ _ us hl => match us, hl with | [_, _], _ => rfl
  have m_is_row_within := PySem.W.mg_of X G a_is_row_within
  have F_are_rows := fun_mk (st := s_are_rows) l_are_rows c_are_rows k_are_rows
  have b_are_rows := F_are_rows.binds (ps := ["thing", "tries"]) fun _ _ _ _ _ _ us hl => match us, hl with | [_, _], _ => rfl
  have m_are_rows := PySem.W.mg_of X G a_are_rows
  have F_counted := fun_mk (st := s_counted) l_counted c_counted k_counted
  have b_counted := F_counted.binds (ps := ["body"]) fun _ _ _ _ _ _ us hl => match us, hl with | [_], _ => rfl
  have m_counted := PySem.W.mg_of X G a_counted
  have F_is_body := fun_mk (st := s_is_body) l_is_body c_is_body k_is_body
  have b_is_body := F_is_body.binds (ps := ["thing"]) fun _ _ _ _ _ _ us hl => match us, hl with | [_], _ => rfl
  have m_is_body := PySem.W.mg_of X G a_is_body
  have F_bound_by := fun_mk (st := s_bound_by) l_bound_by c_bound_by k_bound_by
  have b_bound_by := F_bound_by.binds (ps := ["row"]) fun _ _ _ _ _ _ us hl => match us, hl with | [_], _ => rfl
  have m_bound_by := PySem.W.mg_of X G a_bound_by
  have F_aim_of := fun_mk (st := s_aim_of) l_aim_of c_aim_of k_aim_of
  have b_aim_of := F_aim_of.binds (ps := ["row"]) fun _ _ _ _ _ _ us hl => match us, hl with | [_], _ => rfl
  have m_aim_of := PySem.W.mg_of X G a_aim_of
  have F_aims_of := fun_mk (st := s_aims_of) l_aims_of c_aims_of k_aims_of
  have b_aims_of := F_aims_of.binds (ps := ["rows"]) fun _ _ _ _ _ _ us hl => match us, hl with | [_], _ => rfl
  have m_aims_of := PySem.W.mg_of X G a_aims_of
  have F_first_row := fun_mk (st := s_first_row) l_first_row c_first_row k_first_row
  have b_first_row := F_first_row.binds (ps := ["body", "name"]) fun _ _ _ _ _ _ us hl => match us, hl with | [_, _], _ => rfl
  have m_first_row := PySem.W.mg_of X G a_first_row
  have F_may_stand := fun_mk (st := s_may_stand) l_may_stand c_may_stand k_may_stand
  have b_may_stand := F_may_stand.binds (ps := ["stock", "row"]) fun _ _ _ _ _ _ us hl => match us, hl with | [_, _], _ => rfl
  have m_may_stand := PySem.W.mg_of X G a_may_stand
  have F_is_plain := fun_mk (st := s_is_plain) l_is_plain c_is_plain k_is_plain
  have b_is_plain := F_is_plain.binds (ps := ["thing"]) fun _ _ _ _ _ _ us hl => match us, hl with | [_], _ => rfl
  have m_is_plain := PySem.W.mg_of X G a_is_plain
  have F_want_plain := fun_mk (st := s_want_plain) l_want_plain c_want_plain k_want_plain
  have b_want_plain := F_want_plain.binds (ps := ["thing"]) fun _ _ _ _ _ _ us hl => match us, hl with | [_], _ => rfl
  have m_want_plain := PySem.W.mg_of X G a_want_plain
  have F_come_to := fun_mk (st := s_come_to) l_come_to c_come_to k_come_to
  have b_come_to := F_come_to.binds (ps := ["stock", "starts", "without"]) fun _ _ _ _ _ _ us hl => match us, hl with | [_, _, _], _ => rfl
  have m_come_to := PySem.W.mg_of X G a_come_to
  have F_draws_of := fun_mk (st := s_draws_of) l_draws_of c_draws_of k_draws_of
  have b_draws_of := F_draws_of.binds (ps := ["stock"]) fun _ _ _ _ _ _ us hl => match us, hl with | [_], _ => rfl
  have m_draws_of := PySem.W.mg_of X G a_draws_of
  have F_early_aims := fun_mk (st := s_early_aims) l_early_aims c_early_aims k_early_aims
  have b_early_aims := F_early_aims.binds (ps := ["stock", "m", "x"]) fun _ _ _ _ _ _ us hl => match us, hl with | [_, _, _], _ => rfl
  have m_early_aims := PySem.W.mg_of X G a_early_aims
  have F_is_tuple_of_names := fun_mk (st := s_is_tuple_of_names) l_is_tuple_of_names c_is_tuple_of_names k_is_tuple_of_names
  have b_is_tuple_of_names := F_is_tuple_of_names.binds (ps := ["stock", "thing"]) fun _ _ _ _ _ _ us hl => match us, hl with | [_, _], _ => rfl
  have m_is_tuple_of_names := PySem.W.mg_of X G a_is_tuple_of_names
  have F_keeps_in := fun_mk (st := s_keeps_in) l_keeps_in c_keeps_in k_keeps_in
  have b_keeps_in := F_keeps_in.binds (ps := ["stock", "lot", "m"]) fun _ _ _ _ _ _ us hl => match us, hl with | [_, _, _], _ => rfl
  have m_keeps_in := PySem.W.mg_of X G a_keeps_in
  have F_is_lot := fun_mk (st := s_is_lot) l_is_lot c_is_lot k_is_lot
  have b_is_lot := F_is_lot.binds (ps := ["stock", "name", "row", "thing"]) fun _ _ _ _ _ _ us hl => match us, hl with | [_, _, _, _], _ => rfl
  have m_is_lot := PySem.W.mg_of X G a_is_lot
  have F_steps_from := fun_mk (st := s_steps_from) l_steps_from c_steps_from k_steps_from
  have b_steps_from := F_steps_from.binds (ps := ["stock", "m", "last"]) fun _ _ _ _ _ _ us hl => match us, hl with | [_, _, _], _ => rfl
  have m_steps_from := PySem.W.mg_of X G a_steps_from
  have F_snare_of := fun_mk (st := s_snare_of) l_snare_of c_snare_of k_snare_of
  have b_snare_of := F_snare_of.binds (ps := ["stock", "draw"]) fun _ _ _ _ _ _ us hl => match us, hl with | [_, _], _ => rfl
  have m_snare_of := PySem.W.mg_of X G a_snare_of
  have F_safe := fun_mk (st := s_safe) l_safe c_safe k_safe
  have b_safe := F_safe.binds (ps := ["stock"]) fun _ _ _ _ _ _ us hl => match us, hl with | [_], _ => rfl
  have m_safe := PySem.W.mg_of X G a_safe
  have F_l_at := fun_mk (st := s_l_at) l_l_at c_l_at k_l_at
  have b_l_at := F_l_at.binds (ps := ["_law_script", "_law_k"]) fun _ _ _ _ _ _ us hl => match us, hl with | [_, _], _ => rfl
  have m_l_at := PySem.W.mg_of X G a_l_at
  have F_l_pot := fun_mk (st := s_l_pot) l_l_pot c_l_pot k_l_pot
  have b_l_pot := F_l_pot.binds (ps := ["_law_script", "_law_k"]) fun _ _ _ _ _ _ us hl => match us, hl with | [_, _], _ => rfl
  have m_l_pot := PySem.W.mg_of X G a_l_pot
  have F_l_draw := fun_mk (st := s_l_draw) l_l_draw c_l_draw k_l_draw
  have b_l_draw := F_l_draw.binds (ps := ["_law_pot_here", "_law_size"]) fun _ _ _ _ _ _ us hl => match us, hl with | [_, _], _ => rfl
  have m_l_draw := PySem.W.mg_of X G a_l_draw
  have F_l_name := fun_mk (st := s_l_name) l_l_name c_l_name k_l_name
  have b_l_name := F_l_name.binds (ps := ["_law_pot_here", "_law_taken"]) fun _ _ _ _ _ _ us hl => match us, hl with | [_, _], _ => rfl
  have m_l_name := PySem.W.mg_of X G a_l_name
  have F_l_number := fun_mk (st := s_l_number) l_l_number c_l_number k_l_number
  have b_l_number := F_l_number.binds (ps := ["_law_pot_here"]) fun _ _ _ _ _ _ us hl => match us, hl with | [_], _ => rfl
  have m_l_number := PySem.W.mg_of X G a_l_number
  have F_l_plan := fun_mk (st := s_l_plan) l_l_plan c_l_plan k_l_plan
  have b_l_plan := F_l_plan.binds (ps := ["_law_pot_here", "_law_pool", "_law_way"]) fun _ _ _ _ _ _ us hl => match us, hl with | [_, _, _], _ => rfl
  have m_l_plan := PySem.W.mg_of X G a_l_plan
  have F_l_drawable := fun_mk (st := s_l_drawable) l_l_drawable c_l_drawable k_l_drawable
  have b_l_drawable := F_l_drawable.binds (ps := ["_law_plan_here", "_law_way"]) fun _ _ _ _ _ _ us hl => match us, hl with | [_, _], _ => rfl
  have m_l_drawable := PySem.W.mg_of X G a_l_drawable
  have F_l_row := fun_mk (st := s_l_row) l_l_row c_l_row k_l_row
  have b_l_row := F_l_row.binds (ps := ["_law_pot_here", "_law_head", "_law_plans", "_law_at_here", "_law_way"]) fun _ _ _ _ _ _ us hl => match us, hl with | [_, _, _, _, _], _ => rfl
  have m_l_row := PySem.W.mg_of X G a_l_row
  have F_l_stock := fun_mk (st := s_l_stock) l_l_stock c_l_stock k_l_stock
  have b_l_stock := F_l_stock.binds (ps := ["_law_script"]) fun _ _ _ _ _ _ us hl => match us, hl with | [_], _ => rfl
  have m_l_stock := PySem.W.mg_of X G a_l_stock
  have F_l_aims := fun_mk (st := s_l_aims) l_l_aims c_l_aims k_l_aims
  have b_l_aims := F_l_aims.binds (ps := ["_law_rows"]) fun _ _ _ _ _ _ us hl => match us, hl with | [_], _ => rfl
  have m_l_aims := PySem.W.mg_of X G a_l_aims
  have F_l_first := fun_mk (st := s_l_first) l_l_first c_l_first k_l_first
  have b_l_first := F_l_first.binds (ps := ["_law_body", "_law_name_here"]) fun _ _ _ _ _ _ us hl => match us, hl with | [_, _], _ => rfl
  have m_l_first := PySem.W.mg_of X G a_l_first
  have F_l_draws := fun_mk (st := s_l_draws) l_l_draws c_l_draws k_l_draws
  have b_l_draws := F_l_draws.binds (ps := ["_law_stock_here"]) fun _ _ _ _ _ _ us hl => match us, hl with | [_], _ => rfl
  have m_l_draws := PySem.W.mg_of X G a_l_draws
  have F_l_fits := fun_mk (st := s_l_fits) l_l_fits c_l_fits k_l_fits
  have b_l_fits := F_l_fits.binds (ps := ["_law_stock_here", "_law_lot", "_law_draw_here"]) fun _ _ _ _ _ _ us hl => match us, hl with | [_, _, _], _ => rfl
  have m_l_fits := PySem.W.mg_of X G a_l_fits
  have F_l_lots_right := fun_mk (st := s_l_lots_right) l_l_lots_right c_l_lots_right k_l_lots_right
  have b_l_lots_right := F_l_lots_right.binds (ps := ["_law_stock_here", "_law_lots"]) fun _ _ _ _ _ _ us hl => match us, hl with | [_, _], _ => rfl
  have m_l_lots_right := PySem.W.mg_of X G a_l_lots_right
  have F_law := fun_mk (st := s_law) l_law c_law k_law
  have b_law := F_law.binds (ps := ["_law_script"]) fun _ _ _ _ _ _ us hl => match us, hl with | [_], _ => rfl
  have m_law := PySem.W.mg_of X G a_law
  have n_len := PySem.W.mg_none_of X G z_len
  have n_isinstance := PySem.W.mg_none_of X G z_isinstance
  have n_str := PySem.W.mg_none_of X G z_str
  have n_all := PySem.W.mg_none_of X G z_all
  have n_bool := PySem.W.mg_none_of X G z_bool
  have n_int := PySem.W.mg_none_of X G z_int
  have n_tuple := PySem.W.mg_none_of X G z_tuple
  have n_set := PySem.W.mg_none_of X G z_set
  have n_enumerate := PySem.W.mg_none_of X G z_enumerate
  have n_dict := PySem.W.mg_none_of X G z_dict
  have n_sorted := PySem.W.mg_none_of X G z_sorted
  have n_list := PySem.W.mg_none_of X G z_list
  have n_max := PySem.W.mg_none_of X G z_max
  have n_divmod := PySem.W.mg_none_of X G z_divmod
  have n_range := PySem.W.mg_none_of X G z_range
  have g_MOST_LETTERS := PySem.W.mg_of X G v_MOST_LETTERS
  have g_LETTERS := PySem.W.mg_of X G v_LETTERS
  have g_DOT := PySem.W.mg_of X G v_DOT
  have g_MOST_NAMES := PySem.W.mg_of X G v_MOST_NAMES
  have g_FAULT_WORDS := PySem.W.mg_of X G v_FAULT_WORDS
  have q_FAULT_WORDS : ∀ H, SqT K H a_FAULT_WORDS [.str "NOMODULE", .str "NONAME", .str "HALF", .str "FLAT", .str "NOTASK", .str "ALL"] := fun H => .inr ⟨o_FAULT_WORDS, i_FAULT_WORDS, e_FAULT_WORDS, y_FAULT_WORDS, w_FAULT_WORDS.1, w_FAULT_WORDS.2.1, w_FAULT_WORDS.2.2.1, w_FAULT_WORDS.2.2.2⟩
  have g_LEADING := PySem.W.mg_of X G v_LEADING
  have q_LEADING : ∀ H, SqT K H a_LEADING [.str "now", .str "take", .str "late", .str "ask"] := fun H => .inr ⟨o_LEADING, i_LEADING, e_LEADING, y_LEADING, w_LEADING.1, w_LEADING.2.1, w_LEADING.2.2.1, w_LEADING.2.2.2⟩
  have g_MOST_ROWS := PySem.W.mg_of X G v_MOST_ROWS
  have g_MOST_TRIES := PySem.W.mg_of X G v_MOST_TRIES
  have g_BINDING := PySem.W.mg_of X G v_BINDING
  have q_BINDING : ∀ H, SqT K H a_BINDING [.str "set", .str "now", .str "take", .str "draw", .str "late", .str "ask"] := fun H => .inr ⟨o_BINDING, i_BINDING, e_BINDING, y_BINDING, w_BINDING.1, w_BINDING.2.1, w_BINDING.2.2.1, w_BINDING.2.2.2⟩
  have g_AIMING_WORDS := PySem.W.mg_of X G v_AIMING_WORDS
  have q_AIMING_WORDS : ∀ H, SqT K H a_AIMING_WORDS [.str "take", .str "draw"] := fun H => .inr ⟨o_AIMING_WORDS, i_AIMING_WORDS, e_AIMING_WORDS, y_AIMING_WORDS, w_AIMING_WORDS.1, w_AIMING_WORDS.2.1, w_AIMING_WORDS.2.2.1, w_AIMING_WORDS.2.2.2⟩
  have g_PLAIN_WORDS := PySem.W.mg_of X G v_PLAIN_WORDS
  have q_PLAIN_WORDS : ∀ H, SqT K H a_PLAIN_WORDS [.str "set", .str "late", .str "take", .str "draw"] := fun H => .inr ⟨o_PLAIN_WORDS, i_PLAIN_WORDS, e_PLAIN_WORDS, y_PLAIN_WORDS, w_PLAIN_WORDS.1, w_PLAIN_WORDS.2.1, w_PLAIN_WORDS.2.2.1, w_PLAIN_WORDS.2.2.2⟩
  refine ⟨PySem.W.fnOf "law" "law" (defArgs s_law) (defBody s_law) (defScope s_law) .none kV_law dc_law pm_law an_law cd_law ct_law, fun s v => .of_eq rfl, fun base _ _ => ?_⟩
  have T : Txt K mg  := ⟨n_len, n_isinstance, n_str, n_all, n_bool, n_int, n_tuple, n_set, n_enumerate, n_dict, n_sorted, n_list, n_max, n_divmod, n_range, ⟨_, g_MOST_LETTERS⟩, ⟨_, g_LETTERS⟩, ⟨_, g_DOT⟩, ⟨_, g_MOST_NAMES⟩, ⟨_, g_FAULT_WORDS, q_FAULT_WORDS⟩, ⟨_, g_LEADING, q_LEADING⟩, ⟨_, g_MOST_ROWS⟩, ⟨_, g_MOST_TRIES⟩, ⟨_, g_BINDING, q_BINDING⟩, ⟨_, g_AIMING_WORDS, q_AIMING_WORDS⟩, ⟨_, g_PLAIN_WORDS, q_PLAIN_WORDS⟩⟩
  have D_is_name : DnF l.prog w K mg base 1 "is_name" ["thing"] (spIsName K) := ⟨_, _, ok_is_name F_is_name T, m_is_name, k_is_name, b_is_name⟩
  have D_is_path : DnF l.prog w K mg base 2 "is_path" ["thing"] (spIsPath K) := ⟨_, _, ok_is_path F_is_path T D_is_name, m_is_path, k_is_path, b_is_path⟩
  have D_is_whole : DnF l.prog w K mg base 1 "is_whole" ["thing"] (spIsWhole K) := ⟨_, _, ok_is_whole F_is_whole T, m_is_whole, k_is_whole, b_is_whole⟩
  have D_is_word : DnF l.prog w K mg base 2 "is_word" ["thing"] spIsWord := ⟨_, _, ok_is_word F_is_word T D_is_name, m_is_word, k_is_word, b_is_word⟩
  have D_are_words : DnF l.prog w K mg base 3 "are_words" ["thing"] (spAreWords K) := ⟨_, _, ok_are_words F_are_words T D_is_word, m_are_words, k_are_words, b_are_words⟩
  have D_is_bare : DnF l.prog w K mg base 3 "is_bare" ["row"] (spIsBare K) := ⟨_, _, ok_is_bare F_is_bare T D_is_name D_is_path D_is_whole, m_is_bare, k_is_bare, b_is_bare⟩
  have D_are_rows : DnF l.prog w K mg base 11 "are_rows" ["thing", "tries"] (spAreRows K 3) := ⟨_, _, are_rows_all F_are_rows F_is_row_within T D_is_bare D_are_words m_are_rows k_are_rows b_are_rows m_is_row_within k_is_row_within b_is_row_within 3, m_are_rows, k_are_rows, b_are_rows⟩
  have D_counted : DnF l.prog w K mg base 4 "counted" ["body"] (spCounted K 3) := ⟨_, _, counted_all F_counted m_counted k_counted b_counted 3, m_counted, k_counted, b_counted⟩
  have D_is_body : DnF l.prog w K mg base 12 "is_body" ["thing"] (spIsBody K) := ⟨_, _, ok_is_body F_is_body T D_are_rows D_counted, m_is_body, k_is_body, b_is_body⟩
  have D_bound_by : DnF l.prog w K mg base 1 "bound_by" ["row"] (spBoundBy K) := ⟨_, _, ok_bound_by F_bound_by T, m_bound_by, k_bound_by, b_bound_by⟩
  have D_aim_of : DnF l.prog w K mg base 1 "aim_of" ["row"] (spAimOf K) := ⟨_, _, ok_aim_of F_aim_of T, m_aim_of, k_aim_of, b_aim_of⟩
  have D_aims_of : DnF l.prog w K mg base 2 "aims_of" ["rows"] (spAimsOf K) := ⟨_, _, ok_aims_of F_aims_of T D_aim_of, m_aims_of, k_aims_of, b_aims_of⟩
  have D_first_row : DnF l.prog w K mg base 2 "first_row" ["body", "name"] (spFirstRow K) := ⟨_, _, ok_first_row F_first_row T D_bound_by, m_first_row, k_first_row, b_first_row⟩
  have D_may_stand : DnF l.prog w K mg base 3 "may_stand" ["stock", "row"] (spMayStand K) := ⟨_, _, ok_may_stand F_may_stand T D_aim_of D_first_row, m_may_stand, k_may_stand, b_may_stand⟩
  have D_is_plain : DnF l.prog w K mg base 13 "is_plain" ["thing"] (spIsPlain K) := ⟨_, _, ok_is_plain F_is_plain T D_is_name D_is_body D_may_stand, m_is_plain, k_is_plain, b_is_plain⟩
  have D_want_plain : DnF l.prog w K mg base 14 "want_plain" ["thing"] (spWantPlain K) := ⟨_, _, ok_want_plain F_want_plain T D_is_plain, m_want_plain, k_want_plain, b_want_plain⟩
  have D_come_to : DnF l.prog w K mg base 3 "come_to" ["stock", "starts", "without"] (spComeTo K) := ⟨_, _, ok_come_to F_come_to T D_aims_of, m_come_to, k_come_to, b_come_to⟩
  have D_l_at : DnF l.prog w K mg base 1 "_law_at" ["_law_script", "_law_k"] (spAt K) := ⟨_, _, ok_at F_l_at T, m_l_at, k_l_at, b_l_at⟩
  have D_l_pot : DnF l.prog w K mg base 2 "_law_pot" ["_law_script", "_law_k"] (spPot K) := ⟨_, _, ok_pot F_l_pot T D_l_at, m_l_pot, k_l_pot, b_l_pot⟩
  have D_l_draw : DnF l.prog w K mg base 1 "_law_draw" ["_law_pot_here", "_law_size"] spDraw := ⟨_, _, ok_draw F_l_draw T, m_l_draw, k_l_draw, b_l_draw⟩
  have D_l_name : DnF l.prog w K mg base 2 "_law_name" ["_law_pot_here", "_law_taken"] spName := ⟨_, _, ok_l_name F_l_name T D_l_draw, m_l_name, k_l_name, b_l_name⟩
  have D_l_number : DnF l.prog w K mg base 2 "_law_number" ["_law_pot_here"] spNumber := ⟨_, _, ok_l_number F_l_number T D_l_draw, m_l_number, k_l_number, b_l_number⟩
  have D_l_plan : DnF l.prog w K mg base 2 "_law_plan" ["_law_pot_here", "_law_pool", "_law_way"] (spPlan K) := ⟨_, _, ok_l_plan F_l_plan T D_l_draw, m_l_plan, k_l_plan, b_l_plan⟩
  have D_l_drawable : DnF l.prog w K mg base 1 "_law_drawable" ["_law_plan_here", "_law_way"] (spDrawable K) := ⟨_, _, ok_l_drawable F_l_drawable T, m_l_drawable, k_l_drawable, b_l_drawable⟩
  have D_l_row : DnF l.prog w K mg base 3 "_law_row" ["_law_pot_here", "_law_head", "_law_plans", "_law_at_here", "_law_way"] (spRow K) := ⟨_, _, ok_l_row F_l_row T D_l_number D_l_draw D_l_drawable, m_l_row, k_l_row, b_l_row⟩
  have D_l_stock : DnF l.prog w K mg base 4 "_law_stock" ["_law_script"] (spStock K) := ⟨_, _, ok_l_stock F_l_stock T D_l_pot D_l_draw D_l_name D_l_plan D_l_row, m_l_stock, k_l_stock, b_l_stock⟩
  have D_l_aims : DnF l.prog w K mg base 1 "_law_aims" ["_law_rows"] (spLAims K) := ⟨_, _, ok_l_aims F_l_aims T, m_l_aims, k_l_aims, b_l_aims⟩
  have D_early_aims : DnF l.prog w K mg base 3 "early_aims" ["stock", "m", "x"] (spEarlyAims K) := ⟨_, _, ok_early_aims F_early_aims T D_first_row D_aims_of, m_early_aims, k_early_aims, b_early_aims⟩
  have D_l_first : DnF l.prog w K mg base 1 "_law_first" ["_law_body", "_law_name_here"] (spLFirst K) := ⟨_, _, ok_l_first F_l_first T, m_l_first, k_l_first, b_l_first⟩
  have D_draws_of : DnF l.prog w K mg base 1 "draws_of" ["stock"] (spDrawsOf K) := ⟨_, _, ok_draws_of F_draws_of T, m_draws_of, k_draws_of, b_draws_of⟩
  have D_l_draws : DnF l.prog w K mg base 1 "_law_draws" ["_law_stock_here"] (spLDraws K) := ⟨_, _, ok_l_draws F_l_draws T, m_l_draws, k_l_draws, b_l_draws⟩
  have D_is_tuple_of_names : DnF l.prog w K mg base 1 "is_tuple_of_names" ["stock", "thing"] (spIsTon K) := ⟨_, _, ok_is_tuple_of_names F_is_tuple_of_names T, m_is_tuple_of_names, k_is_tuple_of_names, b_is_tuple_of_names⟩
  have D_keeps_in : DnF l.prog w K mg base 3 "keeps_in" ["stock", "lot", "m"] (spKeepsIn K) := ⟨_, _, ok_keeps_in F_keeps_in T D_aims_of, m_keeps_in, k_keeps_in, b_keeps_in⟩
  have D_is_lot : DnF l.prog w K mg base 15 "is_lot" ["stock", "name", "row", "thing"] (spIsLot K) := ⟨_, _, ok_is_lot F_is_lot T D_want_plain D_keeps_in D_is_tuple_of_names D_early_aims, m_is_lot, k_is_lot, b_is_lot⟩
  have D_steps_from : DnF l.prog w K mg base 2 "steps_from" ["stock", "m", "last"] (spStepsFrom K) := ⟨_, _, ok_steps_from F_steps_from T D_aim_of, m_steps_from, k_steps_from, b_steps_from⟩
  have D_snare_of : DnF l.prog w K mg base 3 "snare_of" ["stock", "draw"] (spSnareOf K) := ⟨_, _, ok_snare_of F_snare_of T D_first_row D_steps_from, m_snare_of, k_snare_of, b_snare_of⟩
  have D_safe : DnF l.prog w K mg base 15 "safe" ["stock"] (spSafe K) := ⟨_, _, ok_safe F_safe T D_want_plain D_draws_of D_snare_of D_come_to D_early_aims, m_safe, k_safe, b_safe⟩
  have D_l_fits : DnF l.prog w K mg base 2 "_law_fits" ["_law_stock_here", "_law_lot", "_law_draw_here"] (spLFits K) := ⟨_, _, ok_l_fits F_l_fits T D_l_aims D_l_first, m_l_fits, k_l_fits, b_l_fits⟩
  have D_l_lots_right : DnF l.prog w K mg base 16 "_law_lots_right" ["_law_stock_here", "_law_lots"] (spLotsRight K) := ⟨_, _, ok_l_lots_right F_l_lots_right T D_l_draws D_l_first D_l_fits D_is_lot, m_l_lots_right, k_l_lots_right, b_l_lots_right⟩
  exact FnG.ofOk (ok_law F_law T D_l_stock D_safe D_l_lots_right)
end K83
open PySem PySem.W PyProof.Rows in
set_option maxRecDepth 100000 in
set_option maxHeartbeats 0 in
theorem PySem.Challenge.cw_halfmade_k83_whole_lots_walked_holds : PySem.Challenge.rw_halfmade_k83_whole_lots_walked.Holds := by
  w_on; o_law; k_head; (case hw => w_witness2)
  k_fill
  refine HL.walk_ofG (l := PySem.Challenge.rw_halfmade_k83_whole_lots_walked) (n := 63) (k := 17) (x := "_law_script") (sp := fun w => K83.spLaw _) rfl (by decide) rfl ⟨rfl, by decide, by decide⟩ (fun w h Y => PySem.W.kIn_of Y) ?F (fun _ _ a ns hl _ hS => ⟨a, ns, rfl, hS, hl, fun _ => rfl⟩)
  case F =>
    intro w mg fa h KX G hmg
    refine' K83.all_mk KX G hmg ?a_is_name ?l_is_name ?c_is_name ?k_is_name ?a_is_path ?l_is_path ?c_is_path ?k_is_path ?a_is_whole ?l_is_whole ?c_is_whole ?k_is_whole ?a_is_word ?l_is_word ?c_is_word ?k_is_word ?a_are_words ?l_are_words ?c_are_words ?k_are_words ?a_is_bare ?l_is_bare ?c_is_bare ?k_is_bare ?a_is_row_within ?l_is_row_within ?c_is_row_within ?k_is_row_within ?a_are_rows ?l_are_rows ?c_are_rows ?k_are_rows ?a_counted ?l_counted ?c_counted ?k_counted ?a_is_body ?l_is_body ?c_is_body ?k_is_body ?a_bound_by ?l_bound_by ?c_bound_by ?k_bound_by ?a_aim_of ?l_aim_of ?c_aim_of ?k_aim_of ?a_aims_of ?l_aims_of ?c_aims_of ?k_aims_of ?a_first_row ?l_first_row ?c_first_row ?k_first_row ?a_may_stand ?l_may_stand ?c_may_stand ?k_may_stand ?a_is_plain ?l_is_plain ?c_is_plain ?k_is_plain ?a_want_plain ?l_want_plain ?c_want_plain ?k_want_plain ?a_come_to ?l_come_to ?c_come_to ?k_come_to ?a_draws_of ?l_draws_of ?c_draws_of ?k_draws_of ?a_early_aims ?l_early_aims ?c_early_aims ?k_early_aims ?a_is_tuple_of_names ?l_is_tuple_of_names ?c_is_tuple_of_names ?k_is_tuple_of_names ?a_keeps_in ?l_keeps_in ?c_keeps_in ?k_keeps_in ?a_is_lot ?l_is_lot ?c_is_lot ?k_is_lot ?a_steps_from ?l_steps_from ?c_steps_from ?k_steps_from ?a_snare_of ?l_snare_of ?c_snare_of ?k_snare_of ?a_safe ?l_safe ?c_safe ?k_safe ?a_l_at ?l_l_at ?c_l_at ?k_l_at ?a_l_pot ?l_l_pot ?c_l_pot ?k_l_pot ?a_l_draw ?l_l_draw ?c_l_draw ?k_l_draw ?a_l_name ?l_l_name ?c_l_name ?k_l_name ?a_l_number ?l_l_number ?c_l_number ?k_l_number ?a_l_plan ?l_l_plan ?c_l_plan ?k_l_plan ?a_l_drawable ?l_l_drawable ?c_l_drawable ?k_l_drawable ?a_l_row ?l_l_row ?c_l_row ?k_l_row ?a_l_stock ?l_l_stock ?c_l_stock ?k_l_stock ?a_l_aims ?l_l_aims ?c_l_aims ?k_l_aims ?a_l_first ?l_l_first ?c_l_first ?k_l_first ?a_l_draws ?l_l_draws ?c_l_draws ?k_l_draws ?a_l_fits ?l_l_fits ?c_l_fits ?k_l_fits ?a_l_lots_right ?l_l_lots_right ?c_l_lots_right ?k_l_lots_right ?a_law ?l_law ?c_law ?k_law ?z_len ?z_isinstance ?z_str ?z_all ?z_bool ?z_int ?z_tuple ?z_set ?z_enumerate ?z_dict ?z_sorted ?z_list ?z_max ?z_divmod ?z_range ?v_MOST_LETTERS ?v_LETTERS ?v_DOT ?v_MOST_NAMES ?v_MOST_ROWS ?v_MOST_TRIES ?v_FAULT_WORDS ?y_FAULT_WORDS ?w_FAULT_WORDS ?v_LEADING ?y_LEADING ?w_LEADING ?v_BINDING ?y_BINDING ?w_BINDING ?v_AIMING_WORDS ?y_AIMING_WORDS ?w_AIMING_WORDS ?v_PLAIN_WORDS ?y_PLAIN_WORDS ?w_PLAIN_WORDS
    (case a_is_name => k_is)
    (case l_is_name => k_is)
    (case c_is_name => k_is)
    (case k_is_name => k_is)
    (case a_is_path => k_is)
    (case l_is_path => k_is)
    (case c_is_path => k_is)
    (case k_is_path => k_is)
    (case a_is_whole => k_is)
    (case l_is_whole => k_is)
    (case c_is_whole => k_is)
    (case k_is_whole => k_is)
    (case a_is_word => k_is)
    (case l_is_word => k_is)
    (case c_is_word => k_is)
    (case k_is_word => k_is)
    (case a_are_words => k_is)
    (case l_are_words => k_is)
    (case c_are_words => k_is)
    (case k_are_words => k_is)
    (case a_is_bare => k_is)
    (case l_is_bare => k_is)
    (case c_is_bare => k_is)
    (case k_is_bare => k_is)
    (case a_is_row_within => k_is)
    (case l_is_row_within => k_is)
    (case c_is_row_within => k_is)
    (case k_is_row_within => k_is)
    (case a_are_rows => k_is)
    (case l_are_rows => k_is)
    (case c_are_rows => k_is)
    (case k_are_rows => k_is)
    (case a_counted => k_is)
    (case l_counted => k_is)
    (case c_counted => k_is)
    (case k_counted => k_is)
    (case a_is_body => k_is)
    (case l_is_body => k_is)
    (case c_is_body => k_is)
    (case k_is_body => k_is)
    (case a_bound_by => k_is)
    (case l_bound_by => k_is)
    (case c_bound_by => k_is)
    (case k_bound_by => k_is)
    (case a_aim_of => k_is)
    (case l_aim_of => k_is)
    (case c_aim_of => k_is)
    (case k_aim_of => k_is)
    (case a_aims_of => k_is)
    (case l_aims_of => k_is)
    (case c_aims_of => k_is)
    (case k_aims_of => k_is)
    (case a_first_row => k_is)
    (case l_first_row => k_is)
    (case c_first_row => k_is)
    (case k_first_row => k_is)
    (case a_may_stand => k_is)
    (case l_may_stand => k_is)
    (case c_may_stand => k_is)
    (case k_may_stand => k_is)
    (case a_is_plain => k_is)
    (case l_is_plain => k_is)
    (case c_is_plain => k_is)
    (case k_is_plain => k_is)
    (case a_want_plain => k_is)
    (case l_want_plain => k_is)
    (case c_want_plain => k_is)
    (case k_want_plain => k_is)
    (case a_come_to => k_is)
    (case l_come_to => k_is)
    (case c_come_to => k_is)
    (case k_come_to => k_is)
    (case a_draws_of => k_is)
    (case l_draws_of => k_is)
    (case c_draws_of => k_is)
    (case k_draws_of => k_is)
    (case a_early_aims => k_is)
    (case l_early_aims => k_is)
    (case c_early_aims => k_is)
    (case k_early_aims => k_is)
    (case a_is_tuple_of_names => k_is)
    (case l_is_tuple_of_names => k_is)
    (case c_is_tuple_of_names => k_is)
    (case k_is_tuple_of_names => k_is)
    (case a_keeps_in => k_is)
    (case l_keeps_in => k_is)
    (case c_keeps_in => k_is)
    (case k_keeps_in => k_is)
    (case a_is_lot => k_is)
    (case l_is_lot => k_is)
    (case c_is_lot => k_is)
    (case k_is_lot => k_is)
    (case a_steps_from => k_is)
    (case l_steps_from => k_is)
    (case c_steps_from => k_is)
    (case k_steps_from => k_is)
    (case a_snare_of => k_is)
    (case l_snare_of => k_is)
    (case c_snare_of => k_is)
    (case k_snare_of => k_is)
    (case a_safe => k_is)
    (case l_safe => k_is)
    (case c_safe => k_is)
    (case k_safe => k_is)
    (case a_l_at => k_is)
    (case l_l_at => k_is)
    (case c_l_at => k_is)
    (case k_l_at => k_is)
    (case a_l_pot => k_is)
    (case l_l_pot => k_is)
    (case c_l_pot => k_is)
    (case k_l_pot => k_is)
    (case a_l_draw => k_is)
    (case l_l_draw => k_is)
    (case c_l_draw => k_is)
    (case k_l_draw => k_is)
    (case a_l_name => k_is)
    (case l_l_name => k_is)
    (case c_l_name => k_is)
    (case k_l_name => k_is)
    (case a_l_number => k_is)
    (case l_l_number => k_is)
    (case c_l_number => k_is)
    (case k_l_number => k_is)
    (case a_l_plan => k_is)
    (case l_l_plan => k_is)
    (case c_l_plan => k_is)
    (case k_l_plan => k_is)
    (case a_l_drawable => k_is)
    (case l_l_drawable => k_is)
    (case c_l_drawable => k_is)
    (case k_l_drawable => k_is)
    (case a_l_row => k_is)
    (case l_l_row => k_is)
    (case c_l_row => k_is)
    (case k_l_row => k_is)
    (case a_l_stock => k_is)
    (case l_l_stock => k_is)
    (case c_l_stock => k_is)
    (case k_l_stock => k_is)
    (case a_l_aims => k_is)
    (case l_l_aims => k_is)
    (case c_l_aims => k_is)
    (case k_l_aims => k_is)
    (case a_l_first => k_is)
    (case l_l_first => k_is)
    (case c_l_first => k_is)
    (case k_l_first => k_is)
    (case a_l_draws => k_is)
    (case l_l_draws => k_is)
    (case c_l_draws => k_is)
    (case k_l_draws => k_is)
    (case a_l_fits => k_is)
    (case l_l_fits => k_is)
    (case c_l_fits => k_is)
    (case k_l_fits => k_is)
    (case a_l_lots_right => k_is)
    (case l_l_lots_right => k_is)
    (case c_l_lots_right => k_is)
    (case k_l_lots_right => k_is)
    (case a_law => k_is)
    (case l_law => k_is)
    (case c_law => k_is)
    (case k_law => k_is)
    (case z_len => k_is)
    (case z_isinstance => k_is)
    (case z_str => k_is)
    (case z_all => k_is)
    (case z_bool => k_is)
    (case z_int => k_is)
    (case z_tuple => k_is)
    (case z_set => k_is)
    (case z_enumerate => k_is)
    (case z_dict => k_is)
    (case z_sorted => k_is)
    (case z_list => k_is)
    (case z_max => k_is)
    (case z_divmod => k_is)
    (case z_range => k_is)
    (case v_MOST_LETTERS => k_is)
    (case v_LETTERS => k_is)
    (case v_DOT => k_is)
    (case v_MOST_NAMES => k_is)
    (case v_MOST_ROWS => k_is)
    (case v_MOST_TRIES => k_is)
    (case v_FAULT_WORDS => k_is)
    (case y_FAULT_WORDS => k_is)
    (case w_FAULT_WORDS => exact ⟨rfl, rfl, by decide, (.cons ⟨_, rfl⟩ (.cons ⟨_, rfl⟩ (.cons ⟨_, rfl⟩ (.cons ⟨_, rfl⟩ (.cons ⟨_, rfl⟩ (.cons ⟨_, rfl⟩ .nil))))))⟩)
    (case v_LEADING => k_is)
    (case y_LEADING => k_is)
    (case w_LEADING => exact ⟨rfl, rfl, by decide, (.cons ⟨_, rfl⟩ (.cons ⟨_, rfl⟩ (.cons ⟨_, rfl⟩ (.cons ⟨_, rfl⟩ .nil))))⟩)
    (case v_BINDING => k_is)
    (case y_BINDING => k_is)
    (case w_BINDING => exact ⟨rfl, rfl, by decide, (.cons ⟨_, rfl⟩ (.cons ⟨_, rfl⟩ (.cons ⟨_, rfl⟩ (.cons ⟨_, rfl⟩ (.cons ⟨_, rfl⟩ (.cons ⟨_, rfl⟩ .nil))))))⟩)
    (case v_AIMING_WORDS => k_is)
    (case y_AIMING_WORDS => k_is)
    (case w_AIMING_WORDS => exact ⟨rfl, rfl, by decide, (.cons ⟨_, rfl⟩ (.cons ⟨_, rfl⟩ .nil))⟩)
    (case v_PLAIN_WORDS => k_is)
    (case y_PLAIN_WORDS => k_is)
    (case w_PLAIN_WORDS => exact ⟨rfl, rfl, by decide, (.cons ⟨_, rfl⟩ (.cons ⟨_, rfl⟩ (.cons ⟨_, rfl⟩ (.cons ⟨_, rfl⟩ .nil))))⟩)

