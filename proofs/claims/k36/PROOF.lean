import PyProof.Rows.All
import Wide.All
import OpenK.AllK
import Wide.FinOn
import PyProof.ReprNest
import HandS.ForMost
import HandS.IsInst
import HandS.Style
import HandS.Walk
import HandS.WideBits
import HandS.NoneIn
import HandS.RaiseMore
import KE.GoesZip
import KE.GoesMore
import KE.GoesEnum
import KE.GoesEnumKw
import HandS.ForDict
import HandS.More
import HandS.ExcInit
import HandS.Conv
import HandS.WordsExc
import HandS.ExcField
import HandS.ExcOwn
import PyProof.InstEq
import PyProof.NeKinds
import HandS.Strs
import HandS.ExcCtx
import HandS.SuiteRaise
import HandS.RaiseFrom
import HandS.ExcInitHot
import HandS.HotCalls
import HandS.TryElse
import PyProof.RulesAs
import HandS.ListItems
import HandS.SortRule
import HandS.DeepEq
import HandS.TupAny
import PySem.Challenge.RW_halfmade_k36_finders_in_order
set_option Elab.async false
set_option linter.all false
set_option maxRecDepth 100000
set_option maxHeartbeats 4000000
/-! HLa: promises of defs that are called where no repr is under way (guards known), and repr of plain data. -/
namespace HL
open PySem PySem.Spec PyProof.Rows L2

/-- a def that keeps its promise where no built-in of the guarded kind is under way -/
structure FnG (P : Program) (w : World) (K : PySem.W.Frag) (mg : Str → Option Value) (base : Heap)
    (k : Nat) (f : Addr) (fd : FuncData) (ps : List Str) (sp : Sp) : Prop where
  len : ∀ vs H Q E, sp vs H Q E → vs.length = ps.length
  run : ∀ (A : Around) (outer : List Env) (s : Shared) (H : Hp) (args : Args) (us : List Value) (vs : List V)
    (Q : VK) (E : XK), A.guards = some [] → Room k A → Env0 P w K mg base A outer s H →
    BindsTo s fd args (ps.zip us) → Vals vs us → sp vs H Q E →
    codeAny (model P w) A (.call (.ref f) args) (CR CX0 outer P w H s Q E) s

theorem FnG.ofOk {P : Program} {w : World} {K : PySem.W.Frag} {mg : Str → Option Value} {base : Heap}
    {k : Nat} {f : Addr} {fd : FuncData} {ps : List Str} {sp : Sp}
    (F : FnOk P w K mg base CX0 k f fd ps sp) : FnG P w K mg base k f fd ps sp :=
  ⟨F.len, fun A outer s H args us vs Q E _ => F.run A outer s H args us vs Q E⟩
theorem FnG.mono {P : Program} {w : World} {K : PySem.W.Frag} {mg : Str → Option Value} {base : Heap}
    {j k : Nat} {f : Addr} {fd : FuncData} {ps : List Str} {sp : Sp}
    (F : FnG P w K mg base j f fd ps sp) (h : j ≤ k) : FnG P w K mg base k f fd ps sp :=
  ⟨F.len, fun A outer s H args us vs Q E g hr => F.run A outer s H args us vs Q E g (hr.mono h)⟩

theorem guards_deeper {A : Around} (env : Env) (h : A.guards = some []) : (A.deeper env).guards = some [] := h

/-- what a body's end says of the call's end -/
theorem bodyEnd {X : Cx} {ps : List (Addr × Obj)} {outer : List Env} {P : Program} {w : World} {H H' : Hp} {s s' : Shared} {σ' : L2.St}
    {Q : VK} {v : V} {u : Value} (J : Inv X ps σ' H' s') (rv : RelV v u) (q : Q v H')
    (hX : Inv X ps σ' H' s' → s'.os = s.os ∧ AllBare s'.gens ∧ Un (frs outer) [] H H' s.heap s'.heap ∧ HOk P w H' s'.heap) :
    CE outer P w H s Q u s' :=
  ⟨v, H', (hX J).1, (hX J).2.1, (hX J).2.2.1, (hX J).2.2.2, rv, q⟩
/-- a def, by its body: as Fun.ok, with the guards handed on -/
theorem fnG_of {P : Program} {w : World} {K : PySem.W.Frag} {mg : Str → Option Value} {base : Heap}
    {x qual : Str} {st : Stmt} {f : Addr} {fd : FuncData} {N ps : List Str} {k : Nat} {sp : Sp}
    (F : Fun K x qual st f fd) (S : FnScope N ps (defScope st))
    (len : ∀ vs H Q E, sp vs H Q E → vs.length = ps.length)
    (hbody : ∀ (cdv : Value) (A : Around) (outer : List Env) (s : Shared) (H : Hp) (vs : List V) (Q : VK) (E : XK),
      (A.deeper (envOfC qual (defScope st) s.heap.objs.size f cdv)).guards = some [] →
      Room k (A.deeper (envOfC qual (defScope st) s.heap.objs.size f cdv)) → sp vs H Q E →
      ∃ t, PSs (cxOf CX0 P w K mg base N qual (defScope st) f cdv A outer s H E).nox (defBody st) t ∧
        t { nx := fun _ H' => Q .non H', rt := Q } (start N vs) H) :
    FnG P w K mg base (k + 1) f fd ps sp where
  len := len
  run := by
    intro A outer s H args us vs Q E known room ent bnd rel prm
    rcases F.ex with ⟨_, _, _, _, _, _, cdv, _, _, e, at_, code⟩
    subst e
    have old := ent.mod.kin.keeps fun b o z => (ent.bs b o z).1
    have free := ent.mod.nolimit.keeps fun b o z => (ent.bs b o z).1
    have fits : vs.length = ps.length := len _ _ _ _ prm
    have places : ∀ y ∈ ps.zip us, (defScope st).names.lookup y.1 = some .local ∨
        ((defScope st).names.lookup y.1 = some .cell ∧
          ((cellsFrom (s.heap.objs.size + 1) (defScope st).names []).lookup y.1).isSome = true) := by
      rintro ⟨n, v⟩ hy
      exact (S.par n (List.of_mem_zip hy).1).imp id fun c => ⟨c, PySem.W.cellsFrom_some _ _ _ (Or.inl c)⟩
    apply codeAny_call_function room.depth (old _ _ at_) rfl S.co S.gen rfl (PySem.W.codeRec_of old code)
    apply bnd
    apply wpAny_newFunctionEnv_cells S.kind places
    rintro env rfl s1 made
    refine ⟨free.keeps made.toInCall.keep, codeAny_func ?_⟩
    rcases hbody cdv A outer s H vs Q E (guards_deeper _ known) (room.deeper _) prm with ⟨t, ht, hq⟩
    have I : Inv (cxOf CX0 P w K mg base N qual (defScope st) f cdv A outer s H E) [] (start N vs) H s1 :=
      inv_start S room.hd ent fits rel made
    apply wpAny_mono (ht.nox.run [] s1 (start N vs) H _ I hq) _ fun _ _ z => z
    intro fl s' hs
    match fl, hs with
    | .ret u, ⟨v, σ', H', J, rv, q⟩ => exact bodyEnd J rv q fun J => ⟨J.os, J.bare, J.base, J.hok⟩
    | .next, ⟨σ', H', J, q⟩ => exact bodyEnd (v := V.non) J rfl q fun J => ⟨J.os, J.bare, J.base, J.hok⟩
    | .brk, ⟨_, _, _, q⟩ => exact q.elim
    | .cont, ⟨_, _, _, q⟩ => exact q.elim

/-- a call by name of such a def -/
theorem pe_callG {X : Cx} {k : Nat} {f : Addr} {fd : FuncData} {ps : List Str} {sp : Sp} {dvs : List V} {ds : List Value}
    {x : Str} {p pos : Pos} {e : Expr} {es : List Expr} {t : TA}
    (F : FnG X.prog X.w X.K X.mg X.base k f fd ps sp) (known : X.A.guards = some []) (room : Room k X.A)
    (hg : Gl X x) (hm : X.mg x = some (.ref f)) (hk : PySem.W.keepIn X.K (.ref f) = true)
    (hb : Binds X.K fd ps ds) (hd : Vals dvs ds) (ha : PA X (e :: es) t)
    (hdb : (x == ("__debug__" : Str)) = false := by decide)
    (he : starEach (e :: es) X.env = (false, eval e X.env) :: starEach es X.env := by rfl)
    (hpl : (backTo pos (starEach es X.env)).any (·.1) = false := by rfl) :
    PE X (.Call (.Name x p) (e :: es) [] pos) (tCall sp dvs E0 t) where
  run := by
    intro pins s σ H Q I h
    apply wpAny_Call_Name_kw (ld_glob I hg hm ?_ hdb)
    apply PySem.W.callWith_K (h₀ := X.base) I.ok.mod.kin hk ?_ he hpl
    refine thn (ha.run pos pins s σ H _ I h) ?_
    rintro us s1 ⟨vs, H1, J, r, q⟩
    have both : Vals (vs ++ dvs) (us ++ ds) := r.append hd
    have many : (us ++ ds).length = ps.length := both.length ▸ F.len _ _ _ _ q
    refine ⟨J.kIn, wpAny_call (codeAny_mono (F.run X.A X.stack s1 H1 ⟨us, []⟩ _ _ Q E0 known room J.env0 (hb s1 us J.kIn many) both q) ?_)⟩
    intro res s' hq
    match res, hq with
    | .error _, z => exact z.elim
    | .ok (.ret _), z => exact J.after z
    | .ok .next, z => exact z.elim
    | .ok .brk, z => exact z.elim
    | .ok .cont, z => exact z.elim

/-! ### repr of plain data -/
section
variable {X : Cx}
def rReprD (K : PySem.W.Frag) : List V → Hp → VK → Prop := fun xs H Q =>
  ∃ (x : V) (d : PyData), xs = [x] ∧ Dp K H x d ∧ isDisplay d = true ∧ d.showable = true ∧ d.hasDict = false ∧
    d.depth ≤ 60 ∧ d.shown.length ≤ sizeLine ∧ Q (.str d.shown) H
theorem call_reprD (hg : X.A.guards = some []) (hu : X.A.units + 64 < cLine) : CallR X (.builtin "repr") (rReprD X.K) := by
  intro pins s σ H xs us Q I r h
  obtain ⟨x, d, rfl, hd, h1, h2, h3, h4, h5, q⟩ := h
  cases r with
  | cons rx rn =>
    cases rn
    rename_i u
    obtain ⟨as, rd⟩ := Dp.reads I d x u hd rx
    obtain ⟨a, rfl⟩ := isRef_of_reads rd h1
    refine repr_of_reads' rd h2 (PyData.noDict_hsm h3) hg (by omega) (fun _ _ e => e) (fun h' u tk hk => ?_) h5
    exact ⟨.str d.shown, H, I.kept hk, ⟨u, rfl⟩, q⟩
end
end HL

/-! HLb: what stays (Kp), readings step by step. -/
namespace HL
open PySem PySem.Spec PyProof.Rows L2

def Nin (q : Addr) : List Addr → Prop
  | [] => True
  | x :: r => q ≠ x ∧ Nin q r
/-- all that was tracked stands, but what is in W -/
def Kp (W : List Addr) (H H' : Hp) : Prop := ∀ q o, Nin q W → H q = some o → H' q = some o
theorem Kp.refl {W : List Addr} {H : Hp} : Kp W H H := fun _ _ _ h => h
theorem Kp.get {W : List Addr} {H H' : Hp} {q : Addr} {o : HO} (k : Kp W H H') (n : Nin q W) (h : H q = some o) : H' q = some o := k q o n h
theorem Nin.of_mem {q x : Addr} : ∀ {W : List Addr}, Nin q W → x ∈ W → q ≠ x
  | [], _, h => nomatch h
  | y :: r, ⟨a, b⟩, h => by
    rcases List.mem_cons.mp h with rfl | h
    · exact a
    · exact Nin.of_mem b h
theorem Nin.intro {q : Addr} : ∀ {W : List Addr}, (∀ x ∈ W, q ≠ x) → Nin q W
  | [], _ => trivial
  | y :: r, h => ⟨h y List.mem_cons_self, Nin.intro fun x hx => h x (List.mem_cons_of_mem _ hx)⟩
theorem Kp.upd_mem {W : List Addr} {H H' : Hp} {a : Addr} {o : HO} (k : Kp W H H') (m : a ∈ W) : Kp W H (upd H' a o) := fun q u n h => by
  rw [upd_ne (n.of_mem m)]
  exact k q u n h
theorem Kp.upd_new {W : List Addr} {H H' : Hp} {a : Addr} {o : HO} (k : Kp W H H') (m : H' a = none) : Kp W H (upd H' a o) := fun q u n h => by
  have e := k q u n h
  rw [upd_ne (ne_of_none e m)]
  exact e
theorem Kp.upd_loc {W : List Addr} {H H' : Hp} {a : Addr} {o : HO} (k : Kp W H H') (m : H a = none) : Kp W H (upd H' a o) := fun q u n h => by
  rw [upd_ne (ne_of_none h m)]
  exact k q u n h
/-- a step that changes what is in W, or what was not there ahead -/
theorem Kp.step {W W' : List Addr} {H H1 H2 : Hp} (k : Kp W H H1) (l : Kp W' H1 H2) (m : ∀ x ∈ W', x ∈ W ∨ H x = none) : Kp W H H2 := fun q u n h =>
  l q u (Nin.intro fun x hx => (m x hx).elim (fun z => n.of_mem z) fun z => ne_of_none h z) (k q u n h)
theorem Kp.free {W : List Addr} {H H' : Hp} {a : Addr} (k : Kp W H H') (n : Nin a W) (h : H' a = none) : H a = none := by
  cases e : H a with
  | none => rfl
  | some o =>
    rw [k a o n e] at h
    cases h
theorem Kp.same {H H' : Hp} (k : Kp [] H H') : Same H H' := fun b o h => k b o trivial h
theorem Kp.of_same {W : List Addr} {H H' : Hp} (k : Same H H') : Kp W H H' := fun b o _ h => k b o h
theorem Kp.weak {W W' : List Addr} {H H' : Hp} (k : Kp W H H') (m : ∀ x ∈ W, x ∈ W') : Kp W' H H' := fun q o n h => k q o (Nin.intro fun x hx => n.of_mem (m x hx)) h

/-! ### steps of readings -/
section
variable {σ : L2.St} {H : Hp} {Q : VK} {ta tb te : TE} {tt tu : TT} {i : Nat} {v x y : V} {K : PySem.W.Frag} {D : Ends} {t u : TS}
theorem s_var (h : σ[i]? = some (some v)) (q : Q v H) : tVar i σ H Q := ⟨v, h, q⟩
theorem s_c (q : Q v H) : tC v σ H Q := q
theorem s_op {r : R2} (h : ta σ H fun x H1 => tb σ H1 fun y H2 => r x y H2 Q) : tOp r ta tb σ H Q := h
theorem s_un {r : V → Hp → VK → Prop} (h : ta σ H fun x H1 => r x H1 Q) : tUn r ta σ H Q := h
theorem s_nil {Q : List V → Hp → Prop} (q : Q [] H) : tNil σ H Q := q
theorem s_cons {tr : TA} {Q : List V → Hp → Prop} (h : ta σ H fun x H1 => tr σ H1 fun xs H2 => Q (x :: xs) H2) : tCons ta tr σ H Q := h
theorem s_cb {r : List V → Hp → VK → Prop} {tl : TA} (h : tl σ H fun vs H1 => r vs H1 Q) : tCB r tl σ H Q := h
theorem s_call {sp : Sp} {dvs : List V} {E : XK} {tl : TA} (h : tl σ H fun vs H1 => sp (vs ++ dvs) H1 Q E) : tCall sp dvs E tl σ H Q := h
theorem s_test {Q : Bool → Hp → Prop} (h : te σ H fun x H1 => ∃ k, x = .bl k ∧ Q k H1) : tTest te σ H Q := h
theorem s_B {Q : Bool → Hp → Prop} (h : te σ H fun x H1 => ∃ k, x = .bl k ∧ Q k H1) : tB te σ H Q := h
theorem s_bl {R : Bool → Prop} {k : Bool} (q : R k) : ∃ k', V.bl k = .bl k' ∧ R k' := ⟨k, rfl, q⟩
theorem s_and {Q : Bool → Hp → Prop} (h : tt σ H fun c H1 => if c = true then tu σ H1 Q else Q false H1) : tAnd tt tu σ H Q := h
theorem s_or {Q : Bool → Hp → Prop} (h : tt σ H fun c H1 => if c = true then Q true H1 else tu σ H1 Q) : tOr tt tu σ H Q := h
theorem s_not {Q : Bool → Hp → Prop} (h : tt σ H fun c H1 => Q (!c) H1) : tNot tt σ H Q := h
theorem s_andV (h : ta σ H fun x H1 => ∃ c, x = .bl c ∧ if c = true then tb σ H1 Q else Q (.bl false) H1) : tAndV ta tb σ H Q := h
theorem s_orV (h : ta σ H fun x H1 => ∃ c, x = .bl c ∧ if c = true then Q (.bl true) H1 else tb σ H1 Q) : tOrV ta tb σ H Q := h
theorem s_notV (h : ta σ H fun x H1 => ∃ c, x = .bl c ∧ Q (.bl (!c)) H1) : tNotV ta σ H Q := h
theorem s_ifE (h : tt σ H fun c H1 => if c = true then ta σ H1 Q else tb σ H1 Q) : tIf tt ta tb σ H Q := h
theorem s_chain {r r' : R2} {tc : TE} (h : ta σ H fun x H1 => tb σ H1 fun y H2 => r x y H2 fun z H3 => ∃ k, z = .bl k ∧ (if k = true then tc σ H3 fun w' H4 => r' y w' H4 Q else Q (.bl false) H3)) : tChain r r' ta tb tc σ H Q := h
theorem s_tup {tl : TA} (h : tl σ H fun xs H1 => xs.length ≤ sizeLine ∧ ∀ p, H1 p = none → Q (.ref p) (upd H1 p (.tup xs))) : tTup tl σ H Q := h
theorem s_lst {tl : TA} (h : tl σ H fun xs H1 => xs.length ≤ sizeLine ∧ ∀ p, H1 p = none → Q (.ref p) (upd H1 p (.lst xs))) : tLst tl σ H Q := h
theorem s_sl {r : V → Option Int → Option Int → Hp → VK → Prop} {tl th : TO} (h : te σ H fun x H1 => tl σ H1 fun l H2 => th σ H2 fun u H3 => r x l u H3 Q) : tSl r te tl th σ H Q := h
theorem s_noPart {Q : Option Int → Hp → Prop} (q : Q none H) : tNoPart σ H Q := q
theorem s_part {Q : Option Int → Hp → Prop} (h : te σ H fun x H1 => ∃ i, x = .int i ∧ Q (some i) H1) : tPart te σ H Q := h
theorem s_int {R : Int → Prop} {k : Int} (q : R k) : ∃ i, V.int k = .int i ∧ R i := ⟨k, rfl, q⟩
theorem s_ints2 {R : Int → Int → Prop} {a b : Int} (q : R a b) : ∃ i j, [V.int a, V.int b] = [V.int i, V.int j] ∧ R i j := ⟨a, b, rfl, q⟩
theorem s_ints1 {R : Int → Prop} {a : Int} (q : R a) : ∃ i, [V.int a] = [V.int i] ∧ R i := ⟨a, rfl, q⟩
theorem s_strs1 {R : Str → Prop} {a : Str} (q : R a) : ∃ i, [V.str a] = [V.str i] ∧ R i := ⟨a, rfl, q⟩
theorem s_vals2 {R : V → V → Prop} {a b : V} (q : R a b) : ∃ i j, [a, b] = [i, j] ∧ R i j := ⟨a, b, rfl, q⟩
theorem s_vals3 {R : V → V → V → Prop} {a b c : V} (q : R a b c) : ∃ i j k, [a, b, c] = [i, j, k] ∧ R i j k := ⟨a, b, c, rfl, q⟩
theorem s_fld {f : Str} (h : ta σ H fun x H1 => ∃ a C dx fs v, x = .ref a ∧ H1 a = some (.ins C dx fs) ∧ Cls K C ∧ NoAttr K C f ∧ fs.lookup f = some v ∧ Q v H1) : tFld K ta f σ H Q := h
theorem s_bm {T : String} {r : V → List V → Hp → VK → Prop} {tl : TA} (h : ta σ H fun x H1 => tyV K T x H1 ∧ tl σ H1 fun xs H2 => r x xs H2 Q) : tBM K T r ta tl σ H Q := h
theorem s_bm0 {T : String} {r : V → List V → Hp → VK → Prop} (h : ta σ H fun x H1 => tyV K T x H1 ∧ r x [] H1 Q) : tBM0 K T r ta σ H Q := h
theorem s_m1 {r : V → List V → Hp → VK → Prop} (h : ta σ H fun x H1 => (∃ a, x = .str a) ∧ te σ H1 fun y H2 => r x [y] H2 Q) : tM1 r ta te σ H Q := h
theorem s_m0 {r : V → List V → Hp → VK → Prop} (h : ta σ H fun x H1 => (∃ a, x = .str a) ∧ r x [] H1 Q) : tM0 r ta σ H Q := h
theorem s_ex {a : Str} {P : Prop} (h : P) : (∃ b, V.str a = .str b) ∧ P := ⟨⟨a, rfl⟩, h⟩
/-! statements -/
theorem s_seq (h : t { D with nx := u D } σ H) : tSeq t u D σ H := h
theorem s_next (h : D.nx σ H) : tNext D σ H := h
theorem s_asg {g : TG} (h : te σ H fun x H1 => g x σ H1 D.nx) : tAsg te g D σ H := h
theorem s_gname {Q : L2.St → Hp → Prop} (q : Q (σ.set i (some v)) H) : gName i v σ H Q := q
theorem s_drop (h : te σ H fun _ H1 => D.nx σ H1) : tDrop te D σ H := h
theorem s_ret (h : te σ H D.rt) : tRet te D σ H := h
theorem s_retN (h : D.rt .non H) : tRetN D σ H := h
theorem s_ifS (h : tt σ H fun b H1 => if b = true then t D σ H1 else u D σ H1) : tIfS tt t u D σ H := h
theorem s_gsub {to ti : TE} {ts : TSet} {Q : L2.St → Hp → Prop} (h : to σ H fun o H1 => ti σ H1 fun i H2 => ts o i v H2 fun H3 => Q σ H3) : gSub to ti ts v σ H Q := h
theorem s_gtup {n : Nat} {g : TGs} {a : Addr} {xs : List V} {Q : L2.St → Hp → Prop} (h : SqT K H a xs) (l : xs.length = n) (q : g xs σ H Q) : gTup K n g (.ref a) σ H Q := ⟨a, xs, rfl, h, l, q⟩
theorem s_gcons {g : TG} {u : TGs} {r : List V} {Q : L2.St → Hp → Prop} (q : g v σ H fun σ' H' => u r σ' H' Q) : gCons g u (v :: r) σ H Q := ⟨v, r, rfl, q⟩
theorem s_gnil {Q : L2.St → Hp → Prop} (q : Q σ H) : gNil [] σ H Q := ⟨rfl, q⟩
theorem s_par3 {i j l : Nat} {tl : TA} (h : tl σ H fun vs H1 => ∃ u v w, vs = [u, v, w] ∧ D.nx (((σ.set i (some u)).set j (some v)).set l (some w)) H1) : tPar3 i j l tl D σ H := h
theorem s_par {i j : Nat} {tl : TA} (h : tl σ H fun vs H1 => ∃ v w, vs = [v, w] ∧ D.nx ((σ.set i (some v)).set j (some w)) H1) : tPar i j tl D σ H := h
/-! operators -/
theorem s_I0 {g : Int → Int → V} {a b : Int} (q : Q (g a b) H) : rI0 g (.int a) (.int b) H Q := ⟨a, b, rfl, rfl, q⟩
theorem s_I {C : Int → Int → Prop} {g : Int → Int → V} {a b : Int} (c : C a b) (q : Q (g a b) H) : rI C g (.int a) (.int b) H Q := ⟨a, b, rfl, rfl, c, q⟩
theorem s_eq (h : scal x y = true) (q : Q (.bl (decide (x = y))) H) : rEq x y H Q := ⟨h, q⟩
theorem s_ne (h : scal x y = true) (q : Q (.bl (!decide (x = y))) H) : rNe x y H Q := ⟨h, q⟩
theorem s_ixL {p : Addr} {xs : List V} {k : Int} (h : SqL K H p xs) (a : atI xs k = some v) (q : Q v H) : rIxL K (.ref p) (.int k) H Q := ⟨p, xs, k, v, rfl, rfl, h, a, q⟩
theorem s_ixT {p : Addr} {xs : List V} {k : Int} (h : SqT K H p xs) (a : atI xs k = some v) (q : Q v H) : rIxT K (.ref p) (.int k) H Q := ⟨p, xs, k, v, rfl, rfl, h, a, q⟩
theorem s_setL {p : Addr} {xs : List V} {k : Int} {j : Nat} {Q : Hp → Prop} (h : H p = some (.lst xs)) (a : ixN xs.length k = some j) (q : Q (upd H p (.lst (xs.set j v)))) : rSetL (.ref p) (.int k) v H Q := ⟨p, xs, k, j, rfl, rfl, h, a, q⟩
theorem s_append {p : Addr} {xs : List V} (h : H p = some (.lst xs)) (l : xs.length < sizeLine) (q : Q .non (upd H p (.lst (xs ++ [v])))) : rAppend (.ref p) [v] H Q := ⟨p, xs, v, rfl, rfl, h, l, q⟩
/-! what a test decides -/
theorem s_dec {c A B : Prop} [Decidable c] (h1 : c → A) (h2 : ¬ c → B) : if decide c = true then A else B := by
  by_cases h : c
  · rw [if_pos (decide_eq_true h)]; exact h1 h
  · rw [if_neg (by simpa using h)]; exact h2 h
theorem s_ndec {c A B : Prop} [Decidable c] (h1 : ¬ c → A) (h2 : c → B) : if (!decide c) = true then A else B := by
  by_cases h : c
  · rw [if_neg (by simpa using h)]; exact h2 h
  · rw [if_pos (by simpa using h)]; exact h1 h
theorem s_bool {c : Bool} {A B : Prop} (h1 : c = true → A) (h2 : c = false → B) : if c = true then A else B := by
  cases c with
  | true => rw [if_pos rfl]; exact h1 rfl
  | false => rw [if_neg Bool.false_ne_true]; exact h2 rfl
end
theorem st_start {t : TS} {D : Ends} {σ σ' : L2.St} {H : Hp} (e : σ = σ') (h : t D σ' H) : t D σ H := e ▸ h
theorem sq_l {K : PySem.W.Frag} {H : Hp} {a : Addr} {xs : List V} (h : H a = some (.lst xs)) : SqL K H a xs := .inl (.inl h)
theorem sq_t {K : PySem.W.Frag} {H : Hp} {a : Addr} {xs : List V} (h : H a = some (.tup xs)) : SqT K H a xs := .inl (.inl h)
theorem Kp.seqL {W : List Addr} {K : PySem.W.Frag} {H H' : Hp} {a : Addr} {xs : List V} (k : Kp W H H') (n : Nin a W) (h : SqL K H a xs) : SqL K H' a xs := by
  rcases h with (h | ⟨o, h⟩) | h
  · exact .inl (.inl (k _ _ n h))
  · exact .inl (.inr ⟨o, k _ _ n h⟩)
  · exact .inr h
end HL

/-! HLc: comprehensions by what they have made, isinstance, facts of the text's defs. -/
namespace HL
open PySem PySem.Spec PyProof.Rows L2

/-- a def of the text, called by its name: its promise -/
def DnF (P : Program) (w : World) (K : PySem.W.Frag) (mg : Str → Option Value) (base : Heap) (k : Nat) (x : Str) (ps : List Str) (sp : Sp) : Prop :=
  ∃ (f : Addr) (fd : FuncData), FnOk P w K mg base CX0 k f fd ps sp ∧ mg x = some (.ref f) ∧ PySem.W.keepIn K (.ref f) = true ∧ Binds K fd ps []
def DnG (P : Program) (w : World) (K : PySem.W.Frag) (mg : Str → Option Value) (base : Heap) (k : Nat) (x : Str) (ps : List Str) (sp : Sp) : Prop :=
  ∃ (f : Addr) (fd : FuncData), FnG P w K mg base k f fd ps sp ∧ mg x = some (.ref f) ∧ PySem.W.keepIn K (.ref f) = true ∧ Binds K fd ps []

/-! ### comprehensions: acc i is what is made behind i turns; W what the parts may change, R what is known of that -/
structure LcOk (D : Addr) (n : Nat) (acc : Nat → List V) (W : List Addr) (H1 : Hp) (R : Nat → Hp → Prop) : Prop where
  sz : n ≤ sizeLine
  a0 : acc 0 = []
  al : ∀ i, i ≤ n → (acc i).length ≤ i
  nD : H1 D = none
  nW : Nin D W
  st : ∀ i H o, R i H → R i (upd H D o)
def LcInv (D : Addr) (acc : Nat → List V) (W : List Addr) (H1 : Hp) (R : Nat → Hp → Prop) (i : Nat) (H : Hp) : Prop := H D = some (.lst (acc i)) ∧ Kp W H1 H ∧ R i H
section
variable {J : It} {n : Nat} {G : Hp → Prop} {Y : Nat → Hp → V → Hp → Prop} {D : Addr} {acc : Nat → List V} {W : List Addr} {H1 H H4 : Hp} {R : Nat → Hp → Prop} {i : Nat} {y : V}
theorem LcInv.put (I : LcInv D acc W H1 R i H) (L : LcOk D n acc W H1 R) (hi : i < n) (e : acc (i + 1) = acc i ++ [y]) (k : Kp W H H4) (r : R (i + 1) H4) :
    ∃ a, H4 D = some (.lst a) ∧ a.length < sizeLine ∧ LcInv D acc W H1 R (i + 1) (upd H4 D (.lst (a ++ [y]))) := by
  obtain ⟨p1, p2, p3⟩ := I
  refine ⟨acc i, k.get L.nW p1, ?_, by rw [upd_same, e], ?_, L.st _ _ _ r⟩
  · have h1 := L.al i (Nat.le_of_lt hi)
    have h2 := L.sz
    omega
  · exact (p2.step k (fun x hx => .inl hx)).upd_loc L.nD
theorem LcInv.skip (I : LcInv D acc W H1 R i H) (L : LcOk D n acc W H1 R) (e : acc (i + 1) = acc i) (k : Kp W H H4) (r : R (i + 1) H4) : LcInv D acc W H1 R (i + 1) H4 :=
  ⟨by rw [e]; exact k.get L.nW I.1, I.2.1.step k (fun x hx => .inl hx), r⟩
theorem lc_go (w : Walk J n G Y) (L : LcOk D n acc W H1 R) {g : TG} {tt : TT} {te : TE} {vs : List Nat} {σ : L2.St} {Qd : Hp → Prop} (r0 : R 0 H1) (hG : ∀ H, Kp W H1 H → G H)
    (hs : ∀ i x H H', i < n → LcInv D acc W H1 R i H → Y i H x H' → g x (wipe σ vs) H' fun σ2 H2 => wipe σ2 vs = wipe σ vs ∧ tt σ2 H2 fun b H3 =>
      if b = true then te σ2 H3 fun y H4 => ∃ a, H4 D = some (.lst a) ∧ a.length < sizeLine ∧ LcInv D acc W H1 R (i + 1) (upd H4 D (.lst (a ++ [y]))) else LcInv D acc W H1 R (i + 1) H3)
    (hd : ∀ H, LcInv D acc W H1 R n H → Qd H) :
    ∃ W : Nat → Nat → Hp → Prop, (∃ m, W 0 m (upd H1 D (.lst []))) ∧ ∀ i m H, W i m H →
      (J.stop i H ∧ Qd H) ∨ (J.go i H ∧ ∃ Nx : Hp → Prop, (∀ H', Nx H' → ∃ m', m' < m ∧ W (i + 1) m' H') ∧ ∀ x H', J.yld i H x H' → g x (wipe σ vs) H' fun σ2 H2 => wipe σ2 vs = wipe σ vs ∧ tt σ2 H2 fun b H3 =>
        if b = true then te σ2 H3 fun y H4 => ∃ acc, H4 D = some (.lst acc) ∧ acc.length < sizeLine ∧ Nx (upd H4 D (.lst (acc ++ [y]))) else Nx H3) :=
  lc_it w (LcInv D acc W H1 R) ⟨by rw [upd_same, L.a0], Kp.refl.upd_new L.nD, L.st _ _ _ r0⟩ (fun i H _ p => hG H p.2.1) hs hd
end
theorem LcOk.ofTake {D : Addr} {n : Nat} {ys : List V} {W : List Addr} {H1 : Hp} {R : Nat → Hp → Prop} (sz : n ≤ sizeLine) (nD : H1 D = none) (nW : Nin D W) (st : ∀ i H o, R i H → R i (upd H D o)) : LcOk D n (fun i => ys.take i) W H1 R :=
  ⟨sz, List.take_zero, fun i _ => by rw [List.length_take]; omega, nD, nW, st⟩
theorem take_put {α : Type} {l : List α} {i : Nat} {x : α} (h : l[i]? = some x) : l.take (i + 1) = l.take i ++ [x] := by
  rw [List.take_add_one, h]
  rfl
/-! ### comprehensions whose values are not told ahead: PL i xs of what is made behind i turns -/
structure LcOkP (D : Addr) (n : Nat) (PL : Nat → List V → Prop) (W : List Addr) (H1 : Hp) (R : Nat → Hp → Prop) : Prop where
  sz : n ≤ sizeLine
  a0 : PL 0 []
  nD : H1 D = none
  nW : Nin D W
  st : ∀ i H o, R i H → R i (upd H D o)
def LcInvP (D : Addr) (PL : Nat → List V → Prop) (W : List Addr) (H1 : Hp) (R : Nat → Hp → Prop) (i : Nat) (H : Hp) : Prop :=
  (∃ xs, H D = some (.lst xs) ∧ PL i xs ∧ xs.length ≤ i) ∧ Kp W H1 H ∧ R i H
section
variable {J : It} {n : Nat} {G : Hp → Prop} {Y : Nat → Hp → V → Hp → Prop} {D : Addr} {PL : Nat → List V → Prop} {W : List Addr} {H1 H H4 : Hp} {R : Nat → Hp → Prop} {i : Nat} {y : V}
theorem LcInvP.put (I : LcInvP D PL W H1 R i H) (L : LcOkP D n PL W H1 R) (hi : i < n) (e : ∀ xs, PL i xs → PL (i + 1) (xs ++ [y])) (k : Kp W H H4) (r : R (i + 1) H4) :
    ∃ a, H4 D = some (.lst a) ∧ a.length < sizeLine ∧ LcInvP D PL W H1 R (i + 1) (upd H4 D (.lst (a ++ [y]))) := by
  obtain ⟨⟨xs, p0, p1, pl⟩, p2, p3⟩ := I
  have h2 := L.sz
  refine ⟨xs, k.get L.nW p0, by omega, ⟨xs ++ [y], upd_same, e xs p1, by simp; exact pl⟩, ?_, L.st _ _ _ r⟩
  exact (p2.step k (fun x hx => .inl hx)).upd_loc L.nD
theorem lc_goP (w : Walk J n G Y) (L : LcOkP D n PL W H1 R) {g : TG} {tt : TT} {te : TE} {vs : List Nat} {σ : L2.St} {Qd : Hp → Prop} (r0 : R 0 H1) (hG : ∀ H, Kp W H1 H → G H)
    (hs : ∀ i x H H', i < n → LcInvP D PL W H1 R i H → Y i H x H' → g x (wipe σ vs) H' fun σ2 H2 => wipe σ2 vs = wipe σ vs ∧ tt σ2 H2 fun b H3 =>
      if b = true then te σ2 H3 fun y H4 => ∃ a, H4 D = some (.lst a) ∧ a.length < sizeLine ∧ LcInvP D PL W H1 R (i + 1) (upd H4 D (.lst (a ++ [y]))) else LcInvP D PL W H1 R (i + 1) H3)
    (hd : ∀ H, LcInvP D PL W H1 R n H → Qd H) :
    ∃ W : Nat → Nat → Hp → Prop, (∃ m, W 0 m (upd H1 D (.lst []))) ∧ ∀ i m H, W i m H →
      (J.stop i H ∧ Qd H) ∨ (J.go i H ∧ ∃ Nx : Hp → Prop, (∀ H', Nx H' → ∃ m', m' < m ∧ W (i + 1) m' H') ∧ ∀ x H', J.yld i H x H' → g x (wipe σ vs) H' fun σ2 H2 => wipe σ2 vs = wipe σ vs ∧ tt σ2 H2 fun b H3 =>
        if b = true then te σ2 H3 fun y H4 => ∃ acc, H4 D = some (.lst acc) ∧ acc.length < sizeLine ∧ Nx (upd H4 D (.lst (acc ++ [y]))) else Nx H3) :=
  lc_it w (LcInvP D PL W H1 R) ⟨⟨[], upd_same, L.a0, Nat.le_refl _⟩, Kp.refl.upd_new L.nD, L.st _ _ _ r0⟩ (fun i H _ p => hG H p.2.1) hs hd
end
/-! ### small steps more -/
section
variable {σ : L2.St} {H : Hp} {Q : VK} {K : PySem.W.Frag} {A B : Prop}
theorem s_lc {wi : TI} {g : TG} {tt : TT} {te : TE} {vs : List Nat} (h : wi σ H fun J H1 => ∀ D, H1 D = none → ∃ W : Nat → Nat → Hp → Prop, (∃ m, W 0 m (upd H1 D (.lst []))) ∧ ∀ i m H, W i m H →
  (J.stop i H ∧ Q (.ref D) H) ∨ (J.go i H ∧ ∃ Nx : Hp → Prop, (∀ H', Nx H' → ∃ m', m' < m ∧ W (i + 1) m' H') ∧ ∀ x H', J.yld i H x H' → g x (wipe σ vs) H' fun σ2 H2 => wipe σ2 vs = wipe σ vs ∧ tt σ2 H2 fun b H3 =>
    if b = true then te σ2 H3 fun y H4 => ∃ acc, H4 D = some (.lst acc) ∧ acc.length < sizeLine ∧ Nx (upd H4 D (.lst (acc ++ [y]))) else Nx H3)) : tLc wi g tt te vs σ H Q := h
theorem s_iStr {te : TE} {R : It → Hp → Prop} (h : te σ H fun v H1 => ∃ x, v = .str x ∧ R (Its x) H1) : iStr te σ H R := h
theorem s_iList {te : TE} {R : It → Hp → Prop} (h : te σ H fun x H1 => ∃ a, x = .ref a ∧ (∃ xs, SqL K H1 a xs) ∧ R (Itl K a) H1) : iList K te σ H R := h
theorem s_iTup {te : TE} {R : It → Hp → Prop} (h : te σ H fun x H1 => ∃ a, x = .ref a ∧ (∃ xs, SqT K H1 a xs) ∧ R (Itt K a) H1) : iTup K te σ H R := h
theorem s_iRng1 {ta : TA} {R : It → Hp → Prop} (h : ta σ H fun vs H1 => ∃ j : Int, vs = [.int j] ∧ -(2 ^ 62) ≤ j ∧ j < 2 ^ 62 ∧ R (Itr 0 j.toNat) H1) : iRng1 ta σ H R := h
theorem s_str {R : Str → Prop} {a : Str} (q : R a) : ∃ x, V.str a = .str x ∧ R x := ⟨a, rfl, q⟩
theorem s_ref {R : Addr → Prop} {a : Addr} (q : R a) : ∃ x, V.ref a = .ref x ∧ R x := ⟨a, rfl, q⟩
theorem s_yes {R : Bool → Hp → Prop} (q : R true H) : tYes σ H R := q
theorem s_for {wi : TI} {g : TG} {tb : TS} {E : Ends} (h : wi σ H fun J H1 => ∃ W : Nat → Nat → L2.St → Hp → Prop, (∃ m, W 0 m σ H1) ∧ ∀ i m σ H, W i m σ H →
      (J.stop i H ∧ E.nx σ H) ∨ (J.go i H ∧ ∃ N : L2.St → Hp → Prop, (∀ σ' H', N σ' H' → ∃ m', m' < m ∧ W (i + 1) m' σ' H') ∧ ∀ x H', J.yld i H x H' → g x σ H' fun σ2 H2 => tb { E with nx := N, ct := N, bk := E.nx } σ2 H2)) : tFor wi g tb E σ H := h
theorem i_T (h : A) : if true = true then A else B := by rw [if_pos rfl]; exact h
theorem i_F (h : B) : if false = true then A else B := by rw [if_neg Bool.false_ne_true]; exact h
theorem i_nT (h : B) : if (!true) = true then A else B := by rw [if_neg (by decide)]; exact h
theorem i_nF (h : A) : if (!false) = true then A else B := by rw [if_pos (by decide)]; exact h
theorem isi_ty {x : V} {t T : String} {b : Bool} (ht : TyX K H x (.type t)) (hk : kitB t T = some b) (q : Q (.bl b) H) : rIsi K [x, .ty T] H Q := ⟨x, .ty T, .type t, .type T, b, rfl, .ty T, ht, kit_ty hk, q⟩
theorem s_lenS {z : Str} (l : z.length ≤ sizeLine) (q : Q (.int z.length) H) : (fun (xs : List V) (H : Hp) (Q : VK) => ∃ z, xs = [.str z] ∧ z.length ≤ sizeLine ∧ Q (.int z.length) H) [.str z] H Q := ⟨z, rfl, l, q⟩
end
end HL

/-! HLm: words between dots, in plain Lean. -/
namespace HL
open PySem PySem.Spec PyProof.Rows L2 TL
def mkS (l : List Nat) : Str := ⟨l.toArray⟩
theorem tl_mkS (l : List Nat) : tl (mkS l) = l := rfl
theorem mkS_tl (z : Str) : mkS (tl z) = z := mk_tl z
theorem mkS_inj {a b : List Nat} (h : mkS a = mkS b) : a = b := by
  have := congrArg tl h
  exact this
theorem mkS_len (l : List Nat) : (mkS l).length = l.length := by rw [len_tl, tl_mkS]
theorem mkS_app (a b : List Nat) : mkS a ++ mkS b = mkS (a ++ b) := ext_tl (by rw [tl_append, tl_mkS, tl_mkS, tl_mkS])
/-- the words between dots; acc what the first one has already -/
def wds : List Nat → List Nat → List (List Nat)
  | acc, [] => [acc]
  | acc, c :: r => if c = 46 then acc :: wds [] r else wds (acc ++ [c]) r
theorem wds_spl : ∀ (l acc : List Nat), spl [46] 0 acc l = wds acc l
  | [], acc => by rw [spl_nil]; rfl
  | c :: r, acc => by
    by_cases h : c = 46
    · subst h
      rw [spl_hit (by simp [pre])]
      show acc :: spl [46] 0 [] r = _
      rw [wds_spl r]
      simp [wds]
    · rw [spl_miss (pre_of_head _ _ h), wds_spl r]
      simp [wds, h]
theorem map_mkS_tl (ys : List Str) : (ys.map tl).map mkS = ys := by
  rw [List.map_map]
  conv => rhs; rw [← List.map_id ys]
  exact List.map_congr_left fun a _ => mkS_tl a
/-- z.split('.') -/
theorem split_dot (z : Str) : Txt.split z "." = (wds [] (tl z)).map mkS := by
  have h := split_spl z "." (by decide +kernel) (kind_ok (by decide +kernel))
  rw [show tl "." = [46] from by decide +kernel, wds_spl] at h
  rw [← h, map_mkS_tl]
theorem wds_ne : ∀ (l acc : List Nat), wds acc l ≠ []
  | [], acc => by simp [wds]
  | c :: r, acc => by
    unfold wds
    split
    · simp
    · exact wds_ne r _
theorem wds_mem : ∀ (l acc p : List Nat), p ∈ wds acc l → p.length ≤ acc.length + l.length
  | [], acc, p, h => by simp [wds] at h; subst h; simp
  | c :: r, acc, p, h => by
    unfold wds at h
    split at h
    · rcases List.mem_cons.mp h with rfl | h
      · simp
      · have := wds_mem r [] p h
        simp at this ⊢
        omega
    · have := wds_mem r _ p h
      simp at this ⊢
      omega
theorem wds_length : ∀ (l acc : List Nat), (wds acc l).length ≤ l.length + 1
  | [], acc => by simp [wds]
  | c :: r, acc => by
    unfold wds
    split
    · have := wds_length r []
      simp
      omega
    · have := wds_length r (acc ++ [c])
      simp
      omega
theorem wds_sum : ∀ (l acc : List Nat), ((wds acc l).map List.length).sum ≤ acc.length + l.length
  | [], acc => by simp [wds]
  | c :: r, acc => by
    unfold wds
    split
    · have := wds_sum r []
      simp at this ⊢
      omega
    · have := wds_sum r (acc ++ [c])
      simp at this ⊢
      omega
/-- one sign more -/
def wst (s : List (List Nat) × List Nat) (c : Nat) : List (List Nat) × List Nat := if c = 46 then (s.1 ++ [s.2], []) else (s.1, s.2 ++ [c])
theorem wst_run : ∀ (l : List Nat) (p : List (List Nat)) (acc : List Nat), (l.foldl wst (p, acc)).1 ++ [(l.foldl wst (p, acc)).2] = p ++ wds acc l
  | [], p, acc => rfl
  | c :: r, p, acc => by
    rw [List.foldl_cons]
    by_cases h : c = 46
    · rw [show wst (p, acc) c = (p ++ [acc], []) by unfold wst; rw [if_pos h]]
      rw [wst_run r, List.append_assoc]
      simp [wds, h]
    · rw [show wst (p, acc) c = (p, acc ++ [c]) by unfold wst; rw [if_neg h]]
      rw [wst_run r]
      simp [wds, h]
theorem joinL_dot : ∀ {ps : List (List Nat)}, ps ≠ [] → (∀ p ∈ ps, 46 ∉ p) → wds [] (joinL [46] ps) = ps := fun hne h => by
  rw [← wds_spl]
  exact spl_join hne h
theorem wds_free : ∀ (l acc : List Nat), 46 ∉ acc → ∀ p ∈ wds acc l, 46 ∉ p
  | [], acc, h, p, hp => by simp [wds] at hp; subst hp; exact h
  | c :: r, acc, h, p, hp => by
    unfold wds at hp
    split at hp
    · rcases List.mem_cons.mp hp with rfl | hp
      · exact h
      · exact wds_free r [] (by simp) p hp
    · rename_i hc
      exact wds_free r _ (by simp [h]; exact fun e => hc e.symm) p hp
theorem sum_take_le (f : List Nat → Nat) : ∀ (l : List (List Nat)) (k : Nat), ((l.take k).map f).sum ≤ (l.map f).sum
  | [], k => by simp
  | a :: r, 0 => by simp
  | a :: r, k + 1 => by
    have := sum_take_le f r k
    rw [List.take_succ_cons, List.map_cons, List.sum_cons, List.map_cons, List.sum_cons]
    omega
theorem joinS (ps : List (List Nat)) : Txt.join "." (ps.map mkS) = mkS (joinL [46] ps) := ext_tl (by
  rw [join_eq, tl_join, List.map_map, show tl "." = [46] from by decide +kernel, tl_mkS]
  congr 1
  conv => rhs; rw [← List.map_id ps]
  exact List.map_congr_left fun a _ => tl_mkS a)
theorem eqvAll_strs : ∀ xs ys : List Str, PyData.eqvAll (xs.map PyData.str) (ys.map PyData.str) = decide (xs = ys)
  | [], [] => by simp [PyData.eqvAll]
  | [], _ :: _ => by simp [PyData.eqvAll]
  | _ :: _, [] => by simp [PyData.eqvAll]
  | x :: xs, y :: ys => by
    have ih := eqvAll_strs xs ys
    simp only [List.map_cons, PyData.eqvAll, ih, PyData.eqv]
    by_cases h : x = y
    · subst h; simp
    · simp [h]
theorem dpAll_strs {K : PySem.W.Frag} {H : Hp} : ∀ xs : List Str, DpAll K H (xs.map V.str) (xs.map PyData.str)
  | [] => .nil
  | x :: xs => .cons (.str x) (dpAll_strs xs)
theorem joinL_len (S : List Nat) : ∀ ps : List (List Nat), (joinL S ps).length ≤ (ps.map List.length).sum + ps.length * S.length
  | [] => by simp [joinL]
  | [p] => by simp [joinL]
  | p :: q :: r => by
    have ih := joinL_len S (q :: r)
    have e : joinL S (p :: q :: r) = p ++ S ++ joinL S (q :: r) := by simp [joinL]
    rw [e, List.length_append, List.length_append, List.map_cons, List.sum_cons, List.length_cons, Nat.add_mul]
    omega
theorem join_len (y : Str) (ps : List Str) : (Txt.join y ps).length ≤ (ps.map (·.length)).sum + ps.length * y.length := by
  have h := joinL_len (tl y) (ps.map tl)
  rw [len_tl, join_eq, tl_join]
  rw [List.length_map, List.map_map, ← len_tl] at h
  have e : (List.map (List.length ∘ tl) ps) = ps.map (·.length) := List.map_congr_left fun a _ => (len_tl a).symm
  rw [e] at h
  exact h
theorem sum_le_of {l : List Str} {m : Nat} (h : ∀ y ∈ l, y.length ≤ m) : (l.map (·.length)).sum ≤ l.length * m := by
  induction l with
  | nil => simp
  | cons a r ih =>
    have h1 := h a List.mem_cons_self
    have h2 := ih fun y hy => h y (List.mem_cons_of_mem _ hy)
    rw [List.map_cons, List.sum_cons, List.length_cons, Nat.add_mul]
    omega
/-- codes that a text may have -/
def OkL (l : List Nat) : Prop := ∀ c ∈ l, c < 1114112
theorem OkL.app {a b : List Nat} (h : OkL a) (g : OkL b) : OkL (a ++ b) := fun c hc => (List.mem_append.mp hc).elim (h c) (g c)
theorem OkL.str {l : List Nat} (h : OkL l) : PyData.strOk (mkS l) = true := by
  unfold PyData.strOk mkS
  simp only [List.all_toArray, List.all_eq_true]
  intro c hc
  simpa using h c hc
theorem OkL.strT {z : Str} (h : OkL (tl z)) : PyData.strOk z = true := by
  have := OkL.str h
  rw [mkS_tl] at this
  exact this
theorem atI_mem {α : Type} {xs : List α} {i : Int} {v : α} (h : atI xs i = some v) : v ∈ xs := by
  unfold atI at h
  cases e : ixN xs.length i with
  | none => rw [e] at h; cases h
  | some j => rw [e] at h; exact List.mem_of_getElem? h
theorem joinL_mem {S : List Nat} {c : Nat} : ∀ ps : List (List Nat), c ∈ joinL S ps → c ∈ S ∨ ∃ p ∈ ps, c ∈ p
  | [], h => by simp [joinL] at h
  | [p], h => .inr ⟨p, by simp, by simpa [joinL] using h⟩
  | p :: q :: r, h => by
    have e : joinL S (p :: q :: r) = p ++ (S ++ joinL S (q :: r)) := rfl
    rw [e] at h
    rcases List.mem_append.mp h with h | h
    · exact .inr ⟨p, by simp, h⟩
    rcases List.mem_append.mp h with h | h
    · exact .inl h
    rcases joinL_mem (q :: r) h with h | ⟨y, hy, hc⟩
    · exact .inl h
    · exact .inr ⟨y, List.mem_cons_of_mem _ hy, hc⟩
theorem OkL.join {s : Str} {ys : List Str} (h : OkL (tl s)) (g : ∀ y ∈ ys, OkL (tl y)) : OkL (tl (Txt.join s ys)) := fun c hc => by
  rw [join_eq, tl_join] at hc
  rcases joinL_mem _ hc with e | ⟨p, hp, e⟩
  · exact h c e
  · obtain ⟨y, hy, rfl⟩ := List.mem_map.mp hp
    exact g y hy c e
theorem wds_sub : ∀ (l acc p : List Nat), p ∈ wds acc l → ∀ c ∈ p, c ∈ acc ∨ c ∈ l
  | [], acc, p, h, c, hc => by simp [wds] at h; subst h; exact .inl hc
  | a :: r, acc, p, h, c, hc => by
    unfold wds at h
    split at h
    · rcases List.mem_cons.mp h with rfl | h
      · exact .inl hc
      · rcases wds_sub r [] p h c hc with e | e
        · cases e
        · exact .inr (List.mem_cons_of_mem _ e)
    · rcases wds_sub r _ p h c hc with e | e
      · rcases List.mem_append.mp e with e | e
        · exact .inl e
        · rw [List.mem_singleton.mp e]
          exact .inr List.mem_cons_self
      · exact .inr (List.mem_cons_of_mem _ e)
theorem OkL.wds {l : List Nat} (h : OkL l) : ∀ p ∈ wds [] l, OkL p := fun p hp c hc => by
  rcases wds_sub l [] p hp c hc with e | e
  · cases e
  · exact h c e
theorem OkL.cut {z : Str} (h : OkL (tl z)) (lo hi : Option Int) : OkL (tl (cutS z lo hi)) := fun c hc => by
  apply h
  have hc2 : c ∈ List.take (HT.sIx z.length z.length hi - HT.sIx z.length 0 lo) (List.drop (HT.sIx z.length 0 lo) z.cps.toList) := hc
  exact List.mem_of_mem_drop (List.mem_of_mem_take hc2)
theorem shaped_strs {xs : List Str} (h : ∀ x ∈ xs, PyData.strOk x = true) : SeqAt.shaped (.list (xs.map PyData.str)) = true := by
  have e : ∀ ys : List Str, (∀ x ∈ ys, PyData.strOk x = true) → PyData.canLayAll0 (ys.map PyData.str) = true ∧ PyData.depthAll (ys.map PyData.str) = 0 := by
    intro ys
    induction ys with
    | nil => intro _; simp [PyData.canLayAll0, PyData.depthAll]
    | cons a r ih =>
      intro g
      obtain ⟨h1, h2⟩ := ih fun x hx => g x (List.mem_cons_of_mem _ hx)
      simp [PyData.canLayAll0, PyData.depthAll, PyData.canLay0, PyData.depth, h1, h2, g a List.mem_cons_self]
  obtain ⟨h1, h2⟩ := e xs h
  unfold SeqAt.shaped
  simp [PyData.canLay0, PyData.depth, h1, h2]
/-- what a name is -/
def lets : List Nat := tl "abcdefghijklmnopqrstuvwxyz"
def isNameL (l : List Nat) : Bool := decide (1 ≤ l.length) && decide (l.length ≤ 8) && l.all fun c => decide (c ∈ lets)
def isPathL (l : List Nat) : Bool := decide ((wds [] l).length ≤ 4) && (wds [] l).all isNameL
theorem joinL_cons (S p : List Nat) {ps : List (List Nat)} (h : ps ≠ []) : joinL S (p :: ps) = p ++ (S ++ joinL S ps) := by
  cases ps with
  | nil => exact absurd rfl h
  | cons a r => rfl
theorem joinL_wds : ∀ (l acc : List Nat), joinL [46] (wds acc l) = acc ++ l
  | [], acc => by simp [wds, joinL]
  | c :: r, acc => by
    unfold wds
    split
    · rename_i h
      rw [joinL_cons _ _ (wds_ne _ _), joinL_wds r []]
      simp [h]
    · rw [joinL_wds r _]
      simp
theorem wds_one : ∀ (l acc : List Nat), (wds acc l).length = 1 → wds acc l = [acc ++ l]
  | [], acc, _ => by simp [wds]
  | c :: r, acc, h => by
    unfold wds at h ⊢
    split at h
    · have := List.length_pos_iff.mpr (wds_ne r [])
      simp at h
      exact absurd h (wds_ne r [])
    · rename_i hc
      rw [if_neg hc, wds_one r _ h]
      simp
theorem wds_nodot : ∀ (l acc : List Nat), 46 ∉ l → wds acc l = [acc ++ l]
  | [], acc, _ => by simp [wds]
  | c :: r, acc, h => by
    have hc : c ≠ 46 := fun e => h (by simp [e])
    unfold wds
    rw [if_neg hc, wds_nodot r _ fun q => h (List.mem_cons_of_mem _ q)]
    simp
theorem name_nodot {l : List Nat} (h : isNameL l = true) : 46 ∉ l := fun hm => by
  unfold isNameL at h
  simp only [Bool.and_eq_true, List.all_eq_true, decide_eq_true_eq] at h
  have := h.2 46 hm
  revert this
  decide +kernel
theorem name_words (l : List Nat) : isNameL l = (decide ((wds [] l).length = 1) && (wds [] l).all isNameL) := by
  by_cases h1 : (wds [] l).length = 1
  · rw [wds_one l [] h1]
    simp
  · rw [decide_eq_false h1, Bool.false_and]
    cases h : isNameL l with
    | false => rfl
    | true => exact absurd (by rw [wds_nodot l [] (name_nodot h)]; rfl) h1
end HL

/-! HLk: the rules with the written part K named, for use within a comprehension's block too. -/
namespace HL
open PySem PySem.Spec PyProof.Rows L2 TL
def rLen (K : PySem.W.Frag) : List V → Hp → VK → Prop := fun vs H Q =>
  ∃ p ys, vs = [.ref p] ∧ (SqL K H p ys ∨ SqT K H p ys) ∧ Q (.int ys.length) H
def rLenS : List V → Hp → VK → Prop := fun vs H Q =>
  ∃ z : Str, vs = [.str z] ∧ z.length ≤ sizeLine ∧ Q (.int z.length) H
def rListOf (K : PySem.W.Frag) : List V → Hp → VK → Prop := fun vs H Q =>
  ∃ p ys, vs = [.ref p] ∧ (SqL K H p ys ∨ SqT K H p ys) ∧ ∀ l, H l = none → Q (.ref l) (upd H l (.lst ys))
def rTupleOf (K : PySem.W.Frag) : List V → Hp → VK → Prop := fun vs H Q =>
  ∃ p ys, vs = [.ref p] ∧ ((SqL K H p ys ∧ ∀ l, H l = none → Q (.ref l) (upd H l (.tup ys))) ∨ (SqT K H p ys ∧ Q (.ref p) H))
def rJoin (K : PySem.W.Frag) : V → List V → Hp → VK → Prop := fun x vs H Q =>
  ∃ a p, ∃ ys : List Str, x = .str a ∧ vs = [.ref p] ∧ (SqL K H p (ys.map V.str) ∨ SqT K H p (ys.map V.str)) ∧
    (ys.map (·.length)).sum + ys.length * a.length ≤ 16777216 ∧ Q (.str (Txt.join a ys)) H
def rSplit : V → List V → Hp → VK → Prop := fun x vs H Q =>
  ∃ a b, x = .str a ∧ vs = [.str b] ∧ (b.length == 0) = false ∧ a.length + 2 ≤ sizeLine ∧ rNewStrs (Txt.split a b) H Q
def rAddS : R2 := fun x y H Q => ∃ i j, x = .str i ∧ y = .str j ∧ i.length + j.length ≤ sizeLine ∧ Q (.str (i ++ j)) H
def rInSg : R2 := fun x y H Q => ∃ (c : Nat) (z : Str), x = .str ⟨#[c]⟩ ∧ y = .str z ∧ Q (.bl (decide (c ∈ z.cps.toList))) H
def rDivmod : List V → Hp → VK → Prop := fun vs H Q => ∃ i j, vs = [.int i, .int j] ∧ CDiv i j ∧ ∀ p, H p = none → Q (.ref p) (upd H p (.tup [.int (i / j), .int (i % j)]))
section
variable {X : Cx} {K : PySem.W.Frag} {e tg : Expr} {to : TE} {tl : TA} {T : String} {r : V → List V → Hp → VK → Prop}
theorem addS : OpR X (binaryOp .Add) rAddS := op_add_str
theorem inSg : OpR X (compareOp .In) rInSg := op_in_sign
theorem divmodR : CallR X (.builtin "divmod") rDivmod := call_divmod
theorem ixLK (h : X.K = K) : IxR X (rIxL K) := h ▸ ix_list
theorem ixTK (h : X.K = K) : IxR X (rIxT K) := h ▸ ix_tup
theorem slLK (h : X.K = K) : SlR X (rSlL K) := h ▸ sl_list
theorem slTK (h : X.K = K) : SlR X (rSlT K) := h ▸ sl_tup
theorem inK (h : X.K = K) : OpR X (compareOp .In) (rIn K false) := h ▸ op_in_seq
theorem ninK (h : X.K = K) : OpR X (compareOp .NotIn) (rIn K true) := h ▸ op_notIn_seq
theorem eqDK (h : X.K = K) (hu : X.A.units + 64 < cLine) : OpR X (compareOp .Eq) (rEqD K) := h ▸ op_eqD hu
theorem neDK (h : X.K = K) (hu : X.A.units + 64 < cLine) : OpR X (compareOp .NotEq) (rNeD K) := h ▸ op_neD hu
theorem lenK (h : X.K = K) : CallR X (.builtin "len") (rLen K) := h ▸ call_len_seq
theorem lenS : CallR X (.builtin "len") rLenS := call_len_str
theorem listK (h : X.K = K) : CallR X (.type "list") (rListOf K) := h ▸ call_list_of
theorem tupleK (h : X.K = K) : CallR X (.type "tuple") (rTupleOf K) := h ▸ call_tuple_of
theorem joinK (h : X.K = K) : MtR X "str.join" (rJoin K) := h ▸ mt_join
theorem splitR : MtR X "str.split" rSplit := mt_split
theorem isiK (h : X.K = K) : CallR X (.builtin "isinstance") (rIsi K) := h ▸ call_isi
theorem allK (h : X.K = K) (hc : X.calm = true) : CallR X (.builtin "all") (rAll K) := h ▸ cr_all hc
theorem anyK (h : X.K = K) (hc : X.calm = true) : CallR X (.builtin "any") (rAny K) := h ▸ cr_any hc
theorem reprK (h : X.K = K) (hg : X.A.guards = some []) (hu : X.A.units + 64 < cLine) : CallR X (.builtin "repr") (rReprD K) := h ▸ call_reprD hg hu
theorem kBM (h : X.K = K) (p : PE X e (tBM X.K T r to tl)) : PE X e (tBM K T r to tl) := h ▸ p
theorem kBM0 (h : X.K = K) (p : PE X e (tBM0 X.K T r to)) : PE X e (tBM0 K T r to) := h ▸ p
theorem kFld {f : Str} (h : X.K = K) (p : PE X e (tFld X.K to f)) : PE X e (tFld K to f) := h ▸ p
theorem kiL (h : X.K = K) (p : PI X tg e (iList X.K to)) : PI X tg e (iList K to) := h ▸ p
theorem kiT (h : X.K = K) (p : PI X tg e (iTup X.K to)) : PI X tg e (iTup K to) := h ▸ p
theorem kiE (h : X.K = K) (p : PI X tg e (iEnum X.K tl)) : PI X tg e (iEnum K tl) := h ▸ p
theorem kgT {n : Nat} {g : TGs} (h : X.K = K) (p : PG X e (gTup X.K n g)) : PG X e (gTup K n g) := h ▸ p
end
/-- a statement, what follows behind it: stopped at by the steps, to be cut by an invariant -/
def tCut (t u : TS) : TS := tSeq t u
theorem pss_cut2 {X : Cx} {st : Stmt} {rest : List Stmt} {t u : TS} (h1 : PS X st t) (h2 : PSs X rest u) : PSs X (st :: rest) (tCut t u) := pss_cons h1 h2
theorem s_cut {t u : TS} {D : Ends} {σ : L2.St} {H : Hp} (Iv : L2.St → Hp → Prop) (h1 : ∀ J : L2.St → Hp → Prop, (∀ σ H, Iv σ H → J σ H) → t { D with nx := J } σ H) (h2 : ∀ σ H, Iv σ H → u D σ H) : tCut t u D σ H := h1 (u D) h2
/-- a for over a walk: Pv by the turn, the slots, the heap -/
theorem for_go {J : It} {n : Nat} {G : Hp → Prop} {Y : Nat → Hp → V → Hp → Prop} (w : Walk J n G Y) {g : TG} {tb : TS} {nx : L2.St → Hp → Prop} {rt : VK} {σ : L2.St} {H : Hp}
    (Pv : Nat → L2.St → Hp → Prop) (h0 : Pv 0 σ H) (hG : ∀ i σ H, i ≤ n → Pv i σ H → G H)
    (hs : ∀ i x σ H H', i < n → Pv i σ H → Y i H x H' → g x σ H' fun σ2 H2 => tb { nx := Pv (i + 1), rt := rt, bk := nx, ct := Pv (i + 1) } σ2 H2) (hd : ∀ σ H, Pv n σ H → nx σ H) :
    ∃ W : Nat → Nat → L2.St → Hp → Prop, (∃ m, W 0 m σ H) ∧ ∀ i m σ H, W i m σ H → (J.stop i H ∧ nx σ H) ∨
      (J.go i H ∧ ∃ N : L2.St → Hp → Prop, (∀ σ' H', N σ' H' → ∃ m', m' < m ∧ W (i + 1) m' σ' H') ∧
        ∀ x H', J.yld i H x H' → g x σ H' fun σ2 H2 => tb { nx := N, rt := rt, bk := nx, ct := N } σ2 H2) :=
  for_it w (D := { nx := nx, rt := rt }) Pv h0 hG hs hd
/-! ### steps of these -/
section
variable {σ : L2.St} {H : Hp} {Q : VK} {K : PySem.W.Frag} {p : Addr} {ys : List V}
theorem s_lenL (h : SqL K H p ys) (q : Q (.int ys.length) H) : rLen K [.ref p] H Q := ⟨p, ys, rfl, .inl h, q⟩
theorem s_lenT (h : SqT K H p ys) (q : Q (.int ys.length) H) : rLen K [.ref p] H Q := ⟨p, ys, rfl, .inr h, q⟩
theorem s_lenStr {z : Str} (h : z.length ≤ sizeLine) (q : Q (.int z.length) H) : rLenS [.str z] H Q := ⟨z, rfl, h, q⟩
theorem s_listL (h : SqL K H p ys) (q : ∀ l, H l = none → Q (.ref l) (upd H l (.lst ys))) : rListOf K [.ref p] H Q := ⟨p, ys, rfl, .inl h, q⟩
theorem s_tupL (h : SqL K H p ys) (q : ∀ l, H l = none → Q (.ref l) (upd H l (.tup ys))) : rTupleOf K [.ref p] H Q := ⟨p, ys, rfl, .inl ⟨h, q⟩⟩
theorem s_joinL {a : Str} {zs : List Str} (h : SqL K H p (zs.map V.str)) (l : (zs.map (·.length)).sum + zs.length * a.length ≤ 16777216) (q : Q (.str (Txt.join a zs)) H) : rJoin K (.str a) [.ref p] H Q := ⟨a, p, zs, rfl, rfl, .inl h, l, q⟩
theorem s_splitS {a b : Str} (h1 : (b.length == 0) = false) (h2 : a.length + 2 ≤ sizeLine) (q : ∀ p, H p = none → Q (.ref p) (upd H p (.lst ((Txt.split a b).map V.str)))) : rSplit (.str a) [.str b] H Q := ⟨a, b, rfl, rfl, h1, h2, q⟩
theorem s_slL {lo hi : Option Int} (h : SqL K H p ys) (q : ∀ l, H l = none → Q (.ref l) (upd H l (.lst (cutV ys lo hi)))) : rSlL K (.ref p) lo hi H Q := ⟨p, ys, rfl, h, q⟩
theorem s_slS {z : Str} {lo hi : Option Int} (h : z.length ≤ sizeLine) (q : Q (.str (cutS z lo hi)) H) : rSlS (.str z) lo hi H Q := ⟨z, rfl, h, q⟩
theorem s_ixS {z : Str} {k : Int} {c : Nat} (h : z.length ≤ sizeLine) (a : atI z.cps.toList k = some c) (q : Q (.str ⟨#[c]⟩) H) : rIxS (.str z) (.int k) H Q := ⟨z, k, c, rfl, rfl, h, a, q⟩
theorem s_addS {a b : Str} (l : a.length + b.length ≤ sizeLine) (q : Q (.str (a ++ b)) H) : rAddS (.str a) (.str b) H Q := ⟨a, b, rfl, rfl, l, q⟩
theorem s_inSg {c : Nat} {z : Str} (q : Q (.bl (decide (c ∈ z.cps.toList))) H) : rInSg (.str ⟨#[c]⟩) (.str z) H Q := ⟨c, z, rfl, rfl, q⟩
theorem s_divmod {a b : Int} (c : CDiv a b) (q : ∀ p, H p = none → Q (.ref p) (upd H p (.tup [.int (a / b), .int (a % b)]))) : rDivmod [.int a, .int b] H Q := ⟨a, b, rfl, c, q⟩
theorem s_U {g : Int → V} {i : Int} (q : Q (g i) H) : rU g (.int i) H Q := ⟨i, rfl, q⟩
theorem s_nn {P : Prop} (q : P) : V.non = V.non ∧ P := ⟨rfl, q⟩
theorem s_tyL {P : Prop} (h : H p = some (.lst ys)) (q : P) : tyV K "list" (.ref p) H ∧ P := ⟨.inl ⟨rfl, _, sq_l h⟩, q⟩
theorem s_all {bs : List Bool} (h : SqL K H p (bs.map V.bl)) (q : Q (.bl (bs.all id)) H) : rAll K [.ref p] H Q := ⟨p, bs, rfl, h, q⟩
theorem s_any {bs : List Bool} (h : SqL K H p (bs.map V.bl)) (q : Q (.bl (bs.any id)) H) : rAny K [.ref p] H Q := ⟨p, bs, rfl, h, q⟩
theorem s_eqD {x y : V} {d e : PyData} (hd : Dp K H x d) (he : Dp K H y e) (sd : SeqAt.shaped d = true) (se : SeqAt.shaped e = true) (q : Q (.bl (PyData.eqv d e)) H) : rEqD K x y H Q := ⟨d, e, hd, he, sd, se, q⟩
theorem s_neD {x y : V} {d e : PyData} (hd : Dp K H x d) (he : Dp K H y e) (sd : SeqAt.shaped d = true) (se : SeqAt.shaped e = true) (q : Q (.bl (!PyData.eqv d e)) H) : rNeD K x y H Q := ⟨d, e, hd, he, sd, se, q⟩
end
end HL

/-! HLd: plain data (Dp) kept, its kinds. -/
namespace HL
open PySem PySem.Spec PyProof.Rows L2 TL
theorem Kp.seqT {W : List Addr} {K : PySem.W.Frag} {H H' : Hp} {a : Addr} {xs : List V} (k : Kp W H H') (n : Nin a W) (h : SqT K H a xs) : SqT K H' a xs := by
  rcases h with (h | ⟨o, h⟩) | h
  · exact .inl (.inl (k _ _ n h))
  · exact .inl (.inr ⟨o, k _ _ n h⟩)
  · exact .inr h
mutual
theorem Dp.same {K : PySem.W.Frag} {H H' : Hp} (k : Kp [] H H') : ∀ (d : PyData) (v : V), Dp K H v d → Dp K H' v d
  | .none, _, h => by cases h; exact .non
  | .bool b, _, h => by cases h; exact .bl b
  | .int i, _, h => by cases h; exact .int i
  | .str x, _, h => by cases h; exact .str x
  | .list ds, _, h => by
    cases h with
    | lst hs ha => exact .lst (k.seqL trivial hs) (Dp.sameAll k ds _ ha)
  | .tuple ds, _, h => by
    cases h with
    | tup hs ha => exact .tup (k.seqT trivial hs) (Dp.sameAll k ds _ ha)
  | .dict _, _, h => by cases h
theorem Dp.sameAll {K : PySem.W.Frag} {H H' : Hp} (k : Kp [] H H') : ∀ (ds : List PyData) (vs : List V), DpAll K H vs ds → DpAll K H' vs ds
  | [], _, h => by cases h; exact .nil
  | d :: ds, _, h => by
    cases h with
    | cons h1 h2 => exact .cons (Dp.same k d _ h1) (Dp.sameAll k ds _ h2)
end
/-- the tuples stay -/
def TupK (H H' : Hp) : Prop := ∀ a xs, Rd H a (.tup xs) → Rd H' a (.tup xs)
mutual
/-- data of tuples alone -/
def flatD : PyData → Bool
  | .none | .bool _ | .int _ | .str _ => true
  | .tuple xs => flatAll xs
  | .list _ | .dict _ => false
def flatAll : List PyData → Bool
  | [] => true
  | x :: xs => flatD x && flatAll xs
end
mutual
theorem Dp.tups {K : PySem.W.Frag} {H H' : Hp} (k : TupK H H') : ∀ (d : PyData) (v : V), flatD d = true → Dp K H v d → Dp K H' v d
  | .none, _, _, h => by cases h; exact .non
  | .bool b, _, _, h => by cases h; exact .bl b
  | .int i, _, _, h => by cases h; exact .int i
  | .str x, _, _, h => by cases h; exact .str x
  | .list ds, _, f, h => by simp [flatD] at f
  | .tuple ds, _, f, h => by
    cases h with
    | tup hs ha =>
      refine .tup ?_ (Dp.tupsAll k ds _ (by simpa [flatD] using f) ha)
      rcases hs with hs | hs
      · exact .inl (k _ _ hs)
      · exact .inr hs
  | .dict _, _, _, h => by cases h
theorem Dp.tupsAll {K : PySem.W.Frag} {H H' : Hp} (k : TupK H H') : ∀ (ds : List PyData) (vs : List V), flatAll ds = true → DpAll K H vs ds → DpAll K H' vs ds
  | [], _, _, h => by cases h; exact .nil
  | d :: ds, _, f, h => by
    simp only [flatAll, Bool.and_eq_true] at f
    cases h with
    | cons h1 h2 => exact .cons (Dp.tups k d _ f.1 h1) (Dp.tupsAll k ds _ f.2 h2)
end
/-- what holds no tuple -/
def NoTup (H : Hp) (a : Addr) : Prop := ∀ xs, ¬ Rd H a (.tup xs)
theorem TupK.of {W : List Addr} {H H' : Hp} (k : Kp W H H') (n : ∀ x ∈ W, NoTup H x) : TupK H H' := fun a xs h => by
  have na : Nin a W := Nin.intro fun x hx e => n x hx xs (e ▸ h)
  rcases h with h | ⟨o, h⟩
  · exact .inl (k _ _ na h)
  · exact .inr ⟨o, k _ _ na h⟩
theorem NoTup.lst {H : Hp} {a : Addr} {xs : List V} (h : H a = some (.lst xs)) : NoTup H a := fun ys r => by
  rcases r with r | ⟨o, r⟩
  · rw [h] at r
    cases r
  · rw [h] at r
    cases r
theorem TupK.trans {A B C : Hp} (h : TupK A B) (g : TupK B C) : TupK A C := fun a xs r => g a xs (h a xs r)
/-- the built-in type of plain data -/
def tyD : PyData → String
  | .none => "NoneType"
  | .bool _ => "bool"
  | .int _ => "int"
  | .str _ => "str"
  | .list _ => "list"
  | .tuple _ => "tuple"
  | .dict _ => "dict"
theorem Dp.ty {K : PySem.W.Frag} {H : Hp} : ∀ {d : PyData} {v : V}, Dp K H v d → TyX K H v (.type (tyD d))
  | _, _, .non => .base .non
  | _, _, .bl b => .base (.bl b)
  | _, _, .int i => .base (.int i)
  | _, _, .str x => .base (.str x)
  | _, _, .lst hs _ => by
    rcases hs with (h | ⟨o, h⟩) | ⟨o, its, n, h, hc, _⟩
    · exact .base (.lst h)
    · exact .base (.frz h)
    · exact .kList h hc
  | _, _, .tup hs _ => by
    rcases hs with (h | ⟨o, h⟩) | ⟨o, its, n, h, hc, _⟩
    · exact .base (.tup h)
    · exact .fTuple h
    · exact .kTuple h hc
end HL

/-! HLe: more rules with K named: len(set(t)), wide divmod, xs[::-1], str, int, unpacking a list. -/
namespace HL
open PySem PySem.Spec PyProof.Rows L2
def rDivmodP : List V → Hp → VK → Prop := fun vs H Q => ∃ i j, vs = [.int i, .int j] ∧ CDivP i j ∧ ∀ p, H p = none → Q (.ref p) (upd H p (.tup [.int (i / j), .int (i % j)]))
def rStrOf : List V → Hp → VK → Prop := fun vs H Q => (∃ a, vs = [.str a] ∧ Q (.str a) H) ∨ ∃ i : Int, vs = [.int i] ∧ i.natAbs.log2 < 1920 ∧ Q (.str (toString i)) H
def rIntOf : List V → Hp → VK → Prop := fun vs H Q => ∃ a n, vs = [.str a] ∧ intText? a = some n ∧ a.length ≤ 640 ∧ Q (.int n) H
def rStarts : V → List V → Hp → VK → Prop := fun x vs H Q => ∃ a b, x = .str a ∧ vs = [.str b] ∧ Q (.bl (Txt.startswith a b)) H
section
variable {X : Cx} {K : PySem.W.Frag} {e : Expr} {te : TE}
theorem divmodPR : CallR X (.builtin "divmod") rDivmodP := call_divmodW
theorem strOfR : CallR X (.type "str") rStrOf := fun pins s σ H xs us Q I r h => h.elim
  (fun z => SkE.call_str_str pins s σ H xs us Q I r z) (fun z => call_str_int pins s σ H xs us Q I r z)
theorem intOfR : CallR X (.type "int") rIntOf := call_int_str
theorem startsR : MtR X "str.startswith" rStarts := mt_startswith
theorem revK {k : Nat} {p1 p2 p3 pos : Pos} (hK : X.K = K) (he : PE X e te) : PE X (.Subscript e (.Slice none none (some (.UnaryOp .USub (.Constant (.int 1) k p1) p2)) p3) pos) (tRevL K te) := hK ▸ pe_revL he
theorem kgU {n : Nat} {g : TGs} {tg : Expr} (h : X.K = K) (p : PG X tg (gUnl X.K n g)) : PG X tg (gUnl K n g) := h ▸ p
end
section
variable {σ : L2.St} {H : Hp} {Q : VK} {K : PySem.W.Frag} {a : Addr} {xs : List V}
theorem s_divP {i j : Int} (j0 : 0 < j) (jm : j ≤ 2000000000000000000000000000000000000000000000000000000000000) (q : ∀ p, H p = none → Q (.ref p) (upd H p (.tup [.int (i / j), .int (i % j)]))) : rDivmodP [.int i, .int j] H Q := by
  refine ⟨i, j, rfl, ⟨j0, PyProof.noPylong_of_log2 ?_⟩, q⟩
  have h : j.natAbs ≤ 2000000000000000000000000000000000000000000000000000000000000 := by omega
  exact (Nat.log2_lt (by omega)).mpr (Nat.lt_of_le_of_lt h (by decide +kernel))
theorem s_revL {te : TE} (h : te σ H fun x H1 => ∃ a xs, x = .ref a ∧ SqL K H1 a xs ∧ ∀ p, H1 p = none → Q (.ref p) (upd H1 p (.lst xs.reverse))) : tRevL K te σ H Q := h
theorem s_gunl {n : Nat} {g : TGs} {R : L2.St → Hp → Prop} (h : SqL K H a xs) (l : xs.length = n) (q : g xs σ H R) : gUnl K n g (.ref a) σ H R := ⟨a, xs, rfl, h, l, q⟩
theorem s_slT {lo hi : Option Int} (h : SqT K H a xs) (n : ¬ (HT.sIx xs.length 0 lo = 0 ∧ HT.sIx xs.length xs.length hi = xs.length)) (q : ∀ l, H l = none → Q (.ref l) (upd H l (.tup (cutV xs lo hi)))) : rSlT K (.ref a) lo hi H Q := ⟨a, xs, rfl, h, n, q⟩
end
/-! ### xs == [], xs != [] -/
def rNil (K : PySem.W.Frag) (f : Bool → Bool) : R2 := fun x y H Q => ∃ a b xs, x = .ref a ∧ y = .ref b ∧ SqL K H a xs ∧ SqL K H b [] ∧ Q (.bl (f xs.isEmpty)) H
section
variable {X : Cx} {K : PySem.W.Frag}
theorem nil_sizes {K : PySem.W.Frag} {X : Cx} (hK : X.K = K) {pins : List (Addr × Obj)} {σ : L2.St} {H : Hp} {s : Shared} (I : Inv X pins σ H s) {a b : Addr} {xs : List V} (ha : SqL K H a xs) (hb : SqL K H b []) :
    ∃ us ws : Array Value, s.heap.IsList a us ∧ s.heap.IsList b ws ∧ us.size = xs.length ∧ ws.size = 0 := by
  subst hK
  obtain ⟨us, r1, p1, _⟩ := I.list ha
  obtain ⟨ws, r2, p2, _⟩ := I.list hb
  exact ⟨us.toArray, ws.toArray, p1.isList, p2.isList, by rw [List.size_toArray, ← r1.length], by rw [List.size_toArray, ← r2.length]; rfl⟩
theorem eqNilK (hK : X.K = K) (hu : X.A.units + 64 < cLine) : OpR X (compareOp .Eq) (rNil K fun b => b) := by
  intro pins s σ H x y v u Q I rx ry h
  obtain ⟨a, b, xs, rfl, rfl, ha, hb, q⟩ := h
  cases rx
  cases ry
  obtain ⟨us, ws, p1, p2, n1, n2⟩ := nil_sizes hK I ha hb
  have room : X.A.units < cLine := by omega
  show wpAny (model X.prog X.w) X.A (richCompare .Eq (.ref a) (.ref b)) (EP X pins σ Q) X.xe s
  cases xs with
  | nil =>
    have z := SeqAt.RcAt.lists (e := fun _ => true) p1 p2 (n1.trans n2.symm) room (fun j h1 _ => absurd h1 (by rw [n1]; exact Nat.not_lt_zero j))
    rw [n1] at z
    exact z _ _ _ _ ⟨.bl true, H, I, rfl, q⟩
  | cons c r =>
    exact SeqAt.RcAt.lists_lengths p1 p2 (by rw [n1, n2]; rfl) room _ _ _ _ ⟨.bl false, H, I, rfl, q⟩
theorem neNilK (hK : X.K = K) (hu : X.A.units + 64 < cLine) : OpR X (compareOp .NotEq) (rNil K fun b => !b) := by
  intro pins s σ H x y v u Q I rx ry h
  obtain ⟨a, b, xs, rfl, rfl, ha, hb, q⟩ := h
  cases rx
  cases ry
  obtain ⟨us, ws, p1, p2, n1, n2⟩ := nil_sizes hK I ha hb
  have room : X.A.units < cLine := by omega
  show wpAny (model X.prog X.w) X.A (richCompare .NotEq (.ref a) (.ref b)) (EP X pins σ Q) X.xe s
  cases xs with
  | nil =>
    have z := SeqAt.RcNeAt.lists (e := fun _ => true) p1 p2 (n1.trans n2.symm) room (fun j h1 _ => absurd h1 (by rw [n1]; exact Nat.not_lt_zero j))
    rw [n1] at z
    exact z _ _ _ _ ⟨.bl false, H, I, rfl, q⟩
  | cons c r =>
    exact SeqAt.RcNeAt.lists_lengths p1 p2 (by rw [n1, n2]; rfl) room _ _ _ _ ⟨.bl true, H, I, rfl, q⟩
theorem s_nil0 {f : Bool → Bool} {H : Hp} {Q : VK} {a b : Addr} {xs : List V} (ha : SqL K H a xs) (hb : SqL K H b []) (q : Q (.bl (f xs.isEmpty)) H) : rNil K f (.ref a) (.ref b) H Q := ⟨a, b, xs, rfl, rfl, ha, hb, q⟩
end
end HL

/-! HLn: plain facts: drawn items, names and paths made of letters. -/
namespace HL
open PySem PySem.Spec PyProof.Rows L2 TL
theorem pick {xs : List V} {v : Int} (h0 : 0 ≤ v) (h1 : v < (xs.length : Int)) : ∃ y, atI xs v = some y ∧ y ∈ xs := by
  obtain ⟨n, rfl⟩ := Int.eq_ofNat_of_zero_le h0
  have hn : n < xs.length := by omega
  exact ⟨_, atI_nat (List.getElem?_eq_getElem hn), List.getElem_mem hn⟩
/-- a text of one sign -/
abbrev sg (c : Nat) : Str := ⟨#[c]⟩
theorem pickS {z : Str} {v : Int} (h0 : 0 ≤ v) (h1 : v < ((tl z).length : Int)) : ∃ c, atI z.cps.toList v = some c ∧ c ∈ tl z := by
  obtain ⟨n, rfl⟩ := Int.eq_ofNat_of_zero_le h0
  have hn : n < (tl z).length := by omega
  exact ⟨_, atI_nat (List.getElem?_eq_getElem hn), List.getElem_mem hn⟩
theorem joinL_empty : ∀ cs : List Nat, joinL [] (cs.map fun c => [c]) = cs
  | [] => rfl
  | [c] => rfl
  | c :: d :: r => by
    have ih := joinL_empty (d :: r)
    show joinL [] ([c] :: (d :: r).map fun c => [c]) = c :: d :: r
    rw [joinL_cons [] [c] (by simp), ih]
    rfl
/-- ''.join of signs -/
theorem join_sg (cs : List Nat) : Txt.join "" (cs.map sg) = mkS cs := ext_tl (by
  rw [join_eq, tl_join, List.map_map, show tl "" = [] from by decide +kernel, tl_mkS]
  exact joinL_empty cs)
theorem sg_sum : ∀ cs : List Nat, ((cs.map sg).map (·.length)).sum = cs.length
  | [] => rfl
  | c :: r => by
    rw [List.map_cons, List.map_cons, List.sum_cons, sg_sum r, List.length_cons]
    show 1 + r.length = r.length + 1
    omega
theorem isNameL_of {cs : List Nat} (h1 : 1 ≤ cs.length) (h2 : cs.length ≤ 8) (h3 : ∀ c ∈ cs, c ∈ lets) : isNameL cs = true := by
  unfold isNameL
  rw [decide_eq_true h1, decide_eq_true h2, Bool.true_and, Bool.true_and, List.all_eq_true]
  exact fun c hc => decide_eq_true (h3 c hc)
theorem isNameL_len {cs : List Nat} (h : isNameL cs = true) : 1 ≤ cs.length ∧ cs.length ≤ 8 := by
  unfold isNameL at h
  simp only [Bool.and_eq_true, decide_eq_true_eq] at h
  exact h.1
theorem isNameL_mem {cs : List Nat} (h : isNameL cs = true) : ∀ c ∈ cs, c ∈ lets := by
  unfold isNameL at h
  simp only [Bool.and_eq_true, List.all_eq_true, decide_eq_true_eq] at h
  exact h.2
theorem isPathL_of {ps : List (List Nat)} (h0 : ps ≠ []) (h1 : ps.length ≤ 4) (h2 : ∀ p ∈ ps, isNameL p = true) : isPathL (joinL [46] ps) = true := by
  unfold isPathL
  rw [joinL_dot h0 fun p hp => name_nodot (h2 p hp), decide_eq_true h1, Bool.true_and, List.all_eq_true]
  exact h2
theorem len_le_of_sum : ∀ {ps : List (List Nat)} {m : Nat}, (∀ p ∈ ps, p.length ≤ m) → (ps.map List.length).sum ≤ ps.length * m
  | [], m, _ => by simp
  | p :: r, m, h => by
    have h1 := h p List.mem_cons_self
    have h2 := len_le_of_sum (ps := r) (m := m) fun q hq => h q (List.mem_cons_of_mem _ hq)
    rw [List.map_cons, List.sum_cons, List.length_cons, Nat.add_mul]
    omega
/-- signs of a path -/
def plets : List Nat := 46 :: lets
theorem isPathL_facts {l : List Nat} (h : isPathL l = true) : 1 ≤ l.length ∧ l.length ≤ 35 ∧ ∀ c ∈ l, c ∈ plets := by
  unfold isPathL at h
  simp only [Bool.and_eq_true, List.all_eq_true, decide_eq_true_eq] at h
  obtain ⟨h1, h2⟩ := h
  have e := joinL_wds l []
  rw [List.nil_append] at e
  have ne := wds_ne l []
  generalize wds [] l = ps at *
  refine ⟨?_, ?_, fun c hc => ?_⟩
  · cases ps with
    | nil => exact absurd rfl ne
    | cons p r =>
      have hp := (isNameL_len (h2 p List.mem_cons_self)).1
      rw [← e]
      cases r with
      | nil => simpa [joinL] using hp
      | cons q r =>
        rw [joinL_cons _ _ (by simp), List.length_append]
        omega
  · have s := len_le_of_sum (ps := ps) (m := 8) fun p hp => (isNameL_len (h2 p hp)).2
    have j : ∀ qs : List (List Nat), (joinL [46] qs).length + 1 ≤ (qs.map List.length).sum + qs.length + (if qs = [] then 1 else 0) := by
      intro qs
      induction qs with
      | nil => simp [joinL]
      | cons p r ih =>
        cases r with
        | nil => simp [joinL]
        | cons q r =>
          rw [joinL_cons _ _ (by simp), List.length_append, List.length_append, List.map_cons, List.sum_cons, List.length_cons, if_neg (by simp)]
          rw [if_neg (by simp)] at ih
          simp at ih ⊢
          omega
    have j1 := j ps
    rw [if_neg ne, e] at j1
    have : ps.length * 8 ≤ 32 := by omega
    omega
  · rw [← e] at hc
    rcases joinL_mem _ hc with z | ⟨p, hp, z⟩
    · rw [List.mem_singleton.mp z]
      exact List.mem_cons_self
    · exact List.mem_cons_of_mem _ (isNameL_mem (h2 p hp) c z)
theorem joinS46 (ps : List (List Nat)) : Txt.join "." (ps.map mkS) = mkS (joinL [46] ps) := joinS ps
theorem lets_small : ∀ c ∈ plets, c < 1114112 := by decide +kernel
theorem isNameL_ok {l : List Nat} (h : isNameL l = true) : OkL l := fun c hc => lets_small c (List.mem_cons_of_mem _ (isNameL_mem h c hc))
theorem isPathL_ok {l : List Nat} (h : isPathL l = true) : OkL l := fun c hc => lets_small c ((isPathL_facts h).2.2 c hc)
end HL

/-! HLx: more steps: extend, +, pop, list(tuple), str, int; slices; texts in lists. -/
namespace HL
open PySem PySem.Spec PyProof.Rows L2 TL
section
variable {σ : L2.St} {H : Hp} {Q : VK} {K : PySem.W.Frag} {l b : Addr} {xs zs : List V}
theorem s_extend (h : H l = some (.lst xs)) (g : H b = some (.lst zs)) (n : xs.length + zs.length ≤ sizeLine) (q : Q .non (upd H l (.lst (xs ++ zs)))) : rExtend (.ref l) [.ref b] H Q := ⟨l, b, xs, zs, rfl, rfl, h, g, n, q⟩
theorem s_cat (h : H l = some (.lst xs)) (g : H b = some (.lst zs)) (n : xs.length + zs.length ≤ sizeLine) (q : ∀ p, H p = none → Q (.ref p) (upd H p (.lst (xs ++ zs)))) : rCat (.ref l) (.ref b) H Q := ⟨l, b, xs, zs, rfl, rfl, h, g, n, q⟩
theorem s_pop {y : V} (h : H l = some (.lst xs)) (g : xs[xs.length - 1]? = some y) (q : Q y (upd H l (.lst xs.dropLast))) : rPop (.ref l) [] H Q := ⟨l, xs, y, rfl, rfl, h, g, q⟩
theorem s_listT (h : SqT K H l xs) (q : ∀ p, H p = none → Q (.ref p) (upd H p (.lst xs))) : rListOf K [.ref l] H Q := ⟨l, xs, rfl, .inr h, q⟩
theorem s_strS {a : Str} (q : Q (.str a) H) : rStrOf [.str a] H Q := .inl ⟨a, rfl, q⟩
theorem s_strI {i : Int} (h : i.natAbs.log2 < 1920) (q : Q (.str (Str.ofString (toString i))) H) : rStrOf [.int i] H Q := .inr ⟨i, rfl, h, q⟩
theorem s_starts {a c : Str} (q : Q (.bl (Txt.startswith a c)) H) : rStarts (.str a) [.str c] H Q := ⟨a, c, rfl, rfl, q⟩
theorem s_intOf {a : Str} {n : Int} (h : intText? a = some n) (g : a.length ≤ 640) (q : Q (.int n) H) : rIntOf [.str a] H Q := ⟨a, n, rfl, h, g, q⟩
end
theorem Kp.nil_W {W : List Addr} {A B : Hp} (k : Kp [] A B) : Kp W A B := k.weak fun x hx => absurd hx List.not_mem_nil
theorem Kp.tr {W : List Addr} {A B C : Hp} (k : Kp W A B) (l : Kp W B C) : Kp W A C := k.step l fun x hx => .inl hx
theorem inV_strs (z : Str) (ws : List Str) : inV (.str z) (ws.map V.str) = decide (z ∈ ws) := by
  unfold inV
  rw [List.any_map]
  induction ws with
  | nil => simp
  | cons a r ih =>
    rw [List.any_cons, ih]
    show (eqV (.str a) (.str z) || _) = _
    have e : eqV (.str a) (.str z) = decide (z = a) := by
      show decide _ = _
      exact decide_eq_decide.mpr ⟨fun h => Eq.symm h, fun h => Eq.symm h⟩
    rw [e]
    by_cases c : z = a
    · simp [c]
    · simp [c]
theorem flatV_strs (ws : List Str) : (ws.map V.str).all flatV = true := by
  rw [List.all_map, List.all_eq_true]
  exact fun _ _ => rfl
theorem cut_from1 (x : V) (r : List V) : cutV (x :: r) (some 1) none = r := by
  have e : HT.sIx (x :: r).length 0 (some 1) = 1 := (HT.sIx_nat (x :: r).length 0 1).trans (by rw [List.length_cons]; omega)
  unfold cutV
  rw [e, show HT.sIx (x :: r).length (x :: r).length none = (x :: r).length from rfl]
  simp
theorem cut_last1 (xs : List V) : cutV xs none (some (-1)) = xs.dropLast := by
  unfold cutV
  rw [HT.sIx_none, List.drop_zero, Nat.sub_zero, List.dropLast_eq_take]
  congr 1
  unfold HT.sIx
  simp
  omega
/-! comprehensions whose values are told by the heap too -/
def LcInvH (D : Addr) (PL : Nat → List V → Hp → Prop) (W : List Addr) (H1 : Hp) (i : Nat) (H : Hp) : Prop := ∃ xs, H D = some (.lst xs) ∧ PL i xs H ∧ xs.length ≤ i ∧ Kp W H1 H
section
variable {J : It} {n : Nat} {G : Hp → Prop} {Y : Nat → Hp → V → Hp → Prop} {D : Addr} {PL : Nat → List V → Hp → Prop} {W : List Addr} {H1 H H4 : Hp} {i : Nat} {y : V}
theorem lc_goH (w : Walk J n G Y) {g : TG} {tt : TT} {te : TE} {vs : List Nat} {σ : L2.St} {Qd : Hp → Prop} (nD : H1 D = none) (h0 : PL 0 [] (upd H1 D (.lst []))) (hG : ∀ H, Kp W H1 H → G H)
    (hs : ∀ i x H H', i < n → LcInvH D PL W H1 i H → Y i H x H' → g x (wipe σ vs) H' fun σ2 H2 => wipe σ2 vs = wipe σ vs ∧ tt σ2 H2 fun b H3 =>
      if b = true then te σ2 H3 fun y H4 => ∃ a, H4 D = some (.lst a) ∧ a.length < sizeLine ∧ LcInvH D PL W H1 (i + 1) (upd H4 D (.lst (a ++ [y]))) else LcInvH D PL W H1 (i + 1) H3)
    (hd : ∀ H, LcInvH D PL W H1 n H → Qd H) :
    ∃ W : Nat → Nat → Hp → Prop, (∃ m, W 0 m (upd H1 D (.lst []))) ∧ ∀ i m H, W i m H →
      (J.stop i H ∧ Qd H) ∨ (J.go i H ∧ ∃ Nx : Hp → Prop, (∀ H', Nx H' → ∃ m', m' < m ∧ W (i + 1) m' H') ∧ ∀ x H', J.yld i H x H' → g x (wipe σ vs) H' fun σ2 H2 => wipe σ2 vs = wipe σ vs ∧ tt σ2 H2 fun b H3 =>
        if b = true then te σ2 H3 fun y H4 => ∃ acc, H4 D = some (.lst acc) ∧ acc.length < sizeLine ∧ Nx (upd H4 D (.lst (acc ++ [y]))) else Nx H3) :=
  lc_it w (LcInvH D PL W H1) ⟨[], upd_same, h0, Nat.le_refl _, Kp.refl.upd_new nD⟩ (fun i H _ p => by obtain ⟨_, _, _, _, k⟩ := p; exact hG H k) hs hd
theorem LcInvH.put {xs : List V} (e : H D = some (.lst xs)) (l : xs.length ≤ i) (k0 : Kp W H1 H) (nD : H1 D = none) (nW : Nin D W) (k : Kp W H H4) (sz : i < sizeLine) (p : PL (i + 1) (xs ++ [y]) (upd H4 D (.lst (xs ++ [y])))) :
    ∃ a, H4 D = some (.lst a) ∧ a.length < sizeLine ∧ LcInvH D PL W H1 (i + 1) (upd H4 D (.lst (a ++ [y]))) :=
  ⟨xs, k.get nW e, by omega, xs ++ [y], upd_same, p, by rw [List.length_append, List.length_singleton]; omega, (k0.tr k).upd_loc nD⟩
end
theorem s_iRng2 {ta : TA} {σ : L2.St} {H : Hp} {R : It → Hp → Prop} (h : ta σ H fun vs H1 => ∃ i j : Int, vs = [.int i, .int j] ∧ (-(2 ^ 62) ≤ i ∧ i < 2 ^ 62 ∧ -(2 ^ 62) ≤ j ∧ j < 2 ^ 62) ∧ R (Itr i (j - i).toNat) H1) : iRng2 ta σ H R := h
end HL

/-! HLz: zip of three lists. -/
namespace HL
open PySem PySem.Spec PyProof.Rows L2 TL
/-- three lists walked together, the items in new tuples -/
def Itz3 (K : PySem.W.Frag) (a b c : Addr) : It :=
  ⟨fun i H => ∃ (xs ys zs : List V) (x y z : V), SqL K H a xs ∧ SqL K H b ys ∧ SqL K H c zs ∧ xs[i]? = some x ∧ ys[i]? = some y ∧ zs[i]? = some z,
    fun i H v H' => ∃ T x y z, v = .ref T ∧ H T = none ∧ H' = upd H T (.tup [x, y, z]) ∧ (∀ xs, SqL K H a xs → xs[i]? = some x) ∧ (∀ ys, SqL K H b ys → ys[i]? = some y) ∧ ∀ zs, SqL K H c zs → zs[i]? = some z,
    fun i H => ∃ xs ys zs : List V, SqL K H a xs ∧ SqL K H b ys ∧ SqL K H c zs ∧ min (min xs.length ys.length) zs.length = i⟩
section
variable {P : Program} {w : World} {K : PySem.W.Frag} {elts : List Expr} {kk : Nat} {tpos : Pos} {a b c z TI TO i1 i2 i3 : Addr}
theorem turn_zip3 (D : ZipSep3 z TI TO i1 i2 i3 [i1, a] [i2, b] [i3, c]) :
    Turn P w K (.Tuple elts kk tpos) (Itz3 K a b c) [z, TI, TO, i1, i2, i3] z
      (fun i h => IsZip h z TI TO .none ∧ IsTupOf3 h TI (.ref i1) (.ref i2) (.ref i3) ∧ (∃ x y u, IsTupOf3 h TO x y u) ∧ h.IsListIter i1 a i ∧ h.IsListIter i2 b i ∧ h.IsListIter i3 c i) where
  mem := by simp
  obj := fun i h st q hq => by
    obtain ⟨hz, hTI, ⟨x, y, u, hTO⟩, ⟨o1, e1, _, d1⟩, ⟨o2, e2, _, d2⟩, ⟨o3, e3, _, d3⟩⟩ := st
    have e' : q = z ∨ q = TI ∨ q = TO ∨ q = i1 ∨ q = i2 ∨ q = i3 := by simpa using hq
    rcases e' with rfl | rfl | rfl | rfl | rfl | rfl
    · exact ⟨_, hz, fun v q => nomatch q⟩
    · exact ⟨_, hTI, fun v q => nomatch q⟩
    · exact ⟨_, hTO, fun v q => nomatch q⟩
    · exact ⟨o1, e1, fun v q => by rw [d1] at q; cases q⟩
    · exact ⟨o2, e2, fun v q => by rw [d2] at q; cases q⟩
    · exact ⟨o3, e3, fun v q => by rw [d3] at q; cases q⟩
  keep := fun i h h' st k => by
    obtain ⟨hz, hTI, ⟨x, y, u, hTO⟩, h1, h2, h3⟩ := st
    exact ⟨k z (by simp) _ hz, k TI (by simp) _ hTI, ⟨x, y, u, k TO (by simp) _ hTO⟩, h1.at fun o q => k i1 (by simp) o q, h2.at fun o q => k i2 (by simp) o q, h3.at fun o q => k i3 (by simp) o q⟩
  item := by
    intro X hP hw hK hc i pins s σ H E I hf st hg
    subst hP hw hK
    obtain ⟨hz, hTI, hTO, h1, h2, h3⟩ := st
    obtain ⟨xs, ys, zs, x, y, u, qx, qy, qz, ex, ey, ez⟩ := hg
    obtain ⟨is1, r1, p1, _⟩ := I.list qx
    obtain ⟨is2, r2, p2, _⟩ := I.list qy
    obtain ⟨is3, r3, p3, _⟩ := I.list qz
    have hh : X.A.in1.handled = none := I.ok.hd hc
    have nofp : ∀ {q l : Addr} {vs : List V}, q ∈ [z, TI, TO, i1, i2, i3] → SqL X.K H l vs → l < s.heap.objs.size := fun _ hl => by
      obtain ⟨_, _, p, _⟩ := I.list hl; exact p.lt
    have n1 : a ≠ i1 := by
      rintro rfl
      obtain ⟨o, e, c1, d1⟩ := h1
      obtain ⟨o2, e2, c2, _⟩ := p1.isList
      rw [e] at e2
      cases e2
      rw [c1] at c2
      exact absurd (Value.type.inj c2) (by decide)
    have n2 : b ≠ i2 := by
      rintro rfl
      obtain ⟨o, e, c1, d1⟩ := h2
      obtain ⟨o2, e2, c2, _⟩ := p2.isList
      rw [e] at e2
      cases e2
      rw [c1] at c2
      exact absurd (Value.type.inj c2) (by decide)
    have n3 : c ≠ i3 := by
      rintro rfl
      obtain ⟨o, e, c1, d1⟩ := h3
      obtain ⟨o2, e2, c2, _⟩ := p3.isList
      rw [e] at e2
      cases e2
      rw [c1] at c2
      exact absurd (Value.type.inj c2) (by decide)
    have W := WalksT.zipD3 (prog := X.prog) (w := X.w) (A := X.A) D (Draws.list hh i1 a n1 is1.toArray) (Draws.list hh i2 b n2 is2.toArray) (Draws.list hh i3 c n3 is3.toArray)
    have l1 := r1.length
    have l2 := r2.length
    have l3 := r3.length
    have g1 := (List.getElem?_eq_some_iff.mp ex).1
    have g2 := (List.getElem?_eq_some_iff.mp ey).1
    have g3 := (List.getElem?_eq_some_iff.mp ez).1
    refine W.item i s _ _ (by simp only [List.size_toArray]; omega) ⟨hz, hTI, hTO, ⟨h1, p1.isList⟩, ⟨h2, p2.isList⟩, ⟨h3, p3.isList⟩⟩ fun T vals h' tk hP hT hv hm hk => ?_
    refine ⟨_, rfl, W.go elts kk tpos i T _ _ _ hm fun h'' st' hk' => ?_⟩
    obtain ⟨v1, v2, v3, f1, f2, f3, rfl⟩ := hP
    obtain ⟨u1, b1, w1⟩ := r1.get ex
    obtain ⟨u2, b2, w2⟩ := r2.get ey
    obtain ⟨u3, b3, w3⟩ := r3.get ez
    have c1 : v1 = u1 := by
      have : is1[i]? = some v1 := by simpa using f1
      rw [b1] at this; exact (Option.some.inj this).symm
    have c2 : v2 = u2 := by
      have : is2[i]? = some v2 := by simpa using f2
      rw [b2] at this; exact (Option.some.inj this).symm
    have c3 : v3 = u3 := by
      have : is3[i]? = some v3 := by simpa using f3
      rw [b3] at this; exact (Option.some.inj this).symm
    subst c1 c2 c3
    have sub : ∀ q ∈ [z, TO, i1, i2, i3], q ∈ [z, TI, TO, i1, i2, i3] := fun q hq => by
      simp only [List.mem_cons, List.not_mem_nil, or_false] at hq ⊢
      rcases hq with h | h | h | h | h <;> simp [h]
    have tw := W.apart i T h' hm
    have hv2 := hv.at (h' := h'') fun o e => hk' T o tw e
    have new : ObjOk X.prog X.w (upd H T (.tup [x, y, u])) h'' T (.tup [x, y, u]) :=
      ⟨by show 3 ≤ sizeLine; decide, [v1, v2, v3], .cons w1 (.cons w2 (.cons w3 .nil)), by
        obtain ⟨o, e, c, n, d⟩ := hv2
        exact ⟨o, e, c, n, d⟩⟩
    have I1 : Inv X pins σ (upd H T (.tup [x, y, u])) { s with heap := h'', toks := tk } :=
      I.turnedNew (ch := [z, TI, TO, i1, i2, i3]) (fun q o hb e => hk' q o (fun m => hb (sub q m)) (hk q o (fun m => hb (sub q m)) e)) hf hT new
    obtain ⟨hz2, hTI2, hTO2, ⟨h12, _⟩, ⟨h22, _⟩, ⟨h32, _⟩⟩ := st'
    refine ⟨.ref T, _, I1, rfl, ⟨T, x, y, u, rfl, I.hok.fresh hT, rfl, fun l hl => by rw [I.list_inj hl qx]; exact ex, fun l hl => by rw [I.list_inj hl qy]; exact ey, fun l hl => by rw [I.list_inj hl qz]; exact ez⟩, ⟨hz2, hTI2, hTO2, h12, h22, h32⟩, fun q hq => ?_⟩
    have hlt : q < s.heap.objs.size := by
      have e' : q = z ∨ q = TI ∨ q = TO ∨ q = i1 ∨ q = i2 ∨ q = i3 := by simpa using hq
      obtain ⟨_, _, _, hTO⟩ := hTO
      rcases e' with rfl | rfl | rfl | rfl | rfl | rfl
      · exact Heap.lt_size hz
      · exact Heap.lt_size hTI
      · exact Heap.lt_size hTO
      · obtain ⟨_, e1, _⟩ := h1; exact Heap.lt_size e1
      · obtain ⟨_, e1, _⟩ := h2; exact Heap.lt_size e1
      · obtain ⟨_, e1, _⟩ := h3; exact Heap.lt_size e1
    rw [upd_ne (Nat.ne_of_lt (Nat.lt_of_lt_of_le hlt hT))]
    exact (hf q hq).1
  done := by
    intro X hP hw hK hc i pins s σ H E I hf st hg
    subst hP hw hK
    obtain ⟨hz, hTI, hTO, h1, h2, h3⟩ := st
    obtain ⟨xs, ys, zs, qx, qy, qz, hn⟩ := hg
    obtain ⟨is1, r1, p1, _⟩ := I.list qx
    obtain ⟨is2, r2, p2, _⟩ := I.list qy
    obtain ⟨is3, r3, p3, _⟩ := I.list qz
    have hh : X.A.in1.handled = none := I.ok.hd hc
    have n1 : a ≠ i1 := by
      rintro rfl
      obtain ⟨o, e, c1, d1⟩ := h1
      obtain ⟨o2, e2, c2, _⟩ := p1.isList
      rw [e] at e2
      cases e2
      rw [c1] at c2
      exact absurd (Value.type.inj c2) (by decide)
    have n2 : b ≠ i2 := by
      rintro rfl
      obtain ⟨o, e, c1, d1⟩ := h2
      obtain ⟨o2, e2, c2, _⟩ := p2.isList
      rw [e] at e2
      cases e2
      rw [c1] at c2
      exact absurd (Value.type.inj c2) (by decide)
    have n3 : c ≠ i3 := by
      rintro rfl
      obtain ⟨o, e, c1, d1⟩ := h3
      obtain ⟨o2, e2, c2, _⟩ := p3.isList
      rw [e] at e2
      cases e2
      rw [c1] at c2
      exact absurd (Value.type.inj c2) (by decide)
    have W := WalksT.zipD3 (prog := X.prog) (w := X.w) (A := X.A) D (Draws.list hh i1 a n1 is1.toArray) (Draws.list hh i2 b n2 is2.toArray) (Draws.list hh i3 c n3 is3.toArray)
    have l1 := r1.length
    have l2 := r2.length
    have l3 := r3.length
    have en : min (min is1.toArray.size is2.toArray.size) is3.toArray.size = i := by simp only [List.size_toArray]; omega
    refine W.done s _ _ (by rw [en]; exact ⟨hz, hTI, hTO, ⟨h1, p1.isList⟩, ⟨h2, p2.isList⟩, ⟨h3, p3.isList⟩⟩) fun h' tk hk => ⟨rfl, ?_⟩
    exact I.turnedL (ch := [z, TI, TO, i1, i2, i3]) (fun q o hb e => hk q o (fun m => hb (by
      simp only [List.mem_cons, List.not_mem_nil, or_false] at m ⊢
      rcases m with h | h | h | h | h <;> simp [h])) e) hf
  self := fun A i s Q E st h => wpAny_pyIter_zip st.1 h
end
def iZip3 (K : PySem.W.Frag) (ta : TA) : TI := fun σ H R => ta σ H fun vs H1 => ∃ a b c xs ys zs, vs = [.ref a, .ref b, .ref c] ∧ SqL K H1 a xs ∧ SqL K H1 b ys ∧ SqL K H1 c zs ∧ R (Itz3 K a b c) H1
theorem pi_zip3 {X : Cx} {K : PySem.W.Frag} (hK : X.K = K) {e e2 e3 : Expr} {ta : TA} {p pos tpos : Pos} {elts : List Expr} {kk : Nat} (hg : Gl X "zip") (hm : X.mg "zip" = none) (ha : PA X [e, e2, e3] ta)
    (hs : starEach [e, e2, e3] X.env = (false, eval e X.env) :: starEach [e2, e3] X.env := by rfl) (hpl : (backTo pos (starEach [e2, e3] X.env)).any (·.1) = false := by rfl) :
    PI X (.Tuple elts kk tpos) (.Call (.Name "zip" p) [e, e2, e3] [] pos) (iZip3 K ta) := by
  subst hK
  refine ⟨fun pins s σ H R I h => ?_⟩
  refine Call_ (ld_blt I hg hm boot_zip (callWith_type1 (thn (ha.run pos pins s σ H _ I h) fun us s1 ⟨vs, H1, I1, r1, q1⟩ => ?_) hs hpl))
  obtain ⟨a, b, c, xs, ys, zs, ex, qx, qy, qz, q⟩ := q1
  subst ex
  obtain ⟨u1, us, rfl, ru, r1⟩ : ∃ u1 us', us = u1 :: us' ∧ RelV (V.ref a) u1 ∧ Vals [.ref b, .ref c] us' := by
    cases r1 with
    | cons r rr => exact ⟨_, _, rfl, r, rr⟩
  obtain ⟨u2, u3, rfl, ru2, ru3⟩ := vals2 r1
  cases ru
  cases ru2
  cases ru3
  obtain ⟨is1, r1, p1, _⟩ := I1.list qx
  obtain ⟨is2, r2, p2, _⟩ := I1.list qy
  obtain ⟨is3, r3, p3, _⟩ := I1.list qz
  refine zip_begins3 (begins_list a is1.toArray) (begins_list b is2.toArray) (begins_list c is3.toArray) p1.isList p2.isList p3.isList fun h' hz hTI hTO o1 o2 o3 hsz hk => wpAny_pyIter_zip hz ?_
  have I2 : Inv X pins σ H1 { s1 with heap := h' } := I1.kept (t' := s1.toks) hk
  have S := zip_sep3 (N := s1.heap.objs.size) (fp1 := [a]) (fp2 := [b]) (fp3 := [c]) (fun q hq => by rw [List.mem_singleton.mp hq]; exact p1.lt) (fun q hq => by rw [List.mem_singleton.mp hq]; exact p2.lt) (fun q hq => by rw [List.mem_singleton.mp hq]; exact p3.lt)
  refine ⟨_, [s1.heap.objs.size + 5, s1.heap.objs.size + 3, s1.heap.objs.size + 4, s1.heap.objs.size, s1.heap.objs.size + 1, s1.heap.objs.size + 2], _, _, H1, rfl, I2, turn_zip3 S, ⟨hz, hTI, ⟨_, _, _, hTO⟩, ⟨_, o1, rfl, rfl⟩, ⟨_, o2, rfl, rfl⟩, ⟨_, o3, rfl, rfl⟩⟩, fun q hq => ?_, q⟩
  have hle : s1.heap.objs.size ≤ q := by
    have e' : q = s1.heap.objs.size + 5 ∨ q = s1.heap.objs.size + 3 ∨ q = s1.heap.objs.size + 4 ∨ q = s1.heap.objs.size ∨ q = s1.heap.objs.size + 1 ∨ q = s1.heap.objs.size + 2 := by simpa using hq
    rcases e' with rfl | rfl | rfl | rfl | rfl | rfl
    · exact Nat.le_add_right _ _
    · exact Nat.le_add_right _ _
    · exact Nat.le_add_right _ _
    · exact Nat.le_refl _
    · exact Nat.le_add_right _ _
    · exact Nat.le_add_right _ _
  exact I1.fpOk hle (I1.hok.fresh hle)
def YTrip (xs ys zs : Nat → Option V) : Nat → Hp → V → Hp → Prop := fun i H v H' => ∃ T x y z, v = .ref T ∧ H T = none ∧ H' = upd H T (.tup [x, y, z]) ∧ xs i = some x ∧ ys i = some y ∧ zs i = some z
theorem walk_zip3 {K : PySem.W.Frag} {a b c : Addr} {xs ys zs : List V} {n : Nat} (h1 : xs.length = n) (h2 : ys.length = n) (h3 : zs.length = n) :
    Walk (Itz3 K a b c) n (fun H => SqL K H a xs ∧ SqL K H b ys ∧ SqL K H c zs) (YTrip (fun i => xs[i]?) (fun i => ys[i]?) (fun i => zs[i]?)) := by
  refine ⟨fun i _ hi q => ?_, fun _ q => ⟨xs, ys, zs, q.1, q.2.1, q.2.2, by omega⟩, fun i H v H' _ q y => ?_⟩
  · exact ⟨xs, ys, zs, xs[i], ys[i], zs[i], q.1, q.2.1, q.2.2, by simp, by simp, by simp⟩
  · obtain ⟨T, x, y, z, h1, h2, h3, h4, h5, h6⟩ := y
    exact ⟨T, x, y, z, h1, h2, h3, h4 xs q.1, h5 ys q.2.1, h6 zs q.2.2⟩
theorem s_iZip3 {K : PySem.W.Frag} {ta : TA} {σ : L2.St} {H : Hp} {R : It → Hp → Prop} (h : ta σ H fun vs H1 => ∃ a b c xs ys zs, vs = [.ref a, .ref b, .ref c] ∧ SqL K H1 a xs ∧ SqL K H1 b ys ∧ SqL K H1 c zs ∧ R (Itz3 K a b c) H1) : iZip3 K ta σ H R := h
end HL

/-! HLo: enumerate of a tuple; expressions and statements that are never come to. -/
namespace HL
open PySem PySem.Spec PyProof.Rows L2 TL
/-- a tuple walked, each item in a new pair behind its number -/
def ItnT (K : PySem.W.Frag) (a : Addr) : It where
  go i H := ∃ (xs : List V) (x : V), SqT K H a xs ∧ xs[i]? = some x
  yld i H v H' := ∃ T x, v = .ref T ∧ H T = none ∧ H' = upd H T (.tup [.int (i : Nat), x]) ∧ ∀ xs, SqT K H a xs → xs[i]? = some x
  stop i H := ∃ xs : List V, SqT K H a xs ∧ xs.length = i
set_option maxHeartbeats 1000000 in
/-- enumerate of one thing, its two new objects -/
theorem enum_one {v : Value} {o : Obj} {B : Heap → Prop} (b : Begins v o B) :
    Meets (Builtin.«enumerate.__new__» ⟨[.type "enumerate", v], []⟩) fun _ R s => B s.heap ∧
      R (.ok (.ret (.ref (s.heap.push o).objs.size))) { s with heap := (s.heap.push o).push { cls := .type "enumerate", data := .fields #[.none, .bool false, .ref s.heap.objs.size, rawInt 0, .none, .none] } } := by
  refine .of_wp fun prog w A R s h => ?_
  rcases s with ⟨hp, g, d, tk, os⟩
  rcases h with ⟨h0, h1⟩
  have sub := sub_enumerate
  have it : ∀ {A' : Around} {E Q : Value → Shared → Prop}, Q (.ref hp.objs.size) ⟨hp.push o, g, d, tk, os⟩ → wpAny (model prog w) A' (pyIter v) Q E ⟨hp, g, d, tk, os⟩ := fun z => b.iter prog w _ _ ⟨hp, g, d, tk, os⟩ _ h0 z
  wp_walk using it
  apply wpAny_stack_any
  intro st
  apply wpAny_pure
  split
  · next c _ _ _ _ _ =>
    cases (c == Value.type "enumerate") <;> (wp_walk using it; exact ⟨_, rfl, h1⟩)
  · wp_walk using it
    exact ⟨_, rfl, h1⟩
theorem call_enumT {prog : Program} {w : World} {A : Around} {E : Value → Shared → Prop} {s : Shared} {l : Addr} {its : Array Value} {Q : Value → Shared → Prop} (hL : s.heap.IsTuple l its)
    (k : ∀ h', IsEnum h' (s.heap.objs.size + 1) s.heap.objs.size 0 .none → h'.IsTupleIter s.heap.objs.size l 0 → (∀ b o, s.heap.get? b = some o → h'.get? b = some o) → Q (.ref (s.heap.objs.size + 1)) { s with heap := h' }) :
    wpAny (model prog w) A (call (.type "enumerate") [.ref l]) Q E s := by
  apply callType_new F.called_enumerate (by decide) (F.typeCall_enumerate_1 _) (F.newCall_enumerate_1 _) (fun obj => F.args_object_init_2 obj _) F.entry_enumerate_new (enum_one (begins_tuple l its))
  refine ⟨hL, ?_⟩
  have z : (s.heap.push { cls := .type "tuple_iterator", data := .fields #[.ref l, .int 0 0] }).objs.size = s.heap.objs.size + 1 := Heap.size_push ..
  have e := Heap.get?_push_size (s.heap.push { cls := .type "tuple_iterator", data := .fields #[.ref l, .int 0 0] }) (o := { cls := .type "enumerate", data := .fields #[.none, .bool false, .ref s.heap.objs.size, rawInt 0, .none, .none] }) rfl
  show _ ∧ _
  rw [z] at e ⊢
  exact ⟨⟨_, e, rfl⟩, k _ e ⟨_, Heap.get?_push_of_some _ (Heap.get?_push_size _ rfl), rfl, rfl⟩ fun b o x => Heap.get?_push_of_some _ (Heap.get?_push_of_some _ x)⟩
section
variable {P : Program} {w : World} {K : PySem.W.Frag} {elts : List Expr} {kk : Nat} {tpos : Pos}
theorem turn_enumT (a e it : Addr) : Turn P w K (.Tuple elts kk tpos) (ItnT K a) [e, it] e fun i h => (∃ old, IsEnum h e it ((i : Nat) : Int) old) ∧ h.IsTupleIter it a i ∧ e ≠ it where
  mem := List.mem_cons_self
  obj i h st q hq := by
    obtain ⟨⟨old, he⟩, ⟨o, ho, _, hd⟩, _⟩ := st
    simp only [List.mem_cons, List.not_mem_nil, or_false] at hq
    rcases hq with rfl | rfl
    · exact ⟨_, he, fun v z => nomatch z⟩
    · exact ⟨o, ho, fun v z => by rw [hd] at z; cases z⟩
  keep i h h' st k := by
    obtain ⟨⟨old, he⟩, hi, hne⟩ := st
    exact ⟨⟨old, k e List.mem_cons_self _ he⟩, hi.at fun o z => k it (by simp) o z, hne⟩
  item := by
    intro X hP hw hK hc i pins s σ H E I hf st hg
    subst hP hw hK
    obtain ⟨⟨old, he⟩, hit, hne⟩ := st
    obtain ⟨xs, x, hq, hx⟩ := hg
    obtain ⟨is, rv, tp, _⟩ := I.tuple hq
    obtain ⟨u, hu, ru⟩ := rv.get hx
    have tp : s.heap.IsTuple a is.toArray := tp
    have lu := (List.getElem?_eq_some_iff.mp hu).1
    have tt : ∃ o, s.heap.get? a = some o ∧ o.cls = .type "tuple" := by
      obtain ⟨o, e, c, _⟩ := tp
      exact ⟨o, e, c⟩
    have na : a ≠ it := by
      rintro rfl
      obtain ⟨o, e1, c1⟩ := tt
      obtain ⟨o2, e2, c2, _⟩ := hit
      rw [e1] at e2
      cases e2
      rw [c1] at c2
      exact absurd (Value.type.inj c2) (by decide)
    have nea : e ≠ a := by
      rintro rfl
      obtain ⟨o, e1, c1⟩ := tt
      rw [he] at e1
      cases e1
      exact absurd (Value.type.inj c1) (by decide)
    have hh : X.A.in1.handled = none := I.ok.hd hc
    have hel : e < s.heap.objs.size := Heap.lt_size he
    have hil : it < s.heap.objs.size := by
      obtain ⟨_, z, _⟩ := hit
      exact Heap.lt_size z
    refine wpAny_pyNext_enum_itemC (n := is.toArray.size) (Draws.tuple hh it a na is.toArray) he ⟨hit, tp⟩ (by simpa using lu) hne (by simp [hne, nea]) fun x' h' tk hx' ho st' hT hsz hk => ?_
    have ux : x' = u := by
      have : is[i]? = some x' := by simpa using hx'
      rw [hu] at this
      exact (Option.some.inj this).symm
    subst ux
    refine ⟨_, rfl, wpAny_letOwnedTupleGo_enum ho fun h'' he' sb => ?_⟩
    have nT : s.heap.objs.size ≠ e := Nat.ne_of_gt hel
    have new : ObjOk X.prog X.w (upd H s.heap.objs.size (.tup [.int (i : Nat), x])) h'' s.heap.objs.size (.tup [.int (i : Nat), x]) :=
      ⟨by show 2 ≤ sizeLine; decide, [.int i tk, x'], .cons ⟨_, rfl⟩ (.cons ru .nil), _, (sb.2 _ nT).trans hT, rfl, _, rfl⟩
    have I1 : Inv X pins σ (upd H s.heap.objs.size (.tup [.int (i : Nat), x])) { s with heap := h'', toks := tk + 1 } :=
      I.turnedNew (ch := [e, it]) (fun b ob hb z => (sb.2 b fun y => hb (by simp [y])).trans (hk b ob (fun y => hb (by simp [y])) (fun y => hb (by simp [y])) z)) hf (Nat.le_refl _) new
    refine ⟨.ref s.heap.objs.size, _, I1, rfl, ⟨_, x, rfl, I.hok.fresh (Nat.le_refl _), rfl, fun ys hy => by rw [I.tuple_inj hy hq]; exact hx⟩, ⟨⟨x', ?_⟩, st'.1.at fun o z => (sb.2 it (Ne.symm hne)).trans z, hne⟩, fun b hb => ?_⟩
    · rw [show ((i + 1 : Nat) : Int) = (i : Int) + 1 from by omega]
      exact he'
    · have : b < s.heap.objs.size := by
        simp only [List.mem_cons, List.not_mem_nil, or_false] at hb
        rcases hb with rfl | rfl
        · exact hel
        · exact hil
      rw [upd_ne (Nat.ne_of_lt this)]
      exact (hf b hb).1
  done := by
    intro X hP hw hK hc i pins s σ H E I hf st hg
    subst hP hw hK
    obtain ⟨⟨old, he⟩, hit, hne⟩ := st
    obtain ⟨xs, hq, hx⟩ := hg
    obtain ⟨is, rv, tp, _⟩ := I.tuple hq
    have tp : s.heap.IsTuple a is.toArray := tp
    have na : a ≠ it := by
      rintro rfl
      obtain ⟨o, e1, c1, _⟩ := tp
      obtain ⟨o2, e2, c2, _⟩ := hit
      rw [e1] at e2
      cases e2
      rw [c1] at c2
      exact absurd (Value.type.inj c2) (by decide)
    have hh : X.A.in1.handled = none := I.ok.hd hc
    obtain ⟨f0, f1, f2, f3, f4, f5⟩ := hf it (by simp)
    have hl := rv.length
    have hn : i = is.toArray.size := by
      rw [List.size_toArray, ← hl]
      exact hx.symm
    subst hn
    exact wpAny_pyNext_enum_endD (Draws.tuple hh it a na is.toArray) he ⟨hit, tp⟩ fun h' eb => ⟨rfl, I.turned (t' := s.toks) (fun b o hb z => eb b o hb z) f0 f1 f3 f4 f5⟩
  self A i s Q E st h := by
    obtain ⟨⟨_, he⟩, _⟩ := st
    exact wpAny_pyIter_enum he h
end
def iEnumT (K : PySem.W.Frag) (ta : TA) : TI := fun σ H R => ta σ H fun vs H1 => ∃ a xs, vs = [.ref a] ∧ SqT K H1 a xs ∧ R (ItnT K a) H1
theorem pi_enumT {X : Cx} {K : PySem.W.Frag} (hK : X.K = K) {e : Expr} {ta : TA} {p pos tpos : Pos} {elts : List Expr} {kk : Nat} (hg : Gl X "enumerate") (hm : X.mg "enumerate" = none) (ha : PA X [e] ta) (hs : starEach [e] X.env = [(false, eval e X.env)] := by rfl) :
    PI X (.Tuple elts kk tpos) (.Call (.Name "enumerate" p) [e] [] pos) (iEnumT K ta) := by
  subst hK
  constructor
  intro pins s σ H R I h
  refine Call_ (ld_blt I hg hm boot_enumerate (PyProof.Rows.callWith_type1 (thn (ha.run pos pins s σ H _ I h) ?_) hs rfl))
  rintro us s1 ⟨vs, H1, I1, r1, a, xs, rfl, hq, q⟩
  cases r1 with
  | cons r rr =>
    cases rr
    cases r
    obtain ⟨is, rv, tp, _⟩ := I1.tuple hq
    refine call_enumT (show s1.heap.IsTuple a is.toArray from tp) fun h' he hit hk => wpAny_pyIter_enum he ?_
    have I2 : Inv X pins σ H1 { s1 with heap := h' } := I1.kept (t' := s1.toks) hk
    refine ⟨s1.heap.objs.size + 1, [s1.heap.objs.size + 1, s1.heap.objs.size], _, _, H1, rfl, I2, turn_enumT a (s1.heap.objs.size + 1) s1.heap.objs.size, ⟨⟨.none, he⟩, hit, Nat.succ_ne_self _⟩, fun b hb => ?_, q⟩
    have le : s1.heap.objs.size ≤ b := by
      simp only [List.mem_cons, List.not_mem_nil, or_false] at hb
      rcases hb with rfl | rfl
      · exact Nat.le_add_right _ 1
      · exact Nat.le_refl _
    exact I1.fpOk le (I1.hok.fresh le)
theorem walk_enumT {K : PySem.W.Frag} {a : Addr} {xs : List V} : Walk (ItnT K a) xs.length (fun H => SqT K H a xs) (YPair (fun i => some (.int (i : Nat))) fun i => xs[i]?) :=
  ⟨fun i _ hi q => ⟨xs, xs[i], q, by simp [hi]⟩, fun _ q => ⟨xs, q, rfl⟩, fun i H v H' _ q ⟨T, x, h1, h2, h3, h4⟩ => ⟨T, .int (i : Nat), x, h1, h2, h3, rfl, h4 xs q⟩⟩
theorem s_iEnumT {K : PySem.W.Frag} {σ : L2.St} {H : Hp} {ta : TA} {R : It → Hp → Prop} (h : ta σ H fun vs H1 => ∃ a xs, vs = [.ref a] ∧ SqT K H1 a xs ∧ R (ItnT K a) H1) : iEnumT K ta σ H R := h
theorem s_iItems {σ : L2.St} {H : Hp} {td : TE} {R : It → Hp → Prop} (h : td σ H fun x H1 => ∃ d o kvs, x = .ref d ∧ H1 d = some (.frz o (.dK kvs)) ∧ R (Iti d o kvs) H1) : iItems td σ H R := h
theorem s_iVals {σ : L2.St} {H : Hp} {td : TE} {R : It → Hp → Prop} (h : td σ H fun x H1 => ∃ d o kvs, x = .ref d ∧ H1 d = some (.frz o (.dK kvs)) ∧ R (Itd d o kvs) H1) : iVals td σ H R := h
theorem s_iKeys {σ : L2.St} {H : Hp} {td : TE} {R : It → Hp → Prop} (h : td σ H fun x H1 => ∃ d o, x = .ref d ∧ ((∃ kvs, H1 d = some (.frz o (.dK kvs)) ∧ R (Itk d o kvs) H1) ∨ ∃ kvs, H1 d = some (.frz o (.dT kvs)) ∧ R (Itkt d o kvs) H1)) : iKeys td σ H R := h
theorem s_lock {t : TS} {D : Ends} {σ : L2.St} {H : Hp} {d : Addr} {u : HO} (e : H d = some u) (m : L2.Mut (some u)) (h : ∀ od, t ⟨fun σ' H' => H' d = some (.frz od u) ∧ D.nx σ' (upd H' d u), fun v H' => H' d = some (.frz od u) ∧ D.rt v (upd H' d u), fun σ' H' => H' d = some (.frz od u) ∧ D.bk σ' (upd H' d u), fun σ' H' => H' d = some (.frz od u) ∧ D.ct σ' (upd H' d u)⟩ σ (upd H d (.frz od u))) : tLock t D σ H := ⟨d, u, e, m, h⟩
theorem s_lockE {t : TE} {σ : L2.St} {H : Hp} {Q : VK} {d : Addr} {u : HO} (e : H d = some u) (m : L2.Mut (some u)) (h : ∀ od, t σ (upd H d (.frz od u)) fun v H' => H' d = some (.frz od u) ∧ Q v (upd H' d u)) : tLockE t σ H Q := ⟨d, u, e, m, h⟩
/-- what is never evaluated -/
def tNevE : TE := fun _ _ _ => False
theorem pe_never {X : Cx} {e : Expr} : PE X e tNevE := ⟨fun _ _ _ _ _ _ h => h.elim⟩
end HL

/-! HLp: enumerate of a list, its start told by name. -/
namespace HL
open PySem PySem.Spec PyProof.Rows L2 TL
/-- a list walked, each item in a new pair behind its number, from k0 on -/
def ItnS (K : PySem.W.Frag) (a : Addr) (k0 : Int) : It where
  go i H := ∃ (xs : List V) (x : V), SqL K H a xs ∧ xs[i]? = some x
  yld i H v H' := ∃ T x, v = .ref T ∧ H T = none ∧ H' = upd H T (.tup [.int (k0 + (i : Nat)), x]) ∧ ∀ xs, SqL K H a xs → xs[i]? = some x
  stop i H := ∃ xs : List V, SqL K H a xs ∧ xs.length = i
section
variable {M : Model} {A : Around} {E : Value → Shared → Prop} {s : Shared} {env : Env} {pos : Pos} {T : String}
theorem callWith_tyK0 {args : List (Bool × Sem Value)} {keywords : List (Option Str × Sem Value)} {Q : Value → Shared → Prop} (hp : args.any (·.1) = false) (hn : keywords.any (·.1.isNone) = false)
    (h : wpAny M A (evalArgs (.type T) true args keywords) (fun a s₁ => wpAny M A (call (.type T) a.pos a.kw) Q E s₁) E s) : wpAny M A (callWith pos (.type T) [] args keywords) Q E s := by
  unfold callWith
  refine wpAny_bind (wpAny_holding (wpAny_mono h ?_ fun _ _ x => x))
  intro a s₁ h₁
  refine wpAny_bind (wpAny_standAt ?_)
  simp only [hp, hn, Bool.or_false]
  refine wpAny_bind (wpAny_pure ?_)
  refine wpAny_bind (wpAny_mono h₁ ?_ fun _ _ x => x)
  intro r s₂ hr
  exact wpAny_bind (wpAny_holding (wpAny_point (wpAny_pure hr)))
theorem callWith_tyK {e : Expr} {rest : List Expr} {kws : List Keyword} {Q : Value → Shared → Prop}
    (h : wpAny M A (spliced (backTo pos (starEach (e :: rest) env))) (fun vs s₁ => wpAny M A (evalAll ((backToKw pos (keywordEach kws env)).map (·.2)))
      (fun ks s₂ => wpAny M A (call (.type T) vs (((backToKw pos (keywordEach kws env)).filterMap (·.1)).zip ks)) Q E s₂) E s₁) E s)
    (he : backTo pos (starEach (e :: rest) env) = (false, eval e env) :: backTo pos (starEach rest env))
    (hp : (backTo pos (starEach (e :: rest) env)).any (·.1) = false)
    (ha : (backToKw pos (keywordEach kws env)).all (·.1.isSome) = true)
    (hn : (backToKw pos (keywordEach kws env)).any (·.1.isNone) = false) :
    wpAny M A (callWith pos (.type T) [] (backTo pos (starEach (e :: rest) env)) (backToKw pos (keywordEach kws env))) Q E s := by
  refine callWith_tyK0 hp hn ?_
  rw [he] at h ⊢
  exact evalArgs_kwB ha h
end
section
variable {P : Program} {w : World} {K : PySem.W.Frag} {elts : List Expr} {kk : Nat} {tpos : Pos}
theorem turn_enumS (a e it : Addr) (k0 : Int) : Turn P w K (.Tuple elts kk tpos) (ItnS K a k0) [e, it] e fun i h => (∃ old, IsEnum h e it (k0 + (i : Nat)) old) ∧ h.IsListIter it a i ∧ e ≠ it where
  mem := List.mem_cons_self
  obj i h st q hq := by
    obtain ⟨⟨old, he⟩, ⟨o, ho, _, hd⟩, _⟩ := st
    simp only [List.mem_cons, List.not_mem_nil, or_false] at hq
    rcases hq with rfl | rfl
    · exact ⟨_, he, fun v z => nomatch z⟩
    · exact ⟨o, ho, fun v z => by rw [hd] at z; cases z⟩
  keep i h h' st k := by
    obtain ⟨⟨old, he⟩, hi, hne⟩ := st
    exact ⟨⟨old, k e List.mem_cons_self _ he⟩, hi.at fun o z => k it (by simp) o z, hne⟩
  item := by
    intro X hP hw hK hc i pins s σ H E I hf st hg
    subst hP hw hK
    obtain ⟨⟨old, he⟩, hit, hne⟩ := st
    obtain ⟨xs, x, hq, hx⟩ := hg
    obtain ⟨is, rv, lp, _⟩ := I.list hq
    obtain ⟨u, hu, ru⟩ := rv.get hx
    have tp : s.heap.IsList a is.toArray := lp.isList
    have lu := (List.getElem?_eq_some_iff.mp hu).1
    have tt : ∃ o, s.heap.get? a = some o ∧ o.cls = .type "list" := by
      obtain ⟨o, e, c, _⟩ := tp
      exact ⟨o, e, c⟩
    have na : a ≠ it := by
      rintro rfl
      obtain ⟨o, e1, c1⟩ := tt
      obtain ⟨o2, e2, c2, _⟩ := hit
      rw [e1] at e2
      cases e2
      rw [c1] at c2
      exact absurd (Value.type.inj c2) (by decide)
    have nea : e ≠ a := by
      rintro rfl
      obtain ⟨o, e1, c1⟩ := tt
      rw [he] at e1
      cases e1
      exact absurd (Value.type.inj c1) (by decide)
    have hh : X.A.in1.handled = none := I.ok.hd hc
    have hel : e < s.heap.objs.size := Heap.lt_size he
    have hil : it < s.heap.objs.size := by
      obtain ⟨_, z, _⟩ := hit
      exact Heap.lt_size z
    refine wpAny_pyNext_enum_itemC (n := is.toArray.size) (Draws.list hh it a na is.toArray) he ⟨hit, tp⟩ (by simpa using lu) hne (by simp [hne, nea]) fun x' h' tk hx' ho st' hT hsz hk => ?_
    have ux : x' = u := by
      have : is[i]? = some x' := by simpa using hx'
      rw [hu] at this
      exact (Option.some.inj this).symm
    subst ux
    refine ⟨_, rfl, wpAny_letOwnedTupleGo_enum ho fun h'' he' sb => ?_⟩
    have nT : s.heap.objs.size ≠ e := Nat.ne_of_gt hel
    have new : ObjOk X.prog X.w (upd H s.heap.objs.size (.tup [.int (k0 + (i : Nat)), x])) h'' s.heap.objs.size (.tup [.int (k0 + (i : Nat)), x]) :=
      ⟨by show 2 ≤ sizeLine; decide, [.int (k0 + (i : Nat)) tk, x'], .cons ⟨_, rfl⟩ (.cons ru .nil), _, (sb.2 _ nT).trans hT, rfl, _, rfl⟩
    have I1 : Inv X pins σ (upd H s.heap.objs.size (.tup [.int (k0 + (i : Nat)), x])) { s with heap := h'', toks := tk + 1 } :=
      I.turnedNew (ch := [e, it]) (fun b ob hb z => (sb.2 b fun y => hb (by simp [y])).trans (hk b ob (fun y => hb (by simp [y])) (fun y => hb (by simp [y])) z)) hf (Nat.le_refl _) new
    refine ⟨.ref s.heap.objs.size, _, I1, rfl, ⟨_, x, rfl, I.hok.fresh (Nat.le_refl _), rfl, fun ys hy => by rw [I.list_inj hy hq]; exact hx⟩, ⟨⟨x', ?_⟩, st'.1.at fun o z => (sb.2 it (Ne.symm hne)).trans z, hne⟩, fun b hb => ?_⟩
    · rw [show k0 + ((i + 1 : Nat) : Int) = k0 + (i : Int) + 1 from by omega]
      exact he'
    · have : b < s.heap.objs.size := by
        simp only [List.mem_cons, List.not_mem_nil, or_false] at hb
        rcases hb with rfl | rfl
        · exact hel
        · exact hil
      rw [upd_ne (Nat.ne_of_lt this)]
      exact (hf b hb).1
  done := by
    intro X hP hw hK hc i pins s σ H E I hf st hg
    subst hP hw hK
    obtain ⟨⟨old, he⟩, hit, hne⟩ := st
    obtain ⟨xs, hq, hx⟩ := hg
    obtain ⟨is, rv, lp, _⟩ := I.list hq
    have tp : s.heap.IsList a is.toArray := lp.isList
    have na : a ≠ it := by
      rintro rfl
      obtain ⟨o, e1, c1, _⟩ := tp
      obtain ⟨o2, e2, c2, _⟩ := hit
      rw [e1] at e2
      cases e2
      rw [c1] at c2
      exact absurd (Value.type.inj c2) (by decide)
    have hh : X.A.in1.handled = none := I.ok.hd hc
    obtain ⟨f0, f1, f2, f3, f4, f5⟩ := hf it (by simp)
    have hl := rv.length
    have hn : i = is.toArray.size := by
      rw [List.size_toArray, ← hl]
      exact hx.symm
    subst hn
    exact wpAny_pyNext_enum_endD (Draws.list hh it a na is.toArray) he ⟨hit, tp⟩ fun h' eb => ⟨rfl, I.turned (t' := s.toks) (fun b o hb z => eb b o hb z) f0 f1 f3 f4 f5⟩
  self A i s Q E st h := by
    obtain ⟨⟨_, he⟩, _⟩ := st
    exact wpAny_pyIter_enum he h
end
def iEnumS (K : PySem.W.Frag) (ta tk : TA) : TI := fun σ H R => ta σ H fun vs H1 => tk σ H1 fun ks H2 => ∃ a xs k0, vs = [.ref a] ∧ ks = [.int k0] ∧ -1000 ≤ k0 ∧ k0 ≤ 1000 ∧ SqL K H2 a xs ∧ R (ItnS K a k0) H2
theorem pi_enumS {X : Cx} {K : PySem.W.Frag} (hK : X.K = K) {e kv : Expr} {ta tk : TA} {p pos tpos kp : Pos} {elts : List Expr} {kk : Nat} (hg : Gl X "enumerate") (hm : X.mg "enumerate" = none) (ha : PA X [e] ta) (hk : PK X [⟨some "start", kv, kp⟩] tk) (hs : starEach [e] X.env = [(false, eval e X.env)] := by rfl) :
    PI X (.Tuple elts kk tpos) (.Call (.Name "enumerate" p) [e] [⟨some "start", kv, kp⟩] pos) (iEnumS K ta tk) := by
  subst hK
  constructor
  intro pins s σ H R I h
  refine wpAny_Call_Name_kw (ld_blt I hg hm boot_enumerate ?_)
  refine callWith_tyK (thn (ha.run pos pins s σ H _ I h) ?_) (by rw [hs]; rfl) (by rw [hs]; rfl) rfl rfl
  rintro us s0 ⟨vs, H0, I0, r0, q0⟩
  refine thn (hk.run pos pins s0 σ H0 _ I0 q0) ?_
  rintro ws s1 ⟨ks, H1, I1, rk, a, xs, k0, rfl, rfl, l0, l1, hq, q⟩
  cases rk with
  | cons rk rr =>
    cases rr
    obtain ⟨t, rfl⟩ : ∃ t, _ = Value.int k0 t := rk
    cases r0 with
    | cons r rr =>
      cases rr
      cases r
      obtain ⟨is, rv, lp, _⟩ := I1.list hq
      have tp : s1.heap.IsList a is.toArray := lp.isList
      refine enum_begins_start (begins_list a is.toArray) tp (by omega) (by omega) fun h' he hit hsz hk => wpAny_pyIter_enum he ?_
      have I2 : Inv X pins σ H1 { s1 with heap := h' } := I1.kept (t' := s1.toks) hk
      have he0 : IsEnum h' (s1.heap.objs.size + 1) s1.heap.objs.size (k0 + (0 : Nat)) .none := by simpa using he
      refine ⟨s1.heap.objs.size + 1, [s1.heap.objs.size + 1, s1.heap.objs.size], _, _, H1, rfl, I2, turn_enumS a (s1.heap.objs.size + 1) s1.heap.objs.size k0, ⟨⟨.none, he0⟩, ⟨_, hit, rfl, rfl⟩, Nat.succ_ne_self _⟩, fun b hb => ?_, q⟩
      have le : s1.heap.objs.size ≤ b := by
        simp only [List.mem_cons, List.not_mem_nil, or_false] at hb
        rcases hb with rfl | rfl
        · exact Nat.le_add_right _ 1
        · exact Nat.le_refl _
      exact I1.fpOk le (I1.hok.fresh le)
theorem walk_enumS {K : PySem.W.Frag} {a : Addr} {k0 : Int} {xs : List V} : Walk (ItnS K a k0) xs.length (fun H => SqL K H a xs) (YPair (fun i => some (.int (k0 + (i : Nat)))) fun i => xs[i]?) :=
  ⟨fun i _ hi q => ⟨xs, xs[i], q, by simp [hi]⟩, fun _ q => ⟨xs, q, rfl⟩, fun i H v H' _ q ⟨T, x, h1, h2, h3, h4⟩ => ⟨T, .int (k0 + (i : Nat)), x, h1, h2, h3, rfl, h4 xs q⟩⟩
theorem s_iEnumS {K : PySem.W.Frag} {σ : L2.St} {H : Hp} {ta tk : TA} {R : It → Hp → Prop} (h : ta σ H fun vs H1 => tk σ H1 fun ks H2 => ∃ a xs k0, vs = [.ref a] ∧ ks = [.int k0] ∧ -1000 ≤ k0 ∧ k0 ≤ 1000 ∧ SqL K H2 a xs ∧ R (ItnS K a k0) H2) : iEnumS K ta tk σ H R := h
theorem kiR {X : Cx} {tg e : Expr} {K : PySem.W.Frag} {tl : TA} (h : X.K = K) (p : PI X tg e (iRev X.K tl)) : PI X tg e (iRev K tl) := h ▸ p
theorem s_iRev {K : PySem.W.Frag} {σ : L2.St} {H : Hp} {ta : TA} {R : It → Hp → Prop} (h : ta σ H fun vs H1 => ∃ (a : Addr) (xs : List V), vs = [.ref a] ∧ SqL K H1 a xs ∧ R (Itv K a xs.length) H1) : iRev K ta σ H R := h
theorem s_iZip {K : PySem.W.Frag} {σ : L2.St} {H : Hp} {ta : TA} {R : It → Hp → Prop} (h : ta σ H fun vs H1 => ∃ a b xs ys, vs = [.ref a, .ref b] ∧ SqL K H1 a xs ∧ SqL K H1 b ys ∧ R (Itz K a b) H1) : iZip K ta σ H R := h
end HL

/-! HLy: instances, dicts with text keys, sorted texts. -/
namespace HL
open PySem PySem.Spec PyProof.Rows L2 TL
section
variable {σ : L2.St} {H : Hp} {Q : VK} {K : PySem.W.Frag} {ta tb te : TE} {D : Ends} {a C dx : Addr} {fs : List (Str × V)} {f : Str} {v : V}
theorem s_ins {R : V → Prop} (h : H a = some (.ins C dx fs)) (c : Cls K C) (n : NoAttr K C f) (l : fs.lookup f = some v) (q : R v) : ∃ a' C dx fs v, V.ref a = .ref a' ∧ H a' = some (.ins C dx fs) ∧ Cls K C ∧ NoAttr K C f ∧ fs.lookup f = some v ∧ R v := ⟨a, C, dx, fs, v, rfl, h, c, n, l, q⟩
theorem s_sfld (h : tb σ H fun y H1 => ta σ H1 fun x H2 => ∃ a C dx fs, x = .ref a ∧ H2 a = some (.ins C dx fs) ∧ Cls K C ∧ NoAttr K C f ∧ fs.length < 1000 ∧ D.nx σ (upd H2 a (.ins C dx (putF f y fs)))) : sFld K ta tb f D σ H := h
theorem s_insP {P : Hp → Prop} {y : V} (h : H a = some (.ins C dx fs)) (c : Cls K C) (n : NoAttr K C f) (l : fs.length < 1000) (q : P (upd H a (.ins C dx (putF f y fs)))) : ∃ a' C dx fs, V.ref a = .ref a' ∧ H a' = some (.ins C dx fs) ∧ Cls K C ∧ NoAttr K C f ∧ fs.length < 1000 ∧ P (upd H a' (.ins C dx (putF f y fs))) := ⟨a, C, dx, fs, rfl, h, c, n, l, q⟩
theorem s_meth {m : Str} {sp : Sp} {dvs : List V} {E : XK} {t : TA} (h : ta σ H fun x H1 => ∃ a dx fs, x = .ref a ∧ H1 a = some (.ins C dx fs) ∧ fs.lookup m = none ∧ t σ H1 fun vs H2 => sp (x :: (vs ++ dvs)) H2 Q E) : tMeth C m sp dvs E ta t σ H Q := h
theorem s_insM {P : Prop} {m : Str} (h : H a = some (.ins C dx fs)) (l : fs.lookup m = none) (q : P) : ∃ a' dx fs, V.ref a = .ref a' ∧ H a' = some (.ins C dx fs) ∧ fs.lookup m = none ∧ P := ⟨a, dx, fs, rfl, h, l, q⟩
theorem s_make {sp : Sp} {dvs : List V} {E : XK} {t : TA} (h : t σ H fun vs H1 => ∀ x dx, H1 x = none → H1 dx = none → dx ≠ x → sp (.ref x :: (vs ++ dvs)) (upd (upd H1 dx (.own x)) x (.ins C dx [])) (fun v H2 => v = .non ∧ Q (.ref x) H2) E) : tMake C sp dvs E t σ H Q := h
theorem s_dnew (h : ∀ p, H p = none → Q (.ref p) (upd H p (.dK []))) : tDNewK σ H Q := h
theorem s_dget (h : ta σ H fun x H1 => tb σ H1 fun y H2 => ∃ a v, x = .ref a ∧ DGet H2 a y (some v) ∧ Q v H2) : tDGet ta tb σ H Q := h
theorem s_din (h : ta σ H fun y H1 => tb σ H1 fun x H2 => ∃ a o, x = .ref a ∧ DGet H2 a y o ∧ Q (.bl o.isSome) H2) : tDIn ta tb σ H Q := h
theorem s_dnotin (h : ta σ H fun y H1 => tb σ H1 fun x H2 => ∃ a o, x = .ref a ∧ DGet H2 a y o ∧ Q (.bl (!o.isSome)) H2) : tDNotIn ta tb σ H Q := h
theorem s_dput (h : te σ H fun v H1 => ta σ H1 fun x H2 => tb σ H2 fun y H3 => ∃ a H4, x = .ref a ∧ DPut H3 a y v H4 ∧ D.nx σ H4) : sDPut ta tb te D σ H := h
theorem s_dget1 (h : ta σ H fun x H1 => ∃ a, x = .ref a ∧ IsD H1 a ∧ tb σ H1 fun y H2 => ∃ o, DGet H2 a y o ∧ Q (o.getD .non) H2) : tDGet1 ta tb σ H Q := h
variable {kvs : List (Key × V)} {z : Str}
theorem s_getS {R : V → Prop} (h : H a = some (.dK kvs)) (e : valV kvs (.inr z) = some v) (q : R v) : ∃ a' v, V.ref a = .ref a' ∧ DGet H a' (.str z) (some v) ∧ R v := ⟨a, v, rfl, e ▸ DGet.k (k := Sum.inr z) h, q⟩
theorem s_inS {R : Option V → Prop} (h : H a = some (.dK kvs)) (q : R (valV kvs (.inr z))) : ∃ a' o, V.ref a = .ref a' ∧ DGet H a' (.str z) o ∧ R o := ⟨a, _, rfl, DGet.k (k := Sum.inr z) h, q⟩
theorem s_putS {P : Hp → Prop} (h : H a = some (.dK kvs)) (l : kvs.length < sizeLine) (q : P (upd H a (.dK (putK kvs (.inr z) v)))) : ∃ a' H4, V.ref a = .ref a' ∧ DPut H a' (.str z) v H4 ∧ P H4 := ⟨a, _, rfl, DPut.k (k := Sum.inr z) h l, q⟩
end
/-! repr of a number, a list, a tuple -/
def rReprA (K : PySem.W.Frag) : List V → Hp → VK → Prop := fun xs H Q => (∃ i : Int, xs = [.int i] ∧ i.natAbs.log2 < 1920 ∧ Q (.str (Str.ofString (toString i))) H) ∨ rReprD K xs H Q
theorem reprAK {X : Cx} {K : PySem.W.Frag} (h : X.K = K) (hg : X.A.guards = some []) (hu : X.A.units + 64 < cLine) : CallR X (.builtin "repr") (rReprA K) := fun pins s σ H xs us Q I r z => z.elim
  (fun z => SkE.call_repr_int pins s σ H xs us Q I r z) (fun z => reprK h hg hu pins s σ H xs us Q I r z)
/-! sorted texts -/
theorem sortedSK {X : Cx} {K : PySem.W.Frag} (h : X.K = K) : CallR X (.builtin "sorted") (rSortedS K) := h ▸ cr_sortedS
theorem rising_head : ∀ {r : List Str} {p : Str}, risingS p r = true → ∀ x ∈ r, ¬ tl x < tl p
  | [], _, _, x, hx => absurd hx List.not_mem_nil
  | y :: r, p, h, x, hx => by
    have h' : (!ltCps y.cps.toList p.cps.toList && risingS y r) = true := h
    simp only [Bool.and_eq_true, Bool.not_eq_true', ltCps_eq, decide_eq_false_iff_not] at h'
    rcases List.mem_cons.mp hx with rfl | hx
    · exact h'.1
    · have h2 := rising_head h'.2 x hx
      exact List.not_lt.mpr (List.le_trans (List.not_lt.mp h'.1) (List.not_lt.mp h2))
theorem rising_pw : ∀ {r : List Str} {p : Str}, risingS p r = true → (p :: r).Pairwise fun a b => ¬ tl b < tl a
  | [], _, _ => List.pairwise_singleton _ _
  | y :: r, p, h => by
    have h' : (!ltCps y.cps.toList p.cps.toList && risingS y r) = true := h
    simp only [Bool.and_eq_true] at h'
    exact List.pairwise_cons.mpr ⟨rising_head h, rising_pw h'.2⟩
theorem sortedS_pw : ∀ {l : List Str}, sortedS l = true → l.Pairwise fun a b => ¬ tl b < tl a
  | [], _ => .nil
  | _ :: _, h => rising_pw h
theorem sorted_eq {xs ys ks : List Str} (h1 : xs.Perm ks) (h2 : sortedS xs = true) (h3 : ys.Perm ks) (h4 : sortedS ys = true) : xs = ys :=
  List.Perm.eq_of_pairwise (fun a b _ _ h h' => ext_tl (List.le_antisymm (List.not_lt.mp h) (List.not_lt.mp h'))) (sortedS_pw h2) (sortedS_pw h4) (h1.trans h3.symm)
/-! facts of classes -/
structure IsiC (K : PySem.W.Frag) (C : Addr) : Prop where
  ha : PySem.W.findIn K (.ref C) "__class__" = some (some (.builtin "object.__class__"))
  hn : PySem.W.specialIn K (.builtin "object.__class__") "__get__" = some (some (.builtin "getset_descriptor.__get__"))
  htk : PySem.W.takesIn K (.builtin "object.__class__") = some true
  hm : PySem.W.mroIn K C (.type "object") = some true
theorem IsiC.ty {K : PySem.W.Frag} {C a dx : Addr} {H : Hp} {fs : List (Str × V)} (h : IsiC K C) (c : Cls K C) (e : H a = some (.ins C dx fs)) : TyX K H (.ref a) (.ref C) := .base (.ins e c h.ha h.hn h.htk h.hm)
theorem kit_self (K : PySem.W.Frag) (t : Value) : PySem.W.kitOne K t t = some true := by
  unfold PySem.W.kitOne
  rw [if_pos (beq_self_eq_true t)]
theorem isi_own {K : PySem.W.Frag} {H : Hp} {Q : VK} {x : V} {t : Value} {C : Addr} {b : Bool} (ht : TyX K H x t) (hk : PySem.W.kitOne K t (.ref C) = some b) (q : Q (.bl b) H) : rIsi K [x, .ref C] H Q := ⟨x, .ref C, t, .ref C, b, rfl, .own C, ht, hk, q⟩
/-- a method of a class, an instance's making -/
def DmF (P : Program) (w : World) (K : PySem.W.Frag) (mg : Str → Option Value) (base : Heap) (k : Nat) (C : Addr) (m : Str) (ps : List Str) (sp : Sp) : Prop :=
  ∃ (f : Addr) (fd : FuncData), FnOk P w K mg base CX0 k f fd ps sp ∧ Meth K C m f ∧ Binds K fd ps []
def DkF (P : Program) (w : World) (K : PySem.W.Frag) (mg : Str → Option Value) (base : Heap) (k : Nat) (C : Addr) (ps : List Str) (sp : Sp) : Prop :=
  ∃ (f : Addr) (fd : FuncData), FnOk P w K mg base CX0 k f fd ps sp ∧ Mk K C f ∧ Binds K fd ps []
theorem nin1' {p x : Addr} (h : p ≠ x) : Nin x [p] := ⟨h.symm, trivial⟩
theorem kit_sub {K : PySem.W.Frag} {t : Value} {C : Addr} {b : Bool} (hc : PySem.W.isClsIn K C = true) (ht : PySem.W.typeIn K (.ref C) = some (.type "type")) (ss : PySem.W.subIn K (.ref C) (.ref C) = some true)
    (hs : PySem.W.subIn K t (.ref C) = some b) : PySem.W.kitOne K t (.ref C) = some b := by
  unfold PySem.W.kitOne
  split
  · rename_i e
    have e := eq_of_beq e
    subst e
    exact ss.symm.trans hs
  · unfold PySem.W.kitCls
    dsimp only
    rw [if_pos (by rw [Bool.and_eq_true]; exact ⟨hc, by rw [ht]; exact beq_self_eq_true _⟩)]
    exact hs
theorem sub_bt {K : PySem.W.Frag} {T : String} {C : Addr} (h : (PySem.fastBuiltinMro T).any (fun l => l.all fun v => match v with | .type _ => true | _ => false) = true) : PySem.W.subIn K (.type T) (.ref C) = some false := by
  show (PySem.fastBuiltinMro T).map (·.contains (.ref C)) = some false
  cases e : PySem.fastBuiltinMro T with
  | none => rw [e] at h; cases h
  | some l =>
    rw [e] at h
    have h : (l.all fun v => match v with | .type _ => true | _ => false) = true := h
    rw [Option.map_some]
    congr 1
    rw [Bool.eq_false_iff]
    intro c
    rw [List.contains_iff_mem] at c
    have := List.all_eq_true.mp h _ c
    cases this
end HL

/-! HLf: an exception class of one's own whose __init__ calls the __init__ of the class above it. -/
namespace HL
open PySem PySem.Spec PyProof.Rows L2 TL
/-- what is asked of the class above, by which __init__ is called -/
structure TopC (K : PySem.W.Frag) (C : Addr) : Prop where
  ga : PySem.W.specialIn K (.ref C) "__getattribute__" = some (some (.builtin "type.__getattribute__"))
  rd : PySem.W.readsIn K C (.type "type") = true
  vi : PySem.W.findCls K (.ref C) (.type "type") "__init__" = some (.val (.builtin "ValueError.__init__"))
theorem pe_meinit {X : Cx} {K : PySem.W.Frag} (hK : X.K = K) {x : Str} {C : Addr} {e : Expr} {es : List Expr} {ta : TA} {p1 p2 pos : Pos} {pl : Sem Bool} (hg : Gl X x) (hm : X.mg x = some (.ref C)) (T : TopC K C) (ha : PA X (e :: es) ta)
    (hdb : (x == ("__debug__" : Str)) = false := by decide)
    (hc : eval (.Call (.Attribute (.Name x p1) "__init__" p2) (e :: es) [] pos) X.env = (do
      let ov ← eval (.Name x p1) X.env
      standAt p2.atName
      let (f, first) ← holding [ov] (getMethod ov "__init__" pl)
      callWith pos f first (backTo pos (starEach (e :: es) X.env)) (backToKw pos (keywordEach [] X.env))) := by rfl)
    (he : starEach (e :: es) X.env = (false, eval e X.env) :: starEach es X.env := by rfl) (hpl : (backTo pos (starEach es X.env)).any (·.1) = false := by rfl) :
    PE X (.Call (.Attribute (.Name x p1) "__init__" p2) (e :: es) [] pos) (tVeI K ta) := by
  subst hK
  refine ⟨fun pins s σ H Q I h => ?_⟩
  refine PySem.W.methodCall_KW (ld_glob I hg hm ?_ hdb) hc
  refine PySem.W.method_cls I.kIn T.ga (PySem.W.cls_value I.kIn T.rd T.vi (by decide +kernel) ?_)
  show wpAny _ _ (callWith pos (Value.builtin "ValueError.__init__") [] (backTo pos (starEach (e :: es) X.env)) []) _ _ _
  refine callWith_method1 (thn (ha.run pos pins _ σ H _ (I.tok _) h) fun us s1 ⟨vs, H1, I1, r1, a, D, ws, ev, hl, TC, ea, q⟩ => ?_) he hpl
  subst ev
  cases r1 with
  | @cons _ u0 _ ur ra rw' =>
    cases ra
    exact oinit_ok TC I1 ea (by rw [← Paired.length rw', sizeLine_eq]; omega) fun s' J => ⟨.non, H1, J, rfl, q⟩
end HL

/-! HLi: instances compared by ==; lists of pairs of an instance and a number compared by !=; isinstance by two classes. -/
namespace HL
open PySem PySem.Spec PyProof.Rows L2 TL
/-- a class that has object's own __eq__ -/
structure EqC (K : PySem.W.Frag) (C : Addr) : Prop where
  top : PySem.W.mroIn K C (.type "object") = some true
  own : PySem.W.findIn K (.ref C) "__eq__" = some (some (.builtin "object.__eq__"))
section
variable {prog : Program} {w : World} {A : Around} {E : Value → Shared → Prop} {s : Shared} {K : PySem.W.Frag} {x y C : Addr} {ox oy : Obj} {dx dy : Option Obj}
/-- what one side says of the other -/
theorem asked_eq (kin : K.In s.heap) (I : PySem.W.InstAt s.heap x ox C dx) (J : s.heap.get? y = some oy) (c : EqC K C) {r : Option Value} (hr : if x = y then r = some (.bool true) else r = none) :
    wpAny (model prog w) A (tryCompare (.ref x) "__eq__" (.ref y)) (fun v s' => v = r ∧ s' = s) E s := by
  unfold tryCompare
  refine wpAny_bind (HN.ifBound_objEq kin I c.own (wpAny_call (codeAny_call_builtin F.cmp_object.eq.plain F.cmpEntry_eq
    (PySem.W.check_slot F.cmpKind_eq F.cmpSplit_eq (I.type.andThen (PySem.W.looks_mroIn kin c.top)) (F.cmpArgs_eq _ _) ?_))))
  by_cases e : x = y
  · subst e
    rw [if_pos rfl] at hr
    exact objEq_entry_same (wpAny_pure ⟨hr.symm, rfl⟩)
  · rw [if_neg e] at hr
    refine objEq_entry_other e I.at_ J (fun z => ?_) (wpAny_pure ⟨hr.symm, rfl⟩)
    rw [I.cls] at z
    cases z
theorem inst_eq (room : A.units < cLine) (kin : K.In s.heap) (I : PySem.W.InstAt s.heap x ox C dx) (J : PySem.W.InstAt s.heap y oy C dy) (c : EqC K C) : SeqAt.RcAt A s (.ref x) (.ref y) (decide (x = y)) := fun prog w E Q q => by
  simp only [richCompare, cmpInfo_Eq, oneThing_ref]
  refine wpAny_holding (wpAny_bind (wpAny_cRoomFor room ?_))
  refine wpAny_bind (I.type.here (wpAny_bind (J.type.here ?_)))
  rw [if_neg (by simp)]
  refine wpAny_bind (wpAny_pure ?_)
  by_cases e : x = y
  · subst e
    rw [decide_eq_true rfl] at q
    simp only [Bool.false_eq_true, if_false]
    refine wpAny_bind (wpAny_mono (asked_eq kin I J.at_ c (r := some (.bool true)) (by rw [if_pos rfl])) (fun v s1 z => ?_) fun _ _ z => z)
    obtain ⟨rfl, rfl⟩ := z
    exact wpAny_pure q
  · rw [decide_eq_false e] at q
    simp only [Bool.false_eq_true, if_false, Bool.not_false, if_true]
    refine wpAny_bind (wpAny_mono (asked_eq kin I J.at_ c (r := none) (by rw [if_neg e])) (fun v s1 z => ?_) fun _ _ z => z)
    obtain ⟨rfl, rfl⟩ := z
    refine wpAny_bind (wpAny_mono (asked_eq kin J I.at_ c (r := none) (by rw [if_neg (Ne.symm e)])) (fun v s1 z => ?_) fun _ _ z => z)
    obtain ⟨rfl, rfl⟩ := z
    refine wpAny_bind (wpAny_rule (wpAny_bind (wpAny_isSame_ref_other e I.at_ J.at_ (fun z => ?_) (wpAny_pure q))))
    rw [I.cls] at z
    cases z
/-- two objects, equal by richCompare -/
theorem eq_of_rc {b : Bool} (ne : x ≠ y) (h : SeqAt.RcAt A s (.ref x) (.ref y) b) : SeqAt.EqAt A s (.ref x) (.ref y) b := fun prog w E Q q => by
  unfold eqBool
  refine wpAny_holding (wpAny_ite_split (fun z => absurd (eq_of_beq z) fun z => ne (Value.ref.inj z)) (fun _ => ?_))
  exact wpAny_bind (h prog w E _ (wpAny_truthy_bool q))
end
section
variable {X : Cx} {K : PySem.W.Frag} {σ : L2.St} {H : Hp} {Q : VK}
def rEqI (K : PySem.W.Frag) : R2 := fun x y H Q => ∃ (a b C da db : Addr) (fa fb : List (Str × V)), x = .ref a ∧ y = .ref b ∧ H a = some (.ins C da fa) ∧ H b = some (.ins C db fb) ∧ EqC K C ∧ Q (.bl (decide (a = b))) H
theorem eqIK (hK : X.K = K) (hu : X.A.units + 64 < cLine) : OpR X (compareOp .Eq) (rEqI K) := by
  subst hK
  intro pins s σ H x y v u Q I rx ry h
  obtain ⟨a, b, C, da, db, fa, fb, rfl, rfl, ha, hb, c, q⟩ := h
  cases rx
  cases ry
  obtain ⟨_, oa, _⟩ := ins_get I.hok ha
  obtain ⟨_, ob, _⟩ := ins_get I.hok hb
  obtain ⟨_, ja, _⟩ := oa.look
  obtain ⟨_, jb, _⟩ := ob.look
  exact inst_eq (by omega) I.kIn ja jb c _ _ _ _ ⟨.bl _, H, I, rfl, q⟩
theorem s_eqI {a b C da db : Addr} {fa fb : List (Str × V)} (ha : H a = some (.ins C da fa)) (hb : H b = some (.ins C db fb)) (c : EqC K C) (q : Q (.bl (decide (a = b))) H) : rEqI K (.ref a) (.ref b) H Q := ⟨a, b, C, da, db, fa, fb, rfl, rfl, ha, hb, c, q⟩
/-- lists of pairs (an object, a number), pair by pair the same -/
def rNePairs (K : PySem.W.Frag) : R2 := fun x y H Q => ∃ (a b : Addr) (ps : List (Addr × Addr × Addr × Int)), x = .ref a ∧ y = .ref b ∧ SqL K H a (ps.map fun p => .ref p.1) ∧ SqL K H b (ps.map fun p => .ref p.2.1) ∧
  (∀ p ∈ ps, SqT K H p.1 [.ref p.2.2.1, .int p.2.2.2] ∧ SqT K H p.2.1 [.ref p.2.2.1, .int p.2.2.2]) ∧ Q (.bl false) H
theorem all_true {n : Nat} : ((List.range n).all fun _ => true) = true := List.all_eq_true.mpr fun _ _ => rfl
theorem nePK (hK : X.K = K) (hu : X.A.units + 64 < cLine) : OpR X (compareOp .NotEq) (rNePairs K) := by
  subst hK
  intro pins s σ H x y v u Q I rx ry h
  obtain ⟨a, b, ps, rfl, rfl, ha, hb, hp, q⟩ := h
  cases rx
  cases ry
  obtain ⟨us, r1, p1, _⟩ := I.list ha
  obtain ⟨ws, r2, p2, _⟩ := I.list hb
  have l1 := r1.length
  have l2 := r2.length
  rw [List.length_map] at l1 l2
  have z := SeqAt.RcNeAt.lists (A := X.A) (e := fun _ => true) p1.isList p2.isList (by simp only [List.size_toArray]; omega) (by omega) fun j h1 h2 => by
    simp only [List.size_toArray] at h1 h2
    have hj : j < ps.length := by omega
    obtain ⟨u1, e1, w1⟩ := r1.get (i := j) (x := .ref ps[j].1) (by rw [List.getElem?_map, List.getElem?_eq_getElem hj]; rfl)
    obtain ⟨u2, e2, w2⟩ := r2.get (i := j) (x := .ref ps[j].2.1) (by rw [List.getElem?_map, List.getElem?_eq_getElem hj]; rfl)
    cases w1
    cases w2
    have g1 : us.toArray[j] = .ref ps[j].1 := by
      rw [List.getElem?_eq_getElem h1] at e1
      simpa using e1
    have g2 : ws.toArray[j] = .ref ps[j].2.1 := by
      rw [List.getElem?_eq_getElem h2] at e2
      simpa using e2
    rw [g1, g2]
    by_cases same : ps[j].1 = ps[j].2.1
    · rw [same]
      exact SeqAt.EqAt.same _
    refine eq_of_rc same ?_
    obtain ⟨t1, t2⟩ := hp ps[j] (List.getElem_mem hj)
    obtain ⟨i1, m1, q1, _⟩ := I.tuple t1
    obtain ⟨i2, m2, q2, _⟩ := I.tuple t2
    obtain ⟨c1, d1, rfl, f1, k1⟩ := vals2 m1
    obtain ⟨c2, d2, rfl, f2, k2⟩ := vals2 m2
    cases f1
    cases f2
    obtain ⟨k1t, rfl⟩ := k1
    obtain ⟨k2t, rfl⟩ := k2
    have room : X.A.in1.units < cLine := by show X.A.units + 1 < cLine; omega
    exact SeqAt.RcAt.tuples (e := fun _ => true) q1 q2 room fun i g1 g2 => by
      match i, g1, g2 with
      | 0, _, _ => exact SeqAt.EqAt.same _
      | 1, _, _ => simpa using SeqAt.EqAt.int_int ps[j].2.2.2 k1t ps[j].2.2.2 k2t
  rw [all_true] at z
  exact z _ _ _ _ ⟨.bl false, H, I, rfl, q⟩
theorem isiTK (hK : X.K = K) : CallR X (.builtin "isinstance") (rIsiT K) := hK ▸ call_isiT
theorem s_isiT2 {x : V} {tp C D : Addr} {t : Value} {b d : Bool} (ht : H tp = some (.tup [.ref C, .ref D])) (ty : TyX K H x t) (k1 : PySem.W.kitOne K t (.ref C) = some b) (k2 : PySem.W.kitOne K t (.ref D) = some d) (q : Q (.bl (b || d)) H) :
    rIsiT K [x, .ref tp] H Q := by
  refine ⟨x, tp, [.ref C, .ref D], t, [.ref C, .ref D], b || d, rfl, ht, .cons (.own C) (.cons (.own D) .nil), ty, kitAny_cons k1 (fun e => ?_) (fun e => by rw [e]; rfl), q⟩
  subst e
  refine kitAny_cons k2 (fun e => ?_) (fun e => by rw [e]; rfl)
  subst e
  exact kitAny_nil
theorem s_lstRg1 {ta : TE} (h : ta σ H fun x H1 => ∃ n, x = .int n ∧ RgOk 0 n ∧ ∀ q, H1 q = none → Q (.ref q) (upd H1 q (.lst (rgV 0 n)))) : tLstRg (tRg1 ta) σ H Q := h
theorem s_vei {ta : TA} (h : ta σ H fun vs H1 => ∃ (a C : Addr) (ws : List V), vs = .ref a :: ws ∧ ws.length ≤ 1000 ∧ OexC K C ∧ H1 a = some (exo a C none) ∧ Q .non H1) : tVeI K ta σ H Q := h
theorem s_ost {f : Str} {to te : TE} {D : Ends} (h : te σ H fun y H1 => to σ H1 fun x H2 => ∃ a C : Addr, x = .ref a ∧ OexC K C ∧ PySem.W.findIn K (.ref C) f = some none ∧
    ((H2 a = some (exo a C none) ∧ ∀ dx, H2 dx = none → dx ≠ a → D.nx σ (upd (upd H2 dx (exd dx [(f, y)])) a (exo a C (some dx)))) ∨
      ∃ (dx : Addr) (fs : List (Str × V)), H2 a = some (exo a C (some dx)) ∧ H2 dx = some (exd dx fs) ∧ fs.length ≤ 900 ∧ D.nx σ (upd H2 dx (exd dx ((f, y) :: fs))))) : tOst K f to te D σ H := h
theorem s_mkO {C : Addr} {sp : Sp} {dvs : List V} {ta : TA} {R : XK} (h : ta σ H fun vs H1 => vs.length ≤ 1000 ∧ ∀ a, H1 a = none → sp (.ref a :: (vs ++ dvs)) (upd H1 a (exo a C none))
    (fun v H2 => v = .non ∧ ∃ (d : Addr) (fs : List (Str × V)), H2 a = some (exo a C (some d)) ∧ H2 d = some (exd d fs) ∧ H1 d = none ∧ R (.ref C) (some d) (upd (del H2 a) d (.xd fs))) (fun _ _ _ => False)) : tMkO C sp dvs ta σ H R := h
theorem s_callS {sp : Sp} {E : L2.St → XK} {t : TA} (h : t σ H fun vs H1 => sp vs H1 Q (E σ)) : tCallS sp E t σ H Q := h
theorem s_xf {a : Addr} {cls : Value} {d : Option Addr} {C : Addr} {f : Str} {te : TE} (h : te σ H fun x H1 => x = .ref a ∧ cls = .ref C ∧ ∃ (dd : Addr) (fs : List (Str × V)) (v : V), d = some dd ∧ H1 dd = some (.xd fs) ∧ fs.lookup f = some v ∧ Q v H1) : tXf a cls d C f te σ H Q := h
/-- an except clause's class, by what is asked of it -/
theorem exm_sub {K : PySem.W.Frag} {t : Value} {C : Addr} {b : Bool} (h1 : PySem.W.subIn K (.ref C) (.type "BaseException") = some true) (hc : PySem.W.isClsIn K C = true) (ht : PySem.W.typeIn K (.ref C) = some (.type "type"))
    (hs : PySem.W.subIn K t (.ref C) = some b) : PySem.W.exmOne K t (.ref C) = some b := by
  unfold PySem.W.exmOne
  rw [h1, if_pos (beq_self_eq_true _)]
  unfold PySem.W.kitCls
  dsimp only
  rw [if_pos (by rw [Bool.and_eq_true]; exact ⟨hc, by rw [ht]; exact beq_self_eq_true _⟩)]
  exact hs
/-- facts of an own exception class with an __init__: what its making asks, what reading its fields asks -/
structure ExcC (K : PySem.W.Frag) (C f : Addr) : Prop where
  ox : OexC K C
  ic : PySem.W.findIn K (.ref C) "__init__" = some (some (.ref f))
  ti : PySem.W.typeIn K (.ref f) = some (.type "function")
/-- a def of the text that may raise -/
def DnX (P : Program) (w : World) (K : PySem.W.Frag) (mg : Str → Option Value) (base : Heap) (k : Nat) (x : Str) (ps : List Str) (sp : Sp) : Prop :=
  ∃ (f : Addr) (fd : FuncData), FnOk P w K mg base (L2.CX P w) k f fd ps sp ∧ mg x = some (.ref f) ∧ PySem.W.keepIn K (.ref f) = true ∧ Binds K fd ps []
def DxF (P : Program) (w : World) (K : PySem.W.Frag) (mg : Str → Option Value) (base : Heap) (k : Nat) (C : Addr) (ps : List Str) (sp : Sp) : Prop :=
  ∃ (f : Addr) (fd : FuncData), FnOk P w K mg base CX0 k f fd ps sp ∧ ExcC K C f ∧ Binds K fd ps []
end
end HL

/-! HLq: repr of data: what it asks, how long it gets. -/
namespace HL
open PySem PySem.Spec PyProof.Rows L2 TL
/-! shown: how long -/
theorem short_str {z : Str} (h : OkL (tl z)) : PyData.leavesShort 410 (.str z) = true := by
  simp only [PyData.leavesShort, List.all_eq_true, decide_eq_true_eq]
  intro c hc
  exact Nat.lt_of_lt_of_le (h c hc) (by decide)
theorem short_all {xs : List PyData} (h : ∀ x ∈ xs, PyData.leavesShort 410 x = true) : PyData.leavesShortAll 410 xs = true := by
  induction xs with
  | nil => rfl
  | cons x r ih =>
    simp only [PyData.leavesShortAll, Bool.and_eq_true]
    exact ⟨h x List.mem_cons_self, ih fun y hy => h y (List.mem_cons_of_mem _ hy)⟩
theorem showable_all {xs : List PyData} (h : ∀ x ∈ xs, PyData.showable x = true) : PyData.showableAll xs = true := by
  induction xs with
  | nil => rfl
  | cons x r ih =>
    simp only [PyData.showableAll, Bool.and_eq_true]
    exact ⟨h x List.mem_cons_self, ih fun y hy => h y (List.mem_cons_of_mem _ hy)⟩
theorem noDict_all {xs : List PyData} (h : ∀ x ∈ xs, PyData.hasDict x = false) : PyData.hasDictAll xs = false := by
  induction xs with
  | nil => rfl
  | cons x r ih =>
    simp only [PyData.hasDictAll, Bool.or_eq_false_iff]
    exact ⟨h x List.mem_cons_self, ih fun y hy => h y (List.mem_cons_of_mem _ hy)⟩
theorem depth_all {xs : List PyData} {n : Nat} (h : ∀ x ∈ xs, PyData.depth x ≤ n) : PyData.depthAll xs ≤ n := by
  induction xs with
  | nil => exact Nat.zero_le _
  | cons x r ih =>
    simp only [PyData.depthAll]
    exact Nat.max_le.mpr ⟨h x List.mem_cons_self, ih fun y hy => h y (List.mem_cons_of_mem _ hy)⟩
theorem bulk_all {xs : List PyData} {n : Nat} (h : ∀ x ∈ xs, PyData.bulk x ≤ n) : PyData.bulkAll xs ≤ xs.length * (n + 1) := by
  induction xs with
  | nil => exact Nat.zero_le _
  | cons x r ih =>
    have h1 := h x List.mem_cons_self
    have h2 := ih fun y hy => h y (List.mem_cons_of_mem _ hy)
    simp only [PyData.bulkAll, List.length_cons, Nat.add_mul]
    omega
/-- what repr asks -/
structure ShowOk (x : PyData) (n k : Nat) : Prop where
  sh : x.leavesShort 410 = true
  ok : x.showable = true
  nd : x.hasDict = false
  dp : x.depth ≤ k
  bk : x.bulk ≤ n
theorem ShowOk.tup {xs : List PyData} {n k : Nat} (h : ∀ x ∈ xs, ∃ n, ShowOk x n k) (b : PyData.bulkAll xs ≤ n) : ShowOk (.tuple xs) n (k + 1) := by
  refine ⟨?_, ?_, ?_, ?_, ?_⟩
  · simp only [PyData.leavesShort]
    exact short_all fun x hx => (h x hx).choose_spec.sh
  · simp only [PyData.showable]
    exact showable_all fun x hx => (h x hx).choose_spec.ok
  · simp only [PyData.hasDict]
    exact noDict_all fun x hx => (h x hx).choose_spec.nd
  · simp only [PyData.depth]
    have := depth_all (n := k) fun x hx => (h x hx).choose_spec.dp
    omega
  · simp only [PyData.bulk]
    exact b
theorem ShowOk.str {z : Str} {k : Nat} (h : OkL (tl z)) : ShowOk (.str z) z.length k := ⟨short_str h, by simp only [PyData.showable], by simp only [PyData.hasDict], by simp only [PyData.depth]; exact Nat.zero_le _, by simp only [PyData.bulk]; exact Nat.le_refl _⟩
theorem ShowOk.int {n : Int} {k : Nat} (h : n.natAbs < 10 ^ 60) : ShowOk (.int n) 0 k := by
  refine ⟨?_, ?_, by simp only [PyData.hasDict], by simp only [PyData.depth]; exact Nat.zero_le _, by simp only [PyData.bulk]; exact Nat.zero_le _⟩
  · simp only [PyData.leavesShort, decide_eq_true_eq]
    have e : PyData.shown (.int n) = Str.ofString (toString n) := by simp only [PyData.shown]
    rw [e, PySem.ofString_length]
    exact Nat.le_trans (int_text_length_le10 (by decide) h) (by decide)
  · simp only [PyData.showable, decide_eq_true_eq]
    by_cases z : n.natAbs = 0
    · rw [z]; decide
    · exact (Nat.log2_lt z).mpr (Nat.lt_of_lt_of_le h (by decide +kernel))
theorem ShowOk.weak {x : PyData} {n m k l : Nat} (h : ShowOk x n k) (a : n ≤ m) (b : k ≤ l) : ShowOk x m l := ⟨h.sh, h.ok, h.nd, Nat.le_trans h.dp b, Nat.le_trans h.bk a⟩
/-- repr of a tuple that is laid out -/
theorem rep_show {K : PySem.W.Frag} {H : Hp} {Q : VK} {t : Addr} {xs : List PyData} {n : Nat} (d : Dp K H (.ref t) (.tuple xs)) (s : ShowOk (.tuple xs) n 60) (b : n ≤ 30000) (q : Q (.str (PyData.shown (.tuple xs))) H) : rReprD K [.ref t] H Q := by
  refine ⟨_, _, rfl, d, rfl, s.ok, s.nd, s.dp, ?_, q⟩
  have e := PyData.shown_le_bulk 410 (by decide) _ s.sh
  have := s.bk
  have := line63
  rw [sizeLine_eq]
  omega
end HL

/-! HLs: len(set(t)), t a tuple of texts. -/
namespace HL
open PySem PySem.Spec PyProof.Rows L2
abbrev eS (led : Bool) : Obj := { cls := .type "set", dict := none, data := .set #[] 0 (.fresh 0 0 led) }
/-- the first i of ks, each once: how many -/
def unlike (ks : List Str) : Nat → Nat
  | 0 => 0
  | i + 1 => if (ks.take i).any (· == ks.getD i Str.empty) then unlike ks i else unlike ks i + 1
theorem unlike_le (ks : List Str) : ∀ i, unlike ks i ≤ i
  | 0 => Nat.le_refl 0
  | i + 1 => by
    have := unlike_le ks i
    unfold unlike
    split <;> omega
abbrev metS (ks : List Str) (i : Nat) : Str → Bool := fun k => (ks.take i).any (· == k)
theorem metS_succ {ks : List Str} {i : Nat} (h : i < ks.length) (k : Str) : (metS ks i k || decide (k = ks.getD i Str.empty)) = metS ks (i + 1) k := by
  have e : ks.take (i + 1) = ks.take i ++ [ks.getD i Str.empty] := by
    rw [List.take_add_one, List.getD_eq_getElem?_getD, List.getElem?_eq_getElem h] <;> rfl
  unfold metS
  rw [e, List.any_append]
  congr 1
  by_cases c : k = ks.getD i Str.empty
  · subst c
    simp
  · have c2 : (ks.getD i Str.empty == k) = false := by simpa using fun z => c z.symm
    rw [decide_eq_false c, List.any_cons, List.any_nil, c2]
    rfl
section
variable {prog : Program} {w : World} {A : Around} {E : Value → Shared → Prop} {s : Shared}
/-- the loop that lays what a walk yields into the set -/
theorem lay_all {R : Result → Shared → Prop} {I : Addr} {fp wr : List Addr} {G : Array GenState → Array GenState → Prop} {n : Nat} {P : Nat → Value → Prop} {St : Nat → Shared → Prop}
    (W : WalksS prog w A.in1 I fp wr G n P St) {S : Addr} (far : S ∉ fp) (ks : List Str) (many : ks.length = n) (few : n + 1 < scanBound)
    (is : ∀ i v, P i v → ∃ t, v = .str (ks.getD i Str.empty) t) : ∀ (m : Nat) (i : Nat) (s : Shared), m + i = n → St i s →
      s.heap.SetOf (strKind prog w) S (metS ks i) (unlike ks i) →
      (∀ s', Moved (S :: wr) G s s' → s'.heap.SetOf (strKind prog w) S (metS ks n) (unlike ks n) → R (.ok (.ret .none)) s') →
      codeAny (model prog w) A (.builtin "set.update.loop" ⟨[.ref S, .ref I], []⟩) R s := by
  have off : S ∉ wr := fun z => far (W.sub _ z)
  have more : ∀ b ∈ wr, b ∈ S :: wr := fun _ z => .tail _ z
  intro m
  induction m with
  | zero =>
    intro i s e st held fin
    obtain rfl : i = n := by omega
    apply codeAny_builtin PyProof.Rows.F.entry_set_update_loop
    rw [Around.under_plainId PyProof.Rows.F.plain_set_update_loop _]
    show wpAny _ A.in1 (pyNext (.ref I) >>= _) _ _ s
    apply wpAny_bind
    apply W.done s _ _ st
    intro s' mv
    obtain ⟨o, es, ep, tb, at_, rest⟩ := held
    exact wpAny_pure (fin s' (mv.mono more) ⟨o, es, ep, tb, mv.heap S _ off at_, rest⟩)
  | succ m ih =>
    intro i s e st held fin
    have lt : i < n := by omega
    apply codeAny_builtin PyProof.Rows.F.entry_set_update_loop
    rw [Around.under_plainId PyProof.Rows.F.plain_set_update_loop _]
    show wpAny _ A.in1 (pyNext (.ref I) >>= _) _ _ s
    apply wpAny_bind
    apply W.item i s _ _ lt st
    intro v s' hv st' mv
    obtain ⟨t, rfl⟩ := is i v hv
    have held' : s'.heap.SetOf (strKind prog w) S (metS ks i) (unlike ks i) := by
      obtain ⟨o, es, ep, tb, at_, rest⟩ := held
      exact ⟨o, es, ep, tb, mv.heap S _ off at_, rest⟩
    show wpAny _ A.in1 (holding [Value.str (ks.getD i Str.empty) t] (setAdd S (.str (ks.getD i Str.empty) t)) >>= _) _ _ s'
    apply wpAny_bind
    apply wpAny_holding
    unfold setAdd
    apply wpAny_holding
    apply wpAny_bind
    apply (strKind prog w).pyHash (k := ks.getD i Str.empty) (strKind_is _ _ _ _)
    have room : unlike ks i + 1 < scanBound := by
      have := unlike_le ks i
      omega
    apply wpAny_setAddHashed_of (knd := strKind prog w) (s := { s' with toks := s'.toks + 1 }) (strKind_is _ _ _ _) rfl held' room
    intro h' same held2
    have held3 : h'.SetOf (strKind prog w) S (metS ks (i + 1)) (unlike ks (i + 1)) :=
      SetOf_congr held2 (fun k => metS_succ (many ▸ lt) k) rfl
    apply wpAny_pure
    refine ⟨plainId_quiet PyProof.Rows.F.plain_set_update_loop _, ih (i + 1) _ (by omega) ?_ held3 ?_⟩
    · apply W.frame _ s' _ _ st' (Nat.le_succ _)
      intro b hb o z
      rw [same.2 b (fun y : b = S => far (y ▸ hb))]
      exact z
    · intro s'' mv2 held4
      apply fin s'' _ held4
      apply Moved.trans W.gtrans _ mv2
      apply (mv.mono more).then_heap (Nat.le_succ _)
      intro b o hb z
      rw [same.2 b (fun y : b = S => hb (y ▸ List.mem_cons_self))]
      exact z
/-- what set(t) leaves: a new set, all else as it was -/
def SetLeft (prog : Program) (w : World) (s : Shared) (ks : List Str) (s' : Shared) : Prop :=
  ∃ (h' : Heap) (tk : Nat), s' = { s with heap := h', toks := tk } ∧ h'.SetOf (strKind prog w) s.heap.objs.size (metS ks ks.length) (unlike ks ks.length) ∧
    ∀ b o, b < s.heap.objs.size → s.heap.get? b = some o → h'.get? b = some o
/-- an answer that is none but a value told by W -/
theorem told {M : Model} {B : Around} {c : Code} {W : Value → Shared → Prop} {R : Result → Shared → Prop} {s1 : Shared}
    (run : codeAny M B c (wants W E) s1) (good : ∀ v s2, W v s2 → R (.ok (.ret v)) s2) (bad : ∀ e s2, E e s2 → R (.error e) s2) : codeAny M B c R s1 :=
  codeAny_mono run fun
    | .error e, s2, z => bad e s2 z
    | .ok (.ret v), s2, z => good v s2 z
    | .ok .next, _, z | .ok .brk, _, z | .ok .cont, _, z => nomatch z
/-- set(x), of any x: what the new set's init leaves is what the call leaves -/
theorem set_of {x : Value} {R : Shared → Prop} {Q : Value → Shared → Prop} (calm : A.handled = none)
    (init : ∀ (B : Around) (led : Bool), B.handled = none → codeAny (model prog w) B (.call (.builtin "set.__init__") ⟨[.ref s.heap.objs.size, x], []⟩)
      (wants (fun r s2 => r = .none ∧ R s2) E) { s with heap := s.heap.push (eS led) }) (q : ∀ s2, R s2 → Q (.ref s.heap.objs.size) s2) :
    wpAny (model prog w) A (call (.type "set") [x]) Q E s := by
  have F := PySem.F.called_set
  have ⟨_, _, mro⟩ := F.mro
  have sub := F.sub; have made := F.made; have may := F.canCreate; have other := F.notType
  have by1 := PySem.F.typeCall_set_1 x
  apply wpAny_call
  apply codeAny_of_tree
  change wpAny (model prog w) _ (callAny (Value.type "set") ⟨[x], []⟩) _ _ s
  refine wpAny_pure ⟨Code.quiet_builtin _ (by decide +kernel), ?_⟩
  apply codeAny_builtin PySem.F.entry_type_call
  rw [Around.under_plain (weight_type_call_type "set" [x] []) rfl]
  repeat any_goals first | assumption | wp_step
  refine told (code_set_new_1 x (E := E) (Q₁ := fun v s2 => ∃ led, v = .ref s.heap.objs.size ∧ s2 = { s with heap := s.heap.push (eS led) }) fun led => ⟨led, rfl, rfl⟩) ?_ fun _ _ z => z
  rintro _ _ ⟨led, rfl, rfl⟩
  have of : Shared.TypeIs { s with heap := s.heap.push (eS led) } (.ref s.heap.objs.size) "set" := ⟨_, Heap.get?_push_size _ rfl, rfl⟩
  have look := F.init.lookup
  have bound := F.init.bind (.ref s.heap.objs.size)
  repeat any_goals first | assumption | wp_step
  refine told (init _ led (by simpa using calm)) ?_ fun _ _ z => z
  rintro _ s2 ⟨rfl, left⟩
  repeat any_goals first | assumption | wp_step
  exact q s2 left
/-- the init of an empty set by a tuple of texts -/
theorem init_tup {l : Addr} {items : Array Value} {ks : List Str} {led : Bool} (hh : A.handled = none) (hl : s.heap.IsTuple l items)
    (hi : StrsAre items.toList ks) (few : ks.length + 1 < scanBound) :
    codeAny (model prog w) A (.call (.builtin "set.__init__") ⟨[.ref s.heap.objs.size, .ref l], []⟩)
      (wants (fun r s₂ => r = .none ∧ SetLeft prog w s ks s₂) E) { s with heap := s.heap.push (eS led) } := by
  have many : items.size = ks.length := by simpa using hi.len_eq
  have ⟨⟨c0, d0, k0, sl⟩, at_, ec, nl, ed⟩ := hl
  cases (show c0 = .type "tuple" from ec)
  cases (show k0 = .seq items nl from ed)
  have below : l < s.heap.objs.size := Heap.lt_size at_
  have stays : ∀ b o, s.heap.get? b = some o → (s.heap.push (eS led)).get? b = some o := fun _ _ => Heap.get?_push_of_some _
  have made : (s.heap.push (eS led)).get? s.heap.objs.size = some (eS led) := Heap.get?_push_size _ rfl
  have isT : (s.heap.push (eS led)).IsTuple l items := ⟨_, stays _ _ at_, rfl, nl, rfl⟩
  have at1 := stays _ _ at_
  have size1 : (s.heap.push (eS led)).objs.size = s.heap.objs.size + 1 := Heap.size_push ..
  have no1 := PySem.F.sub_tuple_set
  have no2 := PySem.F.sub_tuple_frozenset
  have no3 : (Value.type "tuple" == Value.type "dict") = false := by decide
  refine codeAny_call_builtin PySem.F.called_set.init.plain PySem.F.entry_set_init (check_set_init_1 ⟨_, made, rfl⟩ ?_)
  unfold Builtin.«set.__init__» noKeywords Builtin.Frozenset.updateFrom
  generalize hPI : pyIter = PI
  wp_walk
  subst hPI
  refine wpAny_pyIter_tuple isT (wpAny_bind (wpAny_runValue ?_))
  have other : ∀ n : Nat, n ≠ l → n ≠ s.heap.objs.size + 1 → n ∉ [(s.heap.push (eS led)).objs.size, l] := by
    intro n n1 n2
    simp [size1, n1, n2]
  have W := Walks.tuple (prog := prog) (w := w) (A := A.in1.in1) (by simp [hh]) (s.heap.push (eS led)).objs.size l (by rw [size1]; unfold Addr at *; omega) items
  have off := other s.heap.objs.size (by unfold Addr at *; omega) (by omega)
  apply lay_all W.toS off ks many.symm (by omega)
    (fun i v hv => SS.strs_at hi i v (by simpa using hv)) items.size 0 _ (Nat.add_zero _) ⟨⟨_, Heap.get?_push_size _ rfl, rfl, rfl⟩, isT.push _⟩
  · exact SetOf_congr ((setObjOf_fresh (knd := strKind prog w) led).setOf (Heap.get?_push_of_some _ made) (by decide)) (fun _ => rfl) rfl
  · intro s' mv held
    refine wpAny_pure (wpAny_pure ⟨rfl, s'.heap, s'.toks, ?_, many ▸ held, fun b o lt e => mv.heap b o ?_ (Heap.get?_push_of_some _ (stays _ _ e))⟩)
    · obtain ⟨h', g', d', tk', os'⟩ := s'
      cases (show g' = s.gens from mv.gens)
      cases (show d' = s.drawn from mv.drawn)
      cases (show os' = s.os from mv.os)
      rfl
    · simp only [List.mem_cons, List.not_mem_nil, or_false, size1]
      unfold Addr at *
      omega
theorem set_tup {l : Addr} {items : Array Value} {ks : List Str} {Q : Value → Shared → Prop} (hh : A.handled = none) (hl : s.heap.IsTuple l items)
    (hi : StrsAre items.toList ks) (few : ks.length + 1 < scanBound) (q : ∀ s', SetLeft prog w s ks s' → Q (.ref s.heap.objs.size) s') :
    wpAny (model prog w) A (call (.type "set") [.ref l]) Q E s :=
  set_of hh (fun _ _ calm => init_tup calm hl hi few) q
end
theorem strsAre : ∀ {ks : List Str} {us : List Value}, Vals (ks.map V.str) us → StrsAre us ks
  | [], _, .nil => .nil
  | k :: ks, _, .cons r t => by
    cases r with
    | intro u e => subst e; exact .cons k u (strsAre t)
def tLenSetT (K : PySem.W.Frag) (ta : TE) : TE := fun σ H Q =>
  ta σ H fun x H1 => ∃ (l : Addr) (ks : List Str), x = .ref l ∧ SqT K H1 l (ks.map V.str) ∧ ks.length ≤ 100 ∧ Q (.int (unlike ks ks.length : Nat)) H1
theorem pe_lenSetT {X : Cx} {K : PySem.W.Frag} (hK : X.K = K) {a : Expr} {ta : TE} {p p2 q pos : Pos} (calm : X.calm = true)
    (g1 : Gl X "len") (m1 : X.mg "len" = none) (g2 : Gl X "set") (m2 : X.mg "set" = none) (ha : PE X a ta)
    (na : starEach [a] X.env = (false, eval a X.env) :: starEach [] X.env := by rfl) :
    PE X (.Call (.Name "len" p) [.Call (.Name "set" p2) [a] [] q] [] pos) (tLenSetT K ta) where
  run := by
    subst hK
    intro pins s σ H Q I h
    apply Call_ (ld_blt I g1 m1 boot_len ?_)
    apply callWith_builtin1 (args_cons ?_ rfl) rfl rfl
    apply Call_ (ld_blt I g2 m2 boot_set ?_)
    apply callWith_type1 (args_cons (thn (ha.run pins s σ H _ I h) ?_) na) na rfl
    rintro v s1 ⟨x, H1, J, rv, l, ks, rfl, hq, few, hQ⟩
    apply args_nil
    cases rv
    obtain ⟨its, vals, isT, _⟩ := J.tuple hq
    apply set_tup (J.ok.hd calm) isT (strsAre (by simpa using vals)) (by unfold scanBound; omega)
    rintro s2 ⟨h', tk, rfl, ⟨o, es, ep, tb, at_, ex, hd, _, _, _, fits, many⟩, keep⟩
    apply args_nil
    have J2 : Inv X pins σ H1 { s1 with heap := h', toks := tk } := J.kept fun b o e => keep b o (Heap.lt_size e) e
    have small := unlike_le ks ks.length
    apply call_len_set at_ ex hd fits (by rw [many]; omega)
    exact ⟨.int (unlike ks ks.length : Nat), H1, J2.tok _, ⟨_, by rw [many]⟩, hQ⟩
section
variable {σ : L2.St} {H : Hp} {Q : VK} {K : PySem.W.Frag}
theorem s_lenSet {te : TE} (h : te σ H fun x H1 => ∃ (l : Addr) (ks : List Str), x = .ref l ∧ SqT K H1 l (ks.map V.str) ∧ ks.length ≤ 100 ∧ Q (.int (unlike ks ks.length : Nat)) H1) : tLenSetT K te σ H Q := h
end
end HL

/-! HLr: rows, in plain Lean. -/
namespace HL
open PySem PySem.Spec PyProof.Rows L2 TL
def faultW : List Str := ["NOMODULE", "NONAME", "HALF", "FLAT", "NOTASK", "ALL"]
def leadW : List Str := ["now", "take", "late", "ask"]
def isWordS (z : Str) : Bool := isNameL (tl z) || decide (z ∈ faultW)
/-- the words that a try catches, as drawn -/
structure OkWords (ws : List Str) : Prop where
  nd : ws.Nodup
  all : ∀ z ∈ ws, isWordS z = true
  few : ws.length ≤ 100
abbrev sD (l : List Nat) : PyData := .str (mkS l)
/-- a row as drawn, no try -/
inductive OkFlat : PyData → Prop
  | set {l : List Nat} {n : Int} : isNameL l = true → n.natAbs < 10 ^ 400 → OkFlat (.tuple [.str "set", sD l, .int n])
  | note {q : List Nat} : isPathL q = true → OkFlat (.tuple [.str "note", sD q])
  | fail {l : List Nat} : isNameL l = true → OkFlat (.tuple [.str "fail", sD l])
  | draw {l q m : List Nat} : isNameL l = true → isPathL q = true → isNameL m = true → OkFlat (.tuple [.str "draw", sD l, sD q, sD m])
  | lead {w : Str} {l q : List Nat} : w ∈ leadW → isNameL l = true → isPathL q = true → OkFlat (.tuple [.str w, sD l, sD q])
/-- a row as drawn, tries up to d one within another -/
inductive OkRow : Nat → PyData → Prop
  | flat {d : Nat} {x : PyData} : OkFlat x → OkRow d x
  | tryr {d : Nat} {a b : List PyData} {ws : List Str} : (∀ y ∈ a, OkRow d y) → OkWords ws → (∀ y ∈ b, OkRow d y) →
      OkRow (d + 1) (.tuple [.str "try", .tuple a, .tuple (ws.map .str), .tuple b])
/-- the k-th part of a tuple, a tuple -/
def partT (k : Nat) : PyData → List PyData
  | .tuple xs => match xs[k]? with
    | some (.tuple ys) => ys
    | _ => []
  | _ => []
def isTry : PyData → Bool
  | .tuple (.str w :: _) => decide (w = "try")
  | _ => false
def cntRow : Nat → PyData → Nat
  | 0, _ => 1
  | d + 1, x => if isTry x then 1 + ((partT 1 x).map (cntRow d)).sum + ((partT 3 x).map (cntRow d)).sum else 1
/-- how many rows -/
def cnts (d : Nat) (xs : List PyData) : Nat := (xs.map (cntRow d)).sum
theorem isTry_w {w : Str} (t : List PyData) (h : w ≠ "try") : isTry (.tuple (.str w :: t)) = false := decide_eq_false h
theorem OkFlat.notTry {x : PyData} (h : OkFlat x) : isTry x = false := by
  cases h with
  | set => exact isTry_w _ (by decide +kernel)
  | note => exact isTry_w _ (by decide +kernel)
  | fail => exact isTry_w _ (by decide +kernel)
  | draw => exact isTry_w _ (by decide +kernel)
  | lead hw =>
    simp only [leadW, List.mem_cons, List.not_mem_nil, or_false] at hw
    rcases hw with rfl | rfl | rfl | rfl <;> exact isTry_w _ (by decide +kernel)
theorem cntRow_flat {d : Nat} {x : PyData} (h : OkFlat x) : cntRow d x = 1 := by
  cases d with
  | zero => rfl
  | succ d => unfold cntRow; rw [h.notTry]; rfl
theorem isTry_try (t : List PyData) : isTry (.tuple (.str "try" :: t)) = true := by unfold isTry; exact decide_eq_true rfl
theorem cntRow_try (d : Nat) (a b : List PyData) (w : PyData) : cntRow (d + 1) (.tuple [.str "try", .tuple a, w, .tuple b]) = 1 + cnts d a + cnts d b := by
  unfold cntRow
  rw [isTry_try]
  rfl
theorem cnts_app (d : Nat) (xs ys : List PyData) : cnts d (xs ++ ys) = cnts d xs + cnts d ys := by unfold cnts; rw [List.map_append, List.sum_append]
theorem cnts_one (d : Nat) (x : PyData) : cnts d [x] = cntRow d x := by unfold cnts; simp
theorem cntRow_pos (d : Nat) (x : PyData) : 1 ≤ cntRow d x := by
  cases d with
  | zero => exact Nat.le_refl 1
  | succ d => unfold cntRow; split <;> omega
theorem len_le_cnts (d : Nat) : ∀ xs : List PyData, xs.length ≤ cnts d xs
  | [] => Nat.le_refl 0
  | x :: r => by
    have h1 := len_le_cnts d r
    have h2 := cntRow_pos d x
    unfold cnts at h1 ⊢
    rw [List.map_cons, List.sum_cons, List.length_cons]
    omega
mutual
theorem flat_strs : ∀ ws : List Str, flatAll (ws.map .str) = true
  | [] => rfl
  | w :: r => by
    show (flatD (.str w) && flatAll (r.map .str)) = true
    rw [flat_strs r]
    rfl
end
theorem flatAll_of : ∀ {xs : List PyData}, (∀ x ∈ xs, flatD x = true) → flatAll xs = true
  | [], _ => rfl
  | x :: r, h => by
    show (flatD x && flatAll r) = true
    rw [h x List.mem_cons_self, flatAll_of fun y hy => h y (List.mem_cons_of_mem _ hy)]
    rfl
theorem OkFlat.flat {x : PyData} (h : OkFlat x) : flatD x = true := by cases h <;> rfl
theorem OkRow.flatD : ∀ {d : Nat} {x : PyData}, OkRow d x → flatD x = true := by
  intro d
  induction d with
  | zero =>
    intro x h
    cases h with
    | flat h => exact h.flat
  | succ d ih =>
    intro x h
    cases h with
    | flat h => exact h.flat
    | tryr h1 h2 h3 =>
      show (true && (flatAll _ && (flatAll _ && (flatAll _ && true)))) = true
      rw [flatAll_of fun y hy => ih (h1 y hy), flatAll_of fun y hy => ih (h3 y hy), flat_strs]
      rfl
/-! data kept -/
theorem DpAll.snoc {K : PySem.W.Frag} {H : Hp} {v : V} {d : PyData} : ∀ {vs : List V} {ds : List PyData}, DpAll K H vs ds → Dp K H v d → DpAll K H (vs ++ [v]) (ds ++ [d])
  | _, _, .nil, h => .cons h .nil
  | _, _, .cons a b, h => .cons a (DpAll.snoc b h)
theorem DpAll.len {K : PySem.W.Frag} {H : Hp} : ∀ {vs : List V} {ds : List PyData}, DpAll K H vs ds → vs.length = ds.length
  | _, _, .nil => rfl
  | _, _, .cons _ b => congrArg (· + 1) (DpAll.len b)
theorem TupK.new {H : Hp} {t : Addr} {o : HO} (h : H t = none) : TupK H (upd H t o) := .of (W := []) (Kp.refl.upd_new h) fun x hx => absurd hx List.not_mem_nil
theorem TupK.lst {H : Hp} {l : Addr} {xs : List V} {o : HO} (h : H l = some (.lst xs)) : TupK H (upd H l o) :=
  .of (W := [l]) (Kp.refl.upd_mem List.mem_cons_self) fun x hx => by rw [List.mem_singleton.mp hx]; exact .lst h
theorem TupK.two {H H' : Hp} {p r : Addr} (k : Kp [p, r] H H') (hp : NoTup H p) (hr : NoTup H r) : TupK H H' := .of k fun x hx => by
  simp only [List.mem_cons, List.not_mem_nil, or_false] at hx
  rcases hx with rfl | rfl
  · exact hp
  · exact hr
theorem TupK.one {H H' : Hp} {p : Addr} (k : Kp [p] H H') (hp : NoTup H p) : TupK H H' := .of k fun x hx => by rw [List.mem_singleton.mp hx]; exact hp
theorem dpStrs {K : PySem.W.Frag} {H : Hp} : ∀ ws : List Str, DpAll K H (ws.map V.str) (ws.map PyData.str)
  | [] => .nil
  | x :: xs => .cons (.str x) (dpStrs xs)
theorem Kp.p_pr {p r : Addr} {A B : Hp} (k : Kp [p] A B) : Kp [p, r] A B := k.weak fun x hx => by rw [List.mem_singleton.mp hx]; exact List.mem_cons_self
theorem Kp.nil_pr {p r : Addr} {A B : Hp} (k : Kp [] A B) : Kp [p, r] A B := k.weak fun x hx => absurd hx List.not_mem_nil
theorem nin2 {a p r : Addr} (h1 : a ≠ p) (h2 : a ≠ r) : Nin a [p, r] := ⟨h1, h2, trivial⟩
/-! rows as they are judged -/
def isNameX : PyData → Bool
  | .str z => isNameL (tl z)
  | _ => false
def isPathX : PyData → Bool
  | .str z => isPathL (tl z)
  | _ => false
def isWholeX : PyData → Bool
  | .int _ => true
  | _ => false
/-- one part of a row that is no try -/
inductive Part : PyData → Prop
  | non : Part .none
  | int {n : Int} : n.natAbs < 10 ^ 400 → Part (.int n)
  | str {z : Str} : z.length ≤ 100000 → Part (.str z)
/-- a row as a text's reader makes it -/
inductive RowG : PyData → Prop
  | bare {w : Str} {ds : List PyData} : w.length ≤ 100000 → (∀ d ∈ ds, Part d) → ds.length ≤ 100000 → RowG (.tuple (.str w :: ds))
  | tryr {a b : List PyData} {ws : List Str} : (∀ y ∈ a, RowG y) → a.length ≤ 100000 → (∀ z ∈ ws, z.length ≤ 100000) → ws.length ≤ 100 → (∀ y ∈ b, RowG y) → b.length ≤ 100000 →
      RowG (.tuple [.str "try", .tuple a, .tuple (ws.map .str), .tuple b])
def nth (ds : List PyData) (k : Nat) : PyData := ds.getD k .none
/-- is_bare, of the parts behind the word w -/
def isBareX (w : Str) (t : List PyData) : Bool :=
  if w = "note" then decide (t.length = 1) && isPathX (nth t 0)
  else if w = "fail" then decide (t.length = 1) && isNameX (nth t 0)
  else if t.length < 2 then false
  else if isNameX (nth t 0) = false then false
  else if w = "set" then decide (t.length = 2) && isWholeX (nth t 1)
  else if w = "draw" then decide (t.length = 3) && (isPathX (nth t 1) && isNameX (nth t 2))
  else decide (w ∈ leadW) && (decide (t.length = 2) && isPathX (nth t 1))
/-- are_words, of texts -/
def areWordsX : PyData → Bool
  | .tuple ds => ds.all (fun d => match d with | .str z => isWordS z | _ => false) && decide (ds.map (fun d => match d with | .str z => z | _ => Str.empty)).Nodup
  | _ => false
/-- is_row_within -/
def isRowX : Nat → PyData → Bool
  | 0, .tuple (.str w :: t) => if w = "try" then false else isBareX w t
  | d + 1, .tuple (.str w :: t) => if w = "try" then decide (t.length = 3) && (areWordsX (nth t 1) &&
      ((partT 1 (.tuple (.str w :: t))).all (isRowX d) && (partT 3 (.tuple (.str w :: t))).all (isRowX d))) else isBareX w t
  | _, _ => false
theorem unlike_all (ks : List Str) : ∀ i, i ≤ ks.length → (unlike ks i = i ↔ (ks.take i).Nodup)
  | 0, _ => by simp [unlike]
  | i + 1, h => by
    have ih := unlike_all ks i (by omega)
    have le := unlike_le ks i
    have hi : i < ks.length := h
    have e : ks.take (i + 1) = ks.take i ++ [ks[i]] := by rw [List.take_add_one, List.getElem?_eq_getElem hi]; rfl
    have g : ks.getD i Str.empty = ks[i] := by rw [List.getD_eq_getElem?_getD, List.getElem?_eq_getElem hi]; rfl
    have any : (ks.take i).any (· == ks.getD i Str.empty) = decide (ks[i] ∈ ks.take i) := by
      rw [g, List.any_beq']
      exact Bool.eq_iff_iff.mpr (by simp)
    unfold unlike
    rw [any, e]
    by_cases c : ks[i] ∈ ks.take i
    · rw [if_pos (decide_eq_true c)]
      refine ⟨fun z => by omega, fun z => ?_⟩
      exact absurd rfl ((List.nodup_append.mp z).2.2 _ c _ (List.mem_singleton.mpr rfl))
    · rw [if_neg (by simpa using c)]
      refine ⟨fun z => List.nodup_append.mpr ⟨ih.mp (by omega), List.pairwise_singleton _ _, fun a ha b hb e => c (by rw [← List.mem_singleton.mp hb, ← e]; exact ha)⟩, fun z => ?_⟩
      rw [ih.mpr (List.nodup_append.mp z).1]
end HL

/-! HLt: rows as drawn are good rows. -/
namespace HL
open PySem PySem.Spec PyProof.Rows L2 TL
theorem sD_len {l : List Nat} {m : Nat} (h : l.length ≤ m) : (mkS l).length ≤ m := by rw [mkS_len]; exact h
theorem Part.name {l : List Nat} (h : isNameL l = true) : Part (sD l) := .str (sD_len (Nat.le_trans (isNameL_len h).2 (by decide)))
theorem Part.path {l : List Nat} (h : isPathL l = true) : Part (sD l) := .str (sD_len (Nat.le_trans (isPathL_facts h).2.1 (by decide)))
theorem isRowX_flat {d : Nat} {z : Str} {ds : List PyData} (h : z ≠ "try") : isRowX d (.tuple (.str z :: ds)) = isBareX z ds := by
  cases d with
  | zero => exact if_neg h
  | succ d => exact if_neg h
theorem parts1 {a : PyData} (h : Part a) : ∀ d ∈ [a], Part d := fun d hd => by rw [List.mem_singleton.mp hd]; exact h
theorem parts2 {a b : PyData} (h : Part a) (g : Part b) : ∀ d ∈ [a, b], Part d := fun d hd => by
  simp only [List.mem_cons, List.not_mem_nil, or_false] at hd
  rcases hd with rfl | rfl
  · exact h
  · exact g
theorem parts3 {a b c : PyData} (h : Part a) (g : Part b) (k : Part c) : ∀ d ∈ [a, b, c], Part d := fun d hd => by
  simp only [List.mem_cons, List.not_mem_nil, or_false] at hd
  rcases hd with rfl | rfl | rfl
  · exact h
  · exact g
  · exact k
theorem OkFlat.rowG {x : PyData} (h : OkFlat x) : RowG x := by
  cases h with
  | set h g => exact .bare (by decide +kernel) (parts2 (.name h) (.int g)) (by simp)
  | note h => exact .bare (by decide +kernel) (parts1 (.path h)) (by simp)
  | fail h => exact .bare (by decide +kernel) (parts1 (.name h)) (by simp)
  | draw h g k => exact .bare (by decide +kernel) (parts3 (.name h) (.path g) (.name k)) (by simp)
  | lead hw h g =>
    refine .bare ?_ (parts2 (.name h) (.path g)) (by simp)
    simp only [leadW, List.mem_cons, List.not_mem_nil, or_false] at hw
    rcases hw with rfl | rfl | rfl | rfl <;> decide +kernel
theorem isNameX_sD {l : List Nat} (h : isNameL l = true) : isNameX (sD l) = true := h
theorem isPathX_sD {l : List Nat} (h : isPathL l = true) : isPathX (sD l) = true := h
theorem OkFlat.isRow {x : PyData} (h : OkFlat x) (d : Nat) : isRowX d x = true := by
  have ne : ∀ {a b : Str}, decide (a = b) = false → a ≠ b := fun h => of_decide_eq_false h
  cases h with
  | @set l n h _ =>
    rw [isRowX_flat (by decide +kernel)]
    unfold isBareX
    rw [if_neg (ne (by decide +kernel)), if_neg (ne (by decide +kernel)), if_neg (by simp), if_neg (by show ¬ isNameX (sD l) = false; rw [isNameX_sD h]; simp), if_pos rfl]
    rfl
  | @note q h =>
    rw [isRowX_flat (by decide +kernel)]
    unfold isBareX
    rw [if_pos rfl]
    exact h
  | @fail l h =>
    rw [isRowX_flat (by decide +kernel)]
    unfold isBareX
    rw [if_neg (ne (by decide +kernel)), if_pos rfl]
    exact h
  | @draw l q m h g k =>
    rw [isRowX_flat (by decide +kernel)]
    unfold isBareX
    rw [if_neg (ne (by decide +kernel)), if_neg (ne (by decide +kernel)), if_neg (by simp), if_neg (by show ¬ isNameX (sD l) = false; rw [isNameX_sD h]; simp), if_neg (ne (by decide +kernel)), if_pos rfl]
    show (true && (isPathX (sD q) && isNameX (sD m))) = true
    rw [isPathX_sD g, isNameX_sD k]
    rfl
  | @lead w l q hw h g =>
    have hw2 := hw
    simp only [leadW, List.mem_cons, List.not_mem_nil, or_false] at hw2
    have n : w ≠ "try" ∧ w ≠ "note" ∧ w ≠ "fail" ∧ w ≠ "set" ∧ w ≠ "draw" := by
      rcases hw2 with rfl | rfl | rfl | rfl <;> decide +kernel
    rw [isRowX_flat n.1]
    unfold isBareX
    rw [if_neg n.2.1, if_neg n.2.2.1, if_neg (by simp), if_neg (by show ¬ isNameX (sD l) = false; rw [isNameX_sD h]; simp), if_neg n.2.2.2.1, if_neg n.2.2.2.2, decide_eq_true hw]
    exact g
theorem isWordS_len {z : Str} (h : isWordS z = true) : z.length ≤ 100000 := by
  unfold isWordS at h
  rw [Bool.or_eq_true] at h
  rcases h with h | h
  · rw [len_tl]; exact Nat.le_trans (isNameL_len h).2 (by decide)
  · have h := of_decide_eq_true h
    simp only [faultW, List.mem_cons, List.not_mem_nil, or_false] at h
    rcases h with rfl | rfl | rfl | rfl | rfl | rfl <;> decide +kernel
theorem le_sum_mem {d : Nat} : ∀ {xs : List PyData} {x : PyData}, x ∈ xs → cntRow d x ≤ cnts d xs
  | a :: r, x, h => by
    unfold cnts
    rw [List.map_cons, List.sum_cons]
    rcases List.mem_cons.mp h with rfl | h
    · omega
    · have := le_sum_mem (d := d) h
      unfold cnts at this
      omega
theorem areWordsX_ok {ws : List Str} (h : OkWords ws) : areWordsX (.tuple (ws.map .str)) = true := by
  have e : ∀ (f : Str → Str), (∀ z, f z = z) → ws.map f = ws := fun f h => (List.map_congr_left fun z _ => h z).trans (List.map_id' ws)
  have g := e ((fun d : PyData => match d with | .str z => z | _ => Str.empty) ∘ PyData.str) fun _ => rfl
  unfold areWordsX
  dsimp only
  rw [List.all_map, List.map_map, Bool.and_eq_true]
  refine ⟨List.all_eq_true.mpr fun z hz => h.all z hz, decide_eq_true ?_⟩
  exact (Iff.of_eq (congrArg List.Nodup g)).mpr h.nd
theorem OkRow.good : ∀ {d : Nat} {x : PyData}, OkRow d x → cntRow d x ≤ 100000 → RowG x ∧ isRowX d x = true := by
  intro d
  induction d with
  | zero =>
    intro x h _
    cases h with
    | flat h => exact ⟨h.rowG, h.isRow 0⟩
  | succ d ih =>
    intro x h c
    cases h with
    | flat h => exact ⟨h.rowG, h.isRow _⟩
    | @tryr _ a b ws h1 h2 h3 =>
      rw [cntRow_try] at c
      have ga : ∀ y ∈ a, RowG y ∧ isRowX d y = true := fun y hy => ih (h1 y hy) (Nat.le_trans (le_sum_mem hy) (by omega))
      have gb : ∀ y ∈ b, RowG y ∧ isRowX d y = true := fun y hy => ih (h3 y hy) (Nat.le_trans (le_sum_mem hy) (by omega))
      refine ⟨.tryr (fun y hy => (ga y hy).1) (Nat.le_trans (len_le_cnts d a) (by omega)) (fun z hz => isWordS_len (h2.all z hz)) h2.few (fun y hy => (gb y hy).1) (Nat.le_trans (len_le_cnts d b) (by omega)), ?_⟩
      show (if ("try" : Str) = "try" then _ else _) = true
      rw [if_pos rfl]
      show (true && (areWordsX (.tuple (ws.map .str)) && (a.all (isRowX d) && b.all (isRowX d)))) = true
      rw [areWordsX_ok h2, List.all_eq_true.mpr fun y hy => (ga y hy).2, List.all_eq_true.mpr fun y hy => (gb y hy).2]
      rfl
end HL

/-! FLa: exceptions in the air whose context is none, or one without context. -/
namespace L3
open PySem PySem.Spec PyProof.Rows L2
abbrev St := L2.St
/-- a chain of contexts that ends; R tells which objects stand where -/
inductive Chn (R : Addr → Obj → Prop) : Value → Prop
  | none : Chn R .none
  | ref {b : Addr} {ob : Obj} {ws : Array Value} {c : Value} : R b ob → ob.data = .fields ws → ws[2]? = some c → Chn R c → Chn R (.ref b)
theorem Chn.mono {R R' : Addr → Obj → Prop} (k : ∀ b o ws, R b o → o.data = .fields ws → R' b o) {c : Value} (x : Chn R c) : Chn R' c := by
  induction x with
  | none => exact .none
  | ref h d e _ ih => exact .ref (k _ _ _ h d) d e ih
/-- its objects, in a list -/
theorem Chn.list {R : Addr → Obj → Prop} {c : Value} (x : Chn R c) : ∃ L : List (Addr × Obj), (∀ p ∈ L, R p.1 p.2 ∧ ∃ ws, p.2.data = .fields ws) ∧ Chn (fun b o => (b, o) ∈ L) c := by
  induction x with
  | none => exact ⟨[], ⟨fun p hp => (nomatch hp), .none⟩⟩
  | @ref b ob ws c h d e _ ih =>
    obtain ⟨L, h1, h2⟩ := ih
    refine ⟨(b, ob) :: L, fun p hp => ?_, .ref List.mem_cons_self d e (h2.mono fun _ _ _ q _ => List.mem_cons_of_mem _ q)⟩
    rcases List.mem_cons.mp hp with rfl | hp
    · exact ⟨h, ws, d⟩
    · exact h1 p hp
/-- the context of an exception's object, as the ground B has it -/
def Ctx2 (B : Heap) (H : Hp) (o : Obj) : Prop := ∀ vs : Array Value, o.data = .fields vs → ∃ c, vs[2]? = some c ∧ Chn (fun b ob => B.get? b = some ob ∧ H b = none) c
theorem mapped_fields {o : Obj} {g : Array Value → Array Value} {vs : Array Value} (e : (o.mapFields g).data = .fields vs) : ∃ ws, o.data = .fields ws ∧ vs = g ws := by
  obtain ⟨c, d, dt, sl⟩ := o
  cases dt with
  | fields ws => exact ⟨ws, rfl, (Data.fields.inj e).symm⟩
  | _ => first | exact Data.noConfusion e | cases e
theorem set1_2 {vs : Array Value} {v : Value} : (vs.setIfInBounds 1 v)[2]? = vs[2]? := by
  first | exact Array.getElem?_setIfInBounds_ne (by decide) | simp [Array.getElem?_setIfInBounds]
theorem ctx2_steady {B : Heap} {H : Hp} : PXN.Steady1 (Ctx2 B H) := fun o v h vs e => by
  obtain ⟨ws, e1, rfl⟩ := mapped_fields e
  rw [set1_2]
  exact h ws e1
theorem Ctx2.none {B : Heap} {H : Hp} {o : Obj} (h : PXN.CtxN o) : Ctx2 B H o := fun vs e => ⟨_, h vs e, .none⟩
theorem Ctx2.size {B : Heap} {H : Hp} {o : Obj} {vs : Array Value} (h : Ctx2 B H o) (e : o.data = .fields vs) : 2 < vs.size := by
  obtain ⟨_, q, _⟩ := h vs e
  exact (Array.getElem?_eq_some_iff.mp q).1
def Zk (B : Heap) (H : Hp) (cls : Value) (d : Option Addr) : Obj → Prop := fun o => o.cls = cls ∧ o.dict = d ∧ Ctx2 B H o
theorem Zk.steady {B : Heap} {H : Hp} {cls : Value} {d : Option Addr} : PXN.Steady1 (Zk B H cls d) := fun o v z =>
  ⟨PXN.steady_cls o v z.1, PXN.steady_dict o v z.2.1, ctx2_steady o v z.2.2⟩
/-- an exception in the air of X; sI: the state without it -/
def XE (X : Cx) (W : WX) (u : Value) (t : Shared) : Prop :=
  ∃ (a : Addr) (B : Heap) (sI : Shared) (pins : List (Addr × Obj)) (σ : St) (H : Hp) (cls : Value) (d : Option Addr),
    u = .ref a ∧ Inv X pins σ H sI ∧ (∀ b o, sI.heap.get? b = some o → b ∉ frs X.stack → B.get? b = some o) ∧ sI.heap.UpToSlots t.heap ∧
      Sky B X.stack a (Zk B H cls d) X.env.locals t.heap ∧ H a = none ∧ t.os = sI.os ∧ AllBare t.gens ∧ W cls d σ H
def Takes (X : Cx) (W : WX) : Prop := ∀ u t, XE X W u t → X.xe u t
theorem XE.imp {X : Cx} {W W' : WX} {u : Value} {t : Shared} (h : ∀ c d σ H, W' c d σ H → W c d σ H) : XE X W' u t → XE X W u t := fun ⟨a, B, sI, pins, σ, H, cls, d, e, I, nb, up, sky, na, os, ag, w⟩ =>
  ⟨a, B, sI, pins, σ, H, cls, d, e, I, nb, up, sky, na, os, ag, h _ _ _ _ w⟩
theorem Takes.imp {X : Cx} {W W' : WX} (t : Takes X W) (h : ∀ c d σ H, W' c d σ H → W c d σ H) : Takes X W' := fun u s x => t u s (x.imp h)
theorem takes0 {X : Cx} : Takes X (fun _ _ _ _ => False) := fun _ _ x => by
  obtain ⟨_, _, _, _, _, _, _, _, _, _, _, _, _, _, _, _, z⟩ := x
  exact z.elim
/-- a call that let an exception out -/
def CX (P : Program) (w : World) (outer : List Env) (H : Hp) (s : Shared) (E : XK) (u : Value) (t : Shared) : Prop :=
  ∃ (a : Addr) (B : Heap) (H' : Hp) (cls : Value) (d : Option Addr), u = .ref a ∧ HandSPX.FlyingZ B outer a (Zk B H' cls d) t.heap ∧ HOk P w H' B ∧ UB (frs outer) H H' s.heap B t.heap ∧
    H' a = none ∧ t.os = s.os ∧ AllBare t.gens ∧ E cls d H'
section
variable {X : Cx} {pins : List (Addr × Obj)} {σ : St} {H : Hp} {sI s t : Shared} {B : Heap} {W : WX} {E : XK}
theorem XE.of_call (I : Inv X pins σ H s) {u : Value} (hW : ∀ cls d H', E cls d H' → W cls d σ H') (c : CX X.prog X.w X.stack H s E u t) : XE X W u t := by
  obtain ⟨a, B, H', cls, d, rfl, fl, hok, ub, na, os, ag, hE⟩ := c
  have stays : B.StaysIn t.heap := fl.1
  obtain ⟨G, in1, out1⟩ := restrict t.heap fun b => (B.get? b).isSome || decide (b ∈ frs X.stack)
  have ofB : ∀ b o, B.get? b = some o → G.get? b = some o := fun b o e => (in1 b (by simp [e])).trans (stays b o e)
  have ofF : ∀ b, b ∈ frs X.stack → G.get? b = t.heap.get? b := fun b hb => in1 b (by simp [hb])
  have back : ∀ b o, G.get? b = some o → t.heap.get? b = some o ∧ ((B.get? b).isSome = true ∨ b ∈ frs X.stack) := fun b o e => by
    cases q : ((B.get? b).isSome || decide (b ∈ frs X.stack)) with
    | true => exact ⟨(in1 b q).symm.trans e, by simpa [Bool.or_eq_true] using q⟩
    | false => rw [out1 b q] at e; cases e
  have J : Inv X pins σ H' { s with heap := G, gens := t.gens, drawn := t.drawn, toks := t.toks } := by
    refine I.call (ch := []) ⟨fun b o e n hb _ => ofB b o (ub.keep b o e n hb), fun b o e n hb _ => ?_, fun b o e n _ => ub.free b o e n, fun b o e _ => ?_, ub.tups, ub.frzs, ub.tbls⟩ (hok.kept ofB) ag (fun _ z => nomatch z)
    · obtain ⟨sl, q⟩ := ub.slot b o e hb
      exact ⟨sl, (ofF b hb).trans q⟩
    · by_cases hb : b ∈ frs X.stack
      · obtain ⟨sl, q⟩ := ub.slot b o e hb
        exact ⟨_, (ofF b hb).trans q⟩
      · obtain ⟨o', q⟩ := ub.there b o e hb
        exact ⟨o', ofB b o' q⟩
  refine ⟨a, B, _, pins, σ, H', cls, d, rfl, J, fun b o e hb => ?_, Heap.UpToSlots.of_keeps fun b o e => (back b o e).1, .inr (.inl fl), na, os, ag, hW _ _ _ hE⟩
  obtain ⟨e1, q | q⟩ := back b o e
  · obtain ⟨o', q⟩ := Option.isSome_iff_exists.mp q
    have := (stays b o' q).symm.trans e1
    cases this
    exact q
  · exact absurd q hb
/-- the ground of a new exception: what stands but the frames -/
theorem XE.new {a : Addr} {oe : Obj} {vs : Array Value} {cls : Value} {d : Option Addr} (I : Inv X pins σ H sI) (k : ∀ b o, sI.heap.get? b = some o → t.heap.get? b = some o) (gone : sI.heap.get? a = none) (he : t.heap.get? a = some oe)
    (hz : Zk (PySem.W.hideAll sI.heap (frs X.stack)) H cls d oe) (hd : oe.data = .fields vs) (h1 : vs[1]? = some .none) (na : H a = none) (os : t.os = sI.os) (ag : AllBare t.gens) (w : W cls d σ H) : XE X W (.ref a) t := by
  have hid : (PySem.W.hideAll sI.heap (frs X.stack)).get? a = none := by
    cases q : (PySem.W.hideAll sI.heap (frs X.stack)).get? a with
    | none => rfl
    | some o => exact absurd (gone.symm.trans (PySem.W.of_hideAll _ q)) (fun z => nomatch z)
  have fr : t.heap.FunFrames (PySem.W.hideAll sI.heap (frs X.stack)) X.stack :=
    Heap.FunFrames.of_keeps (fun b o e _ => ⟨o, k b o e, rfl⟩) (funFrames_none I.stack fun b hb => PySem.W.hideAll_none _ hb)
  exact ⟨a, _, sI, pins, σ, H, cls, d, rfl, I, fun b o e hb => PySem.W.hideAll_get _ e hb, Heap.UpToSlots.of_keeps k,
    .inl ⟨fun b o e => k b o (PySem.W.of_hideAll _ e), hid, fr, oe, vs, he, hz, hd, h1⟩, na, os, ag, w⟩
theorem XE.leave (hs : X.stack = X.env :: X.outer) (hf : X.env.frame = some X.env.locals) (hex : X.ex = []) {E₁ : Value → Shared → Prop} (hW : ∀ cls d σ H, W cls d σ H → E cls d H) {u : Value} (x : XE X W u t) :
    wpAny (model X.prog X.w) X.A (leaving X.env u) (fun _ t2 => CX X.prog X.w X.outer X.H_0 X.s_0 E u t2) E₁ t := by
  obtain ⟨a, B, sI, pins, σ, H, cls, d, rfl, I, nb, up, sky, na, os, ag, w⟩ := x
  have noex : ∀ b, b ∉ X.ex := fun b hb => by rw [hex] at hb; cases hb
  have frames : X.A.frames = some (X.env :: X.outer) := I.ok.frames.trans (by rw [hs])
  have nfr : ∀ b o, X.s_0.heap.get? b = some o → b ∉ X.fs → b ∉ frs X.stack := fun b o e hb hm => by
    rcases List.mem_cons.mp (I.stkSub b hm) with z | z
    · have := Nat.lt_of_lt_of_le (Heap.lt_size e) I.ok.above
      rw [z] at this
      exact Nat.lt_irrefl _ this
    · exact hb z
  have fin : ∀ h', HandSPX.FlyingZ B X.outer a (Zk B H cls d) h' → t.heap.UpToSlots h' → CX X.prog X.w X.outer X.H_0 X.s_0 E (.ref a) { t with heap := h' } := fun h' fl up' => by
    have ub : UB (frs X.outer) X.H_0 H X.s_0.heap B h' := ⟨fun b o e n hb => nb b o (I.base.keep b o e n hb (noex b)) (nfr b o e hb), fun b o e hb => by
      obtain ⟨_, o₀, e₀, nf⟩ := I.ok.funs.mem hb
      have eo := Option.some.inj (e.symm.trans e₀)
      subst eo
      obtain ⟨s1, e1⟩ := I.base.slot b o e (I.ok.frf b hb) hb (noex b)
      obtain ⟨s2, e2⟩ := up b _ e1 nf
      obtain ⟨s3, e3⟩ := up' b _ e2 nf
      exact ⟨s3, e3⟩, fun b o e n => I.base.free b o e n (noex b), fun b o e hb => by
      obtain ⟨o', e1⟩ := I.base.there b o e (noex b)
      exact ⟨o', nb b o' e1 (nfr b o e hb)⟩, I.base.tups, I.base.frzs, I.base.tbls⟩
    exact ⟨a, B, H, cls, d, rfl, fl, I.inGround nb, ub, na, os.trans I.os, ag, hW _ _ _ _ w⟩
  rw [hs] at sky
  rcases sky with ⟨hB, hn, hl, oe, vs, he, hz, hd, h1⟩ | fl | hh
  · exact PXN.leaving_firstZ Zk.steady frames hl hf he hB hn hd h1 hz fin
  · exact PXN.leaves_onZ Zk.steady frames hf fl fin
  · exact HandSPX.leaves_heldZ hf hh fin
theorem takes_of (hs : X.stack = X.env :: X.outer) (hf : X.env.frame = some X.env.locals) (hex : X.ex = []) {E₁ : Value → Shared → Prop}
    (hx : X.xe = fun e s' => wpAny (model X.prog X.w) X.A (leaving X.env e) (fun _ s'' => CX X.prog X.w X.outer X.H_0 X.s_0 E e s'') E₁ s') : Takes X (fun cls d _ H => E cls d H) := fun u t x => by
  rw [hx]
  exact XE.leave (W := fun cls d _ H => E cls d H) hs hf hex (fun _ _ _ _ h => h) x
theorem passAt (tk : Takes X W) (σ : St) : PassesAt (CX X.prog X.w) X σ (WE W σ) := fun _ _ _ u t I c => tk u t (XE.of_call I (fun _ _ _ h => h) c)
end
end L3

/-! FLb: an exception that was caught and flies on; an except suite, with a name, that raises. -/
namespace L3
open PySem PySem.Spec PyProof.Rows L2
section
variable {X : Cx} {pins : List (Addr × Obj)} {σ : St} {H : Hp} {s : Shared}
/-- some objects that nothing leans on are left out -/
theorem thin {G : Heap} {gone : Addr → Prop} (I : Inv X pins σ H s) (k : ∀ b o, s.heap.get? b = some o → ¬ gone b → G.get? b = some o) (g0 : ∀ b, gone b → X.s_0.heap.get? b = none) (gL : ¬ gone X.env.locals)
    (gC : ∀ x c, X.env.cells.lookup x = some c → ¬ gone c) (gP : ∀ p ∈ X.pn ++ pins, ¬ gone p.1) (gH : ∀ b, gone b → H b = none) : Inv X pins σ H { s with heap := G } := by
  have n0 : ∀ b o, X.s_0.heap.get? b = some o → ¬ gone b := fun b o e z => by rw [g0 b z] at e; cases e
  refine ⟨I.ok, I.os, I.bare, ⟨fun b o e n hb hx => k b o (I.base.keep b o e n hb hx) (n0 b o e), fun b o e n hb hx => ?_, I.base.free, fun b o e hx => ?_, I.base.tups, I.base.frzs, I.base.tbls⟩, ?_, fun x c e => ?_, I.free, I.freeC, fun p hp => ?_, fun b u e => ?_, I.len⟩
  · obtain ⟨sl, q⟩ := I.base.slot b o e n hb hx
    exact ⟨sl, k b _ q (n0 b o e)⟩
  · obtain ⟨o', q⟩ := I.base.there b o e hx
    exact ⟨o', k b o' q (n0 b o e)⟩
  · obtain ⟨m, ⟨ob, es, ep, ho, r⟩, hl⟩ := I.loc
    refine ⟨m, ⟨ob, es, ep, k _ _ ho gL, r⟩, fun i x v e1 e2 e3 => ?_⟩
    obtain ⟨u, ru, q⟩ := hl i x v e1 e2 e3
    refine ⟨u, ru, ?_⟩
    rcases q with q | ⟨kd, c, e, oc, hc, hd⟩
    · exact .inl q
    · exact .inr ⟨kd, c, e, oc, k _ _ hc (gC x c e), hd⟩
  · obtain ⟨v, oc, hc, hd⟩ := I.cell x c e
    exact ⟨v, oc, k _ _ hc (gC x c e), hd⟩
  · obtain ⟨e, r⟩ := I.pin p hp
    exact ⟨k _ _ e (gP p hp), r⟩
  · refine (I.hok b u e).stay (fun c v hc q => k c v q fun z => ?_) (fun _ q => q) fun _ _ q => q
    have n := gH c z
    rcases hc with rfl | hc
    · rw [e] at n; cases n
    · rw [hc] at n; cases n
/-- an address that nothing of ours is at -/
structure Off (X : Cx) (pins : List (Addr × Obj)) (H : Hp) (b : Addr) : Prop where
  s0 : X.s_0.heap.get? b = none
  loc : b ≠ X.env.locals
  fs : b ∉ X.fs
  free : H b = none
  pin : ∀ p ∈ X.pn ++ pins, p.1 ≠ b
/-- the context of a caught exception stands in the heap -/
def Ctx3 (X : Cx) (H : Hp) (h : Heap) (a T : Addr) (vs : Array Value) : Prop := ∃ c, vs[2]? = some c ∧
  Chn (fun b ob => h.get? b = some ob ∧ b ≠ a ∧ b ≠ T ∧ b ≠ X.env.locals ∧ b ∉ X.fs ∧ H b = none) c
/-- an exception, its traceback, its flight -/
def Crew (X : Cx) (pins : List (Addr × Obj)) (H : Hp) (h : Heap) (a T : Addr) (cls : Value) (d : Option Addr) (fl : Value) : Prop :=
  (∃ (oe oT : Obj) (vs ts : Array Value), h.get? a = some oe ∧ h.get? T = some oT ∧ oe.cls = cls ∧ oe.dict = d ∧ oe.data = .fields vs ∧ vs[1]? = some (.ref T) ∧ oT.data = .fields ts ∧ ts[3]? = some fl ∧ Ctx3 X H h a T vs) ∧
    T ≠ a ∧ Off X pins H a ∧ Off X pins H T
variable {a T : Addr} {cls : Value} {d : Option Addr} {fl : Value}
theorem no_cell (I : Inv X pins σ H s) {o : Obj} {vs : Array Value} (e : s.heap.get? a = some o) (hd : o.data = .fields vs) {x : Str} {c : Addr} (hc : X.env.cells.lookup x = some c) : c ≠ a := fun z => by
  obtain ⟨v, oc, ho, hd2⟩ := I.cell x c hc
  rw [z, e] at ho
  cases ho
  rw [hd] at hd2
  cases hd2
theorem Off.stk (I : Inv X pins σ H s) {b : Addr} (o : Off X pins H b) : b ∉ frs X.stack := fun hm => (List.mem_cons.mp (I.stkSub b hm)).elim o.loc o.fs
theorem crew_out {W : WX} (I : Inv X pins σ H s) (c : Crew X pins H s.heap a T cls d (rawInt X.env.locals)) (w : W cls d σ H) : XE X W (.ref a) s := by
  obtain ⟨⟨oe, oT, vs, ts, he, hT, ec, ed, hd, h1, hdT, h3, cx⟩, ne, oa, oT'⟩ := c
  obtain ⟨G, in1, out1⟩ := restrict s.heap fun b => !decide (b = a) && !decide (b = T)
  have inG : ∀ b o, s.heap.get? b = some o → ¬ (b = a ∨ b = T) → G.get? b = some o := fun b o e n => (in1 b (by simp only [not_or] at n; simp [n.1, n.2])).trans e
  have sub : ∀ b o, G.get? b = some o → s.heap.get? b = some o := fun b o e => by
    cases q : (!decide (b = a) && !decide (b = T)) with
    | true => exact (in1 b q).symm.trans e
    | false => rw [out1 b q] at e; cases e
  have J : Inv X pins σ H { s with heap := G } := thin (gone := fun b => b = a ∨ b = T) I inG
    (fun b z => z.elim (fun q => q ▸ oa.s0) (fun q => q ▸ oT'.s0)) (fun z => z.elim (fun z => oa.loc z.symm) (fun z => oT'.loc z.symm))
    (fun x c e z => z.elim (no_cell I he hd e) (no_cell I hT hdT e)) (fun p hp z => z.elim (oa.pin p hp) (oT'.pin p hp)) (fun b z => z.elim (fun q => q ▸ oa.free) (fun q => q ▸ oT'.free))
  have hidden : ∀ b, (b = a ∨ b = T) → (PySem.W.hideAll G (frs X.stack)).get? b = none := fun b z => by
    cases q : (PySem.W.hideAll G (frs X.stack)).get? b with
    | none => rfl
    | some o =>
      have := PySem.W.of_hideAll _ q
      rw [out1 b (by rcases z with rfl | rfl <;> simp)] at this
      cases this
  have ctx : Ctx2 (PySem.W.hideAll G (frs X.stack)) H oe := fun vs' e => by
    have := Data.fields.inj (hd.symm.trans e)
    subst this
    obtain ⟨c, q, ch⟩ := cx
    exact ⟨c, q, ch.mono fun b ob ws ⟨q2, q3, q4, q5, q6, q7⟩ _ => ⟨PySem.W.hideAll_get _ (inG b ob q2 (not_or.mpr ⟨q3, q4⟩)) fun hm => (List.mem_cons.mp (I.stkSub b hm)).elim q5 q6, q7⟩⟩
  have held : HandSPX.HeldZ (PySem.W.hideAll G (frs X.stack)) X.stack a (Zk (PySem.W.hideAll G (frs X.stack)) H cls d) X.env.locals s.heap :=
    ⟨fun b o e => sub b o (PySem.W.of_hideAll _ e), hidden a (.inl rfl), funFrames_none I.stack fun b hb => PySem.W.hideAll_none _ hb, oe, vs, T, oT, ts, he, ⟨ec, ed, ctx⟩, hd, h1, hidden T (.inr rfl), ne, hT, hdT, h3⟩
  exact ⟨a, _, _, pins, σ, H, cls, d, rfl, J, fun b o e hb => PySem.W.hideAll_get _ e hb, Heap.UpToSlots.of_keeps sub, .inr (.inr held), oa.free, rfl, I.bare, w⟩
/-- what flies, or is held, over a ground that bears us -/
theorem crew_of {B h : Heap} {sI : Shared} (J : Inv X pins σ H sI) (nb : ∀ b o, sI.heap.get? b = some o → b ∉ frs X.stack → B.get? b = some o) (hex : ∀ b o, X.s_0.heap.get? b = some o → b ∉ X.ex) (hf : X.stack = X.env :: X.outer) (hL : X.env.frame = some X.env.locals)
    (st : B.StaysIn h) (na : B.get? a = none) (ff : h.FunFrames B X.stack) (tr : HandSPX.TracedZ h B a (Zk B H cls d) fl) : ∃ T, Crew X pins H h a T cls d fl := by
  obtain ⟨oe, vs, T, oT, ts, he, ⟨ec, ed, cx⟩, hd, h1, nT, ne, hT, hdT, h3⟩ := tr
  have notF : ∀ {b : Addr} {o : Obj} {zs : Array Value}, h.get? b = some o → o.data = .fields zs → b ∉ frs X.stack := fun {b o zs} e q hm => by
    obtain ⟨_, o', e', nf⟩ := ff.mem hm
    rw [e] at e'
    cases e'
    exact nf _ q
  have off : ∀ {b : Addr} {o : Obj} {zs : Array Value}, h.get? b = some o → o.data = .fields zs → B.get? b = none → Off X pins H b := fun {b o zs} e q n => by
    have nf := notF e q
    have nI : sI.heap.get? b = none := by
      cases z : sI.heap.get? b with
      | none => rfl
      | some o' => rw [nb b o' z nf] at n; cases n
    refine ⟨?_, fun z => nf (by rw [hf, z]; exact List.mem_filterMap.mpr ⟨X.env, List.mem_cons_self, hL⟩), fun hm => nf (by
      obtain ⟨e2, h2, q2⟩ := List.mem_filterMap.mp hm
      rw [hf]
      exact List.mem_filterMap.mpr ⟨e2, List.mem_cons_of_mem _ h2, q2⟩), J.hok.gone nI, fun p hp z => ?_⟩
    · cases z : X.s_0.heap.get? b with
      | none => rfl
      | some o' =>
        obtain ⟨o2, q2⟩ := J.base.there b o' z (hex b o' z)
        rw [nI] at q2
        cases q2
    · have := (J.pin p hp).1
      rw [z, nI] at this
      cases this
  refine ⟨T, ⟨oe, oT, vs, ts, he, hT, ec, ed, hd, h1, hdT, h3, ?_⟩, ne, off he hd na, off hT hdT nT⟩
  obtain ⟨c, q, ch⟩ := cx vs hd
  refine ⟨c, q, ch.mono fun b ob ws ⟨q2, q5⟩ q3 => ?_⟩
  have nf := notF (st b ob q2) q3
  refine ⟨st b ob q2, fun z => ?_, fun z => ?_, fun z => nf (by rw [hf, z]; exact List.mem_filterMap.mpr ⟨X.env, List.mem_cons_self, hL⟩), fun hm => nf (by
    obtain ⟨e2, h2, p2⟩ := List.mem_filterMap.mp hm
    rw [hf]
    exact List.mem_filterMap.mpr ⟨e2, List.mem_cons_of_mem _ h2, p2⟩), q5⟩
  · rw [z, na] at q2; cases q2
  · rw [z, nT] at q2; cases q2
end
end L3

/-! FLc: try .. except X as n: a suite that may raise, or raise anew what was caught. -/
namespace L3
open PySem PySem.Spec PyProof.Rows L2
section
variable {X : Cx} {pins : List (Addr × Obj)} {σ : St} {H : Hp} {s : Shared} {a T : Addr} {cls : Value} {d : Option Addr} {fl : Value}
/-- what a pin says -/
abbrev PinAt (X : Cx) (H : Hp) (h : Heap) (p : Addr × Obj) : Prop := h.get? p.1 = some p.2 ∧ H p.1 = none ∧ p.1 ≠ X.env.locals ∧ p.1 ∉ X.fs ∧ ∀ v, p.2.data ≠ .cell v
/-- what is known of the exception that is handled, by pins -/
def HotQ (A : Around) (pn : List (Addr × Obj)) (a : Addr) : Prop := A.handled = some (.ref a) ∧ ∃ (oe : Obj) (vs : Array Value) (c : Value), (a, oe) ∈ pn ∧ oe.data = .fields vs ∧ vs[2]? = some c ∧ Chn (fun b o => (b, o) ∈ pn) c
def HotL (A : Around) (pn : List (Addr × Obj)) (a T : Addr) : Prop := A.handled = some (.ref a) ∧ ∃ (oe : Obj) (vs : Array Value) (c : Value), (a, oe) ∈ pn ∧ oe.data = .fields vs ∧ vs[1]? = some (.ref T) ∧ vs[2]? = some c ∧ Chn (fun b o => (b, o) ∈ pn) c
theorem HotL.q {A : Around} {pn : List (Addr × Obj)} {a T : Addr} (h : HotL A pn a T) : HotQ A pn a := by
  obtain ⟨h1, oe, vs, c, h2, h3, _, h4, h5⟩ := h
  exact ⟨h1, oe, vs, c, h2, h3, h4, h5⟩
theorem nocell_of {o : Obj} {vs : Array Value} (e : o.data = .fields vs) : ∀ v, o.data ≠ .cell v := fun v z => by rw [e] at z; cases z
theorem crew_pins {h : Heap} (c : Crew X pins H h a T cls d fl) : ∃ P : List (Addr × Obj), (∀ p ∈ P, PinAt X H h p) ∧ (∀ (H' : Hp) (h' : Heap), (∀ p ∈ P, h'.get? p.1 = some p.2) → (∀ p ∈ P, H' p.1 = none) → Crew X pins H' h' a T cls d fl) ∧
    ∃ (oe : Obj) (vs : Array Value) (c : Value), (a, oe) ∈ P ∧ oe.cls = cls ∧ oe.dict = d ∧ oe.data = .fields vs ∧ vs[1]? = some (.ref T) ∧ vs[2]? = some c ∧ Chn (fun b o => (b, o) ∈ P) c := by
  obtain ⟨⟨oe, oT, vs, ts, he, hT, ec, ed, hd, h1, hdT, h3, c, hc, cx⟩, ne, oa, oT'⟩ := c
  obtain ⟨L, l1, l2⟩ := cx.list
  refine ⟨(a, oe) :: (T, oT) :: L, fun p hp => ?_, fun H' h' k z => ?_, oe, vs, c, List.mem_cons_self, ec, ed, hd, h1, hc, l2.mono fun _ _ _ q _ => List.mem_cons_of_mem _ (List.mem_cons_of_mem _ q)⟩
  · rcases List.mem_cons.mp hp with rfl | hp
    · exact ⟨he, oa.free, oa.loc, oa.fs, nocell_of hd⟩
    · rcases List.mem_cons.mp hp with rfl | hp
      · exact ⟨hT, oT'.free, oT'.loc, oT'.fs, nocell_of hdT⟩
      · obtain ⟨⟨q1, _, _, q4, q5, q6⟩, ws, q7⟩ := l1 p hp
        exact ⟨q1, q6, q4, q5, nocell_of q7⟩
  · have mL : ∀ p ∈ L, p ∈ (a, oe) :: (T, oT) :: L := fun p hp => List.mem_cons_of_mem _ (List.mem_cons_of_mem _ hp)
    refine ⟨⟨oe, oT, vs, ts, k _ List.mem_cons_self, k (T, oT) (by simp), ec, ed, hd, h1, hdT, h3, c, hc, l2.mono fun b o ws q _ => ?_⟩, ne, ⟨oa.s0, oa.loc, oa.fs, z _ List.mem_cons_self, oa.pin⟩, ⟨oT'.s0, oT'.loc, oT'.fs, z (T, oT) (by simp), oT'.pin⟩⟩
    obtain ⟨⟨_, q2, q3, q4, q5, _⟩, _⟩ := l1 (b, o) q
    exact ⟨k _ (mL _ q), q2, q3, q4, q5, z _ (mL _ q)⟩
/-- its flight is set -/
theorem crew_flight {M : Model} {A : Around} {E : Value → Shared → Prop} {fr : Option Addr} {Q : Unit → Shared → Prop} (I : Inv X pins σ H s) (c : Crew X pins H s.heap a T cls d fl)
    (q : ∀ s', Inv X pins σ H s' → Crew X pins H s'.heap a T cls d (fr.elim Value.none fun f => rawInt f) → Q () s') : wpAny M A (setFlight (.ref a) fr) Q E s := by
  obtain ⟨⟨oe, oT, vs, ts, he, hT, ec, ed, hd, h1, hdT, h3, cx⟩, ne, oa, oT'⟩ := c
  have hz : 3 < ts.size := (Array.getElem?_eq_some_iff.mp h3).1
  have other : ∀ b, b ≠ T → (s.heap.update T (Obj.mapFields (·.setIfInBounds 3 (fr.elim Value.none fun f => rawInt f)))).get? b = s.heap.get? b := fun b hb => Heap.get?_update_other _ _ (Ne.symm hb)
  have at_ := Heap.get?_update_self (Obj.mapFields (·.setIfInBounds 3 (fr.elim Value.none fun f => rawInt f))) hT (Obj.isFreed_of_fields (Obj.data_mapFields hdT _))
  unfold setFlight
  refine wpAny_bind (wpAny_field he hd h1 ?_)
  rw [if_pos (show (Value.ref T != Value.none) = true from by simp)]
  refine wpAny_setField hT hdT hz (q _ (thin (gone := fun b => b = T) I (fun b o e n => (other b n).trans e) (fun b z => z ▸ oT'.s0) (fun z => oT'.loc z.symm) (fun x c e => no_cell I hT hdT e) (fun p hp => oT'.pin p hp) (fun b z => z ▸ oT'.free)) ?_)
  refine ⟨⟨oe, _, vs, _, (other a (Ne.symm ne)).trans he, at_, ec, ed, hd, h1, Obj.data_mapFields hdT _, by simp [hz], ?_⟩, ne, oa, oT'⟩
  obtain ⟨c, hc, ch⟩ := cx
  exact ⟨c, hc, ch.mono fun b ob ws ⟨q2, q3, q4, r⟩ _ => ⟨(other b q4).trans q2, q3, q4, r⟩⟩
/-- the clause's name goes -/
theorem crew_gone {M : Model} {A : Around} {E : Value → Shared → Prop} {i : Nat} {n : Str} {pos : Pos} {Q : Unit → Shared → Prop} (I : Inv X pins σ H s) (c : Crew X pins H s.heap a T cls d fl) (hN : X.N.Nodup) (hi : X.N[i]? = some n) (hl : X.env.kindOf n = some .local)
    (q : ∀ s', Inv X pins (σ.set i none) H s' → Crew X pins H s'.heap a T cls d fl → Q () s') : wpAny M A (do bindName X.env n .none; unbindBehindTheSuite X.env n pos) Q E s := by
  obtain ⟨P, h1, h2, _⟩ := crew_pins c
  have J : Inv X (pins ++ P) σ H s := I.pins_of fun p hp => (List.mem_append.mp hp).elim (fun z => I.pin p (List.mem_append_right _ z)) (h1 p)
  refine gone_ok J hN hi hl fun s' J' => q s' (J'.pins_of fun p hp => J'.pin p (List.mem_append_right _ (List.mem_append_left _ hp))) (h2 _ _ (fun p hp => (J'.pin p (List.mem_append_right _ (List.mem_append_right _ hp))).1) fun p hp => (h1 p hp).2.1)
/-- an except suite with a name raises: noted, the name goes, on it flies -/
def suiteXe (X : Cx) (a : Addr) (n : Str) (pos : Pos) : Value → Shared → Prop := fun x s₁ =>
  wpAny (model X.prog X.w) (X.A.mark (some (.ref a))) (noteFrame x X.env) (fun _ s₂ =>
    wpAny (model X.prog X.w) (X.A.mark (some (.ref a))) (do bindName X.env n .none; unbindBehindTheSuite X.env n pos)
      (fun _ s₃ => wpAny (model X.prog X.w) (X.A.mark (some (.ref a))) (passOn "try.except-as" x X.env : Sem Flow) (fun _ _ => False) (notedBy (model X.prog X.w) (X.A.mark (some (.ref a))) X.env fun y t => cameBackBy (model X.prog X.w) X.A X.env X.xe y t) s₃)
      (fun y s₃ => wpAny (model X.prog X.w) (X.A.mark (some (.ref a))) (setFlight x none) (fun _ s₄ => (notedBy (model X.prog X.w) (X.A.mark (some (.ref a))) X.env fun y t => cameBackBy (model X.prog X.w) X.A X.env X.xe y t) y s₄) (notedBy (model X.prog X.w) (X.A.mark (some (.ref a))) X.env fun y t => cameBackBy (model X.prog X.w) X.A X.env X.xe y t) s₃) s₂)
    (notedBy (model X.prog X.w) (X.A.mark (some (.ref a))) X.env fun y t => cameBackBy (model X.prog X.w) X.A X.env X.xe y t) s₁
abbrev suiteR (X : Cx) (a : Addr) (pn : List (Addr × Obj)) (xe : Value → Shared → Prop) : Cx := { X with A := X.A.mark (some (.ref a)), calm := false, pn := pn, xe := xe }
theorem suite_tail {W : WX} {i : Nat} {n : Str} {pos : Pos} {e : Addr} {E2 : Value → Shared → Prop} (hpa : ∀ hd : Option Value, PassesOwnAt (model X.prog X.w) (X.A.mark hd) X.A X.env X.xe) (tk : Takes X W) (hf : X.env.frame = some X.env.locals)
    (hN : X.N.Nodup) (hi : X.N[i]? = some n) (hl : X.env.kindOf n = some .local)
    (I : Inv X pins σ H s) (c : Crew X pins H s.heap a T cls d fl) (w : W cls d (σ.set i none) H) :
    wpAny (model X.prog X.w) (X.A.mark (some (.ref e))) (do bindName X.env n .none; unbindBehindTheSuite X.env n pos)
      (fun _ s₃ => wpAny (model X.prog X.w) (X.A.mark (some (.ref e))) (passOn "try.except-as" (.ref a) X.env : Sem Flow) (fun _ _ => False) (notedBy (model X.prog X.w) (X.A.mark (some (.ref e))) X.env fun y t => cameBackBy (model X.prog X.w) X.A X.env X.xe y t) s₃) E2 s := by
  refine crew_gone I c hN hi hl fun s1 I1 c1 => ?_
  have c1' := c1
  obtain ⟨⟨oe, oT, vs, ts, he, hT, ec, ed, hd, h1, _⟩, _⟩ := c1'
  unfold PySem.passOn
  refine wpAny_bind (wpAny_field he hd h1 ?_)
  rw [if_neg (show ¬ ((Value.ref T == Value.none) = true) from by simp)]
  have fin : wpAny (model X.prog X.w) (X.A.mark (some (.ref e))) (setFlight (.ref a) X.env.frame) (fun _ s4 => wpAny (model X.prog X.w) (X.A.mark (some (.ref e))) (throw (.ref a) : Sem Flow) (fun _ _ => False) (notedBy (model X.prog X.w) (X.A.mark (some (.ref e))) X.env fun y t => cameBackBy (model X.prog X.w) X.A X.env X.xe y t) s4)
      (notedBy (model X.prog X.w) (X.A.mark (some (.ref e))) X.env fun y t => cameBackBy (model X.prog X.w) X.A X.env X.xe y t) s1 := by
    rw [hf]
    exact crew_flight I1 c1 fun s2 I2 c2 => wpAny_throw (hpa _ _ _ (tk _ _ (crew_out I2 c2 w)))
  first
    | exact wpAny_bind (wpAny_pure (wpAny_bind fin))
    | exact wpAny_bind fin
theorem suite_in {xe : Value → Shared → Prop} {P : List (Addr × Obj)} (I : Inv X pins σ H s) (hP : ∀ p ∈ P, PinAt X H s.heap p) : Inv (suiteR X a (P ++ (X.pn ++ pins)) xe) [] σ H s :=
  ⟨(I.ok.suite a (P ++ (X.pn ++ pins))).wish xe, I.os, I.bare, I.base, I.loc, I.cell, I.free, I.freeC, fun p hp => by
    have hp : p ∈ (P ++ (X.pn ++ pins)) ++ [] := hp
    rw [List.append_nil] at hp
    exact (List.mem_append.mp hp).elim (hP p) (I.pin p), I.hok, I.len⟩
theorem suite_un {xe : Value → Shared → Prop} {P pn' : List (Addr × Obj)} (I : Inv (suiteR X a (P ++ (X.pn ++ pins)) xe) pn' σ H s) (ok : X.Ok) : Inv X pins σ H s ∧ ∀ p ∈ P, s.heap.get? p.1 = some p.2 :=
  ⟨⟨ok, I.os, I.bare, I.base, I.loc, I.cell, I.free, I.freeC, fun p hp => I.pin p (List.mem_append_left _ (List.mem_append_right _ hp)), I.hok, I.len⟩, fun p hp => (I.pin p (List.mem_append_left _ (List.mem_append_left _ hp))).1⟩
/-- what was caught may fly on -/
def TakesBack (Y : Cx) (a : Addr) (W : St → Hp → Prop) : Prop := ∀ (pn' : List (Addr × Obj)) (σ : St) (H : Hp) (s : Shared), Inv Y pn' σ H s → W σ H →
  wpAny (model Y.prog Y.w) Y.A (setFlight (.ref a) Y.env.frame) (fun _ s' => Y.xe (.ref a) s') Y.xe s
/-- raise, in an except suite -/
theorem ps_reraise {Y : Cx} {a T : Addr} {W : St → Hp → Prop} {pos : Pos} (hot : HotL Y.A Y.pn a T) (tb : TakesBack Y a W) : PS Y (.Raise none none pos) (fun _ σ H => W σ H) := by
  refine ⟨fun pn' s σ H D I h => ?_⟩
  obtain ⟨hh, oe, vs, c, hp, hd, h1, _⟩ := hot
  have he := (I.pin _ (List.mem_append_left _ hp)).1
  show wpAny _ _ (do standAt pos; raiseStmt Y.env none none) _ _ _
  refine wpAny_bind (wpAny_standAt ?_)
  unfold raiseStmt
  dsimp only
  refine wpAny_bind (wpAny_handled ?_)
  rw [hh]
  dsimp only
  refine wpAny_bind (wpAny_rule (wpAny_bind (wpAny_field he hd h1 ?_)))
  rw [if_neg (show ¬ ((Value.ref T == Value.none) = true) from by simp)]
  have fin := wpAny_mono (Q' := fun _ s' => wpAny (model Y.prog Y.w) Y.A (throw (.ref a) : Sem Flow) (SP Y pn' D) Y.xe s') (tb pn' σ H s I h) (fun _ s' x => wpAny_throw x) fun _ _ x => x
  first
    | exact wpAny_bind (wpAny_pure (wpAny_bind fin))
    | exact wpAny_bind fin
end
end L3

/-! FLd: the try's rule. -/
namespace L3
open PySem PySem.Spec PyProof.Rows L2
section
variable {X : Cx} {x n : Str} {c : Value} {i : Nat} {body suite : List Stmt} {b₀ : Stmt} {np pos pos' : Pos} {tb : WX → TS} {ts : Addr → Value → Option Addr → TS} {Wout : WX}
/-- W with the slot of the clause's name emptied -/
abbrev wNo (i : Nat) (W : WX) : WX := fun cls d σ H => W cls d (σ.set i none) H
theorem takes_suite {a : Addr} {P : List (Addr × Obj)} {pins : List (Addr × Obj)} (hs : X.stack = X.env :: X.outer) (hf : X.env.frame = some X.env.locals) (hex : X.ex = []) (hN : X.N.Nodup) (hi : X.N[i]? = some n) (hln : X.env.kindOf n = some .local)
    (hpa : ∀ hd : Option Value, PassesOwnAt (model X.prog X.w) (X.A.mark hd) X.A X.env X.xe) (tk : Takes X Wout) (ok : X.Ok) :
    Takes (suiteR X a (P ++ (X.pn ++ pins)) (suiteXe X a n pos')) (wNo i Wout) := fun u t xx => by
  obtain ⟨e, B, sI, pn', σ, H, cls, d, rfl, J, nb, up, sky, na, os, ag, w⟩ := xx
  have frames : (X.A.mark (some (.ref a))).frames = some (X.env :: X.outer) := J.ok.frames.trans (by show some X.stack = _; rw [hs])
  have sky : Sky B (X.env :: X.outer) e (Zk B H cls d) X.env.locals t.heap := hs ▸ sky
  have held : ∀ h', HandSPX.HeldZ B (X.env :: X.outer) e (Zk B H cls d) X.env.locals h' → t.heap.UpToSlots h' → wpAny (model X.prog X.w) (X.A.mark (some (.ref a))) (do bindName X.env n .none; unbindBehindTheSuite X.env n pos')
      (fun _ s₃ => wpAny (model X.prog X.w) (X.A.mark (some (.ref a))) (passOn "try.except-as" (.ref e) X.env : Sem Flow) (fun _ _ => False) (notedBy (model X.prog X.w) (X.A.mark (some (.ref a))) X.env fun y t => cameBackBy (model X.prog X.w) X.A X.env X.xe y t) s₃)
      (fun y s₃ => wpAny (model X.prog X.w) (X.A.mark (some (.ref a))) (setFlight (.ref e) none) (fun _ s₄ => (notedBy (model X.prog X.w) (X.A.mark (some (.ref a))) X.env fun y t => cameBackBy (model X.prog X.w) X.A X.env X.xe y t) y s₄) (notedBy (model X.prog X.w) (X.A.mark (some (.ref a))) X.env fun y t => cameBackBy (model X.prog X.w) X.A X.env X.xe y t) s₃) { t with heap := h' } := fun h' hh up2 => by
    obtain ⟨st, nB, ff, tr⟩ := hh
    have J2 := J.landed (s' := { t with heap := h' }) nb st (up.trans up2) os ag
    obtain ⟨T, cr⟩ := crew_of (X := suiteR X a (P ++ (X.pn ++ pins)) (suiteXe X a n pos')) J nb (fun b o _ hb => by rw [show (suiteR X a (P ++ (X.pn ++ pins)) (suiteXe X a n pos')).ex = [] from hex] at hb; cases hb) hs hf st nB (hs ▸ ff) tr
    have J3 := (suite_un J2 ok).1
    refine suite_tail hpa tk hf hN hi hln J3 (T := T) (fl := rawInt X.env.locals) ?_ w
    obtain ⟨c1, c2, c3, c4⟩ := cr
    exact ⟨c1, c2, ⟨c3.s0, c3.loc, c3.fs, c3.free, fun p hp => c3.pin p (List.mem_append_left _ (List.mem_append_right _ hp))⟩, ⟨c4.s0, c4.loc, c4.fs, c4.free, fun p hp => c4.pin p (List.mem_append_left _ (List.mem_append_right _ hp))⟩⟩
  show suiteXe X a n pos' (.ref e) t
  unfold suiteXe
  rcases sky with ⟨hB, hn, hl, oe, vs, he, hz, hd, h1⟩ | fly | hh
  · exact PXN.look_newZ Zk.steady frames hl hf he hB hn hd h1 hz held
  · exact PXN.looks_onZ Zk.steady frames hf fly held
  · exact HandSPX.againZ hf hh.2.2.2 (held t.heap hh (Heap.UpToSlots.refl _))
theorem back_suite {a T : Addr} {P : List (Addr × Obj)} {pins : List (Addr × Obj)} {cls : Value} {d : Option Addr} {fl : Value} (hf : X.env.frame = some X.env.locals) (hN : X.N.Nodup) (hi : X.N[i]? = some n) (hln : X.env.kindOf n = some .local)
    (hpa : ∀ hd : Option Value, PassesOwnAt (model X.prog X.w) (X.A.mark hd) X.A X.env X.xe) (tk : Takes X Wout) (ok : X.Ok) (cr : ∀ H h', (∀ p ∈ P, h'.get? p.1 = some p.2) → (∀ p ∈ P, H p.1 = none) → Crew X pins H h' a T cls d fl) :
    TakesBack (suiteR X a (P ++ (X.pn ++ pins)) (suiteXe X a n pos')) a (wNo i Wout cls d) := fun pn' σ H s J w => by
  obtain ⟨I, hp⟩ := suite_un J ok
  have c1 := cr H s.heap hp fun p hp => (J.pin p (List.mem_append_left _ (List.mem_append_left _ hp))).2.1
  show wpAny (model X.prog X.w) (X.A.mark (some (.ref a))) (setFlight (.ref a) X.env.frame) (fun _ s' => suiteXe X a n pos' (.ref a) s') (suiteXe X a n pos') s
  rw [hf]
  refine crew_flight I c1 fun s2 I2 c2 => ?_
  unfold suiteXe
  have c2' := c2
  obtain ⟨⟨oe, oT, vs, ts, he, hT, ec, ed, hd, h1, hdT, h3, _⟩, _⟩ := c2'
  unfold noteFrame
  simp only [hf]
  refine wpAny_bind (wpAny_field he hd h1 ?_)
  rw [if_pos (show (Value.ref T != Value.none) = true from by simp)]
  refine wpAny_bind (wpAny_field hT hdT h3 ?_)
  rw [if_pos (show (Option.elim (some X.env.locals) Value.none (fun f => rawInt f) == rawInt X.env.locals) = true from by simp)]
  exact wpAny_pure (suite_tail hpa tk hf hN hi hln I2 c2 w)
theorem ps_try_asR (hs : X.stack = X.env :: X.outer) (hf : X.env.frame = some X.env.locals) (hex : X.ex = []) (hN : X.N.Nodup) (hi : X.N[i]? = some n) (hln : X.env.kindOf n = some .local) (hc : Names X x c)
    (hpa : ∀ hd : Option Value, PassesOwnAt (model X.prog X.w) (X.A.mark hd) X.A X.env X.xe) (tk : Takes X Wout)
    (hb : ∀ (W : WX) (pn : List (Addr × Obj)) (xe : Value → Shared → Prop), Takes (X.tr pn xe) W → PassesOwn (model X.prog X.w) X.A X.env xe → PSs (X.tr pn xe) body (tb W))
    (hsu : ∀ (a T : Addr) (cls : Value) (d : Option Addr) (oe : Obj) (pn : List (Addr × Obj)) (xe : Value → Shared → Prop), (a, oe) ∈ pn → Zc cls d oe → (∃ vs, oe.data = .fields vs) → HotL (X.A.mark (some (.ref a))) pn a T → Takes (suiteR X a pn xe) (wNo i Wout) → TakesBack (suiteR X a pn xe) a (wNo i Wout cls d) →
      PSs (suiteR X a pn xe) (b₀ :: suite) (ts a cls d)) :
    PS X (.Try body [.ExceptHandler (some (.Name x np)) (some n) (b₀ :: suite) pos'] [] [] pos) (fun D σ H => tb (wAs X.K c i ts Wout D) D σ H) := by
  refine ⟨fun pins s σ H D I h => ?_⟩
  have ok := I.ok
  have frames : X.A.frames = some (X.env :: X.outer) := ok.frames.trans (by rw [hs])
  have noex : ∀ b o, X.s_0.heap.get? b = some o → b ∉ X.ex := fun b o _ hb => by rw [hex] at hb; cases hb
  refine wpAny_Try_except ?_
  refine wpAny_mono ((hb (wAs X.K c i ts Wout D) (X.pn ++ pins) (fun e s₁ => wpAny (model X.prog X.w) X.A (noteFrame e X.env) (fun _ s₂ => wpAny (model X.prog X.w) X.A (setFlight e none) (fun _ s₃ =>
    wpAny (model X.prog X.w) X.A (handleBy e X.env [.ExceptHandler (some (.Name x np)) (some n) (b₀ :: suite) pos']) (SP X pins D) X.xe s₃) X.xe s₂) X.xe s₁) (fun u t xx => ?_) PassesOwn.looking).run [] s σ H D (I.toTry _) h) (fun f s1 q1 => ?_) (fun e s1 he => he)
  · obtain ⟨a, B, sI, pn2, σ1, H1, cls, d, rfl, J', nb, up, sky, na, os, ag, b, hb1, hyes, hno⟩ := xx
    have J : Inv X pins σ1 H1 sI := J'.ofTry ok
    have sky : Sky B (X.env :: X.outer) a (Zk B H1 cls d) X.env.locals t.heap := hs ▸ sky
    show wpAny (model X.prog X.w) X.A (noteFrame (.ref a) X.env) _ _ _
    refine L2N.Sky.land Zk.steady frames hf sky fun h3 fl3 up3 => ?_
    have I3 : Inv X pins σ1 H1 { t with heap := h3 } := J.landed nb fl3.1 (up.trans up3) os ag
    obtain ⟨T, c3⟩ := crew_of J nb noex hs hf fl3.1 fl3.2.1 (hs ▸ fl3.2.2.1) fl3.2.2.2
    obtain ⟨P3, p3, _, oe3, vs3, cc3, m3, ec3, ed3, hd3, _⟩ := crew_pins c3
    have S3 := suite_in (a := a) (xe := fun _ _ => False) I3 p3
    have he3 := (p3 _ m3).1
    refine wpAny_handleBy_cons (codeAny_handlers_test ?_) (by intro q; cases q)
    have LT : PySem.W.Looks (model X.prog X.w) h3 (typeOf (.ref a)) cls := fun A Q E s k q => wpAny_typeOf_ref (k _ _ he3) (by rw [ec3]; exact q)
    have LM := PySem.W.exm_one (M := model X.prog X.w) (I3.kIn) LT hb1
    have test : ∀ {Q : Value → Shared → Prop} {E : Value → Shared → Prop}, Q c { t with heap := h3 } → wpAny (model X.prog X.w) (X.A.mark (some (.ref a))) (eval (.Name x np) X.env) Q E { t with heap := h3 } := fun {Q E} q => by
      obtain ⟨hg, hdbg, hm | ⟨hm, hv, hnn⟩⟩ := hc
      · exact ld_glob S3 hg hm q hdbg
      · exact ld_blt S3 hg hm hv q hnn hdbg
    refine test (LM.here ?_)
    cases b with
    | false =>
      show wpAny _ X.A (handleBy (.ref a) X.env []) _ _ _
      refine wpAny_handleBy_nil ?_
      have c3' := c3
      obtain ⟨⟨oe, oT, vs, ts2, he, hT, ec, ed, hd, h1, _⟩, _⟩ := c3'
      unfold PySem.passOn
      refine wpAny_bind (wpAny_field he hd h1 ?_)
      rw [if_neg (show ¬ ((Value.ref T == Value.none) = true) from by simp)]
      have fin : wpAny (model X.prog X.w) X.A (setFlight (.ref a) X.env.frame) (fun _ s4 => wpAny (model X.prog X.w) X.A (throw (.ref a) : Sem Flow) (SP X pins D) X.xe s4) X.xe { t with heap := h3 } := by
        rw [hf]
        exact crew_flight I3 c3 fun s2 I2 c2 => wpAny_throw (tk _ _ (crew_out I2 c2 (hno rfl)))
      first
        | exact wpAny_bind (wpAny_pure (wpAny_bind fin))
        | exact wpAny_bind fin
    | true =>
      refine codeAny_handlers_suite_as ?_
      refine crew_flight I3 c3 fun s4 I4 c4 => ?_
      obtain ⟨P, p4, k4, oe4, vs4, cc4, m4, ec4, ed4, hd4, h14, h24, ctx4⟩ := crew_pins c4
      have S4 := suite_in (a := a) (xe := suiteXe X a n pos') I4 p4
      have hot : HotL (X.A.mark (some (.ref a))) (P ++ (X.pn ++ pins)) a T := ⟨rfl, oe4, vs4, cc4, List.mem_append_left _ m4, hd4, h14, h24, ctx4.mono fun _ _ _ q _ => List.mem_append_left _ q⟩
      refine store_ok (X := suiteR X a (P ++ (X.pn ++ pins)) (suiteXe X a n pos')) (v := .ref a) S4 hN hi (.inl hln) rfl (fun s5 S5 => ?_) (.inr hln)
      have su := hsu a T cls d oe4 (P ++ (X.pn ++ pins)) (suiteXe X a n pos') (List.mem_append_left _ m4) ⟨ec4, ed4⟩ ⟨vs4, hd4⟩ hot (takes_suite hs hf hex hN hi hln hpa tk ok) (back_suite hf hN hi hln hpa tk ok k4)
      refine wpAny_mono (su.run [] s5 _ H1 _ S5 (hyes rfl a na)) (fun f s6 q6 => ?_) (fun y s6 z => z)
      have end_ : ∀ {σ6 : St} {H6 : Hp} {Q : Shared → Prop}, Inv (suiteR X a (P ++ (X.pn ++ pins)) (suiteXe X a n pos')) [] σ6 H6 s6 → (∀ s7, Inv X pins (σ6.set i none) H6 s7 → Q s7) →
          wpAny (model X.prog X.w) X.A (do bindName X.env n .none; unbindBehindTheSuite X.env n pos') (fun _ s7 => Q s7) X.xe s6 := fun {σ6 H6 Q} S6 hq => gone_ok (suite_un S6 ok).1 hN hi hln hq
      cases f with
      | next =>
        obtain ⟨σ6, H6, S6, r6⟩ := q6
        exact end_ S6 fun s7 J7 => ⟨_, _, J7, r6⟩
      | brk =>
        obtain ⟨σ6, H6, S6, r6⟩ := q6
        exact end_ S6 fun s7 J7 => ⟨_, _, J7, r6⟩
      | cont =>
        obtain ⟨σ6, H6, S6, r6⟩ := q6
        exact end_ S6 fun s7 J7 => ⟨_, _, J7, r6⟩
      | ret u =>
        obtain ⟨v6, σ6, H6, S6, rv, r6⟩ := q6
        exact end_ S6 fun s7 J7 => ⟨_, _, _, J7, rv, r6⟩
  · cases f with
    | next =>
      obtain ⟨σ', H', J', q⟩ := q1
      exact wpAny_execs_nil ⟨σ', H', J'.ofTry ok, q⟩
    | brk =>
      obtain ⟨σ', H', J', q⟩ := q1
      exact ⟨σ', H', J'.ofTry ok, q⟩
    | cont =>
      obtain ⟨σ', H', J', q⟩ := q1
      exact ⟨σ', H', J'.ofTry ok, q⟩
    | ret u =>
      obtain ⟨v, σ', H', J', r, q⟩ := q1
      exact ⟨v, σ', H', J'.ofTry ok, r, q⟩
end
end L3

/-! FLe: raising, calm or while an exception is handled. -/
namespace L3
open PySem PySem.Spec PyProof.Rows L2
/-! the contexts of what is handled are looked through -/
inductive Reach (h : Heap) : Addr → Addr → Prop
  | refl {x : Addr} : Reach h x x
  | step {y z x : Addr} {oy : Obj} {ws : Array Value} : h.get? y = some oy → oy.data = .fields ws → ws[2]? = some (.ref z) → Reach h z x → Reach h y x
theorem Reach.snoc {h : Heap} {y x z : Addr} {ox : Obj} {vs : Array Value} (r : Reach h y x) (e : h.get? x = some ox) (d : ox.data = .fields vs) (c : vs[2]? = some (.ref z)) : Reach h y z := by
  induction r with
  | refl => exact .step e d c .refl
  | step e1 d1 c1 _ ih => exact .step e1 d1 c1 (ih e)
section
variable {prog : Program} {w : World} {s : Shared} {R : Result → Shared → Prop}
theorem unchain_go {a : Addr} {c : Value} (ch : Chn (fun b o => s.heap.get? b = some o ∧ b ≠ a) c) : ∀ {A : Around} {x slow : Addr} {ox : Obj} {vs : Array Value} {tg : Bool}, s.heap.get? x = some ox → ox.data = .fields vs → vs[2]? = some c → Reach s.heap slow x → R (.ok (.ret .none)) s →
    codeAny (model prog w) A (.builtin "proto.unchain" ⟨[.ref a, .ref x, .ref slow, .bool tg], []⟩) R s := by
  induction ch with
  | none =>
    intro A x slow ox vs tg e d hc r q
    refine codeAny_builtin HotX.entry_unchain ?_
    show wpAny _ _ (field (.ref x) 2 >>= _) _ _ s
    refine wpAny_bind (wpAny_field e d hc ?_)
    rw [if_pos (show (Value.none == Value.none) = true from rfl)]
    first
    | exact wpAny_bind (wpAny_pure (wpAny_pure q))
    | exact wpAny_pure q
  | @ref b ob ws c hb db cb _ ih =>
    intro A x slow ox vs tg e d hc r q
    refine codeAny_builtin HotX.entry_unchain ?_
    show wpAny _ _ (field (.ref x) 2 >>= _) _ _ s
    refine wpAny_bind (wpAny_field e d hc ?_)
    rw [if_neg (show ¬ ((Value.ref b == Value.none) = true) from by simp)]
    have go : ∀ {slow' : Addr}, Reach s.heap slow' b → wpAny (model prog w) (A.under (.builtin "proto.unchain" ⟨[.ref a, .ref x, .ref slow, .bool tg], []⟩)) (again (.builtin "proto.unchain" ⟨[.ref a, .ref b, .ref slow', .bool !tg], []⟩))
        (fun fin s' => match fin with | .done f => R (.ok f) s' | .again c' => c'.quiet = true ∧ codeAny (model prog w) A c' R s') (fun y s' => R (.error y) s') s := fun {slow'} r' =>
      wpAny_pure (a := Fin.again _) ⟨plainId_quiet (by decide +kernel) _, ih hb.1 db cb r' q⟩
    have nv : ¬ ((Value.ref b == Value.ref a) = true) := fun z => hb.2 (Value.ref.inj (eq_of_beq z))
    rw [if_neg nv]
    by_cases hs : b = slow
    · subst hs
      rw [if_pos (show (Value.ref b == Value.ref b) = true from beq_self_eq_true _)]
      exact wpAny_bind (wpAny_rule (wpAny_pure q))
    · have ns : ¬ ((Value.ref b == Value.ref slow) = true) := fun z => hs (Value.ref.inj (eq_of_beq z))
      rw [if_neg ns]
      cases tg with
      | false =>
        rw [if_neg (by decide)]
        exact wpAny_bind (wpAny_pure (go (r.snoc e d hc)))
      | true =>
        rw [if_pos rfl]
        cases r with
        | refl => exact wpAny_bind (wpAny_field e d hc (go .refl))
        | step e1 d1 c1 r1 => exact wpAny_bind (wpAny_field e1 d1 c1 (go (r1.snoc e d hc)))
end
section
variable {prog : Program} {w : World} {A : Around} {E : Value → Shared → Prop} {s : Shared}
/-- what is handled, as it stands; a: the new one -/
def HotHere (A : Around) (h : Heap) (a : Addr) (x1 : Addr) : Prop := A.handled = some (.ref x1) ∧ x1 ≠ a ∧ ∃ (o : Obj) (vs : Array Value) (c : Value), h.get? x1 = some o ∧ o.data = .fields vs ∧ vs[2]? = some c ∧ Chn (fun b o => h.get? b = some o ∧ b ≠ a) c
theorem raiseNew_q {α : Type} {a x1 : Addr} {oe : Obj} {vs : Array Value} {Q : α → Shared → Prop} (hot : HotHere A s.heap a x1) (ha : s.heap.get? a = some oe) (da : oe.data = .fields vs) (hi : 2 < vs.size)
    (hE : E (.ref a) { s with heap := s.heap.update a (Obj.mapFields (·.setIfInBounds 2 (.ref x1))) }) : wpAny (model prog w) A (raiseNew (.ref a) : Sem α) Q E s := by
  obtain ⟨hh, ne, o1, vs1, c, g1, d1, c1, ch⟩ := hot
  unfold raiseNew
  refine wpAny_bind (wpAny_handled ?_)
  rw [hh]
  have un : ∀ {Q2 : Value → Shared → Prop}, Q2 .none s → wpAny (model prog w) A (holding [Value.ref a] (runValue (.builtin "proto.unchain" ⟨[.ref a, .ref x1, .ref x1, .bool false], []⟩))) Q2 E s := fun {Q2} q =>
    wpAny_holding (wpAny_runValue (unchain_go ch g1 d1 c1 .refl q))
  have differ : (Value.ref x1 != Value.ref a) = true := HotX.ref_bne ne
  have fin : wpAny (model prog w) A (updateField a 2 (.ref x1)) (fun _ s' => wpAny (model prog w) A (throw (.ref a) : Sem α) Q E s') E s := HotX.chained ha da hi (wpAny_throw hE)
  first
  | (show wpAny _ _ (if (Value.ref x1 != Value.ref a) = true then _ else _) _ _ _
     rw [if_pos differ]
     first
     | exact wpAny_bind (un (wpAny_bind fin))
     | exact wpAny_bind (wpAny_bind (un fin)))
  | (refine wpAny_bind ?_
     show wpAny _ _ (if (Value.ref x1 != Value.ref a) = true then _ else _) _ _ _
     rw [if_pos differ]
     exact wpAny_bind (un fin))
/-- no class: an object that is no class object -/
theorem not_type {a : Addr} {oe : Obj} {vs : Array Value} {Q : Bool → Shared → Prop} (ha : s.heap.get? a = some oe) (hd : oe.data = .fields vs) (q : Q false s) : wpAny (model prog w) A (isType (.ref a)) Q E s := by
  simp only [isType, loadHead]
  refine wpAny_bind (wpAny_loadPart ha ?_)
  rw [hd]
  exact wpAny_pure q
/-- a value that may be raised -/
structure MayFly (M : Model) (h : Heap) (a : Addr) (oe : Obj) (vs : Array Value) : Prop where
  at_ : h.get? a = some oe
  data : oe.data = .fields vs
  tb : vs[1]? = some .none
  six : 4 < vs.size
  sub : PySem.W.Looks M h (isSubtype oe.cls (.type "BaseException")) true
  typ : PySem.W.Looks M h (typeOf oe.cls) (.type "type")
theorem exc_from {a : Addr} {oe : Obj} {vs : Array Value} {Q : Value → Shared → Prop} {msg : String} (F : MayFly (model prog w) s.heap a oe vs) (q : Q (.ref a) s) : wpAny (model prog w) A (excFromValue (.ref a) msg) Q E s := by
  have LT : PySem.W.Looks (model prog w) s.heap (typeOf (.ref a)) oe.cls := fun A Q E s k q => wpAny_typeOf_ref (k _ _ F.at_) q
  unfold excFromValue isExcClass
  refine wpAny_bind (wpAny_bind (not_type F.at_ F.data ?_))
  simp only [Bool.false_eq_true, if_false]
  refine wpAny_pure ?_
  simp only [Bool.false_eq_true, if_false]
  refine wpAny_bind ((LT.andThen F.sub).here ?_)
  simp only [if_true]
  exact wpAny_pure q
/-- what is left once the value is there -/
theorem raise_rest {a x1 : Addr} {oe : Obj} {vs : Array Value} {Q : Flow → Shared → Prop} (F : MayFly (model prog w) s.heap a oe vs) (hot : HotHere A s.heap a x1)
    (hE : E (.ref a) { s with heap := s.heap.update a (Obj.mapFields (·.setIfInBounds 2 (.ref x1))) }) :
    wpAny (model prog w) A (do
      let b ← isType (.ref a)
      if b = true then do
        let e ← holding [.ref a] (raisedFor (.ref a) (.ref a))
        setFlight e none
        raiseNew e
      else do
        let e ← raisedInstance (.ref a)
        setFlight e none
        raiseNew e : Sem Flow) Q E s := by
  have LT : PySem.W.Looks (model prog w) s.heap (typeOf (.ref a)) oe.cls := fun A Q E s k q => wpAny_typeOf_ref (k _ _ F.at_) q
  refine wpAny_bind (not_type F.at_ F.data ?_)
  simp only [Bool.false_eq_true, if_false]
  unfold raisedInstance
  refine wpAny_bind (wpAny_bind (LT.here (wpAny_bind (F.typ.here ?_))))
  rw [if_pos (beq_self_eq_true _)]
  refine wpAny_pure ?_
  unfold setFlight
  refine wpAny_bind (wpAny_bind (wpAny_field F.at_ F.data F.tb ?_))
  rw [if_neg (by decide)]
  refine wpAny_pure ?_
  exact raiseNew_q hot F.at_ F.data (by have := F.six; omega) hE
theorem raise_q {env : Env} {x : Sem Value} {Q : Flow → Shared → Prop} {x1 : Addr}
    (h : wpAny (model prog w) A x (fun v s₁ => ∃ a oe vs, v = .ref a ∧ MayFly (model prog w) s₁.heap a oe vs ∧ HotHere A s₁.heap a x1 ∧ E (.ref a) { s₁ with heap := s₁.heap.update a (Obj.mapFields (·.setIfInBounds 2 (.ref x1))) }) E s) :
    wpAny (model prog w) A (raiseStmt env (some x) none) Q E s := by
  unfold raiseStmt
  dsimp only
  refine wpAny_bind (wpAny_mono h (fun v s₁ h₁ => ?_) fun _ _ x => x)
  obtain ⟨a, oe, vs, rfl, F, hot, hE⟩ := h₁
  refine wpAny_bind (wpAny_pure ?_)
  dsimp only
  refine wpAny_bind (wpAny_holding (exc_from F ?_))
  have fin := raise_rest (Q := Q) F hot hE
  first
  | exact fin
  | (dsimp only; exact fin)
  | (refine wpAny_bind (wpAny_pure ?_); exact fin)
theorem MayFly.none_from {a : Addr} {oe : Obj} {vs : Array Value} (F : MayFly (model prog w) s.heap a oe vs) (t : PySem.W.Looks (model prog w) (HotX.noneFrom s.heap a) (typeOf oe.cls) (.type "type")) (u : PySem.W.Looks (model prog w) (HotX.noneFrom s.heap a) (isSubtype oe.cls (.type "BaseException")) true) :
    MayFly (model prog w) (HotX.noneFrom s.heap a) a ((oe.mapFields (·.setIfInBounds 3 .none)).mapFields (·.setIfInBounds 4 (.bool true))) ((vs.setIfInBounds 3 .none).setIfInBounds 4 (.bool true)) := by
  obtain ⟨h1, h2⟩ := HotX.noneFrom_at F.at_ F.data
  refine ⟨h1, h2, HotX.set_other (by decide) (HotX.set_other (by decide) F.tb), by rw [HotX.set_size, HotX.set_size]; exact F.six, ?_, ?_⟩
  · rw [Obj.cls_mapFields, Obj.cls_mapFields]; exact u
  · rw [Obj.cls_mapFields, Obj.cls_mapFields]; exact t
theorem raise_qN {env : Env} {x c : Sem Value} {Q : Flow → Shared → Prop} {x1 : Addr} (hc : ∀ (s : Shared) (Q' : Value → Shared → Prop), Q' .none s → wpAny (model prog w) A c Q' E s)
    (h : wpAny (model prog w) A x (fun v s₁ => ∃ a oe vs, v = .ref a ∧ MayFly (model prog w) s₁.heap a oe vs ∧ HotHere A s₁.heap a x1 ∧ PySem.W.Looks (model prog w) (HotX.noneFrom s₁.heap a) (typeOf oe.cls) (.type "type") ∧
      PySem.W.Looks (model prog w) (HotX.noneFrom s₁.heap a) (isSubtype oe.cls (.type "BaseException")) true ∧ E (.ref a) { s₁ with heap := (HotX.noneFrom s₁.heap a).update a (Obj.mapFields (·.setIfInBounds 2 (.ref x1))) }) E s) :
    wpAny (model prog w) A (raiseStmt env (some x) (some c)) Q E s := by
  unfold raiseStmt
  dsimp only
  refine wpAny_bind (wpAny_mono h (fun v s₁ h₁ => ?_) fun _ _ x => x)
  obtain ⟨a, oe, vs, rfl, F, ⟨q1, q2, o1, v1, cc, q3, q4, q5, q6⟩, t, u, hE⟩ := h₁
  have hd3 := Obj.data_mapFields F.data (·.setIfInBounds 3 .none)
  have ha3 := Heap.get?_update_self (Obj.mapFields (·.setIfInBounds 3 .none)) F.at_ (Obj.isFreed_of_fields hd3)
  have z3 : 3 < vs.size := by have := F.six; omega
  have z4 : 4 < (vs.setIfInBounds 3 Value.none).size := by rw [HotX.set_size]; exact F.six
  have oth : ∀ b, b ≠ a → (HotX.noneFrom s₁.heap a).get? b = s₁.heap.get? b := fun b n => HotX.noneFrom_other (Ne.symm n)
  have fin := raise_rest (s := { s₁ with heap := HotX.noneFrom s₁.heap a }) (Q := Q) (F.none_from t u) ⟨q1, q2, o1, v1, cc, (oth _ q2).trans q3, q4, q5, q6.mono fun b o _ ⟨z, n⟩ _ => ⟨(oth b n).trans z, n⟩⟩ hE
  refine wpAny_bind (wpAny_holding (hc _ _ (wpAny_bind (wpAny_pure ?_))))
  dsimp only
  refine wpAny_bind (wpAny_holding (exc_from F ?_))
  first
  | rw [if_pos (show (Value.none == Value.none) = true from rfl)]
  | (show wpAny _ _ (if (Value.none == Value.none) = true then _ else _) _ _ _; rw [if_pos (show (Value.none == Value.none) = true from rfl)])
  | simp only [beq_self_eq_true, if_true]
  first
  | refine wpAny_bind (wpAny_pure (wpAny_bind (wpAny_setField F.at_ F.data z3 (wpAny_bind (wpAny_setField ha3 hd3 z4 ?_)))))
  | refine wpAny_bind (wpAny_pure (wpAny_bind (wpAny_bind (wpAny_setField F.at_ F.data z3 (wpAny_bind (wpAny_setField ha3 hd3 z4 ?_))))))
  | refine wpAny_bind (wpAny_bind (wpAny_pure (wpAny_bind (wpAny_setField F.at_ F.data z3 (wpAny_setField ha3 hd3 z4 ?_)))))
  first
  | exact fin
  | (dsimp only; exact fin)
  | (refine wpAny_pure ?_; exact fin)
  | (simp only [bind_pure_comp] ; exact fin)
end
end L3

/-! FLf: raise as a statement; exceptions with an __init__ of their own; defs that run whatever is handled. -/
namespace L3
open PySem PySem.Spec PyProof.Rows L2
section
variable {X : Cx} {W : WX} {e : Expr} {t : St → Hp → XK → Prop} {pos : Pos}
theorem ps_raise (hc : X.calm = true) (tk : Takes X W) (he : L2N.PMk X e t) : PS X (.Raise (some e) none pos) (fun _ σ H => t σ H fun cls d H' => W cls d σ H') := by
  refine ⟨fun pins s σ H D I h => ?_⟩
  show wpAny _ _ (do standAt pos; raiseStmt X.env (some (do let v ← eval e X.env; standAt pos; pure v)) none) _ _ _
  refine wpAny_bind (wpAny_standAt (raise_made (I.ok.hd hc) (wpAny_bind (wpAny_mono (he pins s σ H _ I h) (fun u s1 hu => wpAny_bind (wpAny_standAt (wpAny_pure ?_))) fun _ _ x => x))))
  obtain ⟨a, oe, vs, sI, H', cls, d, rfl, J, k, gone, ha, hz, hd, h1, na, os, ag, r, q⟩ := hu
  obtain ⟨r1, r2⟩ := r (model X.prog X.w) s1.heap (J.kIn.keeps k)
  have x : XE X W (.ref a) s1 := XE.new J k gone ha ⟨hz.1, hz.2.1, .none hz.2.2⟩ hd h1 na os ag q
  exact ⟨a, oe, vs, cls, rfl, ha, hz.1, hd, h1, r1, r2, tk _ _ x⟩
theorem pin_off {pins : List (Addr × Obj)} {σ : St} {H : Hp} {s : Shared} (I : Inv X pins σ H s) {p : Addr × Obj} (hp : p ∈ X.pn) : (PySem.W.hideAll s.heap (frs X.stack)).get? p.1 = some p.2 ∧ H p.1 = none ∧ s.heap.get? p.1 = some p.2 := by
  obtain ⟨q1, q2, q3, q4, _⟩ := I.pin p (List.mem_append_left _ hp)
  exact ⟨PySem.W.hideAll_get _ q1 fun hm => (List.mem_cons.mp (I.stkSub p.1 hm)).elim q3 q4, q2, q1⟩
/-- the new one's context is what is handled -/
theorem hot_new {x1 : Addr} (hot : HotQ X.A X.pn x1) (tk : Takes X W) {pins : List (Addr × Obj)} {σ : St} {sI s1 : Shared} {H' : Hp} {a : Addr} {oe : Obj} {vs : Array Value} {cls : Value} {d : Option Addr} {h2 : Heap} (J : Inv X pins σ H' sI)
    (k : ∀ b o, sI.heap.get? b = some o → s1.heap.get? b = some o) (gone : sI.heap.get? a = none) (ha : h2.get? a = some oe) (oth : ∀ b, b ≠ a → h2.get? b = s1.heap.get? b) (hc : oe.cls = cls) (hdd : oe.dict = d) (hd : oe.data = .fields vs) (h1 : vs[1]? = some .none) (hi : 2 < vs.size) (na : H' a = none)
    (os : s1.os = sI.os) (ag : AllBare s1.gens) (q : W cls d σ H') : HotHere X.A s1.heap a x1 ∧ X.xe (.ref a) { s1 with heap := h2.update a (Obj.mapFields (·.setIfInBounds 2 (.ref x1))) } := by
  obtain ⟨hh, o1, v1, c, m1, d1, c1, ch⟩ := hot
  have nP : ∀ p ∈ X.pn, p.1 ≠ a := fun p hp z => by
    have := (pin_off J hp).2.2
    rw [z, gone] at this
    cases this
  refine ⟨⟨hh, nP _ m1, o1, v1, c, k _ _ (pin_off J m1).2.2, d1, c1, ch.mono fun b o _ hb _ => ⟨k _ _ (pin_off J hb).2.2, nP _ hb⟩⟩, tk _ _ (XE.new J (fun b u z => ?_) gone (Heap.get?_update_self _ ha (Obj.isFreed_of_fields (Obj.data_mapFields hd _))) ⟨by rw [Obj.cls_mapFields]; exact hc, by rw [HandSPX.dict_mapFields]; exact hdd, fun vs' e => ?_⟩ (Obj.data_mapFields hd _) (HotX.set_other (by decide) h1) na os ag q)⟩
  · have nb : b ≠ a := fun y => by rw [y, gone] at z; cases z
    show (h2.update a (Obj.mapFields (·.setIfInBounds 2 (.ref x1)))).get? b = some u
    rw [Heap.get?_update_other _ _ (Ne.symm nb), oth b nb]
    exact k b u z
  · obtain ⟨ws, e1, rfl⟩ := mapped_fields e
    have := Data.fields.inj (hd.symm.trans e1)
    subst this
    refine ⟨.ref x1, by simp [hi], .ref ⟨(pin_off J m1).1, (pin_off J m1).2.1⟩ d1 c1 (ch.mono fun b o _ hb _ => ⟨(pin_off J hb).1, (pin_off J hb).2.1⟩)⟩
theorem ps_raiseQ {x1 : Addr} (hot : HotQ X.A X.pn x1) (tk : Takes X W) (he : L2H.PMk5 X e t) : PS X (.Raise (some e) none pos) (fun _ σ H => t σ H fun cls d H' => W cls d σ H') := by
  refine ⟨fun pins s σ H D I h => ?_⟩
  show wpAny _ _ (do standAt pos; raiseStmt X.env (some (do let v ← eval e X.env; standAt pos; pure v)) none) _ _ _
  refine wpAny_bind (wpAny_standAt (raise_q (x1 := x1) (wpAny_bind (wpAny_mono (he pins s σ H _ I h) (fun u s1 hu => wpAny_bind (wpAny_standAt (wpAny_pure ?_))) fun _ _ x => x))))
  obtain ⟨⟨a, oe, vs, sI, H', cls, d, rfl, J, k, gone, ha, hz, hd, h1, na, os, ag, r, q⟩, six⟩ := hu
  have hi := six a oe vs rfl ha hd
  obtain ⟨r1, r2⟩ := r (model X.prog X.w) s1.heap (J.kIn.keeps k)
  obtain ⟨n1, n2⟩ := hot_new (h2 := s1.heap) hot tk J k gone ha (fun _ _ => rfl) hz.1 hz.2.1 hd h1 (by omega) na os ag q
  exact ⟨a, oe, vs, rfl, ⟨ha, hd, h1, hi, by rw [hz.1]; exact r1, by rw [hz.1]; exact r2⟩, n1, n2⟩
/-- raise .. from None -/
theorem ps_raiseQN {x1 : Addr} {j : Nat} {cpos : Pos} (hot : HotQ X.A X.pn x1) (tk : Takes X W) (he : L2H.PMk5 X e t) : PS X (.Raise (some e) (some (.Constant .none j cpos)) pos) (fun _ σ H => t σ H fun cls d H' => W cls d σ H') := by
  refine ⟨fun pins s σ H D I h => ?_⟩
  show wpAny _ _ (do standAt pos; raiseStmt X.env (some (do let v ← eval e X.env; standAt pos; pure v)) (some (do let v ← eval (.Constant .none j cpos) X.env; standAt pos; pure v))) _ _ _
  refine wpAny_bind (wpAny_standAt (raise_qN (x1 := x1) (fun s2 Q2 q2 => wpAny_bind (Constant_none (wpAny_bind (wpAny_standAt (wpAny_pure q2))))) (wpAny_bind (wpAny_mono (he pins s σ H _ I h) (fun u s1 hu => wpAny_bind (wpAny_standAt (wpAny_pure ?_))) fun _ _ x => x))))
  obtain ⟨⟨a, oe, vs, sI, H', cls, d, rfl, J, k, gone, ha, hz, hd, h1, na, os, ag, r, q⟩, six⟩ := hu
  have hi := six a oe vs rfl ha hd
  have k4 : ∀ b u, sI.heap.get? b = some u → (HotX.noneFrom s1.heap a).get? b = some u := fun b u z => by
    rw [HotX.noneFrom_other (fun y => by rw [← y, gone] at z; cases z)]
    exact k b u z
  obtain ⟨r1, r2⟩ := r (model X.prog X.w) s1.heap (J.kIn.keeps k)
  obtain ⟨r3, r4⟩ := r (model X.prog X.w) (HotX.noneFrom s1.heap a) (J.kIn.keeps k4)
  obtain ⟨g1, g2⟩ := HotX.noneFrom_at ha hd
  obtain ⟨n1, n2⟩ := hot_new (h2 := HotX.noneFrom s1.heap a) hot tk J k gone g1 (fun b n => HotX.noneFrom_other (Ne.symm n)) (by rw [Obj.cls_mapFields, Obj.cls_mapFields]; exact hz.1) (by rw [HandSPX.dict_mapFields, HandSPX.dict_mapFields]; exact hz.2.1) g2
    (HotX.set_other (by decide) (HotX.set_other (by decide) h1)) (by rw [HotX.set_size, HotX.set_size]; omega) na os ag q
  exact ⟨a, oe, vs, rfl, ⟨ha, hd, h1, hi, by rw [hz.1]; exact r1, by rw [hz.1]; exact r2⟩, n1, by rw [hz.1]; exact r4, by rw [hz.1]; exact r3, n2⟩
theorem HotQ.one {p : Addr × Obj} (h : L2H.Hot1 X.A p) (hp : p ∈ X.pn) : HotQ X.A X.pn p.1 := by
  obtain ⟨hh, vs, d, c⟩ := h
  exact ⟨hh, p.2, vs, _, hp, d, c, .none⟩
end
/-! ### a def that runs whatever is handled -/
structure FnT (P : Program) (w : World) (K : PySem.W.Frag) (mg : Str → Option Value) (base : Heap) (CX : CXT) (k : Nat) (f : Addr) (fd : FuncData) (ps : List Str) (sp : Sp) : Prop where
  len : ∀ vs H Q E, sp vs H Q E → vs.length = ps.length
  run : ∀ (A : Around) (outer : List Env) (s : Shared) (H : Hp) (args : Args) (us : List Value) (vs : List V) (Q : VK) (E : XK) (p : Addr × Obj), L2H.RoomH k A → L2H.PinOk outer H s p → Env0 P w K mg base A outer s H → BindsTo s fd args (ps.zip us) → Vals vs us → sp vs H Q E →
    codeAny (model P w) A (.call (.ref f) args) (CR CX outer P w H s Q E) s
section
variable {P : Program} {w : World} {K : PySem.W.Frag} {mg : Str → Option Value} {base : Heap}
theorem okT {CX : CXT} {x qual : Str} {st : Stmt} {f : Addr} {fd : FuncData} {N ps : List Str} {k : Nat} {sp : Sp} (F : Fun K x qual st f fd) (S : FnScope N ps (defScope st)) (len : ∀ vs H Q E, sp vs H Q E → vs.length = ps.length)
    (hbody : ∀ (cdv : Value) (A : Around) (outer : List Env) (s : Shared) (H : Hp) (vs : List V) (Q : VK) (E : XK) (p : Addr × Obj), L2H.RoomH k (A.deeper (envOfC qual (defScope st) s.heap.objs.size f cdv)) → sp vs H Q E →
      ∃ t, PSs (L2H.cxH CX P w K mg base N qual (defScope st) f cdv A outer s H E p) (defBody st) t ∧ t { nx := fun _ H' => Q .non H', rt := Q } (start N vs) H) : FnT P w K mg base CX (k + 1) f fd ps sp := by
  obtain ⟨oc, od, kV, doc, pm, an, cdv, ct, osl, rfl, lk, hcd⟩ := F.ex
  refine ⟨len, fun A outer s H args us vs Q E p hr hpin e0 hb r hsp => ?_⟩
  have keep : ∀ b o, base.get? b = some o → s.heap.get? b = some o := fun b o e => (e0.bs b o e).1
  have KX : K.In s.heap := e0.mod.kin.keeps keep
  have lim : s.heap.NoLimit := e0.mod.nolimit.keeps keep
  have kinds : ∀ y ∈ ps.zip us, (defScope st).names.lookup y.1 = some .local ∨ ((defScope st).names.lookup y.1 = some .cell ∧ ((cellsFrom (s.heap.objs.size + 1) (defScope st).names []).lookup y.1).isSome = true) := fun ⟨n, v⟩ hy =>
    (S.par n (List.of_mem_zip hy).1).imp id fun q => ⟨q, PySem.W.cellsFrom_some _ _ _ (.inl q)⟩
  refine codeAny_call_function hr.depth (KX _ _ lk) rfl S.co S.gen rfl (PySem.W.codeRec_of KX hcd) (hb _ _ _ _ ?_)
  refine wpAny_newFunctionEnv_cells S.kind kinds fun env he s1 x => ?_
  subst he
  refine ⟨lim.keeps x.toInCall.keep, codeAny_func ?_⟩
  obtain ⟨t, ht, hq⟩ := hbody cdv A outer s H vs Q E p (hr.deeper _) hsp
  have I := L2H.inv_startH (CX := CX) (E := E) S hpin e0 (len _ _ _ _ hsp) r x
  refine wpAny_mono (ht.run [] s1 (start N vs) H _ I hq) (fun fl s' hs => ?_) fun e s' hs => hs
  have back : ∀ {σ' : St} {H' : Hp} {v : V} {u : Value}, Inv (L2H.cxH CX P w K mg base N qual (defScope st) f cdv A outer s H E p) [] σ' H' s' → RelV v u → Q v H' → CE outer P w H s Q u s' := fun {σ' H' v u} J rv q => ⟨v, H', J.os, J.bare, J.base, J.hok, rv, q⟩
  cases fl with
  | next =>
    obtain ⟨σ', H', J, q⟩ := hs
    exact back (v := V.non) (u := Value.none) J rfl q
  | ret u =>
    obtain ⟨v, σ', H', J, rv, q⟩ := hs
    exact back J rv q
  | brk =>
    obtain ⟨_, _, _, q⟩ := hs
    exact q.elim
  | cont =>
    obtain ⟨_, _, _, q⟩ := hs
    exact q.elim
theorem FnT.h {CX : CXT} {k : Nat} {f : Addr} {fd : FuncData} {ps : List Str} {sp : Sp} (F : FnT P w K mg base CX k f fd ps sp) : L2H.FnH P w K mg base CX k f fd ps sp := ⟨F.len, fun A outer s H args us vs Q E p r _ q => F.run A outer s H args us vs Q E p r q⟩
end
/-! ### C(e, ..), C an exception class with an __init__ -/
section
variable {X : Cx} {CX : CXT} {x : Str} {e : Expr} {es : List Expr} {ta : TA} {p pos : Pos} {C fI : Addr} {k : Nat} {fd : FuncData} {ps : List Str} {sp : Sp}
theorem pmk_by (T : OexC X.K C) (iC : PySem.W.findIn X.K (.ref C) "__init__" = some (some (.ref fI))) (tI : PySem.W.typeIn X.K (.ref fI) = some (.type "function")) (len : ∀ vs H Q E, sp vs H Q E → vs.length = ps.length)
    (run : ∀ {pins : List (Addr × Obj)} {σ : St} {H : Hp} {s : Shared} {us : List Value} {vs : List V} {Q : VK} (ws : List Value), Inv X pins σ H s → BindsTo s fd ⟨us, []⟩ (ps.zip us) → Vals vs us → sp vs H Q (fun _ _ _ => False) →
      codeAny (model X.prog X.w) (X.A.under (.builtin "type.__call__" ⟨.ref C :: ws, []⟩)) (.call (.ref fI) ⟨us, []⟩) (CR CX X.stack X.prog X.w H s Q (fun _ _ _ => False)) s)
    (hb : Binds X.K fd ps []) (hx : Passes CX X (fun _ _ _ => False)) (hg : Gl X x) (hm : X.mg x = some (.ref C)) (ha : PA X (e :: es) ta)
    (hdb : (x == ("__debug__" : Str)) = false := by decide) (he : starEach (e :: es) X.env = (false, eval e X.env) :: starEach es X.env := by rfl) (hpl : (backTo pos (starEach es X.env)).any (·.1) = false := by rfl) :
    L2H.PMk5 X (.Call (.Name x p) (e :: es) [] pos) (tMkO C sp [] ta) := by
  intro pins s σ H Q I h
  obtain ⟨nm, q, N, bs, bm, sn, sub, ab, col, dd, k0, k1, k2, k3, k5, hC, hbm⟩ := T.cls
  refine wpAny_Call_Name_kw (ld_glob I hg hm ?_ hdb)
  refine PySem.W.callWith_K (h₀ := X.base) I.ok.mod.kin T.kC (thn (ha.run pos pins s σ H _ I h) fun us s1 ⟨vs, H1, I1, r1, hz, q1⟩ => ⟨I1.kIn, ?_⟩) he hpl
  show wpAny _ _ (call (.ref C) us) _ _ _
  obtain ⟨hp, g, dr, tk, os⟩ := s1
  have new : hp.objs.size ≤ hp.objs.size + 1 := Nat.le_succ _
  have hq := q1 (hp.objs.size + 1) (I1.hok.fresh new)
  rw [List.append_nil] at hq
  have keep : ∀ b o, hp.get? b = some o → ((hp.push (PySem.W.kdv_tup us)).push (PySem.HandSPX.excO C hp.objs.size)).get? b = some o := fun b o e => Heap.get?_push_of_some _ (Heap.get?_push_of_some _ e)
  have made : ((hp.push (PySem.W.kdv_tup us)).push (PySem.HandSPX.excO C hp.objs.size)).get? (hp.objs.size + 1) = some (PySem.HandSPX.excO C hp.objs.size) := by heap_get
  have I2 := I1.laid (t' := tk) (a := hp.objs.size + 1) (o := exo (hp.objs.size + 1) C none) (h' := (hp.push (PySem.W.kdv_tup us)).push (PySem.HandSPX.excO C hp.objs.size)) keep new (exo_ok made)
  have r2 : Vals (V.ref (hp.objs.size + 1) :: vs) (Value.ref (hp.objs.size + 1) :: us) := .cons rfl r1
  have hl : (Value.ref (hp.objs.size + 1) :: us ++ []).length = ps.length := by
    have e := r2.length
    rw [len _ _ _ _ hq] at e
    rw [List.append_nil]
    exact e.symm
  have b2 := hb _ (Value.ref (hp.objs.size + 1) :: us) I2.kIn hl
  rw [List.append_nil] at b2
  have hus : us.length ≤ sizeLine := by
    rw [← Paired.length r1, sizeLine_eq]
    omega
  refine wpAny_call (PySem.HandSPX.call_own F.excBase_ValueError (fun Y => PySem.HandSPX.refsVE_contains Y bm hbm) (I1.kIn _ _ hC) (PySem.W.looks_findIn I1.kIn iC) (fun self => PySem.W.bind_fn I1.kIn self tI) hus
    (codeAny_mono (run us I2 b2 r2 hq) fun r s' hq' => ?_))
  cases r with
  | error er => exact hx pins σ _ _ er s' I2 hq'
  | ok fl =>
    cases fl with
    | ret u =>
      obtain ⟨v, H2, os2, bare2, un2, hok2, rv, ev, d, fs, ea, ed, hd1, q2⟩ := hq'
      subst ev
      obtain ⟨h2, g2, d2, t2, os'⟩ := s'
      obtain ⟨t0, G, J, kG, ge, hoe, na⟩ := mk_end0 (d2 := d2) (t2 := t2) I1 new keep un2 hok2 os2 bare2 ea ed hd1
      refine ⟨rv, ⟨hp.objs.size + 1, _, _, ⟨G, g2, d2, t2, os'⟩, _, .ref C, some d, rfl, J, kG, ge, hoe, ⟨rfl, rfl, fun vs hv => by cases hv; rfl⟩, rfl, rfl, na, rfl, bare2, raises_own T.exC T.tyC, q2⟩, fun a oe vs ea2 hg2 hd2 => ?_⟩
      cases ea2
      have hg3 : h2.get? (hp.objs.size + 1) = some oe := hg2
      rw [hoe] at hg3
      cases hg3
      cases hd2
      show (4 : Nat) < 6
      decide
    | next => exact hq'.elim
    | brk => exact hq'.elim
    | cont => exact hq'.elim
/-- calm -/
theorem pmk_calm (T : OexC X.K C) (iC : PySem.W.findIn X.K (.ref C) "__init__" = some (some (.ref fI))) (tI : PySem.W.typeIn X.K (.ref fI) = some (.type "function")) (F1 : FnOk X.prog X.w X.K X.mg X.base CX k fI fd ps sp) (hr : Room (k + 1) X.A)
    (hb : Binds X.K fd ps []) (hx : Passes CX X (fun _ _ _ => False)) (hg : Gl X x) (hm : X.mg x = some (.ref C)) (ha : PA X (e :: es) ta)
    (hdb : (x == ("__debug__" : Str)) = false := by decide) (he : starEach (e :: es) X.env = (false, eval e X.env) :: starEach es X.env := by rfl) (hpl : (backTo pos (starEach es X.env)).any (·.1) = false := by rfl) :
    L2N.PMk X (.Call (.Name x p) (e :: es) [] pos) (tMkO C sp [] ta) :=
  (pmk_by T iC tI F1.len (fun ws I b r h => F1.run _ _ _ _ _ _ _ _ _ (hr.make C ws []) (I.env0.make C ws []) b r h) hb hx hg hm ha hdb he hpl).pmk
/-- while something is handled (any pin will do) -/
theorem pmk_hot {q : Addr × Obj} (T : OexC X.K C) (iC : PySem.W.findIn X.K (.ref C) "__init__" = some (some (.ref fI))) (tI : PySem.W.typeIn X.K (.ref fI) = some (.type "function")) (F1 : FnT X.prog X.w X.K X.mg X.base CX k fI fd ps sp) (hr : L2H.RoomH (k + 1) X.A) (hq : q ∈ X.pn)
    (hb : Binds X.K fd ps []) (hx : Passes CX X (fun _ _ _ => False)) (hg : Gl X x) (hm : X.mg x = some (.ref C)) (ha : PA X (e :: es) ta)
    (hdb : (x == ("__debug__" : Str)) = false := by decide) (he : starEach (e :: es) X.env = (false, eval e X.env) :: starEach es X.env := by rfl) (hpl : (backTo pos (starEach es X.env)).any (·.1) = false := by rfl) :
    L2H.PMk5 X (.Call (.Name x p) (e :: es) [] pos) (tMkO C sp [] ta) :=
  pmk_by T iC tI F1.len (fun {pins σ H s us vs Q} ws I b r h => by
    have P1 := I.pin q (List.mem_append_left _ hq)
    exact F1.run _ _ _ _ _ _ _ _ _ q (hr.make C ws []) ⟨P1.1, P1.2.1, fun hm => (List.mem_cons.mp (I.stkSub q.1 hm)).elim P1.2.2.1 P1.2.2.2.1, P1.2.2.2.2⟩ (I.env0.make C ws []) b r h) hb hx hg hm ha hdb he hpl
end
end L3

/-! FLg: methods that raise; a caught exception's fields; steps. -/
namespace L3
open PySem PySem.Spec PyProof.Rows L2
section
variable {X : Cx} {CX : CXT} {k : Nat} {f C : Addr} {fd : FuncData} {ps : List Str} {sp : Sp} {E : St → XK} {m : Str} {pos apos : Pos} {e o : Expr} {es : List Expr} {ta : TE} {t : TA}
/-- o.m(e, ..), m may raise; what is wished for stands at the slots -/
def tMethY (C : Addr) (m : Str) (sp : Sp) (E : St → XK) (ta : TE) (t : TA) : TE := fun σ H Q => ta σ H fun x H1 => ∃ a dx fs, x = .ref a ∧ H1 a = some (.ins C dx fs) ∧ fs.lookup m = none ∧ t σ H1 fun vs H2 => sp (x :: vs) H2 Q (E σ)
theorem pe_methY {pl : Sem Bool} (he : PE X o ta) (c : Cls X.K C) (hm : Meth X.K C m f) (F : FnOk X.prog X.w X.K X.mg X.base CX k f fd ps sp) (hr : Room k X.A) (hb : Binds X.K fd ps []) (hx : ∀ σ, PassesAt CX X σ (E σ)) (ha : PA X (e :: es) t)
    (hst : starEach (e :: es) X.env = (false, eval e X.env) :: starEach es X.env := by rfl) (hpl : (backTo pos (starEach es X.env)).any (·.1) = false := by rfl)
    (ht : eval (.Call (.Attribute o m apos) (e :: es) [] pos) X.env = (do
      let ov ← eval o X.env
      standAt apos.atName
      let (f, first) ← holding [ov] (getMethod ov m pl)
      callWith pos f first (backTo pos (starEach (e :: es) X.env)) (backToKw pos (keywordEach [] X.env))) := by rfl) :
    PE X (.Call (.Attribute o m apos) (e :: es) [] pos) (tMethY C m sp E ta t) := by
  refine ⟨fun pins s σ H Q I h => ?_⟩
  refine PySem.W.methodCall_KW (pl := pl) (thn (he.run pins s σ H _ I h) fun u s1 ⟨x, H1, I1, rx, a, dx, fs, ex, ea, l, q⟩ => ?_) ht
  subst ex
  obtain rfl : u = Value.ref a := rx
  refine getmeth_ok I1 ea c hm l ?_
  exact PySem.W.callWith_K (first := [.ref a]) (h₀ := X.base) I.ok.mod.kin hm.kp (thn (ha.run pos pins s1 σ H1 _ I1 q) fun us s2 ⟨vs, H2, I2, r, q2⟩ => ⟨I2.kIn, run_fnS (us := .ref a :: us) (vs := .ref a :: vs) F hr hb (hx σ) I2 (.cons rfl r) q2⟩) hst hpl
/-- the fields of what was caught -/
theorem pe_xfR {a : Addr} {oe : Obj} {cls : Value} {d : Option Addr} {te : TE} {n : Str} (T : XfC X.K C) (hno : PySem.W.findIn X.K (.ref C) n = some none) (hp : (a, oe) ∈ X.pn) (hz : Zc cls d oe) (hf : ∃ vs, oe.data = .fields vs) (he : PE X e te)
    (hb : attributeBase e n X.env (eval e X.env) = eval e X.env := by rfl) : PE X (.Attribute e n pos) (tXf a cls d C n te) := by
  refine ⟨fun pins s σ H Q I h => ?_⟩
  refine attr_of hb (thn (he.run pins s σ H _ I h) fun u s1 hh => ?_)
  obtain ⟨x, H1, I1, rx, ex, ec, dd, fs, v, ed, ea, l, q⟩ := hh
  subst ex ec ed
  obtain rfl : u = Value.ref a := rx
  have ha := (I1.pin (a, oe) (List.mem_append_left _ hp)).1
  obtain ⟨vs, hd⟩ := hf
  obtain ⟨mA, hns, hr⟩ := (show ObjOk X.prog X.w H1 s1.heap dd (.xd fs) from I1.hok dd _ ea)
  obtain ⟨od, ho, hl⟩ := lookIn_ns hns
  obtain ⟨u, hu, ru⟩ := RelO.some_of (v := v) (o := mA n) (by rw [← l]; exact hr n)
  have J : PySem.W.InstAt s1.heap a oe C (some od) := ⟨ha, hz.1, by unfold PySem.W.notCls; rw [hd] <;> rfl, by rw [hz.2]; exact ho⟩
  exact HandSPX.exc_get I1.kIn J T.ga T.gg T.exC (PySem.W.findObj_own T.hdC hno rfl (by rw [hl, hu])) (handed_of ru) ⟨v, H1, I1.tok _, ru, q⟩
end
section
variable {P : Program} {w : World} {K : PySem.W.Frag} {mg : Str → Option Value} {base : Heap}
/-- a def that may raise, by its body -/
theorem okY {x qual : Str} {st : Stmt} {f : Addr} {fd : FuncData} {N ps : List Str} {k : Nat} {sp : Sp} (F : Fun K x qual st f fd) (S : FnScope N ps (defScope st)) (len : ∀ vs H Q E, sp vs H Q E → vs.length = ps.length)
    (hbody : ∀ (cdv : Value) (A : Around) (outer : List Env) (s : Shared) (H : Hp) (vs : List V) (Q : VK) (E : XK), Room k (A.deeper (envOfC qual (defScope st) s.heap.objs.size f cdv)) → sp vs H Q E →
      ∃ t, PSs (cxOf (CX P w) P w K mg base N qual (defScope st) f cdv A outer s H E) (defBody st) t ∧ t { nx := fun _ H' => Q .non H', rt := Q } (start N vs) H) : FnOk P w K mg base (CX P w) (k + 1) f fd ps sp := by
  obtain ⟨oc, od, kV, doc, pm, an, cdv, ct, osl, rfl, lk, hcd⟩ := F.ex
  exact fn_of lk hcd S len fun A outer s H vs Q E hr hsp => hbody cdv A outer s H vs Q E hr hsp
/-- a method that may raise, by its name -/
def DmY (P : Program) (w : World) (K : PySem.W.Frag) (mg : Str → Option Value) (base : Heap) (k : Nat) (C : Addr) (m : Str) (ps : List Str) (sp : Sp) : Prop :=
  ∃ (f : Addr) (fd : FuncData), FnOk P w K mg base (CX P w) k f fd ps sp ∧ Meth K C m f ∧ Binds K fd ps []
/-- a def that may raise, by its name -/
def DnY (P : Program) (w : World) (K : PySem.W.Frag) (mg : Str → Option Value) (base : Heap) (k : Nat) (x : Str) (ps : List Str) (sp : Sp) : Prop :=
  ∃ (f : Addr) (fd : FuncData), FnOk P w K mg base (CX P w) k f fd ps sp ∧ mg x = some (.ref f) ∧ PySem.W.keepIn K (.ref f) = true ∧ Binds K fd ps []
/-- an exception class's __init__, whatever is handled -/
def DxT (P : Program) (w : World) (K : PySem.W.Frag) (mg : Str → Option Value) (base : Heap) (k : Nat) (C : Addr) (ps : List Str) (sp : Sp) : Prop :=
  ∃ (f : Addr) (fd : FuncData), FnT P w K mg base CX0 k f fd ps sp ∧ HL.ExcC K C f ∧ Binds K fd ps []
end
section
variable {K : PySem.W.Frag} {σ : St} {H : Hp} {D : Ends} {ta te : TE} {t : TA} {Q : VK}
theorem s_methY {C : Addr} {m : Str} {sp : Sp} {E : St → XK} (h : ta σ H fun x H1 => ∃ a dx fs, x = .ref a ∧ H1 a = some (.ins C dx fs) ∧ fs.lookup m = none ∧ t σ H1 fun vs H2 => sp (x :: vs) H2 Q (E σ)) : tMethY C m sp E ta t σ H Q := h
theorem s_reraise {W : St → Hp → Prop} (h : W σ H) : (fun (_ : Ends) (σ : St) (H : Hp) => W σ H) D σ H := h
theorem pass0 {X : Cx} : ∀ σ, PassesAt CX0 X σ (WE (fun _ _ _ _ => False) σ) := fun _ _ _ _ _ _ _ h => h.elim
end
end L3

/-! FLh: rules with K named; steps. -/
namespace L3
open PySem PySem.Spec PyProof.Rows L2 HL
section
variable {X : Cx} {K : PySem.W.Frag} {σ : St} {H : Hp} {D : Ends} {Q : VK} {ta tb te : TE}
def rDictP (K : PySem.W.Frag) : List V → Hp → VK → Prop := fun xs H Q => ∃ (a : Addr) (ps : List Addr) (kvs : List (Key × V)), xs = [.ref a] ∧ SqL K H a (ps.map V.ref) ∧ Paired (fun p kv => SqT K H p [kV kv.1, kv.2]) ps kvs ∧ ∀ p, H p = none → Q (.ref p) (upd H p (.dK (mergeK [] kvs)))
theorem dictPK (h : X.K = K) (hc : X.calm = true) : CallR X (.type "dict") (rDictP K) := h ▸ call_dictP hc
theorem s_dpop1 (h : ta σ H fun x H1 => ∃ a, x = .ref a ∧ IsD H1 a ∧ tb σ H1 fun y H2 => ∃ kvs k v, H2 a = some (.dK kvs) ∧ y = kV k ∧ valV kvs k = some v ∧ Q v (upd H2 a (.dK (dropK kvs k)))) : tDPop1 ta tb σ H Q := h
theorem s_dpop2 (h : ta σ H fun x H1 => ∃ a, x = .ref a ∧ IsD H1 a ∧ tb σ H1 fun y H2 => te σ H2 fun z H3 => ∃ kvs k, H3 a = some (.dK kvs) ∧ y = kV k ∧
  (∀ v, valV kvs k = some v → Q v (upd H3 a (.dK (dropK kvs k)))) ∧ (valV kvs k = none → Q z H3)) : tDPop2 ta tb te σ H Q := h
theorem s_dget2 (h : ta σ H fun x H1 => ∃ a, x = .ref a ∧ IsD H1 a ∧ tb σ H1 fun y H2 => te σ H2 fun z H3 => ∃ o, DGet H3 a y o ∧ Q (o.getD z) H3) : tDGet2 ta tb te σ H Q := h
/-- an exception caught: how it goes on -/
theorem w_as {c : Value} {i : Nat} {ts : Addr → Value → Option Addr → TS} {Wout : WX} {d : Option Addr} {C : Addr} (he : PySem.W.exmOne K (.ref C) c = some true)
    (h : ∀ a, H a = none → ts a (.ref C) d { nx := fun σ' H' => D.nx (σ'.set i none) H', rt := D.rt, bk := fun σ' H' => D.bk (σ'.set i none) H', ct := fun σ' H' => D.ct (σ'.set i none) H' } (σ.set i (some (.ref a))) H) : wAs K c i ts Wout D (.ref C) d σ H :=
  ⟨true, he, fun _ => h, fun z => Bool.noConfusion z⟩
theorem w_not {c : Value} {i : Nat} {ts : Addr → Value → Option Addr → TS} {Wout : WX} {d : Option Addr} {C : Addr} (he : PySem.W.exmOne K (.ref C) c = some false) (h : Wout (.ref C) d σ H) : wAs K c i ts Wout D (.ref C) d σ H :=
  ⟨false, he, fun z => Bool.noConfusion z, fun _ => h⟩
end
end L3

/-! FLi: what an expression makes, read only from then on. -/
namespace L3
open PySem PySem.Spec PyProof.Rows L2 HL TL
def tFrz (t : TE) : TE := fun σ H Q => t σ H fun x H1 => ∃ d u, x = .ref d ∧ H1 d = some u ∧ L2.Mut (some u) ∧ ∀ od, Q x (upd H1 d (.frz od u))
theorem pe_frz {X : Cx} {e : Expr} {t : TE} (h : PE X e t) : PE X e (tFrz t) := ⟨fun pins s σ H Q I hw => by
  refine thn (h.run pins s σ H _ I hw) fun v s1 ⟨x, H1, I2, r, d, u, e1, e2, mu, q⟩ => ?_
  obtain ⟨od, I3⟩ := I2.lock e2 mu
  exact ⟨x, _, I3, r, q od⟩⟩
theorem s_frz {t : TE} {σ : L2.St} {H : Hp} {Q : VK} (h : t σ H fun x H1 => ∃ d u, x = .ref d ∧ H1 d = some u ∧ L2.Mut (some u) ∧ ∀ od, Q x (upd H1 d (.frz od u))) : tFrz t σ H Q := h
end L3
namespace L3
open PySem PySem.Spec PyProof.Rows L2 HL TL
/-- nothing flies -/
theorem passNo {X : Cx} {P : Program} {w : World} : ∀ σ, PassesAt (CX P w) X σ (WE (fun _ _ _ _ => False) σ) := fun _ _ _ _ _ _ _ h => by
  obtain ⟨_, _, _, _, _, _, _, _, _, _, _, _, e⟩ := h
  exact e.elim
end L3

/-! FPa: what a house does, in plain Lean. -/
namespace PH
open PySem PySem.Spec PyProof.Rows L2 HL TL
noncomputable def srt (ks : List Str) : List Str := open Classical in if h : ∃ ys : List Str, ys.Perm ks ∧ sortedS ys = true then h.choose else ks
theorem srt_eq {ys ks : List Str} (p : ys.Perm ks) (s : sortedS ys = true) : ys = srt ks := by
  have h : ∃ ys : List Str, ys.Perm ks ∧ sortedS ys = true := ⟨ys, p, s⟩
  unfold srt
  rw [dif_pos h]
  exact sorted_eq p s h.choose_spec.1 h.choose_spec.2
/-- a thing, its modules by their places in what was made -/
inductive Th
  | num (n : Int)
  | mod (k : Nat)
  | fn (k : Nat) (r : Str)
inductive Row
  | set (x : Str) (n : Int)
  | now (x r : Str)
  | take (x p : Str)
  | draw (x p y : Str)
  | late (x r : Str)
  | ask (x r : Str)
  | note (p : Str)
  | fail (w : Str)
  | tr (a : List Row) (ws : List Str) (b : List Row)
abbrev S (z : Str) : PyData := .str z
def Row.dat : Nat → Row → PyData
  | _, .set x n => .tuple [S "set", S x, .int n]
  | _, .now x r => .tuple [S "now", S x, S r]
  | _, .take x p => .tuple [S "take", S x, S p]
  | _, .draw x p y => .tuple [S "draw", S x, S p, S y]
  | _, .late x r => .tuple [S "late", S x, S r]
  | _, .ask x r => .tuple [S "ask", S x, S r]
  | _, .note p => .tuple [S "note", S p]
  | _, .fail w => .tuple [S "fail", S w]
  | 0, .tr _ _ _ => .none
  | d + 1, .tr a ws b => .tuple [S "try", .tuple (a.map (Row.dat d)), .tuple (ws.map .str), .tuple (b.map (Row.dat d))]
abbrev rowsD (rs : List Row) : List PyData := rs.map (Row.dat 3)
/-- as a dict puts: a name anew in its old place -/
def putA {α : Type} (xs : List (Str × α)) (z : Str) (t : α) : List (Str × α) :=
  if (xs.any fun x => decide (x.1 = z)) = true then xs.map (fun x => if x.1 = z then (x.1, t) else x) else xs ++ [(z, t)]
def getA {α : Type} (xs : List (Str × α)) (z : Str) : Option α := (xs.find? fun x => decide (x.1 = z)).map (·.2)
def delA {α : Type} (xs : List (Str × α)) (z : Str) : List (Str × α) := xs.filter fun x => decide (x.1 ≠ z)
section
variable {α : Type} {xs : List (Str × α)} {z y : Str} {t : α}
theorem any_iff : (xs.any fun x => decide (x.1 = z)) = true ↔ z ∈ xs.map (·.1) := by
  simp only [List.any_eq_true, decide_eq_true_eq, List.mem_map]
theorem putA_new (h : z ∉ xs.map (·.1)) : putA xs z t = xs ++ [(z, t)] := if_neg fun e => h (any_iff.mp e)
theorem putA_old (h : z ∈ xs.map (·.1)) : putA xs z t = xs.map fun x => if x.1 = z then (x.1, t) else x := if_pos (any_iff.mpr h)
theorem putA_len : (putA xs z t).length ≤ xs.length + 1 := by
  unfold putA
  split
  · rw [List.length_map]; omega
  · rw [List.length_append]; exact Nat.le_refl _
theorem getA_cons (x : Str × α) : getA (x :: xs) z = if x.1 = z then some x.2 else getA xs z := by
  unfold getA
  rw [List.find?_cons]
  by_cases c : x.1 = z
  · rw [decide_eq_true c, if_pos c]; rfl
  · rw [decide_eq_false c, if_neg c]
theorem getA_none : getA xs z = none ↔ z ∉ xs.map (·.1) := by
  induction xs with
  | nil => simp [getA]
  | cons x r ih =>
    rw [getA_cons]
    by_cases c : x.1 = z
    · rw [if_pos c]; simp [c]
    · rw [if_neg c, ih]; simp [Ne.symm c]
theorem getA_mem {u : α} (h : getA xs z = some u) : (z, u) ∈ xs := by
  induction xs with
  | nil => cases h
  | cons x r ih =>
    rw [getA_cons] at h
    by_cases c : x.1 = z
    · rw [if_pos c] at h; cases h; subst c; exact List.mem_cons_self
    · rw [if_neg c] at h; exact List.mem_cons_of_mem _ (ih h)
theorem delA_len : (delA xs z).length ≤ xs.length := List.length_filter_le _ _
theorem delA_keep {y : Str} (h : y ∈ xs.map (·.1)) (n : y ≠ z) : y ∈ (delA xs z).map (·.1) := by
  obtain ⟨x, hx, e⟩ := List.mem_map.mp h
  exact List.mem_map.mpr ⟨x, List.mem_filter.mpr ⟨hx, decide_eq_true (by rw [e]; exact n)⟩, e⟩
theorem delA_keys {y : Str} (h : y ∈ (delA xs z).map (·.1)) : y ∈ xs.map (·.1) ∧ y ≠ z := by
  obtain ⟨x, hx, e⟩ := List.mem_map.mp h
  obtain ⟨h1, h2⟩ := List.mem_filter.mp hx
  exact ⟨List.mem_map.mpr ⟨x, h1, e⟩, e ▸ of_decide_eq_true h2⟩
theorem putA_keys : (putA xs z t).map (·.1) = if z ∈ xs.map (·.1) then xs.map (·.1) else xs.map (·.1) ++ [z] := by
  by_cases c : z ∈ xs.map (·.1)
  · rw [putA_old c, if_pos c, List.map_map]
    refine List.map_congr_left fun x _ => ?_
    show (if x.1 = z then (x.1, t) else x).1 = x.1
    split <;> rfl
  · rw [putA_new c, if_neg c, List.map_append]; rfl
theorem getA_put : getA (putA xs z t) y = if y = z then some t else getA xs y := by
  by_cases c : z ∈ xs.map (·.1)
  · rw [putA_old c]
    induction xs with
    | nil => cases c
    | cons x r ih =>
      rw [List.map_cons, getA_cons, getA_cons]
      by_cases e : x.1 = z
      · rw [if_pos e]
        dsimp only
        by_cases q : y = z
        · rw [if_pos q, if_pos (e.trans q.symm)]
        · rw [if_neg q, if_neg fun h => q (h.symm.trans e), if_neg fun h => q (h.symm.trans e)]
          by_cases m : z ∈ r.map (·.1)
          · rw [ih m, if_neg q]
          · congr 1
            exact (List.map_congr_left fun w hw => if_neg fun h => m (List.mem_map.mpr ⟨w, hw, h⟩)).trans (List.map_id' _)
      · rw [if_neg e]
        have m : z ∈ r.map (·.1) := (List.mem_cons.mp c).resolve_left fun h => e h.symm
        rw [ih m]
        by_cases q : x.1 = y
        · rw [if_pos q, if_neg fun h => e (q.trans h), if_pos q]
        · rw [if_neg q, if_neg q]
  · rw [putA_new c]
    have e : getA xs z = none := getA_none.mpr c
    unfold getA at e ⊢
    rw [List.find?_append]
    by_cases q : y = z
    · subst q
      rw [if_pos rfl]
      cases h : xs.find? fun x => decide (x.1 = y) with
      | none => simp
      | some u => rw [h] at e; cases e
    · rw [if_neg q]
      have : List.find? (fun x => decide (x.1 = y)) [(z, t)] = none := by
        rw [List.find?_cons, decide_eq_false (fun h : z = y => q h.symm)]; rfl
      rw [this]
      cases xs.find? fun x => decide (x.1 = y) <;> rfl
end
structure Ab where
  qs : List Str
  nm : List (List (Str × Th))
  tab : List (Str × Nat)
  brk : List (Str × (Nat × PyData))
  met : List PyData
  fat : List Nat
  log : List PyData
  pap : List PyData
  line : List (Nat × Nat)
abbrev Rs (α : Type) := Ab × Except PyData α
namespace Ab
variable (a : Ab)
def path (k : Nat) : Str := a.qs.getD k ""
def names (k : Nat) : List (Str × Th) := a.nm.getD k []
def bind (k : Nat) (z : Str) (t : Th) : Ab := { a with nm := a.nm.set k (putA (a.names k) z t) }
def put (e : PyData) : Ab := { a with log := a.log ++ [e] }
end Ab
abbrev numD (k : Nat) : PyData := .int ((k + 1 : Nat) : Int)
abbrev haveE (k : Nat) : PyData := .tuple [S "have", numD k]
abbrev againE (k : Nat) : PyData := .tuple [S "again", numD k]
abbrev beginE (k : Nat) (p : Str) : PyData := .tuple [S "begin", numD k, S p]
abbrev endE (k : Nat) : PyData := .tuple [S "end", numD k]
abbrev failE (k : Nat) (f : PyData) : PyData := .tuple [S "fail", numD k, f]
abbrev noteE (k : Nat) (d : PyData) : PyData := .tuple [S "note", numD k, d]
abbrev caughtE (k r : Nat) (w : PyData) : PyData := .tuple [S "caught", numD k, .int (r : Nat), w]
abbrev stepE (p : Str) (r : Nat) : PyData := .tuple [S p, .int (r : Nat)]
abbrev noModF (p : Str) : PyData := .tuple [S "NOMODULE", S p]
abbrev noNameF (p z : Str) : PyData := .tuple [S "NONAME", S p, S z]
abbrev halfF (p z : Str) (ring : List PyData) : PyData := .tuple [S "HALF", S p, S z, .tuple ring]
abbrev flatF (p z : Str) : PyData := .tuple [S "FLAT", S p, S z]
abbrev notAskF (p z : Str) : PyData := .tuple [S "NOTASK", S p, S z]
/-- a fault's word -/
def wordF : PyData → Str
  | .tuple (.str w :: _) => w
  | _ => ""
def papE (k : Nat) (l : List (Nat × Nat)) : PyData := match l.getLast? with
  | none => .tuple [numD k, .none, .none]
  | some x => .tuple [numD k, numD x.1, .int (x.2 : Nat)]
def setR (l : List (Nat × Nat)) (r : Nat) : List (Nat × Nat) := l.dropLast ++ (l.getLast?.map fun x => (x.1, r)).toList
namespace Ab
variable (a : Ab)
def row (r : Nat) : Ab := { a with line := setR a.line r }
def road (l : List (Nat × Nat)) : List PyData := l.map fun x => stepE (a.path x.1) x.2
def up : Ab := { a with met := a.road a.line }
def top : Nat × Nat := a.line.getLast?.getD (0, 0)
noncomputable def noted (p : Str) : PyData := match getA a.tab p with
  | none => .none
  | some k => .tuple ((srt ((a.names k).map (·.1))).map .str)
def look (ch : List (Nat × Nat)) (k : Nat) (z : Str) : Except PyData Th := match getA (a.names k) z with
  | some t => .ok t
  | none => match a.road (ch.dropWhile fun x => !decide (x.1 = k)) with
    | [] => .error (noNameF (a.path k) z)
    | r => .error (halfF (a.path k) z r)
def place (ch : List (Nat × Nat)) : Nat → List Str → Except PyData (Nat × Str)
  | k, [] => .ok (k, "")
  | k, [z] => .ok (k, z)
  | k, z :: y :: r => match a.look ch k z with
    | .ok (.mod m) => place ch m (y :: r)
    | .ok _ => .error (flatF (a.path k) z)
    | .error f => .error f
def follow (ch : List (Nat × Nat)) (k : Nat) (r : Str) : Except PyData Th := match a.place ch k (Txt.split r ".") with
  | .ok (m, z) => a.look ch m z
  | .error f => .error f
def asks (ch : List (Nat × Nat)) (k : Nat) (r : Str) : Except PyData Th := match a.place ch k (Txt.split r ".") with
  | .error f => .error f
  | .ok (m, z) => match a.look ch m z with
    | .error f => .error f
    | .ok (.fn h q) => a.follow ch h q
    | .ok _ => .error (notAskF (a.path m) z)
def begin (p : Str) : Ab := { a with qs := a.qs ++ [p], nm := a.nm ++ [[]], tab := a.tab ++ [(p, a.qs.length)], log := a.log ++ [beginE a.qs.length p], pap := a.pap ++ [papE a.qs.length a.line], line := a.line ++ [(a.qs.length, 0)] }
def fin (k : Nat) : Ab := { a with line := a.line.dropLast, log := a.log ++ [endE k] }
def broke (k : Nat) (p : Str) (f : PyData) : Ab := { a with line := a.line.dropLast, log := a.log ++ [failE k f], tab := delA a.tab p, brk := a.brk ++ [(p, (k, f))], fat := a.fat ++ [k] }
/-- what came of a look in the running body: bound, or the fault comes up -/
def got (k : Nat) (x : Str) : Except PyData Th → Rs Unit
  | .ok t => (a.bind k x t, .ok ())
  | .error f => (a.up, .error f)
end Ab
/-- rows one behind the other -/
def seqF (f : Row → Ab → Rs Unit) : List Row → Ab → Rs Unit
  | [], a => (a, .ok ())
  | r :: rs, a => match f r a with
    | (b, .ok _) => seqF f rs b
    | (b, .error e) => (b, .error e)
/-- a body's rows, each by its number -/
def bodyF (f : Row → Ab → Rs Unit) : Nat → List Row → Ab → Rs Unit
  | _, [], a => (a, .ok ())
  | i, r :: rs, a => match f r (a.row i) with
    | (b, .ok _) => bodyF f (i + 1) rs b
    | (b, .error e) => (b, .error e)
/-- how a path is taken, and what is drawn, by a house: by taken_one -/
structure Way where
  tk : (Ab → Str → Rs Nat) → Ab → Str → Rs Nat
  dr : (Ab → Str → Rs Nat) → Ab → Nat → Str → Rs Th
  wh : Ab → Nat → Ab
noncomputable def flatRow (w : Way) (on : Ab → Str → Rs Nat) (r : Row) (a : Ab) : Rs Unit := match r with
  | .set x n => (a.bind a.top.1 x (.num n), .ok ())
  | .now x q => a.got a.top.1 x (a.follow a.line a.top.1 q)
  | .take x p => match w.tk on a p with
    | (b, .ok m) => (b.bind a.top.1 x (.mod m), .ok ())
    | (b, .error f) => (b, .error f)
  | .draw x p y => match w.tk on a p with
    | (b, .error f) => (b, .error f)
    | (b, .ok m) => match w.dr on b m y with
      | (c, .ok t) => (c.bind a.top.1 x t, .ok ())
      | (c, .error f) => (c, .error f)
  | .late x q => (a.bind a.top.1 x (.fn a.top.1 q), .ok ())
  | .ask x q => a.got a.top.1 x (a.asks a.line a.top.1 q)
  | .note p => (a.put (noteE a.top.1 (a.noted p)), .ok ())
  | .fail z => (a.up, .error (.tuple [S z]))
  | .tr _ _ _ => (a, .ok ())
def caughtBy (ws : List Str) (f : PyData) : Bool := ws.any fun w => decide (wordF f = w ∨ w = "ALL")
noncomputable def rowF (w : Way) (on : Ab → Str → Rs Nat) : Nat → Row → Ab → Rs Unit
  | d + 1, .tr xs ws ys, a => match seqF (rowF w on d) xs a with
    | (b, .ok _) => (b, .ok ())
    | (b, .error f) => if caughtBy ws f = true then seqF (rowF w on d) ys (b.put (caughtE b.top.1 b.top.2 (S (wordF f)))) else (b, .error f)
  | _, r, a => flatRow w on r a
noncomputable def beginF (w : Way) (on : Ab → Str → Rs Nat) (a : Ab) (p : Str) (body : List Row) : Rs Nat := match bodyF (rowF w on 3) 0 body (a.begin p) with
  | (b, .ok _) => (w.wh (b.fin a.qs.length) a.qs.length, .ok a.qs.length)
  | (b, .error f) => (b.broke a.qs.length p f, .error f)
noncomputable def oneF (w : Way) (fnd : Str → Option (List Row)) : Nat → Ab → Str → Rs Nat
  | 0, a, _ => (a, .error .none)
  | n + 1, a, p => match getA a.tab p with
    | some k => (a.put (haveE k), .ok k)
    | none => match getA a.brk p with
      | some (k, f) => ((a.put (againE k)).up, .error f)
      | none => match fnd p with
        | none => (a.up, .error (noModF p))
        | some body => beginF w (oneF w fnd n) a p body
end PH

/-! FPb: how much a house's doing adds. -/
namespace PH
open PySem PySem.Spec PyProof.Rows L2 HL TL
def cntR : Nat → Row → Nat
  | d + 1, .tr xs _ ys => 1 + (xs.map (cntR d)).sum + (ys.map (cntR d)).sum
  | _, _ => 1
def cntsR (d : Nat) (rs : List Row) : Nat := (rs.map (cntR d)).sum
def seen (a : Ab) : List Str := a.tab.map (·.1) ++ a.brk.map (·.1)
def rem (ps : List Str) (a : Ab) : Nat := (ps.filter fun p => !decide (p ∈ seen a)).length
def many (nm : List (List (Str × Th))) : Nat := (nm.map List.length).sum
def wt (a : Ab) : Nat := a.log.length + a.pap.length + a.qs.length + many a.nm + a.brk.length + a.fat.length + a.tab.length
def lot (ps : List Str) (a : Ab) : Nat := wt a + 260 * rem ps a
theorem rem_mono {ps : List Str} {a b : Ab} (h : ∀ q ∈ seen a, q ∈ seen b) : rem ps b ≤ rem ps a := by
  unfold rem
  rw [← List.countP_eq_length_filter, ← List.countP_eq_length_filter]
  refine List.countP_mono_left fun p _ hp => ?_
  simp only [Bool.not_eq_true', decide_eq_false_iff_not] at hp ⊢
  exact fun m => hp (h p m)
theorem filter_lt {p : Str} : ∀ {l : List Str}, p ∈ l → (l.filter fun x => !decide (x = p)).length + 1 ≤ l.length
  | x :: r, m => by
    by_cases c : x = p
    · subst c
      rw [List.filter_cons_of_neg (by simp)]
      have := List.length_filter_le (fun y => !decide (y = x)) r
      rw [List.length_cons]
      omega
    · rw [List.filter_cons_of_pos (by simpa using c)]
      have := filter_lt ((List.mem_cons.mp m).resolve_left fun e => c e.symm)
      rw [List.length_cons, List.length_cons]
      omega
theorem rem_lt {ps : List Str} {a b : Ab} {p : Str} (hp : p ∈ ps) (n : p ∉ seen a) (e : ∀ q, q ∈ seen b ↔ q ∈ seen a ∨ q = p) : rem ps b + 1 ≤ rem ps a := by
  unfold rem
  have h1 : (ps.filter fun x => !decide (x ∈ seen b)) = (ps.filter fun x => !decide (x ∈ seen a)).filter fun x => !decide (x = p) := by
    rw [List.filter_filter]
    refine List.filter_congr fun x _ => ?_
    have := e x
    by_cases c2 : x = p
    · subst c2
      simp [this]
    · by_cases c1 : x ∈ seen a <;> simp [c1, c2, this]
  rw [h1]
  exact filter_lt (List.mem_filter.mpr ⟨hp, by simpa using n⟩)
structure Gr (ps : List Str) (c : Nat) (a b : Ab) : Prop where
  lot : lot ps b ≤ lot ps a + c
  rem : rem ps b ≤ rem ps a
  qs : ∃ more, b.qs = a.qs ++ more
theorem Gr.refl {ps : List Str} {a : Ab} : Gr ps 0 a a := ⟨Nat.le_refl _, Nat.le_refl _, [], by simp⟩
theorem Gr.tr {ps : List Str} {c d : Nat} {a b e : Ab} (x : Gr ps c a b) (y : Gr ps d b e) : Gr ps (c + d) a e := by
  obtain ⟨m1, e1⟩ := x.qs
  obtain ⟨m2, e2⟩ := y.qs
  exact ⟨by have := x.lot; have := y.lot; omega, Nat.le_trans y.rem x.rem, m1 ++ m2, by rw [e2, e1, List.append_assoc]⟩
theorem Gr.mono {ps : List Str} {c d : Nat} {a b : Ab} (x : Gr ps c a b) (h : c ≤ d) : Gr ps d a b := ⟨Nat.le_trans x.lot (by omega), x.rem, x.qs⟩
theorem many_set (nm : List (List (Str × Th))) (k : Nat) (z : Str) (t : Th) : many (nm.set k (putA (nm.getD k []) z t)) ≤ many nm + 1 := by
  induction nm generalizing k with
  | nil => exact Nat.le_succ _
  | cons x r ih =>
    cases k with
    | zero =>
      show (putA x z t).length + many r ≤ x.length + many r + 1
      have := putA_len (xs := x) (z := z) (t := t)
      omega
    | succ k =>
      show x.length + many (r.set k (putA (r.getD k []) z t)) ≤ x.length + many r + 1
      have := ih k
      omega
theorem names_le (a : Ab) (k : Nat) : (a.names k).length ≤ many a.nm := by
  unfold Ab.names
  generalize a.nm = nm
  induction nm generalizing k with
  | nil => exact Nat.le_refl _
  | cons x r ih =>
    cases k with
    | zero => exact Nat.le_add_right _ _
    | succ k => exact Nat.le_trans (ih k) (Nat.le_add_left _ _)
section
variable {ps : List Str} {a : Ab}
theorem gr_bind (k : Nat) (z : Str) (t : Th) : Gr ps 1 a (a.bind k z t) := by
  refine ⟨?_, Nat.le_refl _, [], by simp [Ab.bind]⟩
  have : many (a.nm.set k (putA (a.names k) z t)) ≤ many a.nm + 1 := many_set _ _ _ _
  show wt (a.bind k z t) + 260 * rem ps a ≤ _
  unfold lot wt
  show a.log.length + a.pap.length + a.qs.length + many (a.nm.set k _) + a.brk.length + a.fat.length + a.tab.length + _ ≤ _
  omega
theorem gr_put (e : PyData) : Gr ps 1 a (a.put e) := by
  refine ⟨?_, Nat.le_refl _, [], by simp [Ab.put]⟩
  show wt (a.put e) + 260 * rem ps a ≤ _
  unfold lot wt
  show (a.log ++ [e]).length + a.pap.length + a.qs.length + many a.nm + a.brk.length + a.fat.length + a.tab.length + _ ≤ _
  rw [List.length_append, List.length_singleton]
  omega
theorem gr_up : Gr ps 0 a a.up := ⟨Nat.le_refl _, Nat.le_refl _, [], by simp [Ab.up]⟩
theorem gr_row (r : Nat) : Gr ps 0 a (a.row r) := ⟨Nat.le_refl _, Nat.le_refl _, [], by simp [Ab.row]⟩
theorem gr_got (k : Nat) (x : Str) (t : Except PyData Th) : Gr ps 1 a (a.got k x t).1 := by
  cases t with
  | ok t => exact gr_bind _ _ _
  | error f => exact gr_up.mono (by decide)
theorem gr_fin (k : Nat) : Gr ps 1 a (a.fin k) := by
  refine ⟨?_, Nat.le_refl _, [], by simp [Ab.fin]⟩
  show wt (a.fin k) + 260 * rem ps a ≤ _
  unfold lot wt
  show (a.log ++ [_]).length + a.pap.length + a.qs.length + many a.nm + a.brk.length + a.fat.length + a.tab.length + _ ≤ _
  rw [List.length_append, List.length_singleton]
  omega
theorem gr_broke (k : Nat) (p : Str) (f : PyData) : Gr ps 3 a (a.broke k p f) := by
  have r1 : rem ps (a.broke k p f) ≤ rem ps a := rem_mono fun q hq => by
    show q ∈ (delA a.tab p).map (·.1) ++ (a.brk ++ [(p, (k, f))]).map (·.1)
    rw [List.map_append]
    by_cases c : q = p
    · subst c; simp
    · rcases List.mem_append.mp hq with h | h
      · exact List.mem_append_left _ (delA_keep h c)
      · exact List.mem_append_right _ (List.mem_append_left _ h)
  refine ⟨?_, r1, [], by simp [Ab.broke]⟩
  have := delA_len (xs := a.tab) (z := p)
  show wt (a.broke k p f) + 260 * rem ps (a.broke k p f) ≤ _
  unfold lot wt
  show (a.log ++ [_]).length + a.pap.length + a.qs.length + many a.nm + (a.brk ++ [_]).length + (a.fat ++ [_]).length + (delA a.tab p).length + _ ≤ _
  rw [List.length_append, List.length_append, List.length_append, List.length_singleton, List.length_singleton, List.length_singleton]
  omega
theorem gr_begin {p : Str} (hp : p ∈ ps) (h1 : getA a.tab p = none) (h2 : getA a.brk p = none) : lot ps (a.begin p) + 256 ≤ lot ps a ∧ rem ps (a.begin p) + 1 ≤ rem ps a := by
  have ns : p ∉ seen a := fun h => (List.mem_append.mp h).elim (getA_none.mp h1) (getA_none.mp h2)
  have r1 : rem ps (a.begin p) + 1 ≤ rem ps a := rem_lt hp ns fun q => by
    show q ∈ (a.tab ++ [(p, a.qs.length)]).map (·.1) ++ a.brk.map (·.1) ↔ _
    unfold seen
    rw [List.map_append]
    simp only [List.mem_append, List.map_cons, List.map_nil, List.mem_singleton]
    constructor
    · rintro ((h | h) | h)
      · exact .inl (.inl h)
      · exact .inr h
      · exact .inl (.inr h)
    · rintro ((h | h) | h)
      · exact .inl (.inl h)
      · exact .inr h
      · exact .inl (.inr h)
  refine ⟨?_, r1⟩
  have e : many (a.nm ++ [[]]) = many a.nm := by unfold many; simp
  show wt (a.begin p) + 260 * rem ps (a.begin p) + 256 ≤ _
  unfold lot wt
  show (a.log ++ [_]).length + (a.pap ++ [_]).length + (a.qs ++ [_]).length + many (a.nm ++ [[]]) + a.brk.length + a.fat.length + (a.tab ++ [_]).length + _ + _ ≤ _
  rw [List.length_append, List.length_append, List.length_append, List.length_append, List.length_singleton, List.length_singleton, List.length_singleton, List.length_singleton, e]
  omega
/-- relations that small doings keep -/
structure GoodR (R : Ab → Ab → Prop) : Prop where
  refl : ∀ a, R a a
  tr : ∀ a b c, R a b → R b c → R a c
  bind : ∀ (a : Ab) k z t, R a (a.bind k z t)
  put : ∀ (a : Ab) e, R a (a.put e)
  up : ∀ a : Ab, R a a.up
structure WayOk (ps : List Str) (w : Way) : Prop where
  gen : ∀ (R : Ab → Ab → Prop), GoodR R → ∀ on : Ab → Str → Rs Nat, (∀ a p, R a (on a p).1) → (∀ a p, R a (w.tk on a p).1) ∧ (∀ a k z, R a (w.dr on a k z).1) ∧ ∀ a k, R a (w.wh a k)
  tk : ∀ (on : Ab → Str → Rs Nat), (∀ a p, Gr ps 1 a (on a p).1) → ∀ a p, Gr ps 4 a (w.tk on a p).1
  dr : ∀ (on : Ab → Str → Rs Nat), (∀ a p, Gr ps 1 a (on a p).1) → ∀ a k z, Gr ps 1 a (w.dr on a k z).1
  wh : ∀ a k, Gr ps 1 a (w.wh a k)
variable {w : Way} {on : Ab → Str → Rs Nat}
theorem gr_flat (W : WayOk ps w) (h : ∀ a p, Gr ps 1 a (on a p).1) (r : Row) (a : Ab) : Gr ps 6 a (flatRow w on r a).1 := by
  cases r with
  | set x n => exact (gr_bind _ _ _).mono (by decide)
  | now x q => exact (gr_got _ _ _).mono (by decide)
  | take x p =>
    have g := W.tk on h a p
    rcases e : w.tk on a p with ⟨b, m | m⟩ <;> rw [e] at g <;> simp only [flatRow, e]
    · exact Gr.mono (d := 6) g (by decide)
    · exact Gr.mono (d := 6) (g.tr (gr_bind _ _ _)) (by decide)
  | draw x p z =>
    have g := W.tk on h a p
    rcases e : w.tk on a p with ⟨b, m | m⟩ <;> rw [e] at g <;> simp only [flatRow, e]
    · exact Gr.mono (d := 6) g (by decide)
    · have g2 := W.dr on h b m z
      rcases e2 : w.dr on b m z with ⟨c, t | t⟩ <;> rw [e2] at g2 <;> simp only []
      · exact Gr.mono (d := 6) (g.tr g2) (by decide)
      · exact Gr.mono (d := 6) ((g.tr g2).tr (gr_bind _ _ _)) (by decide)
  | late x q => exact (gr_bind _ _ _).mono (by decide)
  | ask x q => exact (gr_got _ _ _).mono (by decide)
  | note p => exact (gr_put _).mono (by decide)
  | fail z => exact gr_up.mono (by decide)
  | tr xs ws ys => exact Gr.refl.mono (by decide)
theorem gr_seq {f : Row → Ab → Rs Unit} {c : Row → Nat} (h : ∀ r a, Gr ps (6 * c r) a (f r a).1) : ∀ (rs : List Row) (a : Ab), Gr ps (6 * (rs.map c).sum) a (seqF f rs a).1
  | [], a => Gr.refl
  | r :: rs, a => by
    have g := h r a
    unfold seqF
    generalize f r a = y at g ⊢
    obtain ⟨b, m | m⟩ := y
    · exact g.mono (by rw [List.map_cons, List.sum_cons]; omega)
    · exact (g.tr (gr_seq h rs b)).mono (by rw [List.map_cons, List.sum_cons]; omega)
theorem gr_body {f : Row → Ab → Rs Unit} {c : Row → Nat} (h : ∀ r a, Gr ps (6 * c r) a (f r a).1) : ∀ (rs : List Row) (i : Nat) (a : Ab), Gr ps (6 * (rs.map c).sum) a (bodyF f i rs a).1
  | [], i, a => Gr.refl
  | r :: rs, i, a => by
    have g := (gr_row (ps := ps) (a := a) i).tr (h r (a.row i))
    unfold bodyF
    generalize f r (a.row i) = y at g ⊢
    obtain ⟨b, m | m⟩ := y
    · exact g.mono (by rw [List.map_cons, List.sum_cons]; omega)
    · exact (g.tr (gr_body h rs (i + 1) b)).mono (by rw [List.map_cons, List.sum_cons]; omega)
theorem cnt_pos (d : Nat) (r : Row) : 1 ≤ cntR d r := by
  cases d with
  | zero => cases r <;> exact Nat.le_refl _
  | succ d => cases r <;> first | exact Nat.le_refl _ | (unfold cntR; omega)
theorem gr_rowF (W : WayOk ps w) (h : ∀ a p, Gr ps 1 a (on a p).1) : ∀ (d : Nat) (r : Row) (a : Ab), Gr ps (6 * cntR d r) a (rowF w on d r a).1 := by
  intro d
  induction d with
  | zero =>
    intro r a
    have := cnt_pos 0 r
    have e : rowF w on 0 r a = flatRow w on r a := by cases r <;> rfl
    rw [e]
    exact (gr_flat W h r a).mono (by omega)
  | succ d ih =>
    intro r a
    have := cnt_pos (d + 1) r
    by_cases c : ∃ xs ws ys, r = .tr xs ws ys
    · obtain ⟨xs, ws, ys, rfl⟩ := c
      have g := gr_seq ih xs a
      unfold rowF cntR
      generalize seqF (rowF w on d) xs a = y at g ⊢
      obtain ⟨b, m | m⟩ := y
      · dsimp only
        split
        · exact ((g.tr (gr_put _)).tr (gr_seq ih ys _)).mono (by omega)
        · exact g.mono (by omega)
      · exact g.mono (by omega)
    · have e : rowF w on (d + 1) r a = flatRow w on r a := by
        cases r <;> first | rfl | exact absurd ⟨_, _, _, rfl⟩ c
      rw [e]
      exact (gr_flat W h r a).mono (by omega)
structure Bodies (ps : List Str) (fnd : Str → Option (List Row)) : Prop where
  mem : ∀ p b, fnd p = some b → p ∈ ps
  cnt : ∀ p b, fnd p = some b → cntsR 3 b ≤ 40
theorem gr_one {fnd : Str → Option (List Row)} (W : WayOk ps w) (B : Bodies ps fnd) : ∀ (n : Nat) (a : Ab) (p : Str), Gr ps 1 a (oneF w fnd n a p).1 := by
  intro n
  induction n with
  | zero => exact fun a p => Gr.refl.mono (by decide)
  | succ n ih =>
    intro a p
    unfold oneF
    cases h1 : getA a.tab p with
    | some k => exact gr_put _
    | none =>
      cases h2 : getA a.brk p with
      | some x => exact ((gr_put _).tr gr_up).mono (by decide)
      | none =>
        cases h3 : fnd p with
        | none => exact gr_up.mono (by decide)
        | some body =>
          obtain ⟨l1, l2⟩ := gr_begin (B.mem p body h3) h1 h2
          have g := gr_body (gr_rowF (w := w) (on := oneF w fnd n) W ih 3) body 0 (a.begin p)
          have c := B.cnt p body h3
          have c : (body.map (cntR 3)).sum ≤ 40 := c
          dsimp only
          unfold beginF
          generalize bodyF (rowF w (oneF w fnd n) 3) 0 body (a.begin p) = y at g ⊢
          obtain ⟨more, em⟩ := g.qs
          obtain ⟨b, m | m⟩ := y
          · have g2 := gr_broke (ps := ps) (a := b) a.qs.length p m
            obtain ⟨m2, e2⟩ := g2.qs
            refine ⟨?_, ?_, p :: more ++ m2, ?_⟩
            · have := g.lot; have := g2.lot; dsimp only at *; omega
            · have := g.rem; have := g2.rem; dsimp only at *; omega
            · show (b.broke _ p m).qs = _
              rw [e2]
              show b.qs ++ m2 = _
              rw [em]
              simp [Ab.begin]
          · have g2 := (gr_fin (ps := ps) (a := b) a.qs.length).tr (W.wh (b.fin a.qs.length) a.qs.length)
            obtain ⟨m2, e2⟩ := g2.qs
            refine ⟨?_, ?_, p :: more ++ m2, ?_⟩
            · have := g.lot; have := g2.lot; dsimp only at *; omega
            · have := g.rem; have := g2.rem; dsimp only at *; omega
            · show (w.wh (b.fin _) _).qs = _
              rw [e2]
              show b.qs ++ m2 = _
              rw [em]
              simp [Ab.begin]
end
/-- a house's way where paths have one name each -/
def wayR : Way := ⟨fun on a p => on a p, fun _ a k z => match a.follow a.line k z with | .ok t => (a, .ok t) | .error f => (a.up, .error f), fun a _ => a⟩
theorem wayR_ok (ps : List Str) : WayOk ps wayR := by
  refine ⟨fun R g on h => ⟨h, fun a k z => ?_, fun a _ => g.refl a⟩, fun on h a p => (h a p).mono (by decide), fun on _ a k z => ?_, fun a k => Gr.refl.mono (by decide)⟩
  · unfold wayR
    dsimp only
    split
    · exact g.refl a
    · exact g.up a
  · unfold wayR
    dsimp only
    split
    · exact Gr.refl.mono (by decide)
    · exact gr_up.mono (by decide)
/-! what the rows leave as it is -/
section
variable {ps : List Str} {w : Way} {on : Ab → Str → Rs Nat} {R : Ab → Ab → Prop}
theorem good_flat (W : WayOk ps w) (g : GoodR R) (h : ∀ a p, R a (on a p).1) (r : Row) (a : Ab) : R a (flatRow w on r a).1 := by
  obtain ⟨h1, h2, _⟩ := W.gen R g on h
  have got : ∀ (k : Nat) (x : Str) (t : Except PyData Th), R a (a.got k x t).1 := fun k x t => by
    cases t with
    | ok t => exact g.bind _ _ _ _
    | error f => exact g.up _
  cases r with
  | set x n => exact g.bind _ _ _ _
  | now x q => exact got _ _ _
  | take x p =>
    have e1 := h1 a p
    rcases e : w.tk on a p with ⟨b, m | m⟩ <;> rw [e] at e1 <;> simp only [flatRow, e]
    · exact e1
    · exact g.tr _ _ _ e1 (g.bind _ _ _ _)
  | draw x p z =>
    have e1 := h1 a p
    rcases e : w.tk on a p with ⟨b, m | m⟩ <;> rw [e] at e1 <;> simp only [flatRow, e]
    · exact e1
    · have e2 := h2 b m z
      rcases f : w.dr on b m z with ⟨c, t | t⟩ <;> rw [f] at e2 <;> simp only []
      · exact g.tr _ _ _ e1 e2
      · exact g.tr _ _ _ (g.tr _ _ _ e1 e2) (g.bind _ _ _ _)
  | late x q => exact g.bind _ _ _ _
  | ask x q => exact got _ _ _
  | note p => exact g.put _ _
  | fail z => exact g.up _
  | tr xs ws ys => exact g.refl _
theorem good_seq (g : GoodR R) {f : Row → Ab → Rs Unit} (h : ∀ r a, R a (f r a).1) : ∀ (rs : List Row) (a : Ab), R a (seqF f rs a).1
  | [], a => g.refl a
  | r :: rs, a => by
    have e := h r a
    unfold seqF
    generalize f r a = y at e ⊢
    obtain ⟨b, m | m⟩ := y
    · exact e
    · exact g.tr _ _ _ e (good_seq g h rs b)
theorem good_body (g : GoodR R) (hr : ∀ a i, R a (a.row i)) {f : Row → Ab → Rs Unit} (h : ∀ r a, R a (f r a).1) : ∀ (rs : List Row) (i : Nat) (a : Ab), R a (bodyF f i rs a).1
  | [], i, a => g.refl a
  | r :: rs, i, a => by
    have e := g.tr _ _ _ (hr a i) (h r (a.row i))
    unfold bodyF
    generalize f r (a.row i) = y at e ⊢
    obtain ⟨b, m | m⟩ := y
    · exact e
    · exact g.tr _ _ _ e (good_body g hr h rs (i + 1) b)
theorem good_rowF (W : WayOk ps w) (g : GoodR R) (h : ∀ a p, R a (on a p).1) : ∀ (d : Nat) (r : Row) (a : Ab), R a (rowF w on d r a).1 := by
  intro d
  induction d with
  | zero =>
    intro r a
    have e : rowF w on 0 r a = flatRow w on r a := by cases r <;> rfl
    rw [e]
    exact good_flat W g h r a
  | succ d ih =>
    intro r a
    by_cases c : ∃ xs ws ys, r = .tr xs ws ys
    · obtain ⟨xs, ws, ys, rfl⟩ := c
      have e := good_seq g ih xs a
      unfold rowF
      generalize seqF (rowF w on d) xs a = y at e ⊢
      obtain ⟨b, m | m⟩ := y
      · dsimp only
        split
        · exact g.tr _ _ _ (g.tr _ _ _ e (g.put _ _)) (good_seq g ih ys _)
        · exact e
      · exact e
    · have e : rowF w on (d + 1) r a = flatRow w on r a := by
        cases r <;> first | rfl | exact absurd ⟨_, _, _, rfl⟩ c
      rw [e]
      exact good_flat W g h r a
/-! the line -/
theorem setR_last (pre : List (Nat × Nat)) (x : Nat × Nat) (r : Nat) : setR (pre ++ [x]) r = pre ++ [(x.1, r)] := by
  unfold setR
  rw [List.dropLast_concat, List.getLast?_concat]
  rfl
theorem line_good : GoodR fun a b => b.line = a.line := ⟨fun _ => rfl, fun _ _ _ h g => g.trans h, fun _ _ _ _ => rfl, fun _ _ => rfl, fun _ => rfl⟩
theorem line_body {f : Row → Ab → Rs Unit} (h : ∀ r a, (f r a).1.line = a.line) : ∀ (rs : List Row) (i : Nat) (a : Ab) (pre : List (Nat × Nat)) (x : Nat × Nat), a.line = pre ++ [x] → ∃ r, (bodyF f i rs a).1.line = pre ++ [(x.1, r)]
  | [], i, a, pre, x, e => ⟨x.2, e⟩
  | r :: rs, i, a, pre, x, e => by
    have e1 : (f r (a.row i)).1.line = pre ++ [(x.1, i)] := (h r (a.row i)).trans (by show setR a.line i = _; rw [e, setR_last])
    unfold bodyF
    generalize f r (a.row i) = y at e1 ⊢
    obtain ⟨b, m | m⟩ := y
    · exact ⟨i, e1⟩
    · exact line_body h rs (i + 1) b pre (x.1, i) e1
theorem line_one {fnd : Str → Option (List Row)} (W : WayOk ps w) : ∀ (n : Nat) (a : Ab) (p : Str), (oneF w fnd n a p).1.line = a.line := by
  intro n
  induction n with
  | zero => exact fun a p => rfl
  | succ n ih =>
    intro a p
    unfold oneF
    cases h1 : getA a.tab p with
    | some k => rfl
    | none =>
      cases h2 : getA a.brk p with
      | some x => rfl
      | none =>
        cases h3 : fnd p with
        | none => rfl
        | some body =>
          dsimp only
          obtain ⟨r, e⟩ := line_body (f := rowF w (oneF w fnd n) 3) (good_rowF W line_good ih 3) body 0 (a.begin p) a.line (a.qs.length, 0) rfl
          unfold beginF
          generalize bodyF (rowF w (oneF w fnd n) 3) 0 body (a.begin p) = y at e ⊢
          obtain ⟨b, m | m⟩ := y
          · show b.line.dropLast = a.line
            rw [e, List.dropLast_concat]
          · have e2 : (w.wh (b.fin a.qs.length) a.qs.length).line = (b.fin a.qs.length).line := (W.gen _ line_good (fun a p => (a, .error .none)) fun a p => rfl).2.2 _ _
            show (w.wh (b.fin a.qs.length) a.qs.length).line = a.line
            rw [e2]
            show b.line.dropLast = a.line
            rw [e, List.dropLast_concat]
/-! what stands keeps standing -/
structure Kt (a b : Ab) : Prop where
  tab : ∀ p k, getA a.tab p = some k → getA b.tab p = some k
  brk : ∀ p k, getA a.tab p = some k → getA a.brk p = none → getA b.brk p = none
  fat : ∀ k, k < a.qs.length → k ∉ a.fat → k ∉ b.fat
  qs : a.qs.length ≤ b.qs.length
theorem kt_good : GoodR Kt := ⟨fun _ => ⟨fun _ _ h => h, fun _ _ _ h => h, fun _ _ h => h, Nat.le_refl _⟩,
  fun a b c x y => ⟨fun p k h => y.tab p k (x.tab p k h), fun p k h n => y.brk p k (x.tab p k h) (x.brk p k h n), fun k l n => y.fat k (Nat.lt_of_lt_of_le l x.qs) (x.fat k l n), Nat.le_trans x.qs y.qs⟩,
  fun _ _ _ _ => ⟨fun _ _ h => h, fun _ _ _ h => h, fun _ _ h => h, Nat.le_refl _⟩, fun _ _ => ⟨fun _ _ h => h, fun _ _ _ h => h, fun _ _ h => h, Nat.le_refl _⟩, fun _ => ⟨fun _ _ h => h, fun _ _ _ h => h, fun _ _ h => h, Nat.le_refl _⟩⟩
theorem kt_row (a : Ab) (i : Nat) : Kt a (a.row i) := ⟨fun _ _ h => h, fun _ _ _ h => h, fun _ _ h => h, Nat.le_refl _⟩
theorem getA_app {α : Type} {xs : List (Str × α)} {q p : Str} {t : α} : getA (xs ++ [(q, t)]) p = (getA xs p).or (if q = p then some t else none) := by
  induction xs with
  | nil =>
    rw [List.nil_append, getA_cons]
    by_cases c : q = p
    · rw [if_pos c, if_pos c]; rfl
    · rw [if_neg c, if_neg c]; rfl
  | cons x r ih =>
    rw [List.cons_append, getA_cons, getA_cons, ih]
    by_cases c : x.1 = p
    · rw [if_pos c, if_pos c]; rfl
    · rw [if_neg c, if_neg c]
theorem getA_del {α : Type} {xs : List (Str × α)} {q p : Str} : getA (delA xs q) p = if p = q then none else getA xs p := by
  induction xs with
  | nil =>
    show none = _
    split <;> rfl
  | cons x r ih =>
    unfold delA at ih ⊢
    rw [List.filter_cons]
    by_cases c : x.1 = q
    · rw [if_neg (by simp [c]), ih, getA_cons]
      by_cases e : p = q
      · rw [if_pos e, if_pos e]
      · rw [if_neg e, if_neg e, if_neg fun z => e (z.symm.trans c)]
    · rw [if_pos (by simp [c]), getA_cons, getA_cons, ih]
      by_cases e : x.1 = p
      · rw [if_pos e, if_pos e, if_neg fun z => c (e.trans z)]
      · rw [if_neg e, if_neg e]
theorem kt_begin {a b : Ab} {p : Str} (x : Kt (a.begin p) b) : Kt a b := by
  refine ⟨fun q k h => x.tab q k ?_, fun q k h n => x.brk q k ?_ n, fun k l n => x.fat k ?_ n, Nat.le_trans ?_ x.qs⟩
  · show getA (a.tab ++ [(p, a.qs.length)]) q = some k
    rw [getA_app, h]; rfl
  · show getA (a.tab ++ [(p, a.qs.length)]) q = some k
    rw [getA_app, h]; rfl
  · show k < (a.qs ++ [p]).length
    rw [List.length_append]; omega
  · show _ ≤ (a.qs ++ [p]).length
    rw [List.length_append]; omega
theorem begin_tab {a : Ab} {p : Str} (h : getA a.tab p = none) : getA (a.begin p).tab p = some a.qs.length := by
  show getA (a.tab ++ [(p, a.qs.length)]) p = _
  rw [getA_app, h, if_pos rfl]; rfl
theorem kt_one {fnd : Str → Option (List Row)} (W : WayOk ps w) : ∀ (n : Nat) (a : Ab) (p : Str), Kt a (oneF w fnd n a p).1 := by
  intro n
  induction n with
  | zero => exact fun a p => kt_good.refl a
  | succ n ih =>
    intro a p
    unfold oneF
    cases h1 : getA a.tab p with
    | some k => exact kt_good.put _ _
    | none =>
      cases h2 : getA a.brk p with
      | some x => exact kt_good.tr _ _ _ (kt_good.put _ _) (kt_good.up _)
      | none =>
        cases h3 : fnd p with
        | none => exact kt_good.up _
        | some body =>
          dsimp only
          have e := good_body (f := rowF w (oneF w fnd n) 3) kt_good kt_row (good_rowF W kt_good ih 3) body 0 (a.begin p)
          unfold beginF
          generalize bodyF (rowF w (oneF w fnd n) 3) 0 body (a.begin p) = y at e ⊢
          obtain ⟨b, m | m⟩ := y
          · have k1 := kt_begin e
            refine ⟨fun q k h => ?_, fun q k h nb => ?_, fun k l nf => ?_, k1.qs⟩
            · show getA (delA b.tab p) q = some k
              have : q ≠ p := fun z => by rw [z, h1] at h; cases h
              rw [getA_del, if_neg this]
              exact k1.tab q k h
            · show getA (b.brk ++ [(p, (a.qs.length, m))]) q = none
              have : p ≠ q := fun z => by rw [← z, h1] at h; cases h
              rw [getA_app, k1.brk q k h nb, if_neg this]; rfl
            · show k ∉ b.fat ++ [a.qs.length]
              intro hm
              rcases List.mem_append.mp hm with hm | hm
              · exact k1.fat k l nf hm
              · have := List.mem_singleton.mp hm; omega
          · have e2 : Kt (b.fin a.qs.length) (w.wh (b.fin a.qs.length) a.qs.length) := (W.gen _ kt_good (fun a p => (a, .error .none)) fun a p => kt_good.refl a).2.2 _ _
            have e3 : Kt b (b.fin a.qs.length) := ⟨fun _ _ h => h, fun _ _ _ h => h, fun _ _ h => h, Nat.le_refl _⟩
            exact kt_begin (kt_good.tr _ _ _ (kt_good.tr _ _ _ e e3) e2)
end
end PH

/-! FPc: houses without faults, walked with a list of what is under way. -/
namespace PH
open PySem PySem.Spec PyProof.Rows L2 HL TL
structure MSt where
  a : Ab
  l : List (Nat × Nat)
def nameOf : Row → Str
  | .set x _ => x
  | .take x _ => x
  | _ => ""
/-- a row that can not fail -/
def Mild (fnd : Str → Option (List Row)) : Row → Prop
  | .set _ _ => True
  | .note _ => True
  | .take _ p => ∃ b, fnd p = some b
  | _ => False
def bdOf (fnd : Str → Option (List Row)) (p : Str) : List Row := (fnd p).getD []
noncomputable def rowM (r : Row) (k : Nat) (a : Ab) (l : List (Nat × Nat)) : MSt := match r with
  | .note p => ⟨a.put (noteE k (a.noted p)), l⟩
  | .set x n => ⟨a.bind k x (.num n), l⟩
  | .take x p => match getA a.tab p with
    | some m => ⟨(a.put (haveE m)).bind k x (.mod m), l⟩
    | none => ⟨a.begin p, l ++ [(a.qs.length, 0)]⟩
  | _ => ⟨a, l⟩
noncomputable def endM (bd : Str → List Row) (k : Nat) (a : Ab) (l : List (Nat × Nat)) : MSt := match l.getLast? with
  | none => ⟨a.fin k, l⟩
  | some x => ⟨(a.fin k).bind x.1 (nameOf ((bd (a.path x.1)).getD (x.2 - 1) (.note ""))) (.mod k), l⟩
noncomputable def stepM (bd : Str → List Row) (s : MSt) : MSt := match s.l.getLast? with
  | none => s
  | some x => if x.2 = (bd (s.a.path x.1)).length then endM bd x.1 s.a s.l.dropLast
    else rowM ((bd (s.a.path x.1)).getD x.2 (.note "")) x.1 (s.a.row x.2) (s.l.dropLast ++ [(x.1, x.2 + 1)])
inductive Go (bd : Str → List Row) : Nat → MSt → MSt → Prop
  | nil {s : MSt} : Go bd 0 s s
  | cons {n : Nat} {s t : MSt} : s.l ≠ [] → Go bd n (stepM bd s) t → Go bd (n + 1) s t
section
variable {bd : Str → List Row} {s t u : MSt} {m n : Nat}
theorem Go.tr (h : Go bd m s t) (g : Go bd n t u) : Go bd (m + n) s u := by
  induction h with
  | nil => rw [Nat.zero_add]; exact g
  | cons a b ih => rw [Nat.succ_add]; exact .cons a (ih g)
theorem Go.next (h : Go bd n s t) (ne : s.l ≠ []) (e : t.l = []) : ∃ m, m < n ∧ Go bd m (stepM bd s) t := by
  cases h with
  | nil => exact absurd e ne
  | cons _ b => exact ⟨_, Nat.lt_succ_self _, b⟩
theorem step_row {a : Ab} {l : List (Nat × Nat)} {k i : Nat} (h : i < (bd (a.path k)).length) : stepM bd ⟨a, l ++ [(k, i)]⟩ = rowM ((bd (a.path k)).getD i (.note "")) k (a.row i) (l ++ [(k, i + 1)]) := by
  unfold stepM
  dsimp only
  rw [List.getLast?_concat]
  dsimp only
  rw [if_neg (by omega), List.dropLast_concat]
theorem step_end {a : Ab} {l : List (Nat × Nat)} {k i : Nat} (h : i = (bd (a.path k)).length) : stepM bd ⟨a, l ++ [(k, i)]⟩ = endM bd k a l := by
  unfold stepM
  dsimp only
  rw [List.getLast?_concat]
  dsimp only
  rw [if_pos h, List.dropLast_concat]
end
theorem path_more {a b : Ab} {k : Nat} (h : ∃ more, b.qs = a.qs ++ more) (l : k < a.qs.length) : b.path k = a.path k := by
  obtain ⟨more, e⟩ := h
  show b.qs.getD k "" = a.qs.getD k ""
  rw [e, List.getD_eq_getElem?_getD, List.getElem?_append_left l, List.getD_eq_getElem?_getD]
section
variable {ps : List Str} {fnd : Str → Option (List Row)}
theorem row_top {a : Ab} {pl : List (Nat × Nat)} {k r i : Nat} (e : a.line = pl ++ [(k, r)]) : (a.row i).line = pl ++ [(k, i)] ∧ (a.row i).top.1 = k := by
  have h : (a.row i).line = pl ++ [(k, i)] := by show setR a.line i = _; rw [e, setR_last]
  refine ⟨h, ?_⟩
  unfold Ab.top
  rw [h, List.getLast?_concat]
  rfl
/-- what is claimed of one that is not begun yet -/
def OneOk (ps : List Str) (fnd : Str → Option (List Row)) (n : Nat) : Prop := ∀ (a : Ab) (p : Str), getA a.tab p = none → a.brk = [] → rem ps a < n → (∃ b, fnd p = some b) →
  ∃ c, oneF wayR fnd n a p = (c.fin a.qs.length, .ok a.qs.length) ∧ c.brk = [] ∧ (∃ more, c.qs = a.qs ++ p :: more) ∧ ∀ l, ∃ N, Go (bdOf fnd) N ⟨a.begin p, l ++ [(a.qs.length, 0)]⟩ ⟨c, l ++ [(a.qs.length, (bdOf fnd p).length)]⟩
theorem body_go (B : Bodies ps fnd) (ml : ∀ p b, fnd p = some b → ∀ r ∈ b, Mild fnd r) {n : Nat} (one : OneOk ps fnd n) {q : Str} {b : List Row} (eq : fnd q = some b) : ∀ (rs : List Row) (i : Nat) (a : Ab) (pl : List (Nat × Nat)) (k r0 : Nat), b.drop i = rs → i + rs.length = b.length → a.line = pl ++ [(k, r0)] → k < a.qs.length → a.path k = q → a.brk = [] → rem ps a < n →
    ∃ c, bodyF (rowF wayR (oneF wayR fnd n) 3) i rs a = (c, .ok ()) ∧ c.brk = [] ∧ (∃ more, c.qs = a.qs ++ more) ∧ ∀ l, ∃ N, Go (bdOf fnd) N ⟨a, l ++ [(k, i)]⟩ ⟨c, l ++ [(k, b.length)]⟩
  | [], i, a, pl, k, r0, ed, el, ea, lk, ep, eb, rm => ⟨a, rfl, eb, ⟨[], by simp⟩, fun l => ⟨0, by rw [show i = b.length from el]; exact .nil⟩⟩
  | r :: rs, i, a, pl, k, r0, ed, el, ea, lk, ep, eb, rm => by
    have W := wayR_ok ps
    have hi : i < b.length := by rw [List.length_cons] at el; omega
    have er : b[i] = r ∧ b.drop (i + 1) = rs := by
      rw [List.drop_eq_getElem_cons hi] at ed
      injection ed with e1 e2
      exact ⟨e1, e2⟩
    have mr : Mild fnd r := ml q b eq r (er.1 ▸ List.getElem_mem hi)
    have ebd : bdOf fnd q = b := by unfold bdOf; rw [eq]; rfl
    obtain ⟨rl, rt⟩ := row_top (i := i) ea
    have gd : (bdOf fnd (a.path k)).getD i (.note "") = r := by rw [ep, ebd, List.getD_eq_getElem?_getD, List.getElem?_eq_getElem hi]; exact er.1
    have st : ∀ l, stepM (bdOf fnd) ⟨a, l ++ [(k, i)]⟩ = rowM r k (a.row i) (l ++ [(k, i + 1)]) := fun l => by rw [step_row (by rw [ep, ebd]; exact hi), gd]
    -- a row that is done at once
    have fin1 : ∀ (c : Ab), rowF wayR (oneF wayR fnd n) 3 r (a.row i) = (c, .ok ()) → c.brk = [] → (∃ r1, c.line = pl ++ [(k, r1)]) → (∃ more, c.qs = a.qs ++ more) → rem ps c ≤ rem ps a → (∀ l, ∃ N, Go (bdOf fnd) N ⟨a, l ++ [(k, i)]⟩ ⟨c, l ++ [(k, i + 1)]⟩) →
        ∃ c', bodyF (rowF wayR (oneF wayR fnd n) 3) i (r :: rs) a = (c', .ok ()) ∧ c'.brk = [] ∧ (∃ more, c'.qs = a.qs ++ more) ∧ ∀ l, ∃ N, Go (bdOf fnd) N ⟨a, l ++ [(k, i)]⟩ ⟨c', l ++ [(k, b.length)]⟩ := fun c e1 e2 ⟨r1, e3⟩ e4 e5 e6 => by
      have lk2 : k < c.qs.length := by obtain ⟨more, e⟩ := e4; rw [e, List.length_append]; omega
      obtain ⟨c', f1, f2, f3, f4⟩ := body_go B ml one eq rs (i + 1) c pl k r1 er.2 (by rw [List.length_cons] at el; omega) e3 lk2 (by rw [path_more e4 lk, ep]) e2 (by omega)
      refine ⟨c', ?_, f2, ?_, fun l => ?_⟩
      · show (match rowF wayR (oneF wayR fnd n) 3 r (a.row i) with | (b, .ok _) => bodyF (rowF wayR (oneF wayR fnd n) 3) (i + 1) rs b | (b, .error e) => (b, .error e)) = _
        rw [e1]
        exact f1
      · obtain ⟨m1, e⟩ := e4
        obtain ⟨m2, f⟩ := f3
        exact ⟨m1 ++ m2, by rw [f, e, List.append_assoc]⟩
      · obtain ⟨N1, g1⟩ := e6 l
        obtain ⟨N2, g2⟩ := f4 l
        exact ⟨N1 + N2, g1.tr g2⟩
    have go1 : ∀ (c : Ab), (∀ l, rowM r k (a.row i) l = ⟨c, l⟩) → ∀ l, ∃ N, Go (bdOf fnd) N ⟨a, l ++ [(k, i)]⟩ ⟨c, l ++ [(k, i + 1)]⟩ := fun c e l => ⟨1, .cons (by simp) (by rw [st, e]; exact .nil)⟩
    cases r with
    | set x z =>
      refine fin1 ((a.row i).bind k x (.num z)) ?_ eb ⟨i, rl⟩ ⟨[], by simp [Ab.row, Ab.bind]⟩ (Nat.le_refl _) (go1 _ fun l => rfl)
      show (((a.row i).bind (a.row i).top.1 x (.num z), Except.ok ()) : Rs Unit) = _
      rw [rt]
    | note p =>
      refine fin1 ((a.row i).put (noteE k ((a.row i).noted p))) ?_ eb ⟨i, rl⟩ ⟨[], by simp [Ab.row, Ab.put]⟩ (Nat.le_refl _) (go1 _ fun l => rfl)
      show (((a.row i).put (noteE (a.row i).top.1 ((a.row i).noted p)), Except.ok ()) : Rs Unit) = _
      rw [rt]
    | take x p =>
      obtain ⟨n', rfl⟩ : ∃ n', n = n' + 1 := ⟨n - 1, by omega⟩
      cases g : getA a.tab p with
      | some m =>
        have e1 : oneF wayR fnd (n' + 1) (a.row i) p = ((a.row i).put (haveE m), .ok m) := by
          unfold oneF
          rw [show getA (a.row i).tab p = some m from g]
        refine fin1 (((a.row i).put (haveE m)).bind k x (.mod m)) ?_ eb ⟨i, rl⟩ ⟨[], by simp [Ab.row, Ab.put, Ab.bind]⟩ (Nat.le_refl _) (go1 _ fun l => ?_)
        · show (match oneF wayR fnd (n' + 1) (a.row i) p with | (b, .ok m) => ((b.bind (a.row i).top.1 x (.mod m), Except.ok ()) : Rs Unit) | (b, .error f) => (b, Except.error f)) = _
          rw [e1, rt]
        · show (match getA (a.row i).tab p with | some m => MSt.mk (((a.row i).put (haveE m)).bind k x (.mod m)) l | none => ⟨(a.row i).begin p, l ++ [((a.row i).qs.length, 0)]⟩) = _
          rw [show getA (a.row i).tab p = some m from g]
      | none =>
        have g' : getA (a.row i).tab p = none := g
        obtain ⟨c, e1, e2, ⟨more, e3⟩, e4⟩ := one (a.row i) p g' eb rm mr
        have gr := gr_one (fnd := fnd) W B (n' + 1) (a.row i) p
        have ln := line_one (fnd := fnd) W (n' + 1) (a.row i) p
        rw [e1] at gr ln
        have lnc : (c.fin (a.row i).qs.length).line = pl ++ [(k, i)] := ln.trans rl
        refine fin1 ((c.fin a.qs.length).bind k x (.mod a.qs.length)) ?_ e2 ⟨i, lnc⟩ ⟨p :: more, e3⟩ gr.rem fun l => ?_
        · show (match oneF wayR fnd (n' + 1) (a.row i) p with | (b, .ok m) => ((b.bind (a.row i).top.1 x (.mod m), Except.ok ()) : Rs Unit) | (b, .error f) => (b, Except.error f)) = _
          rw [e1, rt]
          rfl
        · obtain ⟨N, g1⟩ := e4 (l ++ [(k, i + 1)])
          have s1 : rowM (.take x p) k (a.row i) (l ++ [(k, i + 1)]) = ⟨(a.row i).begin p, l ++ [(k, i + 1)] ++ [((a.row i).qs.length, 0)]⟩ := by
            show (match getA (a.row i).tab p with | some m => MSt.mk (((a.row i).put (haveE m)).bind k x (.mod m)) _ | none => ⟨(a.row i).begin p, _⟩) = _
            rw [g']
          have pc : c.path (a.row i).qs.length = p := by
            show c.qs.getD a.qs.length "" = p
            rw [show c.qs = a.qs ++ p :: more from e3, List.getD_eq_getElem?_getD, List.getElem?_append_right (Nat.le_refl _), Nat.sub_self]
            rfl
          have pk : c.path k = q := (path_more (a := a) ⟨p :: more, e3⟩ lk).trans ep
          have s2 : stepM (bdOf fnd) ⟨c, l ++ [(k, i + 1)] ++ [((a.row i).qs.length, (bdOf fnd p).length)]⟩ = ⟨(c.fin a.qs.length).bind k x (.mod a.qs.length), l ++ [(k, i + 1)]⟩ := by
            rw [step_end (by rw [pc])]
            unfold endM
            rw [List.getLast?_concat]
            dsimp only
            rw [pk, Nat.add_sub_cancel, ← ep, gd]
            rfl
          exact ⟨(1 + N) + 1, ((Go.cons (n := 0) (by simp) (by rw [st, s1]; exact .nil)).tr g1).tr (.cons (by simp) (by rw [s2]; exact .nil))⟩
    | _ => exact mr.elim
theorem one_go (B : Bodies ps fnd) (ml : ∀ p b, fnd p = some b → ∀ r ∈ b, Mild fnd r) : ∀ n, OneOk ps fnd n
  | 0 => fun a p _ _ h => absurd h (Nat.not_lt_zero _)
  | n + 1 => fun a p ht hb hr ⟨b, eb⟩ => by
    have hb' : getA a.brk p = none := by rw [hb]; rfl
    obtain ⟨_, rb⟩ := gr_begin (B.mem p b eb) ht hb'
    have pp : (a.begin p).path a.qs.length = p := by
      show (a.qs ++ [p]).getD a.qs.length "" = p
      rw [List.getD_eq_getElem?_getD, List.getElem?_append_right (Nat.le_refl _), Nat.sub_self]; rfl
    obtain ⟨c, e1, e2, ⟨more, e3⟩, e4⟩ := body_go B ml (one_go B ml n) eb b 0 (a.begin p) a.line a.qs.length 0 rfl (Nat.zero_add _) rfl (by show _ < (a.qs ++ [p]).length; rw [List.length_append]; exact Nat.lt_succ_self _) pp hb (by omega)
    refine ⟨c, ?_, e2, ⟨more, by rw [e3]; show a.qs ++ [p] ++ more = _; rw [List.append_assoc]; rfl⟩, fun l => ?_⟩
    · conv => lhs; unfold oneF
      rw [ht, hb', eb]
      show beginF wayR (oneF wayR fnd n) a p b = _
      unfold beginF
      rw [e1]
      rfl
    · have := e4 l
      rwa [show (bdOf fnd p) = b from by unfold bdOf; rw [eb]; rfl]
end
end PH

/-! FHa: what is owned in the heap. -/
namespace PH
open PySem PySem.Spec PyProof.Rows L2 HL TL
theorem small_le {n : Nat} (h : n ≤ 1000000) : n ≤ sizeLine := Nat.le_trans h (by decide)
theorem small_lt {n : Nat} (h : n ≤ 1000000) : n < sizeLine := Nat.lt_of_le_of_lt h (by decide)
/-! fields of instances -/
theorem look_cons {f g : Str} {v : V} {r : List (Str × V)} (h : decide (f = g) = false) : List.lookup f ((g, v) :: r) = List.lookup f r := by
  have : (f == g) = false := by simpa using h
  simp only [List.lookup, this]
theorem look_hit {f : Str} {v : V} {r : List (Str × V)} : List.lookup f ((f, v) :: r) = some v := by simp [List.lookup]
theorem look_nil {f : Str} : List.lookup f ([] : List (Str × V)) = none := rfl
abbrev modF (n : Int) (p : Str) (d : Addr) : List (Str × V) := [("number", .int n), ("path", .str p), ("things", .ref d)]
theorem modF_put (n : Int) (p : Str) (d : Addr) : putF "things" (.ref d) (putF "path" (.str p) (putF "number" (.int n) [])) = modF n p d := by
  simp only [putF]
  rw [if_neg (by decide +kernel)]
  simp only [putF]
  rw [if_neg (by decide +kernel), if_neg (by decide +kernel)]
theorem lk_num (n : Int) (p : Str) (d : Addr) : (modF n p d).lookup ("number" : Str) = some (.int n) := look_hit
theorem lk_path (n : Int) (p : Str) (d : Addr) : (modF n p d).lookup ("path" : Str) = some (.str p) := (look_cons (by decide +kernel)).trans look_hit
theorem lk_things (n : Int) (p : Str) (d : Addr) : (modF n p d).lookup ("things" : Str) = some (.ref d) := (look_cons (by decide +kernel)).trans ((look_cons (by decide +kernel)).trans look_hit)
theorem lk_meth {m : Str} (n : Int) (p : Str) (d : Addr) (h : decide (m = "number") = false ∧ decide (m = "path") = false ∧ decide (m = "things") = false) : (modF n p d).lookup m = none :=
  (look_cons h.1).trans ((look_cons h.2.1).trans ((look_cons h.2.2).trans look_nil))
abbrev lateF (h : Addr) (r : Str) : List (Str × V) := [("home", .ref h), ("road", .str r)]
theorem lateF_put (h : Addr) (r : Str) : putF "road" (.str r) (putF "home" (.ref h) []) = lateF h r := by
  simp only [putF]
  rw [if_neg (by decide +kernel)]
theorem lk_home (h : Addr) (r : Str) : (lateF h r).lookup ("home" : Str) = some (.ref h) := look_hit
theorem lk_road (h : Addr) (r : Str) : (lateF h r).lookup ("road" : Str) = some (.str r) := (look_cons (by decide +kernel)).trans look_hit
/-- a module stands at m, its dict at d -/
structure ModAt (C : Addr) (H : Hp) (m : Addr) (n : Int) (p : Str) (d : Addr) (kvs : List (Key × V)) : Prop where
  ob : ∃ dx, H m = some (.ins C dx (modF n p d))
  dc : H d = some (.dK kvs)
/-! what stays -/
theorem TupK.same {H H' : Hp} (k : Kp [] H H') : TupK H H' := .of k fun x hx => absurd hx List.not_mem_nil
theorem TupK.tr {A B C : Hp} (h : TupK A B) (g : TupK B C) : TupK A C := fun a xs r => g a xs (h a xs r)
theorem notup_dK {H : Hp} {a : Addr} {kvs : List (Key × V)} (h : H a = some (.dK kvs)) : NoTup H a := fun ys r => by
  rcases r with r | ⟨o, r⟩ <;> rw [h] at r <;> cases r
theorem notup_ins {H : Hp} {a C dx : Addr} {fs : List (Str × V)} (h : H a = some (.ins C dx fs)) : NoTup H a := fun ys r => by
  rcases r with r | ⟨o, r⟩ <;> rw [h] at r <;> cases r
theorem seqT_tups {K : PySem.W.Frag} {H H' : Hp} {a : Addr} {xs : List V} (k : TupK H H') (h : SqT K H a xs) : SqT K H' a xs := h.elim (fun h => .inl (k _ _ h)) .inr
/-- kinds that may change: lists, dicts, houses -/
inductive Soft : HO → Prop
  | lst (xs : List V) : Soft (.lst xs)
  | dK (kvs : List (Key × V)) : Soft (.dK kvs)
  | run {C dx : Addr} {fs : List (Str × V)} (h : fs.lookup ("shelves" : Str) ≠ none) : Soft (.ins C dx fs)
/-- tuples and instances stay, but houses -/
structure Keep (H H' : Hp) : Prop where
  tup : TupK H H'
  ins : ∀ {a C dx : Addr} {fs : List (Str × V)}, fs.lookup ("shelves" : Str) = none → H a = some (.ins C dx fs) → H' a = some (.ins C dx fs)
theorem Keep.tr {A B C : Hp} (h : Keep A B) (g : Keep B C) : Keep A C := ⟨TupK.tr h.tup g.tup, fun n e => g.ins n (h.ins n e)⟩
theorem Keep.of {W : List Addr} {H H' : Hp} (k : Kp W H H') (m : ∀ x ∈ W, ∃ o, H x = some o ∧ Soft o) : Keep H H' := by
  refine ⟨.of k fun x hx => ?_, fun {a C dx fs} n e => k.get (Nin.intro fun x hx z => ?_) e⟩
  · obtain ⟨o, e, s⟩ := m x hx
    cases s with
    | lst xs => exact .lst e
    | dK kvs => exact notup_dK e
    | run _ => exact notup_ins e
  · subst z
    obtain ⟨o, e2, s⟩ := m a hx
    rw [e] at e2
    cases e2
    cases s with
    | run h => exact h n
theorem Keep.same {H H' : Hp} (k : Kp [] H H') : Keep H H' := .of k fun x hx => absurd hx List.not_mem_nil
theorem Keep.new {H : Hp} {y : Addr} {o : HO} (n : H y = none) : Keep H (upd H y o) := .same (Kp.refl.upd_new n)
theorem Keep.one {H : Hp} {y : Addr} {o o' : HO} (e : H y = some o) (s : Soft o) : Keep H (upd H y o') := .of (W := [y]) (Kp.refl.upd_mem List.mem_cons_self) fun x hx => by rw [List.mem_singleton.mp hx]; exact ⟨o, e, s⟩
/-- what is owned, address by address -/
structure Owns (H : Hp) (L : List (Addr × HO)) : Prop where
  at_ : ∀ x ∈ L, H x.1 = some x.2
  nd : (L.map (·.1)).Nodup
abbrev adr (L : List (Addr × HO)) : List Addr := L.map (·.1)
section
variable {H H' : Hp} {L L1 L2 : List (Addr × HO)} {y : Addr} {o o' : HO}
theorem Owns.set (h : Owns H (L1 ++ (y, o) :: L2)) : Owns (upd H y o') (L1 ++ (y, o') :: L2) := by
  have nd := h.nd
  have nd' := nd
  rw [List.map_append, List.map_cons, List.nodup_append] at nd'
  obtain ⟨_, n2, n3⟩ := nd'
  refine ⟨fun x hx => ?_, by rw [List.map_append, List.map_cons] at nd ⊢; exact nd⟩
  rcases List.mem_append.mp hx with hx | hx
  · exact (upd_ne (n3 _ (List.mem_map.mpr ⟨x, hx, rfl⟩) y List.mem_cons_self)).trans (h.at_ x (List.mem_append_left _ hx))
  · rcases List.mem_cons.mp hx with rfl | hx
    · exact upd_same
    · exact (upd_ne fun e => (List.nodup_cons.mp n2).1 (List.mem_map.mpr ⟨x, hx, e⟩)).trans (h.at_ x (List.mem_append_right _ (List.mem_cons_of_mem _ hx)))
theorem Owns.kp (h : Owns H L) {W : List Addr} (k : Kp W H H') (n : ∀ x ∈ adr L, x ∉ W) : Owns H' L :=
  ⟨fun x hx => k.get (Nin.intro fun z hz e => n x.1 (List.mem_map.mpr ⟨x, hx, rfl⟩) (e ▸ hz)) (h.at_ x hx), h.nd⟩
theorem Owns.same (h : Owns H L) (k : Kp [] H H') : Owns H' L := h.kp k fun _ _ => List.not_mem_nil
theorem Owns.has (h : Owns H L) {x : Addr} (hx : x ∈ adr L) : ∃ o, H x = some o := by
  obtain ⟨z, hz, rfl⟩ := List.mem_map.mp hx
  exact ⟨_, h.at_ z hz⟩
theorem Owns.new (h : Owns H L) {x : Addr} (n : H x = none) : x ∉ adr L := fun hx => by
  obtain ⟨o, e⟩ := h.has hx
  rw [n] at e; cases e
/-- one comes in -/
theorem Owns.ins (h : Owns H (L1 ++ L2)) (e : H y = some o) (n : y ∉ adr (L1 ++ L2)) : Owns H (L1 ++ (y, o) :: L2) := by
  refine ⟨fun x hx => ?_, ?_⟩
  · rcases List.mem_append.mp hx with hx | hx
    · exact h.at_ x (List.mem_append_left _ hx)
    · rcases List.mem_cons.mp hx with rfl | hx
      · exact e
      · exact h.at_ x (List.mem_append_right _ hx)
  · have nd := h.nd
    rw [List.map_append] at nd ⊢
    rw [List.map_cons]
    refine (List.perm_middle.nodup_iff).mpr (List.nodup_cons.mpr ⟨fun hm => n ?_, nd⟩)
    rw [adr, List.map_append]
    exact hm
/-- one goes -/
theorem Owns.del (h : Owns H (L1 ++ (y, o) :: L2)) : Owns H (L1 ++ L2) := by
  refine ⟨fun x hx => h.at_ x ((List.mem_append.mp hx).elim (fun z => List.mem_append_left _ z) fun z => List.mem_append_right _ (List.mem_cons_of_mem _ z)), ?_⟩
  have nd := h.nd
  rw [List.map_append] at nd ⊢
  rw [List.map_cons] at nd
  exact (List.nodup_cons.mp ((List.perm_middle.nodup_iff).mp nd)).2
theorem Owns.eq {L' : List (Addr × HO)} (h : Owns H L) (e : L = L') : Owns H L' := e ▸ h
theorem Owns.keep (h : Owns H L) (s : ∀ x ∈ L, Soft x.2) (k : Kp (adr L) H H') : Keep H H' := .of k fun x hx => by
  obtain ⟨z, hz, rfl⟩ := List.mem_map.mp hx
  exact ⟨_, h.at_ z hz, s z hz⟩
theorem kp_upd {W : List Addr} (m : y ∈ W) : Kp W H (upd H y o) := Kp.refl.upd_mem m
theorem kp_new (n : H y = none) : Kp [] H (upd H y o) := Kp.refl.upd_new n
end
/-! dicts of names -/
section
variable {α : Type} {g : α → V} {xs : List (Str × α)} {z : Str} {t : α}
theorem val_map : valV (xs.map fun x => ((Sum.inr x.1 : Key), g x.2)) (.inr z) = (getA xs z).map g := by
  induction xs with
  | nil => rfl
  | cons x r ih =>
    rw [List.map_cons, getA_cons]
    by_cases c : x.1 = z
    · rw [if_pos c]; exact valV_pos (by rw [c])
    · rw [if_neg c, ← ih]; exact valV_neg fun e => c (Sum.inr.inj e)
theorem put_map : putK (xs.map fun x => ((Sum.inr x.1 : Key), g x.2)) (.inr z) (g t) = (putA xs z t).map fun x => ((Sum.inr x.1 : Key), g x.2) := by
  by_cases c : z ∈ xs.map (·.1)
  · unfold putK
    rw [putA_old c, if_pos, List.map_map, List.map_map]
    · refine List.map_congr_left fun x _ => ?_
      by_cases e : x.1 = z
      · subst e; simp
      · have : ¬ (Sum.inr x.1 : Key) = Sum.inr z := fun h => e (Sum.inr.inj h)
        simp [e]
    · rw [List.any_map, ← any_iff.mpr c]
      refine congrArg (List.any xs) (funext fun x => ?_)
      simp
  · rw [putA_new c, L2.putK_new, List.map_append]
    · rfl
    · rw [val_map, getA_none.mpr c]; rfl
theorem drop_map : dropK (xs.map fun x => ((Sum.inr x.1 : Key), g x.2)) (.inr z) = (delA xs z).map fun x => ((Sum.inr x.1 : Key), g x.2) := by
  unfold dropK delA
  rw [List.filter_map]
  refine congrArg _ (congrArg (fun f => List.filter f xs) (funext fun x => ?_))
  simp
variable {R : α → V → Prop} {kvs : List (Key × V)}
abbrev NmR (R : α → V → Prop) : List (Str × α) → List (Key × V) → Prop := Paired fun x y => y.1 = Sum.inr x.1 ∧ R x.2 y.2
theorem NmR.len (h : NmR R xs kvs) : kvs.length = xs.length := (Paired.length h).symm
theorem NmR.keys (h : NmR R xs kvs) : kvs.map (·.1) = (xs.map (·.1)).map Sum.inr := by
  induction h with
  | nil => rfl
  | cons h _ ih => rw [List.map_cons, List.map_cons, List.map_cons, h.1, ih]
theorem NmR.get (h : NmR R xs kvs) (z : Str) : (getA xs z = none ∧ valV kvs (.inr z) = none) ∨ ∃ t v, getA xs z = some t ∧ valV kvs (.inr z) = some v ∧ R t v := by
  induction h with
  | nil => exact .inl ⟨rfl, rfl⟩
  | @cons x y _ _ h _ ih =>
    rw [getA_cons]
    by_cases c : x.1 = z
    · exact .inr ⟨_, _, if_pos c, valV_pos (h.1.trans (by rw [c])), h.2⟩
    · rw [if_neg c, valV_neg fun e => c (Sum.inr.inj (h.1.symm.trans e))]
      exact ih
theorem NmR.mono {R' : α → V → Prop} (h : NmR R xs kvs) (k : ∀ t v, R t v → R' t v) : NmR R' xs kvs := Paired.mapP h fun _ _ e => ⟨e.1, k _ _ e.2⟩
theorem NmR.snoc (h : NmR R xs kvs) {v : V} (r : R t v) : NmR R (xs ++ [(z, t)]) (kvs ++ [(Sum.inr z, v)]) := Paired.snoc h ⟨rfl, r⟩
theorem NmR.put (h : NmR R xs kvs) {v : V} (r : R t v) : NmR R (putA xs z t) (putK kvs (.inr z) v) := by
  by_cases c : z ∈ xs.map (·.1)
  · have c2 : (kvs.any fun kv => decide (kv.1 = (Sum.inr z : Key))) = true := by
      rw [List.any_eq_true]
      have : (Sum.inr z : Key) ∈ kvs.map (·.1) := by rw [h.keys]; exact List.mem_map.mpr ⟨z, c, rfl⟩
      obtain ⟨y, hy, e⟩ := List.mem_map.mp this
      exact ⟨y, hy, decide_eq_true e⟩
    unfold putK
    rw [putA_old c, if_pos c2]
    clear c c2
    induction h with
    | nil => exact .nil
    | @cons x y _ _ h _ ih =>
      rw [List.map_cons, List.map_cons]
      refine .cons ?_ ih
      by_cases e : x.1 = z
      · rw [if_pos e, if_pos (h.1.trans (by rw [e]))]
        exact ⟨h.1, r⟩
      · rw [if_neg e, if_neg fun q => e (Sum.inr.inj (h.1.symm.trans q))]
        exact h
  · rw [putA_new c, L2.putK_new]
    · exact h.snoc r
    · rcases h.get z with h | ⟨t', v', h, _⟩
      · exact h.2
      · rw [getA_none.mpr c] at h; cases h
end
/-! lists of data -/
def DLst (K : PySem.W.Frag) (H : Hp) (vs : List V) (ds : List PyData) : Prop := DpAll K H vs ds ∧ flatAll ds = true
theorem DLst.tup {K : PySem.W.Frag} {H H' : Hp} {vs : List V} {ds : List PyData} (h : DLst K H vs ds) (t : TupK H H') : DLst K H' vs ds := ⟨Dp.tupsAll t _ _ h.2 h.1, h.2⟩
theorem flatAll_app : ∀ {xs ys : List PyData}, flatAll xs = true → flatAll ys = true → flatAll (xs ++ ys) = true
  | [], _, _, h => h
  | x :: r, ys, h, g => by
    simp only [flatAll, Bool.and_eq_true, List.cons_append] at h ⊢
    exact ⟨h.1, flatAll_app h.2 g⟩
theorem flatAll_one {x : PyData} (h : flatD x = true) : flatAll [x] = true := by
  show (flatD x && true) = true
  rw [h]; rfl
theorem DLst.snoc {K : PySem.W.Frag} {H : Hp} {vs : List V} {ds : List PyData} {v : V} {d : PyData} (h : DLst K H vs ds) (g : Dp K H v d) (f : flatD d = true) : DLst K H (vs ++ [v]) (ds ++ [d]) :=
  ⟨HL.DpAll.snoc h.1 g, flatAll_app h.2 (flatAll_one f)⟩
theorem DLst.len {K : PySem.W.Frag} {H : Hp} {vs : List V} {ds : List PyData} (h : DLst K H vs ds) : vs.length = ds.length := HL.DpAll.len h.1
theorem DLst.nil {K : PySem.W.Frag} {H : Hp} : DLst K H [] [] := ⟨.nil, rfl⟩
theorem flat_dat : ∀ (d : Nat) (r : Row), flatD (r.dat d) = true := by
  intro d
  induction d with
  | zero => intro r; cases r <;> rfl
  | succ d ih =>
    have all : ∀ rs : List Row, flatAll (rs.map (Row.dat d)) = true := fun rs => flatAll_of fun x hx => by
      obtain ⟨r, _, rfl⟩ := List.mem_map.mp hx
      exact ih r
    intro r
    cases r with
    | tr a ws b =>
      show (true && (flatAll (a.map (Row.dat d)) && (flatAll (ws.map .str) && (flatAll (b.map (Row.dat d)) && true)))) = true
      rw [all, all, HL.flat_strs]
      rfl
    | _ => rfl
theorem flat_rowsD (rs : List Row) : flatD (.tuple (rowsD rs)) = true := flatAll_of fun x hx => by
  obtain ⟨r, _, rfl⟩ := List.mem_map.mp hx
  exact flat_dat 3 r
end PH

/-! FHb: a house in the heap. -/
namespace PH
open PySem PySem.Spec PyProof.Rows L2 HL TL
/-- the classes: the house's, the modules', the functions' -/
structure Cl where
  r : Addr
  m : Addr
  l : Addr
structure HA where
  self : Addr
  dx : Addr
  sh : Addr
  st : Addr
  md : Addr
  ln : Addr
  ft : Addr
  nt : Addr
  wt : Addr
structure Mo where
  m : Addr
  d : Addr
  kvs : List (Key × V)
structure Sf where
  a : Addr
  kvs : List (Key × V)
structure Hs where
  ms : List Mo
  cells : List Addr
  shs : List Sf
  br : Addr
  mt : Addr
  bvs : List (Key × V)
  nvs : List V
  wvs : List V
  mvs : List V
abbrev runF (h : HA) (s : Hs) : List (Str × V) := [("shelves", .ref h.sh), ("standing", .ref h.st), ("made", .ref h.md), ("line", .ref h.ln), ("broken", .ref s.br), ("met", .ref s.mt), ("fates", .ref h.ft), ("notes", .ref h.nt), ("waits", .ref h.wt)]
def mAt (ms : List Mo) (k : Nat) : Addr := ((ms[k]?).map (·.m)).getD 0
theorem mAt_of {ms : List Mo} {k : Nat} {o : Mo} (h : ms[k]? = some o) : mAt ms k = o.m := by unfold mAt; rw [h]; rfl
abbrev cellO (ms : List Mo) (x : Nat × Nat) : HO := .lst [.ref (mAt ms x.1), .int (x.2 : Nat)]
abbrev tabV (ms : List Mo) (tab : List (Str × Nat)) : List (Key × V) := tab.map fun x => ((Sum.inr x.1 : Key), V.ref (mAt ms x.2))
abbrev fatV (fat : List Nat) : List (Key × V) := fat.map fun k => ((Sum.inl ((k + 1 : Nat) : Int) : Key), V.str "failed")
abbrev img1 (C : Cl) (h : HA) (s : Hs) (a : Ab) : List (Addr × HO) := [(h.self, .ins C.r h.dx (runF h s)), (h.sh, .lst (s.shs.map fun x => V.ref x.a)), (h.st, .dK (tabV s.ms a.tab)), (h.md, .lst (s.ms.map fun o => V.ref o.m)),
  (h.ln, .lst (s.cells.map V.ref)), (h.ft, .dK (fatV a.fat)), (h.nt, .lst s.nvs), (h.wt, .lst s.wvs), (s.br, .dK s.bvs), (s.mt, .lst s.mvs)]
abbrev imgS (shs : List Sf) : List (Addr × HO) := shs.map fun x => (x.a, HO.dK x.kvs)
abbrev imgC (ms : List Mo) (cells : List Addr) (line : List (Nat × Nat)) : List (Addr × HO) := List.zipWith (fun c x => (c, cellO ms x)) cells line
abbrev imgM (ms : List Mo) : List (Addr × HO) := ms.map fun o => (o.d, HO.dK o.kvs)
def img (C : Cl) (h : HA) (s : Hs) (a : Ab) : List (Addr × HO) := img1 C h s a ++ (imgS s.shs ++ (imgC s.ms s.cells a.line ++ imgM s.ms))
theorem img_soft {C : Cl} {h : HA} {s : Hs} {a : Ab} : ∀ x ∈ img C h s a, Soft x.2 := fun x hx => by
  unfold img at hx
  rcases List.mem_append.mp hx with hx | hx
  · simp only [img1, List.mem_cons, List.not_mem_nil, or_false] at hx
    rcases hx with rfl | rfl | rfl | rfl | rfl | rfl | rfl | rfl | rfl | rfl <;> first | exact .lst _ | exact .dK _ | exact .run (by rw [look_hit]; exact fun h => nomatch h)
  · rcases List.mem_append.mp hx with hx | hx
    · obtain ⟨y, _, rfl⟩ := List.mem_map.mp hx
      exact .dK _
    · rcases List.mem_append.mp hx with hx | hx
      · unfold imgC at hx
        rw [← List.map_uncurry_zip_eq_zipWith] at hx
        obtain ⟨y, _, rfl⟩ := List.mem_map.mp hx
        exact .lst _
      · obtain ⟨y, _, rfl⟩ := List.mem_map.mp hx
        exact .dK _
inductive ThR (C : Cl) (H : Hp) (ms : List Mo) : Th → V → Prop
  | num (n : Int) : ThR C H ms (.num n) (.int n)
  | mod {k : Nat} {o : Mo} : ms[k]? = some o → ThR C H ms (.mod k) (.ref o.m)
  | fn {k : Nat} {o : Mo} {r : Str} {x dx : Addr} : ms[k]? = some o → H x = some (.ins C.l dx (lateF o.m r)) → ThR C H ms (.fn k r) (.ref x)
theorem noRun_mod {n : Int} {p : Str} {d : Addr} : (modF n p d).lookup ("shelves" : Str) = none := lk_meth _ _ _ (by decide +kernel)
theorem noRun_late {x : Addr} {r : Str} : (lateF x r).lookup ("shelves" : Str) = none := (look_cons (by decide +kernel)).trans ((look_cons (by decide +kernel)).trans look_nil)
/-- modules keep their places, their dicts; more may come -/
def Ext (ms ms' : List Mo) : Prop := ∀ (k : Nat) (o : Mo), ms[k]? = some o → ∃ o', ms'[k]? = some o' ∧ o'.m = o.m ∧ o'.d = o.d
theorem Ext.refl {ms : List Mo} : Ext ms ms := fun k o e => ⟨o, e, rfl, rfl⟩
theorem Ext.tr {a b c : List Mo} (x : Ext a b) (y : Ext b c) : Ext a c := fun k o e => by
  obtain ⟨o1, e1, p1, q1⟩ := x k o e
  obtain ⟨o2, e2, p2, q2⟩ := y k o1 e1
  exact ⟨o2, e2, p2.trans p1, q2.trans q1⟩
theorem ThR.mono {C : Cl} {H H' : Hp} {ms ms' : List Mo} (k : Keep H H') (x : Ext ms ms') {t : Th} {v : V} (h : ThR C H ms t v) : ThR C H' ms' t v := by
  cases h with
  | num n => exact .num n
  | mod e =>
    obtain ⟨o', e', p, _⟩ := x _ _ e
    rw [← p]; exact .mod e'
  | fn e g =>
    obtain ⟨o', e', p, _⟩ := x _ _ e
    rw [← p] at g
    exact .fn e' (k.ins noRun_late g)
/-- what stands fast: the bodies that finders tell, the names that a path's body may bind -/
structure Wd where
  fnd : Str → Option (List Row)
  zs : Str → List Str
/-- what the finders tell for a path -/
def FndAt (K : PySem.W.Frag) (H : Hp) (shs : List Sf) (p : Str) : Option (List Row) → Prop
  | none => ∀ x ∈ shs, valV x.kvs (.inr p) = none
  | some b => ∃ (j : Nat) (x : Sf) (v : V), shs[j]? = some x ∧ valV x.kvs (.inr p) = some v ∧ (∀ (i : Nat) (y : Sf), i < j → shs[i]? = some y → valV y.kvs (.inr p) = none) ∧ Dp K H v (.tuple (rowsD b))
theorem FndAt.keep {K : PySem.W.Frag} {H H' : Hp} {shs : List Sf} {p : Str} {o : Option (List Row)} (t : TupK H H') (h : FndAt K H shs p o) : FndAt K H' shs p o := by
  cases o with
  | none => exact h
  | some b =>
    obtain ⟨j, x, v, h1, h2, h3, h4⟩ := h
    exact ⟨j, x, v, h1, h2, h3, Dp.tups t _ _ (flat_rowsD b) h4⟩
/-- the values: data, bodies, modules' names -/
structure Rl (K : PySem.W.Frag) (C : Cl) (W : Wd) (H : Hp) (s : Hs) (a : Ab) : Prop where
  fnd : ∀ p, FndAt K H s.shs p (W.fnd p)
  nt : DLst K H s.nvs a.log
  wt : DLst K H s.wvs a.pap
  mt : DLst K H s.mvs a.met
  br : NmR (fun x v => Dp K H v (.tuple [numD x.1, x.2]) ∧ flatD x.2 = true) a.brk s.bvs
  mod : ∀ (k : Nat) (o : Mo), s.ms[k]? = some o → (∃ dx, H o.m = some (.ins C.m dx (modF ((k + 1 : Nat) : Int) (a.path k) o.d))) ∧ NmR (ThR C H s.ms) (a.names k) o.kvs
structure Sane (W : Wd) (s : Hs) (a : Ab) : Prop where
  ml : s.ms.length = a.qs.length
  nl : a.nm.length = a.qs.length
  cl : s.cells.length = a.line.length
  lk : ∀ x ∈ a.line, x.1 < a.qs.length
  tk : ∀ x ∈ a.tab, a.qs[x.2]? = some x.1
  tn : (a.tab.map (·.1)).Nodup
  fl : ∀ k ∈ a.fat, k < a.qs.length
  kn : ∀ k, ((a.names k).map (·.1)).Nodup
  kz : ∀ k, ∀ z ∈ (a.names k).map (·.1), z ∈ W.zs (a.path k)
structure HouseAt (K : PySem.W.Frag) (C : Cl) (W : Wd) (H : Hp) (h : HA) (s : Hs) (a : Ab) : Prop where
  own : Owns H (img C h s a)
  rl : Rl K C W H s a
  ok : Sane W s a
abbrev owns (C : Cl) (h : HA) (s : Hs) (a : Ab) : List Addr := adr (img C h s a)
section
variable {K : PySem.W.Frag} {C : Cl} {W : Wd} {H H' : Hp} {h : HA} {s : Hs} {a : Ab}
theorem flat_br {x : Nat × PyData} (f : flatD x.2 = true) : flatD (.tuple [numD x.1, x.2]) = true := by
  show (true && (flatD x.2 && true)) = true
  rw [f]; rfl
theorem Rl.keep (r : Rl K C W H s a) (k : Keep H H') : Rl K C W H' s a :=
  ⟨fun p => (r.fnd p).keep k.tup, r.nt.tup k.tup, r.wt.tup k.tup, r.mt.tup k.tup, r.br.mono fun t v ⟨q1, q2⟩ => ⟨Dp.tups k.tup _ _ (flat_br q2) q1, q2⟩, fun j o e => by
    obtain ⟨⟨dx, e1⟩, e2⟩ := r.mod j o e
    exact ⟨⟨dx, k.ins noRun_mod e1⟩, e2.mono fun t v => ThR.mono k .refl⟩⟩
theorem HouseAt.kp (I : HouseAt K C W H h s a) {Wl : List Addr} (k : Kp Wl H H') (q : Keep H H') (n : ∀ x ∈ owns C h s a, x ∉ Wl) : HouseAt K C W H' h s a := ⟨I.own.kp k n, I.rl.keep q, I.ok⟩
theorem HouseAt.same (I : HouseAt K C W H h s a) (k : Kp [] H H') : HouseAt K C W H' h s a := I.kp k (.same k) fun _ _ => List.not_mem_nil
/-- fields -/
theorem HouseAt.ob (I : HouseAt K C W H h s a) : H h.self = some (.ins C.r h.dx (runF h s)) := I.own.at_ (h.self, .ins C.r h.dx (runF h s)) (by simp [img])
theorem HouseAt.sh (I : HouseAt K C W H h s a) : H h.sh = some (.lst (s.shs.map fun x => V.ref x.a)) := I.own.at_ (h.sh, .lst (s.shs.map fun x => V.ref x.a)) (by simp [img])
theorem HouseAt.st (I : HouseAt K C W H h s a) : H h.st = some (.dK (tabV s.ms a.tab)) := I.own.at_ (h.st, .dK (tabV s.ms a.tab)) (by simp [img])
theorem HouseAt.md (I : HouseAt K C W H h s a) : H h.md = some (.lst (s.ms.map fun o => V.ref o.m)) := I.own.at_ (h.md, .lst (s.ms.map fun o => V.ref o.m)) (by simp [img])
theorem HouseAt.ln (I : HouseAt K C W H h s a) : H h.ln = some (.lst (s.cells.map V.ref)) := I.own.at_ (h.ln, .lst (s.cells.map V.ref)) (by simp [img])
theorem HouseAt.ft (I : HouseAt K C W H h s a) : H h.ft = some (.dK (fatV a.fat)) := I.own.at_ (h.ft, .dK (fatV a.fat)) (by simp [img])
theorem HouseAt.nt (I : HouseAt K C W H h s a) : H h.nt = some (.lst s.nvs) := I.own.at_ (h.nt, .lst s.nvs) (by simp [img])
theorem HouseAt.wt (I : HouseAt K C W H h s a) : H h.wt = some (.lst s.wvs) := I.own.at_ (h.wt, .lst s.wvs) (by simp [img])
theorem HouseAt.br (I : HouseAt K C W H h s a) : H s.br = some (.dK s.bvs) := I.own.at_ (s.br, .dK s.bvs) (by simp [img])
theorem HouseAt.mt (I : HouseAt K C W H h s a) : H s.mt = some (.lst s.mvs) := I.own.at_ (s.mt, .lst s.mvs) (by simp [img])
theorem HouseAt.shk (I : HouseAt K C W H h s a) {x : Sf} (hx : x ∈ s.shs) : H x.a = some (.dK x.kvs) := I.own.at_ (x.a, .dK x.kvs) (by
  unfold img
  exact List.mem_append_right _ (List.mem_append_left _ (List.mem_map.mpr ⟨x, hx, rfl⟩)))
theorem HouseAt.dat (I : HouseAt K C W H h s a) {o : Mo} (ho : o ∈ s.ms) : H o.d = some (.dK o.kvs) := I.own.at_ (o.d, .dK o.kvs) (by
  unfold img
  exact List.mem_append_right _ (List.mem_append_right _ (List.mem_append_right _ (List.mem_map.mpr ⟨o, ho, rfl⟩))))
theorem HouseAt.at_ (I : HouseAt K C W H h s a) {k : Nat} {o : Mo} (e : s.ms[k]? = some o) : ModAt C.m H o.m ((k + 1 : Nat) : Int) (a.path k) o.d o.kvs := ⟨(I.rl.mod k o e).1, I.dat (List.mem_of_getElem? e)⟩
theorem HouseAt.ms (I : HouseAt K C W H h s a) {k : Nat} (l : k < a.qs.length) : ∃ o, s.ms[k]? = some o := ⟨_, List.getElem?_eq_getElem (by rw [I.ok.ml]; exact l)⟩
end
/-- what the house's own doing leaves -/
structure Stp (K : PySem.W.Frag) (C : Cl) (W : Wd) (h : HA) (H : Hp) (s : Hs) (a : Ab) (H' : Hp) (s' : Hs) (a' : Ab) : Prop where
  at_ : HouseAt K C W H' h s' a'
  kp : Kp (owns C h s a) H H'
  new : ∀ x ∈ owns C h s' a', x ∈ owns C h s a ∨ H x = none
  ext : Ext s.ms s'.ms
  shs : s'.shs.map (·.a) = s.shs.map (·.a)
section
variable {K : PySem.W.Frag} {C : Cl} {W : Wd} {H H1 H2 : Hp} {h : HA} {s s1 s2 : Hs} {a a1 a2 : Ab}
theorem Stp.refl (I : HouseAt K C W H h s a) : Stp K C W h H s a H s a := ⟨I, Kp.refl, fun x hx => .inl hx, .refl, rfl⟩
theorem Stp.tr (x : Stp K C W h H s a H1 s1 a1) (y : Stp K C W h H1 s1 a1 H2 s2 a2) : Stp K C W h H s a H2 s2 a2 := by
  refine ⟨y.at_, x.kp.step y.kp x.new, fun z hz => ?_, x.ext.tr y.ext, y.shs.trans x.shs⟩
  rcases y.new z hz with e | e
  · exact x.new z e
  · by_cases c : z ∈ owns C h s a
    · exact .inl c
    · exact .inr (x.kp.free (Nin.intro fun w hw q => c (q ▸ hw)) e)
theorem Stp.keep (I : HouseAt K C W H h s a) (x : Stp K C W h H s a H1 s1 a1) : Keep H H1 := I.own.keep img_soft x.kp
theorem Stp.same (I : HouseAt K C W H h s a) (k : Kp [] H H1) : Stp K C W h H s a H1 s a := ⟨I.same k, k.weak fun x hx => absurd hx List.not_mem_nil, fun x hx => .inl hx, .refl, rfl⟩
/-- a step, from what it does to what is owned -/
theorem Stp.mk' (I : HouseAt K C W H h s a) (k : Kp (owns C h s a) H H1) (o : Owns H1 (img C h s1 a1)) (n : ∀ x ∈ owns C h s1 a1, x ∈ owns C h s a ∨ H x = none) (x : Ext s.ms s1.ms) (sh : s1.shs.map (·.a) = s.shs.map (·.a))
    (r : Keep H H1 → Rl K C W H1 s1 a1) (ok : Sane W s1 a1) : Stp K C W h H s a H1 s1 a1 := ⟨⟨o, r (I.own.keep img_soft k), ok⟩, k, n, x, sh⟩
end
end PH

/-! FHc: a house's steps. -/
namespace PH
open PySem PySem.Spec PyProof.Rows L2 HL TL
namespace Ab
variable (a : Ab)
def opened (p : Str) : Ab := { a with qs := a.qs ++ [p], nm := a.nm ++ [[]], tab := a.tab ++ [(p, a.qs.length)] }
def papped (e : PyData) : Ab := { a with pap := a.pap ++ [e] }
def pushed (k : Nat) : Ab := { a with line := a.line ++ [(k, 0)] }
def popped : Ab := { a with line := a.line.dropLast }
def untab (p : Str) : Ab := { a with tab := delA a.tab p }
def brok (p : Str) (k : Nat) (f : PyData) : Ab := { a with brk := a.brk ++ [(p, (k, f))] }
def fated (k : Nat) : Ab := { a with fat := a.fat ++ [k] }
def metted (l : List PyData) : Ab := { a with met := l }
def unbroken : Ab := { a with brk := [] }
theorem begin_eq (p : Str) : a.begin p = (((a.opened p).put (beginE a.qs.length p)).papped (papE a.qs.length a.line)).pushed a.qs.length := rfl
theorem fin_eq (k : Nat) : a.fin k = a.popped.put (endE k) := rfl
theorem broke_eq (k : Nat) (p : Str) (f : PyData) : a.broke k p f = (((a.popped.put (failE k f)).untab p).brok p k f).fated k := rfl
end Ab
theorem mAt_map (ms : List Mo) (k : Nat) : mAt ms k = ((ms.map (·.m))[k]?).getD 0 := by unfold mAt; rw [List.getElem?_map]
theorem mAt_congr {ms ms' : List Mo} (e : ms'.map (·.m) = ms.map (·.m)) : mAt ms' = mAt ms := funext fun k => by rw [mAt_map, mAt_map, e]
theorem mAt_app {ms more : List Mo} {k : Nat} (l : k < ms.length) : mAt (ms ++ more) k = mAt ms k := by unfold mAt; rw [List.getElem?_append_left l]
theorem mem_end {α : Type} {xs : List α} {y : α} : y ∈ xs ++ [y] := List.mem_append_right _ List.mem_cons_self
section
variable {K : PySem.W.Frag} {C : Cl} {W : Wd} {H H1 : Hp} {h : HA} {s : Hs} {a : Ab}
/-- one owned address is written, the addresses are the same -/
theorem HouseAt.set (I : HouseAt K C W H h s a) {L1 L2 : List (Addr × HO)} {y : Addr} {o o' : HO} {s' : Hs} {a' : Ab} (e : img C h s a = L1 ++ (y, o) :: L2) (e' : img C h s' a' = L1 ++ (y, o') :: L2) (x : Ext s.ms s'.ms) (sh : s'.shs.map (·.a) = s.shs.map (·.a))
    (r : Keep H (upd H y o') → Rl K C W (upd H y o') s' a') (ok : Sane W s' a') : Stp K C W h H s a (upd H y o') s' a' := by
  have m : y ∈ owns C h s a := by
    show y ∈ (img C h s a).map (·.1)
    rw [e, List.map_append]
    exact List.mem_append_right _ List.mem_cons_self
  refine .mk' I (kp_upd m) (e' ▸ (I.own.eq e).set) (fun z hz => .inl ?_) x sh r ok
  have : z ∈ (img C h s' a').map (·.1) := hz
  show z ∈ (img C h s a).map (·.1)
  rw [e', List.map_append] at this
  rw [e, List.map_append]
  exact this
/-- the log goes on -/
theorem HouseAt.note (I : HouseAt K C W H h s a) {u : V} {e : PyData} (d : Dp K H u e) (f : flatD e = true) : Stp K C W h H s a (upd H h.nt (.lst (s.nvs ++ [u]))) { s with nvs := s.nvs ++ [u] } (a.put e) := by
  refine I.set (L1 := (img1 C h s a).take 6) (y := h.nt) (o := .lst s.nvs) rfl rfl .refl rfl (fun k => ?_) ⟨I.ok.ml, I.ok.nl, I.ok.cl, I.ok.lk, I.ok.tk, I.ok.tn, I.ok.fl, I.ok.kn, I.ok.kz⟩
  have r := I.rl.keep k
  exact ⟨r.fnd, r.nt.snoc (Dp.tups k.tup _ _ f d) f, r.wt, r.mt, r.br, r.mod⟩
theorem HouseAt.wait (I : HouseAt K C W H h s a) {u : V} {e : PyData} (d : Dp K H u e) (f : flatD e = true) : Stp K C W h H s a (upd H h.wt (.lst (s.wvs ++ [u]))) { s with wvs := s.wvs ++ [u] } (a.papped e) := by
  refine I.set (L1 := (img1 C h s a).take 7) (y := h.wt) (o := .lst s.wvs) rfl rfl .refl rfl (fun k => ?_) ⟨I.ok.ml, I.ok.nl, I.ok.cl, I.ok.lk, I.ok.tk, I.ok.tn, I.ok.fl, I.ok.kn, I.ok.kz⟩
  have r := I.rl.keep k
  exact ⟨r.fnd, r.nt, r.wt.snoc (Dp.tups k.tup _ _ f d) f, r.mt, r.br, r.mod⟩
theorem HouseAt.untab (I : HouseAt K C W H h s a) (p : Str) : Stp K C W h H s a (upd H h.st (.dK (dropK (tabV s.ms a.tab) (.inr p)))) s (a.untab p) := by
  rw [show dropK (tabV s.ms a.tab) (.inr p) = tabV s.ms (delA a.tab p) from drop_map (g := fun k => V.ref (mAt s.ms k))]
  refine I.set (L1 := (img1 C h s a).take 2) (y := h.st) (o := .dK (tabV s.ms a.tab)) rfl rfl .refl rfl (fun k => ?_) ⟨I.ok.ml, I.ok.nl, I.ok.cl, I.ok.lk, fun x hx => I.ok.tk x (List.mem_filter.mp hx).1, I.ok.tn.sublist (List.filter_sublist.map _), I.ok.fl, I.ok.kn, I.ok.kz⟩
  have r := I.rl.keep k
  exact ⟨r.fnd, r.nt, r.wt, r.mt, r.br, r.mod⟩
theorem HouseAt.fated (I : HouseAt K C W H h s a) (k : Nat) (n : k ∉ a.fat) (lk : k < a.qs.length) : Stp K C W h H s a (upd H h.ft (.dK (putK (fatV a.fat) (.inl ((k + 1 : Nat) : Int)) (.str "failed")))) s (a.fated k) := by
  rw [show putK (fatV a.fat) (.inl ((k + 1 : Nat) : Int)) (.str "failed") = fatV (a.fat ++ [k]) from by
    rw [L2.putK_new]
    · unfold fatV; rw [List.map_append]; rfl
    · have : ∀ l : List Nat, k ∉ l → valV (fatV l) (.inl ((k + 1 : Nat) : Int)) = none := fun l => by
        induction l with
        | nil => exact fun _ => rfl
        | cons j r ih =>
          intro n
          rw [List.mem_cons, not_or] at n
          exact (valV_neg fun e => n.1 (by have := Sum.inl.inj e; omega)).trans (ih n.2)
      exact this _ n]
  refine I.set (L1 := (img1 C h s a).take 5) (y := h.ft) (o := .dK (fatV a.fat)) rfl rfl .refl rfl (fun kq => ?_) ⟨I.ok.ml, I.ok.nl, I.ok.cl, I.ok.lk, I.ok.tk, I.ok.tn, fun j hj => ?_, I.ok.kn, I.ok.kz⟩
  · have r := I.rl.keep kq
    exact ⟨r.fnd, r.nt, r.wt, r.mt, r.br, r.mod⟩
  · rcases List.mem_append.mp hj with hj | hj
    · exact I.ok.fl j hj
    · rw [List.mem_singleton.mp hj]; exact lk
theorem HouseAt.brok (I : HouseAt K C W H h s a) {p : Str} {k : Nat} {f : PyData} {u : V} (d : Dp K H u (.tuple [numD k, f])) (fl : flatD f = true) (n : getA a.brk p = none) :
    Stp K C W h H s a (upd H s.br (.dK (putK s.bvs (.inr p) u))) { s with bvs := s.bvs ++ [(Sum.inr p, u)] } (a.brok p k f) := by
  have un : valV s.bvs (.inr p) = none := by
    rcases I.rl.br.get p with q | ⟨t, v, q, _⟩
    · exact q.2
    · rw [n] at q; cases q
  rw [L2.putK_new u un]
  refine I.set (L1 := (img1 C h s a).take 8) (y := s.br) (o := .dK s.bvs) rfl rfl .refl rfl (fun k => ?_) ⟨I.ok.ml, I.ok.nl, I.ok.cl, I.ok.lk, I.ok.tk, I.ok.tn, I.ok.fl, I.ok.kn, I.ok.kz⟩
  have r := I.rl.keep k
  exact ⟨r.fnd, r.nt, r.wt, r.mt, r.br.snoc ⟨Dp.tups k.tup _ _ (flat_br (x := (_, f)) fl) d, fl⟩, r.mod⟩
/-! names -/
theorem names_bind (a : Ab) (k : Nat) (z : Str) (t : Th) (j : Nat) (l : k < a.nm.length) : (a.bind k z t).names j = if j = k then putA (a.names k) z t else a.names j := by
  unfold Ab.bind Ab.names
  dsimp only
  rw [List.getD_eq_getElem?_getD, List.getElem?_set]
  by_cases c : k = j
  · subst c
    rw [if_pos rfl, if_pos l, if_pos rfl]; rfl
  · rw [if_neg c, if_neg (Ne.symm c), ← List.getD_eq_getElem?_getD]
theorem set_split {α : Type} {xs : List α} {k : Nat} {x y : α} (e : xs[k]? = some x) : ∃ m1 m2, xs = m1 ++ x :: m2 ∧ xs.set k y = m1 ++ y :: m2 ∧ m1.length = k := by
  obtain ⟨l, rfl⟩ := List.getElem?_eq_some_iff.mp e
  refine ⟨xs.take k, xs.drop (k + 1), ?_, ?_, by rw [List.length_take]; omega⟩
  · rw [List.getElem_cons_drop, List.take_append_drop]
  · rw [List.set_eq_take_append_cons_drop, if_pos l]
theorem putA_nd {α : Type} {xs : List (Str × α)} {z : Str} {t : α} (n : (xs.map (·.1)).Nodup) : ((putA xs z t).map (·.1)).Nodup := by
  rw [putA_keys]
  split
  · exact n
  · rename_i c
    exact List.nodup_append.mpr ⟨n, List.nodup_cons.mpr ⟨List.not_mem_nil, List.nodup_nil⟩, fun x hx y hy e => c (by rw [List.mem_singleton.mp hy] at e; exact e ▸ hx)⟩
theorem HouseAt.bind (I : HouseAt K C W H h s a) {k : Nat} {o : Mo} (e : s.ms[k]? = some o) {z : Str} (hz : z ∈ W.zs (a.path k)) {t : Th} {v : V} (d : ThR C H s.ms t v) :
    Stp K C W h H s a (upd H o.d (.dK (putK o.kvs (.inr z) v))) { s with ms := s.ms.set k { o with kvs := putK o.kvs (.inr z) v } } (a.bind k z t) := by
  obtain ⟨m1, m2, e1, e2, l1⟩ := set_split (y := ({ o with kvs := putK o.kvs (.inr z) v } : Mo)) e
  have em : (s.ms.set k { o with kvs := putK o.kvs (.inr z) v }).map (·.m) = s.ms.map (·.m) := by rw [e2, e1]; simp
  have ea := mAt_congr em
  have ex : Ext s.ms (s.ms.set k { o with kvs := putK o.kvs (.inr z) v }) := fun j o' ej => by
    rw [List.getElem?_set]
    by_cases c : k = j
    · subst c
      rw [e] at ej; cases ej
      exact ⟨({ o with kvs := putK o.kvs (.inr z) v } : Mo), by rw [if_pos rfl, if_pos (List.getElem?_eq_some_iff.mp e).1], rfl, rfl⟩
    · exact ⟨o', by rw [if_neg c]; exact ej, rfl, rfl⟩
  have lk : k < a.nm.length := by have := (List.getElem?_eq_some_iff.mp e).1; rw [I.ok.ml] at this; rw [I.ok.nl]; exact this
  have refs : (s.ms.set k { o with kvs := putK o.kvs (.inr z) v }).map (fun o => V.ref o.m) = s.ms.map fun o => V.ref o.m := by
    have := congrArg (List.map V.ref) em
    rwa [List.map_map, List.map_map] at this
  refine I.set (L1 := img1 C h s a ++ (imgS s.shs ++ (imgC s.ms s.cells a.line ++ imgM m1))) (L2 := imgM m2) (y := o.d) (o := .dK o.kvs) ?_ ?_ ex rfl (fun q => ?_) ⟨by rw [List.length_set]; exact I.ok.ml, by show (a.nm.set k _).length = _; rw [List.length_set]; exact I.ok.nl, I.ok.cl, I.ok.lk, I.ok.tk, I.ok.tn, I.ok.fl, fun j => ?_, fun j y hy => ?_⟩
  · have : imgM s.ms = imgM m1 ++ (o.d, HO.dK o.kvs) :: imgM m2 := by rw [e1]; simp
    unfold img
    rw [this]
    simp only [List.append_assoc]
  · have : imgM (s.ms.set k { o with kvs := putK o.kvs (.inr z) v }) = imgM m1 ++ (o.d, HO.dK (putK o.kvs (.inr z) v)) :: imgM m2 := by rw [e2]; simp
    unfold img
    show img1 C h _ _ ++ (imgS s.shs ++ (imgC (s.ms.set k _) s.cells a.line ++ imgM (s.ms.set k _))) = _
    rw [this]
    unfold imgC img1 tabV cellO
    dsimp only [Ab.bind]
    rw [ea, refs]
    simp only [List.append_assoc]
  · have r := I.rl.keep q
    refine ⟨r.fnd, r.nt, r.wt, r.mt, r.br, fun j o' ej => ?_⟩
    rw [names_bind a k z t j lk]
    by_cases c : j = k
    · subst c
      have : o' = { o with kvs := putK o.kvs (.inr z) v } := by
        rw [List.getElem?_set, if_pos rfl, if_pos (List.getElem?_eq_some_iff.mp e).1] at ej
        exact (Option.some.inj ej).symm
      subst this
      obtain ⟨g1, g2⟩ := r.mod j o e
      rw [if_pos rfl]
      exact ⟨g1, (g2.mono fun t v => ThR.mono (.same Kp.refl) ex).put (d.mono q ex)⟩
    · rw [List.getElem?_set, if_neg (Ne.symm c)] at ej
      obtain ⟨g1, g2⟩ := r.mod j o' ej
      rw [if_neg c]
      exact ⟨g1, g2.mono fun t v => ThR.mono (.same Kp.refl) ex⟩
  · rw [names_bind a k z t j lk]
    split
    · exact putA_nd (I.ok.kn k)
    · exact I.ok.kn j
  · rw [names_bind a k z t j lk] at hy
    show y ∈ W.zs (a.path j)
    split at hy
    · rename_i q
      subst q
      rw [putA_keys] at hy
      split at hy
      · exact I.ok.kz _ y hy
      · rcases List.mem_append.mp hy with hy | hy
        · exact I.ok.kz _ y hy
        · rw [List.mem_singleton.mp hy]; exact hz
    · exact I.ok.kz _ y hy
/-! the line -/
theorem zip_snoc {ms : List Mo} {cs : List Addr} {ls : List (Nat × Nat)} (e : cs.length = ls.length) (c : Addr) (x : Nat × Nat) : imgC ms (cs ++ [c]) (ls ++ [x]) = imgC ms cs ls ++ [(c, cellO ms x)] := by
  unfold imgC
  rw [List.zipWith_append e]
  rfl
theorem last_split {cs : List Addr} {pre : List (Nat × Nat)} {x : Nat × Nat} (e : cs.length = (pre ++ [x]).length) : ∃ cp c, cs = cp ++ [c] ∧ cp.length = pre.length := by
  rcases List.eq_nil_or_concat cs with q | ⟨cp, c, q⟩
  · rw [q, List.length_append] at e
    simp at e
  · rw [List.concat_eq_append] at q
    rw [q, List.length_append, List.length_append] at e
    exact ⟨cp, c, q, by simpa using e⟩
/-- the last cell, and what is there -/
theorem HouseAt.cell (I : HouseAt K C W H h s a) {pre : List (Nat × Nat)} {x : Nat × Nat} (e : a.line = pre ++ [x]) : ∃ cp c, s.cells = cp ++ [c] ∧ H c = some (cellO s.ms x) := by
  obtain ⟨cp, c, e1, e2⟩ := last_split (by rw [← e]; exact I.ok.cl)
  refine ⟨cp, c, e1, I.own.at_ (c, _) ?_⟩
  unfold img
  refine List.mem_append_right _ (List.mem_append_right _ (List.mem_append_left _ ?_))
  rw [e1, e, zip_snoc e2]
  exact mem_end
theorem HouseAt.row (I : HouseAt K C W H h s a) {pre : List (Nat × Nat)} {x : Nat × Nat} (e : a.line = pre ++ [x]) {cp : List Addr} {c : Addr} (ec : s.cells = cp ++ [c]) (r : Nat) :
    Stp K C W h H s a (upd H c (cellO s.ms (x.1, r))) s (a.row r) := by
  have e2 : cp.length = pre.length := by have := I.ok.cl; rw [ec, e] at this; simpa using this
  have el : (a.row r).line = pre ++ [(x.1, r)] := by show setR a.line r = _; rw [e, setR_last]
  refine I.set (L1 := img1 C h s a ++ (imgS s.shs ++ imgC s.ms cp pre)) (L2 := imgM s.ms) (y := c) (o := cellO s.ms x) ?_ ?_ .refl rfl (fun k => ?_) ⟨I.ok.ml, I.ok.nl, by rw [el, ec]; simp [e2], fun y hy => ?_, I.ok.tk, I.ok.tn, I.ok.fl, I.ok.kn, I.ok.kz⟩
  · unfold img
    rw [e, ec, zip_snoc e2]
    simp only [List.append_assoc, List.cons_append, List.nil_append]
  · unfold img
    rw [el, ec, zip_snoc e2]
    simp only [List.append_assoc, List.cons_append, List.nil_append]
    rfl
  · have r := I.rl.keep k
    exact ⟨r.fnd, r.nt, r.wt, r.mt, r.br, r.mod⟩
  · rw [el] at hy
    rcases List.mem_append.mp hy with hy | hy
    · exact I.ok.lk y (by rw [e]; exact List.mem_append_left _ hy)
    · rw [List.mem_singleton.mp hy]
      exact I.ok.lk x (by rw [e]; exact mem_end)
/-- a new cell at the end of the line -/
theorem HouseAt.push (I : HouseAt K C W H h s a) {c : Addr} {k : Nat} (n : H c = none) (lk : k < a.qs.length) :
    Stp K C W h H s a (upd (upd H c (cellO s.ms (k, 0))) h.ln (.lst ((s.cells ++ [c]).map V.ref))) { s with cells := s.cells ++ [c] } (a.pushed k) := by
  have k1 : Kp [] H (upd H c (cellO s.ms (k, 0))) := kp_new n
  have I1 := I.same k1
  have nc : c ∉ owns C h s a := I.own.new n
  have m : h.ln ∈ owns C h s a := by simp [owns, img]
  have o1 : Owns (upd (upd H c (cellO s.ms (k, 0))) h.ln (.lst ((s.cells ++ [c]).map V.ref))) ((img1 C h s a).take 4 ++ (h.ln, .lst ((s.cells ++ [c]).map V.ref)) :: ((img1 C h s a).drop 5 ++ (imgS s.shs ++ (imgC s.ms s.cells a.line ++ imgM s.ms)))) :=
    Owns.set (o := .lst (s.cells.map V.ref)) I1.own
  have ne : c ≠ h.ln := fun z => nc (z ▸ m)
  have e2 : (upd (upd H c (cellO s.ms (k, 0))) h.ln (.lst ((s.cells ++ [c]).map V.ref))) c = some (cellO s.ms (k, 0)) := (upd_ne ne).trans upd_same
  have o2 := Owns.ins (L1 := img1 C h { s with cells := s.cells ++ [c] } (a.pushed k) ++ (imgS s.shs ++ imgC s.ms s.cells a.line)) (L2 := imgM s.ms) (o1.eq (by simp only [List.append_assoc]; rfl)) e2 (fun hm => nc (by
    have : c ∈ adr (img C h s a) ∨ False := .inl (by
      rw [adr, List.append_assoc, List.append_assoc] at hm
      exact hm)
    exact this.resolve_right id))
  refine .mk' I ((k1.weak fun x hx => absurd hx List.not_mem_nil).step (kp_upd (W := owns C h s a) m) fun x hx => .inl hx) (o2.eq ?_) (fun z hz => ?_) .refl rfl (fun k => ?_) ⟨I.ok.ml, I.ok.nl, by show (s.cells ++ [c]).length = (a.line ++ [(k, 0)]).length; rw [List.length_append, List.length_append, I.ok.cl]; rfl, fun x hx => ?_, I.ok.tk, I.ok.tn, I.ok.fl, I.ok.kn, I.ok.kz⟩
  · unfold img
    show _ = img1 C h _ _ ++ (imgS s.shs ++ (imgC s.ms (s.cells ++ [c]) (a.line ++ [(k, 0)]) ++ imgM s.ms))
    rw [zip_snoc I.ok.cl]
    simp only [List.append_assoc, List.cons_append, List.nil_append]
  · have : z ∈ (img C h { s with cells := s.cells ++ [c] } (a.pushed k)).map (·.1) := hz
    unfold img at this
    have e : imgC s.ms (s.cells ++ [c]) (a.pushed k).line = imgC s.ms s.cells a.line ++ [(c, cellO s.ms (k, 0))] := zip_snoc I.ok.cl c (k, 0)
    rw [e] at this
    by_cases q : z = c
    · exact .inr (q ▸ n)
    · refine .inl ?_
      show z ∈ (img C h s a).map (·.1)
      unfold img
      simp only [List.map_append, List.mem_append, List.map_cons, List.map_nil, List.mem_cons, List.not_mem_nil, or_false] at this ⊢
      rcases this with h1 | h1 | ⟨h1 | h1⟩ | h1
      · exact .inl h1
      · exact .inr (.inl h1)
      · exact .inr (.inr (.inl h1))
      · exact absurd h1 q
      · exact .inr (.inr (.inr h1))
  · have r := I.rl.keep k
    exact ⟨r.fnd, r.nt, r.wt, r.mt, r.br, r.mod⟩
  · rcases List.mem_append.mp hx with hx | hx
    · exact I.ok.lk x hx
    · rw [List.mem_singleton.mp hx]; exact lk
/-- the last cell goes -/
theorem HouseAt.pop (I : HouseAt K C W H h s a) {pre : List (Nat × Nat)} {x : Nat × Nat} (e : a.line = pre ++ [x]) {cp : List Addr} {c : Addr} (ec : s.cells = cp ++ [c]) :
    Stp K C W h H s a (upd H h.ln (.lst (cp.map V.ref))) { s with cells := cp } a.popped := by
  have e2 : cp.length = pre.length := by have := I.ok.cl; rw [ec, e] at this; simpa using this
  have el : a.popped.line = pre := by show a.line.dropLast = _; rw [e, List.dropLast_concat]
  have m : h.ln ∈ owns C h s a := by simp [owns, img]
  have o1 : Owns (upd H h.ln (.lst (cp.map V.ref))) ((img1 C h s a).take 4 ++ (h.ln, .lst (cp.map V.ref)) :: ((img1 C h s a).drop 5 ++ (imgS s.shs ++ (imgC s.ms s.cells a.line ++ imgM s.ms)))) := Owns.set (o := .lst (s.cells.map V.ref)) I.own
  have o2 : Owns (upd H h.ln (.lst (cp.map V.ref))) (img1 C h { s with cells := cp } a.popped ++ (imgS s.shs ++ imgC s.ms cp pre) ++ (c, cellO s.ms x) :: imgM s.ms) := o1.eq (by
    rw [e, ec, zip_snoc e2]
    simp only [List.append_assoc, List.cons_append, List.nil_append]
    rfl)
  refine .mk' I (kp_upd m) (o2.del.eq ?_) (fun z hz => .inl ?_) .refl rfl (fun k => ?_) ⟨I.ok.ml, I.ok.nl, by rw [el]; exact e2, fun y hy => ?_, I.ok.tk, I.ok.tn, I.ok.fl, I.ok.kn, I.ok.kz⟩
  · unfold img
    rw [el]
    simp only [List.append_assoc]
  · have : z ∈ (img C h { s with cells := cp } a.popped).map (·.1) := hz
    show z ∈ (img C h s a).map (·.1)
    unfold img at this ⊢
    rw [el] at this
    rw [e, ec, zip_snoc e2]
    simp only [List.map_append, List.mem_append, List.map_cons, List.map_nil, List.mem_cons, List.not_mem_nil, or_false] at this ⊢
    rcases this with h1 | h1 | h1 | h1
    · exact .inl h1
    · exact .inr (.inl h1)
    · exact .inr (.inr (.inl (.inl h1)))
    · exact .inr (.inr (.inr h1))
  · have r := I.rl.keep k
    exact ⟨r.fnd, r.nt, r.wt, r.mt, r.br, r.mod⟩
  · rw [el] at hy
    exact I.ok.lk y (by rw [e]; exact List.mem_append_left _ hy)
/-! a new module -/
theorem getD_app {α : Type} (xs : List α) (y d : α) (k : Nat) (l : k ≠ xs.length) : (xs ++ [y]).getD k d = xs.getD k d := by
  rw [List.getD_eq_getElem?_getD, List.getElem?_append, List.getD_eq_getElem?_getD]
  split
  · rfl
  · rename_i c
    rw [List.getElem?_eq_none (show xs.length ≤ k from by omega), List.getElem?_eq_none (by rw [List.length_singleton]; omega)]
theorem getD_last {α : Type} (xs : List α) (y d : α) : (xs ++ [y]).getD xs.length d = y := by
  rw [List.getD_eq_getElem?_getD, List.getElem?_append_right (Nat.le_refl _), Nat.sub_self]; rfl
theorem HouseAt.opened (I : HouseAt K C W H h s a) {p : Str} {m d : Addr} (k1 : Kp [] H H1) (nd : H d = none) (M : ModAt C.m H1 m ((a.qs.length + 1 : Nat) : Int) p d []) (np : getA a.tab p = none) :
    Stp K C W h H s a (upd (upd H1 h.md (.lst ((s.ms.map fun (o : Mo) => V.ref o.m) ++ [.ref m]))) h.st (.dK (tabV s.ms a.tab ++ [(Sum.inr p, .ref m)]))) { s with ms := s.ms ++ [⟨m, d, []⟩] } (a.opened p) := by
  have I1 := I.same k1
  have nc : d ∉ owns C h s a := I.own.new nd
  have m1 : h.md ∈ owns C h s a := by simp [owns, img]
  have m2 : h.st ∈ owns C h s a := by simp [owns, img]
  have ml := I.ok.ml
  have new : mAt (s.ms ++ [⟨m, d, []⟩]) a.qs.length = m := by rw [← ml]; unfold mAt; rw [List.getElem?_append_right (Nat.le_refl _), Nat.sub_self]; rfl
  have old : ∀ k, k < a.qs.length → mAt (s.ms ++ [⟨m, d, []⟩]) k = mAt s.ms k := fun k l => mAt_app (by rw [ml]; exact l)
  have et : tabV (s.ms ++ [⟨m, d, []⟩]) (a.tab ++ [(p, a.qs.length)]) = tabV s.ms a.tab ++ [(Sum.inr p, .ref m)] := by
    unfold tabV
    rw [List.map_append]
    congr 1
    · refine List.map_congr_left fun x hx => ?_
      rw [old x.2 (List.getElem?_eq_some_iff.mp (I.ok.tk x hx)).1]
    · show [(Sum.inr p, V.ref (mAt _ a.qs.length))] = _
      rw [new]
  have ec : imgC (s.ms ++ [⟨m, d, []⟩]) s.cells a.line = imgC s.ms s.cells a.line := by
    unfold imgC
    have all := I.ok.lk
    generalize a.line = l at all
    generalize s.cells = cs
    induction cs generalizing l with
    | nil => rfl
    | cons c r ih =>
      cases l with
      | nil => rfl
      | cons x t =>
        rw [List.zipWith_cons_cons, List.zipWith_cons_cons, ih t fun y hy => all y (List.mem_cons_of_mem _ hy)]
        unfold cellO
        rw [old x.1 (all x List.mem_cons_self)]
  have er : (s.ms ++ [(⟨m, d, []⟩ : Mo)]).map (fun (o : Mo) => V.ref o.m) = (s.ms.map fun (o : Mo) => V.ref o.m) ++ [.ref m] := by rw [List.map_append]; rfl
  have o1 : Owns (upd H1 h.md (.lst ((s.ms.map fun (o : Mo) => V.ref o.m) ++ [.ref m]))) ((img1 C h s a).take 3 ++ (h.md, .lst ((s.ms.map fun (o : Mo) => V.ref o.m) ++ [.ref m])) :: ((img1 C h s a).drop 4 ++ (imgS s.shs ++ (imgC s.ms s.cells a.line ++ imgM s.ms)))) := Owns.set (o := .lst (s.ms.map fun (o : Mo) => V.ref o.m)) I1.own
  have o2 : Owns (upd (upd H1 h.md (.lst ((s.ms.map fun (o : Mo) => V.ref o.m) ++ [.ref m]))) h.st (.dK (tabV s.ms a.tab ++ [(Sum.inr p, .ref m)]))) ((img1 C h s a).take 2 ++ (h.st, .dK (tabV s.ms a.tab ++ [(Sum.inr p, .ref m)])) :: ((h.md, .lst ((s.ms.map fun (o : Mo) => V.ref o.m) ++ [.ref m])) :: ((img1 C h s a).drop 4 ++ (imgS s.shs ++ (imgC s.ms s.cells a.line ++ imgM s.ms))))) :=
    Owns.set (L1 := (img1 C h s a).take 2) (o := .dK (tabV s.ms a.tab)) o1
  have ed : (upd (upd H1 h.md (.lst ((s.ms.map fun (o : Mo) => V.ref o.m) ++ [.ref m]))) h.st (.dK (tabV s.ms a.tab ++ [(Sum.inr p, .ref m)]))) d = some (.dK []) :=
    (upd_ne fun z => nc (by rw [z]; exact m2)).trans ((upd_ne fun z => nc (by rw [z]; exact m1)).trans M.dc)
  have o3 := Owns.ins (L1 := img1 C h { s with ms := s.ms ++ [⟨m, d, []⟩] } (a.opened p) ++ (imgS s.shs ++ (imgC s.ms s.cells a.line ++ imgM s.ms))) (L2 := []) (o2.eq (by
    rw [List.append_nil]
    show _ = [(h.self, HO.ins C.r h.dx (runF h _)), (h.sh, _), (h.st, HO.dK (tabV (s.ms ++ [⟨m, d, []⟩]) (a.tab ++ [(p, a.qs.length)]))), (h.md, HO.lst ((s.ms ++ [(⟨m, d, []⟩ : Mo)]).map fun (o : Mo) => V.ref o.m)), _, _, _, _, _, _] ++ _
    rw [et, er]
    rfl)) ed (fun hm => nc (by
      rw [List.append_nil] at hm
      exact hm))
  have ext : Ext s.ms (s.ms ++ [⟨m, d, []⟩]) := fun k o e => ⟨o, by rw [List.getElem?_append_left (List.getElem?_eq_some_iff.mp e).1]; exact e, rfl, rfl⟩
  refine .mk' I (((k1.weak fun x hx => absurd hx List.not_mem_nil).step (kp_upd (W := owns C h s a) m1) fun x hx => .inl hx).step (kp_upd (W := owns C h s a) m2) fun x hx => .inl hx) (o3.eq ?_) (fun z hz => ?_) ext rfl (fun k => ?_)
    ⟨by show (s.ms ++ _).length = (a.qs ++ _).length; rw [List.length_append, List.length_append, ml]; rfl, by show (a.nm ++ _).length = (a.qs ++ _).length; rw [List.length_append, List.length_append, I.ok.nl]; rfl, I.ok.cl, fun x hx => ?_, fun x hx => ?_, ?_, fun j hj => ?_, fun j => ?_, fun j y hy => ?_⟩
  · unfold img
    show _ = img1 C h _ _ ++ (imgS s.shs ++ (imgC (s.ms ++ [⟨m, d, []⟩]) s.cells a.line ++ imgM (s.ms ++ [⟨m, d, []⟩])))
    rw [ec, show imgM (s.ms ++ [⟨m, d, []⟩]) = imgM s.ms ++ [(d, HO.dK [])] from by unfold imgM; rw [List.map_append]; rfl]
    simp only [List.append_assoc]
  · by_cases q : z = d
    · exact .inr (q ▸ nd)
    · have : z ∈ (img C h { s with ms := s.ms ++ [⟨m, d, []⟩] } (a.opened p)).map (·.1) := hz
      unfold img at this
      have e1 : imgC (s.ms ++ [⟨m, d, []⟩]) s.cells (a.opened p).line = imgC s.ms s.cells a.line := ec
      dsimp only at this
      rw [e1, show imgM (s.ms ++ [⟨m, d, []⟩]) = imgM s.ms ++ [(d, HO.dK [])] from by unfold imgM; rw [List.map_append]; rfl] at this
      refine .inl ?_
      show z ∈ (img C h s a).map (·.1)
      unfold img
      simp only [List.map_append, List.mem_append, List.map_cons, List.map_nil, List.mem_cons, List.not_mem_nil, or_false] at this ⊢
      rcases this with h1 | h1 | h1 | h1 | h1
      · exact .inl h1
      · exact .inr (.inl h1)
      · exact .inr (.inr (.inl h1))
      · exact .inr (.inr (.inr h1))
      · exact absurd h1 q
  · have r := I.rl.keep k
    refine ⟨r.fnd, r.nt, r.wt, r.mt, r.br, fun j o e => ?_⟩
    have kq : Keep H1 (upd (upd H1 h.md (.lst ((s.ms.map fun (o : Mo) => V.ref o.m) ++ [.ref m]))) h.st (.dK (tabV s.ms a.tab ++ [(Sum.inr p, .ref m)]))) :=
      I1.own.keep img_soft ((kp_upd m1).step (kp_upd (W := owns C h s a) m2) fun x hx => .inl hx)
    have e : (s.ms ++ [(⟨m, d, []⟩ : Mo)])[j]? = some o := e
    by_cases l : j < s.ms.length
    · rw [List.getElem?_append_left l] at e
      obtain ⟨g1, g2⟩ := r.mod j o e
      rw [show (a.opened p).path j = a.path j from getD_app _ _ _ _ (by omega), show (a.opened p).names j = a.names j from getD_app _ _ _ _ (by rw [I.ok.nl]; omega)]
      exact ⟨g1, g2.mono fun t v => ThR.mono (.same Kp.refl) ext⟩
    · rw [List.getElem?_append_right (by omega)] at e
      have j0 : j = s.ms.length := by
        rcases Nat.eq_zero_or_pos (j - s.ms.length) with q | q
        · omega
        · rw [List.getElem?_eq_none (by rw [List.length_singleton]; omega)] at e; cases e
      subst j0
      rw [Nat.sub_self] at e
      cases e
      obtain ⟨dx, em⟩ := M.ob
      rw [show (a.opened p).path s.ms.length = p from by rw [ml]; exact getD_last _ _ _, show (a.opened p).names s.ms.length = [] from by rw [ml, ← I.ok.nl]; exact getD_last _ _ _, ml]
      exact ⟨⟨dx, kq.ins noRun_mod em⟩, .nil⟩
  · show x.1 < (a.qs ++ [p]).length
    have := I.ok.lk x hx
    rw [List.length_append]; omega
  · show (a.qs ++ [p])[x.2]? = some x.1
    rcases List.mem_append.mp hx with hx | hx
    · have := I.ok.tk x hx
      rw [List.getElem?_append_left (List.getElem?_eq_some_iff.mp this).1]; exact this
    · rw [List.mem_singleton.mp hx, List.getElem?_append_right (Nat.le_refl _), Nat.sub_self]; rfl
  · show ((a.tab ++ [(p, a.qs.length)]).map (·.1)).Nodup
    rw [List.map_append]
    exact List.nodup_append.mpr ⟨I.ok.tn, List.nodup_cons.mpr ⟨List.not_mem_nil, List.nodup_nil⟩, fun x hx y hy e => getA_none.mp np (by rw [List.mem_singleton.mp hy] at e; have e : x = p := e; rw [e] at hx; exact hx)⟩
  · show j < (a.qs ++ [p]).length
    have := I.ok.fl j hj
    rw [List.length_append]; omega
  · by_cases l : j = a.nm.length
    · subst l
      rw [show (a.opened p).names a.nm.length = [] from getD_last _ _ _]
      exact List.nodup_nil
    · rw [show (a.opened p).names j = a.names j from getD_app _ _ _ _ l]
      exact I.ok.kn j
  · by_cases l : j = a.nm.length
    · subst l
      rw [show (a.opened p).names a.nm.length = [] from getD_last _ _ _] at hy
      cases hy
    · rw [show (a.opened p).names j = a.names j from getD_app _ _ _ _ l] at hy
      rw [show (a.opened p).path j = a.path j from getD_app _ _ _ _ (by rw [← I.ok.nl]; exact l)]
      exact I.ok.kz j y hy
/-! the house's own fields anew -/
theorem putF_ne {f g : Str} {v x : V} {r : List (Str × V)} (h : decide (g = f) = false) : putF f v ((g, x) :: r) = (g, x) :: putF f v r := if_neg (of_decide_eq_false h)
theorem putF_eq {f : Str} {v x : V} {r : List (Str × V)} : putF f v ((f, x) :: r) = (f, v) :: r := if_pos rfl
theorem runF_met {x : Addr} : putF "met" (.ref x) (runF h s) = runF h { s with mt := x } := ((putF_ne (by decide +kernel)).trans (congrArg (List.cons _) ((putF_ne (by decide +kernel)).trans (congrArg (List.cons _) ((putF_ne (by decide +kernel)).trans (congrArg (List.cons _) ((putF_ne (by decide +kernel)).trans (congrArg (List.cons _) ((putF_ne (by decide +kernel)).trans (congrArg (List.cons _) putF_eq))))))))))
theorem runF_broken {x : Addr} : putF "broken" (.ref x) (runF h s) = runF h { s with br := x } := ((putF_ne (by decide +kernel)).trans (congrArg (List.cons _) ((putF_ne (by decide +kernel)).trans (congrArg (List.cons _) ((putF_ne (by decide +kernel)).trans (congrArg (List.cons _) ((putF_ne (by decide +kernel)).trans (congrArg (List.cons _) putF_eq))))))))
theorem HouseAt.metted (I : HouseAt K C W H h s a) {x : Addr} {vs : List V} {ds : List PyData} (k1 : Kp [] H H1) (nx : H x = none) (ex : H1 x = some (.lst vs)) (d : DLst K H1 vs ds) :
    Stp K C W h H s a (upd H1 h.self (.ins C.r h.dx (runF h { s with mt := x }))) { s with mt := x, mvs := vs } (a.metted ds) := by
  have I1 := I.same k1
  have nc : x ∉ owns C h s a := I.own.new nx
  have m1 : h.self ∈ owns C h s a := by simp [owns, img]
  have o1 : Owns (upd H1 h.self (.ins C.r h.dx (runF h { s with mt := x }))) ([] ++ (h.self, .ins C.r h.dx (runF h { s with mt := x })) :: ((img1 C h s a).drop 1 ++ (imgS s.shs ++ (imgC s.ms s.cells a.line ++ imgM s.ms)))) := Owns.set (L1 := []) (o := .ins C.r h.dx (runF h s)) I1.own
  have o2 : Owns (upd H1 h.self (.ins C.r h.dx (runF h { s with mt := x }))) (((h.self, .ins C.r h.dx (runF h { s with mt := x })) :: ((img1 C h s a).drop 1).take 8) ++ (imgS s.shs ++ (imgC s.ms s.cells a.line ++ imgM s.ms))) := Owns.del (y := s.mt) (o := .lst s.mvs) o1
  have ex2 : (upd H1 h.self (.ins C.r h.dx (runF h { s with mt := x }))) x = some (.lst vs) := (upd_ne fun z => nc (by rw [z]; exact m1)).trans ex
  have sub : ∀ z, z ∈ adr (((h.self, HO.ins C.r h.dx (runF h { s with mt := x })) :: ((img1 C h s a).drop 1).take 8) ++ (imgS s.shs ++ (imgC s.ms s.cells a.line ++ imgM s.ms))) → z ∈ owns C h s a := fun z hz => by
    show z ∈ (img C h s a).map (·.1)
    unfold img
    rw [adr, List.map_append] at hz
    rw [List.map_append]
    rcases List.mem_append.mp hz with hz | hz
    · refine List.mem_append_left _ ?_
      simp only [img1, List.drop, List.take, List.map_cons, List.map_nil, List.mem_cons, List.not_mem_nil, or_false] at hz ⊢
      rcases hz with h | h | h | h | h | h | h | h | h <;> simp [h]
    · exact List.mem_append_right _ hz
  have o3 := o2.ins ex2 fun hm => nc (sub x hm)
  refine .mk' I ((k1.weak fun x hx => absurd hx List.not_mem_nil).step (kp_upd (W := owns C h s a) m1) fun x hx => .inl hx) o3 (fun z hz => ?_) .refl rfl (fun k => ?_) ⟨I.ok.ml, I.ok.nl, I.ok.cl, I.ok.lk, I.ok.tk, I.ok.tn, I.ok.fl, I.ok.kn, I.ok.kz⟩
  · by_cases q : z = x
    · exact .inr (q ▸ nx)
    · refine .inl (sub z ?_)
      have : z ∈ adr (((h.self, HO.ins C.r h.dx (runF h { s with mt := x })) :: ((img1 C h s a).drop 1).take 8) ++ (x, HO.lst vs) :: (imgS s.shs ++ (imgC s.ms s.cells a.line ++ imgM s.ms))) := hz
      rw [adr, List.map_append, List.map_cons] at this
      rw [adr, List.map_append]
      rcases List.mem_append.mp this with h1 | h1
      · exact List.mem_append_left _ h1
      · exact List.mem_append_right _ ((List.mem_cons.mp h1).resolve_left q)
  · have r := I.rl.keep k
    have kq : Keep H1 (upd H1 h.self (.ins C.r h.dx (runF h { s with mt := x }))) := I1.own.keep img_soft (kp_upd m1)
    exact ⟨r.fnd, r.nt, r.wt, d.tup kq.tup, r.br, r.mod⟩
theorem HouseAt.unbroken (I : HouseAt K C W H h s a) {x : Addr} (k1 : Kp [] H H1) (nx : H x = none) (ex : H1 x = some (.dK [])) :
    Stp K C W h H s a (upd H1 h.self (.ins C.r h.dx (runF h { s with br := x }))) { s with br := x, bvs := [] } a.unbroken := by
  have I1 := I.same k1
  have nc : x ∉ owns C h s a := I.own.new nx
  have m1 : h.self ∈ owns C h s a := by simp [owns, img]
  have o1 : Owns (upd H1 h.self (.ins C.r h.dx (runF h { s with br := x }))) ([] ++ (h.self, .ins C.r h.dx (runF h { s with br := x })) :: ((img1 C h s a).drop 1 ++ (imgS s.shs ++ (imgC s.ms s.cells a.line ++ imgM s.ms)))) := Owns.set (L1 := []) (o := .ins C.r h.dx (runF h s)) I1.own
  have o2 : Owns (upd H1 h.self (.ins C.r h.dx (runF h { s with br := x }))) (((h.self, .ins C.r h.dx (runF h { s with br := x })) :: ((img1 C h s a).drop 1).take 7) ++ ((s.mt, .lst s.mvs) :: (imgS s.shs ++ (imgC s.ms s.cells a.line ++ imgM s.ms)))) := Owns.del (y := s.br) (o := .dK s.bvs) o1
  have ex2 : (upd H1 h.self (.ins C.r h.dx (runF h { s with br := x }))) x = some (.dK []) := (upd_ne fun z => nc (by rw [z]; exact m1)).trans ex
  have sub : ∀ z, z ∈ adr (((h.self, HO.ins C.r h.dx (runF h { s with br := x })) :: ((img1 C h s a).drop 1).take 7) ++ ((s.mt, .lst s.mvs) :: (imgS s.shs ++ (imgC s.ms s.cells a.line ++ imgM s.ms)))) → z ∈ owns C h s a := fun z hz => by
    show z ∈ (img C h s a).map (·.1)
    unfold img
    rw [adr, List.map_append, List.map_cons] at hz
    rw [List.map_append]
    rcases List.mem_append.mp hz with hz | hz
    · refine List.mem_append_left _ ?_
      simp only [img1, List.drop, List.take, List.map_cons, List.map_nil, List.mem_cons, List.not_mem_nil, or_false] at hz ⊢
      rcases hz with h | h | h | h | h | h | h | h <;> simp [h]
    · rcases List.mem_cons.mp hz with hz | hz
      · exact List.mem_append_left _ (by simp [img1, hz])
      · exact List.mem_append_right _ hz
  have o3 := o2.ins ex2 fun hm => nc (sub x hm)
  refine .mk' I ((k1.weak fun x hx => absurd hx List.not_mem_nil).step (kp_upd (W := owns C h s a) m1) fun x hx => .inl hx) o3 (fun z hz => ?_) .refl rfl (fun k => ?_) ⟨I.ok.ml, I.ok.nl, I.ok.cl, I.ok.lk, I.ok.tk, I.ok.tn, I.ok.fl, I.ok.kn, I.ok.kz⟩
  · by_cases q : z = x
    · exact .inr (q ▸ nx)
    · refine .inl (sub z ?_)
      have : z ∈ adr (((h.self, HO.ins C.r h.dx (runF h { s with br := x })) :: ((img1 C h s a).drop 1).take 7) ++ (x, HO.dK []) :: ((s.mt, .lst s.mvs) :: (imgS s.shs ++ (imgC s.ms s.cells a.line ++ imgM s.ms)))) := hz
      rw [adr, List.map_append, List.map_cons] at this
      rw [adr, List.map_append]
      rcases List.mem_append.mp this with h1 | h1
      · exact List.mem_append_left _ h1
      · exact List.mem_append_right _ ((List.mem_cons.mp h1).resolve_left q)
  · have r := I.rl.keep k
    exact ⟨r.fnd, r.nt, r.wt, r.mt, .nil, r.mod⟩
end
end PH

/-! FHd: what modules, functions, faults promise. -/
namespace PH
open PySem PySem.Spec PyProof.Rows L2 HL TL
theorem nd_len : ∀ {xs ys : List Str}, xs.Nodup → (∀ x ∈ xs, x ∈ ys) → xs.length ≤ ys.length
  | [], _, _, _ => Nat.zero_le _
  | x :: r, ys, n, h => by
    obtain ⟨n1, n2⟩ := List.nodup_cons.mp n
    obtain ⟨y1, y2, e⟩ := List.append_of_mem (h x List.mem_cons_self)
    have := nd_len (ys := y1 ++ y2) n2 fun z hz => by
      have := h z (List.mem_cons_of_mem _ hz)
      rw [e] at this
      rcases List.mem_append.mp this with q | q
      · exact List.mem_append_left _ q
      · rcases List.mem_cons.mp q with q | q
        · exact absurd (q ▸ hz) n1
        · exact List.mem_append_right _ q
    rw [e, List.length_cons, List.length_append, List.length_cons]
    rw [List.length_append] at this
    omega
section
variable {K : PySem.W.Frag} {C : Cl} {W : Wd} {H : Hp} {h : HA} {s : Hs} {a : Ab}
theorem HouseAt.names_few (I : HouseAt K C W H h s a) (k : Nat) {n : Nat} (l : (W.zs (a.path k)).length ≤ n) : (a.names k).length ≤ n := by
  have := nd_len (I.ok.kn k) (I.ok.kz k)
  rw [List.length_map] at this
  omega
end
def spMInit (C : Addr) : Sp := fun vs H Q _ => ∃ (m dx : Addr) (n : Int) (p : Str), vs = [.ref m, .int n, .str p] ∧ H m = some (.ins C dx []) ∧
  ∀ H' d, Kp [m] H H' → H d = none → ModAt C H' m n p d [] → Q .non H'
def spBind (C : Addr) : Sp := fun vs H Q _ => ∃ (m d : Addr) (n : Int) (p z : Str) (v : V) (kvs : List (Key × V)), vs = [.ref m, .str z, v] ∧ ModAt C H m n p d kvs ∧ kvs.length ≤ 1000 ∧
  Q .non (upd H d (.dK (putK kvs (.inr z) v)))
def spBound (C : Addr) : Sp := fun vs H Q _ => ∃ (m d : Addr) (n : Int) (p : Str) (kvs : List (Key × V)) (ks : List Str), vs = [.ref m] ∧ ModAt C H m n p d kvs ∧ kvs.map (·.1) = ks.map Sum.inr ∧ ks.length < 64 ∧
  ∀ (ys : List Str) (l : Addr), ys.Perm ks → sortedS ys = true → H l = none → Q (.ref l) (upd H l (.lst (ys.map V.str)))
def spHas (C : Addr) : Sp := fun vs H Q _ => ∃ (m d : Addr) (n : Int) (p z : Str) (kvs : List (Key × V)), vs = [.ref m, .str z] ∧ ModAt C H m n p d kvs ∧ Q (.bl (valV kvs (.inr z)).isSome) H
def spThing (C : Addr) : Sp := fun vs H Q _ => ∃ (m d : Addr) (n : Int) (p z : Str) (kvs : List (Key × V)), vs = [.ref m, .str z] ∧ ModAt C H m n p d kvs ∧ Q ((valV kvs (.inr z)).getD .non) H
def spLInit (C : Addr) : Sp := fun vs H Q _ => ∃ (x dx m : Addr) (r : Str), vs = [.ref x, .ref m, .str r] ∧ H x = some (.ins C dx []) ∧ ∀ H', Kp [x] H H' → H' x = some (.ins C dx (lateF m r)) → Q .non H'
/-- a thing told -/
inductive ToldOf (CM CL : Addr) (H : Hp) : V → Prop
  | int (n : Int) : ToldOf CM CL H (.int n)
  | mod {m dx d : Addr} {n : Int} {p : Str} : H m = some (.ins CM dx (modF n p d)) → ToldOf CM CL H (.ref m)
  | late {x dx m dm d : Addr} {r p : Str} {n : Int} : H x = some (.ins CL dx (lateF m r)) → H m = some (.ins CM dm (modF n p d)) → ToldOf CM CL H (.ref x)
def spTold (CM CL : Addr) : Sp := fun vs H Q _ =>
  (∃ n : Int, vs = [.int n] ∧ Q (.int n) H) ∨
  (∃ (m dx d : Addr) (n : Int) (p : Str), vs = [.ref m] ∧ H m = some (.ins CM dx (modF n p d)) ∧ ∀ t, H t = none → Q (.ref t) (upd H t (.tup [.str "module", .int n]))) ∨
  (∃ (x dx m dm d : Addr) (r p : Str) (n : Int), vs = [.ref x] ∧ H x = some (.ins CL dx (lateF m r)) ∧ H m = some (.ins CM dm (modF n p d)) ∧ ∀ t, H t = none → Q (.ref t) (upd H t (.tup [.str "function", .int n, .str r])))
/-! faults -/
def spFInit (C : Addr) : Sp := fun vs H Q _ => ∃ (x : Addr) (v : V), vs = [.ref x, v] ∧ H x = some (exo x C none) ∧ ∀ dx, H dx = none → dx ≠ x → Q .non (upd (upd H dx (exd dx [("fault", v)])) x (exo x C (some dx)))
theorem kp_raise {H : Hp} {a dx : Addr} {o1 o2 u x : HO} (ha : H a = none) (hd : H dx = none) : Kp [] H (upd (del (upd (upd (upd H a o1) dx u) a o2) a) dx x) := fun q o _ h => by
  have n1 : q ≠ a := fun e => by rw [e, ha] at h; cases h
  have n2 : q ≠ dx := fun e => by rw [e, hd] at h; cases h
  rw [upd_ne n2, del_ne n1, upd_ne n1, upd_ne n2, upd_ne n1]
  exact h
/-- a fault made -/
theorem fault_made {C : Addr} {H : Hp} {v : V} {R : XK} (q : ∀ H' d, Kp [] H H' → H' d = some (.xd [("fault", v)]) → R (.ref C) (some d) H') : ∀ a, H a = none → spFInit C (.ref a :: ([v] ++ [])) (upd H a (exo a C none))
    (fun y H2 => y = .non ∧ ∃ (d : Addr) (fs : List (Str × V)), H2 a = some (exo a C (some d)) ∧ H2 d = some (exd d fs) ∧ H d = none ∧ R (.ref C) (some d) (upd (del H2 a) d (.xd fs))) (fun _ _ _ => False) := fun a ha =>
  ⟨a, v, rfl, upd_same, fun dx nd ne => by
    have hd : H dx = none := (upd_ne ne).symm.trans nd
    exact ⟨rfl, dx, _, upd_same, (upd_ne ne).trans upd_same, hd, q _ dx (kp_raise ha hd) upd_same⟩⟩
/-- Failed: its fault, its road, a list of its own -/
def spXInit (K : PySem.W.Frag) (C : Addr) : Sp := fun vs H Q _ => ∃ (x l : Addr) (v : V) (xs : List V), vs = [.ref x, v, .ref l] ∧ H x = some (exo x C none) ∧ H l = some (.lst xs) ∧ ∀ dx p, H dx = none → dx ≠ x → p ≠ dx → p ≠ x → H p = none →
  Q .non (upd (upd (upd (upd H dx (exd dx [("fault", v)])) x (exo x C (some dx))) p (.lst xs)) dx (exd dx [("road", .ref p), ("fault", v)]))
theorem failed_made {K : PySem.W.Frag} {C : Addr} {H : Hp} {v : V} {l : Addr} {xs : List V} {R : XK} (hl : H l = some (.lst xs))
    (q : ∀ H' d p, Kp [] H H' → H' d = some (.xd [("road", .ref p), ("fault", v)]) → H' p = some (.lst xs) → H p = none → R (.ref C) (some d) H') : ∀ a, H a = none → spXInit K C (.ref a :: ([v, .ref l] ++ [])) (upd H a (exo a C none))
    (fun y H2 => y = .non ∧ ∃ (d : Addr) (fs : List (Str × V)), H2 a = some (exo a C (some d)) ∧ H2 d = some (exd d fs) ∧ H d = none ∧ R (.ref C) (some d) (upd (del H2 a) d (.xd fs))) (fun _ _ _ => False) := fun a ha =>
  ⟨a, l, v, xs, rfl, upd_same, (upd_ne (ne_of_none hl ha)).trans hl, fun dx p nd ne n1 n2 np => by
    have hd : H dx = none := (upd_ne ne).symm.trans nd
    have hp : H p = none := (upd_ne n2).symm.trans np
    refine ⟨rfl, dx, _, (upd_ne ne.symm).trans ((upd_ne n2.symm).trans upd_same), upd_same, hd, q _ dx p (fun z o _ h => ?_) upd_same ((upd_ne n1).trans ((del_ne n2).trans ((upd_ne n1).trans upd_same))) hp⟩
    have c1 : z ≠ a := fun e => by rw [e, ha] at h; cases h
    have c2 : z ≠ dx := fun e => by rw [e, hd] at h; cases h
    have c3 : z ≠ p := fun e => by rw [e, hp] at h; cases h
    rw [upd_ne c2, del_ne c1, upd_ne c2, upd_ne c3, upd_ne c1, upd_ne c2, upd_ne c1]
    exact h⟩
end PH

/-! FHe: what a house's methods promise. -/
namespace PH
open PySem PySem.Spec PyProof.Rows L2 HL TL
/-- the stage of a row, and that it binds but names that are its path's -/
def stage : Row → Nat
  | .set _ _ => 3
  | .take _ _ => 3
  | .note _ => 3
  | .draw _ _ _ => 4
  | .now _ _ => 4
  | .late _ _ => 4
  | .ask _ _ => 4
  | .fail _ => 5
  | .tr _ _ _ => 5
def RowZ (zs : List Str) : Nat → Row → Prop
  | _, .set x _ => x ∈ zs
  | _, .now x _ => x ∈ zs
  | _, .take x _ => x ∈ zs
  | _, .draw x _ _ => x ∈ zs
  | _, .late x _ => x ∈ zs
  | _, .ask x _ => x ∈ zs
  | _, .note _ => True
  | _, .fail _ => True
  | d + 1, .tr a _ b => (∀ r ∈ a, RowZ zs d r) ∧ ∀ r ∈ b, RowZ zs d r
  | 0, .tr _ _ _ => False
structure WOk (st : Nat) (W : Wd) (ps : List Str) (w : Way) : Prop where
  way : WayOk ps w
  bod : Bodies ps W.fnd
  zs : ∀ p, (W.zs p).length < 64
  row : ∀ p b, W.fnd p = some b → ∀ r ∈ b, RowZ (W.zs p) 3 r
  stg : ∀ p b, W.fnd p = some b → ∀ r ∈ b, stage r ≤ st
section
variable (K : PySem.W.Frag) (C : Cl) (CF : Addr) (W : Wd) (h : HA) (H : Hp) (s : Hs) (a : Ab)
/-- a fault at d -/
def FaultAt (H : Hp) (d : Addr) (f : PyData) : Prop := ∃ v, H d = some (.xd [("fault", v)]) ∧ Dp K H v f ∧ flatD f = true
def WishM (Q : VK) (E : XK) (r : Rs Nat) : Prop :=
  (∀ b m, r = (b, .ok m) → ∀ H' s', Stp K C W h H s a H' s' b → m < b.qs.length → Q (.ref (mAt s'.ms m)) H') ∧
  ∀ b f, r = (b, .error f) → ∀ H' s' d, Stp K C W h H s a H' s' b → FaultAt K H' d f → E (.ref CF) (some d) H'
def WishU (Q : VK) (E : XK) (r : Rs Unit) : Prop :=
  (∀ b, r = (b, .ok ()) → ∀ H' s', Stp K C W h H s a H' s' b → Q .non H') ∧
  ∀ b f, r = (b, .error f) → ∀ H' s' d, Stp K C W h H s a H' s' b → FaultAt K H' d f → E (.ref CF) (some d) H'
end
/-- what is asked ahead of each doing -/
structure Pre (K : PySem.W.Frag) (C : Cl) (st : Nat) (W : Wd) (ps : List Str) (w : Way) (h : HA) (H : Hp) (s : Hs) (a : Ab) (n : Nat) : Prop where
  ok : WOk st W ps w
  at_ : HouseAt K C W H h s a
  rem : rem ps a < n
  lot : lot ps a ≤ 800000
  line : a.line.length + n ≤ 1000
section
variable (K : PySem.W.Frag) (C : Cl) (CF : Addr) (st : Nat) (w : Way)
def spUp : Sp := fun vs H _ E => ∃ (W : Wd) (h : HA) (s : Hs) (a : Ab) (v : V) (f : PyData), vs = [.ref h.self, v] ∧ HouseAt K C W H h s a ∧ a.line.length ≤ 1000 ∧ Dp K H v f ∧ flatD f = true ∧
  ∀ H' s' d, Stp K C W h H s a H' s' a.up → FaultAt K H' d f → E (.ref CF) (some d) H'
def spFound : Sp := fun vs H Q _ => ∃ (W : Wd) (h : HA) (s : Hs) (a : Ab) (p : Str), vs = [.ref h.self, .str p] ∧ HouseAt K C W H h s a ∧ (W.fnd p = none → Q .non H) ∧ ∀ b u, W.fnd p = some b → Dp K H (.ref u) (.tuple (rowsD b)) → Q (.ref u) H
def spNote : Sp := fun vs H Q _ => ∃ (W : Wd) (h : HA) (s : Hs) (a : Ab) (p : Str) (pre : List (Nat × Nat)) (x : Nat × Nat), vs = [.ref h.self, .str p] ∧ HouseAt K C W H h s a ∧ a.line = pre ++ [x] ∧ (∀ q, (W.zs q).length < 64) ∧ a.log.length ≤ 900000 ∧
  ∀ H' s', Stp K C W h H s a H' s' (a.put (noteE x.1 (a.noted p))) → Q .non H'
def spWhole : Sp := fun vs H Q _ => ∃ (W : Wd) (h : HA) (s : Hs) (a : Ab) (k : Nat) (o : Mo), vs = [.ref h.self, .ref o.m] ∧ HouseAt K C W H h s a ∧ s.ms[k]? = some o ∧ lot [] a ≤ 900000 ∧ ∀ H' s', Stp K C W h H s a H' s' (w.wh a k) → Q .non H'
def spOne (n : Nat) : Sp := fun vs H Q E => ∃ (W : Wd) (ps : List Str) (h : HA) (s : Hs) (a : Ab) (p : Str), vs = [.ref h.self, .str p] ∧ Pre K C st W ps w h H s a n ∧ WishM K C CF W h H s a Q E (oneF w W.fnd n a p)
def spTaken (n : Nat) : Sp := fun vs H Q E => ∃ (W : Wd) (ps : List Str) (h : HA) (s : Hs) (a : Ab) (p : Str), vs = [.ref h.self, .str p] ∧ Pre K C st W ps w h H s a n ∧ lot ps a + 4 ≤ 800000 ∧ WishM K C CF W h H s a Q E (w.tk (oneF w W.fnd n) a p)
def spDo (n d : Nat) : Sp := fun vs H Q E => ∃ (W : Wd) (ps : List Str) (h : HA) (s : Hs) (a : Ab) (v : V) (r : Row) (pre : List (Nat × Nat)) (x : Nat × Nat), vs = [.ref h.self, v] ∧ Pre K C st W ps w h H s a n ∧ a.line = pre ++ [x] ∧ Dp K H v (r.dat d) ∧ RowZ (W.zs (a.path x.1)) d r ∧ stage r ≤ st ∧ lot ps a + 6 * cntR d r ≤ 800000 ∧
  WishU K C CF W h H s a Q E (rowF w (oneF w W.fnd n) d r a)
def spDoBody (n : Nat) : Sp := fun vs H Q E => ∃ (W : Wd) (ps : List Str) (h : HA) (s : Hs) (a : Ab) (v : V) (b : List Row) (pre : List (Nat × Nat)) (x : Nat × Nat), vs = [.ref h.self, v] ∧ Pre K C st W ps w h H s a n ∧ a.line = pre ++ [x] ∧ Dp K H v (.tuple (rowsD b)) ∧
  (∀ r ∈ b, RowZ (W.zs (a.path x.1)) 3 r) ∧ (∀ r ∈ b, stage r ≤ st) ∧ cntsR 3 b ≤ 40 ∧ lot ps a + 6 * cntsR 3 b ≤ 800000 ∧ WishU K C CF W h H s a Q E (bodyF (rowF w (oneF w W.fnd n) 3) 0 b a)
end
/-- a body run with a module that stands -/
noncomputable def runBF (w : Way) (on : Ab → Str → Rs Nat) (k : Nat) (body : List Row) (a : Ab) : Rs Unit := match bodyF (rowF w on 3) 0 body ((a.papped (papE k a.line)).pushed k) with
  | (b, .ok _) => (b.fin k, .ok ())
  | (b, .error f) => (b.popped.put (failE k f), .error f)
def afterB (w : Way) (k : Nat) (p : Str) : Rs Unit → Rs Nat
  | (b, .ok _) => (w.wh b k, .ok k)
  | (b, .error f) => (((b.untab p).brok p k f).fated k, .error f)
theorem begin_by (w : Way) (on : Ab → Str → Rs Nat) (a : Ab) (p : Str) (body : List Row) : beginF w on a p body = afterB w a.qs.length p (runBF w on a.qs.length body ((a.opened p).put (beginE a.qs.length p))) := by
  unfold beginF runBF
  have e : ((((a.opened p).put (beginE a.qs.length p)).papped (papE a.qs.length ((a.opened p).put (beginE a.qs.length p)).line)).pushed a.qs.length) = a.begin p := rfl
  rw [e]
  rcases bodyF (rowF w on 3) 0 body (a.begin p) with ⟨b, m | m⟩ <;> rfl
section
variable (K : PySem.W.Frag) (C : Cl) (CF : Addr) (st : Nat) (w : Way)
def spRunBody (n : Nat) : Sp := fun vs H Q E => ∃ (W : Wd) (ps : List Str) (h : HA) (s : Hs) (a : Ab) (k : Nat) (o : Mo) (v : V) (b : List Row), vs = [.ref h.self, .ref o.m, v] ∧ Pre K C st W ps w h H s a n ∧ s.ms[k]? = some o ∧ Dp K H v (.tuple (rowsD b)) ∧
  (∀ r ∈ b, RowZ (W.zs (a.path k)) 3 r) ∧ (∀ r ∈ b, stage r ≤ st) ∧ cntsR 3 b ≤ 40 ∧ a.line.length + n ≤ 999 ∧ lot ps a + 250 ≤ 800000 ∧ WishU K C CF W h H s a Q E (runBF w (oneF w W.fnd n) k b a)
def spBegin (n : Nat) : Sp := fun vs H Q E => ∃ (W : Wd) (ps : List Str) (h : HA) (s : Hs) (a : Ab) (p : Str) (v : V) (b : List Row), vs = [.ref h.self, .str p, v] ∧ Pre K C st W ps w h H s a (n + 1) ∧ W.fnd p = some b ∧ getA a.tab p = none ∧ getA a.brk p = none ∧ Dp K H v (.tuple (rowsD b)) ∧
  WishM K C CF W h H s a Q E (beginF w (oneF w W.fnd n) a p b)
/-- Failed at d: its fault, its road -/
def FailedAt (H : Hp) (d : Addr) (f : PyData) (road : List PyData) : Prop := ∃ v l xs, H d = some (.xd [("road", .ref l), ("fault", v)]) ∧ Dp K H v f ∧ flatD f = true ∧ H l = some (.lst xs) ∧ DLst K H xs road
def spTake (CX : Addr) (n : Nat) : Sp := fun vs H Q E => ∃ (W : Wd) (ps : List Str) (h : HA) (s : Hs) (a : Ab) (p : Str), vs = [.ref h.self, .str p] ∧ isPathL (tl p) = true ∧ WOk st W ps w ∧ rem ps a.unbroken < n ∧ lot ps a.unbroken ≤ 700000 ∧ a.line.length + n ≤ 1000 ∧ HouseAt K C W H h s a ∧
  (∀ b m, w.tk (oneF w W.fnd n) a.unbroken p = (b, .ok m) → ∀ H' s', Stp K C W h H s a H' s' b → Q (.int ((m + 1 : Nat) : Int)) H') ∧
  ∀ b f, w.tk (oneF w W.fnd n) a.unbroken p = (b, .error f) → ∀ H' s' d, Stp K C W h H s a H' s' b → FailedAt K H' d f b.met → E (.ref CX) (some d) H'
end
section
variable {K : PySem.W.Frag} {C : Cl} {W : Wd} {H : Hp} {h : HA} {s : Hs} {a : Ab}
/-- the running body -/
theorem HouseAt.last (I : HouseAt K C W H h s a) {pre : List (Nat × Nat)} {x : Nat × Nat} (e : a.line = pre ++ [x]) : ∃ cp c o, s.cells = cp ++ [c] ∧ atI (s.cells.map V.ref) (-1) = some (.ref c) ∧ s.ms[x.1]? = some o ∧ H c = some (.lst [.ref o.m, .int (x.2 : Nat)]) := by
  obtain ⟨cp, c, e1, e2⟩ := I.cell e
  obtain ⟨o, eo⟩ := I.ms (I.ok.lk x (by rw [e]; exact mem_end))
  refine ⟨cp, c, o, e1, by rw [e1, List.map_append]; exact atI_last _ _, eo, ?_⟩
  rw [e2, ← mAt_of eo]
theorem top_of {a : Ab} {pre : List (Nat × Nat)} {x : Nat × Nat} (e : a.line = pre ++ [x]) : a.top = x := by unfold Ab.top; rw [e, List.getLast?_concat]; rfl
theorem HouseAt.tabGet (I : HouseAt K C W H h s a) (p : Str) : (getA a.tab p = none ∧ valV (tabV s.ms a.tab) (.inr p) = none) ∨ ∃ k o, getA a.tab p = some k ∧ s.ms[k]? = some o ∧ a.path k = p ∧ valV (tabV s.ms a.tab) (.inr p) = some (.ref o.m) := by
  have e : valV (tabV s.ms a.tab) (.inr p) = (getA a.tab p).map fun k => V.ref (mAt s.ms k) := val_map (g := fun k => V.ref (mAt s.ms k))
  cases h : getA a.tab p with
  | none => rw [h] at e; exact .inl ⟨rfl, e⟩
  | some k =>
    rw [h] at e
    have q := I.ok.tk _ (getA_mem h)
    have lk := (List.getElem?_eq_some_iff.mp q).1
    obtain ⟨o, eo⟩ := I.ms lk
    refine .inr ⟨k, o, rfl, eo, ?_, e.trans (by show some (V.ref (mAt s.ms k)) = _; rw [mAt_of eo])⟩
    show a.qs.getD k "" = p
    rw [List.getD_eq_getElem?_getD]
    have q : a.qs[k]? = some p := q
    rw [q]; rfl
theorem Stp.new1 (I : HouseAt K C W H h s a) {t : Addr} {o : HO} (n : H t = none) : Stp K C W h H s a (upd H t o) s a := Stp.same I (kp_new n)
end
end PH

/-! FHf: rows and finders that a house takes. -/
namespace PH
open PySem PySem.Spec PyProof.Rows L2 HL TL
abbrev NmOk (z : Str) : Prop := isNameL (tl z) = true
abbrev PthOk (z : Str) : Prop := isPathL (tl z) = true
theorem PthOk.len {z : Str} (h : PthOk z) : z.length ≤ 35 := by rw [len_tl]; exact (isPathL_facts h).2.1
def RowOk : Nat → Row → Prop
  | _, .set x n => NmOk x ∧ n.natAbs < 10 ^ 400
  | _, .now x r => NmOk x ∧ PthOk r
  | _, .take x p => NmOk x ∧ PthOk p
  | _, .draw x p y => NmOk x ∧ PthOk p ∧ NmOk y
  | _, .late x r => NmOk x ∧ PthOk r
  | _, .ask x r => NmOk x ∧ PthOk r
  | _, .note p => PthOk p
  | _, .fail w => NmOk w
  | d + 1, .tr a ws b => (∀ r ∈ a, RowOk d r) ∧ OkWords ws ∧ ∀ r ∈ b, RowOk d r
  | 0, .tr _ _ _ => False
theorem sD_tl (z : Str) : sD (tl z) = .str z := congrArg PyData.str (mkS_tl z)
theorem okflat_dat {d : Nat} {r : Row} (n : ∀ a ws b, r ≠ .tr a ws b) (h : RowOk d r) : OkFlat (r.dat d) := by
  have h3 : ∀ (w : Str) (x q : Str), w ∈ leadW → NmOk x → PthOk q → OkFlat (.tuple [S w, S x, S q]) := fun w x q hw a b => by
    have := OkFlat.lead (w := w) hw a b
    rwa [sD_tl, sD_tl] at this
  cases r with
  | set x m =>
    have : OkFlat (.tuple [.str "set", sD (tl x), .int m]) := by cases d <;> exact .set h.1 h.2
    rw [sD_tl] at this
    cases d <;> exact this
  | now x q => cases d <;> exact h3 _ _ _ (by simp [leadW]) h.1 h.2
  | take x q => cases d <;> exact h3 _ _ _ (by simp [leadW]) h.1 h.2
  | late x q => cases d <;> exact h3 _ _ _ (by simp [leadW]) h.1 h.2
  | ask x q => cases d <;> exact h3 _ _ _ (by simp [leadW]) h.1 h.2
  | draw x q y =>
    have : OkFlat (.tuple [.str "draw", sD (tl x), sD (tl q), sD (tl y)]) := by cases d <;> exact .draw h.1 h.2.1 h.2.2
    rw [sD_tl, sD_tl, sD_tl] at this
    cases d <;> exact this
  | note q =>
    have : OkFlat (.tuple [.str "note", sD (tl q)]) := by cases d <;> exact .note h
    rw [sD_tl] at this
    cases d <;> exact this
  | fail q =>
    have : OkFlat (.tuple [.str "fail", sD (tl q)]) := by cases d <;> exact .fail h
    rw [sD_tl] at this
    cases d <;> exact this
  | tr a ws b => exact absurd rfl (n a ws b)
theorem RowOk.dat : ∀ {d : Nat} {r : Row}, RowOk d r → OkRow d (r.dat d) ∧ cntRow d (r.dat d) = cntR d r := by
  intro d
  induction d with
  | zero =>
    intro r h
    have n : ∀ a ws b, r ≠ .tr a ws b := fun a ws b e => by subst e; exact h
    exact ⟨.flat (okflat_dat n h), by rw [cntRow_flat (okflat_dat n h)]; cases r <;> rfl⟩
  | succ d ih =>
    intro r h
    by_cases c : ∃ a ws b, r = .tr a ws b
    · obtain ⟨a, ws, b, rfl⟩ := c
      obtain ⟨ha, hw, hb⟩ := h
      have m : ∀ (l : List Row), (∀ r ∈ l, RowOk d r) → (∀ y ∈ l.map (Row.dat d), OkRow d y) ∧ cnts d (l.map (Row.dat d)) = (l.map (cntR d)).sum := fun l hl => by
        refine ⟨fun y hy => ?_, ?_⟩
        · obtain ⟨r, hr, rfl⟩ := List.mem_map.mp hy
          exact (ih (hl r hr)).1
        · unfold cnts
          rw [List.map_map]
          congr 1
          exact List.map_congr_left fun r hr => (ih (hl r hr)).2
      refine ⟨.tryr (m a ha).1 hw (m b hb).1, ?_⟩
      show cntRow (d + 1) (.tuple [.str "try", .tuple (a.map (Row.dat d)), .tuple (ws.map .str), .tuple (b.map (Row.dat d))]) = _
      rw [cntRow_try, (m a ha).2, (m b hb).2]
      rfl
    · have n : ∀ a ws b, r ≠ .tr a ws b := fun a ws b e => c ⟨a, ws, b, e⟩
      refine ⟨.flat (okflat_dat n h), ?_⟩
      rw [cntRow_flat (okflat_dat n h)]
      cases r <;> first | rfl | exact absurd rfl (n _ _ _)
structure BodyOk (b : List Row) : Prop where
  row : ∀ r ∈ b, RowOk 3 r
  cnt : cntsR 3 b ≤ 40
theorem BodyOk.cnts {b : List Row} (h : BodyOk b) : cnts 3 (rowsD b) = cntsR 3 b := by
  unfold HL.cnts cntsR
  rw [List.map_map]
  congr 1
  exact List.map_congr_left fun r hr => (h.row r hr).dat.2
theorem BodyOk.len {b : List Row} (h : BodyOk b) : b.length ≤ 40 := by
  have : ∀ l : List Row, l.length ≤ cntsR 3 l := fun l => by
    induction l with
    | nil => exact Nat.zero_le _
    | cons r t ih =>
      have := cnt_pos 3 r
      show t.length + 1 ≤ ((r :: t).map (cntR 3)).sum
      rw [List.map_cons, List.sum_cons]
      have : t.length ≤ (t.map (cntR 3)).sum := ih
      omega
  exact Nat.le_trans (this b) h.cnt
theorem BodyOk.good {b : List Row} (h : BodyOk b) : (∀ x ∈ rowsD b, RowG x) ∧ (rowsD b).length ≤ 100000 ∧ ((rowsD b).all (isRowX 3) && decide (HL.cnts 3 (rowsD b) ≤ 40)) = true := by
  have g : ∀ x ∈ rowsD b, RowG x ∧ isRowX 3 x = true := fun x hx => by
    have c := le_sum_mem (d := 3) hx
    rw [h.cnts] at c
    obtain ⟨r, hr, rfl⟩ := List.mem_map.mp hx
    exact (h.row r hr).dat.1.good (by have := h.cnt; omega)
  refine ⟨fun x hx => (g x hx).1, by rw [List.length_map]; have := h.len; omega, ?_⟩
  rw [h.cnts, decide_eq_true h.cnt, Bool.and_true, List.all_eq_true]
  exact fun x hx => (g x hx).2
/-! finders -/
abbrev Shelf := List (Str × List Row)
def fndS (ds : List Shelf) (p : Str) : Option (List Row) := ds.findSome? fun d => getA d p
structure ShelfOk (d : Shelf) : Prop where
  pth : ∀ e ∈ d, PthOk e.1 ∧ BodyOk e.2
  few : d.length ≤ 1000
structure ShR (K : PySem.W.Frag) (H : Hp) (x : Sf) (d : Shelf) : Prop where
  at_ : H x.a = some (.dK x.kvs)
  nm : NmR (fun b v => Dp K H v (.tuple (rowsD b))) d x.kvs
theorem ShR.tup {K : PySem.W.Frag} {H H' : Hp} {x x' : Sf} {d : Shelf} (h : ShR K H x d) (t : TupK H H') (e : H' x'.a = some (.dK x'.kvs)) (k : x'.kvs = x.kvs) : ShR K H' x' d := ⟨e, k ▸ h.nm.mono fun b v q => Dp.tups t _ _ (flat_rowsD b) q⟩
theorem fnd_at {K : PySem.W.Frag} {H : Hp} {p : Str} : ∀ {shs : List Sf} {ds : List Shelf}, Paired (ShR K H) shs ds → FndAt K H shs p (fndS ds p)
  | _, _, .nil => fun x hx => nomatch hx
  | x :: shs, d :: ds, .cons h t => by
    unfold fndS
    rw [List.findSome?_cons]
    rcases h.nm.get p with ⟨g, gv⟩ | ⟨b, v, g, gv, dv⟩
    · rw [g]
      have ih := fnd_at (p := p) t
      unfold fndS at ih
      dsimp only
      cases e : ds.findSome? fun d => getA d p with
      | none =>
        rw [e] at ih
        intro y hy
        rcases List.mem_cons.mp hy with rfl | hy
        · exact gv
        · exact ih y hy
      | some b =>
        rw [e] at ih
        obtain ⟨j, y, v, ej, ev, lt, dv⟩ := ih
        refine ⟨j + 1, y, v, ej, ev, fun i z hi ez => ?_, dv⟩
        cases i with
        | zero => cases ez; exact gv
        | succ i => exact lt i z (by omega) ez
    · rw [g]
      exact ⟨0, x, v, rfl, gv, fun i y hi => absurd hi (Nat.not_lt_zero _), dv⟩
theorem fndS_mem {ds : List Shelf} {p : Str} {b : List Row} (h : fndS ds p = some b) : ∃ d ∈ ds, (p, b) ∈ d := by
  unfold fndS at h
  obtain ⟨d, hd, e⟩ := List.exists_of_findSome?_eq_some h
  exact ⟨d, hd, getA_mem e⟩
/-! fields put one behind the other -/
theorem putF_len {f : Str} {v : V} : ∀ fs : List (Str × V), (putF f v fs).length ≤ fs.length + 1
  | [] => Nat.le_refl _
  | (g, x) :: r => by
    have := putF_len (f := f) (v := v) r
    show (if g = f then (g, v) :: r else (g, x) :: putF f v r).length ≤ _
    split
    · exact Nat.le_succ _
    · show _ + 1 ≤ _ + 1 + 1
      omega
structure NF (CR : Addr) (H1 H : Hp) (me dx : Addr) (fs : List (Str × V)) (cs : List (Addr × HO)) : Prop where
  ob : H me = some (.ins CR dx fs)
  kp : Kp [me] H1 H
  at_ : ∀ c ∈ cs, H c.1 = some c.2 ∧ H1 c.1 = none
  nd : (me :: cs.map (·.1)).Nodup
  ln : fs.length ≤ cs.length + 1
theorem NF.get {CR : Addr} {H1 H : Hp} {me dx : Addr} {fs : List (Str × V)} {cs : List (Addr × HO)} (N : NF CR H1 H me dx fs cs) {l : Addr} {o : HO} (hl : H l = none) : upd H l o me = some (.ins CR dx fs) := (upd_ne (ne_of_none N.ob hl)).trans N.ob
theorem NF.step {CR : Addr} {H1 H : Hp} {me dx : Addr} {fs : List (Str × V)} {cs : List (Addr × HO)} (N : NF CR H1 H me dx fs cs) {l : Addr} {o : HO} (hl : H l = none) (f : Str) :
    NF CR H1 (upd (upd H l o) me (.ins CR dx (putF f (.ref l) fs))) me dx (putF f (.ref l) fs) (cs ++ [(l, o)]) := by
  have ns : me ≠ l := ne_of_none N.ob hl
  have nd := List.nodup_cons.mp N.nd
  refine ⟨upd_same, (N.kp.upd_new hl).upd_mem List.mem_cons_self, fun c hc => ?_, ?_, ?_⟩
  · rcases List.mem_append.mp hc with hc | hc
    · obtain ⟨a1, a2⟩ := N.at_ c hc
      exact ⟨(upd_ne fun e => nd.1 (List.mem_map.mpr ⟨c, hc, e⟩)).trans ((upd_ne (ne_of_none a1 hl)).trans a1), a2⟩
    · rw [List.mem_singleton.mp hc]
      exact ⟨(upd_ne ns.symm).trans upd_same, N.kp.free ⟨ns.symm, trivial⟩ hl⟩
  · rw [List.map_append, List.nodup_cons, List.mem_append, not_or]
    refine ⟨⟨nd.1, fun m => ns (by simpa using m)⟩, List.nodup_append.mpr ⟨nd.2, List.pairwise_singleton _ _, fun a ha b hb e => ?_⟩⟩
    have hb : b = l := List.mem_singleton.mp hb
    subst hb
    subst e
    obtain ⟨c, hc, e⟩ := List.mem_map.mp ha
    have := (N.at_ c hc).1
    rw [e, hl] at this
    cases this
  · have := N.ln
    have := putF_len (f := f) (v := V.ref l) fs
    rw [List.length_append, List.length_singleton]
    omega
theorem valV_no : ∀ {kvs : List (Key × V)} {k : Key}, k ∉ kvs.map (·.1) → valV kvs k = none
  | [], _, _ => rfl
  | x :: r, k, n => (valV_neg fun e => n (by rw [List.map_cons, e]; exact List.mem_cons_self)).trans (valV_no fun h => n (by rw [List.map_cons]; exact List.mem_cons_of_mem _ h))
theorem mergeK_nd : ∀ (more kvs : List (Key × V)), ((kvs ++ more).map (·.1)).Nodup → mergeK kvs more = kvs ++ more
  | [], kvs, _ => (List.append_nil _).symm
  | x :: r, kvs, n => by
    have un : valV kvs x.1 = none := valV_no fun h => by
      rw [List.map_append, List.nodup_append] at n
      exact n.2.2 _ h _ (by rw [List.map_cons]; exact List.mem_cons_self) rfl
    show mergeK (putK kvs x.1 x.2) r = _
    rw [L2.putK_new _ un, mergeK_nd r _ (by rw [List.append_assoc]; exact n), List.append_assoc]
    rfl
abbrev tabN (a : Ab) : List (Key × V) := a.tab.map fun x => ((Sum.inr x.1 : Key), V.int ((x.2 + 1 : Nat) : Int))
def Ab0 : Ab := ⟨[], [], [], [], [], [], [], [], []⟩
end PH

/-! FHg: a walk's own dicts: its table, its names, what is under way. -/
namespace PH
open PySem PySem.Spec PyProof.Rows L2 HL TL
structure WA where
  O : Addr
  S : Addr
  tb : Addr
  nm : Addr
  un : Addr
def numsV : List Addr → Nat → List (Key × V)
  | [], _ => []
  | d :: r, i => (Sum.inl ((i + 1 : Nat) : Int), V.ref d) :: numsV r (i + 1)
theorem nums_val : ∀ (ds : List Addr) (i k : Nat), valV (numsV ds i) (.inl ((i + k + 1 : Nat) : Int)) = (ds[k]?).map V.ref
  | [], _, _ => rfl
  | d :: r, i, 0 => valV_pos rfl
  | d :: r, i, k + 1 => by
    have h := nums_val r (i + 1) k
    rw [show i + 1 + k + 1 = i + (k + 1) + 1 from by omega] at h
    exact (valV_neg fun e => by have := Sum.inl.inj e; omega).trans h
theorem nums_snoc : ∀ (ds : List Addr) (i : Nat) (d : Addr), numsV (ds ++ [d]) i = numsV ds i ++ [(Sum.inl ((i + ds.length + 1 : Nat) : Int), V.ref d)]
  | [], i, d => rfl
  | x :: r, i, d => by
    show _ :: numsV (r ++ [d]) (i + 1) = _
    rw [nums_snoc r (i + 1) d, List.length_cons, show i + (r.length + 1) + 1 = i + 1 + r.length + 1 from by omega]
    rfl
theorem nums_len : ∀ (ds : List Addr) (i : Nat), (numsV ds i).length = ds.length
  | [], _ => rfl
  | _ :: r, i => by show (numsV r (i + 1)).length + 1 = _; rw [nums_len r]; rfl
theorem nums_none (ds : List Addr) : valV (numsV ds 0) (.inl ((ds.length + 1 : Nat) : Int)) = none := by
  have := nums_val ds 0 ds.length
  rw [Nat.zero_add, List.getElem?_eq_none (Nat.le_refl _)] at this
  exact this
abbrev wF (h : WA) : List (Key × V) := [(.inr "stock", .ref h.S), (.inr "table", .ref h.tb), (.inr "names", .ref h.nm), (.inr "under", .ref h.un)]
abbrev nkv (zs : List (Str × Th)) : List (Key × V) := zs.map fun z => ((Sum.inr z.1 : Key), (fun _ => V.bl true : Th → V) z.2)
abbrev unO (a : Ab) (x : Nat × Nat) : HO := .lst [.int ((x.1 + 1 : Nat) : Int), .str (a.path x.1), .int (x.2 : Nat)]
abbrev wimg1 (h : WA) (ds us : List Addr) (s : MSt) : List (Addr × HO) := [(h.O, .dK (wF h)), (h.tb, .dK (tabN s.a)), (h.nm, .dK (numsV ds 0)), (h.un, .lst (us.map V.ref))]
abbrev wimgD (ds : List Addr) (nm : List (List (Str × Th))) : List (Addr × HO) := List.zipWith (fun d n => (d, HO.dK (nkv n))) ds nm
abbrev wimgU (us : List Addr) (a : Ab) (l : List (Nat × Nat)) : List (Addr × HO) := List.zipWith (fun u x => (u, unO a x)) us l
abbrev wimgF (fs : List (Addr × List V)) : List (Addr × HO) := fs.map fun x => (x.1, HO.lst x.2)
def wimg (h : WA) (ds us : List Addr) (s : MSt) (fs : List (Addr × List V)) : List (Addr × HO) := wimg1 h ds us s ++ (wimgD ds s.a.nm ++ (wimgU us s.a s.l ++ wimgF fs))
theorem wimg_soft {h : WA} {ds us : List Addr} {s : MSt} {fs : List (Addr × List V)} : ∀ x ∈ wimg h ds us s fs, Soft x.2 := fun x hx => by
  unfold wimg at hx
  rcases List.mem_append.mp hx with hx | hx
  · simp only [wimg1, List.mem_cons, List.not_mem_nil, or_false] at hx
    rcases hx with rfl | rfl | rfl | rfl <;> first | exact .lst _ | exact .dK _
  · rcases List.mem_append.mp hx with hx | hx
    · unfold wimgD at hx
      rw [← List.map_uncurry_zip_eq_zipWith] at hx
      obtain ⟨y, _, rfl⟩ := List.mem_map.mp hx
      exact .dK _
    · rcases List.mem_append.mp hx with hx | hx
      · unfold wimgU at hx
        rw [← List.map_uncurry_zip_eq_zipWith] at hx
        obtain ⟨y, _, rfl⟩ := List.mem_map.mp hx
        exact .lst _
      · obtain ⟨y, _, rfl⟩ := List.mem_map.mp hx
        exact .lst _
structure WkAt (H : Hp) (h : WA) (ds us : List Addr) (s : MSt) (fs : List (Addr × List V)) : Prop where
  own : Owns H (wimg h ds us s fs)
  dl : ds.length = s.a.qs.length
  nl : s.a.nm.length = s.a.qs.length
  ul : us.length = s.l.length
  lk : ∀ x ∈ s.l, x.1 < s.a.qs.length
  tk : ∀ x ∈ s.a.tab, x.2 < s.a.qs.length
abbrev wown (h : WA) (ds us : List Addr) (s : MSt) (fs : List (Addr × List V)) : List Addr := adr (wimg h ds us s fs)
structure WStp (h : WA) (H : Hp) (ds us : List Addr) (s : MSt) (fs : List (Addr × List V)) (H' : Hp) (ds' us' : List Addr) (s' : MSt) (fs' : List (Addr × List V)) : Prop where
  at_ : WkAt H' h ds' us' s' fs'
  kp : Kp (wown h ds us s fs) H H'
  new : ∀ x ∈ wown h ds' us' s' fs', x ∈ wown h ds us s fs ∨ H x = none
section
variable {H H1 H2 : Hp} {h : WA} {ds us ds1 us1 ds2 us2 : List Addr} {s s1 s2 : MSt} {fs fs1 fs2 : List (Addr × List V)}
theorem WkAt.alike (I : WkAt H h ds us s fs) {a : Ab} (e1 : a.tab = s.a.tab) (e2 : a.nm = s.a.nm) (e3 : a.qs = s.a.qs) : WkAt H h ds us ⟨a, s.l⟩ fs := by
  have e : wimg h ds us ⟨a, s.l⟩ fs = wimg h ds us s fs := by
    have p : ∀ k, a.path k = s.a.path k := fun k => by unfold Ab.path; rw [e3]
    have u : (fun (x : Nat × Nat) => unO a x) = fun x => unO s.a x := funext fun x => by unfold unO; rw [p]
    have u2 : (fun (u : Addr) (x : Nat × Nat) => (u, unO a x)) = fun u x => (u, unO s.a x) := funext fun w => funext fun x => by rw [congrFun u x]
    unfold wimg wimg1 wimgU wimgD tabN
    dsimp only
    rw [e1, e2, u2]
  exact ⟨e ▸ I.own, by rw [show (MSt.mk a s.l).a.qs = s.a.qs from e3]; exact I.dl, by rw [show (MSt.mk a s.l).a.nm = s.a.nm from e2, show (MSt.mk a s.l).a.qs = s.a.qs from e3]; exact I.nl, I.ul, fun x hx => by rw [show (MSt.mk a s.l).a.qs = s.a.qs from e3]; exact I.lk x hx, fun x hx => by
    rw [show (MSt.mk a s.l).a.qs = s.a.qs from e3]
    exact I.tk x (e1 ▸ hx)⟩
theorem WkAt.alike_own {a : Ab} (e1 : a.tab = s.a.tab) (e2 : a.nm = s.a.nm) (e3 : a.qs = s.a.qs) : wown h ds us ⟨a, s.l⟩ fs = wown h ds us s fs := by
  have e : wimg h ds us ⟨a, s.l⟩ fs = wimg h ds us s fs := by
    have p : ∀ k, a.path k = s.a.path k := fun k => by unfold Ab.path; rw [e3]
    have u : (fun (x : Nat × Nat) => unO a x) = fun x => unO s.a x := funext fun x => by unfold unO; rw [p]
    have u2 : (fun (u : Addr) (x : Nat × Nat) => (u, unO a x)) = fun u x => (u, unO s.a x) := funext fun w => funext fun x => by rw [congrFun u x]
    unfold wimg wimg1 wimgU wimgD tabN
    dsimp only
    rw [e1, e2, u2]
  exact congrArg adr e
theorem WStp.refl (I : WkAt H h ds us s fs) : WStp h H ds us s fs H ds us s fs := ⟨I, Kp.refl, fun x hx => .inl hx⟩
theorem WStp.tr (x : WStp h H ds us s fs H1 ds1 us1 s1 fs1) (y : WStp h H1 ds1 us1 s1 fs1 H2 ds2 us2 s2 fs2) : WStp h H ds us s fs H2 ds2 us2 s2 fs2 := by
  refine ⟨y.at_, x.kp.step y.kp x.new, fun z hz => ?_⟩
  rcases y.new z hz with e | e
  · exact x.new z e
  · by_cases c : z ∈ wown h ds us s fs
    · exact .inl c
    · exact .inr (x.kp.free (Nin.intro fun w hw q => c (q ▸ hw)) e)
theorem WStp.keep (I : WkAt H h ds us s fs) (x : WStp h H ds us s fs H1 ds1 us1 s1 fs1) : Keep H H1 := I.own.keep wimg_soft x.kp
theorem WkAt.kp (I : WkAt H h ds us s fs) {W : List Addr} (k : Kp W H H1) (n : ∀ x ∈ wown h ds us s fs, x ∉ W) : WkAt H1 h ds us s fs := ⟨I.own.kp k n, I.dl, I.nl, I.ul, I.lk, I.tk⟩
theorem WkAt.same (I : WkAt H h ds us s fs) (k : Kp [] H H1) : WkAt H1 h ds us s fs := I.kp k fun _ _ => List.not_mem_nil
theorem WStp.same (I : WkAt H h ds us s fs) (k : Kp [] H H1) : WStp h H ds us s fs H1 ds us s fs := ⟨I.same k, k.weak fun x hx => absurd hx List.not_mem_nil, fun x hx => .inl hx⟩
theorem WStp.alike (x : WStp h H ds us s fs H1 ds1 us1 s1 fs1) {a : Ab} (e1 : a.tab = s1.a.tab) (e2 : a.nm = s1.a.nm) (e3 : a.qs = s1.a.qs) : WStp h H ds us s fs H1 ds1 us1 ⟨a, s1.l⟩ fs1 :=
  ⟨x.at_.alike e1 e2 e3, x.kp, fun z hz => x.new z (by rw [WkAt.alike_own e1 e2 e3] at hz; exact hz)⟩
/-- one owned address is written -/
theorem WkAt.set (I : WkAt H h ds us s fs) {L1 L2 : List (Addr × HO)} {y : Addr} {o o' : HO} (e : wimg h ds us s fs = L1 ++ (y, o) :: L2) (e' : wimg h ds1 us1 s1 fs1 = L1 ++ (y, o') :: L2)
    (ok : Owns (upd H y o') (wimg h ds1 us1 s1 fs1) → WkAt (upd H y o') h ds1 us1 s1 fs1) : WStp h H ds us s fs (upd H y o') ds1 us1 s1 fs1 := by
  have m : y ∈ wown h ds us s fs := by
    show y ∈ (wimg h ds us s fs).map (·.1)
    rw [e, List.map_append]
    exact List.mem_append_right _ List.mem_cons_self
  refine ⟨ok (e' ▸ (I.own.eq e).set), kp_upd m, fun z hz => .inl ?_⟩
  have : z ∈ (wimg h ds1 us1 s1 fs1).map (·.1) := hz
  show z ∈ (wimg h ds us s fs).map (·.1)
  rw [e', List.map_append] at this
  rw [e, List.map_append]
  exact this
theorem WkAt.O (I : WkAt H h ds us s fs) : H h.O = some (.dK (wF h)) := I.own.at_ (h.O, .dK (wF h)) (by simp [wimg])
theorem WkAt.tb (I : WkAt H h ds us s fs) : H h.tb = some (.dK (tabN s.a)) := I.own.at_ (h.tb, .dK (tabN s.a)) (by simp [wimg])
theorem WkAt.nm (I : WkAt H h ds us s fs) : H h.nm = some (.dK (numsV ds 0)) := I.own.at_ (h.nm, .dK (numsV ds 0)) (by simp [wimg])
theorem WkAt.un (I : WkAt H h ds us s fs) : H h.un = some (.lst (us.map V.ref)) := I.own.at_ (h.un, .lst (us.map V.ref)) (by simp [wimg])
theorem WkAt.fd {f : Addr} {vs : List V} (I : WkAt H h ds us s [(f, vs)]) : H f = some (.lst vs) := I.own.at_ (f, .lst vs) (by simp [wimg])
/-- the names of the k-th -/
theorem WkAt.names (I : WkAt H h ds us s fs) {k : Nat} (l : k < s.a.qs.length) : ∃ d, ds[k]? = some d ∧ H d = some (.dK (nkv (s.a.names k))) := by
  have l1 : k < ds.length := by rw [I.dl]; exact l
  have l2 : k < s.a.nm.length := by rw [I.nl]; exact l
  refine ⟨ds[k], List.getElem?_eq_getElem l1, I.own.at_ (ds[k], .dK (nkv (s.a.names k))) ?_⟩
  unfold wimg
  refine List.mem_append_right _ (List.mem_append_left _ (List.mem_iff_getElem?.mpr ⟨k, ?_⟩))
  show (List.zipWith (fun d n => (d, HO.dK (nkv n))) ds s.a.nm)[k]? = _
  rw [List.getElem?_zipWith, List.getElem?_eq_getElem l1, List.getElem?_eq_getElem l2]
  unfold Ab.names
  rw [List.getD_eq_getElem?_getD, List.getElem?_eq_getElem l2]
  rfl
theorem un_snoc {us : List Addr} {a : Ab} {l : List (Nat × Nat)} (e : us.length = l.length) (u : Addr) (x : Nat × Nat) : wimgU (us ++ [u]) a (l ++ [x]) = wimgU us a l ++ [(u, unO a x)] := by
  unfold wimgU
  rw [List.zipWith_append e]
  rfl
/-- the last one under way -/
theorem WkAt.last (I : WkAt H h ds us s fs) {l : List (Nat × Nat)} {x : Nat × Nat} (e : s.l = l ++ [x]) : ∃ up u, us = up ++ [u] ∧ up.length = l.length ∧ H u = some (unO s.a x) := by
  obtain ⟨up, u, e1, e2⟩ := last_split (by rw [← e]; exact I.ul)
  refine ⟨up, u, e1, e2, I.own.at_ (u, _) ?_⟩
  unfold wimg
  refine List.mem_append_right _ (List.mem_append_right _ (List.mem_append_left _ ?_))
  rw [e1, e, un_snoc e2]
  exact mem_end
/-- its row anew -/
theorem WkAt.row (I : WkAt H h ds us s fs) {l : List (Nat × Nat)} {x : Nat × Nat} (e : s.l = l ++ [x]) {up : List Addr} {u : Addr} (eu : us = up ++ [u]) (r : Nat) : WStp h H ds us s fs (upd H u (unO s.a (x.1, r))) ds us ⟨s.a, l ++ [(x.1, r)]⟩ fs := by
  have e2 : up.length = l.length := by have := I.ul; rw [eu, e] at this; simpa using this
  refine I.set (L1 := wimg1 h ds us s ++ (wimgD ds s.a.nm ++ wimgU up s.a l)) (L2 := wimgF fs) (y := u) (o := unO s.a x) ?_ ?_ fun o => ⟨o, I.dl, I.nl, by rw [eu]; simp [e2], fun y hy => ?_, I.tk⟩
  · unfold wimg
    rw [e, eu, un_snoc e2]
    simp only [List.append_assoc, List.cons_append, List.nil_append]
  · unfold wimg
    dsimp only
    rw [eu, un_snoc e2]
    simp only [List.append_assoc, List.cons_append, List.nil_append]
  · rcases List.mem_append.mp hy with hy | hy
    · exact I.lk y (by rw [e]; exact List.mem_append_left _ hy)
    · rw [List.mem_singleton.mp hy]
      exact I.lk x (by rw [e]; exact mem_end)
/-- a name bound -/
theorem WkAt.bind (I : WkAt H h ds us s fs) {k : Nat} {d : Addr} (e : ds[k]? = some d) (z : Str) (t : Th) : WStp h H ds us s fs (upd H d (.dK (putK (nkv (s.a.names k)) (.inr z) (.bl true)))) ds us ⟨s.a.bind k z t, s.l⟩ fs := by
  have lk : k < s.a.nm.length := by have := (List.getElem?_eq_some_iff.mp e).1; rw [I.dl] at this; rw [I.nl]; exact this
  have en : s.a.nm[k]? = some (s.a.names k) := by unfold Ab.names; rw [List.getD_eq_getElem?_getD, List.getElem?_eq_getElem lk]; rfl
  obtain ⟨n1, n2, f1, f2, g1⟩ := set_split (y := putA (s.a.names k) z t) en
  obtain ⟨d1, d2, h1, _, g2⟩ := set_split (y := d) e
  rw [show putK (nkv (s.a.names k)) (.inr z) (.bl true) = nkv (putA (s.a.names k) z t) from put_map (g := fun _ => V.bl true) (t := t)]
  have ed : ∀ n, wimgD ds (n1 ++ n :: n2) = wimgD d1 n1 ++ (d, HO.dK (nkv n)) :: wimgD d2 n2 := fun n => by
    rw [h1]
    unfold wimgD
    rw [List.zipWith_append (by rw [g1, g2])]
    rfl
  refine I.set (L1 := wimg1 h ds us s ++ wimgD d1 n1) (L2 := wimgD d2 n2 ++ (wimgU us s.a s.l ++ wimgF fs)) (y := d) (o := .dK (nkv (s.a.names k))) ?_ ?_ fun o => ⟨o, I.dl, by show (s.a.nm.set k _).length = _; rw [List.length_set]; exact I.nl, I.ul, I.lk, I.tk⟩
  · unfold wimg
    rw [f1, ed]
    simp only [List.append_assoc, List.cons_append, List.nil_append]
  · unfold wimg
    show wimg1 h ds us _ ++ (wimgD ds (s.a.nm.set k _) ++ _) = _
    rw [f2, ed]
    simp only [List.append_assoc, List.cons_append, List.nil_append]
    rfl
/-- one more entry found -/
theorem WkAt.found {f : Addr} {vs : List V} (I : WkAt H h ds us s [(f, vs)]) (v : V) : WStp h H ds us s [(f, vs)] (upd H f (.lst (vs ++ [v]))) ds us s [(f, vs ++ [v])] := by
  refine I.set (L1 := wimg1 h ds us s ++ (wimgD ds s.a.nm ++ wimgU us s.a s.l)) (L2 := []) (y := f) (o := .lst vs) ?_ ?_ fun o => ⟨o, I.dl, I.nl, I.ul, I.lk, I.tk⟩ <;>
  · unfold wimg
    simp only [List.append_assoc]
    rfl
/-- the last one goes -/
theorem WkAt.pop (I : WkAt H h ds us s fs) {l : List (Nat × Nat)} {x : Nat × Nat} (e : s.l = l ++ [x]) {up : List Addr} {u : Addr} (eu : us = up ++ [u]) : WStp h H ds us s fs (upd H h.un (.lst (up.map V.ref))) ds up ⟨s.a, l⟩ fs := by
  have e2 : up.length = l.length := by have := I.ul; rw [eu, e] at this; simpa using this
  have m : h.un ∈ wown h ds us s fs := by simp [wown, wimg]
  have o1 : Owns (upd H h.un (.lst (up.map V.ref))) ((wimg1 h ds us s).take 3 ++ (h.un, .lst (up.map V.ref)) :: (wimgD ds s.a.nm ++ (wimgU us s.a s.l ++ wimgF fs))) := Owns.set (o := .lst (us.map V.ref)) I.own
  have o2 : Owns (upd H h.un (.lst (up.map V.ref))) (wimg1 h ds up ⟨s.a, l⟩ ++ (wimgD ds s.a.nm ++ wimgU up s.a l) ++ (u, unO s.a x) :: wimgF fs) := o1.eq (by
    rw [e, eu, un_snoc e2]
    simp only [List.append_assoc, List.cons_append, List.nil_append]
    rfl)
  refine ⟨⟨o2.del.eq (by unfold wimg; simp only [List.append_assoc]), I.dl, I.nl, e2, fun y hy => I.lk y (by rw [e]; exact List.mem_append_left _ hy), I.tk⟩, kp_upd m, fun z hz => .inl ?_⟩
  have : z ∈ (wimg h ds up ⟨s.a, l⟩ fs).map (·.1) := hz
  show z ∈ (wimg h ds us s fs).map (·.1)
  unfold wimg at this ⊢
  rw [e, eu, un_snoc e2]
  simp only [List.map_append, List.mem_append, List.map_cons, List.map_nil, List.mem_cons, List.not_mem_nil, or_false] at this ⊢
  rcases this with h1 | h1 | h1 | h1
  · exact .inl h1
  · exact .inr (.inl h1)
  · exact .inr (.inr (.inl (.inl h1)))
  · exact .inr (.inr (.inr h1))
/-- one more under way -/
theorem WkAt.push (I : WkAt H h ds us s fs) {u : Addr} {k : Nat} (n : H u = none) (lk : k < s.a.qs.length) : WStp h H ds us s fs (upd (upd H u (unO s.a (k, 0))) h.un (.lst ((us ++ [u]).map V.ref))) ds (us ++ [u]) ⟨s.a, s.l ++ [(k, 0)]⟩ fs := by
  have k1 : Kp [] H (upd H u (unO s.a (k, 0))) := kp_new n
  have I1 := I.same k1
  have nu : u ∉ wown h ds us s fs := I.own.new n
  have m : h.un ∈ wown h ds us s fs := by simp [wown, wimg]
  have o1 : Owns (upd (upd H u (unO s.a (k, 0))) h.un (.lst ((us ++ [u]).map V.ref))) ((wimg1 h ds us s).take 3 ++ (h.un, .lst ((us ++ [u]).map V.ref)) :: (wimgD ds s.a.nm ++ (wimgU us s.a s.l ++ wimgF fs))) := Owns.set (o := .lst (us.map V.ref)) I1.own
  have ne : u ≠ h.un := fun z => nu (z ▸ m)
  have e2 : (upd (upd H u (unO s.a (k, 0))) h.un (.lst ((us ++ [u]).map V.ref))) u = some (unO s.a (k, 0)) := (upd_ne ne).trans upd_same
  have o2 := Owns.ins (L1 := wimg1 h ds (us ++ [u]) ⟨s.a, s.l ++ [(k, 0)]⟩ ++ (wimgD ds s.a.nm ++ wimgU us s.a s.l)) (L2 := wimgF fs) (o1.eq (by simp only [List.append_assoc]; rfl)) e2 (fun hm => nu (by
    rw [adr, List.append_assoc, List.append_assoc] at hm
    exact hm))
  refine ⟨⟨o2.eq ?_, I.dl, I.nl, by show (us ++ [u]).length = (s.l ++ [(k, 0)]).length; rw [List.length_append, List.length_append, I.ul]; rfl, fun x hx => ?_, I.tk⟩, (k1.weak fun x hx => absurd hx List.not_mem_nil).step (kp_upd (W := wown h ds us s fs) m) fun x hx => .inl hx, fun z hz => ?_⟩
  · unfold wimg
    dsimp only
    rw [un_snoc I.ul]
    simp only [List.append_assoc, List.cons_append, List.nil_append]
  · rcases List.mem_append.mp hx with hx | hx
    · exact I.lk x hx
    · rw [List.mem_singleton.mp hx]; exact lk
  · have : z ∈ (wimg h ds (us ++ [u]) ⟨s.a, s.l ++ [(k, 0)]⟩ fs).map (·.1) := hz
    unfold wimg at this
    dsimp only at this
    rw [un_snoc I.ul] at this
    by_cases q : z = u
    · exact .inr (q ▸ n)
    · refine .inl ?_
      show z ∈ (wimg h ds us s fs).map (·.1)
      unfold wimg
      simp only [List.map_append, List.mem_append, List.map_cons, List.map_nil, List.mem_cons, List.not_mem_nil, or_false] at this ⊢
      rcases this with h1 | h1 | ⟨h1 | h1⟩ | h1
      · exact .inl h1
      · exact .inr (.inl h1)
      · exact .inr (.inr (.inl h1))
      · exact absurd h1 q
      · exact .inr (.inr (.inr h1))
end
end PH

/-! FHh: a walk begins one. -/
namespace PH
open PySem PySem.Spec PyProof.Rows L2 HL TL
theorem path_opened {a : Ab} {p : Str} {k : Nat} (l : k < a.qs.length) : (a.opened p).path k = a.path k := getD_app _ _ _ _ (by omega)
section
variable {H H1 H2 : Hp} {h : WA} {ds us ds1 us1 ds2 us2 : List Addr} {s s1 s2 : MSt} {fs fs1 fs2 : List (Addr × List V)}
theorem wimgU_opened {a : Ab} {p : Str} : ∀ {us : List Addr} {l : List (Nat × Nat)}, (∀ x ∈ l, x.1 < a.qs.length) → wimgU us (a.opened p) l = wimgU us a l
  | [], _, _ => rfl
  | _ :: _, [], _ => rfl
  | u :: r, x :: t, h => by
    unfold wimgU
    rw [List.zipWith_cons_cons, List.zipWith_cons_cons]
    congr 1
    · unfold unO
      rw [path_opened (h x List.mem_cons_self)]
    · exact wimgU_opened (us := r) (l := t) fun y hy => h y (List.mem_cons_of_mem _ hy)
theorem WkAt.opened (I : WkAt H h ds us s fs) {d : Addr} {p : Str} (nd : H d = none) (np : getA s.a.tab p = none) :
    WStp h H ds us s fs (upd (upd (upd H d (.dK [])) h.nm (.dK (putK (numsV ds 0) (.inl ((ds.length + 1 : Nat) : Int)) (.ref d)))) h.tb (.dK (putK (tabN s.a) (.inr p) (.int ((ds.length + 1 : Nat) : Int))))) (ds ++ [d]) us ⟨s.a.opened p, s.l⟩ fs := by
  have k1 : Kp [] H (upd H d (.dK [])) := kp_new nd
  have I1 := I.same k1
  have nc : d ∉ wown h ds us s fs := I.own.new nd
  have m1 : h.nm ∈ wown h ds us s fs := by simp [wown, wimg]
  have m2 : h.tb ∈ wown h ds us s fs := by simp [wown, wimg]
  rw [L2.putK_new _ (nums_none ds), L2.putK_new _ (valV_no fun hm => getA_none.mp np (by
    rw [List.map_map] at hm
    obtain ⟨x, hx, e⟩ := List.mem_map.mp hm
    exact List.mem_map.mpr ⟨x, hx, Sum.inr.inj e⟩)), I.dl]
  have en : numsV ds 0 ++ [((Sum.inl ((s.a.qs.length + 1 : Nat) : Int) : Key), V.ref d)] = numsV (ds ++ [d]) 0 := by rw [nums_snoc, Nat.zero_add, I.dl]
  have et : tabN s.a ++ [((Sum.inr p : Key), V.int ((s.a.qs.length + 1 : Nat) : Int))] = tabN (s.a.opened p) := by
    unfold tabN
    show _ = (s.a.tab ++ [(p, s.a.qs.length)]).map _
    rw [List.map_append]
    rfl
  rw [en, et]
  have ed0 : upd H d (.dK []) d = some (.dK []) := upd_same
  generalize upd H d (.dK []) = Hm at *
  have o1 : Owns (upd Hm h.nm (.dK (numsV (ds ++ [d]) 0))) ((wimg1 h ds us s).take 2 ++ (h.nm, .dK (numsV (ds ++ [d]) 0)) :: ((wimg1 h ds us s).drop 3 ++ (wimgD ds s.a.nm ++ (wimgU us s.a s.l ++ wimgF fs)))) := Owns.set (o := .dK (numsV ds 0)) I1.own
  have o2 : Owns (upd (upd Hm h.nm (.dK (numsV (ds ++ [d]) 0))) h.tb (.dK (tabN (s.a.opened p)))) ((wimg1 h ds us s).take 1 ++ (h.tb, .dK (tabN (s.a.opened p))) :: ((h.nm, .dK (numsV (ds ++ [d]) 0)) :: ((wimg1 h ds us s).drop 3 ++ (wimgD ds s.a.nm ++ (wimgU us s.a s.l ++ wimgF fs))))) :=
    Owns.set (L1 := (wimg1 h ds us s).take 1) (o := .dK (tabN s.a)) o1
  have ed : (upd (upd Hm h.nm (.dK (numsV (ds ++ [d]) 0))) h.tb (.dK (tabN (s.a.opened p)))) d = some (.dK []) :=
    (upd_ne fun z => nc (by rw [z]; exact m2)).trans ((upd_ne fun z => nc (by rw [z]; exact m1)).trans ed0)
  have o3 := Owns.ins (L1 := wimg1 h (ds ++ [d]) us ⟨s.a.opened p, s.l⟩ ++ wimgD ds s.a.nm) (L2 := wimgU us s.a s.l ++ wimgF fs) (o2.eq (by simp only [List.append_assoc]; rfl)) ed (fun hm => nc (by
    rw [adr, List.append_assoc] at hm
    exact hm))
  have eD : wimgD (ds ++ [d]) (s.a.nm ++ [[]]) = wimgD ds s.a.nm ++ [(d, HO.dK [])] := by
    unfold wimgD
    rw [List.zipWith_append (by rw [I.dl, I.nl])]
    rfl
  have eI : wimg h (ds ++ [d]) us ⟨s.a.opened p, s.l⟩ fs = wimg1 h (ds ++ [d]) us ⟨s.a.opened p, s.l⟩ ++ (wimgD ds s.a.nm ++ ((d, HO.dK []) :: (wimgU us s.a s.l ++ wimgF fs))) := by
    unfold wimg
    show _ ++ (wimgD (ds ++ [d]) (s.a.nm ++ [[]]) ++ (wimgU us (s.a.opened p) s.l ++ _)) = _
    rw [eD, wimgU_opened (us := us) I.lk]
    simp only [List.append_assoc, List.cons_append, List.nil_append]
  refine ⟨⟨o3.eq (by rw [eI]; simp only [List.append_assoc]), ?_, ?_, I.ul, fun x hx => ?_, fun x hx => ?_⟩, ((k1.weak fun x hx => absurd hx List.not_mem_nil).step (kp_upd (W := wown h ds us s fs) m1) fun x hx => .inl hx).step (kp_upd (W := wown h ds us s fs) m2) fun x hx => .inl hx, fun z hz => ?_⟩
  · show (ds ++ [d]).length = (s.a.qs ++ [p]).length
    rw [List.length_append, List.length_append, I.dl]; rfl
  · show (s.a.nm ++ [[]]).length = (s.a.qs ++ [p]).length
    rw [List.length_append, List.length_append, I.nl]; rfl
  · show x.1 < (s.a.qs ++ [p]).length
    have := I.lk x hx
    rw [List.length_append]; omega
  · show x.2 < (s.a.qs ++ [p]).length
    rw [List.length_append, List.length_singleton]
    rcases List.mem_append.mp hx with hx | hx
    · have := I.tk x hx; omega
    · rw [List.mem_singleton.mp hx]; exact Nat.lt_succ_self _
  · by_cases q : z = d
    · exact .inr (q ▸ nd)
    · have : z ∈ adr (wimg h (ds ++ [d]) us ⟨s.a.opened p, s.l⟩ fs) := hz
      rw [eI] at this
      refine .inl ?_
      show z ∈ (wimg h ds us s fs).map (·.1)
      unfold wimg
      simp only [adr, List.map_append, List.mem_append, List.map_cons, List.map_nil, List.mem_cons, List.not_mem_nil, or_false] at this ⊢
      rcases this with h1 | h1 | h1 | h1
      · exact .inl h1
      · exact .inr (.inl h1)
      · exact absurd h1 q
      · exact .inr (.inr h1)
section
variable (h : WA)
theorem vW_S : valV (wF h) (.inr "stock") = some (.ref h.S) := valV_pos rfl
theorem vW_tb : valV (wF h) (.inr "table") = some (.ref h.tb) := (valV_neg fun e => absurd (Sum.inr.inj e) (by decide +kernel)).trans (valV_pos rfl)
theorem vW_nm : valV (wF h) (.inr "names") = some (.ref h.nm) := (valV_neg fun e => absurd (Sum.inr.inj e) (by decide +kernel)).trans ((valV_neg fun e => absurd (Sum.inr.inj e) (by decide +kernel)).trans (valV_pos rfl))
theorem vW_un : valV (wF h) (.inr "under") = some (.ref h.un) := (valV_neg fun e => absurd (Sum.inr.inj e) (by decide +kernel)).trans ((valV_neg fun e => absurd (Sum.inr.inj e) (by decide +kernel)).trans ((valV_neg fun e => absurd (Sum.inr.inj e) (by decide +kernel)).trans (valV_pos rfl)))
end
theorem WkAt.n4 (I : WkAt H h ds us s fs) : [h.O, h.tb, h.nm, h.un].Nodup := by
  have := I.own.nd
  unfold wimg at this
  rw [List.map_append] at this
  exact (List.nodup_append.mp this).1
theorem tabN_val (a : Ab) (p : Str) : valV (tabN a) (.inr p) = (getA a.tab p).map fun k => V.int ((k + 1 : Nat) : Int) := val_map (g := fun k => V.int ((k + 1 : Nat) : Int))
theorem WkAt.tabk (I : WkAt H h ds us s fs) {p : Str} {k : Nat} (e : getA s.a.tab p = some k) : k < s.a.qs.length := I.tk _ (getA_mem e)
theorem s_getI {R : V → Prop} {H : Hp} {a : Addr} {kvs : List (Key × V)} {i : Int} {v : V} (h : H a = some (.dK kvs)) (e : valV kvs (.inl i) = some v) (q : R v) : ∃ a' v, V.ref a = .ref a' ∧ DGet H a' (.int i) (some v) ∧ R v := ⟨a, v, rfl, e ▸ DGet.k (k := Sum.inl i) h, q⟩
theorem s_putI {v : V} {H : Hp} {a : Addr} {kvs : List (Key × V)} {i : Int} {P : Hp → Prop} (h : H a = some (.dK kvs)) (l : kvs.length < sizeLine) (q : P (upd H a (.dK (putK kvs (.inl i) v)))) : ∃ a' H4, V.ref a = .ref a' ∧ DPut H a' (.int i) v H4 ∧ P H4 := ⟨a, _, rfl, DPut.k (k := Sum.inl i) h l, q⟩
end
end PH

/-! FHi: what holds at each step of a walk. -/
namespace PH
open PySem PySem.Spec PyProof.Rows L2 HL TL
/-- a row that can not fail, its names among zs -/
def MildZ (zs : List Str) (fnd : Str → Option (List Row)) : Row → Prop
  | .set x _ => x ∈ zs
  | .note _ => True
  | .take x p => x ∈ zs ∧ ∃ b, fnd p = some b
  | _ => False
theorem MildZ.mild {zs : List Str} {fnd : Str → Option (List Row)} {r : Row} (h : MildZ zs fnd r) : Mild fnd r := by
  cases r <;> first | exact h.elim | exact trivial | exact h.2
structure MInv (zs : List Str) (fnd : Str → Option (List Row)) (s : MSt) : Prop where
  kz : ∀ j, ∀ z ∈ (s.a.names j).map (·.1), z ∈ zs
  kn : ∀ j, ((s.a.names j).map (·.1)).Nodup
  tq : s.a.tab.map (·.1) = s.a.qs
  tk : ∀ x ∈ s.a.tab, s.a.qs[x.2]? = some x.1
  qn : s.a.qs.Nodup
  qb : ∀ q ∈ s.a.qs, ∃ b, fnd q = some b
  nl : s.a.nm.length = s.a.qs.length
  ln : (s.l.map (·.1)).Nodup
  lk : ∀ x ∈ s.l, x.1 < s.a.qs.length
  lr : ∀ x ∈ s.l, x.2 ≤ (bdOf fnd (s.a.path x.1)).length
  lt : ∀ x ∈ s.l.dropLast, 0 < x.2 ∧ ∃ z p, (bdOf fnd (s.a.path x.1))[x.2 - 1]? = some (.take z p)
section
variable {zs : List Str} {fnd : Str → Option (List Row)} {s : MSt}
theorem MInv.bind (I : MInv zs fnd s) {k : Nat} (l : k < s.a.qs.length) {z : Str} (hz : z ∈ zs) (t : Th) : MInv zs fnd ⟨s.a.bind k z t, s.l⟩ := by
  have nb := fun j => names_bind s.a k z t j (by rw [I.nl]; exact l)
  refine ⟨fun j y hy => ?_, fun j => ?_, I.tq, I.tk, I.qn, I.qb, by show (s.a.nm.set k _).length = _; rw [List.length_set]; exact I.nl, I.ln, I.lk, I.lr, I.lt⟩
  · have hy : y ∈ ((s.a.bind k z t).names j).map (·.1) := hy
    rw [nb] at hy
    split at hy
    · rw [putA_keys] at hy
      split at hy
      · exact I.kz _ y hy
      · rcases List.mem_append.mp hy with hy | hy
        · exact I.kz _ y hy
        · rw [List.mem_singleton.mp hy]; exact hz
    · exact I.kz _ y hy
  · show (((s.a.bind k z t).names j).map (·.1)).Nodup
    rw [nb]
    split
    · exact putA_nd (I.kn k)
    · exact I.kn j
theorem MInv.alike (I : MInv zs fnd s) {a : Ab} (e1 : a.tab = s.a.tab) (e2 : a.nm = s.a.nm) (e3 : a.qs = s.a.qs) : MInv zs fnd ⟨a, s.l⟩ := by
  have p : ∀ k, a.path k = s.a.path k := fun k => by unfold Ab.path; rw [e3]
  have n : ∀ k, a.names k = s.a.names k := fun k => by unfold Ab.names; rw [e2]
  exact ⟨fun j => by rw [show (MSt.mk a s.l).a.names j = _ from n j]; exact I.kz j, fun j => by rw [show (MSt.mk a s.l).a.names j = _ from n j]; exact I.kn j, by show a.tab.map _ = a.qs; rw [e1, e3]; exact I.tq, fun x hx => by show a.qs[x.2]? = _; rw [e3]; exact I.tk x (e1 ▸ hx), by show a.qs.Nodup; rw [e3]; exact I.qn,
    fun q hq => I.qb q (e3 ▸ hq), by show a.nm.length = a.qs.length; rw [e2, e3]; exact I.nl, I.ln, fun x hx => by show x.1 < a.qs.length; rw [e3]; exact I.lk x hx, fun x hx => by show _ ≤ (bdOf fnd (a.path x.1)).length; rw [p]; exact I.lr x hx, fun x hx => by show _ ∧ ∃ z q, (bdOf fnd (a.path x.1))[x.2 - 1]? = _; rw [p]; exact I.lt x hx⟩
theorem getA_qs (I : MInv zs fnd s) {p : Str} (h : getA s.a.tab p = none) : p ∉ s.a.qs := by rw [← I.tq]; exact getA_none.mp h
theorem MInv.begin (I : MInv zs fnd s) {p : Str} (h : getA s.a.tab p = none) (b : ∃ b, fnd p = some b) (ll : ∀ x ∈ s.l, 0 < x.2 ∧ ∃ z q, (bdOf fnd (s.a.path x.1))[x.2 - 1]? = some (.take z q)) : MInv zs fnd ⟨s.a.begin p, s.l ++ [(s.a.qs.length, 0)]⟩ := by
  have nq := getA_qs I h
  have nm : ∀ j, (s.a.begin p).names j = s.a.names j ∨ (s.a.begin p).names j = [] := fun j => by
    unfold Ab.names
    show (s.a.nm ++ [[]]).getD j [] = _ ∨ (s.a.nm ++ [[]]).getD j [] = _
    by_cases c : j = s.a.nm.length
    · exact .inr (by rw [c]; exact getD_last _ _ _)
    · exact .inl (getD_app _ _ _ _ c)
  have pq : ∀ x ∈ s.l, (s.a.begin p).path x.1 = s.a.path x.1 := fun x hx => getD_app _ _ _ _ (by have := I.lk x hx; omega)
  refine ⟨fun j z hz => ?_, fun j => ?_, ?_, fun x hx => ?_, ?_, fun q hq => ?_, ?_, ?_, fun x hx => ?_, fun x hx => ?_, fun x hx => ?_⟩
  · have hz : z ∈ ((s.a.begin p).names j).map (·.1) := hz
    rcases nm j with e | e
    · rw [e] at hz; exact I.kz j z hz
    · rw [e] at hz; cases hz
  · show (((s.a.begin p).names j).map (·.1)).Nodup
    rcases nm j with e | e
    · rw [e]; exact I.kn j
    · rw [e]; exact List.nodup_nil
  · show (s.a.tab ++ [(p, s.a.qs.length)]).map (fun x => x.1) = s.a.qs ++ [p]
    rw [List.map_append, I.tq]; rfl
  · show (s.a.qs ++ [p])[x.2]? = some x.1
    rcases List.mem_append.mp hx with hx | hx
    · have := I.tk x hx
      rw [List.getElem?_append_left (List.getElem?_eq_some_iff.mp this).1]; exact this
    · rw [List.mem_singleton.mp hx, List.getElem?_append_right (Nat.le_refl _), Nat.sub_self]; rfl
  · show (s.a.qs ++ [p]).Nodup
    exact List.nodup_append.mpr ⟨I.qn, List.pairwise_singleton _ _, fun x hx y hy e => nq (by rw [List.mem_singleton.mp hy] at e; exact e ▸ hx)⟩
  · rcases List.mem_append.mp (show q ∈ s.a.qs ++ [p] from hq) with hq | hq
    · exact I.qb q hq
    · rw [List.mem_singleton.mp hq]; exact b
  · show (s.a.nm ++ [[]]).length = (s.a.qs ++ [p]).length
    rw [List.length_append, List.length_append, I.nl]; rfl
  · show ((s.l ++ [(s.a.qs.length, 0)]).map (fun x : Nat × Nat => x.1)).Nodup
    rw [List.map_append]
    refine List.nodup_append.mpr ⟨I.ln, List.pairwise_singleton _ _, fun x hx y hy e => ?_⟩
    obtain ⟨u, hu, rfl⟩ := List.mem_map.mp hx
    have := I.lk u hu
    rw [List.mem_singleton.mp hy] at e
    have e : u.1 = s.a.qs.length := e
    omega
  · show x.1 < (s.a.qs ++ [p]).length
    rw [List.length_append, List.length_singleton]
    rcases List.mem_append.mp hx with hx | hx
    · have := I.lk x hx; omega
    · rw [List.mem_singleton.mp hx]; exact Nat.lt_succ_self _
  · show x.2 ≤ (bdOf fnd ((s.a.begin p).path x.1)).length
    rcases List.mem_append.mp hx with hx | hx
    · rw [pq x hx]; exact I.lr x hx
    · rw [List.mem_singleton.mp hx]; exact Nat.zero_le _
  · have hx : x ∈ (s.l ++ [(s.a.qs.length, 0)]).dropLast := hx
    rw [List.dropLast_concat] at hx
    show 0 < x.2 ∧ ∃ z q, (bdOf fnd ((s.a.begin p).path x.1))[x.2 - 1]? = _
    rw [pq x hx]
    exact ll x hx
theorem MInv.line (I : MInv zs fnd s) {l : List (Nat × Nat)} {x : Nat × Nat} (e : s.l = l ++ [x]) {i : Nat} (hi : i ≤ (bdOf fnd (s.a.path x.1)).length) : MInv zs fnd ⟨s.a, l ++ [(x.1, i)]⟩ := by
  have ed : s.l.dropLast = l := by rw [e, List.dropLast_concat]
  refine ⟨I.kz, I.kn, I.tq, I.tk, I.qn, I.qb, I.nl, ?_, fun y hy => ?_, fun y hy => ?_, fun y hy => ?_⟩
  · have := I.ln
    rw [e, List.map_append] at this
    show ((l ++ [(x.1, i)]).map (·.1)).Nodup
    rw [List.map_append]
    exact this
  · rcases List.mem_append.mp hy with hy | hy
    · exact I.lk y (by rw [e]; exact List.mem_append_left _ hy)
    · rw [List.mem_singleton.mp hy]; exact I.lk x (by rw [e]; exact mem_end)
  · rcases List.mem_append.mp hy with hy | hy
    · exact I.lr y (by rw [e]; exact List.mem_append_left _ hy)
    · rw [List.mem_singleton.mp hy]; exact hi
  · have hy : y ∈ (l ++ [(x.1, i)]).dropLast := hy
    rw [List.dropLast_concat] at hy
    exact I.lt y (by rw [ed]; exact hy)
theorem MInv.pop (I : MInv zs fnd s) {l : List (Nat × Nat)} {x : Nat × Nat} (e : s.l = l ++ [x]) : MInv zs fnd ⟨s.a, l⟩ := by
  have ed : s.l.dropLast = l := by rw [e, List.dropLast_concat]
  refine ⟨I.kz, I.kn, I.tq, I.tk, I.qn, I.qb, I.nl, ?_, fun y hy => I.lk y (by rw [e]; exact List.mem_append_left _ hy), fun y hy => I.lr y (by rw [e]; exact List.mem_append_left _ hy), fun y hy => I.lt y (by rw [ed]; exact List.dropLast_subset _ hy)⟩
  have := I.ln
  rw [e, List.map_append, List.nodup_append] at this
  exact this.1
/-- each step keeps it -/
theorem MInv.step (I : MInv zs fnd s) (ml : ∀ p b, fnd p = some b → ∀ r ∈ b, MildZ zs fnd r) (ne : s.l ≠ []) : MInv zs fnd (stepM (bdOf fnd) s) := by
  obtain ⟨a, l0⟩ := s
  rcases List.eq_nil_or_concat l0 with e | ⟨l, x, e⟩
  · exact absurd e ne
  rw [List.concat_eq_append] at e
  subst e
  obtain ⟨k, i⟩ := x
  have lk := I.lk (k, i) mem_end
  have lr := I.lr (k, i) mem_end
  have lk : k < a.qs.length := lk
  have lr : i ≤ (bdOf fnd (a.path k)).length := lr
  have row : ∀ j, j < (bdOf fnd (a.path k)).length → ∀ r, (bdOf fnd (a.path k))[j]? = some r → MildZ zs fnd r := fun j hj r er => by
    have mq : a.path k ∈ a.qs := by unfold Ab.path; rw [List.getD_eq_getElem?_getD, List.getElem?_eq_getElem lk]; exact List.getElem_mem lk
    obtain ⟨b, eb⟩ := I.qb _ mq
    have : bdOf fnd (a.path k) = b := by unfold bdOf; rw [eb]; rfl
    rw [this] at er
    exact ml _ b eb r (List.mem_of_getElem? er)
  by_cases c : i = (bdOf fnd (a.path k)).length
  · rw [step_end c]
    have J := (I.pop (l := l) rfl).alike (a := a.fin k) rfl rfl rfl
    unfold endM
    rcases List.eq_nil_or_concat l with e | ⟨pre, y, e⟩
    · subst e
      exact J
    · rw [List.concat_eq_append] at e
      subst e
      rw [List.getLast?_concat]
      dsimp only
      obtain ⟨y0, z, p, ez⟩ := I.lt y (by show y ∈ (pre ++ [y] ++ [(k, i)]).dropLast; rw [List.dropLast_concat]; exact mem_end)
      have ez : (bdOf fnd (a.path y.1))[y.2 - 1]? = some (.take z p) := ez
      rw [List.getD_eq_getElem?_getD, ez]
      have ly : y.1 < a.qs.length := I.lk y (List.mem_append_left _ mem_end)
      refine J.bind (k := y.1) ly (z := z) ?_ (.mod k)
      have mq : a.path y.1 ∈ a.qs := by unfold Ab.path; rw [List.getD_eq_getElem?_getD, List.getElem?_eq_getElem ly]; exact List.getElem_mem ly
      obtain ⟨b, eb⟩ := I.qb _ mq
      have e2 : bdOf fnd (a.path y.1) = b := by unfold bdOf; rw [eb]; rfl
      rw [e2] at ez
      exact (ml _ b eb _ (List.mem_of_getElem? ez)).1
  · have li : i < (bdOf fnd (a.path k)).length := by omega
    rw [step_row li]
    have er := List.getElem?_eq_getElem li
    rw [List.getD_eq_getElem?_getD, er, Option.getD_some]
    generalize hr : (bdOf fnd (a.path k))[i] = r at er
    have mr := row i li r er
    have J := (I.line (l := l) (x := (k, i)) rfl (i := i + 1) (by show i + 1 ≤ (bdOf fnd (a.path k)).length; omega)).alike (a := a.row i) rfl rfl rfl
    cases r with
    | set x m => exact J.bind (k := k) lk mr (.num m)
    | note p => exact J.alike (a := (a.row i).put _) rfl rfl rfl
    | take x p =>
      show MInv zs fnd (match getA (a.row i).tab p with | some m => MSt.mk (((a.row i).put (haveE m)).bind k x (.mod m)) _ | none => ⟨(a.row i).begin p, _⟩)
      cases g : getA (a.row i).tab p with
      | some m => exact (J.alike (a := (a.row i).put (haveE m)) rfl rfl rfl).bind (k := k) lk mr.1 (.mod m)
      | none =>
        refine J.begin g mr.2 fun y hy => ?_
        rcases List.mem_append.mp hy with hy | hy
        · exact I.lt y (by show y ∈ (l ++ [(k, i)]).dropLast; rw [List.dropLast_concat]; exact hy)
        · rw [List.mem_singleton.mp hy]
          exact ⟨Nat.succ_pos _, x, p, er⟩
    | _ => exact mr.elim
theorem rowM_log (r : Row) (k : Nat) (a : Ab) (l : List (Nat × Nat)) : a.log.length ≤ (rowM r k a l).a.log.length := by
  cases r with
  | note p => show _ ≤ (a.log ++ [_]).length; rw [List.length_append]; omega
  | take x p =>
    show _ ≤ (match getA a.tab p with | some m => MSt.mk ((a.put (haveE m)).bind k x (.mod m)) l | none => ⟨a.begin p, _⟩).a.log.length
    split
    · show _ ≤ (a.log ++ [_]).length; rw [List.length_append]; omega
    · show _ ≤ (a.log ++ [_]).length; rw [List.length_append]; omega
  | _ => exact Nat.le_refl _
theorem go_log {bd : Str → List Row} {n : Nat} {s t : MSt} (h : Go bd n s t) : s.a.log.length ≤ t.a.log.length := by
  induction h with
  | nil => exact Nat.le_refl _
  | cons ne _ ih =>
    refine Nat.le_trans ?_ ih
    unfold stepM
    split
    · exact Nat.le_refl _
    · split
      · unfold endM
        split <;> (show _ ≤ (_ ++ [_]).length; rw [List.length_append]; omega)
      · exact @rowM_log _ _ (Ab.row _ _) _
theorem MInv.few (I : MInv zs fnd s) {ps : List Str} (B : Bodies ps fnd) : s.a.qs.length ≤ ps.length ∧ s.a.tab.length ≤ ps.length ∧ s.l.length ≤ ps.length ∧ ∀ j, (s.a.names j).length ≤ zs.length := by
  have h1 : s.a.qs.length ≤ ps.length := nd_len I.qn fun q hq => by obtain ⟨b, e⟩ := I.qb q hq; exact B.mem q b e
  refine ⟨h1, ?_, ?_, fun j => ?_⟩
  · have := congrArg List.length I.tq
    rw [List.length_map] at this
    omega
  · refine Nat.le_trans ?_ h1
    have : ((s.l.map (·.1)).length) ≤ (List.range s.a.qs.length).length := I.ln.length_le_of_subset fun x hx => by
      obtain ⟨y, hy, rfl⟩ := List.mem_map.mp hx
      exact List.mem_range.mpr (I.lk y hy)
    rwa [List.length_map, List.length_range] at this
  · have := nd_len (I.kn j) (I.kz j)
    rwa [List.length_map] at this
end
end PH

/-! FHj: logs that may be shown. -/
namespace PH
open PySem PySem.Spec PyProof.Rows L2 HL TL
/-! what repr asks, short leaves -/
theorem short_all30 {xs : List PyData} (h : ∀ x ∈ xs, PyData.leavesShort 8 x = true) : PyData.leavesShortAll 8 xs = true := by
  induction xs with
  | nil => rfl
  | cons x r ih =>
    simp only [PyData.leavesShortAll, Bool.and_eq_true]
    exact ⟨h x List.mem_cons_self, ih fun y hy => h y (List.mem_cons_of_mem _ hy)⟩
structure SmOk (x : PyData) (n k : Nat) : Prop where
  sh : x.leavesShort 8 = true
  ok : x.showable = true
  nd : x.hasDict = false
  dp : x.depth ≤ k
  bk : x.bulk ≤ n
theorem SmOk.tup {xs : List PyData} {n m k : Nat} (h : ∀ x ∈ xs, SmOk x n k) (b : xs.length * (n + 1) ≤ m) : SmOk (.tuple xs) m (k + 1) := by
  refine ⟨?_, ?_, ?_, ?_, ?_⟩
  · simp only [PyData.leavesShort]
    exact short_all30 fun x hx => (h x hx).sh
  · simp only [PyData.showable]
    exact showable_all fun x hx => (h x hx).ok
  · simp only [PyData.hasDict]
    exact noDict_all fun x hx => (h x hx).nd
  · simp only [PyData.depth]
    have := depth_all (n := k) fun x hx => (h x hx).dp
    omega
  · simp only [PyData.bulk]
    exact Nat.le_trans (bulk_all fun x hx => (h x hx).bk) b
theorem SmOk.lst {xs : List PyData} {n m k : Nat} (h : ∀ x ∈ xs, SmOk x n k) (b : xs.length * (n + 1) ≤ m) : SmOk (.list xs) m (k + 1) := by
  refine ⟨?_, ?_, ?_, ?_, ?_⟩
  · simp only [PyData.leavesShort]
    exact short_all30 fun x hx => (h x hx).sh
  · simp only [PyData.showable]
    exact showable_all fun x hx => (h x hx).ok
  · simp only [PyData.hasDict]
    exact noDict_all fun x hx => (h x hx).nd
  · simp only [PyData.depth]
    have := depth_all (n := k) fun x hx => (h x hx).dp
    omega
  · simp only [PyData.bulk]
    exact Nat.le_trans (bulk_all fun x hx => (h x hx).bk) b
theorem SmOk.weak {x : PyData} {n m k l : Nat} (h : SmOk x n k) (a : n ≤ m) (b : k ≤ l) : SmOk x m l := ⟨h.sh, h.ok, h.nd, Nat.le_trans h.dp b, Nat.le_trans h.bk a⟩
theorem SmOk.non : SmOk .none 0 0 := ⟨by decide +kernel, by decide +kernel, rfl, Nat.le_refl _, Nat.le_refl _⟩
theorem SmOk.nat {k : Nat} (h : k < 1000) : SmOk (.int (k : Nat)) 0 0 := by
  refine ⟨?_, ?_, by simp only [PyData.hasDict], by simp only [PyData.depth]; exact Nat.le_refl _, by simp only [PyData.bulk]; exact Nat.le_refl _⟩
  · simp only [PyData.leavesShort, decide_eq_true_eq]
    have e : PyData.shown (.int (k : Nat)) = Str.ofString (toString (k : Int)) := by simp only [PyData.shown]
    rw [e, PySem.ofString_length]
    exact Nat.le_trans (int_text_length_le10 (k := 3) (by decide) (by omega)) (by decide)
  · simp only [PyData.showable, decide_eq_true_eq]
    by_cases z : k = 0
    · subst z; decide
    · exact (Nat.log2_lt (by omega)).mpr (Nat.lt_of_lt_of_le (show ((k : Nat) : Int).natAbs < 1000 by omega) (by decide +kernel))
theorem SmOk.str {z : Str} (h : OkL (tl z)) : SmOk (.str z) z.length 0 := ⟨short_str h, by simp only [PyData.showable], by simp only [PyData.hasDict], by simp only [PyData.depth]; exact Nat.le_refl _, by simp only [PyData.bulk]; exact Nat.le_refl _⟩
/-- repr of a list of such -/
theorem rep_sm {K : PySem.W.Frag} {H : Hp} {Q : VK} {v : V} {d : PyData} {n : Nat} (dd : Dp K H v d) (s : SmOk d n 60) (i : isDisplay d = true) (b : n ≤ 1600000) (q : Q (.str (PyData.shown d)) H) : rReprA K [v] H Q := by
  refine .inr ⟨_, _, rfl, dd, i, s.ok, s.nd, s.dp, ?_, q⟩
  have e := PyData.shown_le_bulk 8 (by decide) _ s.sh
  have := s.bk
  rw [sizeLine_eq]
  omega

theorem srt_perm (ks : List Str) : (srt ks).Perm ks := by
  unfold srt
  split
  · rename_i h
    exact h.choose_spec.1
  · exact List.Perm.refl _
structure SmN (z : Str) : Prop where
  ok : OkL (tl z)
  len : z.length ≤ 8
inductive EntS (m : Nat) : PyData → Prop
  | hav {k : Nat} : k < m → EntS m (haveE k)
  | beg {k : Nat} {p : Str} : k < m → SmN p → EntS m (beginE k p)
  | fin {k : Nat} : k < m → EntS m (endE k)
  | noteN {k : Nat} : k < m → EntS m (noteE k .none)
  | note {k : Nat} {ys : List Str} : k < m → ys.length ≤ 9 → (∀ y ∈ ys, SmN y) → EntS m (noteE k (.tuple (ys.map .str)))
theorem EntS.mono {m n : Nat} {x : PyData} (h : EntS m x) (l : m ≤ n) : EntS n x := by
  cases h with
  | hav a => exact .hav (by omega)
  | beg a b => exact .beg (by omega) b
  | fin a => exact .fin (by omega)
  | noteN a => exact .noteN (by omega)
  | note a b c => exact .note (by omega) b c
theorem EntS.flat {m : Nat} {x : PyData} (h : EntS m x) : flatD x = true := by
  cases h with
  | hav a => rfl
  | beg a b => rfl
  | fin a => rfl
  | noteN a => rfl
  | @note k ys a b c =>
    show (true && (true && (flatD (.tuple (ys.map .str)) && true))) = true
    rw [show flatD (.tuple (ys.map .str)) = true from flatAll_of fun x hx => by obtain ⟨z, _, rfl⟩ := List.mem_map.mp hx; rfl]
    rfl
theorem EntS.sm {m : Nat} {x : PyData} (h : EntS m x) (hm : m ≤ 100) : SmOk x 404 2 := by
  have num : ∀ {k : Nat}, k < m → SmOk (numD k) 100 1 := fun hk => (SmOk.nat (k := _ + 1) (by omega)).weak (Nat.zero_le _) (Nat.zero_le _)
  have wd : ∀ {z : Str}, OkL (tl z) → z.length ≤ 100 → SmOk (.str z) 100 1 := fun a b => (SmOk.str a).weak b (Nat.zero_le _)
  have nn : SmOk .none 100 1 := SmOk.non.weak (Nat.zero_le _) (Nat.zero_le _)
  have tup : ∀ {xs : List PyData}, (∀ x ∈ xs, SmOk x 100 1) → xs.length ≤ 4 → SmOk (.tuple xs) 404 2 := fun a b => SmOk.tup a (by omega)
  cases h with
  | hav a =>
    refine tup (fun x hx => ?_) (by simp)
    simp only [List.mem_cons, List.not_mem_nil, or_false] at hx
    rcases hx with rfl | rfl
    · exact wd (by unfold OkL; decide +kernel) (by decide +kernel)
    · exact num a
  | beg a b =>
    refine tup (fun x hx => ?_) (by simp)
    simp only [List.mem_cons, List.not_mem_nil, or_false] at hx
    rcases hx with rfl | rfl | rfl
    · exact wd (by unfold OkL; decide +kernel) (by decide +kernel)
    · exact num a
    · exact wd b.ok (by have := b.len; omega)
  | fin a =>
    refine tup (fun x hx => ?_) (by simp)
    simp only [List.mem_cons, List.not_mem_nil, or_false] at hx
    rcases hx with rfl | rfl
    · exact wd (by unfold OkL; decide +kernel) (by decide +kernel)
    · exact num a
  | noteN a =>
    refine tup (fun x hx => ?_) (by simp)
    simp only [List.mem_cons, List.not_mem_nil, or_false] at hx
    rcases hx with rfl | rfl | rfl
    · exact wd (by unfold OkL; decide +kernel) (by decide +kernel)
    · exact num a
    · exact nn
  | @note k ys a b c =>
    refine tup (fun x hx => ?_) (by simp)
    simp only [List.mem_cons, List.not_mem_nil, or_false] at hx
    rcases hx with rfl | rfl | rfl
    · exact wd (by unfold OkL; decide +kernel) (by decide +kernel)
    · exact num a
    · refine SmOk.tup (n := 8) (k := 0) (fun x hx => ?_) (by rw [List.length_map]; omega)
      obtain ⟨y, hy, rfl⟩ := List.mem_map.mp hx
      exact (SmOk.str (c y hy).ok).weak (c y hy).len (Nat.le_refl _)
def LogS (a : Ab) : Prop := ∀ e ∈ a.log, EntS a.qs.length e
theorem LogS.sm {a : Ab} (h : LogS a) (hm : a.qs.length ≤ 100) (l : a.log.length ≤ 3000) : SmOk (.list a.log) 1300000 3 := SmOk.lst (fun x hx => (h x hx).sm hm) (by omega)
section
variable {zs : List Str} {fnd : Str → Option (List Row)} {s : MSt}
theorem LogS.put {a : Ab} (h : LogS a) {e : PyData} (g : EntS a.qs.length e) : LogS (a.put e) := fun x hx => by
  rcases List.mem_append.mp (show x ∈ a.log ++ [e] from hx) with hx | hx
  · exact h x hx
  · rw [List.mem_singleton.mp hx]; exact g
theorem LogS.step (L : LogS s.a) (I : MInv zs fnd s) (ml : ∀ p b, fnd p = some b → ∀ r ∈ b, MildZ zs fnd r) (hz : ∀ z ∈ zs, SmN z) (zf : zs.length ≤ 9) (hp : ∀ p b, fnd p = some b → SmN p) (ne : s.l ≠ []) : LogS (stepM (bdOf fnd) s).a := by
  obtain ⟨a, l0⟩ := s
  rcases List.eq_nil_or_concat l0 with e | ⟨l, x, e⟩
  · exact absurd e ne
  rw [List.concat_eq_append] at e
  subst e
  obtain ⟨k, i⟩ := x
  have lk : k < a.qs.length := I.lk (k, i) mem_end
  have lr : i ≤ (bdOf fnd (a.path k)).length := I.lr (k, i) mem_end
  have L : LogS a := L
  by_cases c : i = (bdOf fnd (a.path k)).length
  · rw [step_end c]
    have J : LogS (a.put (endE k)) := L.put (.fin lk)
    unfold endM
    split
    · exact J
    · exact J
  · have li : i < (bdOf fnd (a.path k)).length := by omega
    rw [step_row li]
    have er := List.getElem?_eq_getElem li
    rw [List.getD_eq_getElem?_getD, er, Option.getD_some]
    generalize hr : (bdOf fnd (a.path k))[i] = r at er
    have mq : a.path k ∈ a.qs := by unfold Ab.path; rw [List.getD_eq_getElem?_getD, List.getElem?_eq_getElem lk]; exact List.getElem_mem lk
    obtain ⟨b, eb⟩ := I.qb _ mq
    have ebd : bdOf fnd (a.path k) = b := by unfold bdOf; rw [eb]; rfl
    have mr : MildZ zs fnd r := ml _ b eb r (List.mem_of_getElem? (by rw [← ebd]; exact er))
    cases r with
    | set x m => exact L
    | note p =>
      have J : LogS (a.put (noteE k (a.noted p))) := by
        refine L.put ?_
        unfold Ab.noted
        cases g : getA a.tab p with
        | none => exact .noteN lk
        | some j =>
          have P := srt_perm ((a.names j).map (·.1))
          have f := nd_len (I.kn j) (I.kz j)
          refine .note lk ?_ fun y hy => hz y (I.kz j y (P.subset hy))
          rw [P.length_eq]
          exact Nat.le_trans f zf
      exact J
    | take x p =>
      show LogS (match getA (a.row i).tab p with | some m => MSt.mk (((a.row i).put (haveE m)).bind k x (.mod m)) _ | none => ⟨(a.row i).begin p, _⟩).a
      cases g : getA (a.row i).tab p with
      | some m =>
        have lm : m < a.qs.length := (List.getElem?_eq_some_iff.mp (I.tk _ (getA_mem g))).1
        have J : LogS (a.put (haveE m)) := L.put (.hav lm)
        exact J
      | none =>
        obtain ⟨bp, ebp⟩ := mr.2
        intro y hy
        have hy : y ∈ a.log ++ [beginE a.qs.length p] := hy
        show EntS (a.qs ++ [p]).length y
        rw [List.length_append, List.length_singleton]
        rcases List.mem_append.mp hy with hy | hy
        · exact (L y hy).mono (Nat.le_succ _)
        · rw [List.mem_singleton.mp hy]
          exact .beg (Nat.lt_succ_self _) (hp p bp ebp)
    | _ => exact mr.elim
theorem go_inv {n : Nat} {s t : MSt} (h : Go (bdOf fnd) n s t) (ml : ∀ p b, fnd p = some b → ∀ r ∈ b, MildZ zs fnd r) (hz : ∀ z ∈ zs, SmN z) (zf : zs.length ≤ 9) (hp : ∀ p b, fnd p = some b → SmN p) (I : MInv zs fnd s) (L : LogS s.a) : MInv zs fnd t ∧ LogS t.a := by
  induction h with
  | nil => exact ⟨I, L⟩
  | cons ne _ ih => exact ih (I.step ml ne) (L.step I ml hz zf hp ne)
/-- one taken, from the outside -/
theorem take_top {ps : List Str} (B : Bodies ps fnd) (ml : ∀ p b, fnd p = some b → ∀ r ∈ b, MildZ zs fnd r) (hz : ∀ z ∈ zs, SmN z) (zf : zs.length ≤ 9) (hp : ∀ p b, fnd p = some b → SmN p) {a : Ab} {n : Nat} {p : Str} (I : MInv zs fnd ⟨a, []⟩) (L : LogS a) (hb : a.brk = []) (hr : rem ps a < n) (fp : ∃ b, fnd p = some b) :
    ∃ b m, oneF wayR fnd n a p = (b, .ok m) ∧ b.brk = [] ∧ b.line = a.line ∧ MInv zs fnd ⟨b, []⟩ ∧ LogS b ∧ lot ps b ≤ lot ps a + 1 ∧ rem ps b ≤ rem ps a ∧
      (∀ k, getA a.tab p = some k → b = a.put (haveE k)) ∧ (getA a.tab p = none → ∃ c N, b = c.fin a.qs.length ∧ Go (bdOf fnd) N ⟨a.begin p, [(a.qs.length, 0)]⟩ ⟨c, [(a.qs.length, (bdOf fnd p).length)]⟩ ∧ c.path a.qs.length = p) := by
  have gr := gr_one (fnd := fnd) (wayR_ok ps) B n a p
  have ln := line_one (fnd := fnd) (wayR_ok ps) n a p
  cases g : getA a.tab p with
  | some k =>
    obtain ⟨n', rfl⟩ : ∃ n', n = n' + 1 := ⟨n - 1, by omega⟩
    have e1 : oneF wayR fnd (n' + 1) a p = (a.put (haveE k), .ok k) := by unfold oneF; rw [g]
    rw [e1] at gr ln
    have lk : k < a.qs.length := (List.getElem?_eq_some_iff.mp (I.tk _ (getA_mem g))).1
    exact ⟨a.put (haveE k), k, e1, hb, rfl, I.alike (a := a.put (haveE k)) rfl rfl rfl, L.put (.hav lk), gr.lot, gr.rem, fun j e => by cases e; rfl, fun e => nomatch e⟩
  | none =>
    obtain ⟨c, e1, e2, ⟨more, e3⟩, e4⟩ := one_go B (fun p b e r hr => (ml p b e r hr).mild) n a p g hb hr fp
    rw [e1] at gr ln
    obtain ⟨N, go⟩ := e4 []
    have pc : c.path a.qs.length = p := by
      show c.qs.getD a.qs.length "" = p
      rw [e3, List.getD_eq_getElem?_getD, List.getElem?_append_right (Nat.le_refl _), Nat.sub_self]
      rfl
    have I0 := I.begin g fp (fun y hy => nomatch hy)
    have L0 : LogS (a.begin p) := fun y hy => by
      have hy : y ∈ a.log ++ [beginE a.qs.length p] := hy
      show EntS (a.qs ++ [p]).length y
      rw [List.length_append, List.length_singleton]
      obtain ⟨bp, ebp⟩ := fp
      rcases List.mem_append.mp hy with hy | hy
      · exact (L y hy).mono (Nat.le_succ _)
      · rw [List.mem_singleton.mp hy]
        exact .beg (Nat.lt_succ_self _) (hp p bp ebp)
    have go2 : Go (bdOf fnd) (N + 1) ⟨a.begin p, [(a.qs.length, 0)]⟩ ⟨c.fin a.qs.length, []⟩ := go.tr (.cons (by simp) (by
      rw [show [] ++ [(a.qs.length, (bdOf fnd p).length)] = [] ++ [(a.qs.length, (bdOf fnd p).length)] from rfl, step_end (by rw [pc])]
      exact .nil))
    obtain ⟨I1, L1⟩ := go_inv go2 ml hz zf hp I0 L0
    exact ⟨c.fin a.qs.length, a.qs.length, e1, e2, ln, I1, L1, gr.lot, gr.rem, fun j e => (nomatch e), fun _ => ⟨c, N, rfl, go, pc⟩⟩
end
end PH

/-! FHk: finders dealt, each path into one of them. -/
namespace PH
open PySem PySem.Spec PyProof.Rows L2 HL TL
theorem fndS_cons (e : Shelf) (ds : List Shelf) (q : Str) : fndS (e :: ds) q = match getA e q with | some b => some b | none => fndS ds q := by
  unfold fndS
  rw [List.findSome?_cons]
  cases getA e q <;> rfl
theorem fndS_none {ds : List Shelf} {p : Str} (h : ∀ e ∈ ds, getA e p = none) : fndS ds p = none := by
  induction ds with
  | nil => rfl
  | cons e r ih =>
    rw [fndS_cons, h e List.mem_cons_self]
    exact ih fun x hx => h x (List.mem_cons_of_mem _ hx)
theorem fndS_set {p : Str} {b : List Row} (q : Str) : ∀ {ds : List Shelf} {j : Nat} {e : Shelf}, ds[j]? = some e → (∀ e ∈ ds, getA e p = none) → fndS (ds.set j (putA e p b)) q = if q = p then some b else fndS ds q
  | e' :: r, 0, e, h, no => by
    cases h
    rw [List.set_cons_zero, fndS_cons, fndS_cons, getA_put]
    by_cases c : q = p
    · rw [if_pos c, if_pos c]
    · rw [if_neg c, if_neg c]
  | e' :: r, j + 1, e, h, no => by
    have ih := fndS_set (p := p) (b := b) q (ds := r) (j := j) (e := e) h fun x hx => no x (List.mem_cons_of_mem _ hx)
    rw [List.set_cons_succ, fndS_cons, fndS_cons, ih]
    by_cases c : q = p
    · subst c
      rw [no e' List.mem_cons_self, if_pos rfl]
      try rfl
    · rw [if_neg c, if_neg c]
end PH

/-! FHl: bodies in a row, each takes the following. -/
namespace PH
open PySem PySem.Spec PyProof.Rows L2 HL TL
def AllSet (b : List Row) : Prop := ∀ r ∈ b, ∃ x n, r = Row.set x n
structure Lnk (fnd : Str → Option (List Row)) (pl : Str → Nat) (p q : Str) : Prop where
  ex : ∃ pre x post, fnd p = some (pre ++ .take x q :: post) ∧ AllSet pre ∧ AllSet post ∧ pre.length = pl p
def Chn (fnd : Str → Option (List Row)) (pl : Str → Nat) (q : Str) : List Str → Prop
  | [] => True
  | p :: r => Lnk fnd pl p (r.headD q) ∧ Chn fnd pl q r
/-- alike but for names and the line -/
structure Like (a b : Ab) : Prop where
  qs : b.qs = a.qs
  tab : b.tab = a.tab
  brk : b.brk = a.brk
  met : b.met = a.met
  fat : b.fat = a.fat
  log : b.log = a.log
  pap : b.pap = a.pap
theorem Like.refl (a : Ab) : Like a a := ⟨rfl, rfl, rfl, rfl, rfl, rfl, rfl⟩
theorem Like.tr {a b c : Ab} (h : Like a b) (g : Like b c) : Like a c := ⟨g.qs.trans h.qs, g.tab.trans h.tab, g.brk.trans h.brk, g.met.trans h.met, g.fat.trans h.fat, g.log.trans h.log, g.pap.trans h.pap⟩
theorem Like.row (a : Ab) (i : Nat) : Like a (a.row i) := ⟨rfl, rfl, rfl, rfl, rfl, rfl, rfl⟩
theorem Like.bind (a : Ab) (k : Nat) (z : Str) (t : Th) : Like a (a.bind k z t) := ⟨rfl, rfl, rfl, rfl, rfl, rfl, rfl⟩
section
variable {on : Ab → Str → Rs Nat}
theorem body_sets : ∀ (pre rest : List Row) (i : Nat) (a : Ab) (pl : List (Nat × Nat)) (k r0 : Nat), AllSet pre → a.line = pl ++ [(k, r0)] →
    ∃ b r1, bodyF (rowF wayR on 3) i (pre ++ rest) a = bodyF (rowF wayR on 3) (i + pre.length) rest b ∧ Like a b ∧ b.line = pl ++ [(k, r1)]
  | [], rest, i, a, pl, k, r0, _, e => ⟨a, r0, rfl, .refl a, e⟩
  | r :: pre, rest, i, a, pl, k, r0, h, e => by
    obtain ⟨x, n, rfl⟩ := h r List.mem_cons_self
    obtain ⟨rl, _⟩ := row_top (i := i) e
    have e1 : ((a.row i).bind (a.row i).top.1 x (.num n)).line = pl ++ [(k, i)] := rl
    obtain ⟨b, r1, h1, h2, h3⟩ := body_sets pre rest (i + 1) ((a.row i).bind (a.row i).top.1 x (.num n)) pl k i (fun y hy => h y (List.mem_cons_of_mem _ hy)) e1
    refine ⟨b, r1, ?_, ((Like.row a i).tr (.bind _ _ _ _)).tr h2, h3⟩
    show bodyF (rowF wayR on 3) (i + 1) (pre ++ rest) ((a.row i).bind (a.row i).top.1 x (.num n)) = _
    rw [h1, List.length_cons]
    congr 1
    omega
end
def logC (m : Nat) : Nat → List Str → List PyData
  | _, [] => [haveE m]
  | k, p :: r => beginE k p :: (logC m (k + 1) r ++ [endE k])
def logF (f : PyData) : Nat → List Str → List PyData
  | _, [] => []
  | k, p :: r => beginE k p :: (logF f (k + 1) r ++ [failE k f])
def papC (pl : Str → Nat) : Nat → List (Nat × Nat) → List Str → List PyData
  | _, _, [] => []
  | k, l, p :: r => papE k l :: papC pl (k + 1) (l ++ [(k, pl p)]) r
def tabC : Nat → List Str → List (Str × Nat)
  | _, [] => []
  | k, p :: r => (p, k) :: tabC (k + 1) r
theorem tabC_keys : ∀ (k : Nat) (L : List Str), (tabC k L).map (·.1) = L
  | _, [] => rfl
  | k, p :: r => by
    show p :: (tabC (k + 1) r).map (·.1) = _
    rw [tabC_keys (k + 1) r]
section
variable {fnd : Str → Option (List Row)} {pl : Str → Nat} {q : Str}
/-- one goes down the row and up again -/
theorem chn_ok {m : Nat} : ∀ (L : List Str) (n : Nat) (a : Ab), Chn fnd pl q L → L.length < n → L.Nodup → (∀ p ∈ L, getA a.tab p = none ∧ getA a.brk p = none) → getA (a.tab ++ tabC a.qs.length L) q = some m →
    ∃ b, oneF wayR fnd n a (L.headD q) = (b, .ok (if L = [] then m else a.qs.length)) ∧ b.qs = a.qs ++ L ∧ b.tab = a.tab ++ tabC a.qs.length L ∧ b.brk = a.brk ∧ b.fat = a.fat ∧ b.log = a.log ++ logC m a.qs.length L ∧ b.pap = a.pap ++ papC pl a.qs.length a.line L ∧ b.line = a.line
  | [], n, a, _, hn, _, _, g => by
    obtain ⟨n, rfl⟩ : ∃ n', n = n' + 1 := ⟨n - 1, by rw [List.length_nil] at hn; omega⟩
    have g : getA (a.tab ++ []) q = some m := g
    rw [List.append_nil] at g
    refine ⟨a.put (haveE m), ?_, by show a.qs = a.qs ++ []; simp, by show a.tab = a.tab ++ []; simp, rfl, rfl, rfl, by show a.pap = a.pap ++ []; simp, rfl⟩
    show oneF wayR fnd (n + 1) a q = _
    unfold oneF
    rw [g, if_pos rfl]
  | p :: r, n, a, hc, hn, nd, no, g => by
    obtain ⟨n, rfl⟩ : ∃ n', n = n' + 1 := ⟨n - 1, by omega⟩
    obtain ⟨⟨pre, x, post, ef, s1, s2, lp⟩, hc⟩ := hc
    obtain ⟨t0, b0⟩ := no p List.mem_cons_self
    have nd := List.nodup_cons.mp nd
    obtain ⟨a1, r1, e1, l1, n1⟩ := body_sets (on := oneF wayR fnd n) pre (.take x (r.headD q) :: post) 0 (a.begin p) a.line a.qs.length 0 s1 rfl
    obtain ⟨rl, rt⟩ := row_top (i := 0 + pre.length) n1
    have l2 := l1.tr (.row a1 (0 + pre.length))
    have er : rowF wayR (oneF wayR fnd n) 3 (.take x (r.headD q)) (a1.row (0 + pre.length)) = match oneF wayR fnd n (a1.row (0 + pre.length)) (r.headD q) with
      | (b, .ok m) => (b.bind (a1.row (0 + pre.length)).top.1 x (.mod m), .ok ())
      | (b, .error f) => (b, .error f) := rfl
    have e3 : bodyF (rowF wayR (oneF wayR fnd n) 3) (0 + pre.length) (.take x (r.headD q) :: post) a1 = match rowF wayR (oneF wayR fnd n) 3 (.take x (r.headD q)) (a1.row (0 + pre.length)) with
      | (b, .ok _) => bodyF (rowF wayR (oneF wayR fnd n) 3) (0 + pre.length + 1) post b
      | (b, .error e) => (b, .error e) := rfl
    rw [er] at e3
    generalize a1.row (0 + pre.length) = a2 at rl rt l2 e3
    have q2 : a2.qs = a.qs ++ [p] := l2.qs
    have q2l : a2.qs.length = a.qs.length + 1 := by rw [q2, List.length_append]; rfl
    have t2 : a2.tab = a.tab ++ [(p, a.qs.length)] := l2.tab
    have k2 : a2.brk = a.brk := l2.brk
    obtain ⟨b, f1, f2, f3, f4, f5, f6, f7, f8⟩ := chn_ok r n a2 hc (by rw [List.length_cons] at hn; omega) nd.2 (fun y hy => by
      obtain ⟨y1, y2⟩ := no y (List.mem_cons_of_mem _ hy)
      have ny : ¬ p = y := fun e => nd.1 (by rw [e]; exact hy)
      rw [t2, k2, getA_app, y1, if_neg ny]
      exact ⟨rfl, y2⟩) (by
      rw [t2, q2l, List.append_assoc]
      exact g)
    have lb : b.line = a.line ++ [(a.qs.length, 0 + pre.length)] := f8.trans rl
    obtain ⟨b2, r2, e2, l3, n3⟩ := body_sets (on := oneF wayR fnd n) post [] (0 + pre.length + 1) (b.bind a2.top.1 x (.mod (if r = [] then m else a2.qs.length))) a.line a.qs.length (0 + pre.length) s2 lb
    have l4 := (Like.bind b a2.top.1 x (.mod (if r = [] then m else a2.qs.length))).tr l3
    have eb : bodyF (rowF wayR (oneF wayR fnd n) 3) 0 (pre ++ .take x (r.headD q) :: post) (a.begin p) = (b2, .ok ()) := by
      rw [List.append_nil] at e2
      rw [e1, e3, f1]
      exact e2
    refine ⟨b2.fin a.qs.length, ?_, ?_, ?_, ?_, ?_, ?_, ?_, ?_⟩
    · show oneF wayR fnd (n + 1) a p = _
      unfold oneF
      rw [t0, b0]
      dsimp only
      rw [ef]
      dsimp only
      unfold beginF
      rw [eb, if_neg (by simp)]
      rfl
    · show b2.qs = _
      rw [l4.qs, f2, q2, List.append_assoc]
      rfl
    · show b2.tab = _
      rw [l4.tab, f3, t2, q2l, List.append_assoc]
      rfl
    · show b2.brk = _
      rw [l4.brk, f4, k2]
    · show b2.fat = _
      rw [l4.fat, f5, l2.fat]
      rfl
    · show b2.log ++ [endE a.qs.length] = _
      rw [l4.log, f6, q2l, show a2.log = a.log ++ [beginE a.qs.length p] from l2.log, List.append_assoc, List.append_assoc]
      rfl
    · show b2.pap = _
      rw [l4.pap, f7, q2l, rl, show a2.pap = a.pap ++ [papE a.qs.length a.line] from l2.pap, List.append_assoc]
      rw [show 0 + pre.length = pl p by omega]
      rfl
    · show b2.line.dropLast = _
      rw [n3, List.dropLast_concat]
theorem chn_no : ∀ (L : List Str) (n : Nat) (a : Ab), Chn fnd pl q L → L.length < n → L.Nodup → (∀ p ∈ L, getA a.tab p = none ∧ getA a.brk p = none) → getA a.tab q = none → getA a.brk q = none → fnd q = none → q ∉ L → (∀ x ∈ a.line, x.1 < a.qs.length) →
    ∃ b, oneF wayR fnd n a (L.headD q) = (b, .error (noModF q)) ∧ b.qs = a.qs ++ L ∧ b.tab = a.tab ∧ b.log = a.log ++ logF (noModF q) a.qs.length L ∧ b.met = a.road a.line ++ L.map (fun p => stepE p (pl p)) ∧ b.line = a.line
  | [], n, a, _, hn, _, _, tq, bq, fq, _, _ => by
    obtain ⟨n, rfl⟩ : ∃ n', n = n' + 1 := ⟨n - 1, by rw [List.length_nil] at hn; omega⟩
    refine ⟨a.up, ?_, by show a.qs = a.qs ++ []; simp, rfl, by show a.log = a.log ++ []; simp, by show a.road a.line = _ ++ []; simp, rfl⟩
    show oneF wayR fnd (n + 1) a q = _
    unfold oneF
    rw [tq, bq]
    dsimp only
    rw [fq]
  | p :: r, n, a, hc, hn, nd, no, tq, bq, fq, nq, lk => by
    obtain ⟨n, rfl⟩ : ∃ n', n = n' + 1 := ⟨n - 1, by omega⟩
    obtain ⟨⟨pre, x, post, ef, s1, s2, lp⟩, hc⟩ := hc
    obtain ⟨t0, b0⟩ := no p List.mem_cons_self
    have nd := List.nodup_cons.mp nd
    have nqp : p ≠ q := fun e => nq (e ▸ List.mem_cons_self)
    obtain ⟨a1, r1, e1, l1, n1⟩ := body_sets (on := oneF wayR fnd n) pre (.take x (r.headD q) :: post) 0 (a.begin p) a.line a.qs.length 0 s1 rfl
    obtain ⟨rl, rt⟩ := row_top (i := 0 + pre.length) n1
    have l2 := l1.tr (.row a1 (0 + pre.length))
    have er : rowF wayR (oneF wayR fnd n) 3 (.take x (r.headD q)) (a1.row (0 + pre.length)) = match oneF wayR fnd n (a1.row (0 + pre.length)) (r.headD q) with
      | (b, .ok m) => (b.bind (a1.row (0 + pre.length)).top.1 x (.mod m), .ok ())
      | (b, .error f) => (b, .error f) := rfl
    have e3 : bodyF (rowF wayR (oneF wayR fnd n) 3) (0 + pre.length) (.take x (r.headD q) :: post) a1 = match rowF wayR (oneF wayR fnd n) 3 (.take x (r.headD q)) (a1.row (0 + pre.length)) with
      | (b, .ok _) => bodyF (rowF wayR (oneF wayR fnd n) 3) (0 + pre.length + 1) post b
      | (b, .error e) => (b, .error e) := rfl
    rw [er] at e3
    generalize a1.row (0 + pre.length) = a2 at rl rt l2 e3
    have q2 : a2.qs = a.qs ++ [p] := l2.qs
    have q2l : a2.qs.length = a.qs.length + 1 := by rw [q2, List.length_append]; rfl
    have t2 : a2.tab = a.tab ++ [(p, a.qs.length)] := l2.tab
    have k2 : a2.brk = a.brk := l2.brk
    obtain ⟨b, f1, f2, f3, f4, f5, f6⟩ := chn_no r n a2 hc (by rw [List.length_cons] at hn; omega) nd.2 (fun y hy => by
      obtain ⟨y1, y2⟩ := no y (List.mem_cons_of_mem _ hy)
      have ny : ¬ p = y := fun e => nd.1 (by rw [e]; exact hy)
      rw [t2, k2, getA_app, y1, if_neg ny]
      exact ⟨rfl, y2⟩) (by rw [t2, getA_app, tq, if_neg nqp]; rfl) (by rw [k2]; exact bq) fq (fun h => nq (List.mem_cons_of_mem _ h)) (fun y hy => by
      rw [rl] at hy
      rcases List.mem_append.mp hy with hy | hy
      · have := lk y hy; omega
      · rw [List.mem_singleton.mp hy]; show a.qs.length < _; omega)
    have eb : bodyF (rowF wayR (oneF wayR fnd n) 3) 0 (pre ++ .take x (r.headD q) :: post) (a.begin p) = (b, .error (noModF q)) := by
      rw [e1, e3, f1]
    refine ⟨b.broke a.qs.length p (noModF q), ?_, ?_, ?_, ?_, ?_, ?_⟩
    · show oneF wayR fnd (n + 1) a p = _
      unfold oneF
      rw [t0, b0]
      dsimp only
      rw [ef]
      dsimp only
      unfold beginF
      rw [eb]
    · show b.qs = _
      rw [f2, q2, List.append_assoc]
      rfl
    · show delA b.tab p = _
      rw [f3, t2]
      unfold delA
      rw [List.filter_append, List.filter_cons_of_neg (by simp)]
      have : a.tab.filter (fun x => decide (x.1 ≠ p)) = a.tab := List.filter_eq_self.mpr fun y hy => decide_eq_true fun e => getA_none.mp t0 (List.mem_map.mpr ⟨y, hy, e⟩)
      rw [this]
      exact List.append_nil _
    · show b.log ++ [failE a.qs.length (noModF q)] = _
      rw [f4, q2l, show a2.log = a.log ++ [beginE a.qs.length p] from l2.log, List.append_assoc, List.append_assoc]
      rfl
    · show b.met = _
      rw [f5, rl]
      unfold Ab.road
      rw [List.map_append, List.append_assoc]
      congr 1
      · refine List.map_congr_left fun y hy => ?_
        rw [path_more ⟨[p], q2⟩ (lk y hy)]
      · have : a2.path a.qs.length = p := by
          show a2.qs.getD a.qs.length "" = p
          rw [q2, List.getD_eq_getElem?_getD, List.getElem?_append_right (Nat.le_refl _), Nat.sub_self]
          rfl
        show stepE (a2.path a.qs.length) (0 + pre.length) :: _ = stepE p (pl p) :: _
        rw [this, show 0 + pre.length = pl p by omega]
        rfl
    · show b.line.dropLast = _
      rw [f6, rl, List.dropLast_concat]
end
/-! the same by numbers -/
theorem tabC_rng : ∀ (k : Nat) (L : List Str), tabC k L = (List.range L.length).map fun i => (L.getD i "", k + i)
  | _, [] => rfl
  | k, p :: r => by
    show (p, k) :: tabC (k + 1) r = _
    rw [tabC_rng (k + 1) r, List.length_cons, List.range_succ_eq_map, List.map_cons, List.map_map]
    refine congrArg _ (List.map_congr_left fun i _ => ?_)
    show (r.getD i "", k + 1 + i) = ((p :: r).getD (i + 1) "", k + (i + 1))
    rw [List.getD_cons_succ, Nat.add_assoc, Nat.add_comm 1 i]
def begC (k : Nat) (L : List Str) : List PyData := (List.range L.length).map fun i => beginE (k + i) (L.getD i "")
def endC (k : Nat) (n : Nat) : List PyData := (List.range n).map fun i => endE (k + (n - 1 - i))
def faiC (f : PyData) (k : Nat) (n : Nat) : List PyData := (List.range n).map fun i => failE (k + (n - 1 - i)) f
theorem begC_cons (k : Nat) (p : Str) (r : List Str) : begC k (p :: r) = beginE k p :: begC (k + 1) r := by
  unfold begC
  rw [List.length_cons, List.range_succ_eq_map, List.map_cons, List.map_map]
  refine congrArg _ (List.map_congr_left fun i _ => ?_)
  show beginE (k + (i + 1)) ((p :: r).getD (i + 1) "") = beginE (k + 1 + i) (r.getD i "")
  rw [List.getD_cons_succ, Nat.add_assoc, Nat.add_comm 1 i]
theorem rng_up {α : Type} (g : Nat → α) (k n : Nat) : (List.range (n + 1)).map (fun i => g (k + (n + 1 - 1 - i))) = ((List.range n).map fun i => g (k + 1 + (n - 1 - i))) ++ [g k] := by
  rw [List.range_succ, List.map_append]
  congr 1
  · refine List.map_congr_left fun i hi => ?_
    have := List.mem_range.mp hi
    congr 1
    omega
  · show [g (k + (n + 1 - 1 - n))] = _
    rw [show n + 1 - 1 - n = 0 by omega]
    rfl
theorem logC_rng (m : Nat) : ∀ (k : Nat) (L : List Str), logC m k L = begC k L ++ haveE m :: endC k L.length
  | _, [] => rfl
  | k, p :: r => by
    show beginE k p :: (logC m (k + 1) r ++ [endE k]) = _
    rw [logC_rng m (k + 1) r, begC_cons]
    unfold endC
    rw [List.length_cons, rng_up endE k r.length]
    simp
theorem logF_rng (f : PyData) : ∀ (k : Nat) (L : List Str), logF f k L = begC k L ++ faiC f k L.length
  | _, [] => rfl
  | k, p :: r => by
    show beginE k p :: (logF f (k + 1) r ++ [failE k f]) = _
    rw [logF_rng f (k + 1) r, begC_cons]
    unfold faiC
    rw [List.length_cons, rng_up (fun i => failE i f) k r.length]
    simp
abbrev wayE (k r : Nat) : PyData := .tuple [numD (k + 1), numD k, .int (r : Nat)]
theorem papC_rng (pl : Str → Nat) : ∀ (L : List Str) (k : Nat) (l : List (Nat × Nat)) (p : Str), papC pl (k + 1) (l ++ [(k, pl p)]) L = (List.range L.length).map fun i => wayE (k + i) (pl ((p :: L).getD i ""))
  | [], _, _, _ => rfl
  | q :: r, k, l, p => by
    show papE (k + 1) (l ++ [(k, pl p)]) :: papC pl (k + 1 + 1) (l ++ [(k, pl p)] ++ [(k + 1, pl q)]) r = _
    rw [papC_rng pl r (k + 1) (l ++ [(k, pl p)]) q, List.length_cons, List.range_succ_eq_map, List.map_cons, List.map_map]
    congr 1
    · unfold papE
      rw [List.getLast?_concat]
      rfl
    · refine List.map_congr_left fun i _ => ?_
      show wayE (k + 1 + i) (pl ((q :: r).getD i "")) = wayE (k + (i + 1)) (pl ((p :: q :: r).getD (i + 1) ""))
      rw [List.getD_cons_succ, Nat.add_assoc, Nat.add_comm 1 i]
theorem papC_top (pl : Str → Nat) (p : Str) (L : List Str) : papC pl 0 [] (p :: L) = .tuple [numD 0, .none, .none] :: (List.range L.length).map fun i => wayE i (pl ((p :: L).getD i "")) := by
  show papE 0 [] :: papC pl 1 ([] ++ [(0, pl p)]) L = _
  rw [papC_rng pl L 0 [] p]
  congr 1
  refine List.map_congr_left fun i _ => ?_
  rw [Nat.zero_add]
end PH

/-! FHm: numbers by paths, lists told item by item. -/
namespace PH
open PySem PySem.Spec PyProof.Rows L2 HL TL
theorem getA_tabC {z : Str} : ∀ {k i : Nat} {L : List Str}, L.Nodup → L[i]? = some z → getA (tabC k L) z = some (k + i)
  | k, 0, p :: r, nd, e => by
    obtain rfl : p = z := by simpa using e
    show getA ((p, k) :: tabC (k + 1) r) p = _
    rw [getA_cons, if_pos rfl]
    rfl
  | k, i + 1, p :: r, nd, e => by
    have e : r[i]? = some z := by simpa using e
    have nd := List.nodup_cons.mp nd
    have ne : p ≠ z := fun c => nd.1 (c ▸ List.mem_of_getElem? e)
    show getA ((p, k) :: tabC (k + 1) r) z = _
    rw [getA_cons, if_neg ne, getA_tabC nd.2 e]
    congr 1
    omega
abbrev tabW (t : List (Str × Nat)) : List (Key × V) := t.map fun x => ((Sum.inr x.1 : Key), V.int ((x.2 + 1 : Nat) : Int))
theorem valV_tabW {z : Str} {i : Nat} {L : List Str} (nd : L.Nodup) (e : L[i]? = some z) : valV (tabW (tabC 0 L)) (.inr z) = some (.int ((i + 1 : Nat) : Int)) := by
  have := val_map (xs := tabC 0 L) (g := fun k : Nat => V.int ((k + 1 : Nat) : Int)) (z := z)
  rw [this, getA_tabC nd e, Nat.zero_add]
  rfl
theorem tabW_len (L : List Str) : (tabW (tabC 0 L)).length = L.length := by
  rw [List.length_map, ← List.length_map (f := fun x : Str × Nat => x.1) (as := tabC 0 L), tabC_keys]
theorem tabC_at {i : Nat} {L : List Str} {z : Str} (e : L[i]? = some z) : (tabC 0 L)[i]? = some (z, i) := by
  have l := (List.getElem?_eq_some_iff.mp e).1
  rw [tabC_rng, List.getElem?_map, List.getElem?_range l]
  show some (L.getD i "", 0 + i) = _
  rw [List.getD_eq_getElem?_getD, e, Nat.zero_add]
  rfl
theorem tabW_keys (L : List Str) : ((tabW (tabC 0 L)).map (·.1)) = L.map Sum.inr := by
  rw [List.map_map, show ((fun x : Key × V => x.1) ∘ fun x : Str × Nat => ((Sum.inr x.1 : Key), V.int ((x.2 + 1 : Nat) : Int))) = Sum.inr ∘ (fun x => x.1) from rfl, ← List.map_map, tabC_keys]
theorem rng_put {α : Type} (g : Nat → α) (i : Nat) : (List.range (i + 1)).map g = (List.range i).map g ++ [g i] := by rw [List.range_succ, List.map_append]; rfl
theorem getD_of {L : List Str} {i : Nat} {z : Str} (e : L[i]? = some z) : L.getD i "" = z := by rw [List.getD_eq_getElem?_getD, e]; rfl
section
variable {K : PySem.W.Frag} {H H' : Hp}
/-- one more item told at its end -/
theorem DLst.more {D : Addr} {xs : List V} {ds : List PyData} {v : V} {d : PyData} (h : DLst K H xs ds) (k : Kp [] H H') (eD : H' D = some (.lst xs)) (dv : Dp K H' v d) (f : flatD d = true) : DLst K (upd H' D (.lst (xs ++ [v]))) (xs ++ [v]) (ds ++ [d]) := by
  have t : TupK H' (upd H' D (.lst (xs ++ [v]))) := (Keep.one eD (.lst _)).tup
  exact DLst.snoc ((h.tup (TupK.same k)).tup t) (Dp.tups t _ _ f dv) f
theorem dpAll_app : ∀ {vs ws : List V} {xs ys : List PyData}, DpAll K H vs xs → DpAll K H ws ys → DpAll K H (vs ++ ws) (xs ++ ys)
  | _, _, _, _, .nil, h => h
  | _, _, _, _, .cons a b, h => .cons a (dpAll_app b h)
theorem DLst.app {vs ws : List V} {xs ys : List PyData} (h : DLst K H vs xs) (g : DLst K H ws ys) : DLst K H (vs ++ ws) (xs ++ ys) := ⟨dpAll_app h.1 g.1, flatAll_app h.2 g.2⟩
end
/-! small entries: texts, numbers, None in a tuple -/
def AtS (x : PyData) : Prop := x = .none ∨ (∃ k : Nat, k < 1000 ∧ x = .int (k : Nat)) ∨ ∃ z : Str, x = .str z ∧ OkL (tl z) ∧ z.length ≤ 8
theorem AtS.sm {x : PyData} (h : AtS x) : SmOk x 8 0 := by
  rcases h with rfl | ⟨k, hk, rfl⟩ | ⟨z, rfl, a, b⟩
  · exact SmOk.non.weak (by decide) (by decide)
  · exact (SmOk.nat hk).weak (by decide) (by decide)
  · exact (SmOk.str a).weak b (by decide)
theorem AtS.lay {x : PyData} (h : AtS x) : x.canLay0 = true := by
  rcases h with rfl | ⟨k, hk, rfl⟩ | ⟨z, rfl, a, b⟩
  · simp only [PyData.canLay0]
  · simp only [PyData.canLay0]
  · simp only [PyData.canLay0]
    have := a.str
    rwa [mkS_tl] at this
def TupA (x : PyData) : Prop := ∃ xs, x = .tuple xs ∧ xs.length ≤ 4 ∧ ∀ y ∈ xs, AtS y
theorem lay_all {xs : List PyData} (h : ∀ x ∈ xs, x.canLay0 = true) : PyData.canLayAll0 xs = true := by
  induction xs with
  | nil => simp only [PyData.canLayAll0]
  | cons x r ih =>
    simp only [PyData.canLayAll0, Bool.and_eq_true]
    exact ⟨h x List.mem_cons_self, ih fun y hy => h y (List.mem_cons_of_mem _ hy)⟩
theorem TupA.sm {x : PyData} (h : TupA x) : SmOk x 36 1 := by
  obtain ⟨xs, rfl, l, a⟩ := h
  exact SmOk.tup (fun y hy => (a y hy).sm) (by omega)
theorem TupA.lay {x : PyData} (h : TupA x) : x.canLay0 = true := by
  obtain ⟨xs, rfl, l, a⟩ := h
  simp only [PyData.canLay0]
  exact lay_all fun y hy => (a y hy).lay
theorem tupA_shaped {xs : List PyData} (h : ∀ x ∈ xs, TupA x) : SeqAt.shaped (.list xs) = true := by
  unfold SeqAt.shaped
  rw [Bool.and_eq_true]
  refine ⟨?_, decide_eq_true ?_⟩
  · simp only [PyData.canLay0]
    exact lay_all fun y hy => (h y hy).lay
  · have s : SmOk (.list xs) (xs.length * 37) 2 := SmOk.lst (fun y hy => (h y hy).sm) (Nat.le_refl _)
    exact Nat.le_trans s.dp (by decide)
theorem tupA_rep {K : PySem.W.Frag} {H : Hp} {Q : VK} {v : V} {xs : List PyData} (dd : Dp K H v (.list xs)) (h : ∀ x ∈ xs, TupA x) (l : xs.length ≤ 1000) (q : Q (.str (PyData.shown (.list xs))) H) : rReprA K [v] H Q := by
  have s : SmOk (.list xs) (xs.length * 37) 2 := SmOk.lst (fun y hy => (h y hy).sm) (Nat.le_refl _)
  exact rep_sm dd (s.weak (Nat.le_refl _) (by omega)) rfl (by omega) q
theorem atW (z : Str) (h : OkL (tl z)) (l : z.length ≤ 8) : AtS (.str z) := .inr (.inr ⟨z, rfl, h, l⟩)
theorem atN {k : Nat} (h : k < 1000) : AtS (.int (k : Nat)) := .inr (.inl ⟨k, h, rfl⟩)
theorem tupA1 {a b : PyData} (ha : AtS a) (hb : AtS b) : TupA (.tuple [a, b]) := ⟨_, rfl, by simp, fun y hy => by
  simp only [List.mem_cons, List.not_mem_nil, or_false] at hy
  rcases hy with rfl | rfl <;> assumption⟩
theorem tupA2 {a b c : PyData} (ha : AtS a) (hb : AtS b) (hc : AtS c) : TupA (.tuple [a, b, c]) := ⟨_, rfl, by simp, fun y hy => by
  simp only [List.mem_cons, List.not_mem_nil, or_false] at hy
  rcases hy with rfl | rfl | rfl <;> assumption⟩
theorem okw_have : OkL (tl "have") := by unfold OkL; decide +kernel
theorem okw_begin : OkL (tl "begin") := by unfold OkL; decide +kernel
theorem okw_end : OkL (tl "end") := by unfold OkL; decide +kernel
theorem have_tup {m : Nat} (h : m < 100) : TupA (haveE m) := tupA1 (atW _ okw_have (by decide +kernel)) (atN (k := m + 1) (by omega))
theorem logC_tup {m : Nat} (hm : m < 100) : ∀ (L : List Str) (k : Nat), (∀ z ∈ L, SmN z) → k + L.length ≤ 100 → ∀ e ∈ logC m k L, TupA e
  | [], k, _, _, e, he => by
    rw [List.mem_singleton.mp (show e ∈ [haveE m] from he)]
    exact have_tup hm
  | p :: r, k, h, l, e, he => by
    rw [List.length_cons] at l
    have he : e ∈ beginE k p :: (logC m (k + 1) r ++ [endE k]) := he
    rcases List.mem_cons.mp he with rfl | he
    · exact tupA2 (atW _ okw_begin (by decide +kernel)) (atN (k := k + 1) (by omega)) (atW _ (h p List.mem_cons_self).ok (h p List.mem_cons_self).len)
    · rcases List.mem_append.mp he with he | he
      · exact logC_tup hm r (k + 1) (fun z hz => h z (List.mem_cons_of_mem _ hz)) (by omega) e he
      · rw [List.mem_singleton.mp he]
        exact tupA1 (atW _ okw_end (by decide +kernel)) (atN (k := k + 1) (by omega))
theorem papC_tup {pl : Str → Nat} : ∀ (L : List Str) (k : Nat) (l : List (Nat × Nat)), (∀ z ∈ L, pl z ≤ 100) → k + L.length ≤ 100 → (∀ x ∈ l, x.1 < 100 ∧ x.2 ≤ 100) → ∀ e ∈ papC pl k l L, TupA e
  | [], _, _, _, _, _, _, he => nomatch he
  | p :: r, k, l, h, lk, hl, e, he => by
    rw [List.length_cons] at lk
    have he : e ∈ papE k l :: papC pl (k + 1) (l ++ [(k, pl p)]) r := he
    rcases List.mem_cons.mp he with rfl | he
    · unfold papE
      cases g : l.getLast? with
      | none => exact tupA2 (atN (k := k + 1) (by omega)) (.inl rfl) (.inl rfl)
      | some x =>
        have := hl x (List.mem_of_getLast? g)
        exact tupA2 (atN (k := k + 1) (by omega)) (atN (k := x.1 + 1) (by omega)) (atN (k := x.2) (by omega))
    · refine papC_tup r (k + 1) _ (fun z hz => h z (List.mem_cons_of_mem _ hz)) (by omega) (fun x hx => ?_) e he
      rcases List.mem_append.mp hx with hx | hx
      · exact hl x hx
      · rw [List.mem_singleton.mp hx]
        exact ⟨by show k < 100; omega, h p List.mem_cons_self⟩
theorem logC_len (m : Nat) : ∀ (k : Nat) (L : List Str), (logC m k L).length = 2 * L.length + 1
  | _, [] => rfl
  | k, p :: r => by
    show (beginE k p :: (logC m (k + 1) r ++ [endE k])).length = _
    simp only [List.length_cons, List.length_append, logC_len m (k + 1) r, List.length_nil]
    omega
theorem papC_len (pl : Str → Nat) : ∀ (L : List Str) (k : Nat) (l : List (Nat × Nat)), (papC pl k l L).length = L.length
  | [], _, _ => rfl
  | p :: r, k, l => by
    show (papC pl (k + 1) (l ++ [(k, pl p)]) r).length + 1 = _
    rw [papC_len pl r]
    rfl
/-- == of such lists, of such dicts -/
theorem eq_tupA {K : PySem.W.Frag} {H : Hp} {Q : VK} {x y : V} {xs : List PyData} (hx : Dp K H x (.list xs)) (hy : Dp K H y (.list xs)) (h : ∀ x ∈ xs, TupA x) (q : Q (.bl true) H) : rEqD K x y H Q := by
  have sh := tupA_shaped h
  refine s_eqD hx hy sh sh ?_
  rw [SeqAt.eqv_refl _ (SeqAt.canLay_of_shaped sh)]
  exact q
theorem tabW_mem {L : List Str} (nd : L.Nodup) : ∀ p ∈ tabW (tabC 0 L), valV (tabW (tabC 0 L)) p.1 = some p.2 ∧ flatB p.2 = true := fun p hp => by
  obtain ⟨x, hx, rfl⟩ := List.mem_map.mp hp
  obtain ⟨i, hi⟩ := List.mem_iff_getElem?.mp hx
  have l : i < L.length := by
    have := (List.getElem?_eq_some_iff.mp hi).1
    rw [tabC_rng, List.length_map, List.length_range] at this
    exact this
  have ez := List.getElem?_eq_getElem l
  rw [tabC_at ez] at hi
  cases hi
  exact ⟨valV_tabW nd ez, rfl⟩
end PH

/-! FHn: what failed, by its numbers. -/
namespace PH
open PySem PySem.Spec PyProof.Rows L2 HL TL
def numF : PyData → Option Int
  | .tuple (.str w :: .int n :: _) => if w = "fail" then some n else none
  | _ => none
def EntF (e : PyData) : Prop := ∃ w n r, e = .tuple (.str w :: .int n :: r)
def logN (f : PyData) (L : List Str) : Nat → List PyData
  | 0 => []
  | i + 1 => logN f L i ++ logF f (i * L.length) L
theorem logF_ent {f : PyData} : ∀ (L : List Str) (k : Nat), ∀ e ∈ logF f k L, EntF e
  | [], _, _, he => nomatch he
  | p :: r, k, e, he => by
    have he : e ∈ beginE k p :: (logF f (k + 1) r ++ [failE k f]) := he
    rcases List.mem_cons.mp he with rfl | he
    · exact ⟨_, _, _, rfl⟩
    · rcases List.mem_append.mp he with he | he
      · exact logF_ent r (k + 1) e he
      · rw [List.mem_singleton.mp he]; exact ⟨_, _, _, rfl⟩
theorem logN_ent {f : PyData} {L : List Str} : ∀ (i : Nat), ∀ e ∈ logN f L i, EntF e
  | 0, _, he => nomatch he
  | i + 1, e, he => by
    rcases List.mem_append.mp (show e ∈ logN f L i ++ logF f (i * L.length) L from he) with he | he
    · exact logN_ent i e he
    · exact logF_ent L _ e he
theorem logF_len (f : PyData) : ∀ (k : Nat) (L : List Str), (logF f k L).length = 2 * L.length
  | _, [] => rfl
  | k, p :: r => by
    show (beginE k p :: (logF f (k + 1) r ++ [failE k f])).length = _
    simp only [List.length_cons, List.length_append, logF_len f (k + 1) r, List.length_nil]
    omega
theorem logF_num (f : PyData) (k : Nat) (L : List Str) : (logF f k L).filterMap numF = (List.range L.length).map fun i : Nat => ((k : Int) + (L.length : Int)) - (i : Int) := by
  rw [logF_rng, List.filterMap_append]
  have h1 : (begC k L).filterMap numF = [] := by
    rw [List.filterMap_eq_nil_iff]
    intro e he
    unfold begC at he
    obtain ⟨i, _, rfl⟩ := List.mem_map.mp he
    show (if ("begin" : Str) = "fail" then some ((k + i + 1 : Nat) : Int) else none) = none
    rw [if_neg (by decide +kernel)]
  have h2 : (faiC f k L.length).filterMap numF = (List.range L.length).map fun i : Nat => ((k : Int) + (L.length : Int)) - (i : Int) := by
    unfold faiC
    have all : ∀ l : List Nat, (∀ i ∈ l, i < L.length) → (l.map fun i => failE (k + (L.length - 1 - i)) f).filterMap numF = l.map fun i : Nat => ((k : Int) + (L.length : Int)) - (i : Int) := fun l => by
      induction l with
      | nil => exact fun _ => rfl
      | cons i r ih =>
        intro h
        have hi := h i List.mem_cons_self
        rw [List.map_cons, List.map_cons, List.filterMap_cons, ih fun j hj => h j (List.mem_cons_of_mem _ hj)]
        have e : numF (failE (k + (L.length - 1 - i)) f) = some (((k : Int) + (L.length : Int)) - (i : Int)) := by
          show (if ("fail" : Str) = "fail" then some ((k + (L.length - 1 - i) + 1 : Nat) : Int) else none) = some _
          rw [if_pos rfl]
          congr 1
          omega
        rw [e]
    exact all _ fun i hi => List.mem_range.mp hi
  rw [h1, h2]
  rfl
/-- an entry's first two parts -/
theorem ent_at {K : PySem.W.Frag} {H : Hp} {v : V} {w : Str} {n : Int} {r : List PyData} (h : Dp K H v (.tuple (.str w :: .int n :: r))) : ∃ a xs, v = .ref a ∧ SqT K H a (.str w :: .int n :: xs) := by
  cases h with
  | tup s d =>
    cases d with
    | cons d1 d =>
      cases d1
      cases d with
      | cons d2 d =>
        cases d2
        exact ⟨_, _, rfl, s⟩
theorem dpAll_get {K : PySem.W.Frag} {H : Hp} {i : Nat} {v : V} : ∀ {xs : List V} {ds : List PyData}, DpAll K H xs ds → xs[i]? = some v → ∃ d, ds[i]? = some d ∧ Dp K H v d := by
  induction i with
  | zero =>
    intro xs ds h e
    cases h with
    | nil => cases e
    | cons h t => cases e; exact ⟨_, rfl, h⟩
  | succ i ih =>
    intro xs ds h e
    cases h with
    | nil => cases e
    | cons h t => exact ih t e
theorem dp_ints {K : PySem.W.Frag} {H : Hp} : ∀ ns : List Int, DpAll K H (ns.map V.int) (ns.map PyData.int)
  | [] => .nil
  | n :: r => .cons (.int n) (dp_ints r)
theorem shaped_ints (ns : List Int) : SeqAt.shaped (.list (ns.map PyData.int)) = true := by
  unfold SeqAt.shaped
  rw [Bool.and_eq_true]
  have h : PyData.canLayAll0 (ns.map PyData.int) = true ∧ PyData.depthAll (ns.map PyData.int) = 0 := by
    induction ns with
    | nil => exact ⟨by simp only [List.map_nil, PyData.canLayAll0], by simp only [List.map_nil, PyData.depthAll]⟩
    | cons n r ih =>
      refine ⟨?_, ?_⟩
      · simp only [List.map_cons, PyData.canLayAll0, PyData.canLay0, ih.1, Bool.and_self]
      · simp only [List.map_cons, PyData.depthAll, PyData.depth, ih.2, Nat.max_self]
  refine ⟨?_, decide_eq_true ?_⟩
  · simp only [PyData.canLay0]
    exact h.1
  · simp only [PyData.depth, h.2]
    decide
theorem eq_ints {K : PySem.W.Frag} {H : Hp} {Q : VK} {a b : Addr} {ns : List Int} (ha : H a = some (.lst (ns.map V.int))) (hb : H b = some (.lst (ns.map V.int))) (q : Q (.bl true) H) : rEqD K (.ref a) (.ref b) H Q := by
  have sh := shaped_ints ns
  refine s_eqD (.lst (sq_l ha) (dp_ints ns)) (.lst (sq_l hb) (dp_ints ns)) sh sh ?_
  rw [SeqAt.eqv_refl _ (SeqAt.canLay_of_shaped sh)]
  exact q
/-- what is refused, as it is told -/
def refD (f : PyData) (pl : Str → Nat) (L : List Str) : PyData := .tuple [S "refused", f, .list (L.map fun p => stepE p (pl p))]
theorem refD_sm {q : Str} {pl : Str → Nat} {L : List Str} (hq : SmN q) (hL : ∀ z ∈ L, SmN z) (hp : ∀ z ∈ L, pl z ≤ 100) (l : L.length ≤ 16) : SmOk (refD (noModF q) pl L) 1800 3 := by
  have h1 : SmOk (S "refused") 592 2 := (SmOk.str (by unfold OkL; decide +kernel)).weak (by decide +kernel) (by decide)
  have h2 : SmOk (noModF q) 592 2 := (tupA1 (atW _ (by unfold OkL; decide +kernel) (by decide +kernel)) (atW _ hq.ok hq.len)).sm.weak (by decide) (by decide)
  have h3 : SmOk (.list (L.map fun p => stepE p (pl p))) 592 2 := by
    refine SmOk.lst (n := 36) (k := 1) (fun x hx => ?_) (by rw [List.length_map]; omega)
    obtain ⟨z, hz, rfl⟩ := List.mem_map.mp hx
    exact (tupA1 (atW _ (hL z hz).ok (hL z hz).len) (atN (k := pl z) (by have := hp z hz; omega))).sm
  refine SmOk.tup (n := 592) (k := 2) (fun x hx => ?_) (by show 3 * 593 ≤ 1800; decide)
  simp only [List.mem_cons, List.not_mem_nil, or_false] at hx
  rcases hx with rfl | rfl | rfl <;> assumption
/-- one more try that fails -/
theorem no_more {fnd : Str → Option (List Row)} {pl : Str → Nat} {q : Str} {L : List Str} {ps : List Str} (B : Bodies ps fnd) (hc : Chn fnd pl q L) (lL : L.length ≤ 16) (nd : L.Nodup) (fq : fnd q = none) (nq : q ∉ L) {i : Nat} {a : Ab} (e1 : a.tab = []) (e2 : a.line = []) (e3 : a.qs.length = i * L.length) (e4 : a.log = logN (noModF q) L i) :
    ∃ b, oneF wayR fnd 18 a.unbroken (L.headD q) = (b, .error (noModF q)) ∧ b.tab = [] ∧ b.line = [] ∧ b.qs.length = (i + 1) * L.length ∧ b.log = logN (noModF q) L (i + 1) ∧ b.met = L.map (fun p => stepE p (pl p)) ∧ lot ps b ≤ lot ps a.unbroken + 1 := by
  obtain ⟨b, f1, f2, f3, f4, f5, f6⟩ := chn_no (fnd := fnd) (pl := pl) (q := q) L 18 a.unbroken hc (by omega) nd (fun p _ => ⟨by show getA a.tab p = none; rw [e1]; rfl, rfl⟩) (by show getA a.tab q = none; rw [e1]; rfl) rfl fq nq (fun x hx => by
    have hx : x ∈ a.line := hx
    rw [e2] at hx
    cases hx)
  have gr := gr_one (fnd := fnd) (wayR_ok ps) B 18 a.unbroken (L.headD q)
  rw [f1] at gr
  refine ⟨b, f1, f3.trans e1, f6.trans e2, ?_, ?_, ?_, gr.lot⟩
  · rw [f2, List.length_append]
    show a.qs.length + _ = _
    rw [e3, Nat.succ_mul]
  · rw [f4]
    show a.log ++ logF (noModF q) a.qs.length L = logN (noModF q) L i ++ logF (noModF q) (i * L.length) L
    rw [e4, e3]
  · rw [f5]
    show a.unbroken.road a.line ++ _ = _
    rw [e2]
    rfl
end PH

/-! HSi: sorted of a dict's items, keys texts. -/
namespace HL
open PySem PySem.Spec PyProof.Rows L2 TL
/-! pairs told at their places -/
def layT (H : Hp) (as : List Addr) (kvs : List (Key × V)) : Hp := fun b => match (as.zip kvs).find? fun x => decide (x.1 = b) with
  | some x => some (.tup [kV x.2.1, x.2.2])
  | none => H b
theorem layT_off {H : Hp} {as : List Addr} {kvs : List (Key × V)} {b : Addr} (n : b ∉ as) : layT H as kvs b = H b := by
  have : (as.zip kvs).find? (fun x => decide (x.1 = b)) = none := List.find?_eq_none.mpr fun x hx e => n (by rw [← of_decide_eq_true e]; exact (List.of_mem_zip hx).1)
  unfold layT
  rw [this]
theorem layT_on {H : Hp} {t : Addr} {q : Key × V} : ∀ {as : List Addr} {kvs : List (Key × V)} {j : Nat}, as.Nodup → as[j]? = some t → kvs[j]? = some q → layT H as kvs t = some (.tup [kV q.1, q.2])
  | a :: as, k :: kvs, 0, _, e, f => by
    cases e
    cases f
    unfold layT
    rw [List.zip_cons_cons, List.find?_cons, decide_eq_true (show (t, q).1 = t from rfl)]
  | a :: as, k :: kvs, j + 1, nd, e, f => by
    have nd := List.nodup_cons.mp nd
    have e : as[j]? = some t := e
    have ne : ¬ a = t := fun c => nd.1 (c ▸ List.mem_of_getElem? e)
    have ih := layT_on (H := H) nd.2 e f
    unfold layT at ih ⊢
    rw [List.zip_cons_cons, List.find?_cons, decide_eq_false ne]
    exact ih
  | [], _, _, _, e, _ => nomatch e
  | _ :: _, [], 0, _, _, f => nomatch f
  | _ :: _, [], _ + 1, _, _, f => nomatch f
theorem at_pair {α β : Type} {as : List α} {bs : List β} {b : α} (m : b ∈ as) (l : as.length = bs.length) : ∃ (j : Nat) (q : β), as[j]? = some b ∧ bs[j]? = some q := by
  obtain ⟨j, hj⟩ := List.mem_iff_getElem?.mp m
  have lj := (List.getElem?_eq_some_iff.mp hj).1
  exact ⟨j, bs[j]'(by omega), hj, List.getElem?_eq_getElem (by omega)⟩
theorem kv_at {kvs : List (Key × V)} {vs : List (Key × Value)} (h : KV kvs vs) {j : Nat} {q : Key × V} {k : Key} {x : Value} (e : kvs[j]? = some q) (f : vs[j]? = some (k, x)) : q.1 = k ∧ RelV q.2 x := by
  obtain ⟨y, g, r⟩ := LiI.paired_get h e
  rw [f] at g
  cases g
  exact r
theorem tups_told {X : Cx} {pins : List (Addr × Obj)} {σ : L2.St} {H : Hp} {s : Shared} {h' : Heap} {tk : Nat} {kvs : List (Key × V)} {vs : List (Key × Value)} {as : List Addr} (I : Inv X pins σ H s) (kv : KV kvs vs)
    (old : ∀ b o, s.heap.get? b = some o → h'.get? b = some o) (la : as.length = vs.length) (G : PySem.W.KdxG (mixKind X.prog X.w) vs s.heap.objs.size h' as) :
    (∀ b o, H b = some o → layT H as kvs b = some o) ∧ (∀ t ∈ as, H t = none) ∧ as.Nodup ∧ Inv X pins σ (layT H as kvs) { s with heap := h', toks := tk } := by
  have lk : as.length = kvs.length := la.trans (Paired.length kv).symm
  have nd : as.Nodup := List.Pairwise.imp (fun h => Nat.ne_of_lt h) G.rise
  have new : ∀ t ∈ as, H t = none := fun t m => I.hok.fresh (Nat.le_of_lt (G.above t m))
  have stay : ∀ b o, H b = some o → layT H as kvs b = some o := fun b o e => (layT_off fun m => by rw [new b m] at e; cases e).trans e
  have was : ∀ b o, s.heap.get? b = some o → b ∉ as := fun b o e m => absurd (Heap.lt_size e) (Nat.not_lt.mpr (Nat.le_of_lt (G.above b m)))
  refine ⟨stay, new, nd, I.un ⟨fun b o e _ _ _ => old b o e, fun b o e _ _ _ => ⟨o.slots, old b o e⟩, fun b o e n _ => (layT_off (was b o e)).trans n, fun b o e _ => ⟨o, old b o e⟩, fun b xs e => stay b _ e, fun b o u e => stay b _ e, fun b ps e => ⟨#[], by rw [stay b _ e]; simp⟩⟩ fun b u e => ?_⟩
  by_cases m : b ∈ as
  · obtain ⟨j, q, e1, e2⟩ := at_pair m lk
    rw [layT_on nd e1 e2] at e
    cases e
    obtain ⟨key, k, x, f1, f2, f3⟩ := G.pairs j b e1
    obtain ⟨g1, g2⟩ := kv_at kv e2 f1
    have rk : RelV (kV q.1) key := by
      rw [g1]
      exact relV_key (show keyIs k key = true from f2)
    exact ⟨by show 2 ≤ sizeLine; decide, [key, x], .cons rk (.cons g2 .nil), _, f3, rfl, _, rfl⟩
  · rw [layT_off m] at e
    exact (I.hok b u e).stay (fun d v _ y => old d v y) (fun d y => stay d _ y) fun d xs y => stay d _ y
/-! texts by their signs -/
def ltS (a b : Str) : Bool := decide (a.cps.toList < b.cps.toList)
theorem ltCps_iff : ∀ a b : List Nat, ltCps a b = decide (a < b)
  | [], [] => by simp [ltCps]
  | [], b :: t => by simp [ltCps]
  | a :: r, [] => by simp [ltCps]
  | a :: r, b :: t => by
    have ih := ltCps_iff r t
    unfold ltCps
    rw [ih, Bool.eq_iff_iff]
    simp only [Bool.or_eq_true, Bool.and_eq_true, decide_eq_true_eq, beq_iff_eq]
    rw [List.cons_lt_cons_iff]
theorem swoS (k : Value → Str) : SrtO.Swo fun v u => ltS (k v) (k u) := by
  refine ⟨fun x y h => ?_, fun x y z h g => ?_⟩
  · have h := of_decide_eq_true h
    exact decide_eq_false fun g => List.lt_irrefl _ (List.lt_trans h g)
  · have h := of_decide_eq_false h
    have g := of_decide_eq_false g
    exact decide_eq_false fun e => absurd e (List.not_lt.mpr (List.le_trans (List.not_lt.mp h) (List.not_lt.mp g)))
/-- a pair whose first part is a text -/
def IsNm (h : Heap) (v : Value) (z : Str) : Prop := ∃ a o t y n, v = .ref a ∧ h.get? a = some o ∧ o.cls = .type "tuple" ∧ o.data = .seq #[.str z t, y] n
theorem IsNm.on {h h' : Heap} {v : Value} {z : Str} (p : IsNm h v z) (k : ∀ b o, h.get? b = some o → o.cls = .type "tuple" → h'.get? b = some o) : IsNm h' v z := by
  obtain ⟨a, o, t, y, n, e, e1, e2, e3⟩ := p
  exact ⟨a, o, t, y, n, e, k a o e1 e2, e2, e3⟩
theorem nm_firsts {h : Heap} : ∀ {vs : List Value}, (∀ v ∈ vs, ∃ z, IsNm h v z) → ∃ fs : List Value, PySem.W.KatTups h vs fs ∧ fs.length = vs.length ∧ ∀ f ∈ fs, ∃ z t, f = Value.str z t
  | [], _ => ⟨[], .nil, rfl, fun f m => nomatch m⟩
  | v :: vs, p => by
    obtain ⟨fs, g1, g2, g3⟩ := nm_firsts (vs := vs) fun u m => p u (List.mem_cons_of_mem _ m)
    obtain ⟨z, a, o, t, y, n, rfl, e1, e2, e3⟩ := p v List.mem_cons_self
    refine ⟨.str z t :: fs, .cons e1 e2 e3 rfl g1, by rw [List.length_cons, List.length_cons, g2], fun f m => ?_⟩
    rcases List.mem_cons.mp m with rfl | m
    · exact ⟨z, t, rfl⟩
    · exact g3 f m
section
variable {prog : Program} {w : World} {A : Around} {E : Value → Shared → Prop} {s : Shared} {k : Value → Str}
theorem nm_cmp {vs : List Value} (p : ∀ v ∈ vs, IsNm s.heap v (k v)) (inj : ∀ v ∈ vs, ∀ u ∈ vs, k v = k u → v = u) : SrtO.Cmp prog w A s (tuples' true) (fun p => p.1 ∈ vs) (SrtO.lt2 fun v u => ltS (k v) (k u)) := by
  intro x y mx my
  have hx := p _ mx
  have hy := p _ my
  have iv := inj _ mx _ my
  show wpAny (model prog w) A (keyLt' (tuples' true) x.1 y.1) (fun r s' => s' = s ∧ r = ltS (k x.1) (k y.1)) (fun _ _ => False) s
  generalize k x.1 = z at *
  generalize k y.1 = z' at *
  obtain ⟨a, o, t, u, n, e, e1, e2, e3⟩ := hx
  obtain ⟨a', o', t', u', n', e', f1, f2, f3⟩ := hy
  rw [e, e']
  refine PySem.W.kat_lt e1 e3 f1 f3 ?_
  show PySem.W.KatLex prog w A true (decide (2 < 2)) _ [(.str z t, .str z' t'), (u, u')] 0 s
  refine PySem.W.kat_cons (SeqAt.EqAt.str_str z t z' t' prog w _ _ (PySem.W.kat_go (fun c => ?_) fun c => ?_))
  · have ez : z = z' := by simpa using c
    have ea := iv ez
    rw [e, e'] at ea
    cases ea
    rw [e1] at f1
    cases f1
    rw [e3] at f3
    have eu : u = u' := by
      injection f3 with g _
      have g2 := congrArg (fun b : Array Value => b[1]?) g
      simpa using g2
    refine PySem.W.kat_yes (PySem.W.kat_cons ?_)
    rw [← eu]
    refine SeqAt.EqAt.same u prog w _ _ (PySem.W.kat_yes (PySem.W.kat_nil ⟨rfl, ?_⟩))
    rw [ez]
    exact (decide_eq_false (List.lt_irrefl _)).symm
  · exact PySem.W.kat_no (oneLt_str ⟨rfl, rfl⟩)
theorem nm_sortable {a : Addr} {vs : List Value} (h0 : 0 < vs.length) (p : ∀ v ∈ vs, IsNm s.heap v (k v)) (inj : ∀ v ∈ vs, ∀ u ∈ vs, k v = k u → v = u) (na : ∀ o, s.heap.get? a = some o → o.cls ≠ .type "tuple") : SrtO.SortableO prog w A s a vs fun v u => ltS (k v) (k u) := by
  intro h' keep
  have p' : ∀ v ∈ vs, IsNm h' v (k v) := fun v m => (p v m).on fun b o e c => keep b o (fun q => na o (by rw [← q]; exact e) c) e
  obtain ⟨fs, g1, g2, g3⟩ := nm_firsts fun v m => ⟨_, p' v m⟩
  refine ⟨tuples' true, fun Q E q => ?_, nm_cmp (s := { s with heap := h' }) p' inj⟩
  refine PySem.W.kat_kind (T := .type "str") g1 (by omega) (fun f m => ?_) (by rfl) ?_
  · obtain ⟨z, t, rfl⟩ := g3 f m
    exact PySem.W.Looks.now
  · have e : (Value.type "str" != Value.type "tuple") = true := by first | decide +kernel | rfl | decide
    rw [e]
    exact q
end
end HL

/-! HSj: sorted(d.items()), the rule. -/
namespace HL
open PySem PySem.Spec PyProof.Rows L2 TL
theorem sortedS_of : ∀ {ys : List Str}, ys.Pairwise (fun a b => ltS b a = false) → sortedS ys = true
  | [], _ => rfl
  | x :: r, h => by
    have rise : ∀ (p : Str) (r : List Str), (p :: r).Pairwise (fun a b => ltS b a = false) → risingS p r = true := fun p r => by
      induction r generalizing p with
      | nil => exact fun _ => rfl
      | cons y t ih =>
        intro h
        obtain ⟨h1, h2⟩ := List.pairwise_cons.mp h
        unfold risingS
        rw [ih y h2, ltCps_iff, show decide (y.cps.toList < p.cps.toList) = false from h1 y List.mem_cons_self]
        rfl
    exact rise x r h
/-- a pair by its place -/
def pairOf (as : List Addr) (kvs : List (Key × V)) (a : Addr) : Key × V := (((as.zip kvs).find? fun x => decide (x.1 = a)).map (·.2)).getD (.inl 0, .non)
def textOf (k : Key) : Str := match k with
  | .inr z => z
  | .inl _ => ""
theorem pairOf_at {t : Addr} {q : Key × V} : ∀ {as : List Addr} {kvs : List (Key × V)} {j : Nat}, as.Nodup → as[j]? = some t → kvs[j]? = some q → pairOf as kvs t = q
  | a :: as, k :: kvs, 0, _, e, f => by
    cases e
    cases f
    unfold pairOf
    rw [List.zip_cons_cons, List.find?_cons, decide_eq_true (show (t, q).1 = t from rfl)]
    rfl
  | a :: as, k :: kvs, j + 1, nd, e, f => by
    have nd := List.nodup_cons.mp nd
    have e : as[j]? = some t := e
    have ne : ¬ a = t := fun c => nd.1 (c ▸ List.mem_of_getElem? e)
    have ih := pairOf_at nd.2 e f
    unfold pairOf at ih ⊢
    rw [List.zip_cons_cons, List.find?_cons, decide_eq_false ne]
    exact ih
  | [], _, _, _, e, _ => nomatch e
  | _ :: _, [], 0, _, _, f => nomatch f
  | _ :: _, [], _ + 1, _, _, f => nomatch f
theorem pairOf_all {as : List Addr} {kvs : List (Key × V)} (nd : as.Nodup) (l : as.length = kvs.length) : as.map (pairOf as kvs) = kvs := by
  refine List.ext_getElem? fun j => ?_
  rw [List.getElem?_map]
  cases e : as[j]? with
  | none => rw [List.getElem?_eq_none (by rw [← l]; exact List.getElem?_eq_none_iff.mp e)]; rfl
  | some a =>
    have lj := (List.getElem?_eq_some_iff.mp e).1
    have f := List.getElem?_eq_getElem (l := kvs) (i := j) (by omega)
    rw [f]
    exact congrArg some (pairOf_at nd e f)
def addrV (v : Value) : Addr := match v with
  | .ref a => a
  | _ => 0
def tSortedItems (te : TE) : TE := fun σ H Q => te σ H fun x H1 => ∃ (d : Addr) (kvs : List (Key × V)) (ks : List Str), x = .ref d ∧ H1 d = some (.dK kvs) ∧ kvs.map (·.1) = ks.map Sum.inr ∧ ks.Nodup ∧
  ∀ (H' : Hp) (p : Addr) (ts : List Addr) (kvs' : List (Key × V)) (ys : List Str), kvs'.Perm kvs → kvs'.map (·.1) = ys.map Sum.inr → sortedS ys = true → Kp [] H1 H' → H1 p = none → H' p = some (.lst (ts.map V.ref)) → Paired (fun (t : Addr) (q : Key × V) => H' t = some (.tup [kV q.1, q.2])) ts kvs' → Q (.ref p) H'
section
variable {X : Cx} {e : Expr} {te : TE} {p apos cpos pos : Pos}
theorem pe_sortedItems (hc : X.calm = true) (he : PE X e te) (hg : Gl X "sorted") (hm : X.mg "sorted" = none) (hv : bootBuiltins "sorted" = some (.builtin "sorted")) (hbase : attributeBase e "items" X.env (eval e X.env) = eval e X.env := by rfl) (hline : (apos.endLine == cpos.line) = true := by rfl)
    (hs : starEach [.Call (.Attribute e "items" apos) [] [] cpos] X.env = (false, eval (.Call (.Attribute e "items" apos) [] [] cpos) X.env) :: starEach [] X.env := by rfl) (hpl : (backTo pos (starEach [] X.env)).any (·.1) = false := by rfl) :
    PE X (.Call (.Name "sorted" p) [.Call (.Attribute e "items" apos) [] [] cpos] [] pos) (tSortedItems te) := by
  constructor
  intro pins s σ H Q I hq
  refine wpAny_Call_Name_kw (ld_blt I hg hm hv ?_)
  refine PyProof.Rows.callWith_builtin1 ?_ hs hpl
  rw [hs]
  show wpAny _ _ (spliced ((false, eval (.Call (.Attribute e "items" apos) [] [] cpos) X.env) :: backTo pos (starEach [] X.env))) _ _ s
  refine Calls.spliced_cons (wpAny_Call_method (T := "dict") (id := "dict.items") hbase rfl hline F.plainAttrs_dict F.slot_dict_items F.type_dict_items (thn (he.run pins s σ H _ I hq) ?_))
  rintro u s1 ⟨x, H1, I1, rx, d, kvs, ks, rfl, hd, hk, nd, q⟩
  obtain rfl : u = Value.ref d := rx
  obtain ⟨hz, hs0, vs, kv, hdo⟩ := I1.hok d _ hd
  obtain ⟨ep, hat⟩ := hdo.dictAt
  have lk : kvs.length = vs.length := Paired.length kv
  have I2 : Inv X pins σ H1 { s1 with heap := s1.heap.push { cls := .type "dict_items", data := .fields #[.ref d] } } := I1.kept (t' := s1.toks) fun b ob z => Heap.get?_push_of_some _ z
  refine ⟨hdo.typeIs, hdo.mapOf.noDict, ?_⟩
  show wpAny _ _ (callWith cpos (.builtin "dict.items") [.ref d] [] []) _ X.xe s1
  refine method_meetsIn F.slot_dict_items F.entry_dict_items rfl (PySem.evalArgs_none ⟨rfl, hdo.typeIs, F.args_dict_items_1 _, _, meets_dict_items (mixKind X.prog X.w) d hs0, ⟨vs, hdo⟩, ?_⟩)
  refine Calls.spliced_nil ?_
  refine Calls.call_function_entry PyProof.Rows.kind_sorted PyProof.Rows.plain_sorted PyProof.Rows.entry_sorted (PyProof.Rows.args_sorted1 _) ?_
  unfold Builtin.«sorted»
  refine wpAny_bind (m := checkCount "sorted" 1 1 _) (wpAny_pure ?_)
  refine wpAny_bind (PySem.W.kdx_collect (A := X.A.in1) (knd := mixKind X.prog X.w) (kvs := vs) (ep := ep) (I1.ok.hd hc) ⟨_, Heap.get?_push_size _ rfl, rfl, rfl⟩ (hat.push _) (by omega) fun h' tk as old la G => ?_)
  obtain ⟨stay, new, nda, J⟩ := tups_told (tk := tk) I2 kv old la G
  have lak : as.length = kvs.length := by omega
  refine wpAny_bind (wpAny_newList ?_ (by rw [List.length_map]; omega))
  have eL : (h'.push (seqObj "list" (as.map Value.ref).toArray 0)).get? h'.objs.size = some (seqObj "list" (as.map Value.ref).toArray 0) := Heap.get?_push_size _ rfl
  show wpAny _ _ _ _ _ { s1 with heap := h'.push (seqObj "list" (as.map Value.ref).toArray 0), toks := tk }
  have nmA : ∀ a ∈ as, IsNm h' (.ref a) (textOf (pairOf as kvs a).1) ∧ (pairOf as kvs a).1 = Sum.inr (textOf (pairOf as kvs a).1) := fun a ma => by
    obtain ⟨j, kq, e1, e2⟩ := at_pair ma lak
    rw [pairOf_at nda e1 e2]
    obtain ⟨key, k, x, f1, f2, f3⟩ := G.pairs j a e1
    obtain ⟨g1, _⟩ := kv_at kv e2 f1
    have mk : kq.1 ∈ ks.map Sum.inr := by rw [← hk]; exact List.mem_map.mpr ⟨kq, List.mem_of_getElem? e2, rfl⟩
    obtain ⟨z, _, ez⟩ := List.mem_map.mp mk
    rw [← ez] at g1 ⊢
    cases g1
    obtain ⟨t, ev⟩ := Value.isStrOf_shape (x := z) (v := key) f2
    cases ev
    exact ⟨⟨a, _, t, x, _, rfl, f3, rfl, rfl⟩, rfl⟩
  have texts : as.map (fun a => textOf (pairOf as kvs a).1) = ks := by
    have h1 : (as.map fun a => textOf (pairOf as kvs a).1) = (kvs.map (·.1)).map textOf := by
      have := congrArg (List.map fun q : Key × V => textOf q.1) (pairOf_all nda lak)
      rw [List.map_map] at this
      rw [List.map_map]
      exact this
    rw [h1, hk, List.map_map]
    exact List.map_id' _
  have nmV : ∀ v ∈ as.map Value.ref, IsNm h' v (textOf (pairOf as kvs (addrV v)).1) := fun v mv => by
    obtain ⟨a, ma, rfl⟩ := List.mem_map.mp mv
    exact (nmA a ma).1
  have injA : ∀ v ∈ as.map Value.ref, ∀ u ∈ as.map Value.ref, textOf (pairOf as kvs (addrV v)).1 = textOf (pairOf as kvs (addrV u)).1 → v = u := fun v mv u mu e => by
    obtain ⟨a, ma, rfl⟩ := List.mem_map.mp mv
    obtain ⟨b, mb, rfl⟩ := List.mem_map.mp mu
    obtain ⟨i, hi⟩ := List.mem_iff_getElem?.mp ma
    obtain ⟨j, hj⟩ := List.mem_iff_getElem?.mp mb
    have ei : ks[i]? = some (textOf (pairOf as kvs a).1) := by rw [← texts, List.getElem?_map, hi]; rfl
    have ej : ks[j]? = some (textOf (pairOf as kvs b).1) := by rw [← texts, List.getElem?_map, hj]; rfl
    have e : textOf (pairOf as kvs a).1 = textOf (pairOf as kvs b).1 := e
    rw [← e] at ej
    have : i = j := (List.getElem?_inj (List.getElem?_eq_some_iff.mp ei).1 nd).mp (ei.trans ej.symm)
    subst this
    rw [hi] at hj
    cases hj
    rfl
  refine wpAny_bind (wpAny_holding (wpAny_call_entry PyProof.Rows.slot_list_sort ⟨_, eL, rfl⟩ PyProof.Rows.entry_list_sort
    (SrtO.list_sort_ord (s := { s1 with heap := h'.push (seqObj "list" (as.map Value.ref).toArray 0), toks := tk }) (swoS fun v => textOf (pairOf as kvs (addrV v)).1) eL (by rw [List.length_map]; omega)
      (fun h2 => nm_sortable (by omega) (fun v mv => (nmV v mv).on fun b o e _ => Heap.get?_push_of_some _ e) injA fun o e => ?_) fun out so pm => ⟨_, rfl, ?_⟩) (PyProof.Rows.args_list_sort _)))
  · rw [eL] at e
    cases e
    exact fun c => absurd (Value.type.inj c) (by decide)
  have pmo := pm.perm
  have eo : out = (out.map addrV).map Value.ref := by
    rw [List.map_map]
    refine ((List.map_congr_left fun v mv => ?_).trans (List.map_id' out)).symm
    obtain ⟨a, _, rfl⟩ := List.mem_map.mp (pmo.mem_iff.mp mv)
    rfl
  have pt : (out.map addrV).Perm as := by
    have := pmo.map addrV
    rwa [List.map_map, show addrV ∘ Value.ref = id from rfl, List.map_id] at this
  have sot : (out.map fun v => textOf (pairOf as kvs (addrV v)).1).Pairwise (fun a b => ltS b a = false) := List.pairwise_map.mpr so
  generalize hts : out.map addrV = ts at *
  have eys : (out.map fun v => textOf (pairOf as kvs (addrV v)).1) = ts.map fun a => textOf (pairOf as kvs a).1 := by
    rw [← hts, List.map_map]
    rfl
  rw [eys] at sot
  subst eo
  obtain ⟨e', he'⟩ := PyProof.Rows.sortedHeap_at (vs := as.map Value.ref) (out := (ts.map Value.ref).toArray) eL
  have lts : ts.length = as.length := pt.length_eq
  refine wpAny_pure ⟨_, rfl, .ref h'.objs.size, upd (layT H1 as kvs) h'.objs.size (.lst (ts.map V.ref)), J.laid (t' := tk) (fun b u e => ?_) (Nat.le_refl _)
    (show ObjOk X.prog X.w _ _ _ (.lst (ts.map V.ref)) from ⟨by rw [List.length_map]; omega, ts.map Value.ref, e', LiI.vals_refs ts, he'⟩), rfl, ?_⟩
  · have hb : b < h'.objs.size := Heap.lt_size e
    refine (PyProof.Rows.sortedHeap_old (Nat.ne_of_lt hb) ?_).trans (Heap.get?_push_of_some _ e)
    rw [size_push']
    exact Nat.lt_succ_of_lt hb
  · have nL : (layT H1 as kvs) h'.objs.size = none := J.hok.fresh (Nat.le_refl _)
    have nLa : h'.objs.size ∉ as := fun m => by
      obtain ⟨j, kq, e1, e2⟩ := at_pair m lak
      rw [layT_on nda e1 e2] at nL
      cases nL
    have n1 : H1 h'.objs.size = none := by rwa [layT_off nLa] at nL
    refine q _ _ ts (ts.map (pairOf as kvs)) (ts.map fun a => textOf (pairOf as kvs a).1) ?_ ?_ (sortedS_of sot) (fun b o _ h => ?_) n1 upd_same ?_
    · have := pt.map (pairOf as kvs)
      rwa [pairOf_all nda lak] at this
    · rw [List.map_map, List.map_map]
      refine List.map_congr_left fun a ma => ?_
      exact (nmA a (pt.mem_iff.mp ma)).2
    · exact (upd_ne fun c => by rw [c, n1] at h; cases h).trans (stay b o h)
    · have all : ∀ l : List Addr, (∀ a ∈ l, a ∈ as) → Paired (fun (t : Addr) (q : Key × V) => upd (layT H1 as kvs) h'.objs.size (.lst (ts.map V.ref)) t = some (.tup [kV q.1, q.2])) l (l.map (pairOf as kvs)) := fun l => by
        induction l with
        | nil => exact fun _ => .nil
        | cons a r ih =>
          intro h
          refine .cons ?_ (ih fun b m => h b (List.mem_cons_of_mem _ m))
          have ma := h a List.mem_cons_self
          obtain ⟨j, kq, e1, e2⟩ := at_pair ma lak
          rw [pairOf_at nda e1 e2]
          exact (upd_ne fun c => nLa (by rw [← c]; exact ma)).trans (layT_on nda e1 e2)
      exact all ts fun a ma => pt.mem_iff.mp ma
end
theorem s_sortedItems {te : TE} {σ : L2.St} {H : Hp} {Q : VK} (h : te σ H fun x H1 => ∃ (d : Addr) (kvs : List (Key × V)) (ks : List Str), x = .ref d ∧ H1 d = some (.dK kvs) ∧ kvs.map (·.1) = ks.map Sum.inr ∧ ks.Nodup ∧
  ∀ (H' : Hp) (p : Addr) (ts : List Addr) (kvs' : List (Key × V)) (ys : List Str), kvs'.Perm kvs → kvs'.map (·.1) = ys.map Sum.inr → sortedS ys = true → Kp [] H1 H' → H1 p = none → H' p = some (.lst (ts.map V.ref)) → Paired (fun (t : Addr) (q : Key × V) => H' t = some (.tup [kV q.1, q.2])) ts kvs' → Q (.ref p) H') : tSortedItems te σ H Q := h
end HL

/-! HSk: equal lists of dicts, compared by !=. -/
namespace PySem.SeqAt
open AutoSeq1 (wpAny_loadPart')
open MeetsSeq MeetsSeq2 MeetsSeq3 SeqRoads2
abbrev lob (dx : Option Addr) (xs : Array Value) (m : Nat) (so : Array (Option Value)) : Obj := { cls := .type "list", dict := dx, data := .seq xs m, slots := so }
section
variable {prog : Program} {w : World} {p q : Addr} {xs ys : Array Value} {m m' : Nat} {dx dy : Option Addr} {so so' : Array (Option Value)}
/-- the turns of != of two lists whose items are all equal -/
theorem same_turns (sz : xs.size = ys.size) : ∀ (r i : Nat), xs.size = i + r → MeetsIn prog w (Builtin.«list.__eq__.loop» ⟨[.ref p, .ref q, rawInt i, rawInt 3], []⟩)
    fun A R s => s.heap.get? p = some (lob dx xs m so) ∧ s.heap.get? q = some (lob dy ys m' so') ∧ (∀ j (a : j < xs.size) (b : j < ys.size), EqP prog w A.in1 s xs[j] ys[j] true) ∧ R (.ok (.ret (.bool false))) s := by
  intro r
  induction r with
  | zero =>
    rintro i z A R ⟨hp, g, d, tk, os⟩ ⟨e1, e2, _, f⟩
    wp_walk using wpAny_loadPart' e1, wpAny_loadPart' e2
    have n1 : xs[((i : Nat) : Int).toNat]? = none := by simp; omega
    have n2 : ys[((i : Nat) : Int).toNat]? = none := by simp; omega
    rw [n1, n2]
    wp_walk using wpAny_loadPart' e1, wpAny_loadPart' e2
    show R (.ok (.ret (.bool (xs.size != ys.size)))) _
    rw [sz]
    simpa using f
  | succ r ih =>
    rintro i z A R ⟨hp, g, d, tk, os⟩ ⟨e1, e2, e3, f⟩
    wp_walk using wpAny_loadPart' e1, wpAny_loadPart' e2
    have lx : i < xs.size := by omega
    have ly : i < ys.size := by omega
    have n1 : xs[((i : Nat) : Int).toNat]? = some xs[i] := by simp [lx]
    have n2 : ys[((i : Nat) : Int).toNat]? = some ys[i] := by simp [ly]
    have up : (i : Int) + 1 = ((i + 1 : Nat) : Int) := by push_cast; rfl
    rw [n1, n2]
    refine wpAny_bind (e3 i lx ly _ _ ?_)
    wp_walk
    rw [up]
    refine ⟨plainId_quiet plain_eq_loop _, codeAny_builtin entry_eq_loop ?_⟩
    rw [Around.under_plainId plain_eq_loop _]
    exact ih (i + 1) (by omega) A R _ ⟨e1, e2, e3, f⟩
theorem same_lists (sz : xs.size = ys.size) : MeetsIn prog w (Builtin.«list.__ne__» ⟨[.ref p, .ref q], []⟩)
    fun A R s => s.heap.get? p = some (lob dx xs m so) ∧ s.heap.get? q = some (lob dy ys m' so') ∧ (∀ j (a : j < xs.size) (b : j < ys.size), EqP prog w A.in1 s xs[j] ys[j] true) ∧ R (.ok (.ret (.bool false))) s := by
  rintro A R ⟨hp, g, d, tk, os⟩ ⟨e1, e2, e3, f⟩
  have sub := AutoSeq1.sub_list_list
  have nz : ¬ (xs.size != ys.size) = true := by simp [sz]
  wp_walk using wpAny_loadPart' e1, wpAny_loadPart' e2
  refine ⟨plainId_quiet plain_eq_loop _, codeAny_builtin entry_eq_loop ?_⟩
  rw [Around.under_plainId plain_eq_loop _]
  exact same_turns sz xs.size 0 (by omega) A R _ ⟨e1, e2, e3, f⟩
theorem ne_same {A : Around} {s : Shared} {E Q : Value → Shared → Prop} (hx : s.heap.IsList p xs) (hy : s.heap.IsList q ys) (sz : xs.size = ys.size) (room : A.units < cLine)
    (he : ∀ j (a : j < xs.size) (b : j < ys.size), EqP prog w A.in1 s xs[j] ys[j] true) (f : Q (.bool false) s) : wpAny (model prog w) A (richCompare .NotEq (.ref p) (.ref q)) Q E s := by
  obtain ⟨⟨c1, d1, t1, l1⟩, o1, k1, n1, g1⟩ := id hx
  obtain ⟨⟨c2, d2, t2, l2⟩, o2, k2, n2, g2⟩ := id hy
  dsimp only at k1 g1 k2 g2
  subst k1 g1 k2 g2
  have t1 : s.TypeIs (.ref p) "list" := ⟨_, o1, rfl⟩
  have t2 : s.TypeIs (.ref q) "list" := ⟨_, o2, rfl⟩
  refine wpAny_richCompare_same_room (op := .NotEq) t1 t2 F.slot_list_ne (call_meetsIn F.slot_list_ne t1 F.entry_list_ne (F.args_list_ne_2 _ _) (same_lists sz) ⟨o1, o2, he, ?_⟩) room
  show Value.bool false ≠ Value.notImplemented ∧ Q (.bool false) s
  exact ⟨(fun x => nomatch x), f⟩
end
end PySem.SeqAt
namespace HL
open PySem PySem.Spec PyProof.Rows L2 TL
/-- != of two lists whose items are equal, one by one -/
def rNeSame (K : PySem.W.Frag) : R2 := fun x y H Q => ∃ n a b xs ys, n ≤ 60 ∧ x = .ref a ∧ y = .ref b ∧ SqL K H a xs ∧ SqL K H b ys ∧ Paired (EqV K H n) xs ys ∧ Q (.bl false) H
theorem neSameK {X : Cx} {K : PySem.W.Frag} (hK : X.K = K) (hu : X.A.units + 64 < cLine) : OpR X (compareOp .NotEq) (rNeSame K) := by
  subst hK
  intro pins s σ H x y v u Q I rx ry h
  obtain ⟨n, a, b, xs, ys, hn, rfl, rfl, hx, hy, hp, q⟩ := h
  obtain rfl : v = Value.ref a := rx
  obtain rfl : u = Value.ref b := ry
  obtain ⟨us, r1, p1, _⟩ := I.list hx
  obtain ⟨ws, r2, p2, _⟩ := I.list hy
  have sz : us.toArray.size = ws.toArray.size := by
    rw [List.size_toArray, List.size_toArray, ← r1.length, ← r2.length]
    exact Paired.length hp
  refine SeqAt.ne_same p1.isList p2.isList sz (by omega) (fun j h1 h2 => ?_) ⟨.bl false, H, I, rfl, q⟩
  have k := items_run (P := X.prog) (w := X.w) (A := X.A.in1) (s := s) (eqV_run I n X.A.in1 (by show X.A.units + 1 + n < cLine; omega)) hp r1 r2 j (by simpa using h1) (by simpa using h2)
  simpa using k
theorem s_neSame {K : PySem.W.Frag} {H : Hp} {Q : VK} {n : Nat} {a b : Addr} {xs ys : List V} (hn : n ≤ 60) (hx : SqL K H a xs) (hy : SqL K H b ys) (hp : Paired (EqV K H n) xs ys) (q : Q (.bl false) H) : rNeSame K (.ref a) (.ref b) H Q := ⟨n, a, b, xs, ys, hn, rfl, rfl, hx, hy, hp, q⟩
/-- a dict and its copy -/
theorem eqV_copy {K : PySem.W.Frag} {H : Hp} {a b : Addr} {kvs : List (Key × V)} (n : Nat) (ha : H a = some (.dK kvs)) (hb : H b = some (.dK kvs)) (nd : (kvs.map (·.1)).Nodup) (h : ∀ p ∈ kvs, EqV K H n p.2 p.2) : EqV K H (n + 1) (.ref a) (.ref b) := by
  refine .inr (.inr (.inr ⟨a, b, kvs, kvs, rfl, rfl, ha, hb, rfl, fun p hp => ⟨p.2, ?_, h p hp⟩⟩))
  have : ∀ l : List (Key × V), (l.map (·.1)).Nodup → p ∈ l → valV l p.1 = some p.2 := fun l => by
    induction l with
    | nil => exact fun _ m => nomatch m
    | cons x r ih =>
      intro nd m
      rw [List.map_cons, List.nodup_cons] at nd
      rcases List.mem_cons.mp m with rfl | m
      · exact valV_pos rfl
      · rw [valV_neg fun e => nd.1 (by rw [e]; exact List.mem_map.mpr ⟨p, m, rfl⟩)]
        exact ih nd.2 m
  exact this kvs nd hp
end HL

/-! FHp: bodies that set their own path, and one that takes some of them. -/
namespace PH
open PySem PySem.Spec PyProof.Rows L2 HL TL
theorem s_iEnum {K : PySem.W.Frag} {σ : L2.St} {H : Hp} {ta : TA} {R : It → Hp → Prop} (h : ta σ H fun vs H1 => ∃ a xs, vs = [.ref a] ∧ SqL K H1 a xs ∧ R (Ite K a) H1) : iEnum K ta σ H R := h
structure Sh1 (ps : List Str) (tk : Str) (so : List Str) (fnd : Str → Option (List Row)) : Prop where
  bod : ∀ q b, fnd q = some b → (q ≠ tk ∧ q ∈ ps ∧ ∃ n, b = [.set q n]) ∨ (q = tk ∧ b = so.map fun z => .take z z)
  tkp : tk ∉ ps
  sub : ∀ z ∈ so, z ∈ ps
  nd : so.Nodup
structure Std1 (tk : Str) (fnd : Str → Option (List Row)) (a : Ab) : Prop where
  nl : a.nm.length = a.qs.length
  st : ∀ q k, getA a.tab q = some k → q ≠ tk → a.qs[k]? = some q ∧ ∃ n, fnd q = some [.set q n] ∧ a.names k = [(q, .num n)]
structure StdT (tk : Str) (so : List Str) (fnd : Str → Option (List Row)) (a : Ab) : Prop where
  s : Std1 tk fnd a
  t : ∀ k, getA a.tab tk = some k → a.qs[k]? = some tk ∧ fnd tk = some (so.map fun z => .take z z) ∧ ∃ g : Str → Nat, a.names k = so.map (fun z => (z, Th.mod (g z))) ∧ ∀ z ∈ so, getA a.tab z = some (g z)
theorem lt_of_get {α : Type} {xs : List α} {k : Nat} {x : α} (h : xs[k]? = some x) : k < xs.length := (List.getElem?_eq_some_iff.mp h).1
theorem get_app {α : Type} {xs ys : List α} {k : Nat} {x : α} (h : xs[k]? = some x) : (xs ++ ys)[k]? = some x := by
  rw [List.getElem?_append_left (lt_of_get h), h]
theorem nms_bind (a : Ab) (k j : Nat) (z : Str) (t : Th) : (a.bind k z t).names j = if j = k ∧ k < a.nm.length then putA (a.names k) z t else a.names j := by
  show (a.nm.set k (putA (a.names k) z t)).getD j [] = _
  rw [List.getD_eq_getElem?_getD, List.getElem?_set]
  by_cases c : k = j
  · subst c
    rw [if_pos rfl]
    by_cases l : k < a.nm.length
    · rw [if_pos l, if_pos ⟨rfl, l⟩]; rfl
    · rw [if_neg l, if_neg fun h => l h.2]
      show [] = a.nm.getD k []
      rw [List.getD_eq_getElem?_getD, List.getElem?_eq_none (Nat.le_of_not_lt l)]
      rfl
  · rw [if_neg c, if_neg fun h => c h.1.symm, ← List.getD_eq_getElem?_getD]
    rfl
/-- a body that sets its own path -/
theorem set_one {fnd : Str → Option (List Row)} {n : Nat} {a : Ab} {p : Str} {m : Int} (nl : a.nm.length = a.qs.length) (t0 : getA a.tab p = none) (b0 : getA a.brk p = none) (f : fnd p = some [.set p m]) :
    ∃ b, oneF wayR fnd (n + 1) a p = (b, .ok a.qs.length) ∧ b.qs = a.qs ++ [p] ∧ b.nm = a.nm ++ [[(p, .num m)]] ∧ b.tab = a.tab ++ [(p, a.qs.length)] ∧ b.brk = a.brk ∧ b.line = a.line := by
  obtain ⟨rl, rt⟩ := row_top (i := 0) (a := a.begin p) (pl := a.line) (k := a.qs.length) (r := 0) rfl
  refine ⟨(((a.begin p).row 0).bind ((a.begin p).row 0).top.1 p (.num m)).fin a.qs.length, ?_, rfl, ?_, rfl, rfl, ?_⟩
  · unfold oneF
    rw [t0, b0]
    dsimp only
    rw [f]
    rfl
  · show ((a.begin p).row 0).nm.set ((a.begin p).row 0).top.1 _ = _
    rw [rt]
    show (a.nm ++ [[]]).set a.qs.length (putA ((a.nm ++ [[]]).getD a.qs.length []) p (.num m)) = _
    rw [← nl, List.getD_eq_getElem?_getD, List.getElem?_append_right (Nat.le_refl _), Nat.sub_self, List.set_append_right _ _ (Nat.le_refl _), Nat.sub_self]
    rfl
  · show ((a.begin p).row 0).line.dropLast = _
    rw [rl, List.dropLast_concat]
section
variable {ps : List Str} {tk : Str} {so : List Str} {fnd : Str → Option (List Row)}
/-- what one of them does, taken -/
theorem one_flat (S : Sh1 ps tk so fnd) {n : Nat} {c : Ab} {z : Str} (D : Std1 tk fnd c) (b0 : c.brk = []) (nz : z ≠ tk) :
    (fnd z = none → oneF wayR fnd (n + 1) c z = (c.up, .error (noModF z))) ∧
    (fnd z ≠ none → ∃ d m, oneF wayR fnd (n + 1) c z = (d, .ok m) ∧ Std1 tk fnd d ∧ d.line = c.line ∧ d.brk = [] ∧ getA d.tab z = some m ∧ (∀ q k, getA c.tab q = some k → getA d.tab q = some k) ∧ getA d.tab tk = getA c.tab tk ∧ (∃ more, d.qs = c.qs ++ more) ∧ ∀ k, k < c.qs.length → d.names k = c.names k) := by
  cases g : getA c.tab z with
  | some m =>
    obtain ⟨q0, nn, f, e⟩ := D.st z m g nz
    refine ⟨(fun h => by rw [f] at h; cases h), fun _ => ⟨c.put (haveE m), m, ?_, ⟨D.nl, D.st⟩, rfl, b0, g, fun _ _ h => h, rfl, ⟨[], (List.append_nil _).symm⟩, fun _ _ => rfl⟩⟩
    unfold oneF
    rw [g]
  | none =>
    have gb : getA c.brk z = none := by rw [b0]; rfl
    refine ⟨fun h => ?_, fun h => ?_⟩
    · unfold oneF
      rw [g, gb]
      dsimp only
      rw [h]
    · obtain ⟨b, eb⟩ := Option.ne_none_iff_exists'.mp h
      rcases S.bod z b eb with ⟨_, hz, m, rfl⟩ | ⟨e, _⟩
      · obtain ⟨d, e1, e2, e3, e4, e5, e6⟩ := set_one (n := n) D.nl g gb eb
        have nm : ∀ k, k < c.qs.length → d.names k = c.names k := fun k l => by
          show d.nm.getD k [] = c.nm.getD k []
          rw [e3, List.getD_eq_getElem?_getD, List.getElem?_append_left (by rw [D.nl]; exact l), List.getD_eq_getElem?_getD]
        have nl2 : d.names c.qs.length = [(z, .num m)] := by
          show d.nm.getD c.qs.length [] = _
          rw [e3, ← D.nl, List.getD_eq_getElem?_getD, List.getElem?_append_right (Nat.le_refl _), Nat.sub_self]
          rfl
        refine ⟨d, c.qs.length, e1, ⟨by rw [e3, e2, List.length_append, List.length_append, D.nl]; rfl, fun q k h nq => ?_⟩, e6, e5.trans b0, by rw [e4, getA_app, g, if_pos rfl]; rfl, fun q k h => by rw [e4, getA_app, h]; rfl, by rw [e4, getA_app, if_neg nz]; simp, ⟨_, e2⟩, nm⟩
        rw [e4, getA_app] at h
        cases h2 : getA c.tab q with
        | some k2 =>
          rw [h2] at h
          obtain rfl : k2 = k := Option.some.inj h
          obtain ⟨a1, nn, a2, a3⟩ := D.st q k2 h2 nq
          refine ⟨by rw [e2]; exact get_app a1, nn, a2, ?_⟩
          rw [nm _ (lt_of_get a1), a3]
        | none =>
          rw [h2] at h
          by_cases cz : z = q
          · subst cz
            rw [if_pos rfl] at h
            obtain rfl : c.qs.length = k := Option.some.inj h
            exact ⟨by rw [e2, List.getElem?_append_right (Nat.le_refl _), Nat.sub_self]; rfl, m, eb, nl2⟩
          · rw [if_neg cz] at h
            cases h
      · exact absurd e nz
theorem Std1.bind {c : Ab} {k : Nat} {z : Str} {t : Th} (D : Std1 tk fnd c) (hk : c.qs[k]? = some tk) : Std1 tk fnd (c.bind k z t) := by
  refine ⟨(List.length_set ..).trans D.nl, fun q j h nq => ?_⟩
  obtain ⟨a1, nn, a2, a3⟩ := D.st q j h nq
  refine ⟨a1, nn, a2, ?_⟩
  rw [nms_bind, if_neg fun h => nq ?_, a3]
  rw [h.1, hk] at a1
  exact (Option.some.inj a1).symm
theorem Std1.row {c : Ab} (D : Std1 tk fnd c) (i : Nat) : Std1 tk fnd (c.row i) := ⟨D.nl, D.st⟩
abbrev lackF (fnd : Str → Option (List Row)) (zs : List Str) : List Str := zs.filter fun z => (fnd z).isNone
theorem body_takes (S : Sh1 ps tk so fnd) {n : Nat} : ∀ (zs : List Str) (i : Nat) (c : Ab) (pl : List (Nat × Nat)) (k r0 : Nat), tk ∉ zs → zs.Nodup → (∀ z ∈ zs, z ∉ (c.names k).map (·.1)) → c.line = pl ++ [(k, r0)] → c.qs[k]? = some tk → c.brk = [] → Std1 tk fnd c →
    (lackF fnd zs = [] → ∃ (d : Ab) (g : Str → Nat) (r1 : Nat), bodyF (rowF wayR (oneF wayR fnd (n + 1)) 3) i (zs.map fun z => .take z z) c = (d, .ok ()) ∧ Std1 tk fnd d ∧ d.line = pl ++ [(k, r1)] ∧ d.names k = c.names k ++ zs.map (fun z => (z, Th.mod (g z))) ∧ (∀ z ∈ zs, getA d.tab z = some (g z)) ∧ (∀ q m, getA c.tab q = some m → getA d.tab q = some m) ∧ getA d.tab tk = getA c.tab tk ∧ ∃ more, d.qs = c.qs ++ more) ∧
    ∀ z r, lackF fnd zs = z :: r → ∃ (d : Ab) (r1 : Nat), bodyF (rowF wayR (oneF wayR fnd (n + 1)) 3) i (zs.map fun z => .take z z) c = (d, .error (noModF z)) ∧ Std1 tk fnd d ∧ d.line = pl ++ [(k, r1)] ∧ getA d.tab tk = getA c.tab tk
  | [], i, c, pl, k, r0, _, _, _, el, _, _, D => ⟨fun _ => ⟨c, fun _ => 0, r0, rfl, D, el, by simp, by simp, fun _ _ h => h, rfl, [], (List.append_nil _).symm⟩, fun z r h => nomatch h⟩
  | z :: zs, i, c, pl, k, r0, nt, nd, nn, el, hk, b0, D => by
    obtain ⟨rl, rt⟩ := row_top (i := i) el
    have nz : z ≠ tk := fun e => nt (e ▸ List.mem_cons_self)
    have nd := List.nodup_cons.mp nd
    have e3 : bodyF (rowF wayR (oneF wayR fnd (n + 1)) 3) i ((z :: zs).map fun z => .take z z) c = match (match oneF wayR fnd (n + 1) (c.row i) z with
      | (b, .ok m) => ((b.bind (c.row i).top.1 z (.mod m), .ok ()) : Rs Unit)
      | (b, .error f) => (b, .error f)) with
      | (b, .ok _) => bodyF (rowF wayR (oneF wayR fnd (n + 1)) 3) (i + 1) (zs.map fun z => .take z z) b
      | (b, .error e) => (b, .error e) := rfl
    obtain ⟨o1, o2⟩ := one_flat S (n := n) (D.row i) b0 nz
    rw [e3, rt]
    cases h : fnd z with
    | none =>
      have el : lackF fnd (z :: zs) = z :: lackF fnd zs := by unfold lackF; rw [List.filter_cons_of_pos (by rw [h]; rfl)]
      rw [el, o1 h]
      refine ⟨fun h => (nomatch h), fun y r h => ?_⟩
      injection h with h1 _
      subst h1
      exact ⟨(c.row i).up, i, rfl, ⟨D.nl, D.st⟩, rl, rfl⟩
    | some b =>
      have el : lackF fnd (z :: zs) = lackF fnd zs := by unfold lackF; rw [List.filter_cons_of_neg (by rw [h]; simp)]
      obtain ⟨d, m, f1, f2, f3, f4, f5, f6, f7, ⟨more, f8⟩, f9⟩ := o2 (by rw [h]; simp)
      have f8 : d.qs = c.qs ++ more := f8
      have hk2 : d.qs[k]? = some tk := by rw [f8]; exact get_app hk
      have lk : k < d.nm.length := by rw [f2.nl]; exact lt_of_get hk2
      have nk : d.names k = c.names k := f9 k (lt_of_get hk)
      have nb : (d.bind k z (.mod m)).names k = c.names k ++ [(z, .mod m)] := by
        rw [nms_bind, if_pos ⟨rfl, lk⟩, nk, putA_new (nn z List.mem_cons_self)]
      rw [el, f1]
      dsimp only
      obtain ⟨i1, i2⟩ := body_takes S (n := n) zs (i + 1) (d.bind k z (.mod m)) pl k i (fun h => nt (List.mem_cons_of_mem _ h)) nd.2 (fun y hy => by
        rw [nb, List.map_append]
        intro hm
        rcases List.mem_append.mp hm with hm | hm
        · exact nn y (List.mem_cons_of_mem _ hy) hm
        · exact nd.1 (by rw [← show y = z from List.mem_singleton.mp hm]; exact hy)) (f3.trans rl) hk2 f4 (f2.bind hk2)
      refine ⟨fun hl => ?_, fun y r hl => ?_⟩
      · obtain ⟨e, g, r1, g1, g2, g3, g4, g5, g6, g7, m2, g8⟩ := i1 hl
        refine ⟨e, fun q => if q = z then m else g q, r1, g1, g2, g3, ?_, fun y hy => ?_, fun q j h => g6 q j (f6 q j h), g7.trans f7, more ++ m2, ?_⟩
        · rw [g4, nb, List.append_assoc]
          congr 1
          rw [List.map_cons]
          dsimp only
          rw [if_pos rfl]
          refine congrArg (List.cons _) (List.map_congr_left fun y hy => ?_)
          rw [if_neg fun e => nd.1 (by rw [← e]; exact hy)]
        · dsimp only
          by_cases cy : y = z
          · rw [if_pos cy, cy]
            exact g6 z m f5
          · rw [if_neg cy]
            exact g5 y ((List.mem_cons.mp hy).resolve_left cy)
        · rw [g8]
          show d.qs ++ m2 = _
          rw [f8, List.append_assoc]
      · obtain ⟨e, r1, g1, g2, g3, g4⟩ := i2 y r hl
        exact ⟨e, r1, g1, g2, g3, g4.trans f7⟩
/-- what is lacking of a path -/
def lackP (fnd : Str → Option (List Row)) (so : List Str) (tk p : Str) : List Str := match fnd p with
  | none => [p]
  | some _ => if p = tk then lackF fnd so else []
theorem StdT.of1 {a : Ab} (D : Std1 tk fnd a) (h : getA a.tab tk = none) : StdT tk so fnd a := ⟨D, fun k e => by rw [h] at e; cases e⟩
theorem one_deep (S : Sh1 ps tk so fnd) {n : Nat} {a : Ab} {p : Str} (D : StdT tk so fnd a) (b0 : a.brk = []) :
    (lackP fnd so tk p = [] → ∃ d m, oneF wayR fnd (n + 2) a p = (d, .ok m) ∧ StdT tk so fnd d ∧ getA d.tab p = some m) ∧
    ∀ z r, lackP fnd so tk p = z :: r → ∃ d, oneF wayR fnd (n + 2) a p = (d, .error (noModF z)) ∧ StdT tk so fnd d := by
  by_cases c : p = tk
  · subst c
    cases g : getA a.tab p with
    | some k =>
      obtain ⟨a1, a2, gg, a3, a4⟩ := D.t k g
      have no : lackP fnd so p p = [] := by
        unfold lackP
        rw [a2]
        dsimp only
        rw [if_pos rfl, List.filter_eq_nil_iff]
        intro z hz
        have nz : z ≠ p := fun e => S.tkp (e ▸ S.sub z hz)
        obtain ⟨_, nn, e, _⟩ := D.s.st z _ (a4 z hz) nz
        rw [e]
        simp
      refine ⟨fun _ => ⟨a.put (haveE k), k, ?_, ⟨⟨D.s.nl, D.s.st⟩, D.t⟩, g⟩, fun z r h => by rw [no] at h; cases h⟩
      unfold oneF
      rw [g]
    | none =>
      have gb : getA a.brk p = none := by rw [b0]; rfl
      cases f : fnd p with
      | none =>
        have el : lackP fnd so p p = [p] := by unfold lackP; rw [f]
        rw [el]
        refine ⟨fun h => (nomatch h), fun z r h => ?_⟩
        injection h with h1 _
        subst h1
        refine ⟨a.up, ?_, ⟨⟨D.s.nl, D.s.st⟩, D.t⟩⟩
        unfold oneF
        rw [g, gb]
        dsimp only
        rw [f]
      | some b =>
        have el : lackP fnd so p p = lackF fnd so := by unfold lackP; rw [f]; dsimp only; rw [if_pos rfl]
        rcases S.bod p b f with ⟨e, _⟩ | ⟨_, rfl⟩
        · exact absurd rfl e
        have nls : (a.begin p).nm.length = (a.begin p).qs.length := by
          show (a.nm ++ [[]]).length = (a.qs ++ [p]).length
          rw [List.length_append, List.length_append, D.s.nl]
          rfl
        have nk : (a.begin p).names a.qs.length = [] := by
          show (a.nm ++ [[]]).getD a.qs.length [] = []
          rw [← D.s.nl, List.getD_eq_getElem?_getD, List.getElem?_append_right (Nat.le_refl _), Nat.sub_self]
          rfl
        have hk : (a.begin p).qs[a.qs.length]? = some p := by
          show (a.qs ++ [p])[a.qs.length]? = _
          rw [List.getElem?_append_right (Nat.le_refl _), Nat.sub_self]
          rfl
        have D1 : Std1 p fnd (a.begin p) := ⟨nls, fun q k h nq => by
          have h : getA (a.tab ++ [(p, a.qs.length)]) q = some k := h
          rw [getA_app, if_neg fun e => nq e.symm] at h
          have h : getA a.tab q = some k := by
            cases e : getA a.tab q with
            | none => rw [e] at h; cases h
            | some j => rw [e] at h; exact h
          obtain ⟨a1, nn, a2, a3⟩ := D.s.st q k h nq
          refine ⟨get_app a1, nn, a2, ?_⟩
          rw [← a3]
          show (a.nm ++ [[]]).getD k [] = a.nm.getD k []
          rw [List.getD_eq_getElem?_getD, List.getElem?_append_left (by rw [D.s.nl]; exact lt_of_get a1), List.getD_eq_getElem?_getD]⟩
        obtain ⟨i1, i2⟩ := body_takes S (n := n) so 0 (a.begin p) a.line a.qs.length 0 (fun h => S.tkp (S.sub p h)) S.nd (fun z _ => by rw [nk]; exact List.not_mem_nil) rfl hk b0 D1
        have one : oneF wayR fnd (n + 2) a p = match bodyF (rowF wayR (oneF wayR fnd (n + 1)) 3) 0 (so.map fun z => .take z z) (a.begin p) with
          | (b, .ok _) => (b.fin a.qs.length, .ok a.qs.length)
          | (b, .error f) => (b.broke a.qs.length p f, .error f) := by
          rw [show n + 2 = (n + 1) + 1 from rfl]
          conv => lhs; unfold oneF
          rw [g, gb]
          dsimp only
          rw [f]
          rfl
        rw [el, one]
        refine ⟨fun hl => ?_, fun y r hl => ?_⟩
        · obtain ⟨d, gg, r1, g1, g2, g3, g4, g5, g6, g7, more, g8⟩ := i1 hl
          rw [g1]
          have tt : getA d.tab p = some a.qs.length := g7.trans (begin_tab g)
          refine ⟨_, _, rfl, ⟨⟨g2.nl, g2.st⟩, fun k h => ?_⟩, tt⟩
          have h : getA d.tab p = some k := h
          rw [tt] at h
          obtain rfl : a.qs.length = k := Option.some.inj h
          refine ⟨?_, f, gg, ?_, g5⟩
          · show d.qs[a.qs.length]? = _
            rw [g8]
            exact get_app hk
          · show d.names a.qs.length = _
            rw [g4, nk, List.nil_append]
        · obtain ⟨d, r1, g1, g2, g3, g4⟩ := i2 y r hl
          rw [g1]
          refine ⟨_, rfl, .of1 ⟨g2.nl, fun q k h nq => ?_⟩ ?_⟩
          · have h : getA (delA d.tab p) q = some k := h
            rw [getA_del, if_neg nq] at h
            exact g2.st q k h nq
          · show getA (delA d.tab p) p = none
            rw [getA_del, if_pos rfl]
  · obtain ⟨o1, o2⟩ := one_flat S (n := n + 1) D.s b0 c
    cases f : fnd p with
    | none =>
      have el : lackP fnd so tk p = [p] := by unfold lackP; rw [f]
      rw [el]
      refine ⟨fun h => (nomatch h), fun z r h => ?_⟩
      injection h with h1 _
      subst h1
      exact ⟨_, o1 f, ⟨⟨D.s.nl, D.s.st⟩, D.t⟩⟩
    | some b =>
      have el : lackP fnd so tk p = [] := by unfold lackP; rw [f]; dsimp only; rw [if_neg c]
      rw [el]
      refine ⟨fun _ => ?_, fun z r h => nomatch h⟩
      obtain ⟨d, m, f1, f2, f3, f4, f5, f6, f7, ⟨more, f8⟩, f9⟩ := o2 (by rw [f]; simp)
      refine ⟨d, m, f1, ⟨f2, fun k h => ?_⟩, f5⟩
      rw [f7] at h
      obtain ⟨a1, a2, gg, a3, a4⟩ := D.t k h
      exact ⟨by rw [f8]; exact get_app a1, a2, gg, by rw [f9 k (lt_of_get a1), a3], fun z hz => f6 z _ (a4 z hz)⟩
end
end PH

/-! FHq: the sorted items of dicts whose things are data. -/
namespace PH
open PySem PySem.Spec PyProof.Rows L2 HL TL
section
variable {K : PySem.W.Frag} {H H' : Hp}
theorem nmR_mem {α : Type} {R : α → V → Prop} {xs : List (Str × α)} {kvs : List (Key × V)} (h : NmR R xs kvs) {k : Key} {v : V} (m : (k, v) ∈ kvs) : ∃ z t, k = Sum.inr z ∧ (z, t) ∈ xs ∧ R t v := by
  induction h with
  | nil => cases m
  | @cons x y xs kvs e t ih =>
    rcases List.mem_cons.mp m with c | c
    · obtain ⟨e1, e2⟩ := e
      rw [← c] at e1 e2
      exact ⟨x.1, x.2, e1, List.mem_cons_self, e2⟩
    · obtain ⟨z, t, a, b, d⟩ := ih c
      exact ⟨z, t, a, List.mem_cons_of_mem _ b, d⟩
theorem getA_of_mem {α : Type} {xs : List (Str × α)} {z : Str} {t : α} (nd : (xs.map (·.1)).Nodup) (h : (z, t) ∈ xs) : getA xs z = some t := by
  induction xs with
  | nil => cases h
  | cons x r ih =>
    have nd := List.nodup_cons.mp nd
    rw [getA_cons]
    rcases List.mem_cons.mp h with c | c
    · rw [← c, if_pos rfl]
    · rw [if_neg fun e => nd.1 (List.mem_map.mpr ⟨_, c, e.symm⟩)]
      exact ih nd.2 c
/-- a row of pairs -/
def itemsD (xs : List (Str × PyData)) (ys : List Str) : List PyData := ys.map fun z => .tuple [S z, (getA xs z).getD .none]
theorem sorted_data {xs : List (Str × PyData)} {kvs kvs' : List (Key × V)} {ys : List Str} {ts : List Addr} (nm : NmR (fun d v => Dp K H v d ∧ flatD d = true) xs kvs) (nd : (xs.map (·.1)).Nodup) (pm : kvs'.Perm kvs) (ek : kvs'.map (·.1) = ys.map Sum.inr) (tk : TupK H H')
    (pr : Paired (fun (t : Addr) (q : Key × V) => H' t = some (.tup [kV q.1, q.2])) ts kvs') : DpAll K H' (ts.map V.ref) (itemsD xs ys) := by
  have all : ∀ (kvs' : List (Key × V)) (ys : List Str) (ts : List Addr), (∀ q ∈ kvs', q ∈ kvs) → kvs'.map (·.1) = ys.map Sum.inr → Paired (fun (t : Addr) (q : Key × V) => H' t = some (.tup [kV q.1, q.2])) ts kvs' → DpAll K H' (ts.map V.ref) (itemsD xs ys) := by
    intro kvs'
    induction kvs' with
    | nil =>
      intro ys ts _ ek pr
      cases pr
      cases ys with
      | nil => exact .nil
      | cons y r => cases ek
    | cons q r ih =>
      intro ys ts sub ek pr
      cases ys with
      | nil => cases ek
      | cons y ys =>
        rw [List.map_cons, List.map_cons] at ek
        injection ek with e1 e2
        cases pr with
        | cons h t =>
          obtain ⟨z, d, f1, f2, f3, f4⟩ := nmR_mem nm (sub q List.mem_cons_self)
          obtain rfl : y = z := Sum.inr.inj (e1.symm.trans f1)
          refine .cons ?_ (ih ys _ (fun x hx => sub x (List.mem_cons_of_mem _ hx)) e2 t)
          have h : H' _ = some (.tup [kV q.1, q.2]) := h
          rw [f1] at h
          show Dp K H' _ (.tuple [S y, (getA xs y).getD .none])
          rw [getA_of_mem nd f2]
          exact .tup (sq_t h) (.cons (.str _) (.cons (Dp.tups tk _ _ f4 f3) .nil))
  exact all kvs' ys ts (fun q hq => pm.mem_iff.mp hq) ek pr
theorem keys_perm {kvs kvs' : List (Key × V)} {ks ys : List Str} (pm : kvs'.Perm kvs) (e1 : kvs.map (·.1) = ks.map Sum.inr) (e2 : kvs'.map (·.1) = ys.map Sum.inr) : ys.Perm ks := by
  have h := (pm.map (·.1)).map (fun k : Key => match k with | .inr z => z | .inl _ => "")
  rw [e1, e2, List.map_map, List.map_map] at h
  have id1 : ∀ l : List Str, l.map ((fun k : Key => match k with | .inr z => z | .inl _ => "") ∘ Sum.inr) = l := fun l => (List.map_congr_left fun _ _ => rfl).trans (List.map_id' l)
  rwa [id1, id1] at h
theorem itemsD_congr {xs xs' : List (Str × PyData)} {ys : List Str} (h : ∀ z ∈ ys, getA xs z = getA xs' z) : itemsD xs ys = itemsD xs' ys := List.map_congr_left fun z hz => by rw [h z hz]
theorem sm_int {n : Int} (h : n.natAbs < 1000000) : SmOk (.int n) 0 0 := by
  have hh : n.natAbs < 10 ^ 6 := h
  refine ⟨?_, ?_, by simp only [PyData.hasDict], by simp only [PyData.depth]; exact Nat.le_refl _, by simp only [PyData.bulk]; exact Nat.le_refl _⟩
  · simp only [PyData.leavesShort, decide_eq_true_eq]
    have e : PyData.shown (.int n) = Str.ofString (toString n) := by simp only [PyData.shown]
    rw [e, PySem.ofString_length]
    exact Nat.le_trans (int_text_length_le10 (k := 6) (by decide) hh) (by decide)
  · simp only [PyData.showable, decide_eq_true_eq]
    by_cases z : n.natAbs = 0
    · rw [z]; decide
    · exact (Nat.log2_lt z).mpr (Nat.lt_of_lt_of_le hh (by decide +kernel))
end
end PH

/-! HLg: the end of a law whose defs ask that no repr is under way. -/
namespace HL
open PySem PySem.Spec PyProof.Rows L2
/-- the script's object -/
abbrev scObj (vs : List Value) : Obj := { cls := .type "list", data := .seq vs.toArray }
/-- the heap in which the script alone is tracked, or nothing, where it is an object of the module -/
def scT (K : PySem.W.Frag) (a : Addr) (vs : List Value) (ns : List Int) : Hp := fun b =>
  if b = a ∧ K.lookup a = none then some (.frz (scObj vs) (.lst (ns.map V.int))) else none
theorem scT_some {K : PySem.W.Frag} {a b : Addr} {vs : List Value} {ns : List Int} {u : HO} (h : scT K a vs ns b = some u) :
    b = a ∧ K.lookup a = none ∧ u = .frz (scObj vs) (.lst (ns.map V.int)) := by
  unfold scT at h
  split at h
  · rename_i c
    exact ⟨c.1, c.2, (Option.some.inj h).symm⟩
  · cases h
theorem scT_ne {K : PySem.W.Frag} {a b : Addr} {vs : List Value} {ns : List Int} (h : b ≠ a) : scT K a vs ns b = none :=
  if_neg fun c => h c.1
theorem scT_own {K : PySem.W.Frag} {a b : Addr} {vs : List Value} {ns : List Int} {o : Obj} (h : K.lookup b = some o) : scT K a vs ns b = none :=
  if_neg fun c => by
    rw [c.1, c.2] at h
    exact absurd h (by simp)
theorem scT_only (K : PySem.W.Frag) (a : Addr) (vs : List Value) (ns : List Int) : Only (scT K a vs ns) := fun b => by
  cases e : scT K a vs ns b with
  | none => exact Or.inl rfl
  | some u => exact Or.inr ⟨_, _, congrArg some (scT_some e).2.2⟩
/-- a law's call, from the promise of its def -/
theorem law_callG {P : Program} {w : World} {K : PySem.W.Frag} {mg mb : Str → Option Value} {k : Nat} {fa a : Addr}
    {fd : FuncData} {x : Str} {sp : Sp} {t : Shared} {vs : List Value} {ns : List Int}
    (inK : K.In t.heap) (glob : t.heap.Ns mainGlobals mg) (blt : t.heap.Ns builtinsNs mb)
    (bltq : ∀ x : Str, x ≠ "__name__" → mb x = bootBuiltins x) (lim : t.heap.NoLimit) (gens : t.gens = #[])
    (ob : t.heap.get? a = some (scObj vs)) (hints : IntsAre vs ns)
    (size : ns.length ≤ sizeLine) (room : Room k callerA)
    (F : ∀ base : Heap, K.In base → base.Ns mainGlobals mg → FnG P w K mg base k fa fd [x] sp)
    (bind : ∀ (s : Shared) (u : Value), BindsTo s fd ⟨[u], []⟩ [(x, u)])
    (prm : ∀ H : Hp, Only H → SqL K H a (ns.map V.int) → sp [.ref a] H (fun v _ => v = .bl true) fun _ _ _ => False) :
    codeAny (model P w) callerA (.call (.ref fa) ⟨[.ref a], []⟩)
      (fun r s' => r = .ok (.ret (.bool true)) ∧ OldK t.heap s'.heap ∧ s'.os = t.os ∧ AllBare s'.gens) t := by
  generalize hT : scT K a vs ns = T
  have visK : K.In (hidT t.heap T) := fun b o e => hidT_get (inK b o e) (hT ▸ scT_own e)
  have visN : ∀ b m, t.heap.Ns b m → (hidT t.heap T).Ns b m := by
    rintro b m ⟨o, es, ep, e, d, r⟩
    refine ⟨o, es, ep, hidT_get e ?_, d, r⟩
    rw [← hT]
    apply scT_ne
    rintro rfl
    rw [← Option.some.inj (ob.symm.trans e)] at d
    exact Data.noConfusion d
  have held : HOk P w T t.heap := by
    intro b u e
    rw [← hT] at e
    obtain ⟨rfl, _, rfl⟩ := scT_some e
    exact ⟨ob, by rw [List.length_map]; exact size, vs, _, vals_ints hints, ob⟩
  have seq : SqL K T a (ns.map V.int) := by
    cases e : K.lookup a with
    | none => exact .inl (.inr ⟨scObj vs, hT ▸ if_pos ⟨rfl, e⟩⟩)
    | some o =>
      rw [← Option.some.inj (ob.symm.trans (inK a o e))] at e
      exact .inr ⟨_, vs.toArray, _, e, rfl, rfl, rfl, by rw [List.size_toArray, hints.length]; exact size, by simpa using vals_ints hints⟩
  have around : Env0 P w K mg (hidT t.heap T) callerA [] t T :=
    { frames := rfl
      mod := ⟨visK, visN _ _ glob, ⟨mb, visN _ _ blt, bltq⟩, lim.imp fun mc h => ⟨visN _ _ h.1, h.2⟩⟩
      bs := fun _ _ e => of_hidT e
      bsz := Nat.le_of_eq (hidT_size _ _)
      funs := trivial
      frf := fun _ hb => (List.not_mem_nil hb).elim
      hok := held
      bare := .of_eq gens }
  apply codeAny_mono ((F _ visK (visN _ _ glob)).run callerA [] t T ⟨[.ref a], []⟩ [.ref a] [.ref a] _ _ rfl room around (bind t (.ref a)) (.cons rfl .nil) (prm T (hT ▸ scT_only K a vs ns) seq))
  intro r s' h
  match r, h with
  | .error _, z => exact z.elim
  | .ok .next, z => exact z.elim
  | .ok .brk, z => exact z.elim
  | .ok .cont, z => exact z.elim
  | .ok (.ret u), ⟨v, H', os, bare, un, held', rel, q⟩ =>
    cases q
    cases (show u = Value.bool true from rel)
    refine ⟨rfl, .of_keep ?_, os, bare⟩
    intro b o e
    by_cases c : T b = none
    · exact un.keep b o e c List.not_mem_nil List.not_mem_nil
    · obtain ⟨y, hy⟩ := Option.ne_none_iff_exists'.mp c
      have z := scT_some (hT ▸ hy)
      have hy2 : T b = some (.frz (scObj vs) (.lst (ns.map V.int))) := z.2.2 ▸ hy
      have same : some o = some (scObj vs) := e.symm.trans (held b _ hy2).1
      exact same ▸ (held' b _ (un.frzs b _ _ hy2)).1
/-- the goal that the head leaves, from the promise of the law's def -/
theorem walk_ofG {l : PySem.W.OpenLaw} {n k : Nat} {q : Program} {loose : List Str}
    {XP : (Str → Option Value) → Heap → Prop} {YP : World → Heap → Prop} {d : DefRec} {K : Params → PySem.W.Frag}
    {sp : World → Sp} {x : Str} (hn : l.most = some n) (hn2 : n ≤ sizeLine) (hdf : d.params.defaults = [])
    (room : Room k callerA) (hY : ∀ (w : World) (h : Heap), YP w h → (K w.params).In h)
    (F : ∀ (w : World) (mg : Str → Option Value) (fa : Addr) (h : Heap), (K w.params).In h → h.Ns mainGlobals mg →
      mg d.name = some (.ref fa) → ∃ fd : FuncData, (∀ (s : Shared) (u : Value), BindsTo s fd ⟨[u], []⟩ [(x, u)]) ∧
        ∀ base : Heap, (K w.params).In base → base.Ns mainGlobals mg →
          FnG l.prog w (K w.params) mg base k fa fd [x] (sp w))
    (prm : ∀ (w : World) (H : Hp) (a : Addr) (ns : List Int), ns.length ≤ n → Only H →
      SqL (K w.params) H a (ns.map V.int) → sp w [.ref a] H (fun v _ => v = .bl true) fun _ _ _ => False) :
    PySem.W.WalkO q loose XP YP
      l.row.toRowW d [] (fun f vs => PySem.call f vs) :=
  Att.attach_call hn hdf fun w _ _ _ _ fa _ _ _ _ a _ ns G Y _ _ _ hmg hobj hints hlen hg =>
    have inK := hY w _ Y
    let ⟨_, hb, hF⟩ := F w _ fa _ inK G.T.g hmg
    law_callG inK G.T.g G.T.b G.T.builtins G.T.nolimit hg hobj hints (Nat.le_trans hlen hn2) room hF hb
      fun H hO hS => prm w H a ns hlen hO hS
end HL

namespace K36
open PySem PySem.Spec PyProof.Rows L2 HL TL PH
local macro_rules | `(tactic| walk_at "N") => `(tactic| first
  | with_reducible assumption
  | (apply Ne.symm; with_reducible assumption)
  | (refine' ne_of_none (H := ?H0) ?h1 ?h2; (case h2 => with_reducible assumption); (case h1 => walk_at "L"))
  | (apply Ne.symm; refine' ne_of_none (H := ?H0) ?h1 ?h2; (case h2 => with_reducible assumption); (case h1 => walk_at "L"))
  | fail "no")
local macro_rules | `(tactic| walk_at "M") => `(tactic| first
  | exact trivial
  | exact True.intro
  | (refine ⟨?_, ?_⟩; (walk_at "N"); (walk_at "M"))
  | fail "no")
local macro_rules | `(tactic| walk_at "L") => `(tactic| first
  | with_reducible assumption
  | with_reducible exact upd_same
  | ((with_reducible refine' (upd_ne ?n1).trans ?l1); (case n1 => walk_at "N"); (case l1 => walk_at "L"))
  | ((with_reducible refine' Kp.get ?k1 ?m1 ?l1); (case k1 => with_reducible assumption); (case l1 => walk_at "L"); (case m1 => walk_at "M"))
  | fail "no")
local macro_rules | `(tactic| walk_at "Q") => `(tactic| first
  | with_reducible assumption
  | ((with_reducible refine' sq_l ?e1); (case e1 => walk_at "L"))
  | ((with_reducible refine' sq_t ?e1); (case e1 => walk_at "L"))
  | ((with_reducible refine' Kp.seqL ?k1 ?m1 ?l1); (case k1 => with_reducible assumption); (case l1 => walk_at "Q"); (case m1 => walk_at "M"))
  | fail "no")
local macro_rules | `(tactic| walk_at "K") => `(tactic| first
  | with_reducible assumption
  | with_reducible exact Kp.refl
  | ((with_reducible refine' Kp.upd_mem ?k1 ?m1); (case m1 => simp only [List.mem_cons, true_or, or_true]); (case k1 => walk_at "K"))
  | ((with_reducible refine' Kp.upd_new ?k1 ?m1); (case m1 => with_reducible assumption); (case k1 => walk_at "K"))
  | ((with_reducible refine' Kp.upd_loc ?k1 ?m1); (case m1 => with_reducible assumption); (case k1 => walk_at "K"))
  | ((with_reducible refine' Kp.step ?k1 ?k2 ?m1); (case k2 => with_reducible assumption); (case m1 => (intro z hz; first | exact (List.not_mem_nil hz).elim | exact .inl hz | (simp only [List.mem_cons, List.not_mem_nil, or_false] at hz ⊢; first | (left; assumption) | (subst hz; first | (left; rfl) | (right; assumption))))); (case k1 => walk_at "K"))
  | fail "no")
local macro_rules | `(tactic| walk_at "C") => `(tactic| first | decide | assumption | omega | (show (0 : Int) < _; omega) | exact ⟨by decide, by decide⟩ | exact ⟨by omega, by omega⟩ | (left; exact ⟨by omega, by omega⟩) | (right; exact ⟨by omega, by omega⟩) | fail "no")
local macro_rules | `(tactic| walk_at "S1") => `(tactic| first
  | ((with_reducible refine' s_var ?h1 ?_); (case h1 => exact rfl))
  | with_reducible refine' s_c ?_
  | with_reducible refine' s_op ?_
  | with_reducible refine' s_un ?_
  | with_reducible refine' s_nil ?_
  | with_reducible refine' s_cons ?_
  | with_reducible refine' s_cb ?_
  | with_reducible refine' s_call ?_
  | with_reducible refine' s_test ?_
  | with_reducible refine' s_B ?_
  | with_reducible refine' s_and ?_
  | with_reducible refine' s_or ?_
  | with_reducible refine' s_not ?_
  | with_reducible refine' s_andV ?_
  | with_reducible refine' s_orV ?_
  | with_reducible refine' s_notV ?_
  | with_reducible refine' s_ifE ?_
  | with_reducible refine' s_chain ?_
  | with_reducible refine' s_tup ?_
  | with_reducible refine' s_lst ?_
  | with_reducible refine' s_sl ?_
  | with_reducible refine' s_noPart ?_
  | with_reducible refine' s_part ?_
  | with_reducible refine' s_fld ?_
  | with_reducible refine' s_bm ?_
  | with_reducible refine' s_bm0 ?_
  | with_reducible refine' s_m1 ?_
  | with_reducible refine' s_m0 ?_
  | with_reducible refine' s_seq ?_
  | with_reducible refine' s_next ?_
  | with_reducible refine' s_asg ?_
  | with_reducible refine' s_gname ?_
  | with_reducible refine' s_drop ?_
  | with_reducible refine' s_ret ?_
  | with_reducible refine' s_retN ?_
  | with_reducible refine' s_ifS ?_
  | with_reducible refine' s_gsub ?_
  | with_reducible refine' s_par ?_
  | with_reducible refine' s_bl ?_
  | with_reducible refine' s_iStr ?_
  | with_reducible refine' s_iList ?_
  | with_reducible refine' s_iTup ?_
  | with_reducible refine' s_iRng1 ?_
  | with_reducible refine' s_str ?_
  | with_reducible refine' s_ref ?_
  | with_reducible refine' s_yes ?_
  | with_reducible refine' s_for ?_
  | with_reducible refine' s_lc ?_
  | with_reducible refine' i_T ?_
  | with_reducible refine' i_F ?_
  | with_reducible refine' i_nT ?_
  | with_reducible refine' i_nF ?_
  | with_reducible refine' s_int ?_
  | with_reducible refine' s_ints2 ?_
  | with_reducible refine' s_ints1 ?_
  | with_reducible refine' s_strs1 ?_
  | with_reducible refine' s_vals2 ?_
  | with_reducible refine' s_vals3 ?_
  | ((with_reducible refine' s_gtup ?h1 ?l1 ?_); (case h1 => walk_at "Q"); (case l1 => exact rfl))
  | with_reducible refine' s_gcons ?_
  | with_reducible refine' s_gnil ?_
  | with_reducible refine' s_par3 ?_
  | with_reducible refine' s_ex ?_
  | with_reducible refine' s_I0 ?_
  | ((with_reducible refine' s_I ?c1 ?_); (case c1 => walk_at "C"))
  | ((with_reducible refine' s_eq ?h1 ?_); (case h1 => exact rfl))
  | ((with_reducible refine' s_ne ?h1 ?_); (case h1 => exact rfl))
  | ((with_reducible refine' s_ixL ?h1 ?a1 ?_); (case h1 => walk_at "Q"); (case a1 => exact rfl))
  | ((with_reducible refine' s_ixT ?h1 ?a1 ?_); (case h1 => walk_at "Q"); (case a1 => exact rfl))
  | ((with_reducible refine' s_setL ?h1 ?a1 ?_); (case h1 => walk_at "L"); (case a1 => exact rfl))
  | ((with_reducible refine' s_lenL ?h1 ?_); (case h1 => walk_at "Q"))
  | ((with_reducible refine' s_lenT ?h1 ?_); (case h1 => walk_at "Q"))
  | ((with_reducible refine' s_lenStr ?h1 ?_); (case h1 => assumption))
  | ((with_reducible refine' s_slL ?h1 ?_); (case h1 => walk_at "Q"))
  | ((with_reducible refine' s_slS ?h1 ?_); (case h1 => assumption))
  | with_reducible refine' s_U ?_
  | ((with_reducible refine' s_tyL ?h1 ?_); (case h1 => walk_at "L"))
  | with_reducible refine' s_inSg ?_
  | with_reducible refine' s_nn ?_
  | with_reducible refine' s_meth ?_
  | with_reducible refine' s_make ?_
  | with_reducible refine' s_dnew ?_
  | with_reducible refine' s_dget ?_
  | with_reducible refine' s_din ?_
  | with_reducible refine' s_dnotin ?_
  | with_reducible refine' s_dput ?_
  | with_reducible refine' s_dget1 ?_
  | with_reducible refine' s_sfld ?_
  | with_reducible refine' s_revL ?_
  | with_reducible refine' s_iZip3 ?_
  | with_reducible refine' s_iRng2 ?_
  | with_reducible refine' L3.s_methY ?_
  | with_reducible refine' L3.s_dpop1 ?_
  | with_reducible refine' L3.s_dpop2 ?_
  | with_reducible refine' L3.s_dget2 ?_
  | dsimp only
  | fail "no")
local macro_rules | `(tactic| walk_at "S") => `(tactic| repeat walk_at "S1")

def topS (i : Nat) : Stmt := PySem.Challenge.pw_halfmade_k36_finders_in_order.main.body.getD i (.Pass ⟨0, 0, 0, 0⟩)
abbrev s_wall : Stmt := topS 0
abbrev N_wall : List Str := ["k"]
theorem sc_wall : FnScope ["k"] ["k"] (defScope s_wall) := ⟨rfl, rfl, rfl, by decide +kernel, rfl, by decide +kernel, by decide +kernel⟩
abbrev s_Fault_init : Stmt := inClass (topS 7) 0
abbrev N_Fault_init : List Str := ["self", "fault"]
theorem sc_Fault_init : FnScope ["self", "fault"] ["self", "fault"] (defScope s_Fault_init) := ⟨rfl, rfl, rfl, by decide +kernel, rfl, by decide +kernel, by decide +kernel⟩
abbrev s_Failed_init : Stmt := inClass (topS 8) 0
abbrev N_Failed_init : List Str := ["self", "fault", "road"]
theorem sc_Failed_init : FnScope ["self", "fault", "road"] ["self", "fault", "road"] (defScope s_Failed_init) := ⟨rfl, rfl, rfl, by decide +kernel, rfl, by decide +kernel, by decide +kernel⟩
abbrev s_is_name : Stmt := topS 14
abbrev N_is_name : List Str := ["thing", "sign"]
theorem sc_is_name : FnScope ["thing", "sign"] ["thing"] (defScope s_is_name) := ⟨rfl, rfl, rfl, by decide +kernel, rfl, by decide +kernel, by decide +kernel⟩
abbrev s_is_path : Stmt := topS 15
abbrev N_is_path : List Str := ["thing", "names", "name"]
theorem sc_is_path : FnScope ["thing", "names", "name"] ["thing"] (defScope s_is_path) := ⟨rfl, rfl, rfl, by decide +kernel, rfl, by decide +kernel, by decide +kernel⟩
abbrev s_is_whole : Stmt := topS 21
abbrev N_is_whole : List Str := ["thing"]
theorem sc_is_whole : FnScope ["thing"] ["thing"] (defScope s_is_whole) := ⟨rfl, rfl, rfl, by decide +kernel, rfl, by decide +kernel, by decide +kernel⟩
abbrev s_is_word : Stmt := topS 22
abbrev N_is_word : List Str := ["thing"]
theorem sc_is_word : FnScope ["thing"] ["thing"] (defScope s_is_word) := ⟨rfl, rfl, rfl, by decide +kernel, rfl, by decide +kernel, by decide +kernel⟩
abbrev s_are_words : Stmt := topS 23
abbrev N_are_words : List Str := ["thing", "word"]
theorem sc_are_words : FnScope ["thing", "word"] ["thing"] (defScope s_are_words) := ⟨rfl, rfl, rfl, by decide +kernel, rfl, by decide +kernel, by decide +kernel⟩
abbrev s_is_bare : Stmt := topS 24
abbrev N_is_bare : List Str := ["row", "word"]
theorem sc_is_bare : FnScope ["row", "word"] ["row"] (defScope s_is_bare) := ⟨rfl, rfl, rfl, by decide +kernel, rfl, by decide +kernel, by decide +kernel⟩
abbrev s_is_row_within : Stmt := topS 25
abbrev N_is_row_within : List Str := ["thing", "tries"]
theorem sc_is_row_within : FnScope ["thing", "tries"] ["thing", "tries"] (defScope s_is_row_within) := ⟨rfl, rfl, rfl, by decide +kernel, rfl, by decide +kernel, by decide +kernel⟩
abbrev s_are_rows : Stmt := topS 26
abbrev N_are_rows : List Str := ["thing", "tries", "row"]
theorem sc_are_rows : FnScope ["thing", "tries", "row"] ["thing", "tries"] (defScope s_are_rows) := ⟨rfl, rfl, rfl, by decide +kernel, rfl, by decide +kernel, by decide +kernel⟩
abbrev s_counted : Stmt := topS 27
abbrev N_counted : List Str := ["body", "found", "row"]
theorem sc_counted : FnScope ["body", "found", "row"] ["body"] (defScope s_counted) := ⟨rfl, rfl, rfl, by decide +kernel, rfl, by decide +kernel, by decide +kernel⟩
abbrev s_is_body : Stmt := topS 28
abbrev N_is_body : List Str := ["thing"]
theorem sc_is_body : FnScope ["thing"] ["thing"] (defScope s_is_body) := ⟨rfl, rfl, rfl, by decide +kernel, rfl, by decide +kernel, by decide +kernel⟩
abbrev s_Module_init : Stmt := inClass (topS 30) 0
abbrev N_Module_init : List Str := ["self", "number", "path"]
theorem sc_Module_init : FnScope ["self", "number", "path"] ["self", "number", "path"] (defScope s_Module_init) := ⟨rfl, rfl, rfl, by decide +kernel, rfl, by decide +kernel, by decide +kernel⟩
abbrev s_Module_bind : Stmt := inClass (topS 30) 1
abbrev N_Module_bind : List Str := ["self", "name", "thing"]
theorem sc_Module_bind : FnScope ["self", "name", "thing"] ["self", "name", "thing"] (defScope s_Module_bind) := ⟨rfl, rfl, rfl, by decide +kernel, rfl, by decide +kernel, by decide +kernel⟩
abbrev s_Module_has : Stmt := inClass (topS 30) 2
abbrev N_Module_has : List Str := ["self", "name"]
theorem sc_Module_has : FnScope ["self", "name"] ["self", "name"] (defScope s_Module_has) := ⟨rfl, rfl, rfl, by decide +kernel, rfl, by decide +kernel, by decide +kernel⟩
abbrev s_Module_thing_of : Stmt := inClass (topS 30) 3
abbrev N_Module_thing_of : List Str := ["self", "name"]
theorem sc_Module_thing_of : FnScope ["self", "name"] ["self", "name"] (defScope s_Module_thing_of) := ⟨rfl, rfl, rfl, by decide +kernel, rfl, by decide +kernel, by decide +kernel⟩
abbrev s_Module_bound : Stmt := inClass (topS 30) 4
abbrev N_Module_bound : List Str := ["self"]
theorem sc_Module_bound : FnScope ["self"] ["self"] (defScope s_Module_bound) := ⟨rfl, rfl, rfl, by decide +kernel, rfl, by decide +kernel, by decide +kernel⟩
abbrev s_Late_init : Stmt := inClass (topS 31) 0
abbrev N_Late_init : List Str := ["self", "home", "road"]
theorem sc_Late_init : FnScope ["self", "home", "road"] ["self", "home", "road"] (defScope s_Late_init) := ⟨rfl, rfl, rfl, by decide +kernel, rfl, by decide +kernel, by decide +kernel⟩
abbrev s_told : Stmt := topS 32
abbrev N_told : List Str := ["thing"]
theorem sc_told : FnScope ["thing"] ["thing"] (defScope s_told) := ⟨rfl, rfl, rfl, by decide +kernel, rfl, by decide +kernel, by decide +kernel⟩
abbrev s_want_finders : Stmt := topS 34
abbrev N_want_finders : List Str := ["finders", "finder", "path", "body"]
theorem sc_want_finders : FnScope ["finders", "finder", "path", "body"] ["finders"] (defScope s_want_finders) := ⟨rfl, rfl, rfl, by decide +kernel, rfl, by decide +kernel, by decide +kernel⟩
abbrev s_want_path : Stmt := topS 35
abbrev N_want_path : List Str := ["path"]
theorem sc_want_path : FnScope ["path"] ["path"] (defScope s_want_path) := ⟨rfl, rfl, rfl, by decide +kernel, rfl, by decide +kernel, by decide +kernel⟩
abbrev s_Runs_init : Stmt := inClass (topS 36) 0
abbrev N_Runs_init : List Str := ["self", "finders", "finder"]
theorem sc_Runs_init : FnScope ["self", "finders", "finder"] ["self", "finders"] (defScope s_Runs_init) := ⟨rfl, rfl, rfl, by decide +kernel, rfl, by decide +kernel, by decide +kernel⟩
abbrev s_Runs_take : Stmt := inClass (topS 36) 1
abbrev N_Runs_take : List Str := ["self", "path", "module", "e"]
theorem sc_Runs_take : FnScope ["self", "path", "module", "e"] ["self", "path"] (defScope s_Runs_take) := ⟨rfl, rfl, rfl, by decide +kernel, rfl, by decide +kernel, by decide +kernel⟩
abbrev s_Runs_table : Stmt := inClass (topS 36) 2
abbrev N_Runs_table : List Str := ["self", "path", "module"]
theorem sc_Runs_table : FnScope ["self", "path", "module"] ["self"] (defScope s_Runs_table) := ⟨rfl, rfl, rfl, by decide +kernel, rfl, by decide +kernel, by decide +kernel⟩
abbrev s_Runs_log : Stmt := inClass (topS 36) 3
abbrev N_Runs_log : List Str := ["self"]
theorem sc_Runs_log : FnScope ["self"] ["self"] (defScope s_Runs_log) := ⟨rfl, rfl, rfl, by decide +kernel, rfl, by decide +kernel, by decide +kernel⟩
abbrev s_Runs_paper : Stmt := inClass (topS 36) 4
abbrev N_Runs_paper : List Str := ["self"]
theorem sc_Runs_paper : FnScope ["self"] ["self"] (defScope s_Runs_paper) := ⟨rfl, rfl, rfl, by decide +kernel, rfl, by decide +kernel, by decide +kernel⟩
abbrev s_Runs_module_of : Stmt := inClass (topS 36) 5
abbrev N_Runs_module_of : List Str := ["self", "number"]
theorem sc_Runs_module_of : FnScope ["self", "number"] ["self", "number"] (defScope s_Runs_module_of) := ⟨rfl, rfl, rfl, by decide +kernel, rfl, by decide +kernel, by decide +kernel⟩
abbrev s_Runs_path_of : Stmt := inClass (topS 36) 6
abbrev N_Runs_path_of : List Str := ["self", "number"]
theorem sc_Runs_path_of : FnScope ["self", "number"] ["self", "number"] (defScope s_Runs_path_of) := ⟨rfl, rfl, rfl, by decide +kernel, rfl, by decide +kernel, by decide +kernel⟩
abbrev s_Runs_names_of : Stmt := inClass (topS 36) 7
abbrev N_Runs_names_of : List Str := ["self", "number", "module", "name"]
theorem sc_Runs_names_of : FnScope ["self", "number", "module", "name"] ["self", "number"] (defScope s_Runs_names_of) := ⟨rfl, rfl, rfl, by decide +kernel, rfl, by decide +kernel, by decide +kernel⟩
abbrev s_Runs_state_of : Stmt := inClass (topS 36) 8
abbrev N_Runs_state_of : List Str := ["self", "number"]
theorem sc_Runs_state_of : FnScope ["self", "number"] ["self", "number"] (defScope s_Runs_state_of) := ⟨rfl, rfl, rfl, by decide +kernel, rfl, by decide +kernel, by decide +kernel⟩
abbrev s_Runs_chain : Stmt := inClass (topS 36) 9
abbrev N_Runs_chain : List Str := ["self"]
theorem sc_Runs_chain : FnScope ["self"] ["self"] (defScope s_Runs_chain) := ⟨rfl, rfl, rfl, by decide +kernel, rfl, by decide +kernel, by decide +kernel⟩
abbrev s_Runs_came_up : Stmt := inClass (topS 36) 10
abbrev N_Runs_came_up : List Str := ["self", "fault", "module", "row"]
theorem sc_Runs_came_up : FnScope ["self", "fault", "module", "row"] ["self", "fault"] (defScope s_Runs_came_up) := ⟨rfl, rfl, rfl, by decide +kernel, rfl, by decide +kernel, by decide +kernel⟩
abbrev s_Runs_found : Stmt := inClass (topS 36) 11
abbrev N_Runs_found : List Str := ["self", "path", "shelf"]
theorem sc_Runs_found : FnScope ["self", "path", "shelf"] ["self", "path"] (defScope s_Runs_found) := ⟨rfl, rfl, rfl, by decide +kernel, rfl, by decide +kernel, by decide +kernel⟩
abbrev s_Runs_taken : Stmt := inClass (topS 36) 12
abbrev N_Runs_taken : List Str := ["self", "path"]
theorem sc_Runs_taken : FnScope ["self", "path"] ["self", "path"] (defScope s_Runs_taken) := ⟨rfl, rfl, rfl, by decide +kernel, rfl, by decide +kernel, by decide +kernel⟩
abbrev s_Runs_taken_one : Stmt := inClass (topS 36) 13
abbrev N_Runs_taken_one : List Str := ["self", "path", "module", "number", "fault", "body"]
theorem sc_Runs_taken_one : FnScope ["self", "path", "module", "number", "fault", "body"] ["self", "path"] (defScope s_Runs_taken_one) := ⟨rfl, rfl, rfl, by decide +kernel, rfl, by decide +kernel, by decide +kernel⟩
abbrev s_Runs_begin : Stmt := inClass (topS 36) 14
abbrev N_Runs_begin : List Str := ["self", "path", "body", "module", "e"]
theorem sc_Runs_begin : FnScope ["self", "path", "body", "module", "e"] ["self", "path", "body"] (defScope s_Runs_begin) := ⟨rfl, rfl, rfl, by decide +kernel, rfl, by decide +kernel, by decide +kernel⟩
abbrev s_Runs_came_whole : Stmt := inClass (topS 36) 15
abbrev N_Runs_came_whole : List Str := ["self", "module"]
theorem sc_Runs_came_whole : FnScope ["self", "module"] ["self", "module"] (defScope s_Runs_came_whole) := ⟨rfl, rfl, rfl, by decide +kernel, rfl, by decide +kernel, by decide +kernel⟩
abbrev s_Runs_run_body : Stmt := inClass (topS 36) 16
abbrev N_Runs_run_body : List Str := ["self", "module", "body", "by", "at", "e"]
theorem sc_Runs_run_body : FnScope ["self", "module", "body", "by", "at", "e"] ["self", "module", "body"] (defScope s_Runs_run_body) := ⟨rfl, rfl, rfl, by decide +kernel, rfl, by decide +kernel, by decide +kernel⟩
abbrev s_Runs_do_body : Stmt := inClass (topS 36) 17
abbrev N_Runs_do_body : List Str := ["self", "body", "number", "row"]
theorem sc_Runs_do_body : FnScope ["self", "body", "number", "row"] ["self", "body"] (defScope s_Runs_do_body) := ⟨rfl, rfl, rfl, by decide +kernel, rfl, by decide +kernel, by decide +kernel⟩
abbrev s_Runs_do : Stmt := inClass (topS 36) 18
abbrev N_Runs_do : List Str := ["self", "row", "module"]
theorem sc_Runs_do : FnScope ["self", "row", "module"] ["self", "row"] (defScope s_Runs_do) := ⟨rfl, rfl, rfl, by decide +kernel, rfl, by decide +kernel, by decide +kernel⟩
abbrev s_Runs_do_note : Stmt := inClass (topS 36) 19
abbrev N_Runs_do_note : List Str := ["self", "path", "names"]
theorem sc_Runs_do_note : FnScope ["self", "path", "names"] ["self", "path"] (defScope s_Runs_do_note) := ⟨rfl, rfl, rfl, by decide +kernel, rfl, by decide +kernel, by decide +kernel⟩
abbrev s_Runs_do_looking : Stmt := inClass (topS 36) 20
abbrev N_Runs_do_looking : List Str := ["self", "row"]
theorem sc_Runs_do_looking : FnScope ["self", "row"] ["self", "row"] (defScope s_Runs_do_looking) := ⟨rfl, rfl, rfl, by decide +kernel, rfl, by decide +kernel, by decide +kernel⟩
abbrev s_l_at : Stmt := topS 38
abbrev N_l_at : List Str := ["_law_script", "_law_k"]
theorem sc_l_at : FnScope ["_law_script", "_law_k"] ["_law_script", "_law_k"] (defScope s_l_at) := ⟨rfl, rfl, rfl, by decide +kernel, rfl, by decide +kernel, by decide +kernel⟩
abbrev s_l_pot : Stmt := topS 39
abbrev N_l_pot : List Str := ["_law_script", "_law_k", "_law_cell"]
theorem sc_l_pot : FnScope ["_law_script", "_law_k", "_law_cell"] ["_law_script", "_law_k"] (defScope s_l_pot) := ⟨rfl, rfl, rfl, by decide +kernel, rfl, by decide +kernel, by decide +kernel⟩
abbrev s_l_draw : Stmt := topS 40
abbrev N_l_draw : List Str := ["_law_pot_here", "_law_many", "_law_digit"]
theorem sc_l_draw : FnScope ["_law_pot_here", "_law_many", "_law_digit"] ["_law_pot_here", "_law_many"] (defScope s_l_draw) := ⟨rfl, rfl, rfl, by decide +kernel, rfl, by decide +kernel, by decide +kernel⟩
abbrev s_l_name : Stmt := topS 41
abbrev N_l_name : List Str := ["_law_pot_here", "_law_taken", "_law_letters", "_law_name_here", "_law_way", "_law_k", "_law_letter"]
theorem sc_l_name : FnScope ["_law_pot_here", "_law_taken", "_law_letters", "_law_name_here", "_law_way", "_law_k", "_law_letter"] ["_law_pot_here", "_law_taken"] (defScope s_l_name) := ⟨rfl, rfl, rfl, by decide +kernel, rfl, by decide +kernel, by decide +kernel⟩
abbrev s_l_finders : Stmt := topS 42
abbrev N_l_finders : List Str := ["_law_pot_here", "_law_paths", "_law_finders_here", "_law_full", "_law_k", "_law_finder", "_law_at_here", "_law_path"]
theorem sc_l_finders : FnScope ["_law_pot_here", "_law_paths", "_law_finders_here", "_law_full", "_law_k", "_law_finder", "_law_at_here", "_law_path"] ["_law_pot_here", "_law_paths"] (defScope s_l_finders) := ⟨rfl, rfl, rfl, by decide +kernel, rfl, by decide +kernel, by decide +kernel⟩
abbrev s_l_found : Stmt := topS 43
abbrev N_l_found : List Str := ["_law_finders_here", "_law_path", "_law_finder"]
theorem sc_l_found : FnScope ["_law_finders_here", "_law_path", "_law_finder"] ["_law_finders_here", "_law_path"] (defScope s_l_found) := ⟨rfl, rfl, rfl, by decide +kernel, rfl, by decide +kernel, by decide +kernel⟩
abbrev s_l_took : Stmt := topS 44
abbrev N_l_took : List Str := ["_law_house", "_law_path", "_law_found_here", "e"]
theorem sc_l_took : FnScope ["_law_house", "_law_path", "_law_found_here", "e"] ["_law_house", "_law_path"] (defScope s_l_took) := ⟨rfl, rfl, rfl, by decide +kernel, rfl, by decide +kernel, by decide +kernel⟩
abbrev s_l_right : Stmt := topS 45
abbrev N_l_right : List Str := ["_law_house", "_law_finders_here", "_law_path", "_law_found_here", "_law_body", "_law_lacking", "_law_table", "_law_due", "_law_row"]
theorem sc_l_right : FnScope ["_law_house", "_law_finders_here", "_law_path", "_law_found_here", "_law_body", "_law_lacking", "_law_table", "_law_due", "_law_row"] ["_law_house", "_law_finders_here", "_law_path"] (defScope s_l_right) := ⟨rfl, rfl, rfl, by decide +kernel, rfl, by decide +kernel, by decide +kernel⟩
abbrev s_l_changed : Stmt := topS 46
abbrev N_l_changed : List Str := ["_law_pot_here", "_law_finders_here", "_law_paths", "_law_lacking", "_law_one", "_law_other", "_law_third", "_law_k"]
theorem sc_l_changed : FnScope ["_law_pot_here", "_law_finders_here", "_law_paths", "_law_lacking", "_law_one", "_law_other", "_law_third", "_law_k"] ["_law_pot_here", "_law_finders_here", "_law_paths", "_law_lacking"] (defScope s_l_changed) := ⟨rfl, rfl, rfl, by decide +kernel, rfl, by decide +kernel, by decide +kernel⟩
abbrev s_law : Stmt := topS 47
abbrev N_law : List Str := ["_law_script", "_law_pot_here", "_law_names", "_law_k", "_law_lacking", "_law_taker", "_law_paths", "_law_finders_here", "_law_some", "_law_begin", "_law_kept", "_law_houses", "_law_lists", "_law_cell", "_law_at_here", "_law_path", "_law_finder"]
theorem sc_law : FnScope ["_law_script", "_law_pot_here", "_law_names", "_law_k", "_law_lacking", "_law_taker", "_law_paths", "_law_finders_here", "_law_some", "_law_begin", "_law_kept", "_law_houses", "_law_lists", "_law_cell", "_law_at_here", "_law_path", "_law_finder"] ["_law_script"] (defScope s_law) := ⟨rfl, rfl, rfl, by decide +kernel, rfl, by decide +kernel, by decide +kernel⟩
structure Txt (K : PySem.W.Frag) (mg : Str → Option Value) (C_MadeError C_Fault C_Failed C_Module C_Late C_Runs : Addr) : Prop where
  mg_MadeError : mg "MadeError" = some (.ref C_MadeError)
  tp_MadeError : TopC K C_MadeError
  mg_Fault : mg "Fault" = some (.ref C_Fault)
  xf_Fault : XfC K C_Fault
  te_Fault : PySem.W.exmOne K (.ref C_Fault) (.ref C_Fault) = some true
  no_Fault_fault : PySem.W.findIn K (.ref C_Fault) "fault" = some none
  mg_Failed : mg "Failed" = some (.ref C_Failed)
  xf_Failed : XfC K C_Failed
  te_Failed : PySem.W.exmOne K (.ref C_Failed) (.ref C_Failed) = some true
  no_Failed_fault : PySem.W.findIn K (.ref C_Failed) "fault" = some none
  no_Failed_road : PySem.W.findIn K (.ref C_Failed) "road" = some none
  cl_Module : Cls K C_Module
  mg_Module : mg "Module" = some (.ref C_Module)
  n_Module_number : NoAttr K C_Module "number"
  n_Module_path : NoAttr K C_Module "path"
  n_Module_things : NoAttr K C_Module "things"
  is_Module : IsiC K C_Module
  cl_Late : Cls K C_Late
  mg_Late : mg "Late" = some (.ref C_Late)
  n_Late_home : NoAttr K C_Late "home"
  n_Late_road : NoAttr K C_Late "road"
  is_Late : IsiC K C_Late
  cl_Runs : Cls K C_Runs
  mg_Runs : mg "Runs" = some (.ref C_Runs)
  n_Runs_shelves : NoAttr K C_Runs "shelves"
  n_Runs_standing : NoAttr K C_Runs "standing"
  n_Runs_made : NoAttr K C_Runs "made"
  n_Runs_line : NoAttr K C_Runs "line"
  n_Runs_broken : NoAttr K C_Runs "broken"
  n_Runs_met : NoAttr K C_Runs "met"
  n_Runs_fates : NoAttr K C_Runs "fates"
  n_Runs_notes : NoAttr K C_Runs "notes"
  n_Runs_waits : NoAttr K C_Runs "waits"
  kit_Module_Module : PySem.W.kitOne K (.ref C_Module) (.ref C_Module) = some true
  kit_Module_Late : PySem.W.kitOne K (.ref C_Module) (.ref C_Late) = some false
  kit_Late_Module : PySem.W.kitOne K (.ref C_Late) (.ref C_Module) = some false
  kit_Late_Late : PySem.W.kitOne K (.ref C_Late) (.ref C_Late) = some true
  kit_int_Module : PySem.W.kitOne K (.type "int") (.ref C_Module) = some false
  kit_int_Late : PySem.W.kitOne K (.type "int") (.ref C_Late) = some false
  n_list : mg "list" = none
  n_len : mg "len" = none
  n_isinstance : mg "isinstance" = none
  n_str : mg "str" = none
  n_all : mg "all" = none
  n_bool : mg "bool" = none
  n_int : mg "int" = none
  n_tuple : mg "tuple" = none
  n_set : mg "set" = none
  n_sorted : mg "sorted" = none
  n_dict : mg "dict" = none
  n_enumerate : mg "enumerate" = none
  n_max : mg "max" = none
  n_divmod : mg "divmod" = none
  n_range : mg "range" = none
  n_repr : mg "repr" = none
  c_MOST_LETTERS : ∃ t, mg "MOST_LETTERS" = some (.int 8 t)
  c_LETTERS : ∃ t, mg "LETTERS" = some (.str "abcdefghijklmnopqrstuvwxyz" t)
  c_DOT : ∃ t, mg "DOT" = some (.str "." t)
  c_MOST_NAMES : ∃ t, mg "MOST_NAMES" = some (.int 4 t)
  c_FAULT_WORDS : ∃ a, mg "FAULT_WORDS" = some (.ref a) ∧ ∀ H, SqT K H a [.str "NOMODULE", .str "NONAME", .str "HALF", .str "FLAT", .str "NOTASK", .str "ALL"]
  c_LEADING : ∃ a, mg "LEADING" = some (.ref a) ∧ ∀ H, SqT K H a [.str "now", .str "take", .str "late", .str "ask"]
  c_MOST_ROWS : ∃ t, mg "MOST_ROWS" = some (.int 40 t)
  c_MOST_TRIES : ∃ t, mg "MOST_TRIES" = some (.int 3 t)
theorem small_le {n : Nat} (h : n ≤ 100010) : n ≤ sizeLine := PH.small_le (by omega)
theorem small_lt {n : Nat} (h : n ≤ 100010) : n < sizeLine := PH.small_lt (by omega)
/-! modules, functions, faults -/
section
variable {P : Program} {w : World} {K : PySem.W.Frag} {mg : Str → Option Value} {base : Heap} {C_MadeError C_Fault C_Failed C_Module C_Late C_Runs : Addr}
theorem ok_Module_init {f : Addr} {fd : FuncData} (F : Fun K "__init__" "Module.__init__" s_Module_init f fd) (T : Txt K mg C_MadeError C_Fault C_Failed C_Module C_Late C_Runs)
     :
    FnOk P w K mg base CX0 1 f fd ["self", "number", "path"] (spMInit C_Module) := by
  refine F.ok sc_Module_init (fun vs H Q E h => ?_) (fun cdv A outer s H vs Q E hr h => ?_)
  · obtain ⟨m, dx, n, p, rfl, _⟩ := h
    rfl
  · obtain ⟨m, dx, n, p, rfl, hm, q⟩ := h
    refine ⟨_, (pss_cons (ps_fld (pv 0) (pv 1) rfl)
      (pss_cons (ps_fld (pv 0) (pv 2) rfl)
      (pss_one (ps_fld (pv 0) pe_dnewK rfl)))), ?_⟩
    refine st_start (σ' := [some (.ref m), some (.int n), some (.str p)]) rfl ?_
    walk_at "S"
    refine s_insP hm T.cl_Module T.n_Module_number (by decide) ?_
    walk_at "S"
    refine s_insP upd_same T.cl_Module T.n_Module_path (by show 1 < 1000; decide) ?_
    walk_at "S"
    intro d hd
    have nmd : m ≠ d := ne_of_none upd_same hd
    walk_at "S"
    refine s_insP ((upd_ne nmd).trans upd_same) T.cl_Module T.n_Module_things (by simp only [putF]; rw [if_neg (by decide +kernel)]; show 2 < 1000; decide) ?_
    rw [modF_put]
    have hd0 : H d = none := by
      have k : Kp [m] H (upd (upd H m (.ins C_Module dx (putF "number" (.int n) []))) m (.ins C_Module dx (putF "path" (.str p) (putF "number" (.int n) [])))) := by walk_at "K"
      exact k.free ⟨nmd.symm, trivial⟩ hd
    refine q _ d ?_ hd0 ⟨⟨dx, upd_same⟩, (upd_ne nmd.symm).trans upd_same⟩
    walk_at "K"
theorem ok_Module_bind {f : Addr} {fd : FuncData} (F : Fun K "bind" "Module.bind" s_Module_bind f fd) (T : Txt K mg C_MadeError C_Fault C_Failed C_Module C_Late C_Runs)
     :
    FnOk P w K mg base CX0 1 f fd ["self", "name", "thing"] (spBind C_Module) := by
  refine F.ok sc_Module_bind (fun vs H Q E h => ?_) (fun cdv A outer s H vs Q E hr h => ?_)
  · obtain ⟨m, d, n, p, z, v, kvs, rfl, _⟩ := h
    rfl
  · obtain ⟨m, d, n, p, z, v, kvs, rfl, ⟨⟨dx, hm⟩, hd⟩, hl, q⟩ := h
    have hu := hu_of hr
    refine ⟨_, (pss_one (ps_dput hu (kFld (K := K) rfl (pe_fld (pv 0) rfl)) (pv 1) (pv 2) rfl)), ?_⟩
    refine st_start (σ' := [some (.ref m), some (.str z), some v]) rfl ?_
    walk_at "S"
    refine s_ins hm T.cl_Module T.n_Module_things (lk_things _ _ _) ?_
    walk_at "S"
    exact s_putS hd (small_lt (by omega)) q
theorem ok_Module_bound {f : Addr} {fd : FuncData} (F : Fun K "bound" "Module.bound" s_Module_bound f fd) (T : Txt K mg C_MadeError C_Fault C_Failed C_Module C_Late C_Runs)
     :
    FnOk P w K mg base CX0 1 f fd ["self"] (spBound C_Module) := by
  refine F.ok sc_Module_bound (fun vs H Q E h => ?_) (fun cdv A outer s H vs Q E hr h => ?_)
  · obtain ⟨m, d, n, p, kvs, ks, rfl, _⟩ := h
    rfl
  · obtain ⟨m, d, n, p, kvs, ks, rfl, ⟨⟨dx, hm⟩, hd⟩, hk, few, q⟩ := h
    refine ⟨_, (pss_one (ps_ret (pe_callB (call_sortedD rfl) (by rfl) T.n_sorted (by decide +kernel) (pa_cons (kFld (K := K) rfl (pe_fld (pv 0) rfl)) pa_nil)))), ?_⟩
    refine st_start (σ' := [some (.ref m)]) rfl ?_
    walk_at "S"
    refine s_ins hm T.cl_Module T.n_Module_things (lk_things _ _ _) ?_
    walk_at "S"
    exact ⟨d, kvs, ks, rfl, .inl hd, hk, few, q⟩
theorem ok_Fault_init {f : Addr} {fd : FuncData} (F : Fun K "__init__" "Fault.__init__" s_Fault_init f fd) (T : Txt K mg C_MadeError C_Fault C_Failed C_Module C_Late C_Runs)
    (ox : OexC K C_Fault) :
    FnOk P w K mg base CX0 1 f fd ["self", "fault"] (spFInit C_Fault) := by
  refine F.ok sc_Fault_init (fun vs H Q E h => ?_) (fun cdv A outer s H vs Q E hr h => ?_)
  · obtain ⟨x, v, rfl, _⟩ := h
    rfl
  · obtain ⟨x, v, rfl, hx, q⟩ := h
    refine ⟨_, (pss_cons (ps_expr (pe_meinit rfl (by rfl) T.mg_MadeError T.tp_MadeError (pa_cons (pv 0) (pa_cons pe_str pa_nil))))
      (pss_one (ps_ost (pv 0) (pv 1)))), ?_⟩
    refine st_start (σ' := [some (.ref x), some v]) rfl ?_
    walk_at "S"
    refine s_vei ?_
    walk_at "S"
    refine ⟨x, C_Fault, [.str "a fault"], rfl, by decide, ox, hx, ?_⟩
    walk_at "S"
    refine s_ost ?_
    walk_at "S"
    exact ⟨x, C_Fault, rfl, ox, T.no_Fault_fault, .inl ⟨hx, fun dx n ne => q dx n ne⟩⟩
theorem okh_Failed_init {f : Addr} {fd : FuncData} (F : Fun K "__init__" "Failed.__init__" s_Failed_init f fd) (T : Txt K mg C_MadeError C_Fault C_Failed C_Module C_Late C_Runs)
    (ox : OexC K C_Failed) :
    L3.FnT P w K mg base CX0 1 f fd ["self", "fault", "road"] (spXInit K C_Failed) := by
  refine L3.okT F sc_Failed_init (fun vs H Q E h => ?_) (fun cdv A outer s H vs Q E p hr h => ?_)
  · obtain ⟨x, l, v, xs, rfl, _⟩ := h
    rfl
  · obtain ⟨x, l, v, xs, rfl, hx, hl, q⟩ := h
    refine ⟨_, (pss_cons (ps_expr (pe_meinit rfl (by rfl) T.mg_MadeError T.tp_MadeError (pa_cons (pv 0) (pa_cons pe_str pa_nil))))
      (pss_cons (ps_ost (pv 0) (pv 1))
      (pss_one (ps_ost (pv 0) (pe_callTy (listK (K := K) rfl) (by rfl) T.n_list (by decide +kernel) (pa_cons (pv 2) pa_nil)))))), ?_⟩
    refine st_start (σ' := [some (.ref x), some v, some (.ref l)]) rfl ?_
    walk_at "S"
    refine s_vei ?_
    walk_at "S"
    refine ⟨x, C_Failed, [.str "a fault came to the outside"], rfl, by decide, ox, hx, ?_⟩
    walk_at "S"
    refine s_ost ?_
    walk_at "S"
    refine ⟨x, C_Failed, rfl, ox, T.no_Failed_fault, .inl ⟨hx, fun dx n ne => ?_⟩⟩
    walk_at "S"
    refine s_ost ?_
    walk_at "S"
    have nlx : l ≠ x := fun e => by rw [e, hx] at hl; cases hl
    have nld : l ≠ dx := ne_of_none hl n
    refine ⟨l, xs, rfl, .inl (sq_l ((upd_ne nlx).trans ((upd_ne nld).trans hl))), fun p hp => ?_⟩
    have npx : p ≠ x := fun e => by rw [e, upd_same] at hp; cases hp
    have hp1 := (upd_ne npx).symm.trans hp
    have npd : p ≠ dx := fun e => by rw [e, upd_same] at hp1; cases hp1
    have hp2 := (upd_ne npd).symm.trans hp1
    walk_at "S"
    exact ⟨x, C_Failed, rfl, ox, T.no_Failed_road, .inr ⟨dx, _, (upd_ne npx.symm).trans upd_same, (upd_ne npd.symm).trans ((upd_ne ne).trans upd_same), by show 1 ≤ 900; decide, q dx p n ne npd npx hp2⟩⟩
end

def spIsName (K : PySem.W.Frag) : Sp := fun vs H Q _ =>
  (∃ z : Str, vs = [.str z] ∧ z.length ≤ 100010 ∧ ∀ H', Kp [] H H' → Q (.bl (isNameL (tl z))) H') ∨
  (∃ (x : V) (t : String), vs = [x] ∧ TyX K H x (.type t) ∧ kitB t "str" = some false ∧ Q (.bl false) H)
def spIsPath (K : PySem.W.Frag) : Sp := fun vs H Q _ =>
  (∃ z : Str, vs = [.str z] ∧ z.length ≤ 100000 ∧ ∀ H', Kp [] H H' → Q (.bl (isPathL (tl z))) H') ∨
  (∃ (x : V) (t : String), vs = [x] ∧ TyX K H x (.type t) ∧ kitB t "str" = some false ∧ Q (.bl false) H)
section
variable {P : Program} {w : World} {K : PySem.W.Frag} {mg : Str → Option Value} {base : Heap} {C_MadeError C_Fault C_Failed C_Module C_Late C_Runs : Addr}
theorem ok_is_name {f : Addr} {fd : FuncData} (F : Fun K "is_name" "is_name" s_is_name f fd) (T : Txt K mg C_MadeError C_Fault C_Failed C_Module C_Late C_Runs) : FnOk P w K mg base CX0 1 f fd ["thing"] (spIsName K) := by
  refine F.ok sc_is_name (fun vs H Q E h => ?_) (fun cdv A outer s H vs Q E hr h => ?_)
  · rcases h with ⟨z, rfl, _⟩ | ⟨x, t, rfl, _⟩ <;> rfl
  · obtain ⟨t_MOST_LETTERS, hc_MOST_LETTERS⟩ := T.c_MOST_LETTERS; obtain ⟨t_LETTERS, hc_LETTERS⟩ := T.c_LETTERS
    rcases h with ⟨z, rfl, hz', k⟩ | ⟨x, t, rfl, ht, hk, q⟩
    · have hz := small_le hz'
      have kz := len_tl z
      refine ⟨_, (pss_cons (ps_if (PW.pt (pw_or (pt_not (pt_val (pe_callB (isiK (K := K) rfl) (by rfl) T.n_isinstance (by decide +kernel) (pa_cons (pv 0) (pa_cons (pe_bltn (v := .ty "str") (by rfl) T.n_str (by decide +kernel) rfl) pa_nil))))) (pw_or (pt_cmpR op_lt (pe_callB lenS (by rfl) T.n_len (by decide +kernel) (pa_cons (pv 0) pa_nil)) pe_int (nomark _)) (pw_or1 (pt_cmpR op_gt (pe_callB lenS (by rfl) T.n_len (by decide +kernel) (pa_cons (pv 0) pa_nil)) (pe_glob (v := .int 8) rfl hc_MOST_LETTERS ⟨_, rfl⟩) (nomark _)))))) (pss_one (ps_ret pe_bl)) pss_nil)
      (pss_one (ps_ret (pe_callB (allK (K := K) rfl rfl) (by rfl) T.n_all (by decide +kernel) (pa_cons (pe_lc (own := [("sign", 1)]) (g := gName 1) (tt := tYes) rfl sc_is_name.nd (pi_str (pv 0)) (blkOk_by (own := [("sign", 1)]) (N := N_is_name) (sc := (defScope s_is_name)) (by decide +kernel)) (fun _ _ _ _ _ => (pg_name (i := 1) sc_is_name.nd rfl (Or.inl rfl))) (fun _ _ _ _ _ => pts_nil) (fun _ _ _ _ _ => (pe_cmpR inSg (pv 1) (pe_glob (v := .str "abcdefghijklmnopqrstuvwxyz") rfl hc_LETTERS ⟨_, rfl⟩) rfl))) pa_nil))))), ?_⟩
      refine st_start (σ' := [some (.str z), none]) rfl ?_
      walk_at "S"
      refine isi_ty (.base (.str z)) (b := true) (by decide +kernel) ?_
      walk_at "S"
      have e0 : isNameL (tl z) = (decide (1 ≤ z.length) && decide (z.length ≤ 8) && (tl z).all fun c => decide (c ∈ lets)) := by
        unfold isNameL
        rw [kz]
      rw [e0] at k
      refine s_dec (fun h1 => ?_) (fun h1 => ?_)
      · walk_at "S"
        rw [decide_eq_false (p := 1 ≤ z.length) (by omega)] at k
        exact k _ Kp.refl
      walk_at "S"
      refine s_dec (fun h2 => ?_) (fun h2 => ?_)
      · walk_at "S"
        rw [decide_eq_false (p := z.length ≤ 8) (by omega), Bool.and_false] at k
        exact k _ Kp.refl
      walk_at "S"
      intro D hD
      have L : LcOk D z.cps.size (fun i => (((tl z).map fun c => decide (c ∈ lets)).take i).map V.bl) [] H (fun _ _ => True) :=
        ⟨by have := hz; unfold Str.length at this; exact this, rfl, fun i hi => by rw [List.length_map, List.length_take]; omega, hD, trivial, fun _ _ _ h => h⟩
      refine lc_go walk_str L trivial (fun _ _ => trivial) (fun i x H2 H' hi I y => ?_) fun H2 I => ?_
      · obtain ⟨rfl, c, hc, rfl⟩ := y
        walk_at "S"
        refine ⟨rfl, ?_⟩
        walk_at "S"
        refine I.put L hi ?_ Kp.refl trivial
        have e1 : ((tl z).map fun c => decide (c ∈ lets))[i]? = some (decide (c ∈ lets)) := by
          rw [List.getElem?_map, show (tl z)[i]? = some c by simpa using hc]
          rfl
        show List.map V.bl (List.take (i + 1) _) = _
        rw [take_put e1, List.map_append]
        rfl
      · obtain ⟨p1, p2, _⟩ := I
        walk_at "S"
        refine s_all (sq_l p1) ?_
        rw [decide_eq_true (p := 1 ≤ z.length) (by omega), decide_eq_true (p := z.length ≤ 8) (by omega)] at k
        rw [List.take_of_length_le (by simp), List.all_map]
        exact k _ p2
    · refine ⟨_, (pss_cons (ps_if (PW.pt (pw_or (pt_not (pt_val (pe_callB (isiK (K := K) rfl) (by rfl) T.n_isinstance (by decide +kernel) (pa_cons (pv 0) (pa_cons (pe_bltn (v := .ty "str") (by rfl) T.n_str (by decide +kernel) rfl) pa_nil))))) (pw_or (pt_cmpR op_lt (pe_callB lenS (by rfl) T.n_len (by decide +kernel) (pa_cons (pv 0) pa_nil)) pe_int (nomark _)) (pw_or1 (pt_cmpR op_gt (pe_callB lenS (by rfl) T.n_len (by decide +kernel) (pa_cons (pv 0) pa_nil)) (pe_glob (v := .int 8) rfl hc_MOST_LETTERS ⟨_, rfl⟩) (nomark _)))))) (pss_one (ps_ret pe_bl)) pss_nil)
      (pss_one (ps_ret (pe_callB (allK (K := K) rfl rfl) (by rfl) T.n_all (by decide +kernel) (pa_cons (pe_lc (own := [("sign", 1)]) (g := gName 1) (tt := tYes) rfl sc_is_name.nd (pi_str (pv 0)) (blkOk_by (own := [("sign", 1)]) (N := N_is_name) (sc := (defScope s_is_name)) (by decide +kernel)) (fun _ _ _ _ _ => (pg_name (i := 1) sc_is_name.nd rfl (Or.inl rfl))) (fun _ _ _ _ _ => pts_nil) (fun _ _ _ _ _ => (pe_cmpR inSg (pv 1) (pe_glob (v := .str "abcdefghijklmnopqrstuvwxyz") rfl hc_LETTERS ⟨_, rfl⟩) rfl))) pa_nil))))), ?_⟩
      refine st_start (σ' := [some x, none]) rfl ?_
      walk_at "S"
      refine isi_ty ht hk ?_
      walk_at "S"
      exact q
theorem ok_is_path {f : Addr} {fd : FuncData} (F : Fun K "is_path" "is_path" s_is_path f fd) (T : Txt K mg C_MadeError C_Fault C_Failed C_Module C_Late C_Runs)
    (D_is_name : DnF P w K mg base 1 "is_name" ["thing"] (spIsName K)) : FnOk P w K mg base CX0 2 f fd ["thing"] (spIsPath K) := by
  refine F.ok sc_is_path (fun vs H Q E h => ?_) (fun cdv A outer s H vs Q E hr h => ?_)
  · rcases h with ⟨z, rfl, _⟩ | ⟨x, t, rfl, _⟩ <;> rfl
  · obtain ⟨f_is_name, fd_is_name, G_is_name, m_is_name, k_is_name, b_is_name⟩ := D_is_name; obtain ⟨t_DOT, hc_DOT⟩ := T.c_DOT; obtain ⟨t_MOST_NAMES, hc_MOST_NAMES⟩ := T.c_MOST_NAMES
    rcases h with ⟨z, rfl, hz, k⟩ | ⟨x, t, rfl, ht, hk, q⟩
    · have hzl : (tl z).length ≤ 100000 := by rw [← len_tl]; exact hz
      have hwl := wds_length (tl z) []
      refine ⟨_, (pss_cons (ps_if (pt_not (pt_val (pe_callB (isiK (K := K) rfl) (by rfl) T.n_isinstance (by decide +kernel) (pa_cons (pv 0) (pa_cons (pe_bltn (v := .ty "str") (by rfl) T.n_str (by decide +kernel) rfl) pa_nil))))) (pss_one (ps_ret pe_bl)) pss_nil)
      (pss_cons (ps_set (i := 1) sc_is_path.nd rfl (Or.inl rfl) (pe_m1 PySem.F.slot_str_split PySem.F.type_str_split splitR (pv 0) (pe_glob (v := .str ".") rfl hc_DOT ⟨_, rfl⟩)))
      (pss_one (ps_ret (pe_and (pe_cmpR op_le (pe_callB (lenK (K := K) rfl) (by rfl) T.n_len (by decide +kernel) (pa_cons (pv 1) pa_nil)) (pe_glob (v := .int 4) rfl hc_MOST_NAMES ⟨_, rfl⟩) (nomark _)) (pe_one (pe_callB (allK (K := K) rfl rfl) (by rfl) T.n_all (by decide +kernel) (pa_cons (pe_lc (own := [("name", 2)]) (g := gName 2) (tt := tYes) rfl sc_is_path.nd (kiL (K := K) rfl (pi_list (pv 1))) (blkOk_by (own := [("name", 2)]) (N := N_is_path) (sc := (defScope s_is_path)) (by decide +kernel)) (fun _ _ _ _ _ => (pg_name (i := 2) sc_is_path.nd rfl (Or.inl rfl))) (fun _ _ _ _ _ => pts_nil) (fun _ _ _ _ _ => (pe_call G_is_name (hr.mono (by first | decide | omega)) (by rfl) m_is_name k_is_name b_is_name .nil pass0 (pa_cons (pv 2) pa_nil)))) pa_nil)))))))), ?_⟩
      refine st_start (σ' := [some (.str z), none, none]) rfl ?_
      walk_at "S"
      refine isi_ty (.base (.str z)) (b := true) (by decide +kernel) ?_
      walk_at "S"
      refine s_splitS (by decide +kernel) (small_le (by omega)) fun a ha => ?_
      rw [split_dot]
      walk_at "S"
      generalize hN : wds [] (tl z) = ws at *
      have el : (((ws.map mkS).map V.str).length : Int) = (ws.length : Int) := by simp
      rw [el]
      have ep : isPathL (tl z) = (decide ((ws.length : Int) ≤ 4) && ws.all isNameL) := by
        unfold isPathL
        rw [hN]
        congr 1
        exact decide_eq_decide.mpr (by omega)
      rw [ep] at k
      by_cases h4 : (ws.length : Int) ≤ 4
      · rw [decide_eq_true h4] at k ⊢
        walk_at "S"
        refine ⟨⟨_, sq_l upd_same⟩, fun D hD => ?_⟩
        have na : a ≠ D := ne_of_none upd_same hD
        have L : LcOk D ((ws.map mkS).map V.str).length (fun i => ((ws.map isNameL).map V.bl).take i) [] (upd H a (.lst ((ws.map mkS).map V.str))) (fun _ _ => True) :=
          .ofTake (by simp; exact small_le (by omega)) hD trivial (fun _ _ _ h => h)
        refine lc_go (walk_list (K := K) (a := a) (xs := (ws.map mkS).map V.str)) L trivial (fun H2 k2 => k2.seqL trivial (sq_l upd_same)) (fun i x H2 H' hi I y => ?_) fun H2 I => ?_
        · obtain ⟨rfl, hx⟩ := y
          rw [List.getElem?_map, List.getElem?_map] at hx
          obtain ⟨p, hp, rfl⟩ : ∃ p, ws[i]? = some p ∧ x = V.str (mkS p) := by
            cases e : ws[i]? with
            | none => rw [e] at hx; cases hx
            | some p => rw [e] at hx; exact ⟨p, rfl, (Option.some.inj hx).symm⟩
          walk_at "S"
          refine ⟨rfl, ?_⟩
          walk_at "S"
          refine .inl ⟨mkS p, rfl, ?_, fun H3 K3 => ?_⟩
          · have := wds_mem (tl z) [] p (by rw [hN]; exact List.mem_of_getElem? hp)
            rw [mkS_len]
            rw [List.length_nil] at this
            omega
          · rw [tl_mkS]
            refine I.put L hi (take_put ?_) K3 trivial
            rw [List.getElem?_map, List.getElem?_map, hp]
            rfl
        · obtain ⟨p1, p2, _⟩ := I
          walk_at "S"
          dsimp only at p1
          rw [List.take_of_length_le (by simp)] at p1
          refine s_all (bs := ws.map isNameL) (sq_l p1) ?_
          rw [List.all_map]
          exact k H2 (by walk_at "K")
      · rw [decide_eq_false h4] at k ⊢
        walk_at "S"
        exact k _ (Kp.refl.upd_new ha)
    · refine ⟨_, (pss_cons (ps_if (pt_not (pt_val (pe_callB (isiK (K := K) rfl) (by rfl) T.n_isinstance (by decide +kernel) (pa_cons (pv 0) (pa_cons (pe_bltn (v := .ty "str") (by rfl) T.n_str (by decide +kernel) rfl) pa_nil))))) (pss_one (ps_ret pe_bl)) pss_nil)
      (pss_cons (ps_set (i := 1) sc_is_path.nd rfl (Or.inl rfl) (pe_m1 PySem.F.slot_str_split PySem.F.type_str_split splitR (pv 0) (pe_glob (v := .str ".") rfl hc_DOT ⟨_, rfl⟩)))
      (pss_one (ps_ret (pe_and (pe_cmpR op_le (pe_callB (lenK (K := K) rfl) (by rfl) T.n_len (by decide +kernel) (pa_cons (pv 1) pa_nil)) (pe_glob (v := .int 4) rfl hc_MOST_NAMES ⟨_, rfl⟩) (nomark _)) (pe_one (pe_callB (allK (K := K) rfl rfl) (by rfl) T.n_all (by decide +kernel) (pa_cons (pe_lc (own := [("name", 2)]) (g := gName 2) (tt := tYes) rfl sc_is_path.nd (kiL (K := K) rfl (pi_list (pv 1))) (blkOk_by (own := [("name", 2)]) (N := N_is_path) (sc := (defScope s_is_path)) (by decide +kernel)) (fun _ _ _ _ _ => (pg_name (i := 2) sc_is_path.nd rfl (Or.inl rfl))) (fun _ _ _ _ _ => pts_nil) (fun _ _ _ _ _ => (pe_call G_is_name (hr.mono (by first | decide | omega)) (by rfl) m_is_name k_is_name b_is_name .nil pass0 (pa_cons (pv 2) pa_nil)))) pa_nil)))))))), ?_⟩
      refine st_start (σ' := [some x, none, none]) rfl ?_
      walk_at "S"
      refine isi_ty ht hk ?_
      walk_at "S"
      exact q
end

def spIsWhole (K : PySem.W.Frag) : Sp := fun vs H Q _ => ∃ (v : V) (d : PyData), vs = [v] ∧ Dp K H v d ∧ Part d ∧ Q (.bl (isWholeX d)) H
def spIsWord : Sp := fun vs H Q _ => ∃ z : Str, vs = [.str z] ∧ z.length ≤ 100000 ∧ ∀ H', Kp [] H H' → Q (.bl (isWordS z)) H'
theorem name_arg {K : PySem.W.Frag} {H : Hp} {v : V} {d : PyData} {Q : VK} {E : XK} (h : Dp K H v d) (p : Part d) (q : ∀ H', Kp [] H H' → Q (.bl (isNameX d)) H') : spIsName K [v] H Q E := by
  cases p with
  | non => cases h; exact .inr ⟨_, "NoneType", rfl, .base .non, by decide +kernel, q _ Kp.refl⟩
  | int n => cases h; exact .inr ⟨_, "int", rfl, .base (.int _), by decide +kernel, q _ Kp.refl⟩
  | str l => cases h; exact .inl ⟨_, rfl, Nat.le_trans l (by decide), q⟩
theorem path_arg {K : PySem.W.Frag} {H : Hp} {v : V} {d : PyData} {Q : VK} {E : XK} (h : Dp K H v d) (p : Part d) (q : ∀ H', Kp [] H H' → Q (.bl (isPathX d)) H') : spIsPath K [v] H Q E := by
  cases p with
  | non => cases h; exact .inr ⟨_, "NoneType", rfl, .base .non, by decide +kernel, q _ Kp.refl⟩
  | int n => cases h; exact .inr ⟨_, "int", rfl, .base (.int _), by decide +kernel, q _ Kp.refl⟩
  | str l => cases h; exact .inl ⟨_, rfl, l, q⟩
section
variable {P : Program} {w : World} {K : PySem.W.Frag} {mg : Str → Option Value} {base : Heap} {C_MadeError C_Fault C_Failed C_Module C_Late C_Runs : Addr}
theorem ok_is_whole {f : Addr} {fd : FuncData} (F : Fun K "is_whole" "is_whole" s_is_whole f fd) (T : Txt K mg C_MadeError C_Fault C_Failed C_Module C_Late C_Runs) : FnOk P w K mg base CX0 1 f fd ["thing"] (spIsWhole K) := by
  refine F.ok sc_is_whole (fun vs H Q E h => ?_) (fun cdv A outer s H vs Q E hr h => ?_)
  · obtain ⟨v, d, rfl, _⟩ := h
    rfl
  · obtain ⟨v, d, rfl, hd, hp, q⟩ := h
    refine ⟨_, (pss_one (ps_ret (pe_and (pe_callB (isiK (K := K) rfl) (by rfl) T.n_isinstance (by decide +kernel) (pa_cons (pv 0) (pa_cons (pe_bltn (v := .ty "int") (by rfl) T.n_int (by decide +kernel) rfl) pa_nil))) (pe_one (pe_not (pe_callB (isiK (K := K) rfl) (by rfl) T.n_isinstance (by decide +kernel) (pa_cons (pv 0) (pa_cons (pe_bltn (v := .ty "bool") (by rfl) T.n_bool (by decide +kernel) rfl) pa_nil)))))))), ?_⟩
    refine st_start (σ' := [some v]) rfl ?_
    cases hp with
    | non =>
      cases hd
      walk_at "S"
      refine isi_ty (.base .non) (b := false) (by decide +kernel) ?_
      walk_at "S"
      exact q
    | int n =>
      cases hd
      walk_at "S"
      refine isi_ty (.base (.int _)) (b := true) (by decide +kernel) ?_
      walk_at "S"
      refine isi_ty (.base (.int _)) (b := false) (by decide +kernel) ?_
      walk_at "S"
      exact q
    | str l =>
      cases hd
      walk_at "S"
      refine isi_ty (.base (.str _)) (b := false) (by decide +kernel) ?_
      walk_at "S"
      exact q
theorem ok_is_word {f : Addr} {fd : FuncData} (F : Fun K "is_word" "is_word" s_is_word f fd) (T : Txt K mg C_MadeError C_Fault C_Failed C_Module C_Late C_Runs)
    (D_is_name : DnF P w K mg base 1 "is_name" ["thing"] (spIsName K)) : FnOk P w K mg base CX0 2 f fd ["thing"] spIsWord := by
  refine F.ok sc_is_word (fun vs H Q E h => ?_) (fun cdv A outer s H vs Q E hr h => ?_)
  · obtain ⟨z, rfl, _⟩ := h
    rfl
  · obtain ⟨f_is_name, fd_is_name, G_is_name, m_is_name, k_is_name, b_is_name⟩ := D_is_name; obtain ⟨a_FAULT_WORDS, hc_FAULT_WORDS, sq_FAULT_WORDS⟩ := T.c_FAULT_WORDS
    obtain ⟨z, rfl, hz, q⟩ := h
    refine ⟨_, (pss_one (ps_ret (pe_or (pe_call G_is_name (hr.mono (by first | decide | omega)) (by rfl) m_is_name k_is_name b_is_name .nil pass0 (pa_cons (pv 0) pa_nil)) (pe_one (pe_and (pe_callB (isiK (K := K) rfl) (by rfl) T.n_isinstance (by decide +kernel) (pa_cons (pv 0) (pa_cons (pe_bltn (v := .ty "str") (by rfl) T.n_str (by decide +kernel) rfl) pa_nil))) (pe_one (pe_cmpR (inK (K := K) rfl) (pv 0) (pe_glob (v := .ref a_FAULT_WORDS) rfl hc_FAULT_WORDS rfl) (by rfl)))))))), ?_⟩
    refine st_start (σ' := [some (.str z)]) rfl ?_
    walk_at "S"
    refine .inl ⟨z, rfl, by omega, fun H1 k1 => ?_⟩
    have qq := q H1 k1
    unfold isWordS at qq
    walk_at "S"
    refine s_bool (fun h1 => ?_) (fun h1 => ?_)
    · rw [h1, Bool.true_or] at qq
      exact qq
    · rw [h1, Bool.false_or] at qq
      walk_at "S"
      refine isi_ty (.base (.str z)) (b := true) (by decide +kernel) ?_
      walk_at "S"
      refine ⟨_, faultW.map V.str, rfl, .inr (sq_FAULT_WORDS H1), rfl, flatV_strs _, ?_⟩
      rw [inV_strs]
      walk_at "S"
      exact qq
end

theorem dpAll_strs_inv {K : PySem.W.Frag} {H : Hp} : ∀ {ws : List Str} {vs : List V}, DpAll K H vs (ws.map PyData.str) → vs = ws.map V.str
  | [], _, .nil => rfl
  | z :: ws, _, .cons h t => by
    cases h
    rw [dpAll_strs_inv t]
    rfl
theorem areWordsX_strs (ws : List Str) : areWordsX (.tuple (ws.map .str)) = (ws.all isWordS && decide ws.Nodup) := by
  have e : ∀ (f : Str → Str), (∀ z, f z = z) → ws.map f = ws := fun f h => (List.map_congr_left fun z _ => h z).trans (List.map_id' ws)
  have g := e ((fun d : PyData => match d with | .str z => z | _ => Str.empty) ∘ PyData.str) fun _ => rfl
  unfold areWordsX
  dsimp only
  rw [List.all_map, List.map_map]
  refine congr (congrArg _ rfl) (decide_eq_decide.mpr ?_)
  exact Iff.of_eq (congrArg List.Nodup g)
def spAreWords (K : PySem.W.Frag) : Sp := fun vs H Q _ =>
  (∃ (v : V) (ws : List Str), vs = [v] ∧ Dp K H v (.tuple (ws.map .str)) ∧ (∀ z ∈ ws, z.length ≤ 100000) ∧ ws.length ≤ 100 ∧ ∀ H', Kp [] H H' → Q (.bl (areWordsX (.tuple (ws.map .str)))) H') ∨
  (∃ (x : V) (t : String), vs = [x] ∧ TyX K H x (.type t) ∧ kitB t "tuple" = some false ∧ Q (.bl false) H)
section
variable {P : Program} {w : World} {K : PySem.W.Frag} {mg : Str → Option Value} {base : Heap} {C_MadeError C_Fault C_Failed C_Module C_Late C_Runs : Addr}
theorem ok_are_words {f : Addr} {fd : FuncData} (F : Fun K "are_words" "are_words" s_are_words f fd) (T : Txt K mg C_MadeError C_Fault C_Failed C_Module C_Late C_Runs)
    (D_is_word : DnF P w K mg base 2 "is_word" ["thing"] spIsWord) : FnOk P w K mg base CX0 3 f fd ["thing"] (spAreWords K) := by
  refine F.ok sc_are_words (fun vs H Q E h => ?_) (fun cdv A outer s H vs Q E hr h => ?_)
  · rcases h with ⟨v, ws, rfl, _⟩ | ⟨x, t, rfl, _⟩ <;> rfl
  · obtain ⟨f_is_word, fd_is_word, G_is_word, m_is_word, k_is_word, b_is_word⟩ := D_is_word
    rcases h with ⟨v, ws, rfl, hd, hz, hl, q⟩ | ⟨x, t, rfl, ht, hk, q⟩
    · have ty : TyX K H v (.type "tuple") := Dp.ty hd
      cases hd with
      | tup hs ha =>
        rename_i a vs
        obtain rfl := dpAll_strs_inv ha
        rw [areWordsX_strs] at q
        refine ⟨_, (pss_cons (ps_if (PW.pt (pw_or (pt_not (pt_val (pe_callB (isiK (K := K) rfl) (by rfl) T.n_isinstance (by decide +kernel) (pa_cons (pv 0) (pa_cons (pe_bltn (v := .ty "tuple") (by rfl) T.n_tuple (by decide +kernel) rfl) pa_nil))))) (pw_or1 (pt_not (pt_val (pe_callB (allK (K := K) rfl rfl) (by rfl) T.n_all (by decide +kernel) (pa_cons (pe_lc (own := [("word", 1)]) (g := gName 1) (tt := tYes) rfl sc_are_words.nd (kiT (K := K) rfl (pi_tup (pv 0))) (blkOk_by (own := [("word", 1)]) (N := N_are_words) (sc := (defScope s_are_words)) (by decide +kernel)) (fun _ _ _ _ _ => (pg_name (i := 1) sc_are_words.nd rfl (Or.inl rfl))) (fun _ _ _ _ _ => pts_nil) (fun _ _ _ _ _ => (pe_call G_is_word (hr.mono (by first | decide | omega)) (by rfl) m_is_word k_is_word b_is_word .nil pass0 (pa_cons (pv 1) pa_nil)))) pa_nil))))))) (pss_one (ps_ret pe_bl)) pss_nil)
      (pss_one (ps_ret (pe_cmpR op_eq (pe_lenSetT (K := K) rfl rfl (by rfl) T.n_len (by rfl) T.n_set (pv 0)) (pe_callB (lenK (K := K) rfl) (by rfl) T.n_len (by decide +kernel) (pa_cons (pv 0) pa_nil)) (nomark _))))), ?_⟩
        refine st_start (σ' := [some (.ref a), none]) rfl ?_
        walk_at "S"
        refine isi_ty ty (b := true) (by decide +kernel) ?_
        walk_at "S"
        refine ⟨⟨_, hs⟩, fun D hD => ?_⟩
        have L : LcOk D (ws.map V.str).length (fun i => ((ws.map isWordS).map V.bl).take i) [] H (fun _ _ => True) :=
          .ofTake (by rw [List.length_map]; exact small_le (by omega)) hD trivial (fun _ _ _ h => h)
        refine lc_go (walk_tup (K := K) (a := a) (xs := ws.map V.str)) L trivial (fun H2 k2 => k2.seqT trivial hs) (fun i x H2 H' hi I y => ?_) fun H2 I => ?_
        · obtain ⟨rfl, hx⟩ := y
          rw [List.getElem?_map] at hx
          obtain ⟨p, hp, rfl⟩ : ∃ p, ws[i]? = some p ∧ x = V.str p := by
            cases e : ws[i]? with
            | none => rw [e] at hx; cases hx
            | some p => rw [e] at hx; exact ⟨p, rfl, (Option.some.inj hx).symm⟩
          walk_at "S"
          refine ⟨rfl, ?_⟩
          walk_at "S"
          refine ⟨p, rfl, hz p (List.mem_of_getElem? hp), fun H3 K3 => ?_⟩
          refine I.put L hi (take_put ?_) K3 trivial
          rw [List.getElem?_map, List.getElem?_map, hp]
          rfl
        · obtain ⟨p1, p2, _⟩ := I
          dsimp only at p1
          rw [List.take_of_length_le (by simp)] at p1
          walk_at "S"
          refine s_all (bs := ws.map isWordS) (sq_l p1) ?_
          rw [List.all_map]
          have qq := q H2 p2
          walk_at "S"
          by_cases hw : ws.all isWordS = true
          · rw [show ws.all (id ∘ isWordS) = true from hw]
            rw [hw, Bool.true_and] at qq
            walk_at "S"
            refine s_lenSet ?_
            walk_at "S"
            refine ⟨a, ws, rfl, p2.seqT trivial hs, hl, ?_⟩
            walk_at "S"
            refine s_lenT (p2.seqT trivial hs) ?_
            walk_at "S"
            rw [List.length_map]
            have e : decide (V.int (unlike ws ws.length : Nat) = V.int (ws.length : Nat)) = decide ws.Nodup := decide_eq_decide.mpr (by
              have u := unlike_all ws ws.length (Nat.le_refl _)
              rw [List.take_of_length_le (Nat.le_refl _)] at u
              rw [← u]
              exact ⟨fun z => by have := V.int.inj z; omega, fun z => by rw [z]⟩)
            rw [e]
            exact qq
          · rw [show ws.all (id ∘ isWordS) = false from Bool.eq_false_iff.mpr hw]
            rw [Bool.eq_false_iff.mpr hw, Bool.false_and] at qq
            walk_at "S"
            exact qq
    · refine ⟨_, (pss_cons (ps_if (PW.pt (pw_or (pt_not (pt_val (pe_callB (isiK (K := K) rfl) (by rfl) T.n_isinstance (by decide +kernel) (pa_cons (pv 0) (pa_cons (pe_bltn (v := .ty "tuple") (by rfl) T.n_tuple (by decide +kernel) rfl) pa_nil))))) (pw_or1 (pt_not (pt_val (pe_callB (allK (K := K) rfl rfl) (by rfl) T.n_all (by decide +kernel) (pa_cons (pe_lc (own := [("word", 1)]) (g := gName 1) (tt := tYes) rfl sc_are_words.nd (kiT (K := K) rfl (pi_tup (pv 0))) (blkOk_by (own := [("word", 1)]) (N := N_are_words) (sc := (defScope s_are_words)) (by decide +kernel)) (fun _ _ _ _ _ => (pg_name (i := 1) sc_are_words.nd rfl (Or.inl rfl))) (fun _ _ _ _ _ => pts_nil) (fun _ _ _ _ _ => (pe_call G_is_word (hr.mono (by first | decide | omega)) (by rfl) m_is_word k_is_word b_is_word .nil pass0 (pa_cons (pv 1) pa_nil)))) pa_nil))))))) (pss_one (ps_ret pe_bl)) pss_nil)
      (pss_one (ps_ret (pe_cmpR op_eq (pe_lenSetT (K := K) rfl rfl (by rfl) T.n_len (by rfl) T.n_set (pv 0)) (pe_callB (lenK (K := K) rfl) (by rfl) T.n_len (by decide +kernel) (pa_cons (pv 0) pa_nil)) (nomark _))))), ?_⟩
      refine st_start (σ' := [some x, none]) rfl ?_
      walk_at "S"
      refine isi_ty ht hk ?_
      walk_at "S"
      exact q
end

def spIsBare (K : PySem.W.Frag) : Sp := fun vs H Q _ => ∃ (v : V) (z : Str) (ds : List PyData), vs = [v] ∧ Dp K H v (.tuple (.str z :: ds)) ∧ (∀ d ∈ ds, Part d) ∧ ds.length ≤ 100000 ∧ ∀ H', Kp [] H H' → Q (.bl (isBareX z ds)) H'
theorem dpAll_nth {K : PySem.W.Frag} {H : Hp} : ∀ {vs : List V} {ds : List PyData}, DpAll K H vs ds → ∀ k, k < ds.length → ∃ v, vs[k]? = some v ∧ Dp K H v (nth ds k) ∧ nth ds k ∈ ds
  | _, _, .nil, k, h => absurd h (Nat.not_lt_zero _)
  | _, _, .cons a b, 0, _ => ⟨_, rfl, a, List.mem_cons_self⟩
  | _, _, .cons a b, k + 1, h => by
    obtain ⟨v, e, d, m⟩ := dpAll_nth b k (Nat.lt_of_succ_lt_succ h)
    exact ⟨v, e, d, List.mem_cons_of_mem _ m⟩
section
variable {P : Program} {w : World} {K : PySem.W.Frag} {mg : Str → Option Value} {base : Heap} {C_MadeError C_Fault C_Failed C_Module C_Late C_Runs : Addr}
theorem ok_is_bare {f : Addr} {fd : FuncData} (F : Fun K "is_bare" "is_bare" s_is_bare f fd) (T : Txt K mg C_MadeError C_Fault C_Failed C_Module C_Late C_Runs)
    (D_is_name : DnF P w K mg base 1 "is_name" ["thing"] (spIsName K)) (D_is_path : DnF P w K mg base 2 "is_path" ["thing"] (spIsPath K))
    (D_is_whole : DnF P w K mg base 1 "is_whole" ["thing"] (spIsWhole K)) : FnOk P w K mg base CX0 3 f fd ["row"] (spIsBare K) := by
  refine F.ok sc_is_bare (fun vs H Q E h => ?_) (fun cdv A outer s H vs Q E hr h => ?_)
  · obtain ⟨v, z, ds, rfl, _⟩ := h
    rfl
  · obtain ⟨f_is_path, fd_is_path, G_is_path, m_is_path, k_is_path, b_is_path⟩ := D_is_path; obtain ⟨f_is_name, fd_is_name, G_is_name, m_is_name, k_is_name, b_is_name⟩ := D_is_name; obtain ⟨f_is_whole, fd_is_whole, G_is_whole, m_is_whole, k_is_whole, b_is_whole⟩ := D_is_whole; obtain ⟨a_LEADING, hc_LEADING, sq_LEADING⟩ := T.c_LEADING
    obtain ⟨v, z, ds, rfl, hd, hp, hl, q⟩ := h
    cases hd with
    | tup hs ha =>
      rename_i a vs
      cases ha with
      | cons h0 ht =>
        rename_i v0 vt
        cases h0
        have el : vt.length = ds.length := DpAll.len ht
        have at_ : ∀ k, k < ds.length → ∃ v, atI (V.str z :: vt) ((k + 1 : Nat) : Int) = some v ∧ Dp K H v (nth ds k) ∧ Part (nth ds k) := fun k hk => by
          obtain ⟨v, e, d, m⟩ := dpAll_nth ht k hk
          exact ⟨v, atI_nat e, d, hp _ m⟩
        have q0 := q H Kp.refl
        refine ⟨_, (pss_cons (ps_set (i := 1) sc_is_bare.nd rfl (Or.inl rfl) (pe_ix (ixTK (K := K) rfl) (pv 0) pe_int (fun _ _ => rfl)))
      (pss_cons (ps_if (pt_cmpR op_eq (pv 1) pe_str (nomark _)) (pss_one (ps_ret (pe_and (pe_cmpR op_eq (pe_callB (lenK (K := K) rfl) (by rfl) T.n_len (by decide +kernel) (pa_cons (pv 0) pa_nil)) pe_int (nomark _)) (pe_one (pe_call G_is_path (hr.mono (by first | decide | omega)) (by rfl) m_is_path k_is_path b_is_path .nil pass0 (pa_cons (pe_ix (ixTK (K := K) rfl) (pv 0) pe_int (fun _ _ => rfl)) pa_nil)))))) pss_nil)
      (pss_cons (ps_if (pt_cmpR op_eq (pv 1) pe_str (nomark _)) (pss_one (ps_ret (pe_and (pe_cmpR op_eq (pe_callB (lenK (K := K) rfl) (by rfl) T.n_len (by decide +kernel) (pa_cons (pv 0) pa_nil)) pe_int (nomark _)) (pe_one (pe_call G_is_name (hr.mono (by first | decide | omega)) (by rfl) m_is_name k_is_name b_is_name .nil pass0 (pa_cons (pe_ix (ixTK (K := K) rfl) (pv 0) pe_int (fun _ _ => rfl)) pa_nil)))))) pss_nil)
      (pss_cons (ps_if (PW.pt (pw_or (pt_cmpR op_lt (pe_callB (lenK (K := K) rfl) (by rfl) T.n_len (by decide +kernel) (pa_cons (pv 0) pa_nil)) pe_int (nomark _)) (pw_or1 (pt_not (pt_val (pe_call G_is_name (hr.mono (by first | decide | omega)) (by rfl) m_is_name k_is_name b_is_name .nil pass0 (pa_cons (pe_ix (ixTK (K := K) rfl) (pv 0) pe_int (fun _ _ => rfl)) pa_nil))))))) (pss_one (ps_ret pe_bl)) pss_nil)
      (pss_cons (ps_if (pt_cmpR op_eq (pv 1) pe_str (nomark _)) (pss_one (ps_ret (pe_and (pe_cmpR op_eq (pe_callB (lenK (K := K) rfl) (by rfl) T.n_len (by decide +kernel) (pa_cons (pv 0) pa_nil)) pe_int (nomark _)) (pe_one (pe_call G_is_whole (hr.mono (by first | decide | omega)) (by rfl) m_is_whole k_is_whole b_is_whole .nil pass0 (pa_cons (pe_ix (ixTK (K := K) rfl) (pv 0) pe_int (fun _ _ => rfl)) pa_nil)))))) pss_nil)
      (pss_cons (ps_if (pt_cmpR op_eq (pv 1) pe_str (nomark _)) (pss_one (ps_ret (pe_and (pe_cmpR op_eq (pe_callB (lenK (K := K) rfl) (by rfl) T.n_len (by decide +kernel) (pa_cons (pv 0) pa_nil)) pe_int (nomark _)) (pe_and (pe_call G_is_path (hr.mono (by first | decide | omega)) (by rfl) m_is_path k_is_path b_is_path .nil pass0 (pa_cons (pe_ix (ixTK (K := K) rfl) (pv 0) pe_int (fun _ _ => rfl)) pa_nil)) (pe_one (pe_call G_is_name (hr.mono (by first | decide | omega)) (by rfl) m_is_name k_is_name b_is_name .nil pass0 (pa_cons (pe_ix (ixTK (K := K) rfl) (pv 0) pe_int (fun _ _ => rfl)) pa_nil))))))) pss_nil)
      (pss_one (ps_ret (pe_and (pe_cmpR (inK (K := K) rfl) (pv 1) (pe_glob (v := .ref a_LEADING) rfl hc_LEADING rfl) (by rfl)) (pe_and (pe_cmpR op_eq (pe_callB (lenK (K := K) rfl) (by rfl) T.n_len (by decide +kernel) (pa_cons (pv 0) pa_nil)) pe_int (nomark _)) (pe_one (pe_call G_is_path (hr.mono (by first | decide | omega)) (by rfl) m_is_path k_is_path b_is_path .nil pass0 (pa_cons (pe_ix (ixTK (K := K) rfl) (pv 0) pe_int (fun _ _ => rfl)) pa_nil))))))))))))), ?_⟩
        refine st_start (σ' := [some (.ref a), none]) rfl ?_
        have e0 : atI (V.str z :: vt) ((0 : Nat) : Int) = some (.str z) := atI_nat rfl
        walk_at "S"
        refine s_ixT hs e0 ?_
        walk_at "S"
        refine s_dec (fun h1 => ?_) (fun h1 => ?_)
        · have e1 := V.str.inj h1
          subst e1
          unfold isBareX at q q0
          rw [if_pos rfl] at q0
          walk_at "S"
          refine s_dec (fun h2 => ?_) (fun h2 => ?_)
          · have h2' : ds.length = 1 := by have := V.int.inj h2; rw [List.length_cons, el] at this; omega
            obtain ⟨v, e, d, pt⟩ := at_ 0 (by omega)
            walk_at "S"
            refine s_ixT hs e ?_
            walk_at "S"
            refine path_arg d pt fun H1 k1 => ?_
            have q1 := q H1 k1
            rw [if_pos rfl, decide_eq_true h2', Bool.true_and] at q1
            exact q1
          · have h2' : ¬ ds.length = 1 := fun z => h2 (by rw [List.length_cons, el, z]; rfl)
            rw [decide_eq_false h2', Bool.false_and] at q0
            exact q0
        have n1 : z ≠ "note" := fun e => h1 (by rw [e])
        walk_at "S"
        refine s_dec (fun h2 => ?_) (fun h2 => ?_)
        · have e1 := V.str.inj h2
          subst e1
          unfold isBareX at q q0
          rw [if_neg n1, if_pos rfl] at q0
          walk_at "S"
          refine s_dec (fun h2 => ?_) (fun h2 => ?_)
          · have h2' : ds.length = 1 := by have := V.int.inj h2; rw [List.length_cons, el] at this; omega
            obtain ⟨v, e, d, pt⟩ := at_ 0 (by omega)
            walk_at "S"
            refine s_ixT hs e ?_
            walk_at "S"
            refine name_arg d pt fun H1 k1 => ?_
            have q1 := q H1 k1
            rw [if_neg n1, if_pos rfl, decide_eq_true h2', Bool.true_and] at q1
            exact q1
          · have h2' : ¬ ds.length = 1 := fun z => h2 (by rw [List.length_cons, el, z]; rfl)
            rw [decide_eq_false h2', Bool.false_and] at q0
            exact q0
        have n2 : z ≠ "fail" := fun e => h2 (by rw [e])
        unfold isBareX at q q0
        rw [if_neg n1, if_neg n2] at q0
        walk_at "S"
        refine s_dec (fun h3 => ?_) (fun h3 => ?_)
        · walk_at "S"
          have h3' : ds.length < 2 := by rw [List.length_cons, el] at h3; omega
          rw [if_pos h3'] at q0
          exact q0
        have h3' : ¬ ds.length < 2 := by rw [List.length_cons, el] at h3; omega
        rw [if_neg h3'] at q0
        obtain ⟨v1, e1, d1, p1⟩ := at_ 0 (by omega)
        obtain ⟨v2, e2, d2, p2⟩ := at_ 1 (by omega)
        walk_at "S"
        refine s_ixT hs e1 ?_
        walk_at "S"
        refine name_arg d1 p1 fun H1 k1 => ?_
        have q1 := q H1 k1
        rw [if_neg n1, if_neg n2, if_neg h3'] at q1
        have hs1 := k1.seqT trivial hs
        have at1 : ∀ k, k < ds.length → ∃ v, atI (V.str z :: vt) ((k + 1 : Nat) : Int) = some v ∧ Dp K H1 v (nth ds k) ∧ Part (nth ds k) := fun k hk => by
          obtain ⟨v, e, d, m⟩ := at_ k hk
          exact ⟨v, e, Dp.same k1 _ _ d, m⟩
        walk_at "S"
        refine s_bool (fun h4 => ?_) (fun h4 => ?_)
        · have h4' : isNameX (nth ds 0) = false := by simpa using h4
          walk_at "S"
          rw [if_pos h4'] at q1
          exact q1
        have h4' : ¬ isNameX (nth ds 0) = false := by simpa using h4
        rw [if_neg h4'] at q1
        walk_at "S"
        refine s_dec (fun h5 => ?_) (fun h5 => ?_)
        · have e1 := V.str.inj h5
          subst e1
          rw [if_pos rfl] at q1
          walk_at "S"
          refine s_dec (fun h2 => ?_) (fun h2 => ?_)
          · have h2' : ds.length = 2 := by have := V.int.inj h2; rw [List.length_cons, el] at this; omega
            obtain ⟨v, e, d, pt⟩ := at1 1 (by omega)
            walk_at "S"
            refine s_ixT hs1 e ?_
            walk_at "S"
            rw [decide_eq_true h2', Bool.true_and] at q1
            exact ⟨v, _, rfl, d, pt, q1⟩
          · have h2' : ¬ ds.length = 2 := fun z => h2 (by rw [List.length_cons, el, z]; rfl)
            rw [decide_eq_false h2', Bool.false_and] at q1
            exact q1
        have n5 : z ≠ "set" := fun e => h5 (by rw [e])
        rw [if_neg n5] at q1
        walk_at "S"
        refine s_dec (fun h6 => ?_) (fun h6 => ?_)
        · have e1 := V.str.inj h6
          subst e1
          rw [if_pos rfl] at q1
          walk_at "S"
          refine s_dec (fun h2 => ?_) (fun h2 => ?_)
          · have h2' : ds.length = 3 := by have := V.int.inj h2; rw [List.length_cons, el] at this; omega
            obtain ⟨v, e, d, pt⟩ := at1 1 (by omega)
            obtain ⟨v', e', d', pt'⟩ := at1 2 (by omega)
            walk_at "S"
            refine s_ixT hs1 e ?_
            walk_at "S"
            refine path_arg d pt fun H2 k2 => ?_
            have q2 := q H2 (k1.tr k2)
            rw [if_neg n1, if_neg n2, if_neg h3', if_neg h4', if_neg n5, if_pos rfl, decide_eq_true h2', Bool.true_and] at q2
            walk_at "S"
            refine s_bool (fun h7 => ?_) (fun h7 => ?_)
            · walk_at "S"
              refine s_ixT (k2.seqT trivial hs1) e' ?_
              walk_at "S"
              refine name_arg (Dp.same k2 _ _ d') pt' fun H3 k3 => ?_
              have q3 := q H3 ((k1.tr k2).tr k3)
              rw [if_neg n1, if_neg n2, if_neg h3', if_neg h4', if_neg n5, if_pos rfl, decide_eq_true h2', Bool.true_and, h7, Bool.true_and] at q3
              exact q3
            · rw [h7, Bool.false_and] at q2
              exact q2
          · have h2' : ¬ ds.length = 3 := fun z => h2 (by rw [List.length_cons, el, z]; rfl)
            rw [decide_eq_false h2', Bool.false_and] at q1
            exact q1
        have n6 : z ≠ "draw" := fun e => h6 (by rw [e])
        rw [if_neg n6] at q1
        walk_at "S"
        refine ⟨_, leadW.map V.str, rfl, .inr (sq_LEADING H1), rfl, flatV_strs _, ?_⟩
        rw [inV_strs]
        walk_at "S"
        refine s_dec (fun h7 => ?_) (fun h7 => ?_)
        · rw [decide_eq_true h7, Bool.true_and] at q1
          walk_at "S"
          refine s_dec (fun h2 => ?_) (fun h2 => ?_)
          · have h2' : ds.length = 2 := by have := V.int.inj h2; rw [List.length_cons, el] at this; omega
            obtain ⟨v, e, d, pt⟩ := at1 1 (by omega)
            walk_at "S"
            refine s_ixT hs1 e ?_
            walk_at "S"
            refine path_arg d pt fun H2 k2 => ?_
            have q2 := q H2 (k1.tr k2)
            rw [if_neg n1, if_neg n2, if_neg h3', if_neg h4', if_neg n5, if_neg n6, decide_eq_true h7, Bool.true_and, decide_eq_true h2', Bool.true_and] at q2
            exact q2
          · have h2' : ¬ ds.length = 2 := fun z => h2 (by rw [List.length_cons, el, z]; rfl)
            rw [decide_eq_false h2', Bool.false_and] at q1
            exact q1
        · rw [decide_eq_false h7, Bool.false_and] at q1
          exact q1
end

def spRowIn (K : PySem.W.Frag) (d : Nat) : Sp := fun vs H Q _ => ∃ (v : V) (x : PyData), vs = [v, .int d] ∧ Dp K H v x ∧ RowG x ∧ ∀ H', Kp [] H H' → Q (.bl (isRowX d x)) H'
def spAreRows (K : PySem.W.Frag) (d : Nat) : Sp := fun vs H Q _ =>
  (∃ (v : V) (xs : List PyData), vs = [v, .int d] ∧ Dp K H v (.tuple xs) ∧ (∀ x ∈ xs, RowG x) ∧ xs.length ≤ 100000 ∧ ∀ H', Kp [] H H' → Q (.bl (xs.all (isRowX d))) H') ∨
  (∃ (x : V) (t : String), vs = [x, .int d] ∧ TyX K H x (.type t) ∧ kitB t "tuple" = some false ∧ Q (.bl false) H)
def spAreRowsP (K : PySem.W.Frag) : Nat → Sp
  | 0 => fun _ _ _ _ => False
  | d + 1 => spAreRows K d
theorem part_words {d : PyData} (h : Part d) : areWordsX d = false := by cases h <;> rfl
theorem words_part {K : PySem.W.Frag} {H : Hp} {v : V} {d : PyData} {Q : VK} {E : XK} (h : Dp K H v d) (p : Part d) (q : Q (.bl false) H) : spAreWords K [v] H Q E := by
  cases p with
  | non => cases h; exact .inr ⟨_, "NoneType", rfl, .base .non, by decide +kernel, q⟩
  | int n => cases h; exact .inr ⟨_, "int", rfl, .base (.int _), by decide +kernel, q⟩
  | str l => cases h; exact .inr ⟨_, "str", rfl, .base (.str _), by decide +kernel, q⟩
theorem isRowX_bare {d : Nat} {z : Str} {ds : List PyData} (h : z ≠ "try") : isRowX d (.tuple (.str z :: ds)) = isBareX z ds := by
  cases d with
  | zero => exact if_neg h
  | succ d => exact if_neg h
theorem isRowX_zero (ds : List PyData) : isRowX 0 (.tuple (.str "try" :: ds)) = false := if_pos rfl
theorem isRowX_try (d : Nat) (ds : List PyData) : isRowX (d + 1) (.tuple (.str "try" :: ds)) = (decide (ds.length = 3) && (areWordsX (nth ds 1) &&
      ((partT 1 (.tuple (.str "try" :: ds))).all (isRowX d) && (partT 3 (.tuple (.str "try" :: ds))).all (isRowX d)))) := if_pos rfl
section
variable {P : Program} {w : World} {K : PySem.W.Frag} {mg : Str → Option Value} {base : Heap} {C_MadeError C_Fault C_Failed C_Module C_Late C_Runs : Addr}
theorem ok_row_in {d : Nat} {f : Addr} {fd : FuncData} (F : Fun K "is_row_within" "is_row_within" s_is_row_within f fd) (T : Txt K mg C_MadeError C_Fault C_Failed C_Module C_Late C_Runs)
    (D_is_bare : DnF P w K mg base 3 "is_bare" ["row"] (spIsBare K)) (D_are_words : DnF P w K mg base 3 "are_words" ["thing"] (spAreWords K))
    (D_are_rows : DnF P w K mg base (3 + 2 * d) "are_rows" ["thing", "tries"] (spAreRowsP K d)) :
    FnOk P w K mg base CX0 (3 + 2 * d + 1) f fd ["thing", "tries"] (spRowIn K d) := by
  refine F.ok sc_is_row_within (fun vs H Q E h => ?_) (fun cdv A outer s H vs Q E hr h => ?_)
  · obtain ⟨v, x, rfl, _⟩ := h
    rfl
  · obtain ⟨f_is_bare, fd_is_bare, G_is_bare, m_is_bare, k_is_bare, b_is_bare⟩ := D_is_bare; obtain ⟨f_are_words, fd_are_words, G_are_words, m_are_words, k_are_words, b_are_words⟩ := D_are_words; obtain ⟨f_are_rows, fd_are_rows, G_are_rows, m_are_rows, k_are_rows, b_are_rows⟩ := D_are_rows
    obtain ⟨v, x, rfl, hd, hg, q⟩ := h
    have q0 := q H Kp.refl
    refine ⟨_, (pss_cons (ps_if (PW.pt (pw_or (pt_not (pt_val (pe_callB (isiK (K := K) rfl) (by rfl) T.n_isinstance (by decide +kernel) (pa_cons (pv 0) (pa_cons (pe_bltn (v := .ty "tuple") (by rfl) T.n_tuple (by decide +kernel) rfl) pa_nil))))) (pw_or1 (pt_cmpR op_eq (pe_callB (lenK (K := K) rfl) (by rfl) T.n_len (by decide +kernel) (pa_cons (pv 0) pa_nil)) pe_int (nomark _))))) (pss_one (ps_ret pe_bl)) pss_nil)
      (pss_cons (ps_if (pt_cmpR op_ne (pe_ix (ixTK (K := K) rfl) (pv 0) pe_int (fun _ _ => rfl)) pe_str (nomark _)) (pss_one (ps_ret (pe_call G_is_bare (hr.mono (by first | decide | omega)) (by rfl) m_is_bare k_is_bare b_is_bare .nil pass0 (pa_cons (pv 0) pa_nil)))) pss_nil)
      (pss_cons (ps_if (PW.pt (pw_or (pt_cmpR op_eq (pv 1) pe_int (nomark _)) (pw_or (pt_cmpR op_ne (pe_callB (lenK (K := K) rfl) (by rfl) T.n_len (by decide +kernel) (pa_cons (pv 0) pa_nil)) pe_int (nomark _)) (pw_or1 (pt_not (pt_val (pe_call G_are_words (hr.mono (by first | decide | omega)) (by rfl) m_are_words k_are_words b_are_words .nil pass0 (pa_cons (pe_ix (ixTK (K := K) rfl) (pv 0) pe_int (fun _ _ => rfl)) pa_nil)))))))) (pss_one (ps_ret pe_bl)) pss_nil)
      (pss_one (ps_ret (pe_and (pe_call G_are_rows (hr.mono (by first | decide | omega)) (by rfl) m_are_rows k_are_rows b_are_rows .nil pass0 (pa_cons (pe_ix (ixTK (K := K) rfl) (pv 0) pe_int (fun _ _ => rfl)) (pa_cons (pe_op op_sub (pv 1) pe_int) pa_nil))) (pe_one (pe_call G_are_rows (hr.mono (by first | decide | omega)) (by rfl) m_are_rows k_are_rows b_are_rows .nil pass0 (pa_cons (pe_ix (ixTK (K := K) rfl) (pv 0) pe_int (fun _ _ => rfl)) (pa_cons (pe_op op_sub (pv 1) pe_int) pa_nil)))))))))), ?_⟩
    refine st_start (σ' := [some v, some (.int d)]) rfl ?_
    cases hg with
    | @bare z ds hz hp hl =>
      have hd' := hd
      have ty : TyX K H v (.type "tuple") := Dp.ty hd
      cases hd with
      | tup hs ha =>
        rename_i a vs
        cases ha with
        | cons h0 ht =>
          rename_i v0 vt
          cases h0
          have el : vt.length = ds.length := DpAll.len ht
          have e0 : atI (V.str z :: vt) ((0 : Nat) : Int) = some (.str z) := atI_nat rfl
          walk_at "S"
          refine isi_ty ty (b := true) (by decide +kernel) ?_
          walk_at "S"
          refine s_dec (fun h => absurd (V.int.inj h) (by rw [List.length_cons]; omega)) (fun _ => ?_)
          walk_at "S"
          refine s_ixT hs e0 ?_
          walk_at "S"
          refine s_ndec (fun h1 => ?_) (fun h1 => ?_)
          · walk_at "S"
            refine ⟨_, z, ds, rfl, hd', hp, hl, fun H1 k1 => ?_⟩
            have q1 := q H1 k1
            rw [isRowX_bare fun e => h1 (by rw [e])] at q1
            exact q1
          · have e1 := V.str.inj h1
            subst e1
            walk_at "S"
            refine s_dec (fun h2 => ?_) (fun h2 => ?_)
            · have e2 : d = 0 := by have := V.int.inj h2; omega
              subst e2
              rw [isRowX_zero] at q0
              walk_at "S"
              exact q0
            · obtain ⟨e, rfl⟩ : ∃ e, d = e + 1 := ⟨d - 1, by
                have : d ≠ 0 := fun z => h2 (by rw [z]; rfl)
                omega⟩
              rw [isRowX_try] at q0
              walk_at "S"
              refine s_ndec (fun h3 => ?_) (fun h3 => ?_)
              · have h3' : ¬ ds.length = 3 := fun z => h3 (by rw [List.length_cons, el, z]; rfl)
                rw [decide_eq_false h3', Bool.false_and] at q0
                walk_at "S"
                exact q0
              · have h3' : ds.length = 3 := by have := V.int.inj h3; rw [List.length_cons, el] at this; omega
                obtain ⟨u, eu, du, mu⟩ := dpAll_nth ht 1 (by omega)
                walk_at "S"
                refine s_ixT hs (k := ((2 : Nat) : Int)) (atI_nat eu) ?_
                walk_at "S"
                rw [part_words (hp _ mu), Bool.false_and, Bool.and_false] at q0
                refine words_part du (hp _ mu) ?_
                walk_at "S"
                exact q0
    | @tryr a b ws ga la gw lw gb lb =>
      have ty : TyX K H v (.type "tuple") := Dp.ty hd
      cases hd with
      | tup hs ha =>
        rename_i ad vs
        obtain _ | ⟨h0, _ | ⟨d1, _ | ⟨d2, _ | ⟨d3, h4⟩⟩⟩⟩ := ha
        cases h4
        cases h0
        rename_i v1 v2 v3
        walk_at "S"
        refine isi_ty ty (b := true) (by decide +kernel) ?_
        walk_at "S"
        refine s_dec (fun h => absurd (V.int.inj h) (by simp)) (fun _ => ?_)
        walk_at "S"
        refine s_ndec (fun h1 => absurd rfl h1) (fun _ => ?_)
        walk_at "S"
        refine s_dec (fun h2 => ?_) (fun h2 => ?_)
        · have e2 : d = 0 := by have := V.int.inj h2; omega
          subst e2
          rw [isRowX_zero] at q0
          walk_at "S"
          exact q0
        · obtain ⟨e, rfl⟩ : ∃ e, d = e + 1 := ⟨d - 1, by
            have : d ≠ 0 := fun z => h2 (by rw [z]; rfl)
            omega⟩
          have eq1 : isRowX (e + 1) (.tuple [.str "try", .tuple a, .tuple (ws.map .str), .tuple b]) = (areWordsX (.tuple (ws.map .str)) && (a.all (isRowX e) && b.all (isRowX e))) := by
            rw [isRowX_try]
            exact Bool.true_and _
          have em : (((e + 1 : Nat) : Int)) - 1 = (e : Int) := by omega
          walk_at "S"
          refine s_ndec (fun h => absurd rfl h) (fun _ => ?_)
          walk_at "S"
          refine .inl ⟨v2, ws, rfl, d2, gw, lw, fun H1 k1 => ?_⟩
          have q1 := q H1 k1
          rw [eq1] at q1
          walk_at "S"
          refine s_bool (fun h3 => ?_) (fun h3 => ?_)
          · have h3' : areWordsX (.tuple (ws.map .str)) = false := by simpa using h3
            rw [h3', Bool.false_and] at q1
            walk_at "S"
            exact q1
          · have h3' : areWordsX (.tuple (ws.map .str)) = true := by simpa using h3
            have hs1 := k1.seqT trivial hs
            walk_at "S"
            rw [em]
            refine .inl ⟨v1, a, rfl, Dp.same k1 _ _ d1, ga, la, fun H2 k2 => ?_⟩
            have q2 := q H2 (k1.tr k2)
            rw [eq1, h3', Bool.true_and] at q2
            walk_at "S"
            refine s_bool (fun h4 => ?_) (fun h4 => ?_)
            · have hs2 := k2.seqT trivial hs1
              walk_at "S"
              rw [em]
              refine .inl ⟨v3, b, rfl, Dp.same k2 _ _ (Dp.same k1 _ _ d3), gb, lb, fun H3 k3 => ?_⟩
              have q3 := q H3 ((k1.tr k2).tr k3)
              rw [eq1, h3', Bool.true_and, h4, Bool.true_and] at q3
              exact q3
            · rw [h4, Bool.false_and] at q2
              exact q2
end

section
variable {P : Program} {w : World} {K : PySem.W.Frag} {mg : Str → Option Value} {base : Heap} {C_MadeError C_Fault C_Failed C_Module C_Late C_Runs : Addr}
theorem ok_are_rows {d : Nat} {f : Addr} {fd : FuncData} (F : Fun K "are_rows" "are_rows" s_are_rows f fd) (T : Txt K mg C_MadeError C_Fault C_Failed C_Module C_Late C_Runs)
    (D_is_row_within : DnF P w K mg base (3 + 2 * d + 1) "is_row_within" ["thing", "tries"] (spRowIn K d)) :
    FnOk P w K mg base CX0 (3 + 2 * d + 1 + 1) f fd ["thing", "tries"] (spAreRows K d) := by
  refine F.ok sc_are_rows (fun vs H Q E h => ?_) (fun cdv A outer s H vs Q E hr h => ?_)
  · rcases h with ⟨v, xs, rfl, _⟩ | ⟨x, t, rfl, _⟩ <;> rfl
  · obtain ⟨f_is_row_within, fd_is_row_within, G_is_row_within, m_is_row_within, k_is_row_within, b_is_row_within⟩ := D_is_row_within
    rcases h with ⟨v, xs, rfl, hd, hg, hl, q⟩ | ⟨x, t, rfl, ht, hk, q⟩
    · have ty : TyX K H v (.type "tuple") := Dp.ty hd
      cases hd with
      | tup hs ha =>
        rename_i a vs
        have el : vs.length = xs.length := DpAll.len ha
        refine ⟨_, (pss_one (ps_ret (pe_and (pe_callB (isiK (K := K) rfl) (by rfl) T.n_isinstance (by decide +kernel) (pa_cons (pv 0) (pa_cons (pe_bltn (v := .ty "tuple") (by rfl) T.n_tuple (by decide +kernel) rfl) pa_nil))) (pe_one (pe_callB (allK (K := K) rfl rfl) (by rfl) T.n_all (by decide +kernel) (pa_cons (pe_lc (own := [("row", 2)]) (g := gName 2) (tt := tYes) rfl sc_are_rows.nd (kiT (K := K) rfl (pi_tup (pv 0))) (blkOk_by (own := [("row", 2)]) (N := N_are_rows) (sc := (defScope s_are_rows)) (by decide +kernel)) (fun _ _ _ _ _ => (pg_name (i := 2) sc_are_rows.nd rfl (Or.inl rfl))) (fun _ _ _ _ _ => pts_nil) (fun _ _ _ _ _ => (pe_call G_is_row_within (hr.mono (by first | decide | omega)) (by rfl) m_is_row_within k_is_row_within b_is_row_within .nil pass0 (pa_cons (pv 2) (pa_cons (pv 1) pa_nil))))) pa_nil)))))), ?_⟩
        refine st_start (σ' := [some (.ref a), some (.int d), none]) rfl ?_
        walk_at "S"
        refine isi_ty ty (b := true) (by decide +kernel) ?_
        walk_at "S"
        refine ⟨⟨_, hs⟩, fun D hD => ?_⟩
        have L : LcOk D vs.length (fun i => ((xs.map (isRowX d)).map V.bl).take i) [] H (fun _ _ => True) :=
          .ofTake (small_le (by omega)) hD trivial (fun _ _ _ h => h)
        refine lc_go (walk_tup (K := K) (a := a) (xs := vs)) L trivial (fun H2 k2 => k2.seqT trivial hs) (fun i x H2 H' hi I y => ?_) fun H2 I => ?_
        · obtain ⟨rfl, hx⟩ := y
          obtain ⟨u, eu, du, mu⟩ := dpAll_nth ha i (by omega)
          rw [eu] at hx
          cases hx
          have k2 := I.2.1
          walk_at "S"
          refine ⟨rfl, ?_⟩
          walk_at "S"
          refine ⟨x, nth xs i, rfl, Dp.same k2 _ _ du, hg _ mu, fun H3 K3 => ?_⟩
          refine I.put L hi (take_put ?_) K3 trivial
          rw [List.getElem?_map, List.getElem?_map, List.getElem?_eq_getElem (by omega)]
          show some (V.bl (isRowX d xs[i])) = _
          unfold nth
          rw [List.getD_eq_getElem?_getD, List.getElem?_eq_getElem (by omega)]
          rfl
        · obtain ⟨p1, p2, _⟩ := I
          dsimp only at p1
          rw [List.take_of_length_le (by simp; omega)] at p1
          walk_at "S"
          refine s_all (bs := xs.map (isRowX d)) (sq_l p1) ?_
          rw [List.all_map]
          exact q H2 p2
    · refine ⟨_, (pss_one (ps_ret (pe_and (pe_callB (isiK (K := K) rfl) (by rfl) T.n_isinstance (by decide +kernel) (pa_cons (pv 0) (pa_cons (pe_bltn (v := .ty "tuple") (by rfl) T.n_tuple (by decide +kernel) rfl) pa_nil))) (pe_one (pe_callB (allK (K := K) rfl rfl) (by rfl) T.n_all (by decide +kernel) (pa_cons (pe_lc (own := [("row", 2)]) (g := gName 2) (tt := tYes) rfl sc_are_rows.nd (kiT (K := K) rfl (pi_tup (pv 0))) (blkOk_by (own := [("row", 2)]) (N := N_are_rows) (sc := (defScope s_are_rows)) (by decide +kernel)) (fun _ _ _ _ _ => (pg_name (i := 2) sc_are_rows.nd rfl (Or.inl rfl))) (fun _ _ _ _ _ => pts_nil) (fun _ _ _ _ _ => (pe_call G_is_row_within (hr.mono (by first | decide | omega)) (by rfl) m_is_row_within k_is_row_within b_is_row_within .nil pass0 (pa_cons (pv 2) (pa_cons (pv 1) pa_nil))))) pa_nil)))))), ?_⟩
      refine st_start (σ' := [some x, some (.int d), none]) rfl ?_
      walk_at "S"
      refine isi_ty ht hk ?_
      walk_at "S"
      exact q
/-- are_rows, whatever the tries -/
theorem are_rows_all {f_are_rows f_is_row_within : Addr} {fd_are_rows fd_is_row_within : FuncData} (F1 : Fun K "are_rows" "are_rows" s_are_rows f_are_rows fd_are_rows) (F2 : Fun K "is_row_within" "is_row_within" s_is_row_within f_is_row_within fd_is_row_within) (T : Txt K mg C_MadeError C_Fault C_Failed C_Module C_Late C_Runs)
    (D_is_bare : DnF P w K mg base 3 "is_bare" ["row"] (spIsBare K)) (D_are_words : DnF P w K mg base 3 "are_words" ["thing"] (spAreWords K))
    (m1 : mg "are_rows" = some (.ref f_are_rows)) (k1 : PySem.W.keepIn K (.ref f_are_rows) = true) (b1 : Binds K fd_are_rows ["thing", "tries"] [])
    (m2 : mg "is_row_within" = some (.ref f_is_row_within)) (k2 : PySem.W.keepIn K (.ref f_is_row_within) = true) (b2 : Binds K fd_is_row_within ["thing", "tries"] []) :
    ∀ d : Nat, FnOk P w K mg base CX0 (3 + 2 * d + 1 + 1) f_are_rows fd_are_rows ["thing", "tries"] (spAreRows K d)
  | 0 => ok_are_rows (d := 0) F1 T ⟨_, _, ok_row_in (d := 0) F2 T D_is_bare D_are_words ⟨_, _, ⟨fun _ _ _ _ z => z.elim, fun _ _ _ _ _ _ _ _ _ _ _ _ _ z => z.elim⟩, m1, k1, b1⟩, m2, k2, b2⟩
  | d + 1 => ok_are_rows (d := d + 1) F1 T ⟨_, _, ok_row_in F2 T D_is_bare D_are_words ⟨_, _, are_rows_all F1 F2 T D_is_bare D_are_words m1 k1 b1 m2 k2 b2 d, m1, k1, b1⟩, m2, k2, b2⟩
end

def spCounted (K : PySem.W.Frag) (d : Nat) : Sp := fun vs H Q _ => ∃ (v : V) (xs : List PyData), vs = [v] ∧ Dp K H v (.tuple xs) ∧ (∀ x ∈ xs, RowG x) ∧ xs.all (isRowX d) = true ∧ Q (.int (cnts d xs : Nat)) H
def spCountedP (K : PySem.W.Frag) : Nat → Sp
  | 0 => fun _ _ _ _ => False
  | d + 1 => spCounted K d
/-- what a row is that is judged good -/
theorem row_good {d : Nat} {x : PyData} (g : RowG x) (h : isRowX d x = true) :
    (∃ z ds, x = .tuple (.str z :: ds) ∧ z ≠ "try" ∧ cntRow d x = 1) ∨
    (∃ (e : Nat) (a b : List PyData) (ws : List Str), d = e + 1 ∧ x = .tuple [.str "try", .tuple a, .tuple (ws.map .str), .tuple b] ∧ (∀ y ∈ a, RowG y) ∧ (∀ y ∈ b, RowG y) ∧ a.all (isRowX e) = true ∧ b.all (isRowX e) = true) := by
  cases g with
  | @bare z ds hz hp hl =>
    by_cases c : z = "try"
    · subst c
      cases d with
      | zero => rw [isRowX_zero] at h; cases h
      | succ d =>
        rw [isRowX_try] at h
        simp only [Bool.and_eq_true, decide_eq_true_eq] at h
        obtain ⟨h1, h2, _⟩ := h
        have m : nth ds 1 ∈ ds := by
          unfold nth
          rw [List.getD_eq_getElem?_getD, List.getElem?_eq_getElem (by omega)]
          exact List.getElem_mem _
        rw [part_words (hp _ m)] at h2
        cases h2
    · refine .inl ⟨z, ds, rfl, c, ?_⟩
      cases d with
      | zero => rfl
      | succ d => unfold cntRow; rw [isTry_w _ c]; rfl
  | @tryr a b ws ga la gw lw gb lb =>
    cases d with
    | zero => rw [isRowX_zero] at h; cases h
    | succ d =>
      rw [isRowX_try] at h
      simp only [Bool.and_eq_true] at h
      exact .inr ⟨d, a, b, ws, rfl, rfl, ga, gb, h.2.2.1, h.2.2.2⟩
section
variable {P : Program} {w : World} {K : PySem.W.Frag} {mg : Str → Option Value} {base : Heap} {C_MadeError C_Fault C_Failed C_Module C_Late C_Runs : Addr}
theorem ok_counted {d : Nat} {f : Addr} {fd : FuncData} (F : Fun K "counted" "counted" s_counted f fd)
    (D_counted : DnF P w K mg base d "counted" ["body"] (spCountedP K d)) :
    FnOk P w K mg base CX0 (d + 1) f fd ["body"] (spCounted K d) := by
  refine F.ok sc_counted (fun vs H Q E h => ?_) (fun cdv A outer s H vs Q E hr h => ?_)
  · obtain ⟨v, xs, rfl, _⟩ := h
    rfl
  · obtain ⟨f_counted, fd_counted, G_counted, m_counted, k_counted, b_counted⟩ := D_counted
    obtain ⟨v, xs, rfl, hd, hg, hb, q⟩ := h
    cases hd with
    | tup hs ha =>
      rename_i a vs
      have el : vs.length = xs.length := DpAll.len ha
      refine ⟨_, (pss_cons (ps_set (i := 1) sc_counted.nd rfl (Or.inl rfl) pe_int)
      (pss_cons (ps_for PassesOwn.never rfl (kiT (K := K) rfl (pi_tup (pv 0))) (pg_name (i := 2) sc_counted.nd rfl (Or.inl rfl)) (pss_cons (ps_set (i := 1) sc_counted.nd rfl (Or.inl rfl) (pe_op op_add (pv 1) pe_int))
      (pss_one (ps_if (pt_cmpR op_eq (pe_ix (ixTK (K := K) rfl) (pv 2) pe_int (fun _ _ => rfl)) pe_str (nomark _)) (pss_one (ps_set (i := 1) sc_counted.nd rfl (Or.inl rfl) (pe_op op_add (pe_op op_add (pv 1) (pe_call G_counted (hr.mono (by first | decide | omega)) (by rfl) m_counted k_counted b_counted .nil pass0 (pa_cons (pe_ix (ixTK (K := K) rfl) (pv 2) pe_int (fun _ _ => rfl)) pa_nil))) (pe_call G_counted (hr.mono (by first | decide | omega)) (by rfl) m_counted k_counted b_counted .nil pass0 (pa_cons (pe_ix (ixTK (K := K) rfl) (pv 2) pe_int (fun _ _ => rfl)) pa_nil))))) pss_nil))))
      (pss_one (ps_ret (pv 1))))), ?_⟩
      refine st_start (σ' := [some (.ref a), none, none]) rfl ?_
      walk_at "S"
      refine ⟨⟨_, hs⟩, ?_⟩
      refine for_go (walk_tup (K := K) (a := a) (xs := vs)) (fun i σ H2 => ∃ o : Option V, σ = [some (.ref a), some (.int (cnts d (xs.take i) : Nat)), o] ∧ H2 = H) ⟨_, rfl, rfl⟩ (fun i σ H2 hi I => by obtain ⟨o, _, rfl⟩ := I; exact hs) (fun i x σ Ha Hb hi I y => ?_) fun σ H2 I => ?_
      · obtain ⟨rfl, hx⟩ := y
        obtain ⟨o, rfl, rfl⟩ := I
        have hi2 : i < xs.length := by omega
        obtain ⟨u, eu, du, mu⟩ := dpAll_nth ha i hi2
        rw [eu] at hx
        cases hx
        have en : xs[i]? = some (nth xs i) := by
          unfold nth
          rw [List.getD_eq_getElem?_getD, List.getElem?_eq_getElem hi2]
          rfl
        have ec : cnts d (xs.take (i + 1)) = cnts d (xs.take i) + cntRow d (nth xs i) := by rw [take_put en, cnts_app, cnts_one]
        have good := row_good (hg _ mu) (List.all_eq_true.mp hb _ mu)
        generalize nth xs i = rw_ at *
        walk_at "S"
        rcases good with ⟨z, ds, rfl, hz, c1⟩ | ⟨e, ra, rb, ws, rfl, rfl, ga, gb, g1, g2⟩
        · cases du with
          | tup hs2 ha2 =>
            cases ha2 with
            | cons h0 ht =>
              cases h0
              refine s_ixT hs2 (k := ((0 : Nat) : Int)) (atI_nat rfl) ?_
              walk_at "S"
              refine s_dec (fun h => absurd (V.str.inj h) hz) (fun _ => ?_)
              walk_at "S"
              have e : (V.int (((cnts d (xs.take i) : Nat) : Int) + 1)) = V.int ((cnts d (xs.take (i + 1)) : Nat) : Int) := by rw [ec, c1]; rfl
              rw [e]
              exact ⟨_, rfl, rfl⟩
        · cases du with
          | tup hs2 ha2 =>
            obtain _ | ⟨h0, _ | ⟨d1, _ | ⟨d2, _ | ⟨d3, h4⟩⟩⟩⟩ := ha2
            cases h4
            cases h0
            walk_at "S"
            refine s_dec (fun _ => ?_) (fun h => absurd rfl h)
            walk_at "S"
            refine ⟨_, ra, rfl, d1, ga, g1, ?_⟩
            walk_at "S"
            refine ⟨_, rb, rfl, d3, gb, g2, ?_⟩
            walk_at "S"
            have en2 : (V.int (((cnts (e + 1) (xs.take i) : Nat) : Int) + 1 + ((cnts e ra : Nat) : Int) + ((cnts e rb : Nat) : Int))) = V.int ((cnts (e + 1) (xs.take (i + 1)) : Nat) : Int) := by
              rw [ec, cntRow_try]
              congr 1
              omega
            rw [en2]
            exact ⟨_, rfl, rfl⟩
      · obtain ⟨o, rfl, rfl⟩ := I
        rw [List.take_of_length_le (by omega)]
        walk_at "S"
        exact q
theorem counted_all {f_counted : Addr} {fd_counted : FuncData} (F : Fun K "counted" "counted" s_counted f_counted fd_counted)
    (m1 : mg "counted" = some (.ref f_counted)) (k1 : PySem.W.keepIn K (.ref f_counted) = true) (b1 : Binds K fd_counted ["body"] []) :
    ∀ d : Nat, FnOk P w K mg base CX0 (d + 1) f_counted fd_counted ["body"] (spCounted K d)
  | 0 => ok_counted (d := 0) F ⟨_, _, ⟨fun _ _ _ _ z => z.elim, fun _ _ _ _ _ _ _ _ _ _ _ _ _ z => z.elim⟩, m1, k1, b1⟩
  | d + 1 => ok_counted (d := d + 1) F ⟨_, _, counted_all F m1 k1 b1 d, m1, k1, b1⟩
def spIsBody (K : PySem.W.Frag) : Sp := fun vs H Q _ =>
  (∃ (v : V) (xs : List PyData), vs = [v] ∧ Dp K H v (.tuple xs) ∧ (∀ x ∈ xs, RowG x) ∧ xs.length ≤ 100000 ∧ ∀ H', Kp [] H H' → Q (.bl (xs.all (isRowX 3) && decide (cnts 3 xs ≤ 40))) H') ∨
  (∃ (x : V) (t : String), vs = [x] ∧ TyX K H x (.type t) ∧ kitB t "tuple" = some false ∧ ∀ H', Kp [] H H' → Q (.bl false) H')
theorem ok_is_body {f : Addr} {fd : FuncData} (F : Fun K "is_body" "is_body" s_is_body f fd) (T : Txt K mg C_MadeError C_Fault C_Failed C_Module C_Late C_Runs)
    (D_are_rows : DnF P w K mg base 11 "are_rows" ["thing", "tries"] (spAreRows K 3)) (D_counted : DnF P w K mg base 4 "counted" ["body"] (spCounted K 3)) :
    FnOk P w K mg base CX0 12 f fd ["thing"] (spIsBody K) := by
  refine F.ok sc_is_body (fun vs H Q E h => ?_) (fun cdv A outer s H vs Q E hr h => ?_)
  · rcases h with ⟨v, xs, rfl, _⟩ | ⟨x, t, rfl, _⟩ <;> rfl
  · obtain ⟨f_counted, fd_counted, G_counted, m_counted, k_counted, b_counted⟩ := D_counted; obtain ⟨f_are_rows, fd_are_rows, G_are_rows, m_are_rows, k_are_rows, b_are_rows⟩ := D_are_rows; obtain ⟨t_MOST_ROWS, hc_MOST_ROWS⟩ := T.c_MOST_ROWS; obtain ⟨t_MOST_TRIES, hc_MOST_TRIES⟩ := T.c_MOST_TRIES
    rcases h with ⟨v, xs, rfl, hd, hg, hl, q⟩ | ⟨x, t, rfl, ht, hk, q⟩
    · refine ⟨_, (pss_one (ps_ret (pe_and (pe_call G_are_rows (hr.mono (by first | decide | omega)) (by rfl) m_are_rows k_are_rows b_are_rows .nil pass0 (pa_cons (pv 0) (pa_cons (pe_glob (v := .int 3) rfl hc_MOST_TRIES ⟨_, rfl⟩) pa_nil))) (pe_one (pe_cmpR op_le (pe_call G_counted (hr.mono (by first | decide | omega)) (by rfl) m_counted k_counted b_counted .nil pass0 (pa_cons (pv 0) pa_nil)) (pe_glob (v := .int 40) rfl hc_MOST_ROWS ⟨_, rfl⟩) (nomark _)))))), ?_⟩
      refine st_start (σ' := [some v]) rfl ?_
      walk_at "S"
      refine .inl ⟨v, xs, rfl, hd, hg, hl, fun H1 k1 => ?_⟩
      have q1 := q H1 k1
      walk_at "S"
      refine s_bool (fun h => ?_) (fun h => ?_)
      · rw [h, Bool.true_and] at q1
        walk_at "S"
        refine ⟨v, xs, rfl, Dp.same k1 _ _ hd, hg, h, ?_⟩
        walk_at "S"
        rw [show decide (((cnts 3 xs : Nat) : Int) ≤ 40) = decide (cnts 3 xs ≤ 40) from decide_eq_decide.mpr (by omega)]
        exact q1
      · rw [h, Bool.false_and] at q1
        exact q1
    · refine ⟨_, (pss_one (ps_ret (pe_and (pe_call G_are_rows (hr.mono (by first | decide | omega)) (by rfl) m_are_rows k_are_rows b_are_rows .nil pass0 (pa_cons (pv 0) (pa_cons (pe_glob (v := .int 3) rfl hc_MOST_TRIES ⟨_, rfl⟩) pa_nil))) (pe_one (pe_cmpR op_le (pe_call G_counted (hr.mono (by first | decide | omega)) (by rfl) m_counted k_counted b_counted .nil pass0 (pa_cons (pv 0) pa_nil)) (pe_glob (v := .int 40) rfl hc_MOST_ROWS ⟨_, rfl⟩) (nomark _)))))), ?_⟩
      refine st_start (σ' := [some x]) rfl ?_
      walk_at "S"
      refine .inr ⟨x, t, rfl, ht, hk, ?_⟩
      walk_at "S"
      exact q _ Kp.refl
end

theorem Cl_r : (⟨C_r, C_m, C_l⟩ : Cl).r = C_r := rfl
/-! fields of a house -/
section
variable {h : HA} {s : Hs}
theorem lkR_sh : (runF h s).lookup ("shelves" : Str) = some (.ref h.sh) := look_hit
theorem lkR_st : (runF h s).lookup ("standing" : Str) = some (.ref h.st) := (look_cons (by decide +kernel)).trans look_hit
theorem lkR_md : (runF h s).lookup ("made" : Str) = some (.ref h.md) := (look_cons (by decide +kernel)).trans ((look_cons (by decide +kernel)).trans look_hit)
theorem lkR_ln : (runF h s).lookup ("line" : Str) = some (.ref h.ln) := (look_cons (by decide +kernel)).trans ((look_cons (by decide +kernel)).trans ((look_cons (by decide +kernel)).trans look_hit))
theorem lkR_br : (runF h s).lookup ("broken" : Str) = some (.ref s.br) := (look_cons (by decide +kernel)).trans ((look_cons (by decide +kernel)).trans ((look_cons (by decide +kernel)).trans ((look_cons (by decide +kernel)).trans look_hit)))
theorem lkR_mt : (runF h s).lookup ("met" : Str) = some (.ref s.mt) := (look_cons (by decide +kernel)).trans ((look_cons (by decide +kernel)).trans ((look_cons (by decide +kernel)).trans ((look_cons (by decide +kernel)).trans ((look_cons (by decide +kernel)).trans look_hit))))
theorem lkR_ft : (runF h s).lookup ("fates" : Str) = some (.ref h.ft) := (look_cons (by decide +kernel)).trans ((look_cons (by decide +kernel)).trans ((look_cons (by decide +kernel)).trans ((look_cons (by decide +kernel)).trans ((look_cons (by decide +kernel)).trans ((look_cons (by decide +kernel)).trans look_hit)))))
theorem lkR_nt : (runF h s).lookup ("notes" : Str) = some (.ref h.nt) := (look_cons (by decide +kernel)).trans ((look_cons (by decide +kernel)).trans ((look_cons (by decide +kernel)).trans ((look_cons (by decide +kernel)).trans ((look_cons (by decide +kernel)).trans ((look_cons (by decide +kernel)).trans ((look_cons (by decide +kernel)).trans look_hit))))))
theorem lkR_wt : (runF h s).lookup ("waits" : Str) = some (.ref h.wt) := (look_cons (by decide +kernel)).trans ((look_cons (by decide +kernel)).trans ((look_cons (by decide +kernel)).trans ((look_cons (by decide +kernel)).trans ((look_cons (by decide +kernel)).trans ((look_cons (by decide +kernel)).trans ((look_cons (by decide +kernel)).trans ((look_cons (by decide +kernel)).trans look_hit)))))))
theorem lkR_none {m : Str} (n : (["shelves", "standing", "made", "line", "broken", "met", "fates", "notes", "waits"] : List Str).all (fun x => !decide (m = x)) = true) : (runF h s).lookup m = none := by
  have e : ∀ x ∈ (["shelves", "standing", "made", "line", "broken", "met", "fates", "notes", "waits"] : List Str), decide (m = x) = false := fun x hx => by
    have := List.all_eq_true.mp n x hx
    simpa using this
  simp only [runF]
  refine (look_cons (e _ (by simp))).trans ((look_cons (e _ (by simp))).trans ((look_cons (e _ (by simp))).trans ((look_cons (e _ (by simp))).trans ((look_cons (e _ (by simp))).trans ((look_cons (e _ (by simp))).trans ((look_cons (e _ (by simp))).trans ((look_cons (e _ (by simp))).trans ((look_cons (e _ (by simp))).trans look_nil))))))))
end
theorem paired_get {α β : Type} {F : α → β → Prop} : ∀ {xs : List α} {ys : List β} {i : Nat} {x : α}, Paired F xs ys → xs[i]? = some x → ∃ y, ys[i]? = some y ∧ F x y
  | _, _, 0, _, .cons h _, e => ⟨_, rfl, by cases e; exact h⟩
  | _, _, i + 1, _, .cons _ t, e => paired_get (i := i) t e
/-- the i-th cell of the line -/
theorem cell_at {K : PySem.W.Frag} {C : Cl} {W : Wd} {H : Hp} {h : HA} {s : Hs} {a : Ab} (I : HouseAt K C W H h s a) {i : Nat} (l : i < a.line.length) : ∃ c x o, s.cells[i]? = some c ∧ a.line[i]? = some x ∧ s.ms[x.1]? = some o ∧ H c = some (.lst [.ref o.m, .int (x.2 : Nat)]) := by
  have lc : i < s.cells.length := by rw [I.ok.cl]; exact l
  have ex := List.getElem?_eq_getElem l
  have ec := List.getElem?_eq_getElem lc
  obtain ⟨o, eo⟩ := I.ms (I.ok.lk _ (List.getElem_mem l))
  refine ⟨_, _, o, ec, ex, eo, ?_⟩
  rw [← mAt_of eo]
  refine I.own.at_ (s.cells[i], cellO s.ms a.line[i]) ?_
  unfold img
  refine List.mem_append_right _ (List.mem_append_right _ (List.mem_append_left _ ?_))
  refine List.mem_iff_getElem?.mpr ⟨i, ?_⟩
  show (List.zipWith (fun c x => (c, cellO s.ms x)) s.cells a.line)[i]? = _
  rw [List.getElem?_zipWith, ec, ex]
def spLookR (K : PySem.W.Frag) (C : Cl) (CF : Addr) (st : Nat) (w : Way) (n : Nat) : Sp := fun vs H Q E => (∃ x y, vs = [x, y]) ∧ ∃ (W : Wd) (ps : List Str) (h : HA) (s : Hs) (a : Ab) (v : V) (r : PH.Row) (pre : List (Nat × Nat)) (x : Nat × Nat), vs = [.ref h.self, v] ∧ Pre K C st W ps w h H s a n ∧ a.line = pre ++ [x] ∧ Dp K H v (r.dat 3) ∧ RowZ (W.zs (a.path x.1)) 3 r ∧ stage r ≤ st ∧ 4 ≤ stage r ∧ lot ps a + 6 * cntR 3 r ≤ 800000 ∧
  WishU K C CF W h H s a Q E (rowF w (oneF w W.fnd n) 3 r a)
section
variable {P : Program} {w : World} {K : PySem.W.Frag} {mg : Str → Option Value} {base : Heap} {C_MadeError C_Fault C_Failed C_Module C_Late C_Runs : Addr} {n : Nat}
theorem ok_Runs_came_up {f : Addr} {fd : FuncData} (F : Fun K "came_up" "Runs.came_up" s_Runs_came_up f fd) (T : Txt K mg C_MadeError C_Fault C_Failed C_Module C_Late C_Runs)
    (D_Fault_init : DxF P w K mg base 1 C_Fault ["self", "fault"] (spFInit C_Fault)) :
    FnOk P w K mg base (L3.CX P w) 4 f fd ["self", "fault"] (spUp K ⟨C_Runs, C_Module, C_Late⟩ C_Fault) := by
  refine L3.okY F sc_Runs_came_up (fun vs H Q E h => ?_) (fun cdv A outer s H vs Q E hr h => ?_)
  · obtain ⟨W, h, s, a, v, f, rfl, _⟩ := h
    rfl
  · obtain ⟨f_Fault_init, fd_Fault_init, G_Fault_init, X_Fault, b_Fault_init⟩ := D_Fault_init
    obtain ⟨W, h, s, a, v, f, rfl, I, ll, df, ff, q⟩ := h
    refine ⟨_, (pss_cons (ps_fld (pv 0) (pe_lc (own := [("module", 2), ("row", 3)]) (g := gUnl K 2 (gCons (gName 2) (gCons (gName 3) gNil))) (tt := tYes) rfl sc_Runs_came_up.nd (kiL (K := K) rfl (pi_list (kFld (K := K) rfl (pe_fld (pv 0) rfl)))) (blkOk_by (own := [("module", 2), ("row", 3)]) (N := N_Runs_came_up) (sc := (defScope s_Runs_came_up)) (by decide +kernel)) (fun _ _ _ _ _ => (kgU (K := K) rfl (pg_unl rfl (pgs_cons (pg_name (i := 2) sc_Runs_came_up.nd rfl (Or.inl rfl)) (pgs_cons (pg_name (i := 3) sc_Runs_came_up.nd rfl (Or.inl rfl)) pgs_nil))))) (fun _ _ _ _ _ => pts_nil) (fun _ _ _ _ _ => (pe_tup (pa_cons (kFld (K := K) rfl (pe_fld (pv 2) rfl)) (pa_cons (pv 3) pa_nil))))) rfl)
      (pss_one (L3.ps_raise rfl (L3.takes_of rfl rfl rfl rfl) (L3.pmk_calm X_Fault.ox X_Fault.ic X_Fault.ti G_Fault_init (hr.mono (by first | decide | omega)) b_Fault_init pass0 (by rfl) T.mg_Fault (pa_cons (pv 1) pa_nil))))), ?_⟩
    refine st_start (σ' := [some (.ref h.self), some v, none, none]) rfl ?_
    walk_at "S"
    refine s_ins I.ob T.cl_Runs T.n_Runs_line lkR_ln ?_
    walk_at "S"
    refine ⟨⟨_, sq_l I.ln⟩, fun D hD => ?_⟩
    refine lc_goH (walk_list (K := K) (a := h.ln) (xs := s.cells.map V.ref)) (W := []) (PL := fun i xs H' => DLst K H' xs ((a.road a.line).take i)) hD ⟨.nil, rfl⟩ (fun Hq kq => sq_l (kq.get trivial I.ln)) (fun i x Ha Hb hi Ib y => ?_) fun H1 I1 => ?_
    · obtain ⟨rfl, hx⟩ := y
      obtain ⟨xs, ex, pl, lx, k0⟩ := Ib
      rw [List.length_map] at hi
      obtain ⟨c, z, o, ec, ez, eo, eh⟩ := cell_at I (i := i) (by rw [← I.ok.cl]; exact hi)
      rw [List.getElem?_map, ec] at hx
      cases hx
      have eh2 := k0.get trivial eh
      obtain ⟨dx, em⟩ := (I.rl.mod _ o eo).1
      have em2 := k0.get trivial em
      refine s_gunl (sq_l eh2) rfl ?_
      walk_at "S"
      refine ⟨rfl, ?_⟩
      walk_at "S"
      refine s_ins em2 T.cl_Module T.n_Module_path (lk_path _ _ _) ?_
      walk_at "S"
      refine ⟨small_le (by simp), fun t ht => ?_⟩
      have k1 : Kp [] Hb (upd Hb t (.tup [.str (a.path z.1), .int (z.2 : Nat)])) := Kp.refl.upd_new ht
      have nD : D ≠ t := ne_of_none ex ht
      refine LcInvH.put ex lx k0 hD trivial k1 (small_lt (by have := I.ok.cl; omega)) ?_
      rw [take_put (x := stepE (a.path z.1) z.2) (by unfold Ab.road; rw [List.getElem?_map, ez]; rfl)]
      have e1 : upd Hb t (.tup [.str (a.path z.1), .int (z.2 : Nat)]) D = some (.lst xs) := (upd_ne nD).trans ex
      have kq : Keep Hb (upd (upd Hb t (.tup [.str (a.path z.1), .int (z.2 : Nat)])) D (.lst (xs ++ [.ref t]))) := (Keep.same k1).tr (.one e1 (.lst _))
      refine (pl.tup kq.tup).snoc ?_ rfl
      exact .tup (sq_t ((upd_ne nD.symm).trans upd_same)) (.cons (.str _) (.cons (.int _) .nil))
    · obtain ⟨xs, ex, pl, lx, k0⟩ := I1
      rw [List.take_of_length_le (by unfold Ab.road; rw [List.length_map, List.length_map, I.ok.cl]; exact Nat.le_refl _)] at pl
      have st := I.metted k0 hD ex pl
      walk_at "S"
      refine ⟨h.self, _, _, _, rfl, (I.same k0).ob, T.cl_Runs, T.n_Runs_met, by show 9 < 1000; decide, ?_⟩
      rw [runF_met]
      generalize upd H1 h.self (.ins C_Runs h.dx (runF h { s with mt := D })) = H2 at *
      have df2 := Dp.tups (st.keep I).tup _ _ ff df
      walk_at "S"
      refine s_mkO ?_
      walk_at "S"
      refine ⟨by show 1 ≤ 1000; decide, fault_made fun H3 d k3 e3 => ?_⟩
      exact q _ _ d (st.tr (Stp.same st.at_ k3)) ⟨v, e3, Dp.same k3 _ _ df2, ff⟩
end

section
variable {P : Program} {w : World} {K : PySem.W.Frag} {mg : Str → Option Value} {base : Heap} {C_MadeError C_Fault C_Failed C_Module C_Late C_Runs : Addr} {n : Nat}
theorem ok_Runs_found {f : Addr} {fd : FuncData} (F : Fun K "found" "Runs.found" s_Runs_found f fd) (T : Txt K mg C_MadeError C_Fault C_Failed C_Module C_Late C_Runs)
     :
    FnOk P w K mg base CX0 1 f fd ["self", "path"] (spFound K ⟨C_Runs, C_Module, C_Late⟩) := by
  refine F.ok sc_Runs_found (fun vs H Q E h => ?_) (fun cdv A outer s H vs Q E hr h => ?_)
  · obtain ⟨W, h, s, a, p, rfl, _⟩ := h
    rfl
  · skip
    obtain ⟨W, h, s, a, p, rfl, I, q1, q2⟩ := h
    have hu := hu_of hr
    refine ⟨_, (pss_cons (ps_for PassesOwn.never rfl (kiL (K := K) rfl (pi_list (kFld (K := K) rfl (pe_fld (pv 0) rfl)))) (pg_name (i := 2) sc_Runs_found.nd rfl (Or.inl rfl)) (pss_one (ps_if (pt_cmp (pc_din hu (pv 1) (pv 2))) (pss_one (ps_ret (pe_dget hu (pv 2) (pv 1) (fun _ _ => rfl)))) pss_nil)))
      (pss_one (ps_ret pe_non))), ?_⟩
    refine st_start (σ' := [some (.ref h.self), some (.str p), none]) rfl ?_
    walk_at "S"
    refine s_ins I.ob T.cl_Runs T.n_Runs_shelves lkR_sh ?_
    walk_at "S"
    refine ⟨⟨_, sq_l I.sh⟩, ?_⟩
    have F := I.rl.fnd p
    refine for_go (walk_list (K := K) (a := h.sh) (xs := s.shs.map fun x => V.ref x.a)) (fun i σ H1 => ∃ o2 : Option V, σ = [some (.ref h.self), some (.str p), o2] ∧ H1 = H ∧ ∀ j, j < i → ∀ y, s.shs[j]? = some y → valV y.kvs (.inr p) = none)
      ⟨_, rfl, rfl, fun j hj => absurd hj (Nat.not_lt_zero _)⟩ (fun i σ H1 _ I1 => by obtain ⟨_, _, rfl, _⟩ := I1; exact sq_l I.sh) (fun i x' σ Ha Hb hi I1 y => ?_) fun σ H1 I1 => ?_
    · obtain ⟨rfl, hx⟩ := y
      obtain ⟨o2, rfl, rfl, le⟩ := I1
      rw [List.getElem?_map] at hx
      obtain ⟨y, ey, rfl⟩ : ∃ y, s.shs[i]? = some y ∧ x' = V.ref y.a := by
        cases e : s.shs[i]? with
        | none => rw [e] at hx; cases hx
        | some y => rw [e] at hx; exact ⟨y, rfl, (Option.some.inj hx).symm⟩
      have eD := I.shk (List.mem_of_getElem? ey)
      walk_at "S"
      refine s_inS eD ?_
      walk_at "S"
      cases ev : valV y.kvs (.inr p) with
      | none =>
        refine s_bool (fun h => nomatch h) (fun _ => ?_)
        walk_at "S"
        refine ⟨_, rfl, rfl, fun j hj z ez => ?_⟩
        rcases Nat.lt_succ_iff_lt_or_eq.mp hj with c | c
        · exact le j c z ez
        · subst c
          rw [ey] at ez
          cases ez
          exact ev
      | some v =>
        refine s_bool (fun _ => ?_) (fun h => nomatch h)
        walk_at "S"
        refine s_getS eD ev ?_
        walk_at "S"
        cases ef : W.fnd p with
        | none =>
          rw [ef] at F
          have := F y (List.mem_of_getElem? ey)
          rw [ev] at this; cases this
        | some b =>
          rw [ef] at F
          obtain ⟨j, x, v', ej, ev', lt, dv⟩ := F
          have ij : i = j := by
            rcases Nat.lt_trichotomy i j with c | c | c
            · have := lt i y c ey; rw [ev] at this; cases this
            · exact c
            · have := le j c x ej; rw [ev'] at this; cases this
          subst ij
          rw [ey] at ej
          cases ej
          rw [ev] at ev'
          cases ev'
          cases dv with
          | tup hs ha => exact q2 b _ ef (.tup hs ha)
    · obtain ⟨o2, rfl, rfl, le⟩ := I1
      rw [List.length_map] at le
      walk_at "S"
      refine q1 ?_
      cases ef : W.fnd p with
      | none => rfl
      | some b =>
        rw [ef] at F
        obtain ⟨j, x, v', ej, ev', _⟩ := F
        have := le j (List.getElem?_eq_some_iff.mp ej).1 x ej
        rw [ev'] at this; cases this
theorem ok_Runs_do_note {f : Addr} {fd : FuncData} (F : Fun K "do_note" "Runs.do_note" s_Runs_do_note f fd) (T : Txt K mg C_MadeError C_Fault C_Failed C_Module C_Late C_Runs)
    (D_Module_bound : DmF P w K mg base 1 C_Module "bound" ["self"] (spBound C_Module)) :
    FnOk P w K mg base CX0 2 f fd ["self", "path"] (spNote K ⟨C_Runs, C_Module, C_Late⟩) := by
  refine F.ok sc_Runs_do_note (fun vs H Q E h => ?_) (fun cdv A outer s H vs Q E hr h => ?_)
  · obtain ⟨W, h, s, a, p, pre, x, rfl, _⟩ := h
    rfl
  · obtain ⟨f_Module_bound, fd_Module_bound, G_Module_bound, mt_Module_bound, b_Module_bound⟩ := D_Module_bound
    obtain ⟨W, h, s, a, p, pre, x, rfl, I, el, fw, ln, q⟩ := h
    have hu := hu_of hr
    refine ⟨_, (pss_cons (ps_set (i := 2) sc_Runs_do_note.nd rfl (Or.inl rfl) pe_non)
      (pss_cut2 (ps_if (pt_cmp (pc_din hu (pv 1) (kFld (K := K) rfl (pe_fld (pv 0) rfl)))) (pss_one (ps_set (i := 2) sc_Runs_do_note.nd rfl (Or.inl rfl) (pe_callTy (tupleK (K := K) rfl) (by rfl) T.n_tuple (by decide +kernel) (pa_cons (pe_meth0 (pe_dget hu (kFld (K := K) rfl (pe_fld (pv 0) rfl)) (pv 1) (fun _ _ => rfl)) T.cl_Module mt_Module_bound G_Module_bound (hr.mono (by first | decide | omega)) b_Module_bound .nil pass0) pa_nil)))) pss_nil)
      (pss_one (ps_expr (kBM (K := K) rfl (pe_bm PySem.F.plainAttrs_list PySem.F.slot_list_append PySem.F.type_list_append mt_append (kFld (K := K) rfl (pe_fld (pv 0) rfl)) (pa_cons (pe_tup (pa_cons pe_str (pa_cons (kFld (K := K) rfl (pe_fld (pe_ix (ixLK (K := K) rfl) (pe_ix (ixLK (K := K) rfl) (kFld (K := K) rfl (pe_fld (pv 0) rfl)) (pe_un un_neg pe_int) (fun _ _ => rfl)) pe_int (fun _ _ => rfl)) rfl)) (pa_cons (pv 2) pa_nil)))) pa_nil))))))), ?_⟩
    refine st_start (σ' := [some (.ref h.self), some (.str p), none]) rfl ?_
    walk_at "S"
    refine s_cut (fun σ H1 => ∃ nv : V, σ = [some (.ref h.self), some (.str p), some nv] ∧ Kp [] H H1 ∧ Dp K H1 nv (a.noted p) ∧ flatD (a.noted p) = true) (fun J hJ => ?_) ?_
    · walk_at "S"
      refine s_ins I.ob T.cl_Runs T.n_Runs_standing lkR_st ?_
      refine s_inS I.st ?_
      walk_at "S"
      rcases I.tabGet p with ⟨e1, e2⟩ | ⟨k, o, e1, ek, eq, e2⟩
      · rw [e2]
        refine s_bool (fun h => nomatch h) (fun _ => ?_)
        walk_at "S"
        refine hJ _ _ ⟨_, rfl, Kp.refl, ?_, ?_⟩
        · unfold Ab.noted
          rw [e1]
          exact .non
        · unfold Ab.noted
          rw [e1]
          rfl
      · rw [e2]
        refine s_bool (fun _ => ?_) (fun h => nomatch h)
        obtain ⟨⟨dx, em⟩, nm⟩ := I.rl.mod k o ek
        walk_at "S"
        refine s_ins I.ob T.cl_Runs T.n_Runs_standing lkR_st ?_
        walk_at "S"
        refine s_getS I.st e2 ?_
        refine s_insM em (lk_meth (m := "bound") _ _ _ (by decide +kernel)) ?_
        walk_at "S"
        have lt := I.names_few k (n := 63) (by have := fw (a.path k); omega)
        refine ⟨o.m, o.d, _, _, o.kvs, (a.names k).map (·.1), rfl, I.at_ ek, nm.keys, by rw [List.length_map]; omega, fun ys l py sy hl => ?_⟩
        walk_at "S"
        refine s_tupL (sq_l upd_same) fun t ht => ?_
        walk_at "S"
        have en : a.noted p = .tuple (ys.map .str) := by
          unfold Ab.noted
          rw [e1, srt_eq py sy]
        refine hJ _ _ ⟨_, rfl, (Kp.refl.upd_new hl).upd_new ht, ?_, ?_⟩
        · rw [en]
          exact .tup (sq_t upd_same) (dpAll_strs ys)
        · rw [en]
          exact flat_strs ys
    · rintro σ H1 ⟨nv, rfl, k1, dn, fn⟩
      have I1 := I.same k1
      obtain ⟨cp, c, o, ec, el1, eo, eh⟩ := I1.last el
      obtain ⟨⟨dx, em⟩, _⟩ := I1.rl.mod _ o eo
      have ent := I1.nt
      walk_at "S"
      refine s_ins I1.ob T.cl_Runs T.n_Runs_notes lkR_nt ?_
      walk_at "S"
      refine s_ins I1.ob T.cl_Runs T.n_Runs_line lkR_ln ?_
      walk_at "S"
      refine s_ixL (sq_l I1.ln) el1 ?_
      walk_at "S"
      refine s_ins em T.cl_Module T.n_Module_number (lk_num _ _ _) ?_
      walk_at "S"
      refine ⟨small_le (by simp), fun t ht => ?_⟩
      have st2 := (Stp.same I k1).tr (Stp.new1 I1 (o := .tup [.str "note", .int ((x.1 + 1 : Nat) : Int), nv]) ht)
      have k2 : Kp [] H1 (upd H1 t (.tup [.str "note", .int ((x.1 + 1 : Nat) : Int), nv])) := kp_new ht
      have dt : Dp K (upd H1 t (.tup [.str "note", .int ((x.1 + 1 : Nat) : Int), nv])) (.ref t) (noteE x.1 (a.noted p)) := .tup (sq_t upd_same) (.cons (.str _) (.cons (.int _) (.cons (Dp.same k2 _ _ dn) .nil)))
      have ft : flatD (noteE x.1 (a.noted p)) = true := by show (true && (true && (flatD (a.noted p) && true))) = true; rw [fn]; rfl
      generalize upd H1 t (.tup [.str "note", .int ((x.1 + 1 : Nat) : Int), nv]) = H2 at *
      have I2 := st2.at_
      have ln2 := I2.rl.nt.len
      walk_at "S"
      refine s_append I2.nt (PH.small_lt (by omega)) ?_
      exact q _ _ (st2.tr (I2.note dt ft))
theorem ok_Runs_came_whole {f : Addr} {fd : FuncData} (F : Fun K "came_whole" "Runs.came_whole" s_Runs_came_whole f fd) (T : Txt K mg C_MadeError C_Fault C_Failed C_Module C_Late C_Runs)
     :
    FnOk P w K mg base CX0 3 f fd ["self", "module"] (spWhole K ⟨C_Runs, C_Module, C_Late⟩ wayR) := by
  refine F.ok sc_Runs_came_whole (fun vs H Q E h => ?_) (fun cdv A outer s H vs Q E hr h => ?_)
  · obtain ⟨W, h, s, a, k, o, rfl, _⟩ := h
    rfl
  · skip
    obtain ⟨W, h, s, a, k, o, rfl, I, _, _, q⟩ := h
    refine ⟨_, (pss_one ps_pass), ?_⟩
    refine st_start (σ' := [some (.ref h.self), some (.ref o.m)]) rfl ?_
    walk_at "S"
    exact q _ _ (.refl I)
theorem ok_Runs_do_looking {f : Addr} {fd : FuncData} (F : Fun K "do_looking" "Runs.do_looking" s_Runs_do_looking f fd) (T : Txt K mg C_MadeError C_Fault C_Failed C_Module C_Late C_Runs)
     :
    FnOk P w K mg base (L3.CX P w) (7 * n + 11) f fd ["self", "row"] (spLookR K ⟨C_Runs, C_Module, C_Late⟩ C_Fault 3 wayR n) := by
  refine L3.okY F sc_Runs_do_looking (fun vs H Q E h => ?_) (fun cdv A outer s H vs Q E hr h => ?_)
  · obtain ⟨⟨x, y, rfl⟩, _⟩ := h
    rfl
  · skip
    obtain ⟨_, W, ps, h, s, a, v, r, pre, x, rfl, _, _, _, _, h1, h2, _⟩ := h
    have h1 : stage r ≤ 3 := h1
    omega
end

theorem path_pre {a b : Ab} {k : Nat} (h : ∃ more, b.qs = a.qs ++ more) (l : k < a.qs.length) : b.path k = a.path k := by
  obtain ⟨more, e⟩ := h
  show b.qs.getD k "" = a.qs.getD k ""
  rw [e, List.getD_eq_getElem?_getD, List.getElem?_append_left l, List.getD_eq_getElem?_getD]
theorem Pre.step {K : PySem.W.Frag} {C : Cl} {st : Nat} {W : Wd} {ps : List Str} {w : Way} {h : HA} {H H' : Hp} {s s' : Hs} {a a' : Ab} {n : Nat} (p : Pre K C st W ps w h H s a n) (I : HouseAt K C W H' h s' a') (r : rem ps a' ≤ rem ps a) (l : lot ps a' ≤ 800000) (e : a'.line.length ≤ a.line.length) : Pre K C st W ps w h H' s' a' n :=
  ⟨p.ok, I, Nat.lt_of_le_of_lt r p.rem, l, Nat.le_trans (Nat.add_le_add_right e n) p.line⟩
section
variable {P : Program} {w : World} {K : PySem.W.Frag} {mg : Str → Option Value} {base : Heap} {C_MadeError C_Fault C_Failed C_Module C_Late C_Runs : Addr} {n : Nat}
theorem ok_Runs_do {f : Addr} {fd : FuncData} (F : Fun K "do" "Runs.do" s_Runs_do f fd) (T : Txt K mg C_MadeError C_Fault C_Failed C_Module C_Late C_Runs)
    (D_Module_bind : DmF P w K mg base 1 C_Module "bind" ["self", "name", "thing"] (spBind C_Module)) (D_Runs_taken : L3.DmY P w K mg base (7 * n + 10) C_Runs "taken" ["self", "path"] (spTaken K ⟨C_Runs, C_Module, C_Late⟩ C_Fault 3 wayR n)) (D_Runs_do_note : DmF P w K mg base 2 C_Runs "do_note" ["self", "path"] (spNote K ⟨C_Runs, C_Module, C_Late⟩)) (D_Runs_do_looking : L3.DmY P w K mg base (7 * n + 11) C_Runs "do_looking" ["self", "row"] (spLookR K ⟨C_Runs, C_Module, C_Late⟩ C_Fault 3 wayR n)) :
    FnOk P w K mg base (L3.CX P w) (7 * n + 12) f fd ["self", "row"] (spDo K ⟨C_Runs, C_Module, C_Late⟩ C_Fault 3 wayR n 3) := by
  refine L3.okY F sc_Runs_do (fun vs H Q E h => ?_) (fun cdv A outer s H vs Q E hr h => ?_)
  · obtain ⟨W, ps, h, s, a, v, r, pre, x, rfl, _⟩ := h
    rfl
  · obtain ⟨f_Module_bind, fd_Module_bind, G_Module_bind, mt_Module_bind, b_Module_bind⟩ := D_Module_bind; obtain ⟨f_Runs_taken, fd_Runs_taken, G_Runs_taken, mt_Runs_taken, b_Runs_taken⟩ := D_Runs_taken; obtain ⟨f_Runs_do_note, fd_Runs_do_note, G_Runs_do_note, mt_Runs_do_note, b_Runs_do_note⟩ := D_Runs_do_note; obtain ⟨f_Runs_do_looking, fd_Runs_do_looking, G_Runs_do_looking, mt_Runs_do_looking, b_Runs_do_looking⟩ := D_Runs_do_looking
    obtain ⟨W, ps, h, s, a, v, r, pre, x, rfl, B, el, dv, rz, sr, lt6, q⟩ := h
    have hu := hu_of hr
    have I := B.at_
    refine ⟨_, (pss_cons (ps_set (i := 2) sc_Runs_do.nd rfl (Or.inl rfl) (pe_ix (ixLK (K := K) rfl) (pe_ix (ixLK (K := K) rfl) (kFld (K := K) rfl (pe_fld (pv 0) rfl)) (pe_un un_neg pe_int) (fun _ _ => rfl)) pe_int (fun _ _ => rfl)))
      (pss_one (ps_if (pt_cmpR op_eq (pe_ix (ixTK (K := K) rfl) (pv 1) pe_int (fun _ _ => rfl)) pe_str (nomark _)) (pss_one (ps_expr (pe_meth (pv 2) T.cl_Module mt_Module_bind G_Module_bind (hr.mono (by first | decide | omega)) b_Module_bind .nil pass0 (pa_cons (pe_ix (ixTK (K := K) rfl) (pv 1) pe_int (fun _ _ => rfl)) (pa_cons (pe_ix (ixTK (K := K) rfl) (pv 1) pe_int (fun _ _ => rfl)) pa_nil))))) (pss_one (ps_if (pt_cmpR op_eq (pe_ix (ixTK (K := K) rfl) (pv 1) pe_int (fun _ _ => rfl)) pe_str (nomark _)) (pss_one (ps_expr (pe_meth (pv 2) T.cl_Module mt_Module_bind G_Module_bind (hr.mono (by first | decide | omega)) b_Module_bind .nil pass0 (pa_cons (pe_ix (ixTK (K := K) rfl) (pv 1) pe_int (fun _ _ => rfl)) (pa_cons (L3.pe_methY (pv 0) T.cl_Runs mt_Runs_taken G_Runs_taken (hr.mono (by first | decide | omega)) b_Runs_taken (fun σ => L3.passAt (L3.takes_of rfl rfl rfl rfl) σ) (pa_cons (pe_ix (ixTK (K := K) rfl) (pv 1) pe_int (fun _ _ => rfl)) pa_nil)) pa_nil))))) (pss_one (ps_if (pt_cmpR op_eq (pe_ix (ixTK (K := K) rfl) (pv 1) pe_int (fun _ _ => rfl)) pe_str (nomark _)) (pss_one (ps_expr (pe_meth (pv 0) T.cl_Runs mt_Runs_do_note G_Runs_do_note (hr.mono (by first | decide | omega)) b_Runs_do_note .nil pass0 (pa_cons (pe_ix (ixTK (K := K) rfl) (pv 1) pe_int (fun _ _ => rfl)) pa_nil)))) (pss_one (ps_expr (L3.pe_methY (pv 0) T.cl_Runs mt_Runs_do_looking G_Runs_do_looking (hr.mono (by first | decide | omega)) b_Runs_do_looking (fun σ => L3.passAt (L3.takes_of rfl rfl rfl rfl) σ) (pa_cons (pv 1) pa_nil))))))))))), ?_⟩
    refine st_start (σ' := [some (.ref h.self), some v, none]) rfl ?_
    obtain ⟨cp, c, o, ec, el1, eo, eh⟩ := I.last el
    obtain ⟨⟨dx, em⟩, nm⟩ := I.rl.mod _ o eo
    have top := top_of el
    have few := I.names_few x.1 (n := 63) (by have := B.ok.zs (a.path x.1); omega)
    have lx := I.ok.lk x (by rw [el]; exact mem_end)
    walk_at "S"
    refine s_ins I.ob T.cl_Runs T.n_Runs_line lkR_ln ?_
    walk_at "S"
    refine s_ixL (sq_l I.ln) el1 ?_
    walk_at "S"
    by_cases s4 : 4 ≤ stage r
    · obtain ⟨z, ds, ed, n1, n2, n3⟩ : ∃ z ds, r.dat 3 = .tuple (S z :: ds) ∧ z ≠ "set" ∧ z ≠ "take" ∧ z ≠ "note" := by
        cases r with
        | set x n => exact absurd s4 (by show ¬ 4 ≤ 3; decide)
        | take x p => exact absurd s4 (by show ¬ 4 ≤ 3; decide)
        | note p => exact absurd s4 (by show ¬ 4 ≤ 3; decide)
        | now x q => exact ⟨_, _, rfl, by decide +kernel, by decide +kernel, by decide +kernel⟩
        | draw x p y => exact ⟨_, _, rfl, by decide +kernel, by decide +kernel, by decide +kernel⟩
        | late x q => exact ⟨_, _, rfl, by decide +kernel, by decide +kernel, by decide +kernel⟩
        | ask x q => exact ⟨_, _, rfl, by decide +kernel, by decide +kernel, by decide +kernel⟩
        | fail w => exact ⟨_, _, rfl, by decide +kernel, by decide +kernel, by decide +kernel⟩
        | tr a ws b => exact ⟨_, _, rfl, by decide +kernel, by decide +kernel, by decide +kernel⟩
      have dv0 := dv
      rw [ed] at dv
      cases dv with
      | tup hs ha =>
        cases ha with
        | cons h0 h1 =>
          cases h0
          have a0 : ∀ ys : List V, atI (V.str z :: ys) 0 = some (.str z) := fun ys => atI_nat (j := 0) rfl
          walk_at "S"
          refine s_ixT hs (a0 _) ?_
          walk_at "S"
          refine s_dec (fun h => absurd (V.str.inj h) n1) (fun _ => ?_)
          walk_at "S"
          refine s_ixT hs (a0 _) ?_
          walk_at "S"
          refine s_dec (fun h => absurd (V.str.inj h) n2) (fun _ => ?_)
          walk_at "S"
          refine s_ixT hs (a0 _) ?_
          walk_at "S"
          refine s_dec (fun h => absurd (V.str.inj h) n3) (fun _ => ?_)
          walk_at "S"
          refine s_insM I.ob (lkR_none (m := "do_looking") (by decide +kernel)) ?_
          walk_at "S"
          exact ⟨⟨_, _, rfl⟩, W, ps, h, s, a, _, r, pre, x, rfl, B, el, dv0, rz, sr, s4, lt6, q⟩
    · cases r with
      | set z m =>
        cases dv with
        | tup hs ha =>
          obtain _ | ⟨h0, _ | ⟨h1, _ | ⟨h2, h3⟩⟩⟩ := ha
          cases h3
          cases h0
          cases h1
          cases h2
          have st := I.bind eo (z := z) (t := .num m) rz (.num m)
          walk_at "S"
          refine s_dec (fun _ => ?_) (fun h => absurd rfl h)
          walk_at "S"
          refine s_insM em (lk_meth (m := "bind") _ _ _ (by decide +kernel)) ?_
          walk_at "S"
          refine ⟨o.m, o.d, _, _, z, .int m, o.kvs, rfl, I.at_ eo, by rw [nm.len]; omega, ?_⟩
          walk_at "S"
          refine q.1 _ ?_ _ _ st
          show (a.bind a.top.1 z (.num m), Except.ok ()) = _
          rw [top]
      | take z p =>
        cases dv with
        | tup hs ha =>
          obtain _ | ⟨h0, _ | ⟨h1, _ | ⟨h2, h3⟩⟩⟩ := ha
          cases h3
          cases h0
          cases h1
          cases h2
          walk_at "S"
          refine s_dec (fun h => absurd (V.str.inj h) (by decide +kernel)) (fun _ => ?_)
          walk_at "S"
          refine s_dec (fun _ => ?_) (fun h => absurd rfl h)
          walk_at "S"
          refine s_insM em (lk_meth (m := "bind") _ _ _ (by decide +kernel)) ?_
          walk_at "S"
          refine s_insM I.ob (lkR_none (m := "taken") (by decide +kernel)) ?_
          walk_at "S"
          have g := B.ok.way.tk _ (gr_one B.ok.way B.ok.bod n) a p
          have lt6 : lot ps a + 6 * 1 ≤ 800000 := lt6
          refine ⟨W, ps, h, s, a, p, rfl, B, by omega, fun b m eq H1 s1 st1 lm => ?_, fun b f eq H1 s1 d st1 fa => ?_⟩
          · rw [eq] at g
            walk_at "S"
            obtain ⟨o', eo', p1, p2⟩ := st1.ext _ _ eo
            have I1 := st1.at_
            have ep := path_pre g.qs lx
            obtain ⟨om, eom⟩ := I1.ms lm
            have few1 := I1.names_few x.1 (n := 63) (by have := B.ok.zs (b.path x.1); omega)
            have st2 := I1.bind eo' (z := z) (t := .mod m) (by rw [ep]; exact rz) (.mod eom)
            rw [← p1, mAt_of eom]
            refine ⟨o'.m, o'.d, _, _, z, .ref om.m, o'.kvs, rfl, I1.at_ eo', by rw [(I1.rl.mod _ _ eo').2.len]; omega, ?_⟩
            walk_at "S"
            refine q.1 _ ?_ _ _ (st1.tr st2)
            show flatRow _ _ (.take z p) a = _
            simp only [flatRow, eq, top]
          · refine q.2 b f ?_ _ _ _ st1 fa
            show flatRow _ _ (.take z p) a = _
            simp only [flatRow, eq]
      | note p =>
        cases dv with
        | tup hs ha =>
          obtain _ | ⟨h0, _ | ⟨h1, h2⟩⟩ := ha
          cases h2
          cases h0
          cases h1
          walk_at "S"
          refine s_dec (fun h => absurd (V.str.inj h) (by decide +kernel)) (fun _ => ?_)
          walk_at "S"
          refine s_dec (fun h => absurd (V.str.inj h) (by decide +kernel)) (fun _ => ?_)
          walk_at "S"
          refine s_dec (fun _ => ?_) (fun h => absurd rfl h)
          walk_at "S"
          refine s_insM I.ob (lkR_none (m := "do_note") (by decide +kernel)) ?_
          walk_at "S"
          have lt := B.lot
          refine ⟨W, h, s, a, p, pre, x, rfl, I, el, B.ok.zs, by unfold lot wt at lt; omega, fun H1 s1 st => ?_⟩
          walk_at "S"
          refine q.1 _ ?_ _ _ st
          show (a.put (noteE a.top.1 (a.noted p)), Except.ok ()) = _
          rw [top]
      | now x q => exact absurd (by show 4 ≤ 4; decide) s4
      | draw x p y => exact absurd (by show 4 ≤ 4; decide) s4
      | late x q => exact absurd (by show 4 ≤ 4; decide) s4
      | ask x q => exact absurd (by show 4 ≤ 4; decide) s4
      | fail w => exact absurd (by show 4 ≤ 5; decide) s4
      | tr a ws b => exact absurd (by show 4 ≤ 5; decide) s4
end

theorem body_drop (f : PH.Row → Ab → Rs Unit) {r : PH.Row} {b : List PH.Row} {i j : Nat} {a : Ab} (e : b[i]? = some r) : bodyF f j (b.drop i) a = (match f r (a.row j) with
    | (c, .ok _) => bodyF f (j + 1) (b.drop (i + 1)) c
    | (c, .error x) => (c, .error x)) := by
  obtain ⟨l, rfl⟩ := List.getElem?_eq_some_iff.mp e
  rw [List.drop_eq_getElem_cons l]
  rfl
theorem cnts_take {b : List PH.Row} {i : Nat} {r : PH.Row} (e : b[i]? = some r) : cntsR 3 (b.take (i + 1)) = cntsR 3 (b.take i) + cntR 3 r := by
  unfold cntsR
  rw [take_put e, List.map_append, List.sum_append]
  simp
theorem cnts_le {b : List PH.Row} {i : Nat} : cntsR 3 (b.take i) ≤ cntsR 3 b := by
  have : b = b.take i ++ b.drop i := (List.take_append_drop i b).symm
  have e : cntsR 3 b = cntsR 3 (b.take i) + cntsR 3 (b.drop i) := by
    unfold cntsR
    rw [← List.sum_append, ← List.map_append, ← this]
  omega
section
variable {P : Program} {w : World} {K : PySem.W.Frag} {mg : Str → Option Value} {base : Heap} {C_MadeError C_Fault C_Failed C_Module C_Late C_Runs : Addr} {n : Nat}
theorem ok_Runs_do_body {f : Addr} {fd : FuncData} (F : Fun K "do_body" "Runs.do_body" s_Runs_do_body f fd) (T : Txt K mg C_MadeError C_Fault C_Failed C_Module C_Late C_Runs)
    (D_Runs_do : L3.DmY P w K mg base (7 * n + 12) C_Runs "do" ["self", "row"] (spDo K ⟨C_Runs, C_Module, C_Late⟩ C_Fault 3 wayR n 3)) :
    FnOk P w K mg base (L3.CX P w) (7 * n + 13) f fd ["self", "body"] (spDoBody K ⟨C_Runs, C_Module, C_Late⟩ C_Fault 3 wayR n) := by
  refine L3.okY F sc_Runs_do_body (fun vs H Q E h => ?_) (fun cdv A outer s H vs Q E hr h => ?_)
  · obtain ⟨W, ps, h, s, a, v, b, pre, x, rfl, _⟩ := h
    rfl
  · obtain ⟨f_Runs_do, fd_Runs_do, G_Runs_do, mt_Runs_do, b_Runs_do⟩ := D_Runs_do
    obtain ⟨W, ps, h, s, a, v, b, pre, x, rfl, B, el, dv, rz, sg, cb, lt6, q⟩ := h
    have hu := hu_of hr
    have I := B.at_
    refine ⟨_, (pss_one (ps_for (passes_of rfl) rfl (pi_enumT (K := K) rfl (by rfl) T.n_enumerate (pa_cons (pv 1) pa_nil)) (kgT (K := K) rfl (pg_tup rfl (pgs_cons (pg_name (i := 2) sc_Runs_do_body.nd rfl (Or.inl rfl)) (pgs_cons (pg_name (i := 3) sc_Runs_do_body.nd rfl (Or.inl rfl)) pgs_nil)))) (pss_cons (ps_asg (pv 2) (pg_sub (pe_ix (ixLK (K := K) rfl) (kFld (K := K) rfl (pe_fld (pv 0) rfl)) (pe_un un_neg pe_int) (fun _ _ => rfl)) pe_int set_list))
      (pss_one (ps_expr (L3.pe_methY (pv 0) T.cl_Runs mt_Runs_do G_Runs_do (hr.mono (by first | decide | omega)) b_Runs_do (fun σ => L3.passAt (L3.takes_of rfl rfl rfl rfl) σ) (pa_cons (pv 3) pa_nil))))))), ?_⟩
    refine st_start (σ' := [some (.ref h.self), some v, none, none]) rfl ?_
    walk_at "S"
    cases dv with
    | tup hs ha =>
      rename_i u vs
      have el2 : vs.length = b.length := by have := DpAll.len ha; rwa [List.length_map] at this
      refine s_iEnumT ?_
      walk_at "S"
      refine ⟨u, vs, rfl, hs, ?_⟩
      have lx := I.ok.lk x (by rw [el]; exact mem_end)
      have gr := gr_rowF (w := wayR) B.ok.way (gr_one B.ok.way B.ok.bod n)
      have ln := good_rowF (w := wayR) B.ok.way line_good (line_one B.ok.way (fnd := W.fnd) n)
      refine for_go (walk_enumT (K := K) (a := u) (xs := vs)) (fun i σ Hi => ∃ (si : Hs) (ai : Ab) (o2 o3 : Option V) (r : Nat), σ = [some (.ref h.self), some (.ref u), o2, o3] ∧ Stp K ⟨C_Runs, C_Module, C_Late⟩ W h H s a Hi si ai ∧
          bodyF (rowF wayR (oneF wayR W.fnd n) 3) 0 b a = bodyF (rowF wayR (oneF wayR W.fnd n) 3) i (b.drop i) ai ∧ ai.line = pre ++ [(x.1, r)] ∧ Gr ps (6 * cntsR 3 (b.take i)) a ai)
        ⟨s, a, _, _, x.2, rfl, .refl I, by rw [List.drop_zero], el, Gr.refl.mono (Nat.zero_le _)⟩ (fun i σ Hi _ Ii => ?_) (fun i y σ Ha Hb hi Ii yy => ?_) fun σ Hi Ii => ?_
      · obtain ⟨si, ai, o2, o3, r, rfl, st, _⟩ := Ii
        exact seqT_tups (st.keep I).tup hs
      · obtain ⟨si, ai, o2, o3, r0, rfl, st, ea, eli, G⟩ := Ii
        obtain ⟨t, bb, u2, rfl, ht, rfl, eb, ex⟩ := yy
        cases eb
        have hi2 : i < b.length := by omega
        obtain ⟨u', eu, du, _⟩ := dpAll_nth ha i (by rw [List.length_map]; exact hi2)
        have ex := (Option.some.inj (eu.symm.trans ex)).symm
        subst ex
        have er := List.getElem?_eq_getElem hi2
        have en : nth (rowsD b) i = b[i].dat 3 := by
          unfold nth
          rw [List.getD_eq_getElem?_getD, List.getElem?_map, er]
          rfl
        rw [en] at du
        have mr := List.getElem_mem hi2
        have st1 := st.tr (Stp.new1 st.at_ (o := .tup [.int (i : Nat), u2]) ht)
        have I2 := st1.at_
        have ee : upd Ha t (.tup [.int (i : Nat), u2]) t = some (.tup [.int (i : Nat), u2]) := upd_same
        generalize upd Ha t (.tup [.int (i : Nat), u2]) = Hb at *
        obtain ⟨cp, c, o, ec, el1, eo, eh⟩ := I2.last eli
        refine s_gtup (sq_t ee) rfl ?_
        walk_at "S"
        refine s_ins I2.ob T.cl_Runs T.n_Runs_line lkR_ln ?_
        walk_at "S"
        refine s_ixL (sq_l I2.ln) el1 ?_
        walk_at "S"
        rw [show ([V.ref o.m, V.int ((r0 : Nat) : Int)].set (Int.toNat 1) (V.int (i : Nat))) = [V.ref o.m, V.int (i : Nat)] from rfl]
        have st2 := st1.tr (I2.row eli ec i)
        rw [show cellO si.ms (x.1, i) = .lst [.ref o.m, .int (i : Nat)] from by unfold cellO; rw [mAt_of eo]] at st2
        have I3 := st2.at_
        generalize upd Hb c (.lst [.ref o.m, .int (i : Nat)]) = Hc at *
        refine s_insM I3.ob (lkR_none (m := "do") (by decide +kernel)) ?_
        walk_at "S"
        have el3 : (ai.row i).line = pre ++ [(x.1, i)] := by show setR ai.line i = _; rw [eli, setR_last]
        have G2 := G.tr (gr_row (a := ai) i)
        have cl := cnts_le (b := b) (i := i)
        have g1 := gr 3 b[i] (ai.row i)
        have l1 := ln 3 b[i] (ai.row i)
        have ep : (ai.row i).path x.1 = a.path x.1 := path_pre G2.qs lx
        have step : bodyF (rowF wayR (oneF wayR W.fnd n) 3) 0 b a = _ := ea.trans (body_drop _ er)
        refine ⟨W, ps, h, si, ai.row i, u2, b[i], pre, (x.1, i), rfl, ⟨B.ok, I3, Nat.lt_of_le_of_lt G2.rem B.rem, ?_, by rw [el3]; have := B.line; rw [el] at this; simpa using this⟩, el3, Dp.tups (st2.keep I).tup _ _ (flat_dat 3 _) du, by rw [ep]; exact rz _ mr, sg _ mr, ?_, fun c2 eq H4 s4 st4 => ?_, fun c2 f eq H4 s4 d st4 fa => ?_⟩
        · have := G2.lot
          omega
        · have := G2.lot
          have e1 := cnts_take er
          have e2 := cnts_le (b := b) (i := i + 1)
          omega
        · walk_at "S"
          rw [eq] at step g1 l1
          refine ⟨s4, c2, _, _, i, rfl, st2.tr st4, step, l1.trans el3, ?_⟩
          rw [cnts_take er]
          exact (G2.tr g1).mono (by omega)
        · rw [eq] at step
          exact q.2 c2 f step _ _ _ (st2.tr st4) fa
      · obtain ⟨si, ai, o2, o3, r0, rfl, st, ea, eli, G⟩ := Ii
        rw [List.drop_of_length_le (by omega)] at ea
        walk_at "S"
        exact q.1 _ ea _ _ st
end

theorem lot_papped {ps : List Str} {a : Ab} {e : PyData} {k : Nat} : lot ps ((a.papped e).pushed k) = lot ps a + 1 := by
  show wt ((a.papped e).pushed k) + 260 * rem ps a = wt a + 260 * rem ps a + 1
  unfold wt
  show a.log.length + (a.pap ++ [e]).length + a.qs.length + many a.nm + a.brk.length + a.fat.length + a.tab.length + _ = _
  rw [List.length_append, List.length_singleton]
  omega
section
variable {P : Program} {w : World} {K : PySem.W.Frag} {mg : Str → Option Value} {base : Heap} {C_MadeError C_Fault C_Failed C_Module C_Late C_Runs : Addr} {n : Nat}
theorem ok_Runs_run_body {f : Addr} {fd : FuncData} (F : Fun K "run_body" "Runs.run_body" s_Runs_run_body f fd) (T : Txt K mg C_MadeError C_Fault C_Failed C_Module C_Late C_Runs)
    (D_Runs_do_body : L3.DmY P w K mg base (7 * n + 13) C_Runs "do_body" ["self", "body"] (spDoBody K ⟨C_Runs, C_Module, C_Late⟩ C_Fault 3 wayR n)) :
    FnOk P w K mg base (L3.CX P w) (7 * n + 14) f fd ["self", "module", "body"] (spRunBody K ⟨C_Runs, C_Module, C_Late⟩ C_Fault 3 wayR n) := by
  refine L3.okY F sc_Runs_run_body (fun vs H Q E h => ?_) (fun cdv A outer s H vs Q E hr h => ?_)
  · obtain ⟨W, ps, h, s, a, k, o, v, b, rfl, _⟩ := h
    rfl
  · obtain ⟨f_Runs_do_body, fd_Runs_do_body, G_Runs_do_body, mt_Runs_do_body, b_Runs_do_body⟩ := D_Runs_do_body
    obtain ⟨W, ps, h, s, a, k, o, v, b, rfl, B, ek, dv, rz, sg, cb, ll, lt, q⟩ := h
    have hu := hu_of hr
    have I := B.at_
    have lk : k < a.qs.length := by have := (List.getElem?_eq_some_iff.mp ek).1; rw [I.ok.ml] at this; exact this
    refine ⟨_, (pss_cons (ps_set (i := 3) sc_Runs_run_body.nd rfl (Or.inl rfl) pe_non)
      (pss_cons (ps_set (i := 4) sc_Runs_run_body.nd rfl (Or.inl rfl) pe_non)
      (pss_cut2 (ps_if (pt_cmpR (neNilK (K := K) rfl hr.units) (kFld (K := K) rfl (pe_fld (pv 0) rfl)) (pe_lst pa_nil) (nomark _)) (pss_cons (ps_set (i := 3) sc_Runs_run_body.nd rfl (Or.inl rfl) (kFld (K := K) rfl (pe_fld (pe_ix (ixLK (K := K) rfl) (pe_ix (ixLK (K := K) rfl) (kFld (K := K) rfl (pe_fld (pv 0) rfl)) (pe_un un_neg pe_int) (fun _ _ => rfl)) pe_int (fun _ _ => rfl)) rfl)))
      (pss_one (ps_set (i := 4) sc_Runs_run_body.nd rfl (Or.inl rfl) (pe_ix (ixLK (K := K) rfl) (pe_ix (ixLK (K := K) rfl) (kFld (K := K) rfl (pe_fld (pv 0) rfl)) (pe_un un_neg pe_int) (fun _ _ => rfl)) pe_int (fun _ _ => rfl))))) pss_nil)
      (pss_cons (ps_expr (kBM (K := K) rfl (pe_bm PySem.F.plainAttrs_list PySem.F.slot_list_append PySem.F.type_list_append mt_append (kFld (K := K) rfl (pe_fld (pv 0) rfl)) (pa_cons (pe_tup (pa_cons (kFld (K := K) rfl (pe_fld (pv 1) rfl)) (pa_cons (pv 3) (pa_cons (pv 4) pa_nil)))) pa_nil))))
      (pss_cons (ps_expr (kBM (K := K) rfl (pe_bm PySem.F.plainAttrs_list PySem.F.slot_list_append PySem.F.type_list_append mt_append (kFld (K := K) rfl (pe_fld (pv 0) rfl)) (pa_cons (pe_lst (pa_cons (pv 1) (pa_cons pe_int pa_nil))) pa_nil))))
      (pss_cons (L3.ps_try_asR (i := 5) rfl rfl rfl sc_Runs_run_body.nd rfl rfl ⟨by rfl, by decide, .inl T.mg_Fault⟩ (fun hd => L2H.passesAt_of rfl hd) (L3.takes_of rfl rfl rfl rfl) (fun W pn xe tk po => (pss_one (ps_expr (L3.pe_methY (pv 0) T.cl_Runs mt_Runs_do_body G_Runs_do_body (hr.mono (by first | decide | omega)) b_Runs_do_body (fun σ => L3.passAt tk σ) (pa_cons (pv 2) pa_nil))))) (fun xa xT cls d oe pn xe hp hz hf hot tk tb => (pss_cons (ps_expr (kBM0 (K := K) rfl (pe_bm0 PySem.F.plainAttrs_list PySem.F.slot_list_pop PySem.F.type_list_pop mt_pop (kFld (K := K) rfl (pe_fld (pv 0) rfl)))))
      (pss_cons (ps_expr (kBM (K := K) rfl (pe_bm PySem.F.plainAttrs_list PySem.F.slot_list_append PySem.F.type_list_append mt_append (kFld (K := K) rfl (pe_fld (pv 0) rfl)) (pa_cons (pe_tup (pa_cons pe_str (pa_cons (kFld (K := K) rfl (pe_fld (pv 1) rfl)) (pa_cons (L3.pe_xfR T.xf_Fault T.no_Fault_fault hp hz hf (pv 5)) pa_nil)))) pa_nil))))
      (pss_one (L3.ps_reraise hot tb))))))
      (pss_cons (ps_expr (kBM0 (K := K) rfl (pe_bm0 PySem.F.plainAttrs_list PySem.F.slot_list_pop PySem.F.type_list_pop mt_pop (kFld (K := K) rfl (pe_fld (pv 0) rfl)))))
      (pss_one (ps_expr (kBM (K := K) rfl (pe_bm PySem.F.plainAttrs_list PySem.F.slot_list_append PySem.F.type_list_append mt_append (kFld (K := K) rfl (pe_fld (pv 0) rfl)) (pa_cons (pe_tup (pa_cons pe_str (pa_cons (kFld (K := K) rfl (pe_fld (pv 1) rfl)) pa_nil))) pa_nil)))))))))))), ?_⟩
    refine st_start (σ' := [some (.ref h.self), some (.ref o.m), some v, none, none, none]) rfl ?_
    walk_at "S"
    refine s_cut (fun σ H1 => ∃ bv av : V, σ = [some (.ref h.self), some (.ref o.m), some v, some bv, some av, none] ∧ Kp [] H H1 ∧ papE k a.line = .tuple [numD k, (match a.line.getLast? with | none => .none | some x => numD x.1), (match a.line.getLast? with | none => .none | some x => .int (x.2 : Nat))] ∧
        (∀ H', Dp K H' bv (match a.line.getLast? with | none => .none | some x => numD x.1)) ∧ ∀ H', Dp K H' av (match a.line.getLast? with | none => .none | some x => .int (x.2 : Nat))) (fun J hJ => ?_) ?_
    · walk_at "S"
      refine s_ins I.ob T.cl_Runs T.n_Runs_line lkR_ln ?_
      walk_at "S"
      refine ⟨small_le (by simp), fun e he => ?_⟩
      have k1 : Kp [] H (upd H e (.lst [])) := kp_new he
      have I1 := I.same k1
      refine s_nil0 (sq_l I1.ln) (sq_l upd_same) ?_
      walk_at "S"
      rcases List.eq_nil_or_concat a.line with e0 | ⟨pre, x, e0⟩
      · have ec : s.cells = [] := List.eq_nil_of_length_eq_zero (by rw [I.ok.cl, e0]; rfl)
        rw [ec]
        refine s_bool (fun h => nomatch h) (fun _ => ?_)
        walk_at "S"
        exact hJ _ _ ⟨_, _, rfl, k1, by rw [e0]; rfl, by rw [e0]; exact fun _ => .non, by rw [e0]; exact fun _ => .non⟩
      · rw [List.concat_eq_append] at e0
        obtain ⟨cp, c, ol, ec, el1, eol, eh⟩ := I1.last e0
        obtain ⟨⟨dx, eml⟩, _⟩ := I1.rl.mod _ ol eol
        refine s_bool (fun _ => ?_) (fun h => by rw [ec, List.map_append] at h; simp at h)
        walk_at "S"
        refine s_ins I1.ob T.cl_Runs T.n_Runs_line lkR_ln ?_
        walk_at "S"
        refine s_ixL (sq_l I1.ln) el1 ?_
        walk_at "S"
        refine s_ins eml T.cl_Module T.n_Module_number (lk_num _ _ _) ?_
        walk_at "S"
        refine s_ins I1.ob T.cl_Runs T.n_Runs_line lkR_ln ?_
        walk_at "S"
        refine s_ixL (sq_l I1.ln) el1 ?_
        walk_at "S"
        exact hJ _ _ ⟨_, _, rfl, k1, by unfold papE; rw [e0, List.getLast?_concat], by rw [e0, List.getLast?_concat]; exact fun _ => .int _, by rw [e0, List.getLast?_concat]; exact fun _ => .int _⟩
    · rintro σ H1 ⟨bv, av, rfl, k1, ep, db, da⟩
      have st1 := Stp.same I k1
      have I1 := st1.at_
      obtain ⟨⟨dx, em⟩, _⟩ := I1.rl.mod _ o ek
      have ewt := I1.wt
      walk_at "S"
      refine s_ins I1.ob T.cl_Runs T.n_Runs_waits lkR_wt ?_
      walk_at "S"
      refine s_ins em T.cl_Module T.n_Module_number (lk_num _ _ _) ?_
      walk_at "S"
      refine ⟨small_le (by simp), fun t ht => ?_⟩
      have k2 : Kp [] H1 (upd H1 t (.tup [.int ((k + 1 : Nat) : Int), bv, av])) := kp_new ht
      have st2 := st1.tr (Stp.same I1 k2)
      have dt : Dp K (upd H1 t (.tup [.int ((k + 1 : Nat) : Int), bv, av])) (.ref t) (papE k a.line) := by
        rw [ep]
        exact .tup (sq_t upd_same) (.cons (.int _) (.cons (db _) (.cons (da _) .nil)))
      have ft : flatD (papE k a.line) = true := by unfold papE; split <;> rfl
      generalize upd H1 t (.tup [.int ((k + 1 : Nat) : Int), bv, av]) = H2 at *
      have I2 := st2.at_
      have ewt2 := I2.wt
      have lw := I2.rl.wt.len
      have lwt : wt a ≤ 800000 := by unfold lot at lt; omega
      unfold wt at lwt
      walk_at "S"
      refine s_append ewt2 (PH.small_lt (by omega)) ?_
      have st3 := st2.tr (I2.wait dt ft)
      generalize upd H2 h.wt (.lst (s.wvs ++ [.ref t])) = H3 at *
      have I3 := st3.at_
      have eln := I3.ln
      walk_at "S"
      refine s_ins I3.ob T.cl_Runs T.n_Runs_line lkR_ln ?_
      walk_at "S"
      refine ⟨small_le (by simp), fun c nc => ?_⟩
      have eo3 : ({ s with wvs := s.wvs ++ [.ref t] } : Hs).ms[k]? = some o := ek
      rw [show (HO.lst [V.ref o.m, V.int 0]) = cellO s.ms (k, 0) from by unfold cellO; rw [mAt_of ek]; rfl]
      have st4 := st3.tr (I3.push nc lk)
      have ln2 : upd H3 c (cellO s.ms (k, 0)) h.ln = some (.lst (s.cells.map V.ref)) := (upd_ne (ne_of_none eln nc)).trans eln
      walk_at "S"
      refine s_append ln2 (PH.small_lt (by rw [List.length_map, I.ok.cl]; omega)) ?_
      rw [show s.cells.map V.ref ++ [V.ref c] = (s.cells ++ [c]).map V.ref from by rw [List.map_append]; rfl]
      generalize upd (upd H3 c (cellO s.ms (k, 0))) h.ln (.lst ((s.cells ++ [c]).map V.ref)) = H4 at *
      have I4 := st4.at_
      walk_at "S"
      refine s_insM I4.ob (lkR_none (m := "do_body") (by decide +kernel)) ?_
      walk_at "S"
      have el4 : ((a.papped (papE k a.line)).pushed k).line = a.line ++ [(k, 0)] := rfl
      have lnb := line_body (f := rowF wayR (oneF wayR W.fnd n) 3) (good_rowF (w := wayR) B.ok.way line_good (line_one B.ok.way (fnd := W.fnd) n) 3) b 0 ((a.papped (papE k a.line)).pushed k) a.line (k, 0) el4
      have gb := gr_body (ps := ps) (f := rowF wayR (oneF wayR W.fnd n) 3) (gr_rowF (w := wayR) B.ok.way (gr_one B.ok.way B.ok.bod n) 3) b 0 ((a.papped (papE k a.line)).pushed k)
      have l4 : lot ps ((a.papped (papE k a.line)).pushed k) = lot ps a + 1 := lot_papped
      have cb' : (b.map (cntR 3)).sum ≤ 40 := cb
      refine ⟨W, ps, h, _, _, v, b, a.line, (k, 0), rfl, ⟨B.ok, I4, B.rem, by omega, by rw [el4, List.length_append]; show _ + 1 + n ≤ 1000; omega⟩, el4, Dp.tups (st4.keep I).tup _ _ (flat_rowsD b) dv, rz, sg, cb, by rw [l4]; show _ + 6 * (b.map (cntR 3)).sum ≤ _; omega, fun c2 eq H5 s5 st5 => ?_, fun c2 f eq H5 s5 d st5 fa => ?_⟩
      · rw [eq] at lnb gb
        have st6 := st4.tr st5
        have I5 := st5.at_
        obtain ⟨r5, e5⟩ := lnb
        obtain ⟨cp, cl, ol, ec, el1, eol, eh⟩ := I5.last e5
        have eln5 := I5.ln
        walk_at "S"
        refine s_ins I5.ob T.cl_Runs T.n_Runs_line lkR_ln ?_
        walk_at "S"
        refine s_pop eln5 (y := .ref cl) (by rw [ec, List.map_append, List.length_append]; simp) ?_
        rw [show (s5.cells.map V.ref).dropLast = cp.map V.ref from by rw [ec, List.map_append]; exact List.dropLast_concat]
        have st7 := st6.tr (I5.pop e5 ec)
        have I7 := st7.at_
        generalize upd H5 h.ln (.lst (cp.map V.ref)) = H7 at *
        obtain ⟨o7, ek7, q1, _⟩ := st7.ext k o ek
        obtain ⟨⟨dx7, em7⟩, _⟩ := I7.rl.mod k o7 ek7
        rw [q1] at em7
        have ent := I7.nt
        have g5 := gb.lot
        walk_at "S"
        refine s_ins I7.ob T.cl_Runs T.n_Runs_notes lkR_nt ?_
        walk_at "S"
        refine s_ins em7 T.cl_Module T.n_Module_number (lk_num _ _ _) ?_
        walk_at "S"
        refine ⟨small_le (by simp), fun t8 ht8 => ?_⟩
        have st8 := st7.tr (Stp.new1 I7 (o := .tup [.str "end", .int ((k + 1 : Nat) : Int)]) ht8)
        have dt8 : Dp K (upd H7 t8 (.tup [.str "end", .int ((k + 1 : Nat) : Int)])) (.ref t8) (endE k) := .tup (sq_t upd_same) (.cons (.str _) (.cons (.int _) .nil))
        generalize upd H7 t8 (.tup [.str "end", .int ((k + 1 : Nat) : Int)]) = H8 at *
        have I8 := st8.at_
        have ent8 := I8.nt
        have ln8 := I8.rl.nt.len
        have lw8 : c2.log.length ≤ 800000 := by
          have : lot ps c2 ≤ 800000 := by dsimp only at g5; omega
          unfold lot wt at this; omega
        walk_at "S"
        refine s_append ent8 (PH.small_lt (by show s5.nvs.length ≤ 1000000; have : s5.nvs.length = c2.log.length := ln8; omega)) ?_
        refine q.1 (c2.fin k) ?_ _ _ (st8.tr (I8.note dt8 rfl))
        unfold runBF
        rw [eq]
      · rw [eq] at lnb gb
        refine L3.w_as T.te_Fault fun xa nxa => ?_
        obtain ⟨fv, ed, df, ff⟩ := fa
        have st6 := st4.tr st5
        have I5 := st5.at_
        obtain ⟨r5, e5⟩ := lnb
        obtain ⟨cp, cl, ol, ec, el1, eol, eh⟩ := I5.last e5
        have eln5 := I5.ln
        walk_at "S"
        refine s_ins I5.ob T.cl_Runs T.n_Runs_line lkR_ln ?_
        walk_at "S"
        refine s_pop eln5 (y := .ref cl) (by rw [ec, List.map_append, List.length_append]; simp) ?_
        rw [show (s5.cells.map V.ref).dropLast = cp.map V.ref from by rw [ec, List.map_append]; exact List.dropLast_concat]
        have st5' := I5.pop e5 ec
        have st7 := st6.tr st5'
        have I7 := st7.at_
        have ned : d ≠ h.ln := fun z => by rw [z, I5.ln] at ed; cases ed
        have ed7 : upd H5 h.ln (.lst (cp.map V.ref)) d = some (.xd [("fault", fv)]) := (upd_ne ned).trans ed
        have df7 := Dp.tups (st5'.keep I5).tup _ _ ff df
        generalize upd H5 h.ln (.lst (cp.map V.ref)) = H7 at *
        obtain ⟨o7, ek7, q1, _⟩ := st7.ext k o ek
        obtain ⟨⟨dx7, em7⟩, _⟩ := I7.rl.mod k o7 ek7
        rw [q1] at em7
        have ent := I7.nt
        have g5 := gb.lot
        walk_at "S"
        refine s_ins I7.ob T.cl_Runs T.n_Runs_notes lkR_nt ?_
        walk_at "S"
        refine s_ins em7 T.cl_Module T.n_Module_number (lk_num _ _ _) ?_
        walk_at "S"
        refine s_xf ?_
        walk_at "S"
        refine ⟨rfl, rfl, d, _, fv, rfl, ed7, look_hit, ?_⟩
        walk_at "S"
        refine ⟨small_le (by simp), fun t8 ht8 => ?_⟩
        have k8 : Kp [] H7 (upd H7 t8 (.tup [.str "fail", .int ((k + 1 : Nat) : Int), fv])) := kp_new ht8
        have st8 := st7.tr (Stp.same I7 k8)
        have df8 := Dp.same k8 _ _ df7
        have ed8 := k8.get trivial ed7
        have dt8 : Dp K (upd H7 t8 (.tup [.str "fail", .int ((k + 1 : Nat) : Int), fv])) (.ref t8) (failE k f) := .tup (sq_t upd_same) (.cons (.str _) (.cons (.int _) (.cons df8 .nil)))
        have ft8 : flatD (failE k f) = true := by show (true && (true && (flatD f && true))) = true; rw [ff]; rfl
        generalize upd H7 t8 (.tup [.str "fail", .int ((k + 1 : Nat) : Int), fv]) = H8 at *
        have I8 := st8.at_
        have ent8 := I8.nt
        have ln8 := I8.rl.nt.len
        have lw8 : c2.log.length ≤ 800000 := by
          have : lot ps c2 ≤ 800000 := by dsimp only at g5; omega
          unfold lot wt at this; omega
        walk_at "S"
        refine s_append ent8 (PH.small_lt (by show s5.nvs.length ≤ 1000000; have : s5.nvs.length = c2.log.length := ln8; omega)) ?_
        walk_at "S"
        have st9 := I8.note dt8 ft8
        have ned9 : d ≠ h.nt := fun z => by rw [z, I8.nt] at ed8; cases ed8
        refine q.2 (c2.popped.put (failE k f)) f ?_ _ _ d (st8.tr st9) ⟨fv, (upd_ne ned9).trans ed8, Dp.tups (st9.keep I8).tup _ _ ff df8, ff⟩
        unfold runBF
        rw [eq]
end

theorem kt_runBF {ps : List Str} {w : Way} {fnd : Str → Option (List PH.Row)} (W : WayOk ps w) (n k : Nat) (b : List PH.Row) (a : Ab) : Kt a (runBF w (oneF w fnd n) k b a).1 := by
  have e := good_body (f := rowF w (oneF w fnd n) 3) kt_good kt_row (good_rowF W kt_good (kt_one W n) 3) b 0 ((a.papped (papE k a.line)).pushed k)
  unfold runBF
  rcases h : bodyF (rowF w (oneF w fnd n) 3) 0 b ((a.papped (papE k a.line)).pushed k) with ⟨c, m | m⟩ <;> rw [h] at e <;> exact ⟨e.tab, e.brk, e.fat, e.qs⟩
theorem lot_runBF {ps : List Str} {w : Way} {fnd : Str → Option (List PH.Row)} (W : WayOk ps w) (B : Bodies ps fnd) (n k : Nat) (b : List PH.Row) (a : Ab) (cb : cntsR 3 b ≤ 40) : lot ps (runBF w (oneF w fnd n) k b a).1 ≤ lot ps a + 242 := by
  have g := gr_body (gr_rowF (w := w) (on := oneF w fnd n) W (gr_one W B n) 3) b 0 ((a.papped (papE k a.line)).pushed k)
  have l4 : lot ps ((a.papped (papE k a.line)).pushed k) = lot ps a + 1 := lot_papped
  have cb' : (b.map (cntR 3)).sum ≤ 40 := cb
  have := g.lot
  unfold runBF
  rcases h : bodyF (rowF w (oneF w fnd n) 3) 0 b ((a.papped (papE k a.line)).pushed k) with ⟨c, m | m⟩
  · rw [h] at this
    dsimp only at this ⊢
    have g2 := (gr_put (ps := ps) (a := c) (failE k m)).lot
    have e : lot ps (c.popped.put (failE k m)) = lot ps (c.put (failE k m)) := rfl
    rw [e]
    omega
  · rw [h] at this
    dsimp only at this ⊢
    have g2 := (gr_fin (ps := ps) (a := c) k).lot
    omega
section
variable {P : Program} {w : World} {K : PySem.W.Frag} {mg : Str → Option Value} {base : Heap} {C_MadeError C_Fault C_Failed C_Module C_Late C_Runs : Addr} {n : Nat}
theorem ok_Runs_begin {f : Addr} {fd : FuncData} (F : Fun K "begin" "Runs.begin" s_Runs_begin f fd) (T : Txt K mg C_MadeError C_Fault C_Failed C_Module C_Late C_Runs)
    (D_Module_init : DkF P w K mg base 1 C_Module ["self", "number", "path"] (spMInit C_Module)) (D_Runs_run_body : L3.DmY P w K mg base (7 * n + 14) C_Runs "run_body" ["self", "module", "body"] (spRunBody K ⟨C_Runs, C_Module, C_Late⟩ C_Fault 3 wayR n)) (D_Runs_came_whole : DmF P w K mg base 3 C_Runs "came_whole" ["self", "module"] (spWhole K ⟨C_Runs, C_Module, C_Late⟩ wayR)) :
    FnOk P w K mg base (L3.CX P w) (7 * n + 15) f fd ["self", "path", "body"] (spBegin K ⟨C_Runs, C_Module, C_Late⟩ C_Fault 3 wayR n) := by
  refine L3.okY F sc_Runs_begin (fun vs H Q E h => ?_) (fun cdv A outer s H vs Q E hr h => ?_)
  · obtain ⟨W, ps, h, s, a, p, v, b, rfl, _⟩ := h
    rfl
  · obtain ⟨f_Module_init, fd_Module_init, G_Module_init, M_Module, b_Module_init⟩ := D_Module_init; obtain ⟨f_Runs_run_body, fd_Runs_run_body, G_Runs_run_body, mt_Runs_run_body, b_Runs_run_body⟩ := D_Runs_run_body; obtain ⟨f_Runs_came_whole, fd_Runs_came_whole, G_Runs_came_whole, mt_Runs_came_whole, b_Runs_came_whole⟩ := D_Runs_came_whole
    obtain ⟨W, ps, h, s, a, p, v, b, rfl, B, ef, nt, nb, dv, q⟩ := h
    have hu := hu_of hr
    have I := B.at_
    have ml := I.ok.ml
    obtain ⟨lb, rb⟩ := gr_begin (B.ok.bod.mem p b ef) nt nb
    have cb := B.ok.bod.cnt p b ef
    have lt := B.lot
    have lwt : wt a ≤ 800000 := by unfold lot at lt; omega
    unfold wt at lwt
    refine ⟨_, (pss_cons (ps_set (i := 3) sc_Runs_begin.nd rfl (Or.inl rfl) (pe_make M_Module G_Module_init (hr.mono (by first | decide | omega)) (by rfl) T.mg_Module b_Module_init .nil pass0 (pa_cons (pe_op op_add (pe_callB (lenK (K := K) rfl) (by rfl) T.n_len (by decide +kernel) (pa_cons (kFld (K := K) rfl (pe_fld (pv 0) rfl)) pa_nil)) pe_int) (pa_cons (pv 1) pa_nil))))
      (pss_cons (ps_expr (kBM (K := K) rfl (pe_bm PySem.F.plainAttrs_list PySem.F.slot_list_append PySem.F.type_list_append mt_append (kFld (K := K) rfl (pe_fld (pv 0) rfl)) (pa_cons (pv 3) pa_nil))))
      (pss_cons (ps_dput hu (kFld (K := K) rfl (pe_fld (pv 0) rfl)) (pv 1) (pv 3) rfl)
      (pss_cons (ps_expr (kBM (K := K) rfl (pe_bm PySem.F.plainAttrs_list PySem.F.slot_list_append PySem.F.type_list_append mt_append (kFld (K := K) rfl (pe_fld (pv 0) rfl)) (pa_cons (pe_tup (pa_cons pe_str (pa_cons (kFld (K := K) rfl (pe_fld (pv 3) rfl)) (pa_cons (pv 1) pa_nil)))) pa_nil))))
      (pss_cons (L3.ps_try_asR (i := 4) rfl rfl rfl sc_Runs_begin.nd rfl rfl ⟨by rfl, by decide, .inl T.mg_Fault⟩ (fun hd => L2H.passesAt_of rfl hd) (L3.takes_of rfl rfl rfl rfl) (fun W pn xe tk po => (pss_one (ps_expr (L3.pe_methY (pv 0) T.cl_Runs mt_Runs_run_body G_Runs_run_body (hr.mono (by first | decide | omega)) b_Runs_run_body (fun σ => L3.passAt tk σ) (pa_cons (pv 3) (pa_cons (pv 2) pa_nil)))))) (fun xa xT cls d oe pn xe hp hz hf hot tk tb => (pss_cons (ps_expr (pe_dpop1 (kFld (K := K) rfl (pe_fld (pv 0) rfl)) (pv 1) ⟨by rfl, by rfl, by rfl, by rfl⟩))
      (pss_cons (ps_dput hu (kFld (K := K) rfl (pe_fld (pv 0) rfl)) (pv 1) (pe_tup (pa_cons (kFld (K := K) rfl (pe_fld (pv 3) rfl)) (pa_cons (L3.pe_xfR T.xf_Fault T.no_Fault_fault hp hz hf (pv 4)) pa_nil))) rfl)
      (pss_cons (ps_dput hu (kFld (K := K) rfl (pe_fld (pv 0) rfl)) (kFld (K := K) rfl (pe_fld (pv 3) rfl)) pe_str rfl)
      (pss_one (L3.ps_reraise hot tb)))))))
      (pss_cons (ps_expr (pe_meth (pv 0) T.cl_Runs mt_Runs_came_whole G_Runs_came_whole (hr.mono (by first | decide | omega)) b_Runs_came_whole .nil pass0 (pa_cons (pv 3) pa_nil)))
      (pss_one (ps_ret (pv 3))))))))), ?_⟩
    refine st_start (σ' := [some (.ref h.self), some (.str p), some v, none, none]) rfl ?_
    have emd := I.md
    walk_at "S"
    refine s_ins I.ob T.cl_Runs T.n_Runs_made lkR_md ?_
    walk_at "S"
    intro m dx hm hdx ne
    refine ⟨m, dx, _, p, rfl, upd_same, fun H1 d k1 hd0 M => ⟨rfl, ?_⟩⟩
    have k01 : Kp [] H H1 := ((Kp.refl.upd_new hdx).upd_loc hm).step k1 fun x hx => .inr (by rw [List.mem_singleton.mp hx]; exact hm)
    have hd : H d = none := ((Kp.refl (W := []) |>.upd_new hdx).upd_loc hm).free trivial hd0
    rw [List.length_map, ml, show ((a.qs.length : Int) + 1) = ((a.qs.length + 1 : Nat) : Int) from rfl] at M
    have I1 := I.same k01
    have emd1 := I1.md
    walk_at "S"
    refine s_ins I1.ob T.cl_Runs T.n_Runs_made lkR_md ?_
    walk_at "S"
    refine s_append emd1 (PH.small_lt (by rw [List.length_map]; omega)) ?_
    have nself : h.self ≠ h.md := fun z => by have e1 := I1.ob; rw [z, emd1] at e1; cases e1
    have nst : h.st ≠ h.md := fun z => by have e1 := I1.st; rw [z, emd1] at e1; cases e1
    have eob : upd H1 h.md (.lst (s.ms.map (fun (o : Mo) => V.ref o.m) ++ [.ref m])) h.self = some (.ins C_Runs h.dx (runF h s)) := (upd_ne nself).trans I1.ob
    have est : upd H1 h.md (.lst (s.ms.map (fun (o : Mo) => V.ref o.m) ++ [.ref m])) h.st = some (.dK (tabV s.ms a.tab)) := (upd_ne nst).trans I1.st
    walk_at "S"
    refine s_ins eob T.cl_Runs T.n_Runs_standing lkR_st ?_
    walk_at "S"
    refine s_putS est (PH.small_lt (by rw [List.length_map]; omega)) ?_
    have np : valV (tabV s.ms a.tab) (.inr p) = none := by
      rcases I.tabGet p with ⟨_, z⟩ | ⟨k, o, z, _⟩
      · exact z
      · rw [nt] at z; cases z
    rw [L2.putK_new _ np]
    have st2 := I.opened k01 hd M nt
    have I2 := st2.at_
    generalize upd (upd H1 h.md (.lst (s.ms.map (fun (o : Mo) => V.ref o.m) ++ [.ref m]))) h.st (.dK (tabV s.ms a.tab ++ [((Sum.inr p : Key), .ref m)])) = H2 at *
    have ek : (s.ms ++ [(⟨m, d, []⟩ : Mo)])[a.qs.length]? = some ⟨m, d, []⟩ := by rw [← ml, List.getElem?_append_right (Nat.le_refl _), Nat.sub_self]; rfl
    obtain ⟨⟨ox, em⟩, _⟩ := I2.rl.mod _ _ ek
    have en := I2.nt
    walk_at "S"
    refine s_ins I2.ob T.cl_Runs T.n_Runs_notes lkR_nt ?_
    walk_at "S"
    refine s_ins em T.cl_Module T.n_Module_number (lk_num _ _ _) ?_
    walk_at "S"
    refine ⟨small_le (by simp), fun t3 ht3 => ?_⟩
    have st3 := st2.tr (Stp.new1 I2 (o := .tup [.str "begin", .int ((a.qs.length + 1 : Nat) : Int), .str p]) ht3)
    have dt3 : Dp K (upd H2 t3 (.tup [.str "begin", .int ((a.qs.length + 1 : Nat) : Int), .str p])) (.ref t3) (beginE a.qs.length p) := .tup (sq_t upd_same) (.cons (.str _) (.cons (.int _) (.cons (.str _) .nil)))
    generalize upd H2 t3 (.tup [.str "begin", .int ((a.qs.length + 1 : Nat) : Int), .str p]) = H3 at *
    have I3 := st3.at_
    have en3 := I3.nt
    have ln3 := I3.rl.nt.len
    have ln3 : s.nvs.length = a.log.length := ln3
    walk_at "S"
    refine s_append en3 (PH.small_lt (by show s.nvs.length ≤ _; omega)) ?_
    have st4 := st3.tr (I3.note dt3 rfl)
    have I4 := st4.at_
    generalize upd H3 h.nt (.lst (_ ++ [.ref t3])) = H4 at *
    have dv4 := Dp.tups (st4.keep I).tup _ _ (flat_rowsD b) dv
    have pth : ((a.opened p).put (beginE a.qs.length p)).path a.qs.length = p := getD_last _ _ _
    have KT := kt_runBF (fnd := W.fnd) B.ok.way n a.qs.length b ((a.opened p).put (beginE a.qs.length p))
    have LT := lot_runBF B.ok.way B.ok.bod n a.qs.length b ((a.opened p).put (beginE a.qs.length p)) cb
    have l4 : lot ps (a.begin p) = lot ps ((a.opened p).put (beginE a.qs.length p)) + 1 := (congrArg (lot ps) (Ab.begin_eq a p)).trans lot_papped
    have r4 : rem ps (a.begin p) = rem ps ((a.opened p).put (beginE a.qs.length p)) := rfl
    have tab0 : getA ((a.opened p).put (beginE a.qs.length p)).tab p = some a.qs.length := begin_tab nt
    rw [begin_by] at q
    walk_at "S"
    refine s_insM I4.ob (lkR_none (m := "run_body") (by decide +kernel)) ?_
    walk_at "S"
    refine ⟨W, ps, h, _, _, a.qs.length, ⟨m, d, []⟩, v, b, rfl, ⟨B.ok, I4, ?_, ?_, ?_⟩, ek, dv4, by rw [pth]; exact B.ok.row p b ef, B.ok.stg p b ef, cb, ?_, ?_, fun c eq H5 s5 st5 => ?_, fun c f eq H5 s5 d5 st5 fa => ?_⟩
    · have := B.rem; omega
    · omega
    · have := B.line; show a.line.length + n ≤ 1000; omega
    · have := B.line; show a.line.length + n ≤ 999; omega
    · omega
    · rw [eq] at q KT LT
      have st6 := st4.tr st5
      have I6 := st6.at_
      obtain ⟨o6, ek6, q1, _⟩ := st5.ext _ _ ek
      walk_at "S"
      refine s_insM I6.ob (lkR_none (m := "came_whole") (by decide +kernel)) ?_
      walk_at "S"
      refine ⟨W, h, s5, c, a.qs.length, o6, by rw [q1]; rfl, I6, ek6, ?_, fun H7 s7 st7 => ?_⟩
      · dsimp only at LT
        have : lot [] c = wt c := by unfold lot; rfl
        have : wt c ≤ lot ps c := by unfold lot; omega
        omega
      · walk_at "S"
        obtain ⟨o7, ek7, q2, _⟩ := st7.ext _ _ ek6
        have Q := q.1 _ a.qs.length rfl H7 s7 (st6.tr st7) (by rw [← st7.at_.ok.ml]; exact (List.getElem?_eq_some_iff.mp ek7).1)
        rw [mAt_of ek7, q2, q1] at Q
        exact Q
    · rw [eq] at q KT LT
      refine L3.w_as T.te_Fault fun xa nxa => ?_
      obtain ⟨fv, ed, df, ff⟩ := fa
      have st6 := st4.tr st5
      have I6 := st6.at_
      have est6 := I6.st
      have tab6 := KT.tab _ _ tab0
      have brk6 := KT.brk _ _ tab0 nb
      have fat6 := KT.fat a.qs.length (by show _ < (a.qs ++ [p]).length; rw [List.length_append]; exact Nat.lt_succ_self _) (fun z => Nat.lt_irrefl _ (I.ok.fl _ z))
      have qs6 : a.qs.length < c.qs.length := by
        have := KT.qs
        have : (a.qs ++ [p]).length ≤ c.qs.length := this
        rw [List.length_append, List.length_singleton] at this; exact this
      dsimp only at tab6 brk6 fat6 LT
      have lw6 : wt c ≤ 801000 := by unfold lot at LT lt lb l4; omega
      unfold wt at lw6
      have nst5 : d5 ≠ h.st := fun z => by rw [z, I6.st] at ed; cases ed
      walk_at "S"
      refine s_ins I6.ob T.cl_Runs T.n_Runs_standing lkR_st ?_
      walk_at "S"
      rcases I6.tabGet p with ⟨z, _⟩ | ⟨k6, o6, g6, ek6, _, gv6⟩
      · rw [tab6] at z; cases z
      · refine ⟨.inl ⟨_, .inl I6.st⟩, ?_⟩
        walk_at "S"
        refine ⟨_, .inr p, _, I6.st, rfl, gv6, ?_⟩
        have sx := I6.untab p
        have st7 := st6.tr sx
        have ed7 : upd H5 h.st (.dK (dropK (tabV s5.ms c.tab) (.inr p))) d5 = some (.xd [("fault", fv)]) := (upd_ne nst5).trans ed
        have df7 := Dp.tups (sx.keep I6).tup _ _ ff df
        generalize upd H5 h.st (.dK (dropK (tabV s5.ms c.tab) (.inr p))) = H7 at *
        have I7 := st7.at_
        obtain ⟨o7, ek7, q1, _⟩ := st5.ext _ _ ek
        obtain ⟨⟨dx7, em7⟩, _⟩ := I7.rl.mod _ o7 ek7
        rw [q1] at em7
        walk_at "S"
        refine s_ins em7 T.cl_Module T.n_Module_number (lk_num _ _ _) ?_
        walk_at "S"
        refine s_xf ?_
        walk_at "S"
        refine ⟨rfl, rfl, d5, _, fv, rfl, ed7, look_hit, ?_⟩
        walk_at "S"
        refine ⟨small_le (by simp), fun t8 ht8 => ?_⟩
        have k8 : Kp [] H7 (upd H7 t8 (.tup [.int ((a.qs.length + 1 : Nat) : Int), fv])) := kp_new ht8
        have st8 := st7.tr (Stp.same I7 k8)
        have df8 := Dp.same k8 _ _ df7
        have ed8 := k8.get trivial ed7
        have dt8 : Dp K (upd H7 t8 (.tup [.int ((a.qs.length + 1 : Nat) : Int), fv])) (.ref t8) (.tuple [numD a.qs.length, f]) := .tup (sq_t upd_same) (.cons (.int _) (.cons df8 .nil))
        generalize upd H7 t8 (.tup [.int ((a.qs.length + 1 : Nat) : Int), fv]) = H8 at *
        have I8 := st8.at_
        have ebr := I8.br
        have lbr := I8.rl.br.len
        have lbr : s5.bvs.length = c.brk.length := lbr
        walk_at "S"
        refine s_ins I8.ob T.cl_Runs T.n_Runs_broken lkR_br ?_
        walk_at "S"
        refine s_putS ebr (PH.small_lt (by omega)) ?_
        have sy := I8.brok dt8 ff brk6
        have st9 := st8.tr sy
        have nbr5 : d5 ≠ s5.br := fun z => by rw [z, ebr] at ed8; cases ed8
        have ed9 : upd H8 s5.br (.dK (putK s5.bvs (.inr p) (.ref t8))) d5 = some (.xd [("fault", fv)]) := (upd_ne nbr5).trans ed8
        have df9 := Dp.tups (sy.keep I8).tup _ _ ff df8
        generalize upd H8 s5.br (.dK (putK s5.bvs (.inr p) (.ref t8))) = H9 at *
        have I9 := st9.at_
        obtain ⟨⟨dx9, em9⟩, _⟩ := I9.rl.mod _ o7 ek7
        rw [q1] at em9
        have eft := I9.ft
        walk_at "S"
        refine s_ins I9.ob T.cl_Runs T.n_Runs_fates lkR_ft ?_
        walk_at "S"
        refine s_ins em9 T.cl_Module T.n_Module_number (lk_num _ _ _) ?_
        refine ⟨h.ft, _, rfl, DPut.k (k := Sum.inl ((a.qs.length + 1 : Nat) : Int)) eft (PH.small_lt (by rw [List.length_map]; show c.fat.length ≤ _; omega)), ?_⟩
        have sz := I9.fated a.qs.length fat6 qs6
        have st10 := st9.tr sz
        have nft5 : d5 ≠ h.ft := fun z => by rw [z, eft] at ed9; cases ed9
        walk_at "S"
        exact q.2 _ f rfl _ _ d5 st10 ⟨fv, (upd_ne nft5).trans ed9, Dp.tups (sz.keep I9).tup _ _ ff df9, ff⟩
end

section
variable {P : Program} {w : World} {K : PySem.W.Frag} {mg : Str → Option Value} {base : Heap} {C_MadeError C_Fault C_Failed C_Module C_Late C_Runs : Addr} {n : Nat}
theorem ok_Runs_taken_one {f : Addr} {fd : FuncData} (F : Fun K "taken_one" "Runs.taken_one" s_Runs_taken_one f fd) (T : Txt K mg C_MadeError C_Fault C_Failed C_Module C_Late C_Runs)
    (D_Runs_came_up : L3.DmY P w K mg base 4 C_Runs "came_up" ["self", "fault"] (spUp K ⟨C_Runs, C_Module, C_Late⟩ C_Fault)) (D_Runs_found : DmF P w K mg base 1 C_Runs "found" ["self", "path"] (spFound K ⟨C_Runs, C_Module, C_Late⟩)) (D_Runs_begin : L3.DmY P w K mg base (7 * n + 15) C_Runs "begin" ["self", "path", "body"] (spBegin K ⟨C_Runs, C_Module, C_Late⟩ C_Fault 3 wayR n)) :
    FnOk P w K mg base (L3.CX P w) (7 * n + 16) f fd ["self", "path"] (spOne K ⟨C_Runs, C_Module, C_Late⟩ C_Fault 3 wayR (n + 1)) := by
  refine L3.okY F sc_Runs_taken_one (fun vs H Q E h => ?_) (fun cdv A outer s H vs Q E hr h => ?_)
  · obtain ⟨W, ps, h, s, a, p, rfl, _⟩ := h
    rfl
  · obtain ⟨f_Runs_came_up, fd_Runs_came_up, G_Runs_came_up, mt_Runs_came_up, b_Runs_came_up⟩ := D_Runs_came_up; obtain ⟨f_Runs_found, fd_Runs_found, G_Runs_found, mt_Runs_found, b_Runs_found⟩ := D_Runs_found; obtain ⟨f_Runs_begin, fd_Runs_begin, G_Runs_begin, mt_Runs_begin, b_Runs_begin⟩ := D_Runs_begin
    obtain ⟨W, ps, h, s, a, p, rfl, B, q⟩ := h
    have hu := hu_of hr
    have I := B.at_
    have lt := B.lot
    have lwt : wt a ≤ 800000 := by unfold lot at lt; omega
    unfold wt at lwt
    have lnt := I.rl.nt.len
    refine ⟨_, (pss_cons (ps_if (pt_cmp (pc_din hu (pv 1) (kFld (K := K) rfl (pe_fld (pv 0) rfl)))) (pss_cons (ps_set (i := 2) sc_Runs_taken_one.nd rfl (Or.inl rfl) (pe_dget hu (kFld (K := K) rfl (pe_fld (pv 0) rfl)) (pv 1) (fun _ _ => rfl)))
      (pss_cons (ps_expr (kBM (K := K) rfl (pe_bm PySem.F.plainAttrs_list PySem.F.slot_list_append PySem.F.type_list_append mt_append (kFld (K := K) rfl (pe_fld (pv 0) rfl)) (pa_cons (pe_tup (pa_cons pe_str (pa_cons (kFld (K := K) rfl (pe_fld (pv 2) rfl)) pa_nil))) pa_nil))))
      (pss_one (ps_ret (pv 2))))) pss_nil)
      (pss_cut2 (ps_if (pt_cmp (pc_din hu (pv 1) (kFld (K := K) rfl (pe_fld (pv 0) rfl)))) (pss_cons (ps_asg (pe_dget hu (kFld (K := K) rfl (pe_fld (pv 0) rfl)) (pv 1) (fun _ _ => rfl)) (kgT (K := K) rfl (pg_tup rfl (pgs_cons (pg_name (i := 3) sc_Runs_taken_one.nd rfl (Or.inl rfl)) (pgs_cons (pg_name (i := 4) sc_Runs_taken_one.nd rfl (Or.inl rfl)) pgs_nil)))))
      (pss_cons (ps_expr (kBM (K := K) rfl (pe_bm PySem.F.plainAttrs_list PySem.F.slot_list_append PySem.F.type_list_append mt_append (kFld (K := K) rfl (pe_fld (pv 0) rfl)) (pa_cons (pe_tup (pa_cons pe_str (pa_cons (pv 3) pa_nil))) pa_nil))))
      (pss_one (ps_expr (L3.pe_methY (pv 0) T.cl_Runs mt_Runs_came_up G_Runs_came_up (hr.mono (by first | decide | omega)) b_Runs_came_up (fun σ => L3.passAt (L3.takes_of rfl rfl rfl rfl) σ) (pa_cons (pv 4) pa_nil)))))) pss_nil)
      (pss_cons (ps_set (i := 5) sc_Runs_taken_one.nd rfl (Or.inl rfl) (pe_meth (pv 0) T.cl_Runs mt_Runs_found G_Runs_found (hr.mono (by first | decide | omega)) b_Runs_found .nil pass0 (pa_cons (pv 1) pa_nil)))
      (pss_cut2 (ps_if (pt_cmpR op_isN (pv 5) pe_non (nomark _)) (pss_one (ps_expr (L3.pe_methY (pv 0) T.cl_Runs mt_Runs_came_up G_Runs_came_up (hr.mono (by first | decide | omega)) b_Runs_came_up (fun σ => L3.passAt (L3.takes_of rfl rfl rfl rfl) σ) (pa_cons (pe_tup (pa_cons pe_str (pa_cons (pv 1) pa_nil))) pa_nil)))) pss_nil)
      (pss_one (ps_ret (L3.pe_methY (pv 0) T.cl_Runs mt_Runs_begin G_Runs_begin (hr.mono (by first | decide | omega)) b_Runs_begin (fun σ => L3.passAt (L3.takes_of rfl rfl rfl rfl) σ) (pa_cons (pv 1) (pa_cons (pv 5) pa_nil))))))))), ?_⟩
    refine st_start (σ' := [some (.ref h.self), some (.str p), none, none, none, none]) rfl ?_
    have est := I.st
    walk_at "S"
    refine s_ins I.ob T.cl_Runs T.n_Runs_standing lkR_st ?_
    walk_at "S"
    refine s_inS est ?_
    walk_at "S"
    rcases I.tabGet p with ⟨z, gz⟩ | ⟨k, o, g, ek, _, gv⟩
    · rw [gz]
      refine s_bool (fun h => nomatch h) (fun _ => ?_)
      walk_at "S"
      refine s_cut (fun σ H1 => σ = [some (.ref h.self), some (.str p), none, none, none, none] ∧ H1 = H ∧ getA a.brk p = none) (fun J hJ => ?_) ?_
      · have ebr := I.br
        walk_at "S"
        refine s_ins I.ob T.cl_Runs T.n_Runs_broken lkR_br ?_
        walk_at "S"
        refine s_inS ebr ?_
        walk_at "S"
        rcases I.rl.br.get p with ⟨y, gy⟩ | ⟨⟨tk, tf⟩, v, y, gy, dy, fy⟩
        · rw [gy]
          refine s_bool (fun h => nomatch h) (fun _ => ?_)
          walk_at "S"
          exact hJ _ _ ⟨rfl, rfl, y⟩
        · rw [gy]
          refine s_bool (fun _ => ?_) (fun h => nomatch h)
          have eq : oneF wayR W.fnd (n + 1) a p = ((a.put (againE tk)).up, .error tf) := by unfold oneF; rw [z, y]
          rw [eq] at q
          cases dy with
          | tup hs ha =>
            obtain _ | ⟨h0, _ | ⟨h1, h2⟩⟩ := ha
            cases h2
            cases h0
            walk_at "S"
            refine s_ins I.ob T.cl_Runs T.n_Runs_broken lkR_br ?_
            walk_at "S"
            refine s_getS ebr gy ?_
            walk_at "S"
            have ent := I.nt
            refine s_ins I.ob T.cl_Runs T.n_Runs_notes lkR_nt ?_
            walk_at "S"
            refine ⟨small_le (by simp), fun t ht => ?_⟩
            have st1 := Stp.new1 I (o := .tup [.str "again", .int ((tk + 1 : Nat) : Int)]) ht
            have dt : Dp K (upd H t (.tup [.str "again", .int ((tk + 1 : Nat) : Int)])) (.ref t) (againE tk) := .tup (sq_t upd_same) (.cons (.str _) (.cons (.int _) .nil))
            have dv1 := Dp.same (kp_new (o := .tup [.str "again", .int ((tk + 1 : Nat) : Int)]) ht) _ _ h1
            generalize upd H t (.tup [.str "again", .int ((tk + 1 : Nat) : Int)]) = H1 at *
            have I1 := st1.at_
            have en1 := I1.nt
            walk_at "S"
            refine s_append en1 (PH.small_lt (by omega)) ?_
            have sn := I1.note dt rfl
            have st2 := st1.tr sn
            have dv2 := Dp.tups (sn.keep I1).tup _ _ fy dv1
            generalize upd H1 h.nt (.lst (_ ++ [.ref t])) = H2 at *
            have I2 := st2.at_
            walk_at "S"
            refine s_insM I2.ob (lkR_none (m := "came_up") (by decide +kernel)) ?_
            walk_at "S"
            exact ⟨W, h, _, _, _, tf, rfl, I2, by have := B.line; show a.line.length ≤ 1000; omega, dv2, fy, fun H3 s3 d st3 fa => q.2 _ tf rfl H3 s3 d (st2.tr st3) fa⟩
      · rintro σ H1 ⟨rfl, rfl, y⟩
        walk_at "S"
        refine s_insM I.ob (lkR_none (m := "found") (by decide +kernel)) ?_
        walk_at "S"
        refine ⟨W, h, s, a, p, rfl, I, fun fn => ?_, fun b u fb du => ?_⟩
        · have eq : oneF wayR W.fnd (n + 1) a p = (a.up, .error (noModF p)) := by unfold oneF; rw [z, y, fn]
          rw [eq] at q
          walk_at "S"
          refine s_cut (fun _ _ => False) (fun J hJ => ?_) (fun _ _ h => h.elim)
          walk_at "S"
          refine s_dec (fun _ => ?_) (fun h => absurd rfl h)
          walk_at "S"
          refine s_insM I.ob (lkR_none (m := "came_up") (by decide +kernel)) ?_
          walk_at "S"
          refine ⟨small_le (by simp), fun t ht => ?_⟩
          have st1 := Stp.new1 I (o := .tup [.str "NOMODULE", .str p]) ht
          have dt : Dp K (upd H1 t (.tup [.str "NOMODULE", .str p])) (.ref t) (noModF p) := .tup (sq_t upd_same) (.cons (.str _) (.cons (.str _) .nil))
          walk_at "S"
          exact ⟨W, h, s, a, _, noModF p, rfl, st1.at_, by have := B.line; omega, dt, rfl, fun H3 s3 d st3 fa => q.2 _ _ rfl H3 s3 d (st1.tr st3) fa⟩
        · have eq : oneF wayR W.fnd (n + 1) a p = beginF wayR (oneF wayR W.fnd n) a p b := by
            conv => lhs; unfold oneF
            rw [z, y, fb]
          rw [eq] at q
          walk_at "S"
          refine s_cut (fun σ H2 => σ = [some (.ref h.self), some (.str p), none, none, none, some (.ref u)] ∧ H2 = H1) (fun J hJ => ?_) ?_
          · walk_at "S"
            refine s_dec (fun h => nomatch h) (fun _ => ?_)
            walk_at "S"
            exact hJ _ _ ⟨rfl, rfl⟩
          · rintro σ H2 ⟨rfl, rfl⟩
            walk_at "S"
            refine s_insM I.ob (lkR_none (m := "begin") (by decide +kernel)) ?_
            walk_at "S"
            exact ⟨W, ps, h, s, a, p, _, b, rfl, B, fb, z, y, du, q⟩
    · rw [gv]
      refine s_bool (fun _ => ?_) (fun h => nomatch h)
      have eq : oneF wayR W.fnd (n + 1) a p = (a.put (haveE k), .ok k) := by unfold oneF; rw [g]
      rw [eq] at q
      walk_at "S"
      refine s_ins I.ob T.cl_Runs T.n_Runs_standing lkR_st ?_
      walk_at "S"
      refine s_getS est gv ?_
      walk_at "S"
      obtain ⟨⟨ox, em⟩, _⟩ := I.rl.mod _ _ ek
      have en := I.nt
      walk_at "S"
      refine s_ins I.ob T.cl_Runs T.n_Runs_notes lkR_nt ?_
      walk_at "S"
      refine s_ins em T.cl_Module T.n_Module_number (lk_num _ _ _) ?_
      walk_at "S"
      refine ⟨small_le (by simp), fun t ht => ?_⟩
      have st1 := Stp.new1 I (o := .tup [.str "have", .int ((k + 1 : Nat) : Int)]) ht
      have dt : Dp K (upd H t (.tup [.str "have", .int ((k + 1 : Nat) : Int)])) (.ref t) (haveE k) := .tup (sq_t upd_same) (.cons (.str _) (.cons (.int _) .nil))
      generalize upd H t (.tup [.str "have", .int ((k + 1 : Nat) : Int)]) = H1 at *
      have I1 := st1.at_
      have en1 := I1.nt
      walk_at "S"
      refine s_append en1 (PH.small_lt (by omega)) ?_
      have st2 := st1.tr (I1.note dt rfl)
      walk_at "S"
      have Q := q.1 _ k rfl _ _ st2 (by rw [← st2.at_.ok.ml]; exact (List.getElem?_eq_some_iff.mp ek).1)
      have e : mAt ({ s with nvs := s.nvs ++ [V.ref t] } : Hs).ms k = o.m := mAt_of ek
      rw [e] at Q
      exact Q
end

section
variable {P : Program} {w : World} {K : PySem.W.Frag} {mg : Str → Option Value} {base : Heap} {C_MadeError C_Fault C_Failed C_Module C_Late C_Runs : Addr} {n : Nat}
theorem ok_Runs_taken {f : Addr} {fd : FuncData} (F : Fun K "taken" "Runs.taken" s_Runs_taken f fd) (T : Txt K mg C_MadeError C_Fault C_Failed C_Module C_Late C_Runs)
    (D_Runs_taken_one : L3.DmY P w K mg base (7 * n + 9) C_Runs "taken_one" ["self", "path"] (spOne K ⟨C_Runs, C_Module, C_Late⟩ C_Fault 3 wayR n)) :
    FnOk P w K mg base (L3.CX P w) (7 * n + 10) f fd ["self", "path"] (spTaken K ⟨C_Runs, C_Module, C_Late⟩ C_Fault 3 wayR n) := by
  refine L3.okY F sc_Runs_taken (fun vs H Q E h => ?_) (fun cdv A outer s H vs Q E hr h => ?_)
  · obtain ⟨W, ps, h, s, a, p, rfl, _⟩ := h
    rfl
  · obtain ⟨f_Runs_taken_one, fd_Runs_taken_one, G_Runs_taken_one, mt_Runs_taken_one, b_Runs_taken_one⟩ := D_Runs_taken_one
    obtain ⟨W, ps, h, s, a, p, rfl, B, lt4, q⟩ := h
    refine ⟨_, (pss_one (ps_ret (L3.pe_methY (pv 0) T.cl_Runs mt_Runs_taken_one G_Runs_taken_one (hr.mono (by first | decide | omega)) b_Runs_taken_one (fun σ => L3.passAt (L3.takes_of rfl rfl rfl rfl) σ) (pa_cons (pv 1) pa_nil)))), ?_⟩
    refine st_start (σ' := [some (.ref h.self), some (.str p)]) rfl ?_
    walk_at "S"
    refine s_insM B.at_.ob (lkR_none (m := "taken_one") (by decide +kernel)) ?_
    walk_at "S"
    exact ⟨W, ps, h, s, a, p, rfl, B, q⟩
/-- a method's name, its text, its place -/
structure Has (K : PySem.W.Frag) (C : Addr) (m q : Str) (st : Stmt) (ps : List Str) (f : Addr) (fd : FuncData) : Prop where
  fn : Fun K m q st f fd
  mt : Meth K C m f
  bi : Binds K fd ps []
theorem Has.y {C : Addr} {m q : Str} {st : Stmt} {ps : List Str} {f : Addr} {fd : FuncData} (h : Has K C m q st ps f fd) {k : Nat} {sp : Sp} (o : FnOk P w K mg base (L3.CX P w) k f fd ps sp) : L3.DmY P w K mg base k C m ps sp := ⟨f, fd, o, h.mt, h.bi⟩
/-- taken_one, whatever is not begun yet -/
theorem one_all {f1 f2 f3 f4 f5 f6 f7 : Addr} {d1 d2 d3 d4 d5 d6 d7 : FuncData} (T : Txt K mg C_MadeError C_Fault C_Failed C_Module C_Late C_Runs)
    (h1 : Has K C_Runs "taken_one" "Runs.taken_one" s_Runs_taken_one ["self", "path"] f1 d1) (h2 : Has K C_Runs "taken" "Runs.taken" s_Runs_taken ["self", "path"] f2 d2)
    (h3 : Has K C_Runs "do_looking" "Runs.do_looking" s_Runs_do_looking ["self", "row"] f3 d3) (h4 : Has K C_Runs "do" "Runs.do" s_Runs_do ["self", "row"] f4 d4)
    (h5 : Has K C_Runs "do_body" "Runs.do_body" s_Runs_do_body ["self", "body"] f5 d5) (h6 : Has K C_Runs "run_body" "Runs.run_body" s_Runs_run_body ["self", "module", "body"] f6 d6) (h7 : Has K C_Runs "begin" "Runs.begin" s_Runs_begin ["self", "path", "body"] f7 d7)
    (D_init : DkF P w K mg base 1 C_Module ["self", "number", "path"] (spMInit C_Module)) (D_bind : DmF P w K mg base 1 C_Module "bind" ["self", "name", "thing"] (spBind C_Module))
    (D_note : DmF P w K mg base 2 C_Runs "do_note" ["self", "path"] (spNote K ⟨C_Runs, C_Module, C_Late⟩)) (D_whole : DmF P w K mg base 3 C_Runs "came_whole" ["self", "module"] (spWhole K ⟨C_Runs, C_Module, C_Late⟩ wayR))
    (D_up : L3.DmY P w K mg base 4 C_Runs "came_up" ["self", "fault"] (spUp K ⟨C_Runs, C_Module, C_Late⟩ C_Fault)) (D_found : DmF P w K mg base 1 C_Runs "found" ["self", "path"] (spFound K ⟨C_Runs, C_Module, C_Late⟩)) :
    ∀ n : Nat, L3.DmY P w K mg base (7 * n + 9) C_Runs "taken_one" ["self", "path"] (spOne K ⟨C_Runs, C_Module, C_Late⟩ C_Fault 3 wayR n)
  | 0 => h1.y ⟨fun _ _ _ _ z => by obtain ⟨_, _, _, _, _, _, rfl, _⟩ := z; rfl, fun _ _ _ _ _ _ _ _ _ _ _ _ _ z => by obtain ⟨_, _, _, _, _, _, _, B, _⟩ := z; exact absurd B.rem (Nat.not_lt_zero _)⟩
  | n + 1 => by
    have E0 := one_all T h1 h2 h3 h4 h5 h6 h7 D_init D_bind D_note D_whole D_up D_found n
    have E1 := h2.y (ok_Runs_taken h2.fn T E0)
    have E2 := h3.y (ok_Runs_do_looking (P := P) (w := w) (base := base) (n := n) h3.fn T)
    have E3 := h4.y (ok_Runs_do h4.fn T D_bind E1 D_note E2)
    have E4 := h5.y (ok_Runs_do_body h5.fn T E3)
    have E5 := h6.y (ok_Runs_run_body h6.fn T E4)
    have E6 := h7.y (ok_Runs_begin h7.fn T D_init E5 D_whole)
    exact h1.y (ok_Runs_taken_one h1.fn T D_up D_found E6)
end

def spWantPath (K : PySem.W.Frag) : Sp := fun vs H Q _ => ∃ z : Str, vs = [.str z] ∧ PthOk z ∧ ∀ H', Kp [] H H' → Q .non H'
def spLog (K : PySem.W.Frag) (C : Cl) : Sp := fun vs H Q _ => ∃ (W : Wd) (h : HA) (s : Hs) (a : Ab), vs = [.ref h.self] ∧ HouseAt K C W H h s a ∧ ∀ l, H l = none → Q (.ref l) (upd H l (.lst s.nvs))
def spPaper (K : PySem.W.Frag) (C : Cl) : Sp := fun vs H Q _ => ∃ (W : Wd) (h : HA) (s : Hs) (a : Ab), vs = [.ref h.self] ∧ HouseAt K C W H h s a ∧ ∀ l, H l = none → Q (.ref l) (upd H l (.lst s.wvs))
def spTable (K : PySem.W.Frag) (C : Cl) : Sp := fun vs H Q _ => ∃ (W : Wd) (h : HA) (s : Hs) (a : Ab), vs = [.ref h.self] ∧ HouseAt K C W H h s a ∧ a.tab.length ≤ 100000 ∧
  ∀ H' d, H d = none → Kp [] H H' → H' d = some (.dK (a.tab.map fun x => ((Sum.inr x.1 : Key), V.int ((x.2 + 1 : Nat) : Int)))) → Q (.ref d) H'
theorem Kp.unlock {H H2 : Hp} {d : Addr} {u : HO} (e : H d = some u) (k : Kp [d] H H2) : Kp [] H (upd H2 d u) := fun a o _ h => by
  by_cases c : a = d
  · subst c
    rw [upd_same, ← h, e]
  · exact (upd_ne c).trans (k a o ⟨c, trivial⟩ h)
section
variable {P : Program} {w : World} {K : PySem.W.Frag} {mg : Str → Option Value} {base : Heap} {C_MadeError C_Fault C_Failed C_Module C_Late C_Runs : Addr} {n : Nat}
theorem ok_want_path {f : Addr} {fd : FuncData} (F : Fun K "want_path" "want_path" s_want_path f fd) (T : Txt K mg C_MadeError C_Fault C_Failed C_Module C_Late C_Runs)
    (D_is_path : DnF P w K mg base 2 "is_path" ["thing"] (spIsPath K)) :
    FnOk P w K mg base CX0 3 f fd ["path"] (spWantPath K) := by
  refine F.ok sc_want_path (fun vs H Q E h => ?_) (fun cdv A outer s H vs Q E hr h => ?_)
  · obtain ⟨z, rfl, _⟩ := h
    rfl
  · obtain ⟨f_is_path, fd_is_path, G_is_path, m_is_path, k_is_path, b_is_path⟩ := D_is_path
    obtain ⟨z, rfl, hz, q⟩ := h
    refine ⟨_, (pss_one (ps_if (pt_not (pt_val (pe_call G_is_path (hr.mono (by first | decide | omega)) (by rfl) m_is_path k_is_path b_is_path .nil pass0 (pa_cons (pv 0) pa_nil)))) (pss_one ps_never) pss_nil)), ?_⟩
    refine st_start (σ' := [some (.str z)]) rfl ?_
    walk_at "S"
    refine .inl ⟨z, rfl, by have := hz.len; omega, fun H1 k1 => ?_⟩
    rw [show isPathL (tl z) = true from hz]
    walk_at "S"
    exact q _ k1
theorem ok_Runs_take {f : Addr} {fd : FuncData} (F : Fun K "take" "Runs.take" s_Runs_take f fd) (T : Txt K mg C_MadeError C_Fault C_Failed C_Module C_Late C_Runs)
    (D_want_path : DnF P w K mg base 3 "want_path" ["path"] (spWantPath K)) (Dh_Failed_init : L3.DxT P w K mg base 1 C_Failed ["self", "fault", "road"] (spXInit K C_Failed)) (D_Runs_taken : L3.DmY P w K mg base (7 * n + 10) C_Runs "taken" ["self", "path"] (spTaken K ⟨C_Runs, C_Module, C_Late⟩ C_Fault 3 wayR n)) :
    FnOk P w K mg base (L3.CX P w) (7 * n + 11) f fd ["self", "path"] (spTake K ⟨C_Runs, C_Module, C_Late⟩ 3 wayR C_Failed n) := by
  refine L3.okY F sc_Runs_take (fun vs H Q E h => ?_) (fun cdv A outer s H vs Q E hr h => ?_)
  · obtain ⟨W, ps, h, s, a, p, rfl, _⟩ := h
    rfl
  · obtain ⟨f_want_path, fd_want_path, G_want_path, m_want_path, k_want_path, b_want_path⟩ := D_want_path; obtain ⟨f_Failed_init, fd_Failed_init, G_Failed_init, X_Failed, b_Failed_init⟩ := Dh_Failed_init; obtain ⟨f_Runs_taken, fd_Runs_taken, G_Runs_taken, mt_Runs_taken, b_Runs_taken⟩ := D_Runs_taken
    obtain ⟨W, ps, h, s, a, p, rfl, hp, B, rm, lt, ll, I, q1, q2⟩ := h
    have hu := hu_of hr
    refine ⟨_, (pss_cons (ps_expr (pe_call G_want_path (hr.mono (by first | decide | omega)) (by rfl) m_want_path k_want_path b_want_path .nil pass0 (pa_cons (pv 1) pa_nil)))
      (pss_cons (ps_fld (pv 0) pe_dnewK rfl)
      (pss_cons (L3.ps_try_asR (i := 3) rfl rfl rfl sc_Runs_take.nd rfl rfl ⟨by rfl, by decide, .inl T.mg_Fault⟩ (fun hd => L2H.passesAt_of rfl hd) (L3.takes_of rfl rfl rfl rfl) (fun W pn xe tk po => (pss_one (ps_set (i := 2) sc_Runs_take.nd rfl (Or.inl rfl) (L3.pe_methY (pv 0) T.cl_Runs mt_Runs_taken G_Runs_taken (hr.mono (by first | decide | omega)) b_Runs_taken (fun σ => L3.passAt tk σ) (pa_cons (pv 1) pa_nil))))) (fun xa xT cls d oe pn xe hp hz hf hot tk tb => (pss_one (L3.ps_raiseQN hot.q tk (L3.pmk_hot X_Failed.ox X_Failed.ic X_Failed.ti G_Failed_init (L2H.roomH_mark (hr.mono (by first | decide | omega)) _) hp b_Failed_init pass0 (by rfl) T.mg_Failed (pa_cons (L3.pe_xfR T.xf_Fault T.no_Fault_fault hp hz hf (pv 3)) (pa_cons (pe_callTy (listK (K := K) rfl) (by rfl) T.n_list (by decide +kernel) (pa_cons (kFld (K := K) rfl (pe_fld (pv 0) rfl)) pa_nil)) pa_nil)))))))
      (pss_one (ps_ret (kFld (K := K) rfl (pe_fld (pv 2) rfl))))))), ?_⟩
    refine st_start (σ' := [some (.ref h.self), some (.str p), none, none]) rfl ?_
    walk_at "S"
    refine ⟨p, rfl, hp, fun H1 k1 => ?_⟩
    have I1 := I.same k1
    walk_at "S"
    intro b hb
    walk_at "S"
    refine ⟨h.self, _, _, _, rfl, (upd_ne (ne_of_none I1.ob hb)).trans I1.ob, T.cl_Runs, T.n_Runs_broken, by show 9 < 1000; decide, ?_⟩
    rw [runF_broken]
    have hb0 : H b = none := k1.free trivial hb
    have st2 := I.unbroken (k1.upd_new hb) hb0 upd_same
    generalize upd (upd H1 b (.dK [])) h.self (.ins C_Runs h.dx (runF h { s with br := b })) = H2 at *
    have I2 := st2.at_
    walk_at "S"
    refine s_insM I2.ob (lkR_none (m := "taken") (by decide +kernel)) ?_
    walk_at "S"
    refine ⟨W, ps, h, _, a.unbroken, p, rfl, ⟨B, I2, rm, by omega, ll⟩, by omega, fun b1 m eq H3 s3 st3 lm => ?_, fun b1 f eq H3 s3 d st3 fa => ?_⟩
    · have st4 := st2.tr st3
      obtain ⟨o, eo⟩ := st4.at_.ms lm
      obtain ⟨⟨ox, em⟩, _⟩ := st4.at_.rl.mod _ _ eo
      rw [mAt_of eo]
      walk_at "S"
      refine s_ins em T.cl_Module T.n_Module_number (lk_num _ _ _) ?_
      walk_at "S"
      exact q1 b1 m eq _ _ st4
    · refine L3.w_as T.te_Fault fun xa nxa => ?_
      obtain ⟨fv, ed, df, ff⟩ := fa
      have st4 := st2.tr st3
      have I4 := st4.at_
      have emt := I4.mt
      walk_at "S"
      refine s_xf ?_
      walk_at "S"
      refine ⟨rfl, rfl, d, _, fv, rfl, ed, look_hit, ?_⟩
      walk_at "S"
      refine s_ins I4.ob T.cl_Runs T.n_Runs_met lkR_mt ?_
      walk_at "S"
      refine s_listL (sq_l emt) fun l hl => ?_
      have sx := Stp.new1 I4 (o := .lst s3.mvs) hl
      have st5 := st4.tr sx
      have df5 := Dp.tups (sx.keep I4).tup _ _ ff df
      walk_at "S"
      refine ⟨by show 2 ≤ 1000; decide, failed_made (K := K) upd_same fun H5 d5 pl k5 e5 ep np => ?_⟩
      have st6 := st5.tr (Stp.same st5.at_ k5)
      exact q2 b1 f eq _ _ d5 st6 ⟨fv, pl, s3.mvs, e5, Dp.same k5 _ _ df5, ff, ep, st6.at_.rl.mt⟩
theorem ok_Runs_table {f : Addr} {fd : FuncData} (F : Fun K "table" "Runs.table" s_Runs_table f fd) (T : Txt K mg C_MadeError C_Fault C_Failed C_Module C_Late C_Runs)
     :
    FnOk P w K mg base CX0 1 f fd ["self"] (spTable K ⟨C_Runs, C_Module, C_Late⟩) := by
  refine F.ok sc_Runs_table (fun vs H Q E h => ?_) (fun cdv A outer s H vs Q E hr h => ?_)
  · obtain ⟨W, h, s, a, rfl, _⟩ := h
    rfl
  · skip
    obtain ⟨W, h, s, a, rfl, I, lt, q⟩ := h
    refine ⟨_, (pss_one (ps_ret (pe_callTy (L3.dictPK (K := K) rfl rfl) (by rfl) T.n_dict (by decide +kernel) (pa_cons (pe_lock (pe_lc (own := [("path", 1), ("module", 2)]) (g := gTup K 2 (gCons (gName 1) (gCons (gName 2) gNil))) (tt := tYes) rfl sc_Runs_table.nd (pi_items (kFld (K := K) rfl (pe_fld (pv 0) rfl))) (blkOk_by (own := [("path", 1), ("module", 2)]) (N := N_Runs_table) (sc := (defScope s_Runs_table)) (by decide +kernel)) (fun _ _ _ _ _ => (kgT (K := K) rfl (pg_tup rfl (pgs_cons (pg_name (i := 1) sc_Runs_table.nd rfl (Or.inl rfl)) (pgs_cons (pg_name (i := 2) sc_Runs_table.nd rfl (Or.inl rfl)) pgs_nil))))) (fun _ _ _ _ _ => pts_nil) (fun _ _ _ _ _ => (pe_tup (pa_cons (pv 1) (pa_cons (kFld (K := K) rfl (pe_fld (pv 2) rfl)) pa_nil)))))) pa_nil)))), ?_⟩
    refine st_start (σ' := [some (.ref h.self), none, none]) rfl ?_
    refine s_lockE I.st trivial fun od => ?_
    have nself : h.self ≠ h.st := fun z => by have e1 := I.ob; rw [z, I.st] at e1; cases e1
    have kl : Kp [h.st] H (upd H h.st (.frz od (.dK (tabV s.ms a.tab)))) := Kp.refl.upd_mem List.mem_cons_self
    have eob : upd H h.st (.frz od (.dK (tabV s.ms a.tab))) h.self = some (.ins C_Runs h.dx (runF h s)) := kl.get ⟨nself, trivial⟩ I.ob
    have el : upd H h.st (.frz od (.dK (tabV s.ms a.tab))) h.st = some (.frz od (.dK (tabV s.ms a.tab))) := upd_same
    have emod : ∀ (k : Nat) (o : Mo), s.ms[k]? = some o → ∃ dx, upd H h.st (.frz od (.dK (tabV s.ms a.tab))) o.m = some (.ins C_Module dx (modF ((k + 1 : Nat) : Int) (a.path k) o.d)) := fun k o e => by
      obtain ⟨⟨dx, em⟩, _⟩ := I.rl.mod k o e
      exact ⟨dx, kl.get ⟨(fun z => by rw [z, I.st] at em; cases em), trivial⟩ em⟩
    have est := I.st
    generalize upd H h.st (.frz od (.dK (tabV s.ms a.tab))) = H1 at *
    walk_at "S"
    refine s_iItems ?_
    walk_at "S"
    refine s_ins eob T.cl_Runs T.n_Runs_standing lkR_st ?_
    refine ⟨h.st, od, _, rfl, el, fun D hD => ?_⟩
    refine lc_goH walk_items (W := []) (PL := fun i xs H' => ∃ ps : List Addr, xs = ps.map V.ref ∧ Paired (fun p (kv : Key × V) => SqT K H' p [kV kv.1, kv.2]) ps ((tabN a).take i)) hD ⟨[], rfl, .nil⟩ (fun Hq kq => kq.get trivial el) (fun i x Ha Hb hi Ib y => ?_) fun H2 I2 => ?_
    · obtain ⟨t, kx, vx, rfl, nt, rfl, y1, y2⟩ := y
      obtain ⟨xs, ex, ⟨ps, rfl, pl⟩, lx, k0⟩ := Ib
      rw [List.length_map] at hi
      have ez := List.getElem?_eq_getElem hi
      dsimp only at y1 y2
      rw [List.getElem?_map, ez] at y1 y2
      obtain rfl : V.str (a.tab[i]).1 = kx := Option.some.inj y1
      obtain rfl : V.ref (mAt s.ms (a.tab[i]).2) = vx := Option.some.inj y2
      have q := I.ok.tk _ (List.getElem_mem hi)
      obtain ⟨o, eo⟩ := I.ms (List.getElem?_eq_some_iff.mp q).1
      obtain ⟨dx, em⟩ := emod _ o eo
      have kt : Kp [] Ha (upd Ha t (.tup [.str (a.tab[i]).1, .ref (mAt s.ms (a.tab[i]).2)])) := kp_new nt
      have em2 := kt.get trivial (k0.get trivial em)
      have et : upd Ha t (.tup [.str (a.tab[i]).1, .ref (mAt s.ms (a.tab[i]).2)]) t = some (.tup [.str (a.tab[i]).1, .ref (mAt s.ms (a.tab[i]).2)]) := upd_same
      refine s_gtup (sq_t et) rfl ?_
      rw [mAt_of eo] at *
      generalize upd Ha t (.tup [.str (a.tab[i]).1, .ref o.m]) = Hc at *
      walk_at "S"
      refine ⟨rfl, ?_⟩
      walk_at "S"
      refine s_ins em2 T.cl_Module T.n_Module_number (lk_num _ _ _) ?_
      walk_at "S"
      refine ⟨small_le (by simp), fun p hp => ?_⟩
      have k2 : Kp [] Ha (upd Hc p (.tup [.str (a.tab[i]).1, .int (((a.tab[i]).2 + 1 : Nat) : Int)])) := kt.upd_new hp
      refine LcInvH.put ex lx k0 hD trivial k2 (small_lt (by omega)) ?_
      refine ⟨ps ++ [p], by rw [List.map_append]; rfl, ?_⟩
      rw [take_put (x := ((Sum.inr (a.tab[i]).1 : Key), V.int (((a.tab[i]).2 + 1 : Nat) : Int))) (by rw [List.getElem?_map, ez]; rfl)]
      have nD : D ≠ p := fun z => by rw [← z, kt.get trivial ex] at hp; cases hp
      have e2 : upd Hc p (.tup [.str (a.tab[i]).1, .int (((a.tab[i]).2 + 1 : Nat) : Int)]) D = some (.lst (ps.map V.ref)) := k2.get trivial ex
      have kq : TupK Ha (upd (upd Hc p (.tup [.str (a.tab[i]).1, .int (((a.tab[i]).2 + 1 : Nat) : Int)])) D (.lst (ps.map V.ref ++ [.ref p]))) := TupK.tr (TupK.same k2) (Keep.one e2 (.lst _)).tup
      exact Paired.snoc (Paired.mapP pl fun _ _ h => seqT_tups kq h) (sq_t ((upd_ne nD.symm).trans upd_same))
    · obtain ⟨xs, ex, ⟨ps, rfl, pl⟩, lx, k0⟩ := I2
      have k12 : Kp [] H (upd H2 h.st (.dK (tabV s.ms a.tab))) := Kp.unlock est (kl.tr (Kp.nil_W k0))
      have nDs : D ≠ h.st := fun z => by rw [z, el] at hD; cases hD
      refine ⟨k0.get trivial el, ?_⟩
      rw [List.take_of_length_le (by simp)] at pl
      have e3 : upd H2 h.st (.dK (tabV s.ms a.tab)) D = some (.lst (ps.map V.ref)) := (upd_ne nDs).trans ex
      have kq : TupK H2 (upd H2 h.st (.dK (tabV s.ms a.tab))) := fun b ys r => by
        by_cases c : b = h.st
        · rw [c] at r
          have := k0.get trivial el
          rcases r with r | ⟨o, r⟩ <;> rw [this] at r <;> cases r
        · rcases r with r | ⟨o, r⟩
          · exact .inl ((upd_ne c).trans r)
          · exact .inr ⟨o, (upd_ne c).trans r⟩
      walk_at "S"
      refine ⟨D, ps, tabN a, rfl, sq_l e3, Paired.mapP pl fun _ _ h => seqT_tups kq h, fun p hp => ?_⟩
      rw [mergeK_nd _ _ (by
        rw [List.nil_append, List.map_map, show ((fun x : Key × V => x.1) ∘ fun x : Str × Nat => ((Sum.inr x.1 : Key), V.int ((x.2 + 1 : Nat) : Int))) = Sum.inr ∘ (fun x => x.1) from rfl, ← List.map_map]
        exact List.pairwise_map.mpr (List.Pairwise.imp (fun h e => h (Sum.inr.inj e)) I.ok.tn)), List.nil_append]
      exact q _ p (k12.free trivial hp) (k12.upd_new hp) upd_same
end

def toldD : Th → PyData
  | .num n => .int n
  | .mod k => .tuple [PH.S "module", numD k]
  | .fn k r => .tuple [PH.S "function", numD k, PH.S r]
noncomputable def namesD (a : Ab) (k : Nat) : List (Str × PyData) := (srt ((a.names k).map (·.1))).map fun z => (z, match getA (a.names k) z with | some t => toldD t | none => .none)
def spModOf (K : PySem.W.Frag) (C : Cl) : Sp := fun vs H Q _ => ∃ (W : Wd) (h : HA) (s : Hs) (a : Ab) (k : Nat) (o : Mo), vs = [.ref h.self, .int ((k + 1 : Nat) : Int)] ∧ HouseAt K C W H h s a ∧ s.ms[k]? = some o ∧ Q (.ref o.m) H
def spNamesOf (K : PySem.W.Frag) (C : Cl) : Sp := fun vs H Q _ => ∃ (W : Wd) (h : HA) (s : Hs) (a : Ab) (k : Nat), vs = [.ref h.self, .int ((k + 1 : Nat) : Int)] ∧ HouseAt K C W H h s a ∧ k < a.qs.length ∧ (a.names k).length < 64 ∧
  ∀ H' d kvs, H d = none → Kp [] H H' → H' d = some (.dK kvs) → NmR (fun x v => Dp K H' v x ∧ flatD x = true) (namesD a k) kvs → kvs.length < 64 → Q (.ref d) H'
section
variable {P : Program} {w : World} {K : PySem.W.Frag} {mg : Str → Option Value} {base : Heap} {C_MadeError C_Fault C_Failed C_Module C_Late C_Runs : Addr} {n : Nat}
theorem ok_Module_thing_of {f : Addr} {fd : FuncData} (F : Fun K "thing_of" "Module.thing_of" s_Module_thing_of f fd) (T : Txt K mg C_MadeError C_Fault C_Failed C_Module C_Late C_Runs)
     :
    FnOk P w K mg base CX0 1 f fd ["self", "name"] (spThing C_Module) := by
  refine F.ok sc_Module_thing_of (fun vs H Q E h => ?_) (fun cdv A outer s H vs Q E hr h => ?_)
  · obtain ⟨m, d, n, p, z, kvs, rfl, _⟩ := h
    rfl
  · obtain ⟨m, d, n, p, z, kvs, rfl, ⟨⟨dx, hm⟩, hd⟩, q⟩ := h
    have hu := hu_of hr
    refine ⟨_, (pss_one (ps_ret (pe_dget1 hu (kFld (K := K) rfl (pe_fld (pv 0) rfl)) (pv 1) ⟨by rfl, by rfl, by rfl, by rfl⟩))), ?_⟩
    refine st_start (σ' := [some (.ref m), some (.str z)]) rfl ?_
    walk_at "S"
    refine s_ins hm T.cl_Module T.n_Module_things (lk_things _ _ _) ?_
    refine ⟨d, rfl, .inl ⟨kvs, .inl hd⟩, ?_⟩
    walk_at "S"
    exact ⟨_, DGet.k (k := Sum.inr z) hd, q⟩
theorem ok_told {f : Addr} {fd : FuncData} (F : Fun K "told" "told" s_told f fd) (T : Txt K mg C_MadeError C_Fault C_Failed C_Module C_Late C_Runs)
     :
    FnOk P w K mg base CX0 1 f fd ["thing"] (spTold C_Module C_Late) := by
  refine F.ok sc_told (fun vs H Q E h => ?_) (fun cdv A outer s H vs Q E hr h => ?_)
  · rcases h with ⟨n, rfl, _⟩ | ⟨m, dx, d, n, p, rfl, _⟩ | ⟨x, dx, m, dm, d, r, p, n, rfl, _⟩ <;> rfl
  · rcases h with ⟨i, rfl, q⟩ | ⟨m, dx, d, n, p, rfl, hm, q⟩ | ⟨l, dl, m, dx, d, r, p, n, rfl, hl, hm, q⟩
    · refine ⟨_, (pss_cons (ps_if (pt_val (pe_callB (isiK (K := K) rfl) (by rfl) T.n_isinstance (by decide +kernel) (pa_cons (pv 0) (pa_cons (pe_glob (v := .ref C_Module) rfl T.mg_Module rfl) pa_nil)))) (pss_one (ps_ret (pe_tup (pa_cons pe_str (pa_cons (kFld (K := K) rfl (pe_fld (pv 0) rfl)) pa_nil))))) pss_nil)
      (pss_cons (ps_if (pt_val (pe_callB (isiK (K := K) rfl) (by rfl) T.n_isinstance (by decide +kernel) (pa_cons (pv 0) (pa_cons (pe_glob (v := .ref C_Late) rfl T.mg_Late rfl) pa_nil)))) (pss_one (ps_ret (pe_tup (pa_cons pe_str (pa_cons (kFld (K := K) rfl (pe_fld (kFld (K := K) rfl (pe_fld (pv 0) rfl)) rfl)) (pa_cons (kFld (K := K) rfl (pe_fld (pv 0) rfl)) pa_nil)))))) pss_nil)
      (pss_one (ps_ret (pv 0))))), ?_⟩
      refine st_start (σ' := [some (.int i)]) rfl ?_
      walk_at "S"
      refine isi_own (.base (.int i)) T.kit_int_Module ?_
      walk_at "S"
      refine isi_own (.base (.int i)) T.kit_int_Late ?_
      walk_at "S"
      exact q
    · refine ⟨_, (pss_cons (ps_if (pt_val (pe_callB (isiK (K := K) rfl) (by rfl) T.n_isinstance (by decide +kernel) (pa_cons (pv 0) (pa_cons (pe_glob (v := .ref C_Module) rfl T.mg_Module rfl) pa_nil)))) (pss_one (ps_ret (pe_tup (pa_cons pe_str (pa_cons (kFld (K := K) rfl (pe_fld (pv 0) rfl)) pa_nil))))) pss_nil)
      (pss_cons (ps_if (pt_val (pe_callB (isiK (K := K) rfl) (by rfl) T.n_isinstance (by decide +kernel) (pa_cons (pv 0) (pa_cons (pe_glob (v := .ref C_Late) rfl T.mg_Late rfl) pa_nil)))) (pss_one (ps_ret (pe_tup (pa_cons pe_str (pa_cons (kFld (K := K) rfl (pe_fld (kFld (K := K) rfl (pe_fld (pv 0) rfl)) rfl)) (pa_cons (kFld (K := K) rfl (pe_fld (pv 0) rfl)) pa_nil)))))) pss_nil)
      (pss_one (ps_ret (pv 0))))), ?_⟩
      refine st_start (σ' := [some (.ref m)]) rfl ?_
      walk_at "S"
      refine isi_own (T.is_Module.ty T.cl_Module hm) T.kit_Module_Module ?_
      walk_at "S"
      refine s_ins hm T.cl_Module T.n_Module_number (lk_num _ _ _) ?_
      walk_at "S"
      exact ⟨small_le (by simp), fun t ht => q t ht⟩
    · refine ⟨_, (pss_cons (ps_if (pt_val (pe_callB (isiK (K := K) rfl) (by rfl) T.n_isinstance (by decide +kernel) (pa_cons (pv 0) (pa_cons (pe_glob (v := .ref C_Module) rfl T.mg_Module rfl) pa_nil)))) (pss_one (ps_ret (pe_tup (pa_cons pe_str (pa_cons (kFld (K := K) rfl (pe_fld (pv 0) rfl)) pa_nil))))) pss_nil)
      (pss_cons (ps_if (pt_val (pe_callB (isiK (K := K) rfl) (by rfl) T.n_isinstance (by decide +kernel) (pa_cons (pv 0) (pa_cons (pe_glob (v := .ref C_Late) rfl T.mg_Late rfl) pa_nil)))) (pss_one (ps_ret (pe_tup (pa_cons pe_str (pa_cons (kFld (K := K) rfl (pe_fld (kFld (K := K) rfl (pe_fld (pv 0) rfl)) rfl)) (pa_cons (kFld (K := K) rfl (pe_fld (pv 0) rfl)) pa_nil)))))) pss_nil)
      (pss_one (ps_ret (pv 0))))), ?_⟩
      refine st_start (σ' := [some (.ref l)]) rfl ?_
      walk_at "S"
      refine isi_own (T.is_Late.ty T.cl_Late hl) T.kit_Late_Module ?_
      walk_at "S"
      refine isi_own (T.is_Late.ty T.cl_Late hl) T.kit_Late_Late ?_
      walk_at "S"
      refine s_ins hl T.cl_Late T.n_Late_home (lk_home _ _) ?_
      walk_at "S"
      refine s_ins hm T.cl_Module T.n_Module_number (lk_num _ _ _) ?_
      walk_at "S"
      refine s_ins hl T.cl_Late T.n_Late_road (lk_road _ _) ?_
      walk_at "S"
      exact ⟨small_le (by simp), fun t ht => q t ht⟩
theorem ok_Runs_module_of {f : Addr} {fd : FuncData} (F : Fun K "module_of" "Runs.module_of" s_Runs_module_of f fd) (T : Txt K mg C_MadeError C_Fault C_Failed C_Module C_Late C_Runs)
     :
    FnOk P w K mg base CX0 1 f fd ["self", "number"] (spModOf K ⟨C_Runs, C_Module, C_Late⟩) := by
  refine F.ok sc_Runs_module_of (fun vs H Q E h => ?_) (fun cdv A outer s H vs Q E hr h => ?_)
  · obtain ⟨W, h, s, a, k, o, rfl, _⟩ := h
    rfl
  · obtain ⟨W, h, s, a, k, o, rfl, I, eo, q⟩ := h
    refine ⟨_, (pss_cons (ps_if (PW.pt (pw_or (pt_not (pt_val (pe_callB (isiK (K := K) rfl) (by rfl) T.n_isinstance (by decide +kernel) (pa_cons (pv 1) (pa_cons (pe_bltn (v := .ty "int") (by rfl) T.n_int (by decide +kernel) rfl) pa_nil))))) (pw_or (pt_val (pe_callB (isiK (K := K) rfl) (by rfl) T.n_isinstance (by decide +kernel) (pa_cons (pv 1) (pa_cons (pe_bltn (v := .ty "bool") (by rfl) T.n_bool (by decide +kernel) rfl) pa_nil)))) (pw_or (pt_cmpR op_lt (pv 1) pe_int (nomark _)) (pw_or1 (pt_cmpR op_gt (pv 1) (pe_callB (lenK (K := K) rfl) (by rfl) T.n_len (by decide +kernel) (pa_cons (kFld (K := K) rfl (pe_fld (pv 0) rfl)) pa_nil)) (nomark _))))))) (pss_one ps_never) pss_nil)
      (pss_one (ps_ret (pe_ix (ixLK (K := K) rfl) (kFld (K := K) rfl (pe_fld (pv 0) rfl)) (pe_op op_sub (pv 1) pe_int) (fun _ _ => rfl))))), ?_⟩
    refine st_start (σ' := [some (.ref h.self), some (.int ((k + 1 : Nat) : Int))]) rfl ?_
    have emd := I.md
    have lk := (List.getElem?_eq_some_iff.mp eo).1
    walk_at "S"
    refine isi_ty (.base (.int _)) (b := true) (by decide +kernel) ?_
    walk_at "S"
    refine isi_ty (.base (.int _)) (b := false) (by decide +kernel) ?_
    walk_at "S"
    refine s_bool (fun h => absurd (of_decide_eq_true h) (by omega)) (fun _ => ?_)
    walk_at "S"
    refine s_ins I.ob T.cl_Runs T.n_Runs_made lkR_md ?_
    walk_at "S"
    refine s_bool (fun h => absurd (of_decide_eq_true h) (by rw [List.length_map]; omega)) (fun _ => ?_)
    walk_at "S"
    refine s_ins I.ob T.cl_Runs T.n_Runs_made lkR_md ?_
    walk_at "S"
    rw [show (((k + 1 : Nat) : Int) - 1) = ((k : Nat) : Int) from by omega]
    refine s_ixL (sq_l emd) (atI_nat (j := k) (by rw [List.getElem?_map, eo]; rfl)) ?_
    exact q
theorem ok_Runs_names_of {f : Addr} {fd : FuncData} (F : Fun K "names_of" "Runs.names_of" s_Runs_names_of f fd) (T : Txt K mg C_MadeError C_Fault C_Failed C_Module C_Late C_Runs)
    (D_told : DnF P w K mg base 1 "told" ["thing"] (spTold C_Module C_Late)) (D_Runs_module_of : DmF P w K mg base 1 C_Runs "module_of" ["self", "number"] (spModOf K ⟨C_Runs, C_Module, C_Late⟩)) (D_Module_bound : DmF P w K mg base 1 C_Module "bound" ["self"] (spBound C_Module)) (D_Module_thing_of : DmF P w K mg base 1 C_Module "thing_of" ["self", "name"] (spThing C_Module)) :
    FnOk P w K mg base CX0 2 f fd ["self", "number"] (spNamesOf K ⟨C_Runs, C_Module, C_Late⟩) := by
  refine F.ok sc_Runs_names_of (fun vs H Q E h => ?_) (fun cdv A outer s H vs Q E hr h => ?_)
  · obtain ⟨W, h, s, a, k, rfl, _⟩ := h
    rfl
  · obtain ⟨f_told, fd_told, G_told, m_told, k_told, b_told⟩ := D_told; obtain ⟨f_Runs_module_of, fd_Runs_module_of, G_Runs_module_of, mt_Runs_module_of, b_Runs_module_of⟩ := D_Runs_module_of; obtain ⟨f_Module_bound, fd_Module_bound, G_Module_bound, mt_Module_bound, b_Module_bound⟩ := D_Module_bound; obtain ⟨f_Module_thing_of, fd_Module_thing_of, G_Module_thing_of, mt_Module_thing_of, b_Module_thing_of⟩ := D_Module_thing_of
    obtain ⟨W, h, s, a, k, rfl, I, lk, few, q⟩ := h
    refine ⟨_, (pss_cons (ps_set (i := 2) sc_Runs_names_of.nd rfl (Or.inr rfl) (pe_meth (pv 0) T.cl_Runs mt_Runs_module_of G_Runs_module_of (hr.mono (by first | decide | omega)) b_Runs_module_of .nil pass0 (pa_cons (pv 1) pa_nil)))
      (pss_one (ps_ret (pe_callTy (L3.dictPK (K := K) rfl rfl) (by rfl) T.n_dict (by decide +kernel) (pa_cons (pe_lc (own := [("name", 3)]) (g := gName 3) (tt := tYes) rfl sc_Runs_names_of.nd (kiL (K := K) rfl (pi_list (pe_meth0 (pv 2) T.cl_Module mt_Module_bound G_Module_bound (hr.mono (by first | decide | omega)) b_Module_bound .nil pass0))) (blkOk_by (own := [("name", 3)]) (N := N_Runs_names_of) (sc := (defScope s_Runs_names_of)) (by decide +kernel)) (fun _ _ _ _ _ => (pg_name (i := 3) sc_Runs_names_of.nd rfl (Or.inl rfl))) (fun _ _ _ _ _ => pts_nil) (fun _ _ _ _ _ => (pe_tup (pa_cons (pv 3) (pa_cons (pe_call G_told (hr.mono (by first | decide | omega)) (by rfl) m_told k_told b_told .nil pass0 (pa_cons (pe_meth (pv 2) T.cl_Module mt_Module_thing_of G_Module_thing_of (hr.mono (by first | decide | omega)) b_Module_thing_of .nil pass0 (pa_cons (pv 3) pa_nil)) pa_nil)) pa_nil))))) pa_nil))))), ?_⟩
    refine st_start (σ' := [some (.ref h.self), some (.int ((k + 1 : Nat) : Int)), none, none]) rfl ?_
    obtain ⟨o, eo⟩ := I.ms lk
    have M := I.at_ eo
    obtain ⟨⟨dx, em⟩, nm⟩ := I.rl.mod _ o eo
    walk_at "S"
    refine s_insM I.ob (lkR_none (m := "module_of") (by decide +kernel)) ?_
    walk_at "S"
    refine ⟨W, h, s, a, k, o, rfl, I, eo, ?_⟩
    walk_at "S"
    refine s_insM em (lk_meth (m := "bound") _ _ _ (by decide +kernel)) ?_
    walk_at "S"
    refine ⟨o.m, o.d, _, _, o.kvs, (a.names k).map (·.1), rfl, M, nm.keys, by rw [List.length_map]; exact few, fun ys l yp ysd hl => ?_⟩
    have ey := srt_eq yp ysd
    have k1 : Kp [] H (upd H l (.lst (ys.map V.str))) := kp_new hl
    have el : upd H l (.lst (ys.map V.str)) l = some (.lst (ys.map V.str)) := upd_same
    have em1 := k1.get trivial em
    generalize upd H l (.lst (ys.map V.str)) = H1 at *
    walk_at "S"
    refine ⟨⟨_, sq_l el⟩, fun D hD => ?_⟩
    have yfew : ys.length < 64 := by have := yp.length_eq; rw [List.length_map] at this; omega
    let PL : Nat → List V → Hp → Prop := fun i xs H' => ∃ (ps : List Addr) (kvs : List (Key × V)), xs = ps.map V.ref ∧ Paired (fun p (kv : Key × V) => SqT K H' p [kV kv.1, kv.2]) ps kvs ∧ NmR (fun x v => Dp K H' v x ∧ flatD x = true) ((namesD a k).take i) kvs
    have fl : ∀ t : Th, flatD (toldD t) = true := fun t => by cases t <;> rfl
    refine lc_goH (walk_list (K := K) (a := l) (xs := ys.map V.str)) (W := []) (PL := PL) hD ⟨[], [], rfl, .nil, .nil⟩ (fun Hq kq => sq_l (kq.get trivial el)) (fun i x Ha Hb hi Ib y => ?_) fun H2 I2 => ?_
    · obtain ⟨rfl, hx⟩ := y
      obtain ⟨xs, ex, ⟨ps, kvs, rfl, pl, nl⟩, lx, k0⟩ := Ib
      rw [List.length_map] at hi
      have ez := List.getElem?_eq_getElem hi
      rw [List.getElem?_map, ez] at hx
      obtain rfl : V.str ys[i] = x := Option.some.inj hx
      have k02 := k1.tr k0
      have em2 := k0.get trivial em1
      have M2 : ModAt C_Module Hb o.m ((k + 1 : Nat) : Int) (a.path k) o.d o.kvs := ⟨⟨dx, em2⟩, k02.get trivial M.dc⟩
      have mz : ys[i] ∈ (a.names k).map (·.1) := yp.subset (List.getElem_mem hi)
      obtain ⟨t, v, gt, gv, th⟩ : ∃ t v, getA (a.names k) ys[i] = some t ∧ valV o.kvs (.inr ys[i]) = some v ∧ ThR ⟨C_Runs, C_Module, C_Late⟩ H s.ms t v := by
        rcases nm.get ys[i] with ⟨g, _⟩ | g
        · exact absurd mz (getA_none.mp g)
        · exact g
      have en : (namesD a k)[i]? = some (ys[i], toldD t) := by
        unfold namesD
        rw [← ey, List.getElem?_map, ez]
        show some (ys[i], _) = _
        rw [gt]
      have fin : ∀ (u : V) (Hc : Hp), Kp [] Hb Hc → Dp K Hc u (toldD t) → ∀ p, Hc p = none → ∃ a1, (upd Hc p (.tup [.str ys[i], u])) D = some (.lst a1) ∧ a1.length < sizeLine ∧ LcInvH D PL [] H1 (i + 1) (upd (upd Hc p (.tup [.str ys[i], u])) D (.lst (a1 ++ [.ref p]))) := fun u Hc kc du p hp => by
        have k2 : Kp [] Hb (upd Hc p (.tup [.str ys[i], u])) := kc.upd_new hp
        refine LcInvH.put ex lx k0 hD trivial k2 (small_lt (by omega)) ?_
        have nD : D ≠ p := fun z => by rw [← z, kc.get trivial ex] at hp; cases hp
        have e2 : upd Hc p (.tup [.str ys[i], u]) D = some (.lst (ps.map V.ref)) := k2.get trivial ex
        have kq1 : TupK (upd Hc p (.tup [.str ys[i], u])) (upd (upd Hc p (.tup [.str ys[i], u])) D (.lst (ps.map V.ref ++ [.ref p]))) := (Keep.one e2 (.lst _)).tup
        have kq : TupK Hb (upd (upd Hc p (.tup [.str ys[i], u])) D (.lst (ps.map V.ref ++ [.ref p]))) := TupK.tr (TupK.same k2) kq1
        refine ⟨ps ++ [p], kvs ++ [(Sum.inr ys[i], u)], by rw [List.map_append]; rfl, Paired.snoc (Paired.mapP pl fun _ _ h => seqT_tups kq h) (sq_t ((upd_ne nD.symm).trans upd_same)), ?_⟩
        rw [take_put en]
        exact Paired.snoc (Paired.mapP nl fun x v h => ⟨h.1, Dp.tups kq _ _ h.2.2 h.2.1, h.2.2⟩) ⟨rfl, Dp.tups kq1 _ _ (fl t) (Dp.same (kp_new hp) _ _ du), fl t⟩
      walk_at "S"
      refine ⟨rfl, ?_⟩
      walk_at "S"
      refine s_insM em2 (lk_meth (m := "thing_of") _ _ _ (by decide +kernel)) ?_
      walk_at "S"
      refine ⟨o.m, o.d, _, _, ys[i], o.kvs, rfl, M2, ?_⟩
      rw [gv]
      cases th with
      | num n =>
        refine .inl ⟨n, rfl, ?_⟩
        walk_at "S"
        exact ⟨small_le (by simp), fin _ _ Kp.refl (.int n)⟩
      | @mod k' o' e' =>
        obtain ⟨⟨dx', em'⟩, _⟩ := I.rl.mod _ o' e'
        refine .inr (.inl ⟨o'.m, dx', o'.d, _, _, rfl, k02.get trivial em', fun t ht => ?_⟩)
        walk_at "S"
        exact ⟨small_le (by simp), fin _ _ (kp_new ht) (.tup (sq_t upd_same) (.cons (.str _) (.cons (.int _) .nil)))⟩
      | @fn k' o' r x dx2 e' ex' =>
        obtain ⟨⟨dx', em'⟩, _⟩ := I.rl.mod _ o' e'
        refine .inr (.inr ⟨x, dx2, o'.m, dx', o'.d, r, _, _, rfl, k02.get trivial ex', k02.get trivial em', fun t ht => ?_⟩)
        walk_at "S"
        exact ⟨small_le (by simp), fin _ _ (kp_new ht) (.tup (sq_t upd_same) (.cons (.str _) (.cons (.int _) (.cons (.str _) .nil))))⟩
    · obtain ⟨xs, ex, ⟨ps, kvs, rfl, pl, nl⟩, lx, k0⟩ := I2
      rw [List.take_of_length_le (by unfold namesD; rw [List.length_map, List.length_map, ey]; exact Nat.le_refl _)] at nl
      walk_at "S"
      refine ⟨D, ps, kvs, rfl, sq_l ex, pl, fun p hp => ?_⟩
      have nd : (kvs.map (·.1)).Nodup := by
        rw [nl.keys]
        refine List.pairwise_map.mpr (List.Pairwise.imp (R := fun a b => a ≠ b) (fun h e => h (Sum.inr.inj e)) ?_)
        unfold namesD
        rw [List.map_map, ← ey]
        show (ys.map id).Nodup
        rw [List.map_id]
        exact yp.nodup_iff.mpr (I.ok.kn k)
      rw [mergeK_nd _ _ (by rw [List.nil_append]; exact nd), List.nil_append]
      have k2 : Kp [] H (upd H2 p (.dK kvs)) := (k1.tr k0).upd_new hp
      exact q _ p kvs ((k1.tr k0).free trivial hp) k2 upd_same (nl.mono fun x v h => ⟨Dp.same (kp_new hp) _ _ h.1, h.2⟩) (by rw [nl.len]; unfold namesD; rw [List.length_map, ← ey]; exact yfew)
end

theorem paired_get' {α β : Type} {F : α → β → Prop} : ∀ {xs : List α} {ys : List β} {i : Nat} {y : β}, Paired F xs ys → ys[i]? = some y → ∃ x, xs[i]? = some x ∧ F x y
  | _, _, 0, _, .cons h _, e => ⟨_, rfl, by cases e; exact h⟩
  | _, _, i + 1, _, .cons _ t, e => paired_get' (i := i) t e
theorem tup_dic {H : Hp} {a : Addr} {kvs : List (Key × V)} {o : HO} (e : H a = some (.dK kvs)) : TupK H (upd H a o) := .of (W := [a]) (Kp.refl.upd_mem List.mem_cons_self) fun x hx => by rw [List.mem_singleton.mp hx]; exact notup_dK e
def spWantFinders (K : PySem.W.Frag) : Sp := fun vs H Q _ => ∃ (F : Addr) (shs : List Sf) (ds : List Shelf), vs = [.ref F] ∧ H F = some (.lst (shs.map fun x => V.ref x.a)) ∧ Paired (ShR K H) shs ds ∧ (∀ d ∈ ds, ShelfOk d) ∧ shs.length ≤ 1000 ∧ ∀ H', Kp [] H H' → Q .non H'
section
variable {P : Program} {w : World} {K : PySem.W.Frag} {mg : Str → Option Value} {base : Heap} {C_MadeError C_Fault C_Failed C_Module C_Late C_Runs : Addr} {n : Nat}
theorem ok_want_finders {f : Addr} {fd : FuncData} (F : Fun K "want_finders" "want_finders" s_want_finders f fd) (T : Txt K mg C_MadeError C_Fault C_Failed C_Module C_Late C_Runs)
    (D_is_path : DnF P w K mg base 2 "is_path" ["thing"] (spIsPath K)) (D_is_body : DnF P w K mg base 12 "is_body" ["thing"] (spIsBody K)) :
    FnOk P w K mg base CX0 13 f fd ["finders"] (spWantFinders K) := by
  refine F.ok sc_want_finders (fun vs H Q E h => ?_) (fun cdv A outer s H vs Q E hr h => ?_)
  · obtain ⟨F, shs, ds, rfl, _⟩ := h
    rfl
  · obtain ⟨f_is_path, fd_is_path, G_is_path, m_is_path, k_is_path, b_is_path⟩ := D_is_path; obtain ⟨f_is_body, fd_is_body, G_is_body, m_is_body, k_is_body, b_is_body⟩ := D_is_body
    obtain ⟨F_, shs, ds, rfl, eF, hs, hd, h3, q⟩ := h
    have hs0 : ∀ x ∈ shs, ∃ d ∈ ds, ShR K H x d := fun x hx => by
      obtain ⟨i, ei⟩ := List.mem_iff_getElem?.mp hx
      obtain ⟨d, ed, r⟩ := paired_get hs ei
      exact ⟨d, List.mem_of_getElem? ed, r⟩
    refine ⟨_, (pss_cons (ps_if (PW.pt (pw_or (pt_not (pt_val (pe_callB (isiK (K := K) rfl) (by rfl) T.n_isinstance (by decide +kernel) (pa_cons (pv 0) (pa_cons (pe_bltn (v := .ty "list") (by rfl) T.n_list (by decide +kernel) rfl) pa_nil))))) (pw_or1 (pt_not (pt_val (pe_callB (allK (K := K) rfl rfl) (by rfl) T.n_all (by decide +kernel) (pa_cons (pe_lc (own := [("finder", 1)]) (g := gName 1) (tt := tYes) rfl sc_want_finders.nd (kiL (K := K) rfl (pi_list (pv 0))) (blkOk_by (own := [("finder", 1)]) (N := N_want_finders) (sc := (defScope s_want_finders)) (by decide +kernel)) (fun _ _ _ _ _ => (pg_name (i := 1) sc_want_finders.nd rfl (Or.inl rfl))) (fun _ _ _ _ _ => pts_nil) (fun _ _ _ _ _ => (pe_callB (isiK (K := K) rfl) (by rfl) T.n_isinstance (by decide +kernel) (pa_cons (pv 1) (pa_cons (pe_bltn (v := .ty "dict") (by rfl) T.n_dict (by decide +kernel) rfl) pa_nil))))) pa_nil))))))) (pss_one ps_never) pss_nil)
      (pss_cons (ps_if (pt_not (pt_val (pe_callB (allK (K := K) rfl rfl) (by rfl) T.n_all (by decide +kernel) (pa_cons (pe_lc (own := [("finder", 1)]) (g := gName 1) (tt := tYes) rfl sc_want_finders.nd (kiL (K := K) rfl (pi_list (pv 0))) (blkOk_by (own := [("finder", 1)]) (N := N_want_finders) (sc := (defScope s_want_finders)) (by decide +kernel)) (fun _ _ _ _ _ => (pg_name (i := 1) sc_want_finders.nd rfl (Or.inl rfl))) (fun _ _ _ _ _ => pts_nil) (fun _ _ _ _ _ => (pe_callB (allK (K := K) rfl rfl) (by rfl) T.n_all (by decide +kernel) (pa_cons (pe_lock (pe_lc (own := [("path", 2)]) (g := gName 2) (tt := tYes) rfl sc_want_finders.nd (pi_keys (pv 1)) (blkOk_by (own := [("path", 2)]) (by kernel_rfl)) (fun _ _ _ _ _ => (pg_name (i := 2) sc_want_finders.nd rfl (Or.inl rfl))) (fun _ _ _ _ _ => pts_nil) (fun _ _ _ _ _ => (pe_call G_is_path (hr.mono (by first | decide | omega)) (by rfl) m_is_path k_is_path b_is_path .nil pass0 (pa_cons (pv 2) pa_nil))))) pa_nil)))) pa_nil)))) (pss_one ps_never) pss_nil)
      (pss_one (ps_if (pt_not (pt_val (pe_callB (allK (K := K) rfl rfl) (by rfl) T.n_all (by decide +kernel) (pa_cons (pe_lc (own := [("finder", 1)]) (g := gName 1) (tt := tYes) rfl sc_want_finders.nd (kiL (K := K) rfl (pi_list (pv 0))) (blkOk_by (own := [("finder", 1)]) (N := N_want_finders) (sc := (defScope s_want_finders)) (by decide +kernel)) (fun _ _ _ _ _ => (pg_name (i := 1) sc_want_finders.nd rfl (Or.inl rfl))) (fun _ _ _ _ _ => pts_nil) (fun _ _ _ _ _ => (pe_callB (allK (K := K) rfl rfl) (by rfl) T.n_all (by decide +kernel) (pa_cons (pe_lock (pe_lc (own := [("body", 3)]) (g := gName 3) (tt := tYes) rfl sc_want_finders.nd (pi_values (pv 1)) (blkOk_by (own := [("body", 3)]) (by kernel_rfl)) (fun _ _ _ _ _ => (pg_name (i := 3) sc_want_finders.nd rfl (Or.inl rfl))) (fun _ _ _ _ _ => pts_nil) (fun _ _ _ _ _ => (pe_call G_is_body (hr.mono (by first | decide | omega)) (by rfl) m_is_body k_is_body b_is_body .nil pass0 (pa_cons (pv 3) pa_nil))))) pa_nil)))) pa_nil)))) (pss_one ps_never) pss_nil)))), ?_⟩
    refine st_start (σ' := [some (.ref F_), none, none, none]) rfl ?_
    walk_at "S"
    refine isi_ty (.base (.lst eF)) (b := true) (by decide +kernel) ?_
    walk_at "S"
    have eH := eF
    have shH : ∀ H', Kp [] H H' → ∀ x ∈ shs, ∃ d ∈ ds, ShR K H' x d := fun H' k x hx => by
      obtain ⟨d, m, r⟩ := hs0 x hx
      exact ⟨d, m, r.tup (TupK.same k) (k.get trivial r.at_) rfl⟩
    refine ⟨⟨_, sq_l eH⟩, fun D1 hD1 => ?_⟩
    have L1 : LcOk D1 (shs.map fun x => V.ref x.a).length (fun i => (List.replicate (shs.map fun x => V.ref x.a).length (V.bl true)).take i) [] H (fun _ _ => True) := .ofTake (small_le (by rw [List.length_map]; omega)) hD1 trivial (fun _ _ _ h => h)
    refine lc_go (walk_list (K := K) (a := F_) (xs := shs.map fun x => V.ref x.a)) L1 trivial (fun (Hq : Hp) (kq : Kp [] H Hq) => sq_l (kq.get trivial eH)) (fun i x Hp_ H' hi I y => ?_) fun H1 I => ?_
    · obtain ⟨rfl, hx⟩ := y
      rw [List.getElem?_map] at hx
      obtain ⟨y, ey, rfl⟩ : ∃ y, shs[i]? = some y ∧ x = V.ref y.a := by
        cases e : shs[i]? with
        | none => rw [e] at hx; cases hx
        | some y => rw [e] at hx; exact ⟨y, rfl, (Option.some.inj hx).symm⟩
      have my := List.mem_of_getElem? ey
      obtain ⟨dy, mdy, sy⟩ := shH H' I.2.1 y my
      walk_at "S"
      refine ⟨rfl, ?_⟩
      walk_at "S"
      refine isi_ty (.base (.dK sy.at_)) (b := true) (by decide +kernel) ?_
      exact I.put L1 hi (take_put (by rw [List.getElem?_replicate, if_pos hi])) Kp.refl trivial
    obtain ⟨p1, k1, _⟩ := I
    dsimp only at p1
    rw [List.take_of_length_le (by rw [List.length_replicate]; exact Nat.le_refl _)] at p1
    have k01 : Kp [] H H1 := k1
    have eH1 := k01.get trivial eH
    have shH1 : ∀ H', Kp [] H1 H' → ∀ x ∈ shs, ∃ d ∈ ds, ShR K H' x d := fun H' k => shH H' (k01.tr k)
    walk_at "S"
    refine s_all (bs := List.replicate (shs.map fun x => V.ref x.a).length true) (sq_l (by rw [p1, List.map_replicate])) ?_
    rw [List.all_replicate, show ∀ m : Nat, (if m = 0 then true else id true) = true from fun m => by split <;> rfl]
    walk_at "S"
    refine ⟨⟨_, sq_l eH1⟩, fun D2 hD2 => ?_⟩
    have L2 : LcOk D2 (shs.map fun x => V.ref x.a).length (fun i => (List.replicate (shs.map fun x => V.ref x.a).length (V.bl true)).take i) [] H1 (fun _ _ => True) := .ofTake (small_le (by rw [List.length_map]; omega)) hD2 trivial (fun _ _ _ h => h)
    refine lc_go (walk_list (K := K) (a := F_) (xs := shs.map fun x => V.ref x.a)) L2 trivial (fun (Hq : Hp) (kq : Kp [] H1 Hq) => sq_l (kq.get trivial eH1)) (fun i x Hp_ H' hi I y => ?_) fun H2 I => ?_
    · obtain ⟨rfl, hx⟩ := y
      rw [List.getElem?_map] at hx
      obtain ⟨y, ey, rfl⟩ : ∃ y, shs[i]? = some y ∧ x = V.ref y.a := by
        cases e : shs[i]? with
        | none => rw [e] at hx; cases hx
        | some y => rw [e] at hx; exact ⟨y, rfl, (Option.some.inj hx).symm⟩
      have my := List.mem_of_getElem? ey
      obtain ⟨dy, mdy, sy⟩ := shH1 H' I.2.1 y my
      walk_at "S"
      refine ⟨rfl, ?_⟩
      walk_at "S"
      refine s_lockE sy.at_ trivial fun od => ?_
      have el : upd H' y.a (.frz od (.dK y.kvs)) y.a = some (.frz od (.dK y.kvs)) := upd_same
      have kl : Kp [y.a] H' (upd H' y.a (.frz od (.dK y.kvs))) := Kp.refl.upd_mem List.mem_cons_self
      have tl_ : TupK H' (upd H' y.a (.frz od (.dK y.kvs))) := tup_dic sy.at_
      generalize upd H' y.a (.frz od (.dK y.kvs)) = Hl at *
      have few : y.kvs.length ≤ 1000 := by rw [sy.nm.len]; exact (hd dy mdy).few
      walk_at "S"
      refine s_iKeys ?_
      walk_at "S"
      refine ⟨y.a, od, rfl, .inl ⟨_, el, fun E2 hE2 => ?_⟩⟩
      have LE : LcOk E2 y.kvs.length (fun i => (List.replicate y.kvs.length (V.bl true)).take i) [] Hl (fun _ _ => True) := .ofTake (small_le (by omega)) hE2 trivial (fun _ _ _ h => h)
      refine lc_go walk_keys LE trivial (fun (Hq : Hp) (kq : Kp [] Hl Hq) => kq.get trivial el) (fun i2 x Hp2 Hb hi2 Ib yb => ?_) fun He Ie => ?_
      · obtain ⟨rfl, k, v, ek, rfl⟩ := yb
        obtain ⟨⟨z, bz⟩, ez, e1, dz⟩ := paired_get' sy.nm ek
        have hz := (hd dy mdy).pth _ (List.mem_of_getElem? ez)
        have e1 : k = Sum.inr z := e1
        subst e1
        have lz : z.length ≤ 35 := hz.1.len
        walk_at "S"
        refine ⟨rfl, ?_⟩
        walk_at "S"
        refine .inl ⟨z, rfl, by omega, fun H4 k4 => ?_⟩
        rw [show isPathL (tl z) = true from hz.1]
        exact Ib.put LE hi2 (take_put (by rw [List.getElem?_replicate, if_pos hi2])) k4 trivial
      obtain ⟨pe, ke, _⟩ := Ie
      dsimp only at pe
      rw [List.take_of_length_le (by rw [List.length_replicate]; exact Nat.le_refl _)] at pe
      refine ⟨ke.get trivial el, ?_⟩
      have ku : Kp [] H' (upd He y.a (.dK y.kvs)) := Kp.unlock sy.at_ (kl.tr (Kp.nil_W ke))
      have pe2 : upd He y.a (.dK y.kvs) E2 = some (.lst (List.replicate y.kvs.length (V.bl true))) := (upd_ne fun e => by rw [e, el] at hE2; cases hE2).trans pe
      walk_at "S"
      refine s_all (bs := List.replicate y.kvs.length true) (sq_l (by rw [pe2, List.map_replicate])) ?_
      rw [List.all_replicate, show ∀ m : Nat, (if m = 0 then true else id true) = true from fun m => by split <;> rfl]
      exact I.put L2 hi (take_put (by rw [List.getElem?_replicate, if_pos hi])) ku trivial
    obtain ⟨p2, k2, _⟩ := I
    dsimp only at p2
    rw [List.take_of_length_le (by rw [List.length_replicate]; exact Nat.le_refl _)] at p2
    have k02 : Kp [] H H2 := k01.tr k2
    have eH2 := k02.get trivial eH
    have shH2 : ∀ H', Kp [] H2 H' → ∀ x ∈ shs, ∃ d ∈ ds, ShR K H' x d := fun H' k => shH H' (k02.tr k)
    walk_at "S"
    refine s_all (bs := List.replicate (shs.map fun x => V.ref x.a).length true) (sq_l (by rw [p2, List.map_replicate])) ?_
    rw [List.all_replicate, show ∀ m : Nat, (if m = 0 then true else id true) = true from fun m => by split <;> rfl]
    walk_at "S"
    refine ⟨⟨_, sq_l eH2⟩, fun D3 hD3 => ?_⟩
    have L3 : LcOk D3 (shs.map fun x => V.ref x.a).length (fun i => (List.replicate (shs.map fun x => V.ref x.a).length (V.bl true)).take i) [] H2 (fun _ _ => True) := .ofTake (small_le (by rw [List.length_map]; omega)) hD3 trivial (fun _ _ _ h => h)
    refine lc_go (walk_list (K := K) (a := F_) (xs := shs.map fun x => V.ref x.a)) L3 trivial (fun (Hq : Hp) (kq : Kp [] H2 Hq) => sq_l (kq.get trivial eH2)) (fun i x Hp_ H' hi I y => ?_) fun H3 I => ?_
    · obtain ⟨rfl, hx⟩ := y
      rw [List.getElem?_map] at hx
      obtain ⟨y, ey, rfl⟩ : ∃ y, shs[i]? = some y ∧ x = V.ref y.a := by
        cases e : shs[i]? with
        | none => rw [e] at hx; cases hx
        | some y => rw [e] at hx; exact ⟨y, rfl, (Option.some.inj hx).symm⟩
      have my := List.mem_of_getElem? ey
      obtain ⟨dy, mdy, sy⟩ := shH2 H' I.2.1 y my
      walk_at "S"
      refine ⟨rfl, ?_⟩
      walk_at "S"
      refine s_lockE sy.at_ trivial fun od => ?_
      have el : upd H' y.a (.frz od (.dK y.kvs)) y.a = some (.frz od (.dK y.kvs)) := upd_same
      have kl : Kp [y.a] H' (upd H' y.a (.frz od (.dK y.kvs))) := Kp.refl.upd_mem List.mem_cons_self
      have tl_ : TupK H' (upd H' y.a (.frz od (.dK y.kvs))) := tup_dic sy.at_
      generalize upd H' y.a (.frz od (.dK y.kvs)) = Hl at *
      have few : y.kvs.length ≤ 1000 := by rw [sy.nm.len]; exact (hd dy mdy).few
      walk_at "S"
      refine s_iVals ?_
      walk_at "S"
      refine ⟨y.a, od, _, rfl, el, fun E3 hE3 => ?_⟩
      have LE : LcOk E3 y.kvs.length (fun i => (List.replicate y.kvs.length (V.bl true)).take i) [] Hl (fun _ _ => True) := .ofTake (small_le (by omega)) hE3 trivial (fun _ _ _ h => h)
      refine lc_go walk_values LE trivial (fun (Hq : Hp) (kq : Kp [] Hl Hq) => kq.get trivial el) (fun i2 x Hp2 Hb hi2 Ib yb => ?_) fun He Ie => ?_
      · obtain ⟨rfl, k, ek⟩ := yb
        obtain ⟨⟨z, bz⟩, ez, e1, dz⟩ := paired_get' sy.nm ek
        have hz := ((hd dy mdy).pth _ (List.mem_of_getElem? ez)).2.good
        have dv : Dp K H' x (.tuple (rowsD bz)) := dz
        have dv2 := Dp.same Ib.2.1 _ _ (Dp.tups tl_ _ _ (flat_rowsD bz) dv)
        walk_at "S"
        refine ⟨rfl, ?_⟩
        walk_at "S"
        refine .inl ⟨x, rowsD bz, rfl, dv2, hz.1, hz.2.1, fun H4 k4 => ?_⟩
        rw [hz.2.2]
        exact Ib.put LE hi2 (take_put (by rw [List.getElem?_replicate, if_pos hi2])) k4 trivial
      obtain ⟨pe, ke, _⟩ := Ie
      dsimp only at pe
      rw [List.take_of_length_le (by rw [List.length_replicate]; exact Nat.le_refl _)] at pe
      refine ⟨ke.get trivial el, ?_⟩
      have ku : Kp [] H' (upd He y.a (.dK y.kvs)) := Kp.unlock sy.at_ (kl.tr (Kp.nil_W ke))
      have pe2 : upd He y.a (.dK y.kvs) E3 = some (.lst (List.replicate y.kvs.length (V.bl true))) := (upd_ne fun e => by rw [e, el] at hE3; cases hE3).trans pe
      walk_at "S"
      refine s_all (bs := List.replicate y.kvs.length true) (sq_l (by rw [pe2, List.map_replicate])) ?_
      rw [List.all_replicate, show ∀ m : Nat, (if m = 0 then true else id true) = true from fun m => by split <;> rfl]
      exact I.put L3 hi (take_put (by rw [List.getElem?_replicate, if_pos hi])) ku trivial
    obtain ⟨p3, k3, _⟩ := I
    dsimp only at p3
    rw [List.take_of_length_le (by rw [List.length_replicate]; exact Nat.le_refl _)] at p3
    have k03 : Kp [] H H3 := k02.tr k3
    have eH3 := k03.get trivial eH
    have shH3 : ∀ H', Kp [] H3 H' → ∀ x ∈ shs, ∃ d ∈ ds, ShR K H' x d := fun H' k => shH H' (k03.tr k)
    walk_at "S"
    refine s_all (bs := List.replicate (shs.map fun x => V.ref x.a).length true) (sq_l (by rw [p3, List.map_replicate])) ?_
    rw [List.all_replicate, show ∀ m : Nat, (if m = 0 then true else id true) = true from fun m => by split <;> rfl]
    walk_at "S"
    exact q _ k03
end

def spRInit (K : PySem.W.Frag) (C : Cl) : Sp := fun vs H Q _ => ∃ (self dx F : Addr) (shs : List Sf) (ds : List Shelf), vs = [.ref self, .ref F] ∧ H self = some (.ins C.r dx []) ∧ H F = some (.lst (shs.map fun x => V.ref x.a)) ∧ Paired (ShR K H) shs ds ∧ (∀ d ∈ ds, ShelfOk d) ∧ shs.length ≤ 1000 ∧
  ∀ H' h s, h.self = self → (∀ zs, HouseAt K C ⟨fndS ds, zs⟩ H' h s Ab0) → Kp [self] H H' → (∀ x ∈ owns C h s Ab0, x = self ∨ H x = none) → Q .non H'
theorem shR_copy {K : PySem.W.Frag} {H H' : Hp} : ∀ {shs sh' : List Sf} {ds : List Shelf}, Paired (ShR K H) shs ds → sh'.map (·.kvs) = shs.map (·.kvs) → (∀ y ∈ sh', H' y.a = some (.dK y.kvs)) → TupK H H' → Paired (ShR K H') sh' ds
  | _, [], _, .nil, _, _, _ => .nil
  | _, y :: r, _, .nil, e, _, _ => nomatch e
  | _, [], _, .cons _ _, e, _, _ => nomatch e
  | x :: shs, y :: r, d :: ds, .cons h t, e, m, k => by
    rw [List.map_cons, List.map_cons] at e
    injection e with e1 e2
    exact .cons (h.tup k (m y List.mem_cons_self) e1) (shR_copy t e2 (fun z hz => m z (List.mem_cons_of_mem _ hz)) k)
theorem putF_new {f : Str} {v : V} {keys : List Str} : keys.all (fun k => !decide (k = f)) = true → ∀ {fs : List (Str × V)}, fs.map (·.1) = keys → putF f v fs = fs ++ [(f, v)] := fun n fs e => by
  subst e
  induction fs with
  | nil => rfl
  | cons x r ih =>
    rw [List.map_cons, List.all_cons, Bool.and_eq_true] at n
    have : ¬ x.1 = f := by simpa using n.1
    show (if x.1 = f then _ else _) = _
    rw [if_neg this, ih n.2]
    rfl
theorem runF_all {h : HA} {s : Hs} : putF "waits" (.ref h.wt) (putF "notes" (.ref h.nt) (putF "fates" (.ref h.ft) (putF "met" (.ref s.mt) (putF "broken" (.ref s.br) (putF "line" (.ref h.ln) (putF "made" (.ref h.md) (putF "standing" (.ref h.st) (putF "shelves" (.ref h.sh) [])))))))) = runF h s := by
  rw [putF_new (keys := []) (by decide +kernel) (f := "shelves") (fs := []) rfl]
  rw [putF_new (keys := ["shelves"]) (by decide +kernel) (f := "standing") rfl]
  rw [putF_new (keys := ["shelves", "standing"]) (by decide +kernel) (f := "made") rfl]
  rw [putF_new (keys := ["shelves", "standing", "made"]) (by decide +kernel) (f := "line") rfl]
  rw [putF_new (keys := ["shelves", "standing", "made", "line"]) (by decide +kernel) (f := "broken") rfl]
  rw [putF_new (keys := ["shelves", "standing", "made", "line", "broken"]) (by decide +kernel) (f := "met") rfl]
  rw [putF_new (keys := ["shelves", "standing", "made", "line", "broken", "met"]) (by decide +kernel) (f := "fates") rfl]
  rw [putF_new (keys := ["shelves", "standing", "made", "line", "broken", "met", "fates"]) (by decide +kernel) (f := "notes") rfl]
  rw [putF_new (keys := ["shelves", "standing", "made", "line", "broken", "met", "fates", "notes"]) (by decide +kernel) (f := "waits") rfl]
  rfl
section
variable {P : Program} {w : World} {K : PySem.W.Frag} {mg : Str → Option Value} {base : Heap} {C_MadeError C_Fault C_Failed C_Module C_Late C_Runs : Addr} {n : Nat}
theorem ok_Runs_init {f : Addr} {fd : FuncData} (F : Fun K "__init__" "Runs.__init__" s_Runs_init f fd) (T : Txt K mg C_MadeError C_Fault C_Failed C_Module C_Late C_Runs)
    (D_want_finders : DnF P w K mg base 13 "want_finders" ["finders"] (spWantFinders K)) :
    FnOk P w K mg base CX0 14 f fd ["self", "finders"] (spRInit K ⟨C_Runs, C_Module, C_Late⟩) := by
  refine F.ok sc_Runs_init (fun vs H Q E h => ?_) (fun cdv A outer s H vs Q E hr h => ?_)
  · obtain ⟨self, dx, F, shs, ds, rfl, _⟩ := h
    rfl
  · obtain ⟨f_want_finders, fd_want_finders, G_want_finders, m_want_finders, k_want_finders, b_want_finders⟩ := D_want_finders
    obtain ⟨self, dx, F_, shs, ds, rfl, eS, eF, hs, hd, h3, q⟩ := h
    have hs0 : ∀ x ∈ shs, H x.a = some (.dK x.kvs) := fun x hx => by
      obtain ⟨i, ei⟩ := List.mem_iff_getElem?.mp hx
      obtain ⟨d, ed, r⟩ := paired_get hs ei
      exact r.at_
    refine ⟨_, (pss_cons (ps_expr (pe_call G_want_finders (hr.mono (by first | decide | omega)) (by rfl) m_want_finders k_want_finders b_want_finders .nil pass0 (pa_cons (pv 1) pa_nil)))
      (pss_cons (ps_fld (pv 0) (pe_lc (own := [("finder", 2)]) (g := gName 2) (tt := tYes) rfl sc_Runs_init.nd (kiL (K := K) rfl (pi_list (pv 1))) (blkOk_by (own := [("finder", 2)]) (N := N_Runs_init) (sc := (defScope s_Runs_init)) (by decide +kernel)) (fun _ _ _ _ _ => (pg_name (i := 2) sc_Runs_init.nd rfl (Or.inl rfl))) (fun _ _ _ _ _ => pts_nil) (fun _ _ _ _ _ => (pe_callTy call_dictD (by rfl) T.n_dict (by decide +kernel) (pa_cons (pv 2) pa_nil)))) rfl)
      (pss_cons (ps_fld (pv 0) pe_dnewK rfl)
      (pss_cons (ps_fld (pv 0) (pe_lst pa_nil) rfl)
      (pss_cons (ps_fld (pv 0) (pe_lst pa_nil) rfl)
      (pss_cons (ps_fld (pv 0) pe_dnewK rfl)
      (pss_cons (ps_fld (pv 0) (pe_lst pa_nil) rfl)
      (pss_cons (ps_fld (pv 0) pe_dnewK rfl)
      (pss_cons (ps_fld (pv 0) (pe_lst pa_nil) rfl)
      (pss_one (ps_fld (pv 0) (pe_lst pa_nil) rfl))))))))))), ?_⟩
    refine st_start (σ' := [some (.ref self), some (.ref F_), none]) rfl ?_
    walk_at "S"
    refine ⟨F_, shs, ds, rfl, eF, hs, hd, h3, fun H1 k1 => ?_⟩
    have eF1 := k1.get trivial eF
    walk_at "S"
    refine ⟨⟨_, sq_l eF1⟩, fun D hD => ?_⟩
    let PL : Nat → List V → Prop := fun i xs => xs.length = i
    have L : LcOkP D (shs.map fun x => V.ref x.a).length PL [] H1 (fun _ _ => True) := ⟨small_le (by rw [List.length_map]; omega), rfl, hD, trivial, fun _ _ _ h => h⟩
    refine lc_it (walk_list (K := K) (a := F_) (xs := shs.map fun x => V.ref x.a)) (fun i H' => ∃ sh' : List Sf, H' D = some (.lst (sh'.map fun x => V.ref x.a)) ∧ Kp [] H1 H' ∧ sh'.map (·.kvs) = (shs.take i).map (·.kvs) ∧ (sh'.map (·.a)).Nodup ∧ ∀ y ∈ sh', H' y.a = some (.dK y.kvs) ∧ H1 y.a = none) ⟨[], upd_same, Kp.refl.upd_new hD, by simp, List.nodup_nil, by simp⟩
      (fun i H' _ I => by obtain ⟨_, _, k, _⟩ := I; exact sq_l (k.get trivial eF1)) (fun i x Hp_ H' hi I y => ?_) fun H2 I => ?_
    · obtain ⟨rfl, hx⟩ := y
      obtain ⟨sh', eD, k2, em, nds, hy⟩ := I
      rw [List.getElem?_map] at hx
      obtain ⟨y, ey, rfl⟩ : ∃ y, shs[i]? = some y ∧ x = V.ref y.a := by
        cases e : shs[i]? with
        | none => rw [e] at hx; cases hx
        | some y => rw [e] at hx; exact ⟨y, rfl, (Option.some.inj hx).symm⟩
      have sy := hs0 y (List.mem_of_getElem? ey)
      have ls : sh'.length ≤ 1000 := by
        have := congrArg List.length em
        rw [List.length_map, List.length_map, List.length_take] at this
        omega
      walk_at "S"
      refine ⟨rfl, ?_⟩
      walk_at "S"
      refine ⟨y.a, y.kvs, rfl, .inl (k2.get trivial (k1.get trivial sy)), fun p hp => ?_⟩
      have np : D ≠ p := ne_of_none eD hp
      refine ⟨_, (upd_ne np).trans eD, small_lt (by rw [List.length_map]; omega), sh' ++ [⟨p, y.kvs⟩], by rw [upd_same, List.map_append]; rfl, (k2.upd_new hp).upd_loc hD, ?_, ?_, fun z hz => ?_⟩
      · rw [List.map_append, em, take_put ey, List.map_append]
        rfl
      · rw [List.map_append]
        refine List.nodup_append.mpr ⟨nds, List.pairwise_singleton _ _, fun u hu v hv e => ?_⟩
        obtain ⟨z, hz, rfl⟩ := List.mem_map.mp hu
        rw [List.mem_singleton.mp hv] at e
        have := (hy z hz).1
        rw [show z.a = p from e, hp] at this
        cases this
      · rcases List.mem_append.mp hz with hz | hz
        · obtain ⟨a1, a2⟩ := hy z hz
          refine ⟨(upd_ne fun e => ?_).trans ((upd_ne fun e => ?_).trans a1), a2⟩
          · rw [e, eD] at a1
            cases sh' with
            | nil => cases hz
            | cons => cases a1
          · rw [e, hp] at a1; cases a1
        · rw [List.mem_singleton.mp hz]
          exact ⟨(upd_ne np.symm).trans upd_same, k2.free trivial hp⟩
    · obtain ⟨sh', eD, k2, em, nds, hy⟩ := I
      rw [List.length_map, List.take_length] at em
      have k02 := k1.tr k2
      have e2 := k02.get trivial eS
      have N0 : NF C_Runs H2 (upd H2 self (.ins C_Runs dx (putF "shelves" (.ref D) []))) self dx (putF "shelves" (.ref D) []) [] := ⟨upd_same, Kp.refl.upd_mem List.mem_cons_self, by simp, by simp, Nat.le_refl _⟩
      walk_at "S"
      refine s_insP e2 T.cl_Runs T.n_Runs_shelves (by decide) ?_
      generalize upd H2 self (.ins C_Runs dx (putF "shelves" (.ref D) [])) = Ha at *
      walk_at "S"
      intro st hst
      walk_at "S"
      refine s_insP (N0.get hst) T.cl_Runs T.n_Runs_standing (by have := N0.ln; simp only [List.length_append, List.length_cons, List.length_nil] at this; omega) ?_
      have N1 := N0.step (o := .dK []) hst "standing"
      generalize upd (upd Ha st (.dK [])) self (.ins C_Runs dx (putF "standing" (.ref st) _)) = Hb1 at *
      walk_at "S"
      refine ⟨small_le (by simp), fun md hmd => ?_⟩
      walk_at "S"
      refine s_insP (N1.get hmd) T.cl_Runs T.n_Runs_made (by have := N1.ln; simp only [List.length_append, List.length_cons, List.length_nil] at this; omega) ?_
      have N2 := N1.step (o := .lst []) hmd "made"
      generalize upd (upd Hb1 md (.lst [])) self (.ins C_Runs dx (putF "made" (.ref md) _)) = Hb2 at *
      walk_at "S"
      refine ⟨small_le (by simp), fun ln hln => ?_⟩
      walk_at "S"
      refine s_insP (N2.get hln) T.cl_Runs T.n_Runs_line (by have := N2.ln; simp only [List.length_append, List.length_cons, List.length_nil] at this; omega) ?_
      have N3 := N2.step (o := .lst []) hln "line"
      generalize upd (upd Hb2 ln (.lst [])) self (.ins C_Runs dx (putF "line" (.ref ln) _)) = Hb3 at *
      walk_at "S"
      intro br hbr
      walk_at "S"
      refine s_insP (N3.get hbr) T.cl_Runs T.n_Runs_broken (by have := N3.ln; simp only [List.length_append, List.length_cons, List.length_nil] at this; omega) ?_
      have N4 := N3.step (o := .dK []) hbr "broken"
      generalize upd (upd Hb3 br (.dK [])) self (.ins C_Runs dx (putF "broken" (.ref br) _)) = Hb4 at *
      walk_at "S"
      refine ⟨small_le (by simp), fun mt hmt => ?_⟩
      walk_at "S"
      refine s_insP (N4.get hmt) T.cl_Runs T.n_Runs_met (by have := N4.ln; simp only [List.length_append, List.length_cons, List.length_nil] at this; omega) ?_
      have N5 := N4.step (o := .lst []) hmt "met"
      generalize upd (upd Hb4 mt (.lst [])) self (.ins C_Runs dx (putF "met" (.ref mt) _)) = Hb5 at *
      walk_at "S"
      intro ft hft
      walk_at "S"
      refine s_insP (N5.get hft) T.cl_Runs T.n_Runs_fates (by have := N5.ln; simp only [List.length_append, List.length_cons, List.length_nil] at this; omega) ?_
      have N6 := N5.step (o := .dK []) hft "fates"
      generalize upd (upd Hb5 ft (.dK [])) self (.ins C_Runs dx (putF "fates" (.ref ft) _)) = Hb6 at *
      walk_at "S"
      refine ⟨small_le (by simp), fun nt hnt => ?_⟩
      walk_at "S"
      refine s_insP (N6.get hnt) T.cl_Runs T.n_Runs_notes (by have := N6.ln; simp only [List.length_append, List.length_cons, List.length_nil] at this; omega) ?_
      have N7 := N6.step (o := .lst []) hnt "notes"
      generalize upd (upd Hb6 nt (.lst [])) self (.ins C_Runs dx (putF "notes" (.ref nt) _)) = Hb7 at *
      walk_at "S"
      refine ⟨small_le (by simp), fun wt hwt => ?_⟩
      walk_at "S"
      refine s_insP (N7.get hwt) T.cl_Runs T.n_Runs_waits (by have := N7.ln; simp only [List.length_append, List.length_cons, List.length_nil] at this; omega) ?_
      have N8 := N7.step (o := .lst []) hwt "waits"
      generalize upd (upd Hb7 wt (.lst [])) self (.ins C_Runs dx (putF "waits" (.ref wt) _)) = Hb8 at *
      have N8' := N8
      rw [show putF "waits" (.ref wt) _ = runF ⟨self, dx, D, st, md, ln, ft, nt, wt⟩ ⟨[], [], sh', br, mt, [], [], [], []⟩ from runF_all (h := ⟨self, dx, D, st, md, ln, ft, nt, wt⟩) (s := ⟨[], [], sh', br, mt, [], [], [], []⟩)] at N8'
      have at8 := N8.at_
      simp only [List.nil_append, List.cons_append, List.forall_mem_cons] at at8
      obtain ⟨⟨a1, b1⟩, ⟨a2, b2⟩, ⟨a3, b3⟩, ⟨a4, b4⟩, ⟨a5, b5⟩, ⟨a6, b6⟩, ⟨a7, b7⟩, ⟨a8, b8⟩, _⟩ := at8
      have nD : D ≠ self := fun e => by rw [e, e2] at eD; cases eD
      have nY : ∀ y ∈ sh', y.a ≠ self := fun y my e => by have := (hy y my).1; rw [e, e2] at this; cases this
      have nYD : ∀ y ∈ sh', y.a ≠ D := fun y my e => by have := (hy y my).1; rw [e, eD] at this; cases this
      have kp8 := N8.kp
      have kf : Kp [self] H Hb8 := (Kp.nil_W k02).tr kp8
      have tkf : TupK H Hb8 := TupK.tr (TupK.same k02) (.of kp8 fun x hx => by
        rw [List.mem_singleton.mp hx]
        exact notup_ins e2)
      have nd8 := N8.nd
      simp only [List.nil_append, List.cons_append, List.map_cons, List.map_nil] at nd8
      have ndT : (D :: sh'.map (·.a)).Nodup := List.nodup_cons.mpr ⟨fun m => by obtain ⟨y, my, e⟩ := List.mem_map.mp m; exact nYD y my e, nds⟩
      have inT : ∀ x ∈ D :: sh'.map (·.a), x ≠ self ∧ ∃ o, H2 x = some o := fun x hx => by
        rcases List.mem_cons.mp hx with rfl | hx
        · exact ⟨nD, _, eD⟩
        · obtain ⟨y, my, rfl⟩ := List.mem_map.mp hx
          exact ⟨nY y my, _, (hy y my).1⟩
      have nd : ([self, st, md, ln, br, mt, ft, nt, wt] ++ (D :: sh'.map (·.a))).Nodup := List.nodup_append.mpr ⟨nd8, ndT, fun x hx y hy' e => by
        subst e
        obtain ⟨ns, o, e⟩ := inT x hy'
        simp only [List.mem_cons, List.not_mem_nil, or_false] at hx
        rcases hx with h | h | h | h | h | h | h | h | h
        · exact ns h
        all_goals (rw [h] at e; simp_all)⟩
      have pm : List.Perm (adr (img ⟨C_Runs, C_Module, C_Late⟩ ⟨self, dx, D, st, md, ln, ft, nt, wt⟩ ⟨[], [], sh', br, mt, [], [], [], []⟩ Ab0)) ([self, st, md, ln, br, mt, ft, nt, wt] ++ (D :: sh'.map (·.a))) := by
        have e : adr (img ⟨C_Runs, C_Module, C_Late⟩ ⟨self, dx, D, st, md, ln, ft, nt, wt⟩ ⟨[], [], sh', br, mt, [], [], [], []⟩ Ab0) = [self, D, st, md, ln, ft, nt, wt, br, mt] ++ sh'.map (·.a) := by
          unfold img adr
          rw [List.map_append, List.map_append, List.map_map]
          show _ ++ (_ ++ []) = _
          rw [List.append_nil]
          rfl
        rw [e, List.perm_iff_count]
        intro x
        simp only [List.count_append, List.count_cons, List.count_nil]
        omega
      have ex : ∀ x, x ∈ owns ⟨C_Runs, C_Module, C_Late⟩ ⟨self, dx, D, st, md, ln, ft, nt, wt⟩ ⟨[], [], sh', br, mt, [], [], [], []⟩ Ab0 → x = self ∨ H x = none := fun x hx => by
        have m := pm.subset hx
        rcases List.mem_append.mp m with m | m
        · simp only [List.mem_cons, List.not_mem_nil, or_false] at m
          rcases m with h | h | h | h | h | h | h | h | h
          · exact .inl h
          all_goals (refine .inr ?_; rw [h]; exact k02.free trivial (by assumption))
        · refine .inr ?_
          rcases List.mem_cons.mp m with rfl | m
          · exact k1.free trivial hD
          · obtain ⟨y, my, rfl⟩ := List.mem_map.mp m
            exact k1.free trivial (hy y my).2
      refine q _ ⟨self, dx, D, st, md, ln, ft, nt, wt⟩ ⟨[], [], sh', br, mt, [], [], [], []⟩ rfl (fun zs => ⟨⟨fun x hx => ?_, pm.nodup_iff.mpr nd⟩, ⟨fun p => fnd_at (shR_copy hs em (fun y my => kp8.get ⟨nY y my, trivial⟩ (hy y my).1) tkf), .nil, .nil, .nil, .nil, fun k o e => (nomatch e)⟩,
        ⟨rfl, rfl, rfl, fun x hx => (nomatch hx), fun x hx => (nomatch hx), List.nodup_nil, fun x hx => (nomatch hx), fun k => List.nodup_nil, fun k z hz => (nomatch hz)⟩⟩) kf ex
      unfold img at hx
      rcases List.mem_append.mp hx with hx | hx
      · simp only [img1, List.mem_cons, List.not_mem_nil, or_false] at hx
        rcases hx with rfl | rfl | rfl | rfl | rfl | rfl | rfl | rfl | rfl | rfl
        · exact N8'.ob
        · exact kp8.get ⟨nD, trivial⟩ eD
        all_goals assumption
      · rcases List.mem_append.mp hx with hx | hx
        · obtain ⟨y, my, rfl⟩ := List.mem_map.mp hx
          exact kp8.get ⟨nY y my, trivial⟩ (hy y my).1
        · exact nomatch hx
end

/-! the pot -/
abbrev Pot := Int × Int
def PotOk (H : Hp) (p : Addr) : Prop := ∃ s : Pot, H p = some (.lst [.int s.1, .int s.2])
theorem PotOk.upd {H : Hp} {p D : Addr} {o : HO} (h : PotOk H p) (n : p ≠ D) : PotOk (upd H D o) p := by
  obtain ⟨s, e⟩ := h
  exact ⟨s, (upd_ne n).trans e⟩
theorem PotOk.ne {H : Hp} {p D : Addr} (h : PotOk H p) (n : H D = none) : p ≠ D := by
  obtain ⟨s, e⟩ := h
  exact ne_of_none e n
theorem PotOk.kp {H H' : Hp} {p : Addr} {W : List Addr} (h : PotOk H p) (k : Kp W H H') (n : Nin p W) : PotOk H' p := by
  obtain ⟨s, e⟩ := h
  exact ⟨s, k.get n e⟩
def spAt (K : PySem.W.Frag) : Sp := fun vs H Q _ => ∃ (a : Addr) (ns : List Int) (k : Nat), vs = [.ref a, .int k] ∧ SqL K H a (ns.map V.int) ∧ Q (.int (ns.getD k 0)) H
def spPot (K : PySem.W.Frag) : Sp := fun vs H Q _ => ∃ (a : Addr) (ns : List Int) (k : Nat), vs = [.ref a, .int k] ∧ SqL K H a (ns.map V.int) ∧ k ≤ 1000 ∧
  ∀ H' p, Kp [] H H' → H p = none → PotOk H' p → Q (.ref p) H'
/-- a draw: some number below m -/
def spDraw : Sp := fun vs H Q _ => ∃ (p : Addr) (m : Int), vs = [.ref p, .int m] ∧ PotOk H p ∧ 0 < m ∧ m ≤ 2000000000000000000000000000000000000000000000000000000000000 ∧
  ∀ H' v, Kp [p] H H' → PotOk H' p → 0 ≤ v → v < m → Q (.int v) H'
section
variable {P : Program} {w : World} {K : PySem.W.Frag} {mg : Str → Option Value} {base : Heap} {C_MadeError C_Fault C_Failed C_Module C_Late C_Runs : Addr}
theorem ok_at {f : Addr} {fd : FuncData} (F : Fun K "_law_at" "_law_at" s_l_at f fd) (T : Txt K mg C_MadeError C_Fault C_Failed C_Module C_Late C_Runs) : FnOk P w K mg base CX0 1 f fd ["_law_script", "_law_k"] (spAt K) := by
  refine F.ok sc_l_at (fun vs H Q E h => ?_) (fun cdv A outer s H vs Q E hr h => ?_)
  · obtain ⟨a, ns, j, rfl, _⟩ := h
    rfl
  · obtain ⟨a, ns, j, rfl, hs, q⟩ := h
    refine ⟨_, (pss_one (ps_ret (pe_ifExp (pt_cmpR op_lt (pv 1) (pe_callB (lenK (K := K) rfl) (by rfl) T.n_len (by decide +kernel) (pa_cons (pv 0) pa_nil)) (nomark _)) (pe_ix (ixLK (K := K) rfl) (pv 0) (pv 1) (fun _ _ => rfl)) pe_int))), ?_⟩
    refine st_start (σ' := [some (.ref a), some (.int j)]) rfl ?_
    walk_at "S"
    rw [List.length_map]
    refine s_dec (fun h1 => ?_) (fun h1 => ?_)
    · walk_at "S"
      have hj : j < ns.length := by omega
      have e : (ns.map V.int)[j]? = some (.int (ns.getD j 0)) := by
        rw [List.getElem?_map, List.getD_eq_getElem?_getD, List.getElem?_eq_getElem hj]
        rfl
      exact s_ixL hs (atI_nat e) q
    · walk_at "S"
      have e : ns.getD j 0 = 0 := by
        rw [List.getD_eq_getElem?_getD, List.getElem?_eq_none (Nat.le_of_not_lt fun z => h1 (by omega))]
        rfl
      rw [e] at q
      exact q
theorem ok_pot {f : Addr} {fd : FuncData} (F : Fun K "_law_pot" "_law_pot" s_l_pot f fd) (T : Txt K mg C_MadeError C_Fault C_Failed C_Module C_Late C_Runs)
    (D_l_at : DnF P w K mg base 1 "_law_at" ["_law_script", "_law_k"] (spAt K)) : FnOk P w K mg base CX0 2 f fd ["_law_script", "_law_k"] (spPot K) := by
  refine F.ok sc_l_pot (fun vs H Q E h => ?_) (fun cdv A outer s H vs Q E hr h => ?_)
  · obtain ⟨a, ns, j, rfl, _⟩ := h
    rfl
  · obtain ⟨f_l_at, fd_l_at, G_l_at, m_l_at, k_l_at, b_l_at⟩ := D_l_at
    obtain ⟨a, ns, j, rfl, hs, hj, q⟩ := h
    refine ⟨_, (pss_cons (ps_set (i := 2) sc_l_pot.nd rfl (Or.inl rfl) (pe_call G_l_at (hr.mono (by first | decide | omega)) (by rfl) m_l_at k_l_at b_l_at .nil pass0 (pa_cons (pv 0) (pa_cons (pv 1) pa_nil))))
      (pss_one (ps_ret (pe_lst (pa_cons (pe_callB (call_max2 rfl) (by rfl) T.n_max (by decide +kernel) (pa_cons pe_int (pa_cons (pe_op op_sub (pv 2) (pe_op op_pow pe_int pe_int)) pa_nil))) (pa_cons (pe_op op_add (pe_op op_mod (pe_op op_pow (pe_op op_add (pe_op op_mod (pv 2) pe_int) (pe_op op_mul pe_int (pe_op op_add (pv 1) pe_int))) pe_int) pe_int) pe_int) pa_nil)))))), ?_⟩
    refine st_start (σ' := [some (.ref a), some (.int j), none]) rfl ?_
    walk_at "S"
    refine ⟨a, ns, j, rfl, hs, ?_⟩
    walk_at "S"
    exact ⟨small_le (by simp), fun p hp => q _ _ (Kp.refl.upd_new hp) hp ⟨(_, _), upd_same⟩⟩
theorem ok_draw {f : Addr} {fd : FuncData} (F : Fun K "_law_draw" "_law_draw" s_l_draw f fd) (T : Txt K mg C_MadeError C_Fault C_Failed C_Module C_Late C_Runs) : FnOk P w K mg base CX0 1 f fd ["_law_pot_here", "_law_many"] spDraw := by
  refine F.ok sc_l_draw (fun vs H Q E h => ?_) (fun cdv A outer s H vs Q E hr h => ?_)
  · obtain ⟨p, m, rfl, _⟩ := h
    rfl
  · obtain ⟨p, m, rfl, ⟨⟨a, b⟩, hp⟩, m0, m1, k⟩ := h
    dsimp only at hp
    refine ⟨_, (pss_cons (ps_if (pt_cmpR op_gt (pe_ix (ixLK (K := K) rfl) (pv 0) pe_int (fun _ _ => rfl)) pe_int (nomark _)) (pss_cons (ps_asg (pe_callB divmodPR (by rfl) T.n_divmod (by decide +kernel) (pa_cons (pe_ix (ixLK (K := K) rfl) (pv 0) pe_int (fun _ _ => rfl)) (pa_cons (pv 1) pa_nil))) (kgT (K := K) rfl (pg_tup rfl (pgs_cons (pg_sub (pv 0) pe_int set_list) (pgs_cons (pg_name (i := 2) sc_l_draw.nd rfl (Or.inl rfl)) pgs_nil)))))
      (pss_one (ps_ret (pv 2)))) pss_nil)
      (pss_cons (ps_asg (pe_op op_mod (pe_op op_add (pe_op op_mul (pe_ix (ixLK (K := K) rfl) (pv 0) pe_int (fun _ _ => rfl)) pe_int) pe_int) pe_int) (pg_sub (pv 0) pe_int set_list))
      (pss_one (ps_ret (pe_op op_mod (pe_op op_fdiv (pe_op op_mod (pe_op op_mul (pe_ix (ixLK (K := K) rfl) (pv 0) pe_int (fun _ _ => rfl)) (pe_ix (ixLK (K := K) rfl) (pv 0) pe_int (fun _ _ => rfl))) pe_int) pe_int) (pv 1)))))), ?_⟩
    refine st_start (σ' := [some (.ref p), some (.int m), none]) rfl ?_
    walk_at "S"
    refine s_dec (fun h => ?_) (fun h => ?_)
    · walk_at "S"
      refine s_divP m0 m1 fun t ht => ?_
      walk_at "S"
      exact k _ _ (by walk_at "K") ⟨(_, _), upd_same⟩ (Int.emod_nonneg _ (by omega)) (Int.emod_lt_of_pos _ m0)
    · walk_at "S"
      exact k _ _ (by walk_at "K") ⟨(_, _), upd_same⟩ (Int.emod_nonneg _ (by omega)) (Int.emod_lt_of_pos _ m0)
end

/-! what names are -/
structure OkN (z : Str) : Prop where
  pos : 1 ≤ z.length
  len : z.length ≤ 8
  abc : ∀ c ∈ tl z, c ∈ lets
structure Taken (zs : List Str) : Prop where
  nd : zs.Nodup
  ok : ∀ z ∈ zs, OkN z
theorem OkN.nm {z : Str} (h : OkN z) : isNameL (tl z) = true := isNameL_of (by rw [← len_tl]; exact h.pos) (by rw [← len_tl]; exact h.len) h.abc
theorem OkN.path {z : Str} (h : OkN z) : isPathL (tl z) = true := isPathL_of (ps := [tl z]) (by simp) (by simp) fun p hp => by rw [List.mem_singleton.mp hp]; exact h.nm
theorem OkN.okl {z : Str} (h : OkN z) : OkL (tl z) := isNameL_ok h.nm
theorem lets_nd : ∀ c ∈ lets, c ≠ 46 := by decide +kernel
theorem lets_lt : ∀ c ∈ lets, c < 1114112 := by decide +kernel
theorem cut_mem {z : Str} {lo hi : Option Int} {c : Nat} (h : c ∈ tl (cutS z lo hi)) : c ∈ tl z :=
  List.mem_of_mem_drop (List.mem_of_mem_take (show c ∈ List.take (HT.sIx z.length z.length hi - HT.sIx z.length 0 lo) (List.drop (HT.sIx z.length 0 lo) z.cps.toList) from h))
theorem cut8 (z : Str) : (cutS z none (some 8)).length ≤ 8 := by
  rw [len_tl]
  show ((z.cps.toList.drop (HT.sIx z.length 0 none)).take (HT.sIx z.length z.length (some 8) - HT.sIx z.length 0 none)).length ≤ 8
  rw [List.length_take, show HT.sIx z.length z.length (some 8) = min 8 z.length from HT.sIx_nat z.length z.length 8]
  omega
theorem OkN.name {cs : List Nat} (h0 : 1 ≤ cs.length) (h : cs.length ≤ 8) (g : ∀ c ∈ cs, c ∈ lets) : OkN (mkS cs) := ⟨by rw [mkS_len]; exact h0, by rw [mkS_len]; exact h, g⟩
theorem cut8_len (z : Str) : (cutS z none (some 8)).length = min 8 z.length := by
  rw [len_tl]
  show ((z.cps.toList.drop (HT.sIx z.length 0 none)).take (HT.sIx z.length z.length (some 8) - HT.sIx z.length 0 none)).length = _
  rw [List.length_take, List.length_drop, show HT.sIx z.length z.length (some 8) = min 8 z.length from HT.sIx_nat z.length z.length 8, show HT.sIx z.length 0 none = 0 from HT.sIx_none .., show z.cps.toList.length = z.length from (len_tl z).symm]
  omega
abbrev cands : List Str := lets.map sg
theorem lets_at {i c : Nat} (h : ("abcdefghijklmnopqrstuvwxyz" : Str).cps[i]? = some c) : lets[i]? = some c := by
  show ("abcdefghijklmnopqrstuvwxyz" : Str).cps.toList[i]? = some c
  rw [Array.getElem?_toList]
  exact h
theorem cands_nd : cands.Nodup := by decide +kernel
theorem cands_ok : ∀ z ∈ cands, 1 ≤ z.length ∧ z.length ≤ 8 ∧ ∀ c ∈ tl z, c ∈ lets := by decide +kernel
theorem cands_len : cands.length = 26 := by decide +kernel
theorem free_cand {zs : List Str} (h : zs.length ≤ 25) : cands.filter (fun c => !decide (c ∈ zs)) ≠ [] := fun e => by
  have := List.Nodup.length_le_of_subset (l₂ := zs) cands_nd fun x hx => by
    by_cases m : x ∈ zs
    · exact m
    · have : x ∈ cands.filter (fun c => !decide (c ∈ zs)) := List.mem_filter.mpr ⟨hx, by simp [m]⟩
      rw [e] at this
      cases this
  rw [cands_len] at this
  omega
theorem pot_strs {H : Hp} {p t : Addr} {zs : List Str} (h : PotOk H p) (g : H t = some (.lst (zs.map V.str))) : p ≠ t := by
  rintro rfl
  obtain ⟨s, e⟩ := h
  rw [e] at g
  cases zs with
  | nil => simp at g
  | cons z r => simp at g
theorem tup_pot {H H' : Hp} {p : Addr} (k : Kp [p] H H') (h : PotOk H p) : TupK H H' := .of k fun x hx => by
  rw [List.mem_singleton.mp hx]
  obtain ⟨s, e⟩ := h
  exact .lst e
def spName : Sp := fun vs H Q _ => ∃ (p t : Addr) (zs : List Str), vs = [.ref p, .ref t] ∧ PotOk H p ∧ H t = some (.lst (zs.map V.str)) ∧ Taken zs ∧ zs.length ≤ 20 ∧
  ∀ H' z, Kp [p, t] H H' → PotOk H' p → H' t = some (.lst ((zs ++ [z]).map V.str)) → Taken (zs ++ [z]) → Q (.str z) H'
def ten : List V := [.str "begin", .str "end", .str "fail", .str "have", .str "again", .str "note", .str "anew", .str "take", .str "set", .str "done"]
theorem ten_ok : ∀ y ∈ ten, ∃ z : Str, y = .str z ∧ OkN z := by
  have e : ∀ z ∈ (["begin", "end", "fail", "have", "again", "note", "anew", "take", "set", "done"] : List Str), 1 ≤ z.length ∧ z.length ≤ 8 ∧ ∀ c ∈ tl z, c ∈ lets := by decide +kernel
  intro y hy
  have : y ∈ (["begin", "end", "fail", "have", "again", "note", "anew", "take", "set", "done"] : List Str).map V.str := hy
  obtain ⟨z, hz, rfl⟩ := List.mem_map.mp this
  exact ⟨z, rfl, (e z hz).1, (e z hz).2.1, (e z hz).2.2⟩
section
variable {P : Program} {w : World} {K : PySem.W.Frag} {mg : Str → Option Value} {base : Heap} {C_MadeError C_Fault C_Failed C_Module C_Late C_Runs : Addr}
theorem pickM {α : Type} {xs : List α} {g : α → V} {v : Int} (h0 : 0 ≤ v) (h1 : v < (xs.length : Int)) : ∃ (n : Nat) (x : α), v = (n : Int) ∧ n < xs.length ∧ xs[n]? = some x ∧ x ∈ xs ∧ atI (xs.map g) v = some (g x) := by
  obtain ⟨n, rfl⟩ := Int.eq_ofNat_of_zero_le h0
  have hn : n < xs.length := by omega
  refine ⟨n, xs[n], rfl, hn, List.getElem?_eq_getElem hn, List.getElem_mem hn, atI_nat ?_⟩
  rw [List.getElem?_map, List.getElem?_eq_getElem hn]
  rfl
theorem ok_l_name {f : Addr} {fd : FuncData} (F : Fun K "_law_name" "_law_name" s_l_name f fd) (T : Txt K mg C_MadeError C_Fault C_Failed C_Module C_Late C_Runs)
    (D_l_draw : DnF P w K mg base 1 "_law_draw" ["_law_pot_here", "_law_many"] spDraw) :
    FnOk P w K mg base CX0 2 f fd ["_law_pot_here", "_law_taken"] spName := by
  refine F.ok sc_l_name (fun vs H Q E h => ?_) (fun cdv A outer s H vs Q E hr h => ?_)
  · obtain ⟨p, t, zs, rfl, _⟩ := h
    rfl
  · obtain ⟨f_l_draw, fd_l_draw, G_l_draw, m_l_draw, k_l_draw, b_l_draw⟩ := D_l_draw
    obtain ⟨p, t, zs, rfl, hp, ht, tk, nz, q⟩ := h
    have npt := pot_strs hp ht
    have eA : (tl ("abcdefghijklmnopqrstuvwxyz" : Str)) = lets := rfl
    refine ⟨_, (pss_cons (ps_set (i := 2) sc_l_name.nd rfl (Or.inr rfl) pe_str)
      (pss_cons (ps_set (i := 3) sc_l_name.nd rfl (Or.inl rfl) (pe_m1 PySem.F.slot_str_join PySem.F.type_str_join (joinK (K := K) rfl) pe_str (pe_lc (own := [("_law_k", 5)]) (g := gName 5) (tt := tYes) rfl sc_l_name.nd (pi_range1 rfl T.n_range (pa_cons (pe_op op_add pe_int (pe_op op_mul (pe_call G_l_draw (hr.mono (by first | decide | omega)) (by rfl) m_l_draw k_l_draw b_l_draw .nil pass0 (pa_cons (pv 0) (pa_cons pe_int pa_nil))) (pe_call G_l_draw (hr.mono (by first | decide | omega)) (by rfl) m_l_draw k_l_draw b_l_draw .nil pass0 (pa_cons (pv 0) (pa_cons pe_int pa_nil))))) pa_nil)) (blkOk_by (own := [("_law_k", 5)]) (N := N_l_name) (sc := (defScope s_l_name)) (by decide +kernel)) (fun _ _ _ _ _ => (pg_name (i := 5) sc_l_name.nd rfl (Or.inl rfl))) (fun _ _ _ _ _ => pts_nil) (fun _ _ _ _ _ => (pe_ix ix_str (pv 2) (pe_call G_l_draw (hr.mono (by first | decide | omega)) (by rfl) m_l_draw k_l_draw b_l_draw .nil pass0 (pa_cons (pv 0) (pa_cons pe_int pa_nil))) (fun _ _ => rfl))))))
      (pss_cons (ps_set (i := 4) sc_l_name.nd rfl (Or.inl rfl) (pe_call G_l_draw (hr.mono (by first | decide | omega)) (by rfl) m_l_draw k_l_draw b_l_draw .nil pass0 (pa_cons (pv 0) (pa_cons pe_int pa_nil))))
      (pss_cut2 (ps_if (pt_cmpR op_eq (pv 4) pe_int (nomark _)) (pss_one (ps_set (i := 3) sc_l_name.nd rfl (Or.inl rfl) (pe_ix (ixLK (K := K) rfl) (pe_lst (pa_cons pe_str (pa_cons pe_str (pa_cons pe_str (pa_cons pe_str (pa_cons pe_str (pa_cons pe_str (pa_cons pe_str (pa_cons pe_str (pa_cons pe_str (pa_cons pe_str pa_nil))))))))))) (pe_call G_l_draw (hr.mono (by first | decide | omega)) (by rfl) m_l_draw k_l_draw b_l_draw .nil pass0 (pa_cons (pv 0) (pa_cons pe_int pa_nil))) (fun _ _ => rfl)))) pss_nil)
      (pss_cut2 (ps_if (PW.pt (pw_and (pt_cmpR op_eq (pv 4) pe_int (nomark _)) (pw_and1 (pt_cmpR (neNilK (K := K) rfl hr.units) (pv 1) (pe_lst pa_nil) (nomark _))))) (pss_one (ps_set (i := 3) sc_l_name.nd rfl (Or.inl rfl) (pe_slice sl_str (pe_op addS (pe_ix (ixLK (K := K) rfl) (pv 1) (pe_un un_neg pe_int) (fun _ _ => rfl)) (pv 3)) po_none (po_some pe_int)))) pss_nil)
      (pss_cut2 (ps_if (pt_cmpR (inK (K := K) rfl) (pv 3) (pv 1) (by rfl)) (pss_one (ps_set (i := 3) sc_l_name.nd rfl (Or.inl rfl) (pe_ix (ixLK (K := K) rfl) (pe_lc (own := [("_law_letter", 6)]) (g := gName 6) rfl sc_l_name.nd (pi_str (pv 2)) (blkOk_by (own := [("_law_letter", 6)]) (N := N_l_name) (sc := (defScope s_l_name)) (by decide +kernel)) (fun _ _ _ _ _ => (pg_name (i := 6) sc_l_name.nd rfl (Or.inl rfl))) (fun _ _ _ _ _ => (pts_one (pt_cmpR (ninK (K := K) rfl) (pv 6) (pv 1) (by rfl)))) (fun _ _ _ _ _ => (pv 6))) pe_int (fun _ _ => rfl)))) pss_nil)
      (pss_cons (ps_expr (kBM (K := K) rfl (pe_bm PySem.F.plainAttrs_list PySem.F.slot_list_append PySem.F.type_list_append mt_append (pv 1) (pa_cons (pv 3) pa_nil))))
      (pss_one (ps_ret (pv 3)))))))))), ?_⟩
    refine st_start (σ' := [some (.ref p), some (.ref t), none, none, none, none, none]) rfl ?_
    walk_at "S"
    refine ⟨p, _, rfl, hp, by omega, by omega, fun H1 v1 k1 hp1 a0 a1 => ?_⟩
    walk_at "S"
    refine ⟨p, _, rfl, hp1, by omega, by omega, fun H2 v2 k2 hp2 b0 b1 => ?_⟩
    have kk : Kp [p] H H2 := k1.step k2 fun x hx => .inl hx
    have b3 : 0 ≤ v1 * v2 ∧ v1 * v2 ≤ 7 := by
      rcases (show v1 = 0 ∨ v1 = 1 by omega) with rfl | rfl
      · simp
      · simp only [Int.one_mul]; omega
    walk_at "S"
    generalize v1 * v2 = m at b3 ⊢
    refine ⟨by omega, by omega, fun l hl => ?_⟩
    have np : p ≠ l := hp2.ne hl
    let PL : Nat → List V → Prop := fun i xs => ∃ cs : List Nat, xs = (cs.map sg).map V.str ∧ (∀ c ∈ cs, c ∈ lets) ∧ cs.length = i
    have L : LcOkP l (1 + m).toNat PL [p] H2 (fun _ H => PotOk H p) :=
      ⟨small_le (by omega), ⟨[], rfl, by simp, rfl⟩, hl, ⟨np.symm, trivial⟩, fun _ _ _ h => h.upd np⟩
    refine lc_goP walk_range L hp2 (fun _ _ => trivial) (fun i x Ha Hb hi I y => ?_) fun H5 I => ?_
    · obtain ⟨rfl, rfl⟩ := y
      obtain ⟨_, _, hpI⟩ := id I
      walk_at "S"
      refine ⟨rfl, ?_⟩
      walk_at "S"
      refine ⟨p, _, rfl, hpI, by omega, by omega, fun Hc v kc hpc e0 e1 => ?_⟩
      obtain ⟨c, hc, hm⟩ := pickS (z := "abcdefghijklmnopqrstuvwxyz") e0 (by rw [show (tl ("abcdefghijklmnopqrstuvwxyz" : Str)).length = 26 from by decide +kernel]; omega)
      refine s_ixS (by decide +kernel) hc ?_
      refine I.put L hi (fun xs hx => ?_) kc hpc
      obtain ⟨cs, rfl, h1, h2⟩ := hx
      refine ⟨cs ++ [c], by simp, fun d hd => ?_, by simp [h2]⟩
      rcases List.mem_append.mp hd with hd | hd
      · exact h1 d hd
      · rw [List.mem_singleton.mp hd]
        exact hm
    obtain ⟨⟨xs, x0, ⟨cs, rfl, hcs, hcl⟩, _⟩, k5, hp5⟩ := I
    walk_at "S"
    have eL : ("" : Str).length = 0 := by decide +kernel
    refine s_joinL (zs := cs.map sg) (sq_l x0) (by rw [sg_sum, List.length_map, eL]; omega) ?_
    rw [join_sg]
    have k05 : Kp [p] H H5 := kk.step k5 fun x hx => .inl hx
    walk_at "S"
    refine ⟨p, _, rfl, hp5, by omega, by omega, fun H6 wy k6 hp6 w0 w1 => ?_⟩
    have k06 : Kp [p] H H6 := k05.step k6 fun x hx => .inl hx
    walk_at "S"
    refine s_cut (fun σ H7 => ∃ z : Str, σ = [some (.ref p), some (.ref t), some (.str "abcdefghijklmnopqrstuvwxyz"), some (.str z), some (.int wy), none, none] ∧ OkN z ∧ Kp [p] H H7 ∧ PotOk H7 p) (fun J hJ => ?_) ?_
    · walk_at "S"
      refine s_dec (fun h => ?_) (fun h => ?_)
      · walk_at "S"
        refine ⟨small_le (by simp), fun l2 hl2 => ?_⟩
        walk_at "S"
        have np2 := hp6.ne hl2
        refine ⟨p, _, rfl, hp6.upd np2, by omega, by omega, fun H7 v7 k7 hp7 e0 e1 => ?_⟩
        obtain ⟨y, hy, hm⟩ := pick (xs := ten) e0 e1
        obtain ⟨z, rfl, hz⟩ := ten_ok y hm
        refine s_ixL (xs := ten) (sq_l (k7.get ⟨np2.symm, trivial⟩ upd_same)) hy ?_
        walk_at "S"
        exact hJ _ _ ⟨z, rfl, hz, (k06.upd_new hl2).step k7 fun x hx => .inl hx, hp7⟩
      · walk_at "S"
        exact hJ _ _ ⟨_, rfl, .name (by omega) (by omega) hcs, k06, hp6⟩
    · rintro σ H7 ⟨z, rfl, hz, k07, hp7⟩
      have ht7 := k07.get ⟨npt.symm, trivial⟩ ht
      walk_at "S"
      refine s_cut (fun σ H8 => ∃ z : Str, σ = [some (.ref p), some (.ref t), some (.str "abcdefghijklmnopqrstuvwxyz"), some (.str z), some (.int wy), none, none] ∧ OkN z ∧ Kp [p] H H8 ∧ PotOk H8 p) (fun J hJ => ?_) ?_
      · walk_at "S"
        refine s_dec (fun h => ?_) (fun h => ?_)
        · walk_at "S"
          refine ⟨small_le (by simp), fun l2 hl2 => ?_⟩
          have np2 := hp7.ne hl2
          have ht8 : upd H7 l2 (.lst []) t = some (.lst (zs.map V.str)) := by walk_at "L"
          walk_at "S"
          refine s_nil0 (sq_l ht8) (sq_l upd_same) ?_
          walk_at "S"
          cases hzs : zs.reverse with
          | nil =>
            have e : zs = [] := by rw [← List.reverse_reverse zs, hzs]; rfl
            subst e
            walk_at "S"
            exact hJ _ _ ⟨z, rfl, hz, k07.upd_new hl2, hp7.upd np2⟩
          | cons zl zr =>
            have e : zs = zr.reverse ++ [zl] := by rw [← List.reverse_reverse zs, hzs, List.reverse_cons]
            have ml : zl ∈ zs := by rw [e]; simp
            rw [show ((zs.map V.str).isEmpty) = false from by rw [e]; simp]
            walk_at "S"
            refine s_ixL (xs := (zr.reverse).map V.str ++ [.str zl]) (sq_l (by rw [ht8, e, List.map_append]; rfl)) (atI_last _ _) ?_
            walk_at "S"
            have l1 := (tk.ok zl ml).len
            have l2' := hz.len
            refine s_addS (small_le (by omega)) ?_
            walk_at "S"
            refine s_slS (small_le (by rw [len_tl, tl_append, List.length_append, ← len_tl, ← len_tl]; omega)) ?_
            walk_at "S"
            refine hJ _ _ ⟨_, rfl, ⟨?_, cut8 _, ?_⟩, k07.upd_new hl2, hp7.upd np2⟩
            · have lz := (tk.ok zl ml).pos
              rw [cut8_len, len_tl, tl_append, List.length_append, ← len_tl, ← len_tl]
              omega
            · intro c hc
              have := cut_mem hc
              rw [tl_append] at this
              rcases List.mem_append.mp this with h | h
              · exact (tk.ok zl ml).abc c h
              · exact hz.abc c h
        · walk_at "S"
          exact hJ _ _ ⟨z, rfl, hz, k07, hp7⟩
      · rintro σ H8 ⟨z, rfl, hz, k08, hp8⟩
        have ht8 := k08.get ⟨npt.symm, trivial⟩ ht
        walk_at "S"
        refine s_cut (fun σ H9 => ∃ z : Str, σ = [some (.ref p), some (.ref t), some (.str "abcdefghijklmnopqrstuvwxyz"), some (.str z), some (.int wy), none, none] ∧ OkN z ∧ z ∉ zs ∧ Kp [p] H H9 ∧ PotOk H9 p) (fun J hJ => ?_) ?_
        · walk_at "S"
          refine ⟨t, _, rfl, .inl (sq_l ht8), rfl, flatV_strs zs, ?_⟩
          rw [inV_strs]
          walk_at "S"
          refine s_dec (fun h => ?_) (fun h => ?_)
          · walk_at "S"
            intro D1 hD1
            have L1 : LcOk D1 ("abcdefghijklmnopqrstuvwxyz" : Str).cps.size (fun i => (((lets.take i).map sg).filter fun c => !decide (c ∈ zs)).map V.str) [] H8 (fun _ _ => True) :=
              ⟨by decide +kernel, rfl, fun i hi => by
                rw [List.length_map]
                have := List.length_filter_le (fun c => !decide (c ∈ zs)) ((lets.take i).map sg)
                rw [List.length_map, List.length_take] at this
                omega, hD1, trivial, fun _ _ _ h => h⟩
            refine lc_go walk_str L1 trivial (fun _ _ => trivial) (fun i x H2' H' hi I y => ?_) fun H9 I => ?_
            · obtain ⟨rfl, c, hc, rfl⟩ := y
              have ht9 := I.2.1.get trivial ht8
              have ep : (lets.take (i + 1)).map sg = (lets.take i).map sg ++ [sg c] := by rw [take_put (lets_at hc), List.map_append]; rfl
              walk_at "S"
              refine ⟨rfl, ?_⟩
              walk_at "S"
              refine ⟨t, _, rfl, .inl (sq_l ht9), rfl, flatV_strs zs, ?_⟩
              rw [inV_strs]
              walk_at "S"
              refine s_ndec (fun h => ?_) (fun h => ?_)
              · walk_at "S"
                refine I.put L1 hi ?_ Kp.refl trivial
                rw [ep, List.filter_append, List.map_append]
                congr 1
                rw [List.filter_cons_of_pos (by simpa using h)]
                rfl
              · refine I.skip L1 ?_ Kp.refl trivial
                rw [ep, List.filter_append, List.filter_cons_of_neg (by simpa using h)]
                simp
            obtain ⟨x1, k9, _⟩ := I
            dsimp only at x1
            rw [show List.take ("abcdefghijklmnopqrstuvwxyz" : Str).cps.size lets = lets from by decide +kernel] at x1
            obtain ⟨c, r, ecr⟩ : ∃ c r, (lets.map sg).filter (fun c => !decide (c ∈ zs)) = c :: r := by
              cases e : (lets.map sg).filter (fun c => !decide (c ∈ zs)) with
              | nil => exact absurd e (free_cand (by omega))
              | cons c r => exact ⟨c, r, rfl⟩
            rw [ecr] at x1
            have mc : c ∈ (lets.map sg).filter (fun c => !decide (c ∈ zs)) := by rw [ecr]; exact List.mem_cons_self
            rw [List.mem_filter] at mc
            walk_at "S"
            refine s_ixL (sq_l x1) (k := ((0 : Nat) : Int)) (atI_nat rfl) ?_
            walk_at "S"
            exact hJ _ _ ⟨c, rfl, ⟨(cands_ok c mc.1).1, (cands_ok c mc.1).2.1, (cands_ok c mc.1).2.2⟩, by simpa using mc.2, k08.tr (Kp.nil_W k9), hp8.kp k9 trivial⟩
          · walk_at "S"
            exact hJ _ _ ⟨z, rfl, hz, h, k08, hp8⟩
        · rintro σ H9 ⟨z, rfl, hz, nm, k09, hp9⟩
          have ht9 := k09.get ⟨npt.symm, trivial⟩ ht
          walk_at "S"
          refine s_append ht9 (small_lt (by rw [List.length_map]; omega)) ?_
          walk_at "S"
          refine q _ z ?_ (hp9.upd npt) (by rw [upd_same, List.map_append]; rfl) ⟨List.nodup_append.mpr ⟨tk.nd, List.pairwise_singleton _ _, fun a ha b hb e => nm (by rw [← List.mem_singleton.mp hb, ← e]; exact ha)⟩, fun y hy => ?_⟩
          · exact (k09.weak fun x hx => by rw [List.mem_singleton.mp hx]; exact List.mem_cons_self).upd_mem (by simp)
          · rcases List.mem_append.mp hy with hy | hy
            · exact tk.ok y hy
            · rw [List.mem_singleton.mp hy]; exact hz
end

/-! some finders in a list -/
structure FI (K : PySem.W.Frag) (H0 H : Hp) (p F : Addr) (shs : List Sf) (ds : List Shelf) : Prop where
  kp : Kp [p] H0 H
  hp : PotOk H p
  eF : H F = some (.lst (shs.map fun x => V.ref x.a))
  sh : Paired (ShR K H) shs ds
  nd : (shs.map (·.a)).Nodup
  nw : ∀ y ∈ shs, H0 y.a = none
  nF : H0 F = none
theorem pot_dK {H : Hp} {p d : Addr} {kvs : List (Key × V)} (h : PotOk H p) (e : H d = some (.dK kvs)) : p ≠ d := by
  rintro rfl
  obtain ⟨s, e1⟩ := h
  rw [e1] at e
  cases e
theorem lst_dK {H : Hp} {p d : Addr} {xs : List V} {kvs : List (Key × V)} (h : H p = some (.lst xs)) (e : H d = some (.dK kvs)) : d ≠ p := by
  rintro rfl
  rw [h] at e
  cases e
theorem pot_refs {α : Type} {H : Hp} {p t : Addr} {zs : List α} {g : α → Addr} (h : PotOk H p) (e : H t = some (.lst (zs.map fun z => V.ref (g z)))) : p ≠ t := by
  rintro rfl
  obtain ⟨s, e1⟩ := h
  rw [e1] at e
  cases zs with
  | nil => simp at e
  | cons z r => simp at e
section
variable {K : PySem.W.Frag} {H0 H H' : Hp} {p F : Addr} {shs : List Sf} {ds : List Shelf}
theorem shs_ne (sh : Paired (ShR K H) shs ds) {W : List Addr} (n : ∀ (x : Addr) kvs, H x = some (.dK kvs) → x ∉ W) : ∀ x ∈ shs, x.a ∉ W := fun x hx => by
  obtain ⟨i, ei⟩ := List.mem_iff_getElem?.mp hx
  obtain ⟨d, _, r⟩ := paired_get sh ei
  exact n _ _ r.at_
theorem FI.pot (I : FI K H0 H p F shs ds) (k : Kp [p] H H') (h : PotOk H' p) : FI K H0 H' p F shs ds := by
  have t := tup_pot k I.hp
  exact ⟨I.kp.tr k, h, k.get (nin1' (pot_refs I.hp I.eF)) I.eF, Paired.mapP I.sh fun y e r => r.tup t (k.get (nin1' (pot_dK I.hp r.at_)) r.at_) rfl, I.nd, I.nw, I.nF⟩
theorem FI.same (I : FI K H0 H p F shs ds) (k : Kp [] H H') : FI K H0 H' p F shs ds := by
  have t := TupK.same k
  exact ⟨I.kp.tr (Kp.nil_W k), I.hp.kp k trivial, k.get trivial I.eF, Paired.mapP I.sh fun y e r => r.tup t (k.get trivial r.at_) rfl, I.nd, I.nw, I.nF⟩
theorem FI.putNew (I : FI K H0 H p F shs ds) {fa : Addr} {kvs : List (Key × V)} {e : Shelf} {z : Str} {b : List PH.Row} {v : V} (r : ShR K H ⟨fa, kvs⟩ e) (n0 : H0 fa = none) (nf : fa ∉ shs.map (·.a)) (dv : Dp K H v (.tuple (rowsD b))) :
    FI K H0 (upd H fa (.dK (putK kvs (.inr z) v))) p F shs ds ∧ ShR K (upd H fa (.dK (putK kvs (.inr z) v))) ⟨fa, putK kvs (.inr z) v⟩ (putA e z b) ∧ ∀ B xs, H B = some (.lst xs) → upd H fa (.dK (putK kvs (.inr z) v)) B = some (.lst xs) := by
  have k : Kp [fa] H (upd H fa (.dK (putK kvs (.inr z) v))) := Kp.refl.upd_mem List.mem_cons_self
  have t : TupK H (upd H fa (.dK (putK kvs (.inr z) v))) := (Keep.one r.at_ (.dK _)).tup
  have ls : ∀ B xs, H B = some (.lst xs) → upd H fa (.dK (putK kvs (.inr z) v)) B = some (.lst xs) := fun B xs h => k.get ⟨(lst_dK h r.at_).symm, trivial⟩ h
  refine ⟨⟨I.kp.upd_loc n0, I.hp.upd (pot_dK I.hp r.at_), ls _ _ I.eF, ?_, I.nd, I.nw, I.nF⟩, ⟨upd_same, NmR.put (r.nm.mono fun b v q => Dp.tups t _ _ (flat_rowsD b) q) (Dp.tups t _ _ (flat_rowsD b) dv)⟩, ls⟩
  have all : ∀ {shs : List Sf} {ds : List Shelf}, fa ∉ shs.map (·.a) → Paired (ShR K H) shs ds → Paired (ShR K (upd H fa (.dK (putK kvs (.inr z) v)))) shs ds := fun {shs ds} nf h => by
    induction h with
    | nil => exact .nil
    | @cons x d _ _ a b ih =>
      rw [List.map_cons, List.mem_cons, not_or] at nf
      exact .cons (a.tup t (k.get ⟨fun e => nf.1 e.symm, trivial⟩ a.at_) rfl) (ih nf.2)
  exact all nf I.sh
theorem FI.more (I : FI K H0 H p F shs ds) {fa : Addr} {kvs : List (Key × V)} {e : Shelf} (r : ShR K H ⟨fa, kvs⟩ e) (n0 : H0 fa = none) (nf : fa ∉ shs.map (·.a)) :
    FI K H0 (upd H F (.lst ((shs.map fun x => V.ref x.a) ++ [.ref fa]))) p F (shs ++ [⟨fa, kvs⟩]) (ds ++ [e]) := by
  have k : Kp [F] H (upd H F (.lst ((shs.map fun x => V.ref x.a) ++ [.ref fa]))) := Kp.refl.upd_mem List.mem_cons_self
  have t : TupK H (upd H F (.lst ((shs.map fun x => V.ref x.a) ++ [.ref fa]))) := (Keep.one I.eF (.lst _)).tup
  have nd : ∀ (x : Addr) kvs, H x = some (.dK kvs) → x ≠ F := fun x kvs h e => by rw [e, I.eF] at h; cases h
  refine ⟨I.kp.upd_loc I.nF, I.hp.upd (pot_refs I.hp I.eF), by rw [upd_same, List.map_append]; rfl, Paired.snoc (Paired.mapP I.sh fun y e r => r.tup t (k.get ⟨nd _ _ r.at_, trivial⟩ r.at_) rfl) (r.tup t (k.get ⟨nd _ _ r.at_, trivial⟩ r.at_) rfl), ?_, fun y hy => ?_, I.nF⟩
  · rw [List.map_append]
    exact List.nodup_append.mpr ⟨I.nd, List.pairwise_singleton _ _, fun a ha b hb c => nf (by rw [← show b = fa from List.mem_singleton.mp hb, ← c]; exact ha)⟩
  · rcases List.mem_append.mp hy with hy | hy
    · exact I.nw y hy
    · rw [List.mem_singleton.mp hy]; exact n0
end
/-- each of these bodies sets its own path -/
structure SetSh (ps : List Str) (e : Shelf) : Prop where
  nd : (e.map (·.1)).Nodup
  bod : ∀ y ∈ e, y.1 ∈ ps ∧ ∃ n : Nat, n < 100000 ∧ y.2 = [PH.Row.set y.1 (n : Nat)]
theorem SetSh.nil {ps : List Str} : SetSh ps [] := ⟨List.nodup_nil, fun y hy => nomatch hy⟩
theorem SetSh.put {ps : List Str} {e : Shelf} {z : Str} {n : Nat} (h : SetSh ps e) (hz : z ∈ ps) (l : n < 100000) (nz : z ∉ e.map (·.1)) : SetSh ps (putA e z [PH.Row.set z (n : Nat)]) := by
  rw [putA_new nz]
  refine ⟨?_, fun y hy => ?_⟩
  · rw [List.map_append]
    exact List.nodup_append.mpr ⟨h.nd, List.pairwise_singleton _ _, fun a ha b hb c => nz (by rw [← show b = z from List.mem_singleton.mp hb, ← c]; exact ha)⟩
  · rcases List.mem_append.mp hy with hy | hy
    · exact h.bod y hy
    · rw [List.mem_singleton.mp hy]; exact ⟨hz, n, l, rfl⟩
def spFinders (K : PySem.W.Frag) : Sp := fun vs H Q _ => ∃ (p B : Addr) (ps : List Str), vs = [.ref p, .ref B] ∧ PotOk H p ∧ H B = some (.lst (ps.map V.str)) ∧ ps.Nodup ∧ ps.length ≤ 10 ∧
  ∀ H' F shs ds, FI K H H' p F shs ds → (∀ e ∈ ds, SetSh ps e) → 1 ≤ shs.length → shs.length ≤ 8 → Q (.ref F) H'
/-- what is told of a path: None, or its body -/
structure FoundV (K : PySem.W.Frag) (H : Hp) (o : Option (List PH.Row)) (v : V) : Prop where
  no : o = none → v = .non
  yes : ∀ b, o = some b → Dp K H v (.tuple (rowsD b))
def spFoundL (K : PySem.W.Frag) : Sp := fun vs H Q _ => ∃ (F : Addr) (shs : List Sf) (ds : List Shelf) (p : Str), vs = [.ref F, .str p] ∧ SqL K H F (shs.map fun x => V.ref x.a) ∧ Paired (ShR K H) shs ds ∧
  ∀ v, FoundV K H (fndS ds p) v → Q v H
def spTook (K : PySem.W.Frag) (C : Cl) : Sp := fun vs H Q _ => ∃ (W : Wd) (ps : List Str) (h : HA) (s : Hs) (a : Ab) (p : Str), vs = [.ref h.self, .str p] ∧ isPathL (tl p) = true ∧ WOk 3 W ps wayR ∧ rem ps a.unbroken < 10 ∧ lot ps a.unbroken ≤ 700000 ∧ a.line.length ≤ 900 ∧ HouseAt K C W H h s a ∧
  ∀ b r, oneF wayR W.fnd 10 a.unbroken p = (b, r) → ∀ H' s' T, Stp K C W h H s a H' s' b → (∀ m, r = .ok m → H' T = some (.tup [.str "told", .int ((m + 1 : Nat) : Int)])) → (∀ f, r = .error f → Dp K H' (.ref T) (.tuple [PH.S "refused", f])) → Q (.ref T) H'
section
variable {P : Program} {w : World} {K : PySem.W.Frag} {mg : Str → Option Value} {base : Heap} {C_MadeError C_Fault C_Failed C_Module C_Late C_Runs : Addr}
theorem ok_l_took {f : Addr} {fd : FuncData} (F : Fun K "_law_took" "_law_took" s_l_took f fd) (T : Txt K mg C_MadeError C_Fault C_Failed C_Module C_Late C_Runs)
    (D_Runs_take : L3.DmY P w K mg base (7 * 10 + 11) C_Runs "take" ["self", "path"] (spTake K ⟨C_Runs, C_Module, C_Late⟩ 3 wayR C_Failed 10)) :
    FnOk P w K mg base CX0 90 f fd ["_law_house", "_law_path"] (spTook K ⟨C_Runs, C_Module, C_Late⟩) := by
  refine F.ok sc_l_took (fun vs H Q E h => ?_) (fun cdv A outer s H vs Q E hr h => ?_)
  · obtain ⟨W, ps, h, s, a, p, rfl, _⟩ := h
    rfl
  · obtain ⟨f_Runs_take, fd_Runs_take, G_Runs_take, mt_Runs_take, b_Runs_take⟩ := D_Runs_take
    obtain ⟨W, ps, h, s, a, p, rfl, hp, B, rm, lt, ll, I, q1⟩ := h
    have hu := hu_of hr
    refine ⟨_, (pss_cons (ps_set (i := 2) sc_l_took.nd rfl (Or.inl rfl) pe_non)
      (pss_cons (L3.ps_try_asR (i := 3) rfl rfl rfl sc_l_took.nd rfl rfl ⟨by rfl, by decide, .inl T.mg_Failed⟩ (fun hd => PySem.PassesOwnAt.never) L3.takes0 (fun W pn xe tk po => (pss_one (ps_set (i := 2) sc_l_took.nd rfl (Or.inl rfl) (pe_tup (pa_cons pe_str (pa_cons (L3.pe_methY (pv 0) T.cl_Runs mt_Runs_take G_Runs_take (hr.mono (by first | decide | omega)) b_Runs_take (fun σ => L3.passAt tk σ) (pa_cons (pv 1) pa_nil)) pa_nil)))))) (fun xa xT cls d oe pn xe hp hz hf hot tk tb => (pss_one (ps_set (i := 2) sc_l_took.nd rfl (Or.inl rfl) (pe_tup (pa_cons pe_str (pa_cons (L3.pe_xfR T.xf_Failed T.no_Failed_fault hp hz hf (pv 3)) pa_nil)))))))
      (pss_one (ps_ret (pv 2))))), ?_⟩
    refine st_start (σ' := [some (.ref h.self), some (.str p), none, none]) rfl ?_
    walk_at "S"
    refine s_insM I.ob (lkR_none (m := "take") (by decide +kernel)) ?_
    walk_at "S"
    refine ⟨W, ps, h, s, a, p, rfl, hp, B, rm, lt, by omega, I, fun b m eq H' s' st => ?_, fun b f eq H' s' d st fa => ?_⟩
    · walk_at "S"
      refine ⟨small_le (by simp), fun t ht => ?_⟩
      have kt : Kp [] H' (upd H' t (.tup [.str "told", .int ((m + 1 : Nat) : Int)])) := kp_new ht
      walk_at "S"
      exact q1 b (.ok m) eq _ s' t (st.tr (Stp.same st.at_ kt)) (fun m' e => by cases e; exact upd_same) (fun f e => nomatch e)
    · refine L3.w_as T.te_Failed fun xa nxa => ?_
      obtain ⟨fv, rl, rs, ed, df, ff, er, dr⟩ := fa
      walk_at "S"
      refine s_xf ?_
      walk_at "S"
      refine ⟨rfl, rfl, d, _, fv, rfl, ed, (look_cons (by decide +kernel)).trans look_hit, ?_⟩
      walk_at "S"
      refine ⟨small_le (by simp), fun t ht => ?_⟩
      have kt : Kp [] H' (upd H' t (.tup [.str "refused", fv])) := kp_new ht
      have tk := TupK.same kt
      walk_at "S"
      exact q1 b (.error f) eq _ s' t (st.tr (Stp.same st.at_ kt)) (fun m e => nomatch e) fun f' e => by cases e; exact (.tup (sq_t upd_same) (.cons (.str _) (.cons (Dp.tups tk _ _ ff df) .nil)))
theorem ok_l_found {f : Addr} {fd : FuncData} (F : Fun K "_law_found" "_law_found" s_l_found f fd) (T : Txt K mg C_MadeError C_Fault C_Failed C_Module C_Late C_Runs)
     :
    FnOk P w K mg base CX0 1 f fd ["_law_finders_here", "_law_path"] (spFoundL K) := by
  refine F.ok sc_l_found (fun vs H Q E h => ?_) (fun cdv A outer s H vs Q E hr h => ?_)
  · obtain ⟨F, shs, ds, p, rfl, _⟩ := h
    rfl
  · skip
    obtain ⟨F, shs, ds, p, rfl, eF, sh, q⟩ := h
    have hu := hu_of hr
    refine ⟨_, (pss_cons (ps_for PassesOwn.never rfl (kiL (K := K) rfl (pi_list (pv 0))) (pg_name (i := 2) sc_l_found.nd rfl (Or.inl rfl)) (pss_one (ps_if (pt_cmp (pc_din hu (pv 1) (pv 2))) (pss_one (ps_ret (pe_dget hu (pv 2) (pv 1) (fun _ _ => rfl)))) pss_nil)))
      (pss_one (ps_ret pe_non))), ?_⟩
    refine st_start (σ' := [some (.ref F), some (.str p), none]) rfl ?_
    walk_at "S"
    refine ⟨⟨_, eF⟩, ?_⟩
    refine for_go (walk_list (K := K) (a := F) (xs := shs.map fun x => V.ref x.a)) (fun i σ H1 => ∃ o2 : Option V, σ = [some (.ref F), some (.str p), o2] ∧ H1 = H ∧ fndS ds p = fndS (ds.drop i) p)
      ⟨_, rfl, rfl, rfl⟩ (fun i σ H1 _ I1 => by obtain ⟨_, _, rfl, _⟩ := I1; exact eF) (fun i x' σ Ha Hb hi I1 y => ?_) fun σ H1 I1 => ?_
    · obtain ⟨rfl, hx⟩ := y
      obtain ⟨o2, rfl, rfl, le⟩ := I1
      rw [List.getElem?_map] at hx
      obtain ⟨y, ey, rfl⟩ : ∃ y, shs[i]? = some y ∧ x' = V.ref y.a := by
        cases e : shs[i]? with
        | none => rw [e] at hx; cases hx
        | some y => rw [e] at hx; exact ⟨y, rfl, (Option.some.inj hx).symm⟩
      obtain ⟨e, ee, r⟩ := paired_get sh ey
      have dr : ds.drop i = e :: ds.drop (i + 1) := by
        obtain ⟨li, ei⟩ := List.getElem?_eq_some_iff.mp ee
        rw [List.drop_eq_getElem_cons li, ei]
      rw [dr, fndS_cons] at le
      walk_at "S"
      refine s_inS r.at_ ?_
      walk_at "S"
      rcases r.nm.get p with ⟨g, gv⟩ | ⟨b, vb, gb, gv, db⟩
      · rw [gv]
        rw [g] at le
        refine s_bool (fun h => nomatch h) (fun _ => ?_)
        walk_at "S"
        exact ⟨_, rfl, rfl, le⟩
      · rw [gv]
        rw [gb] at le
        refine s_bool (fun _ => ?_) (fun h => nomatch h)
        walk_at "S"
        refine s_getS r.at_ gv ?_
        walk_at "S"
        exact q vb ⟨(fun h => by rw [le] at h; cases h), (fun b' e => by rw [le] at e; cases e; exact db)⟩
    · obtain ⟨o2, rfl, rfl, le⟩ := I1
      walk_at "S"
      have none_ : fndS ds p = none := by
        rw [le, List.length_map, Paired.length sh, List.drop_length]
        rfl
      exact q .non ⟨fun _ => rfl, fun b e => by rw [none_] at e; cases e⟩
theorem ok_l_finders {f : Addr} {fd : FuncData} (F : Fun K "_law_finders" "_law_finders" s_l_finders f fd) (T : Txt K mg C_MadeError C_Fault C_Failed C_Module C_Late C_Runs)
    (D_l_draw : DnF P w K mg base 1 "_law_draw" ["_law_pot_here", "_law_many"] spDraw) :
    FnOk P w K mg base CX0 2 f fd ["_law_pot_here", "_law_paths"] (spFinders K) := by
  refine F.ok sc_l_finders (fun vs H Q E h => ?_) (fun cdv A outer s H vs Q E hr h => ?_)
  · obtain ⟨p, B, ps, rfl, _⟩ := h
    rfl
  · obtain ⟨f_l_draw, fd_l_draw, G_l_draw, m_l_draw, k_l_draw, b_l_draw⟩ := D_l_draw
    obtain ⟨p, B, ps, rfl, hp, hB, nd, lps, q⟩ := h
    have hu := hu_of hr
    refine ⟨_, (pss_cons (ps_set (i := 2) sc_l_finders.nd rfl (Or.inl rfl) (pe_lst pa_nil))
      (pss_cons (ps_set (i := 3) sc_l_finders.nd rfl (Or.inl rfl) (pe_cmpR op_eq (pe_call G_l_draw (hr.mono (by first | decide | omega)) (by rfl) m_l_draw k_l_draw b_l_draw .nil pass0 (pa_cons (pv 0) (pa_cons pe_int pa_nil))) pe_int (nomark _)))
      (pss_cons (ps_for PassesOwn.never rfl (pi_range1 rfl T.n_range (pa_cons (pe_op op_add pe_int (pe_call G_l_draw (hr.mono (by first | decide | omega)) (by rfl) m_l_draw k_l_draw b_l_draw .nil pass0 (pa_cons (pv 0) (pa_cons pe_int pa_nil)))) pa_nil)) (pg_name (i := 4) sc_l_finders.nd rfl (Or.inl rfl)) (pss_cons (ps_set (i := 5) sc_l_finders.nd rfl (Or.inl rfl) pe_dnewK)
      (pss_cons (ps_for PassesOwn.never rfl (kiE (K := K) rfl (pi_enum (by rfl) T.n_enumerate (pa_cons (pv 1) pa_nil))) (kgT (K := K) rfl (pg_tup rfl (pgs_cons (pg_name (i := 6) sc_l_finders.nd rfl (Or.inl rfl)) (pgs_cons (pg_name (i := 7) sc_l_finders.nd rfl (Or.inl rfl)) pgs_nil)))) (pss_one (ps_if (PW.pt (pw_or (pt_val (pv 3)) (pw_or1 (pt_cmpR op_eq (pe_call G_l_draw (hr.mono (by first | decide | omega)) (by rfl) m_l_draw k_l_draw b_l_draw .nil pass0 (pa_cons (pv 0) (pa_cons pe_int pa_nil))) pe_int (nomark _))))) (pss_one (ps_dput hu (pv 5) (pv 7) (pe_tup (pa_cons (pe_tup (pa_cons pe_str (pa_cons (pv 7) (pa_cons (pe_op op_add (pe_op op_mul pe_int (pv 4)) (pv 6)) pa_nil)))) pa_nil)) rfl)) pss_nil)))
      (pss_one (ps_expr (kBM (K := K) rfl (pe_bm PySem.F.plainAttrs_list PySem.F.slot_list_append PySem.F.type_list_append mt_append (pv 2) (pa_cons (pv 5) pa_nil))))))))
      (pss_one (ps_ret (pv 2)))))), ?_⟩
    refine st_start (σ' := [some (.ref p), some (.ref B), none, none, none, none, none, none]) rfl ?_
    walk_at "S"
    refine ⟨small_le (by simp), fun F hF => ?_⟩
    have npF := hp.ne hF
    have npB := pot_strs hp hB
    have nFB : F ≠ B := (ne_of_none hB hF).symm
    have hp0 := hp.upd npF (o := .lst [])
    have k0 : Kp [p] H (upd H F (.lst [])) := Kp.nil_W (kp_new hF)
    have eB0 : upd H F (.lst []) B = some (.lst (ps.map V.str)) := (upd_ne nFB.symm).trans hB
    have eF0 : upd H F (.lst []) F = some (.lst []) := upd_same
    generalize upd H F (.lst []) = H0 at *
    walk_at "S"
    refine ⟨p, _, rfl, hp0, by omega, by omega, fun H1 v1 k1 hp1 a0 a1 => ?_⟩
    walk_at "S"
    refine ⟨p, _, rfl, hp1, by omega, by omega, fun H2 v2 k2 hp2 b0 b1 => ?_⟩
    walk_at "S"
    refine ⟨by omega, by omega, ?_⟩
    have k02 := k1.tr k2
    have I0 : FI K H H2 p F [] [] := ⟨k0.tr k02, hp2, k02.get (nin1' npF) eF0, .nil, List.nodup_nil, (fun y hy => nomatch hy), hF⟩
    generalize (decide (V.int v1 = V.int 0)) = full
    refine for_go walk_range (fun i σ Hi => ∃ (shs : List Sf) (ds : List Shelf) (o4 o5 o6 o7 : Option V), σ = [some (.ref p), some (.ref B), some (.ref F), some (.bl full), o4, o5, o6, o7] ∧ FI K H Hi p F shs ds ∧ Hi B = some (.lst (ps.map V.str)) ∧ (∀ e ∈ ds, SetSh ps e) ∧ shs.length = i)
      ⟨[], [], _, _, _, _, rfl, I0, k02.get (nin1' npB) eB0, (fun e he => nomatch he), rfl⟩ (fun _ _ _ _ _ => trivial) (fun i x σ Ha Hb hi I y => ?_) fun σ H3 I => ?_
    · obtain ⟨rfl, rfl⟩ := y
      obtain ⟨shs, ds, o4, o5, o6, o7, rfl, I, eB, hd, li⟩ := I
      walk_at "S"
      intro fa hfa
      have kf : Kp [] Hb (upd Hb fa (.dK [])) := kp_new hfa
      have nfa : H fa = none := I.kp.free ⟨(I.hp.ne hfa).symm, trivial⟩ hfa
      have nfs : fa ∉ shs.map (·.a) := fun h => by
        obtain ⟨y, hy, e⟩ := List.mem_map.mp h
        obtain ⟨j, ej⟩ := List.mem_iff_getElem?.mp hy
        obtain ⟨d, _, r⟩ := paired_get I.sh ej
        have := r.at_
        rw [e, hfa] at this
        cases this
      have nFf : F ≠ fa := ne_of_none I.eF hfa
      have I := I.same kf
      have eB := kf.get trivial eB
      have ef : upd Hb fa (.dK []) fa = some (.dK []) := upd_same
      generalize upd Hb fa (.dK []) = Hc at *
      walk_at "S"
      refine s_iEnum ?_
      walk_at "S"
      refine ⟨B, _, rfl, sq_l eB, ?_⟩
      refine for_go walk_enum (fun j σ Hj => ∃ (kvs : List (Key × V)) (e : Shelf) (o6 o7 : Option V), σ = [some (.ref p), some (.ref B), some (.ref F), some (.bl full), some (.int (0 + (i : Nat))), some (.ref fa), o6, o7] ∧ FI K H Hj p F shs ds ∧ Hj B = some (.lst (ps.map V.str)) ∧ ShR K Hj ⟨fa, kvs⟩ e ∧ SetSh ps e ∧ ∀ z ∈ e.map (·.1), z ∈ ps.take j)
        ⟨[], [], _, _, rfl, I, eB, ⟨ef, .nil⟩, .nil, by simp⟩ (fun j σ Hj _ I => by obtain ⟨_, _, _, _, _, _, e, _⟩ := I; exact sq_l e) (fun j x σ Hj Hk hj Ij yy => ?_) fun σ Hj Ij => ?_
      · obtain ⟨t, kx, vx, rfl, nt, rfl, y1, y2⟩ := yy
        obtain ⟨kvs, e, o6, o7, rfl, I, eB, r, se, ke⟩ := Ij
        rw [List.length_map] at hj
        have ez := List.getElem?_eq_getElem hj
        generalize ps[j] = z at ez
        dsimp only at y1 y2
        rw [List.getElem?_map, ez] at y2
        obtain rfl : V.int (j : Nat) = kx := Option.some.inj y1
        obtain rfl : V.str z = vx := Option.some.inj y2
        refine s_gtup (sq_t upd_same) rfl ?_
        have kt := kp_new (o := .tup [.int (j : Nat), .str z]) nt
        have I := I.same kt
        have eB := kt.get trivial eB
        have r := r.tup (x' := ⟨fa, kvs⟩) (TupK.same kt) (kt.get trivial r.at_) rfl
        generalize upd Hj t (.tup [.int (j : Nat), .str z]) = Hl at *
        walk_at "S"
        have nze : z ∉ e.map (·.1) := fun h => by
          obtain ⟨m, hm, e2⟩ := List.mem_take_iff_getElem.mp (ke z h)
          exact absurd (e2.trans (List.getElem?_eq_some_iff.mp ez).2.symm) (List.pairwise_iff_getElem.mp nd m j (by omega) hj (by omega))
        have len : e.length ≤ 10 := by
          have h := List.Nodup.length_le_of_subset se.nd fun y hy => List.mem_of_mem_take (ke y hy)
          rw [List.length_map] at h
          omega
        have mz : z ∈ ps := List.mem_of_getElem? ez
        have num : (1000 * (0 + (i : Int)) + (j : Int)) = ((1000 * i + j : Nat) : Int) := by omega
        have kt2 : ∀ z' ∈ e.map (·.1), z' ∈ ps.take (j + 1) := fun y hy => by rw [take_put ez]; exact List.mem_append_left _ (ke y hy)
        have kt3 : ∀ z' ∈ (putA e z [PH.Row.set z ((1000 * i + j : Nat) : Int)]).map (·.1), z' ∈ ps.take (j + 1) := fun y hy => by
          rw [putA_new nze, List.map_append] at hy
          rcases List.mem_append.mp hy with hy | hy
          · exact kt2 y hy
          · rw [take_put ez, List.mem_singleton.mp hy]; exact List.mem_append_right _ List.mem_cons_self
        cases full with
        | true =>
          rw [if_pos rfl, if_pos rfl]
          walk_at "S"
          refine ⟨small_le (by simp), fun t1 ht1 => ?_⟩
          rw [num]
          have I := I.same (kp_new (o := .tup [.str "set", .str z, .int ((1000 * i + j : Nat) : Int)]) ht1)
          have eB := (kp_new (o := .tup [.str "set", .str z, .int ((1000 * i + j : Nat) : Int)]) ht1).get trivial eB
          have r := r.tup (x' := ⟨fa, kvs⟩) (TupK.same (kp_new (o := .tup [.str "set", .str z, .int ((1000 * i + j : Nat) : Int)]) ht1)) ((kp_new ht1).get trivial r.at_) rfl
          have e1 : upd Hl t1 (.tup [.str "set", .str z, .int ((1000 * i + j : Nat) : Int)]) t1 = some (.tup [.str "set", .str z, .int ((1000 * i + j : Nat) : Int)]) := upd_same
          generalize upd Hl t1 (.tup [.str "set", .str z, .int ((1000 * i + j : Nat) : Int)]) = Hm at *
          walk_at "S"
          refine ⟨small_le (by simp), fun t2 ht2 => ?_⟩
          have k2 := kp_new (o := .tup [.ref t1]) ht2
          have dv : Dp K (upd Hm t2 (.tup [.ref t1])) (.ref t2) (.tuple (rowsD [PH.Row.set z ((1000 * i + j : Nat) : Int)])) := .tup (sq_t upd_same) (.cons (.tup (seqT_tups (TupK.same k2) (sq_t e1)) (.cons (.str _) (.cons (.str _) (.cons (.int _) .nil)))) .nil)
          have I := I.same k2
          have eB := k2.get trivial eB
          have r := r.tup (x' := ⟨fa, kvs⟩) (TupK.same k2) (k2.get trivial r.at_) rfl
          generalize upd Hm t2 (.tup [.ref t1]) = Hn at *
          walk_at "S"
          refine s_putS r.at_ (small_lt (by rw [NmR.len r.nm]; omega)) ?_
          obtain ⟨I2, r2, keep⟩ := I.putNew (z := z) r nfa nfs dv
          exact ⟨_, _, _, _, rfl, I2, keep _ _ eB, r2, se.put mz (by omega) nze, kt3⟩
        | false =>
          rw [if_neg (by simp)]
          walk_at "S"
          refine ⟨p, _, rfl, I.hp, by omega, by omega, fun Hx vx kx hpx c0 c1 => ?_⟩
          have eB := kx.get (nin1' npB) eB
          have r := r.tup (x' := ⟨fa, kvs⟩) (tup_pot kx I.hp) (kx.get (nin1' (pot_dK I.hp r.at_)) r.at_) rfl
          have I := I.pot kx hpx
          walk_at "S"
          refine s_dec (fun hz => ?_) (fun hz => ?_)
          · walk_at "S"
            refine ⟨small_le (by simp), fun t1 ht1 => ?_⟩
            rw [num]
            have I := I.same (kp_new (o := .tup [.str "set", .str z, .int ((1000 * i + j : Nat) : Int)]) ht1)
            have eB := (kp_new (o := .tup [.str "set", .str z, .int ((1000 * i + j : Nat) : Int)]) ht1).get trivial eB
            have r := r.tup (x' := ⟨fa, kvs⟩) (TupK.same (kp_new (o := .tup [.str "set", .str z, .int ((1000 * i + j : Nat) : Int)]) ht1)) ((kp_new ht1).get trivial r.at_) rfl
            have e1 : upd Hx t1 (.tup [.str "set", .str z, .int ((1000 * i + j : Nat) : Int)]) t1 = some (.tup [.str "set", .str z, .int ((1000 * i + j : Nat) : Int)]) := upd_same
            generalize upd Hx t1 (.tup [.str "set", .str z, .int ((1000 * i + j : Nat) : Int)]) = Hm at *
            walk_at "S"
            refine ⟨small_le (by simp), fun t2 ht2 => ?_⟩
            have k2 := kp_new (o := .tup [.ref t1]) ht2
            have dv : Dp K (upd Hm t2 (.tup [.ref t1])) (.ref t2) (.tuple (rowsD [PH.Row.set z ((1000 * i + j : Nat) : Int)])) := .tup (sq_t upd_same) (.cons (.tup (seqT_tups (TupK.same k2) (sq_t e1)) (.cons (.str _) (.cons (.str _) (.cons (.int _) .nil)))) .nil)
            have I := I.same k2
            have eB := k2.get trivial eB
            have r := r.tup (x' := ⟨fa, kvs⟩) (TupK.same k2) (k2.get trivial r.at_) rfl
            generalize upd Hm t2 (.tup [.ref t1]) = Hn at *
            walk_at "S"
            refine s_putS r.at_ (small_lt (by rw [NmR.len r.nm]; omega)) ?_
            obtain ⟨I2, r2, keep⟩ := I.putNew (z := z) r nfa nfs dv
            exact ⟨_, _, _, _, rfl, I2, keep _ _ eB, r2, se.put mz (by omega) nze, kt3⟩
          · walk_at "S"
            exact ⟨_, _, _, _, rfl, I, eB, r, se, kt2⟩
      · obtain ⟨kvs, e, o6, o7, rfl, I, eB, r, se, ke⟩ := Ij
        have eF := I.eF
        walk_at "S"
        refine s_append eF (small_lt (by rw [List.length_map]; omega)) ?_
        have I2 := I.more r nfa nfs
        refine ⟨_, _, _, _, _, _, rfl, I2, (upd_ne nFB.symm).trans eB, fun y hy => ?_, by rw [List.length_append, li]; rfl⟩
        rcases List.mem_append.mp hy with hy | hy
        · exact hd y hy
        · rw [List.mem_singleton.mp hy]; exact se
    · obtain ⟨shs, ds, o4, o5, o6, o7, rfl, I, eB, hd, li⟩ := I
      walk_at "S"
      exact q _ F shs ds I hd (by omega) (by omega)
end

/-- rows that set or take -/
def AllST (b : List PH.Row) : Prop := ∀ r ∈ b, (∃ x n, r = PH.Row.set x n) ∨ ∃ x z, r = PH.Row.take x z
def lackR (ds : List Shelf) : PH.Row → Option Str
  | .take _ z => if (fndS ds z).isNone then some z else none
  | _ => none
def lackB (ds : List Shelf) (b : List PH.Row) : List Str := b.filterMap (lackR ds)
def dueR (tab : List (Str × Nat)) : PH.Row → PyData
  | .set _ n => .int n
  | .take _ z => .tuple [PH.S "module", match getA tab z with | some k => numD k | none => .none]
  | _ => .none
def dueL (tab : List (Str × Nat)) (b : List PH.Row) : List (Str × PyData) := b.map fun r => (nameOf r, dueR tab r)
structure RtOk (zs ps so : List Str) (tk : Str) (ds : List Shelf) : Prop where
  wok : WOk 3 ⟨fndS ds, fun _ => zs⟩ ps wayR
  sh1 : Sh1 zs tk so (fndS ds)
  zl : zs.length ≤ 8
  sm : ∀ z ∈ zs, SmN z
  nb : ∀ q x n, fndS ds q = some [.set x n] → n.natAbs < 1000000
  pl : ps.length ≤ 9
def spRight (K : PySem.W.Frag) (C : Cl) : Sp := fun vs H Q _ => ∃ (zs ps so : List Str) (tk : Str) (ds : List Shelf) (shs : List Sf) (L : Addr) (h : HA) (s : Hs) (a : Ab) (p : Str), vs = [.ref h.self, .ref L, .str p] ∧ isPathL (tl p) = true ∧ SmN p ∧ RtOk zs ps so tk ds ∧ lot ps a.unbroken ≤ 90000 ∧
  HouseAt K C ⟨fndS ds, fun _ => zs⟩ H h s a ∧ StdT tk so (fndS ds) a ∧ a.line = [] ∧ H L = some (.lst (shs.map fun x => V.ref x.a)) ∧ Paired (ShR K H) shs ds ∧ (∀ x ∈ L :: shs.map (·.a), x ∉ owns C h s a) ∧
  ∀ H' s' b, Stp K C ⟨fndS ds, fun _ => zs⟩ h H s a H' s' b → StdT tk so (fndS ds) b → b.line = [] → lot ps b ≤ lot ps a.unbroken + 1 → Q (.bl true) H'
theorem lackR_take (ds : List Shelf) (so : List Str) : lackB ds (so.map fun z => PH.Row.take z z) = lackF (fndS ds) so := by
  unfold lackB
  induction so with
  | nil => rfl
  | cons z r ih =>
    rw [List.map_cons, List.filterMap_cons]
    unfold lackF at ih ⊢
    rw [List.filter_cons]
    cases c : (fndS ds z).isNone with
    | true =>
      simp only [lackR, c, if_true]
      rw [ih]
    | false =>
      simp only [lackR, c, Bool.false_eq_true, if_false]
      exact ih
theorem bodB {zs so : List Str} {tk p : Str} {ds : List Shelf} {b : List PH.Row} (S : Sh1 zs tk so (fndS ds)) (f : fndS ds p = some b) : AllST b ∧ (b.map nameOf).Nodup ∧ lackP (fndS ds) so tk p = lackB ds b ∧ ∀ r ∈ b, nameOf r ∈ zs := by
  rcases S.bod p b f with ⟨np, hp, n, rfl⟩ | ⟨rfl, rfl⟩
  · refine ⟨fun r hr => .inl ⟨p, n, List.mem_singleton.mp hr⟩, List.nodup_cons.mpr ⟨List.not_mem_nil, List.nodup_nil⟩, ?_, fun r hr => by rw [List.mem_singleton.mp hr]; exact hp⟩
    unfold lackP
    rw [f]
    dsimp only
    rw [if_neg np]
    rfl
  · refine ⟨fun r hr => ?_, ?_, ?_, fun r hr => ?_⟩
    · obtain ⟨z, _, rfl⟩ := List.mem_map.mp hr
      exact .inr ⟨z, z, rfl⟩
    · rw [List.map_map]
      have : (nameOf ∘ fun z => PH.Row.take z z) = id := rfl
      rw [this, List.map_id]
      exact S.nd
    · unfold lackP
      rw [f]
      dsimp only
      rw [if_pos rfl, lackR_take]
    · obtain ⟨z, hz, rfl⟩ := List.mem_map.mp hr
      exact S.sub z hz
theorem lack_sub {zs so : List Str} {tk p : Str} {ds : List Shelf} {b : List PH.Row} (S : Sh1 zs tk so (fndS ds)) (f : fndS ds p = some b) : ∀ z ∈ lackB ds b, z ∈ zs := fun z mz => by
  rcases S.bod p b f with ⟨np, hp, n, rfl⟩ | ⟨rfl, rfl⟩
  · cases mz
  · rw [lackR_take] at mz
    exact S.sub z (List.mem_filter.mp mz).1
theorem row_at {K : PySem.W.Frag} {H : Hp} {v : V} {w z : Str} {d : PyData} (h : Dp K H v (.tuple [.str w, .str z, d])) : ∃ a u, v = .ref a ∧ SqT K H a [.str w, .str z, u] ∧ Dp K H u d := by
  cases h with
  | tup s q =>
    cases q with
    | cons d1 q =>
      cases d1
      cases q with
      | cons d2 q =>
        cases d2
        cases q with
        | cons d3 q =>
          cases q
          exact ⟨_, _, rfl, s, d3⟩
theorem shR_stay {K : PySem.W.Frag} {H H' : Hp} {shs : List Sf} {ds : List Shelf} (sh : Paired (ShR K H) shs ds) {W : List Addr} (k : Kp W H H') (t : TupK H H') (n : ∀ x ∈ shs.map (·.a), x ∉ W) : Paired (ShR K H') shs ds :=
  shR_copy sh rfl (fun y hy => by
    obtain ⟨i, ei⟩ := List.mem_iff_getElem?.mp hy
    obtain ⟨d, _, r⟩ := paired_get sh ei
    exact k.get (Nin.intro fun z hz e => n y.a (List.mem_map.mpr ⟨y, hy, rfl⟩) (e ▸ hz)) r.at_) t
theorem fault_shaped {z : Str} (h : SmN z) : SeqAt.shaped (.tuple [PH.S "refused", noModF z]) = true := by
  have a : (noModF z).canLay0 = true := TupA.lay (tupA1 (atW "NOMODULE" (by unfold OkL; decide +kernel) (by decide +kernel)) (atW z h.ok h.len))
  have b : (PH.S "refused").canLay0 = true := AtS.lay (atW "refused" (by unfold OkL; decide +kernel) (by decide +kernel))
  unfold SeqAt.shaped
  rw [Bool.and_eq_true]
  refine ⟨?_, decide_eq_true ?_⟩
  · simp only [PyData.canLay0]
    exact lay_all fun y hy => by
      simp only [List.mem_cons, List.not_mem_nil, or_false] at hy
      rcases hy with rfl | rfl
      · exact b
      · exact a
  · simp [PyData.depth, PyData.depthAll]
theorem putA_last {α : Type} {xs : List (Str × α)} {z : Str} {u t : α} (n : z ∉ xs.map (·.1)) : putA (xs ++ [(z, u)]) z t = xs ++ [(z, t)] := by
  rw [putA_old (by rw [List.map_append]; exact List.mem_append_right _ List.mem_cons_self), List.map_append]
  congr 1
  · refine (List.map_congr_left fun w hw => if_neg fun h => n (List.mem_map.mpr ⟨w, hw, h⟩)).trans (List.map_id' _)
  · show [if z = z then (z, t) else (z, u)] = _
    rw [if_pos rfl]
theorem dueL_keys (tab : List (Str × Nat)) (b : List PH.Row) : (dueL tab b).map (·.1) = b.map nameOf := by
  unfold dueL
  rw [List.map_map]
  rfl
theorem dueL_eq {zs so : List Str} {tk p : Str} {ds : List Shelf} {a : Ab} {m : Nat} {b : List PH.Row} (S : Sh1 zs tk so (fndS ds)) (D : StdT tk so (fndS ds) a) (tm : getA a.tab p = some m) (f : fndS ds p = some b) : dueL a.tab b = (a.names m).map fun x => (x.1, toldD x.2) := by
  rcases S.bod p b f with ⟨np, hp, n, rfl⟩ | ⟨rfl, rfl⟩
  · obtain ⟨_, n', e, e2⟩ := D.s.st p m tm np
    rw [f] at e
    cases e
    rw [e2]
    rfl
  · obtain ⟨_, _, g, e2, e3⟩ := D.t m tm
    rw [e2]
    unfold dueL
    rw [List.map_map, List.map_map]
    refine List.map_congr_left fun z hz => ?_
    show (z, (.tuple [PH.S "module", match getA a.tab z with | some k => numD k | none => .none] : PyData)) = (z, .tuple [PH.S "module", numD (g z)])
    rw [e3 z hz]
theorem getA_map {α β : Type} {f : α → β} {xs : List (Str × α)} {z : Str} : getA (xs.map fun x => (x.1, f x.2)) z = (getA xs z).map f := by
  induction xs with
  | nil => rfl
  | cons x r ih =>
    rw [List.map_cons, getA_cons, getA_cons]
    by_cases c : x.1 = z
    · rw [if_pos c, if_pos c]; rfl
    · rw [if_neg c, if_neg c, ih]
theorem getA_self {α : Type} {f : Str → α} {z : Str} : ∀ {ys : List Str}, z ∈ ys → getA (ys.map fun y => (y, f y)) z = some (f z)
  | y :: r, h => by
    rw [List.map_cons, getA_cons]
    by_cases c : y = z
    · rw [if_pos c, c]
    · rw [if_neg c]
      exact getA_self ((List.mem_cons.mp h).resolve_left fun e => c e.symm)
theorem namesD_get {a : Ab} {k : Nat} {z : Str} (h : z ∈ (a.names k).map (·.1)) : getA (namesD a k) z = getA ((a.names k).map fun x => (x.1, toldD x.2)) z := by
  unfold namesD
  rw [getA_map]
  have m : z ∈ srt ((a.names k).map (·.1)) := (srt_perm _).mem_iff.mpr h
  refine (getA_self (f := fun z => match getA (a.names k) z with | some t => toldD t | none => .none) m).trans ?_
  cases e : getA (a.names k) z with
  | none => exact absurd h (getA_none.mp e)
  | some t => rfl
theorem due_sm {tab : List (Str × Nat)} (ht : ∀ z k, getA tab z = some k → k < 900000) {b : List PH.Row} (ast : AllST b) (nb : ∀ x n, PH.Row.set x n ∈ b → n.natAbs < 1000000) : ∀ y ∈ dueL tab b, SmOk y.2 14 1 := fun y hy => by
  obtain ⟨r, hr, rfl⟩ := List.mem_map.mp hy
  rcases ast r hr with ⟨x, n, rfl⟩ | ⟨x, z, rfl⟩
  · exact (sm_int (nb x n hr)).weak (by omega) (by omega)
  · refine SmOk.tup (n := 6) (k := 0) (fun w hw => ?_) (by show 2 * 7 ≤ 14; decide)
    simp only [List.mem_cons, List.not_mem_nil, or_false] at hw
    rcases hw with rfl | rfl
    · exact (SmOk.str (z := "module") (by unfold OkL; decide +kernel)).weak (by decide +kernel) (by omega)
    · cases e : getA tab z with
      | none => exact SmOk.non.weak (by omega) (by omega)
      | some k => exact (sm_int (n := ((k + 1 : Nat) : Int)) (by have := ht z k e; omega)).weak (by omega) (by omega)
theorem dueR_flat (tab : List (Str × Nat)) (r : PH.Row) : flatD (dueR tab r) = true := by
  cases r with
  | take x z =>
    show (true && ((flatD (match getA tab z with | some k => numD k | none => .none)) && true)) = true
    cases getA tab z <;> rfl
  | _ => rfl
theorem items_sm {xs : List (Str × PyData)} {ys : List Str} (l : ys.length ≤ 8) (hz : ∀ z ∈ ys, SmN z) (h : ∀ z ∈ ys, ∃ d, getA xs z = some d ∧ SmOk d 14 1) : SmOk (.list (itemsD xs ys)) 300 3 := by
  refine SmOk.lst (n := 30) (k := 2) (fun w hw => ?_) (by unfold itemsD; rw [List.length_map]; omega)
  obtain ⟨z, mz, rfl⟩ := List.mem_map.mp hw
  obtain ⟨d, e, sd⟩ := h z mz
  refine SmOk.tup (n := 14) (k := 1) (fun u hu => ?_) (by show 2 * 15 ≤ 30; decide)
  simp only [List.mem_cons, List.not_mem_nil, or_false] at hu
  rcases hu with rfl | rfl
  · exact (SmOk.str (hz z mz).ok).weak (by have := (hz z mz).len; omega) (by omega)
  · rw [e]; exact sd
section
variable {P : Program} {w : World} {K : PySem.W.Frag} {mg : Str → Option Value} {base : Heap} {C_MadeError C_Fault C_Failed C_Module C_Late C_Runs : Addr}
theorem ok_l_right {f : Addr} {fd : FuncData} (F : Fun K "_law_right" "_law_right" s_l_right f fd) (T : Txt K mg C_MadeError C_Fault C_Failed C_Module C_Late C_Runs)
    (D_l_took : DnF P w K mg base 90 "_law_took" ["_law_house", "_law_path"] (spTook K ⟨C_Runs, C_Module, C_Late⟩)) (D_l_found : DnF P w K mg base 1 "_law_found" ["_law_finders_here", "_law_path"] (spFoundL K)) (D_Runs_table : DmF P w K mg base 1 C_Runs "table" ["self"] (spTable K ⟨C_Runs, C_Module, C_Late⟩)) (D_Runs_names_of : DmF P w K mg base 2 C_Runs "names_of" ["self", "number"] (spNamesOf K ⟨C_Runs, C_Module, C_Late⟩)) :
    FnG P w K mg base 91 f fd ["_law_house", "_law_finders_here", "_law_path"] (spRight K ⟨C_Runs, C_Module, C_Late⟩) := by
  refine fnG_of F sc_l_right (fun vs H Q E h => ?_) (fun cdv A outer s H vs Q E hG hr h => ?_)
  · obtain ⟨zs, ps, so, tk, ds, shs, L, h, s, a, p, rfl, _⟩ := h
    rfl
  · obtain ⟨f_l_took, fd_l_took, G_l_took, m_l_took, k_l_took, b_l_took⟩ := D_l_took; obtain ⟨f_l_found, fd_l_found, G_l_found, m_l_found, k_l_found, b_l_found⟩ := D_l_found; obtain ⟨f_Runs_table, fd_Runs_table, G_Runs_table, mt_Runs_table, b_Runs_table⟩ := D_Runs_table; obtain ⟨f_Runs_names_of, fd_Runs_names_of, G_Runs_names_of, mt_Runs_names_of, b_Runs_names_of⟩ := D_Runs_names_of
    obtain ⟨zs, ps, so, tk, ds, shs, L, h, s, a, p, rfl, hp, smp, R, lt, I, D, ln, eL, sh, nw, q⟩ := h
    have hu := hu_of hr
    refine ⟨_, (pss_cons (ps_set (i := 3) sc_l_right.nd rfl (Or.inl rfl) (pe_call G_l_took (hr.mono (by first | decide | omega)) (by rfl) m_l_took k_l_took b_l_took .nil pass0 (pa_cons (pv 0) (pa_cons (pv 2) pa_nil))))
      (pss_cons (ps_set (i := 4) sc_l_right.nd rfl (Or.inl rfl) (pe_call G_l_found (hr.mono (by first | decide | omega)) (by rfl) m_l_found k_l_found b_l_found .nil pass0 (pa_cons (pv 1) (pa_cons (pv 2) pa_nil))))
      (pss_cons (ps_set (i := 5) sc_l_right.nd rfl (Or.inl rfl) (pe_lst (pa_cons (pv 2) pa_nil)))
      (pss_cut2 (ps_if (pt_cmpR op_notN (pv 4) pe_non (nomark _)) (pss_one (ps_setLc (i := 5) (own := [("_law_row", 8)]) (g := gName 8) rfl sc_l_right.nd rfl rfl (sw_true rfl rfl rfl (by decide +kernel)) (kiT (K := K) rfl (pi_tup (pv 4))) (blkOk_by (own := [("_law_row", 8)]) (N := N_l_right) (sc := (defScope s_l_right)) (by decide +kernel)) (fun _ _ _ _ _ => (pg_name (i := 8) sc_l_right.nd rfl (Or.inl rfl))) (fun _ _ _ _ _ => (pts_one (PW.pt (pw_and (pt_cmpR op_eq (pe_ix (ixTK (K := K) rfl) (pv 8) pe_int (fun _ _ => rfl)) pe_str (nomark _)) (pw_and1 (pt_cmpR op_isN (pe_call G_l_found (hr.mono (by first | decide | omega)) (by rfl) m_l_found k_l_found b_l_found .nil pass0 (pa_cons (pv 1) (pa_cons (pe_ix (ixTK (K := K) rfl) (pv 8) pe_int (fun _ _ => rfl)) pa_nil))) pe_non (nomark _))))))) (fun _ _ _ _ _ => (pe_ix (ixTK (K := K) rfl) (pv 8) pe_int (fun _ _ => rfl))))) pss_nil)
      (pss_cons (ps_if (pt_cmpR (neNilK (K := K) rfl hr.units) (pv 5) (pe_lst pa_nil) (nomark _)) (pss_one (ps_ret (pe_cmpR (eqDK (K := K) rfl hr.units) (pv 3) (pe_tup (pa_cons pe_str (pa_cons (pe_tup (pa_cons pe_str (pa_cons (pe_ix (ixLK (K := K) rfl) (pv 5) pe_int (fun _ _ => rfl)) pa_nil))) pa_nil))) (nomark _)))) pss_nil)
      (pss_cons (ps_if (pt_cmpR op_ne (pe_ix (ixTK (K := K) rfl) (pv 3) pe_int (fun _ _ => rfl)) pe_str (nomark _)) (pss_one (ps_ret pe_bl)) pss_nil)
      (pss_cons (ps_set (i := 6) sc_l_right.nd rfl (Or.inl rfl) (pe_meth0 (pv 0) T.cl_Runs mt_Runs_table G_Runs_table (hr.mono (by first | decide | omega)) b_Runs_table .nil pass0))
      (pss_cons (ps_set (i := 7) sc_l_right.nd rfl (Or.inl rfl) pe_dnewK)
      (pss_cons (ps_for PassesOwn.never rfl (kiT (K := K) rfl (pi_tup (pv 4))) (pg_name (i := 8) sc_l_right.nd rfl (Or.inl rfl)) (pss_cons (ps_dput hu (pv 7) (pe_ix (ixTK (K := K) rfl) (pv 8) pe_int (fun _ _ => rfl)) (pe_ix (ixTK (K := K) rfl) (pv 8) pe_int (fun _ _ => rfl)) rfl)
      (pss_one (ps_if (pt_cmpR op_eq (pe_ix (ixTK (K := K) rfl) (pv 8) pe_int (fun _ _ => rfl)) pe_str (nomark _)) (pss_one (ps_dput hu (pv 7) (pe_ix (ixTK (K := K) rfl) (pv 8) pe_int (fun _ _ => rfl)) (pe_tup (pa_cons pe_str (pa_cons (pe_dget1 hu (pv 6) (pe_ix (ixTK (K := K) rfl) (pv 8) pe_int (fun _ _ => rfl)) ⟨by rfl, by rfl, by rfl, by rfl⟩) pa_nil))) rfl)) pss_nil))))
      (pss_one (ps_ret (pe_cmpR op_eq (pe_callB (reprAK (K := K) rfl hG hr.units) (by rfl) T.n_repr (by decide +kernel) (pa_cons (pe_sortedItems rfl (pe_meth (pv 0) T.cl_Runs mt_Runs_names_of G_Runs_names_of (hr.mono (by first | decide | omega)) b_Runs_names_of .nil pass0 (pa_cons (pe_ix (ixTK (K := K) rfl) (pv 3) pe_int (fun _ _ => rfl)) pa_nil)) (by rfl) T.n_sorted (by decide +kernel)) pa_nil)) (pe_callB (reprAK (K := K) rfl hG hr.units) (by rfl) T.n_repr (by decide +kernel) (pa_cons (pe_sortedItems rfl (pv 7) (by rfl) T.n_sorted (by decide +kernel)) pa_nil)) (nomark _))))))))))))), ?_⟩
    refine st_start (σ' := [some (.ref h.self), some (.ref L), some (.str p), none, none, none, none, none, none]) rfl ?_
    walk_at "S"
    have rm : rem ps a.unbroken < 10 := by
      have := R.pl
      have : rem ps a.unbroken ≤ ps.length := List.length_filter_le _ _
      omega
    have D0 : StdT tk so (fndS ds) a.unbroken := ⟨⟨D.s.nl, D.s.st⟩, D.t⟩
    obtain ⟨o1, o2⟩ := one_deep R.sh1 (n := 8) (p := p) D0 rfl
    have gr := gr_one (fnd := fndS ds) R.wok.way R.wok.bod 10 a.unbroken p
    have lo := line_one (fnd := fndS ds) R.wok.way 10 a.unbroken p
    refine ⟨_, ps, h, s, a, p, rfl, hp, R.wok, rm, by omega, by rw [ln]; exact Nat.zero_le _, I, fun b r eq H1 s1 T_ st tok tre => ?_⟩
    rw [eq] at gr lo
    have lob : b.line = [] := lo.trans ln
    have eL1 := st.kp.get (Nin.intro fun z hz e => nw L List.mem_cons_self (by rw [e]; exact hz)) eL
    have sh1 := shR_stay sh st.kp (st.keep I).tup fun x hx => nw x (List.mem_cons_of_mem _ hx)
    have came : StdT tk so (fndS ds) b ∧ ((lackP (fndS ds) so tk p = [] ∧ ∃ m, r = .ok m ∧ getA b.tab p = some m) ∨ ∃ z rest, lackP (fndS ds) so tk p = z :: rest ∧ r = .error (noModF z)) := by
      cases e : lackP (fndS ds) so tk p with
      | nil =>
        obtain ⟨d, m', e2, Db, tm⟩ := o1 e
        rw [eq] at e2
        obtain ⟨rfl, e3⟩ := Prod.mk.inj e2
        exact ⟨Db, .inl ⟨rfl, m', e3, tm⟩⟩
      | cons z rest =>
        obtain ⟨d, e2, Db⟩ := o2 z rest e
        rw [eq] at e2
        obtain ⟨rfl, e3⟩ := Prod.mk.inj e2
        exact ⟨Db, .inr ⟨z, rest, rfl, e3⟩⟩
    obtain ⟨Db, came⟩ := came
    have ltb : lot ps b ≤ lot ps a.unbroken + 1 := gr.lot
    have fin : ∀ H' , Kp [] H1 H' → Q (.bl true) H' := fun H' k => q H' s1 b (st.tr (Stp.same st.at_ k)) Db lob ltb
    walk_at "S"
    refine ⟨L, shs, ds, p, rfl, sq_l eL1, sh1, fun v fv => ?_⟩
    walk_at "S"
    refine ⟨small_le (by simp), fun l0 hl0 => ?_⟩
    have k12 : Kp [] H1 (upd H1 l0 (.lst [.str p])) := kp_new hl0
    have eL2 := k12.get trivial eL1
    have sh2 := shR_stay sh1 k12 (TupK.same k12) fun _ _ => List.not_mem_nil
    have el0 : upd H1 l0 (.lst [.str p]) l0 = some (.lst ([p].map V.str)) := upd_same
    have tok2 : ∀ m, r = .ok m → upd H1 l0 (.lst [.str p]) T_ = some (.tup [.str "told", .int ((m + 1 : Nat) : Int)]) := fun m e => k12.get trivial (tok m e)
    have tre2 : ∀ z, r = .error (noModF z) → Dp K (upd H1 l0 (.lst [.str p])) (.ref T_) (.tuple [PH.S "refused", noModF z]) := fun z e => Dp.same k12 _ _ (tre _ e)
    have fv2 : ∀ bd, fndS ds p = some bd → Dp K (upd H1 l0 (.lst [.str p])) v (.tuple (rowsD bd)) := fun bd e => Dp.same k12 _ _ (fv.yes bd e)
    generalize upd H1 l0 (.lst [.str p]) = H2 at *
    walk_at "S"
    refine s_cut (fun σ H3 => ∃ lk : Addr, σ = [some (.ref h.self), some (.ref L), some (.str p), some (.ref T_), some v, some (.ref lk), none, none, none] ∧ Kp [] H2 H3 ∧ H3 lk = some (.lst ((lackP (fndS ds) so tk p).map V.str))) (fun J hJ => ?_) ?_
    · cases fb : fndS ds p with
      | none =>
        obtain rfl := fv.no fb
        walk_at "S"
        rw [if_neg (by simp)]
        walk_at "S"
        refine hJ _ _ ⟨l0, rfl, Kp.refl, ?_⟩
        have : lackP (fndS ds) so tk p = [p] := by unfold lackP; rw [fb]
        rw [this]
        exact el0
      | some bd =>
        obtain ⟨ast, ndn, elb, hzs⟩ := bodB R.sh1 fb
        have dv := fv2 bd fb
        obtain ⟨tb, vs, rfl, stb, dvs⟩ : ∃ tb vs, v = .ref tb ∧ SqT K H2 tb vs ∧ DpAll K H2 vs (rowsD bd) := by
          cases dv with
          | tup h d => exact ⟨_, _, rfl, h, d⟩
        have lvs : vs.length = bd.length := by rw [HL.DpAll.len dvs]; exact List.length_map ..
        have lb : bd.length ≤ 8 := by
          have h := List.Nodup.length_le_of_subset ndn fun y hy => by
            obtain ⟨r, hr, rfl⟩ := List.mem_map.mp hy
            exact hzs r hr
          rw [List.length_map] at h
          have := R.zl
          omega
        walk_at "S"
        rw [if_pos (by simp)]
        walk_at "S"
        refine ⟨⟨_, stb⟩, fun D hD => ?_⟩
        have LC : LcOk D vs.length (fun i => (lackB ds (bd.take i)).map V.str) [] H2 (fun _ _ => True) := ⟨small_le (by omega), rfl, fun i hi => by
          rw [List.length_map]
          refine Nat.le_trans (List.length_filterMap_le _ _) ?_
          rw [List.length_take]
          omega, hD, trivial, fun _ _ _ h => h⟩
        refine lc_go (walk_tup (K := K) (a := tb) (xs := vs)) LC trivial (fun Hq kq => kq.seqT trivial stb) (fun i x Ha Hb hi Ib y => ?_) fun H4 I4 => ?_
        · obtain ⟨rfl, hx⟩ := y
          obtain ⟨e, ee, de⟩ := dpAll_get dvs hx
          have k2b := Ib.2.1
          have eL4 := k2b.get trivial eL2
          have sh4 := shR_stay sh2 k2b (TupK.same k2b) fun _ _ => List.not_mem_nil
          have hib : i < bd.length := by omega
          have eb := List.getElem?_eq_getElem hib
          have mb := List.getElem_mem hib
          generalize bd[i] = rw_ at eb mb
          rw [List.getElem?_map, eb] at ee
          obtain rfl : rw_.dat 3 = e := Option.some.inj ee
          have de := Dp.tups (TupK.same k2b) _ _ (flat_dat 3 rw_) de
          have acc : lackB ds (bd.take (i + 1)) = lackB ds (bd.take i) ++ (lackR ds rw_).toList := by
            unfold lackB
            rw [take_put eb, List.filterMap_append, List.filterMap_cons]
            cases lackR ds rw_ <;> rfl
          rcases ast rw_ mb with ⟨x, n, rfl⟩ | ⟨x, z, rfl⟩
          · obtain ⟨t, u, rfl, stt, _⟩ := row_at de
            walk_at "S"
            refine ⟨rfl, ?_⟩
            walk_at "S"
            rw [if_neg (by decide +kernel)]
            refine Ib.skip LC ?_ Kp.refl trivial
            rw [acc]
            show List.map V.str (_ ++ []) = _
            rw [List.append_nil]
          · obtain ⟨t, u, rfl, stt, du⟩ := row_at de
            obtain rfl : V.str z = u := by cases du; rfl
            walk_at "S"
            refine ⟨rfl, ?_⟩
            walk_at "S"
            rw [if_pos (by decide +kernel)]
            walk_at "S"
            refine ⟨L, shs, ds, z, rfl, sq_l eL4, sh4, fun v2 fv2 => ?_⟩
            cases fb2 : fndS ds z with
            | none =>
              obtain rfl := fv2.no fb2
              walk_at "S"
              rw [if_pos (by simp)]
              walk_at "S"
              refine Ib.put LC hi ?_ Kp.refl trivial
              rw [acc]
              show List.map V.str (_ ++ (if (fndS ds z).isNone then some z else none).toList) = _
              rw [fb2, List.map_append]
              rfl
            | some b2 =>
              have dv2 := fv2.yes b2 fb2
              obtain ⟨t2, xs2, rfl, _, _⟩ : ∃ t2 xs2, v2 = .ref t2 ∧ SqT K Hb t2 xs2 ∧ DpAll K Hb xs2 (rowsD b2) := by
                cases dv2 with
                | tup h d => exact ⟨_, _, rfl, h, d⟩
              walk_at "S"
              rw [if_neg (by simp)]
              refine Ib.skip LC ?_ Kp.refl trivial
              rw [acc]
              show List.map V.str (_ ++ (if (fndS ds z).isNone then some z else none).toList) = _
              rw [fb2]
              show List.map V.str (_ ++ []) = _
              rw [List.append_nil]
        · obtain ⟨x4, k24, _⟩ := I4
          dsimp only at x4
          rw [List.take_of_length_le (by omega), ← elb] at x4
          walk_at "S"
          exact hJ _ _ ⟨D, rfl, k24, x4⟩
    · rintro σ H3 ⟨lk, rfl, k23, elk⟩
      walk_at "S"
      refine ⟨small_le (by simp), fun l1 hl1 => ?_⟩
      have k34 : Kp [] H3 (upd H3 l1 (.lst [])) := kp_new hl1
      have elk4 := k34.get trivial elk
      have el1 : upd H3 l1 (.lst []) l1 = some (.lst []) := upd_same
      have k14 : Kp [] H1 (upd H3 l1 (.lst [])) := k12.tr (k23.tr k34)
      have k24 := k23.tr k34
      generalize upd H3 l1 (.lst []) = H4 at *
      refine s_nil0 (sq_l elk4) (sq_l el1) ?_
      walk_at "S"
      rcases came with ⟨nil, m, rfl, tm⟩ | ⟨z, rest, el, rfl⟩
      · rw [nil] at elk4 ⊢
        obtain ⟨bd, fb⟩ : ∃ bd, fndS ds p = some bd := by
          cases e : fndS ds p with
          | none => unfold lackP at nil; rw [e] at nil; cases nil
          | some bd => exact ⟨bd, rfl⟩
        obtain ⟨ast, ndn, elb, hzs⟩ := bodB R.sh1 fb
        have dv := Dp.same k24 _ _ (fv2 bd fb)
        obtain ⟨tb, vs, rfl, stb, dvs⟩ : ∃ tb vs, v = .ref tb ∧ SqT K H4 tb vs ∧ DpAll K H4 vs (rowsD bd) := by
          cases dv with
          | tup h d => exact ⟨_, _, rfl, h, d⟩
        have lvs : vs.length = bd.length := by rw [HL.DpAll.len dvs]; exact List.length_map ..
        have lb : bd.length ≤ 8 := by
          have h := List.Nodup.length_le_of_subset ndn fun y hy => by
            obtain ⟨r, hr, rfl⟩ := List.mem_map.mp hy
            exact hzs r hr
          rw [List.length_map] at h
          have := R.zl
          omega
        have eT4 := k24.get trivial (tok2 m rfl)
        have I4 := st.at_.same k14
        rw [show (!(List.map V.str []).isEmpty) = false from rfl, if_neg Bool.false_ne_true]
        walk_at "S"
        rw [if_neg (by decide +kernel)]
        walk_at "S"
        refine s_insM I4.ob (lkR_none (m := "table") (by decide +kernel)) ?_
        walk_at "S"
        have lqs : b.qs.length ≤ 100000 ∧ b.tab.length ≤ 100000 := by
          have h1 : b.qs.length + b.tab.length ≤ lot ps b := by unfold lot wt; omega
          exact ⟨by omega, by omega⟩
        refine ⟨_, h, s1, b, rfl, I4, lqs.2, fun H5 dt hdt k45 edt => ?_⟩
        walk_at "S"
        intro du hdu
        have k56 : Kp [] H5 (upd H5 du (.dK [])) := kp_new hdu
        have edu : upd H5 du (.dK []) du = some (.dK []) := upd_same
        have ndt : dt ≠ du := ne_of_none edt hdu
        walk_at "S"
        have stb5 := k45.seqT trivial stb
        have dvs5 := Dp.tupsAll (TupK.same k45) _ _ (flat_rowsD bd) dvs
        refine ⟨⟨_, k56.seqT trivial stb5⟩, ?_⟩
        refine for_go (walk_tup (K := K) (a := tb) (xs := vs)) (fun i σ Hi => ∃ (kvs : List (Key × V)) (o8 : Option V), σ = [some (.ref h.self), some (.ref L), some (.str p), some (.ref T_), some (.ref tb), some (.ref lk), some (.ref dt), some (.ref du), o8] ∧ Kp [] H5 Hi ∧ Hi du = some (.dK kvs) ∧ NmR (fun x v => Dp K Hi v x ∧ flatD x = true) (dueL b.tab (bd.take i)) kvs)
          ⟨[], _, rfl, k56, edu, .nil⟩ (fun i σ Hi _ I => by obtain ⟨_, _, rfl, k, _⟩ := I; exact k.seqT trivial stb5) (fun i x σ Hi Hj hi Ii y => ?_) fun σ Hj Ij => ?_
        · obtain ⟨rfl, hx⟩ := y
          obtain ⟨kvs, o8, rfl, k5i, ei, nm⟩ := Ii
          obtain ⟨e, ee, de⟩ := dpAll_get dvs5 hx
          have hib : i < bd.length := by omega
          have eb := List.getElem?_eq_getElem hib
          have mb := List.getElem_mem hib
          generalize bd[i] = rw_ at eb mb
          rw [List.getElem?_map, eb] at ee
          obtain rfl : rw_.dat 3 = e := Option.some.inj ee
          have de := Dp.tups (TupK.same k5i) _ _ (flat_dat 3 rw_) de
          have nz : nameOf rw_ ∉ (dueL b.tab (bd.take i)).map (·.1) := by
            rw [dueL_keys]
            intro hm
            rw [List.map_take] at hm
            obtain ⟨j, hj, ej⟩ := List.mem_take_iff_getElem.mp hm
            have e2 : (bd.map nameOf)[i]'(by rw [List.length_map]; exact hib) = nameOf rw_ := by
              rw [List.getElem_map]
              rw [← (List.getElem?_eq_some_iff.mp eb).2]
            exact absurd (ej.trans e2.symm) (List.pairwise_iff_getElem.mp ndn j i (by omega) (by rw [List.length_map]; exact hib) (by omega))
          have more : dueL b.tab (bd.take (i + 1)) = dueL b.tab (bd.take i) ++ [(nameOf rw_, dueR b.tab rw_)] := by
            unfold dueL
            rw [take_put eb, List.map_append]
            rfl
          have lkv : kvs.length < 1000 := by
            rw [nm.len]
            unfold dueL
            rw [List.length_map, List.length_take]
            omega
          rw [more]
          rcases ast rw_ mb with ⟨x, n, rfl⟩ | ⟨x, z, rfl⟩
          · obtain ⟨t, u, rfl, stt, du'⟩ := row_at de
            walk_at "S"
            refine s_putS ei (small_lt (by omega)) ?_
            have kt := (Keep.one (o' := .dK (putK kvs (.inr x) u)) ei (.dK _)).tup
            have ku : Kp [] H5 (upd Hj du (.dK (putK kvs (.inr x) u))) := k5i.upd_loc hdu
            have ne := (nm.mono (R' := fun x' v => Dp K (upd Hj du (.dK (putK kvs (.inr x) u))) v x' ∧ flatD x' = true) fun a v h => ⟨Dp.tups kt _ _ h.2 h.1, h.2⟩).put (z := x) (t := .int n) (v := u) ⟨Dp.tups kt _ _ rfl du', rfl⟩
            rw [putA_new (z := x) nz] at ne
            have eu : upd Hj du (.dK (putK kvs (.inr x) u)) du = some (.dK (putK kvs (.inr x) u)) := upd_same
            have stt := seqT_tups kt stt
            generalize upd Hj du (.dK (putK kvs (.inr x) u)) = Hk at *
            walk_at "S"
            rw [if_neg (by decide +kernel)]
            walk_at "S"
            exact ⟨_, _, rfl, ku, eu, ne⟩
          · obtain ⟨t, u, rfl, stt, du'⟩ := row_at de
            obtain rfl : V.str z = u := by cases du'; rfl
            walk_at "S"
            refine s_putS ei (small_lt (by omega)) ?_
            have kt := (Keep.one (o' := .dK (putK kvs (.inr x) (.str z))) ei (.dK _)).tup
            have ku : Kp [] H5 (upd Hj du (.dK (putK kvs (.inr x) (.str z)))) := k5i.upd_loc hdu
            have ne := (nm.mono (R' := fun x' v => Dp K (upd Hj du (.dK (putK kvs (.inr x) (.str z)))) v x' ∧ flatD x' = true) fun a v h => ⟨Dp.tups kt _ _ h.2 h.1, h.2⟩).put (z := x) (t := .str z) (v := .str z) ⟨.str z, rfl⟩
            rw [putA_new (z := x) nz] at ne
            have eu : upd Hj du (.dK (putK kvs (.inr x) (.str z))) du = some (.dK (putK kvs (.inr x) (.str z))) := upd_same
            have stt := seqT_tups kt stt
            generalize putK kvs (.inr x) (.str z) = kvs2 at *
            generalize upd Hj du (.dK kvs2) = Hk at *
            have edt2 := ku.get trivial edt
            walk_at "S"
            rw [if_pos (by decide +kernel)]
            walk_at "S"
            refine ⟨.inl ⟨_, .inl edt2⟩, ?_⟩
            walk_at "S"
            refine ⟨_, DGet.k (k := Sum.inr z) edt2, ?_⟩
            have ev : valV (b.tab.map fun x => ((Sum.inr x.1 : Key), V.int ((x.2 + 1 : Nat) : Int))) (.inr z) = (getA b.tab z).map fun k => V.int ((k + 1 : Nat) : Int) := val_map (g := fun k : Nat => V.int ((k + 1 : Nat) : Int))
            rw [ev]
            walk_at "S"
            refine ⟨small_le (by simp), fun t2 ht2 => ?_⟩
            have k2 := kp_new (o := .tup [.str "module", ((getA b.tab z).map fun k => V.int ((k + 1 : Nat) : Int)).getD .non]) ht2
            have dt2 : Dp K (upd Hk t2 (.tup [.str "module", ((getA b.tab z).map fun k => V.int ((k + 1 : Nat) : Int)).getD .non])) (.ref t2) (dueR b.tab (.take x z)) := by
              refine .tup (sq_t upd_same) (.cons (.str _) (.cons ?_ .nil))
              cases getA b.tab z with
              | none => exact .non
              | some k => exact .int _
            have eu2 := k2.get trivial eu
            have stt := seqT_tups (TupK.same k2) stt
            have ne := ne.mono (R' := fun x v => Dp K (upd Hk t2 (.tup [.str "module", ((getA b.tab z).map fun k => V.int ((k + 1 : Nat) : Int)).getD .non])) v x ∧ flatD x = true) fun a v h => ⟨Dp.same k2 _ _ h.1, h.2⟩
            have ku2 := ku.tr k2
            have lk2 : kvs2.length ≤ 1000 := by
              rw [ne.len, List.length_append]
              unfold dueL
              rw [List.length_map, List.length_take]
              show _ + 1 ≤ 1000
              omega
            generalize upd Hk t2 (.tup [.str "module", ((getA b.tab z).map fun k => V.int ((k + 1 : Nat) : Int)).getD .non]) = Hl at *
            walk_at "S"
            refine s_putS eu2 (small_lt (by omega)) ?_
            have kt2 := (Keep.one (o' := .dK (putK kvs2 (.inr x) (.ref t2))) eu2 (.dK _)).tup
            have ne2 := (ne.mono (R' := fun x' v => Dp K (upd Hl du (.dK (putK kvs2 (.inr x) (.ref t2)))) v x' ∧ flatD x' = true) fun a v h => ⟨Dp.tups kt2 _ _ h.2 h.1, h.2⟩).put (z := x) (t := dueR b.tab (.take x z)) (v := .ref t2) ⟨Dp.tups kt2 _ _ (dueR_flat _ _) dt2, dueR_flat _ _⟩
            rw [putA_last (z := x) nz] at ne2
            exact ⟨_, _, rfl, ku2.upd_loc hdu, upd_same, ne2⟩
        · obtain ⟨kvs, o8, rfl, k5j, ej, nm⟩ := Ij
          rw [List.take_of_length_le (by omega)] at nm
          have Ij := I4.same (k45.tr k5j)
          have eTj := (k45.tr k5j).get trivial eT4
          walk_at "S"
          refine s_sortedItems ?_
          walk_at "S"
          refine s_insM Ij.ob (lkR_none (m := "names_of") (by decide +kernel)) ?_
          walk_at "S"
          have edl := dueL_eq R.sh1 Db tm fb
          have eks : (b.names m).map (·.1) = bd.map nameOf := by
            rw [← dueL_keys b.tab bd, edl, List.map_map]
            rfl
          have lm : m < b.qs.length := (List.getElem?_eq_some_iff.mp (Ij.ok.tk _ (getA_mem tm))).1
          have few : (b.names m).length < 64 := by
            have := congrArg List.length eks
            rw [List.length_map, List.length_map] at this
            omega
          refine ⟨_, h, s1, b, m, rfl, Ij, lm, few, fun H7 d dkv hd k67 ed nmd lkd => ?_⟩
          have ekd : (namesD b m).map (·.1) = srt ((b.names m).map (·.1)) := by
            unfold namesD
            rw [List.map_map]
            exact List.map_id' _
          have ek1 : dkv.map (·.1) = (srt ((b.names m).map (·.1))).map Sum.inr := by rw [nmd.keys, ekd]
          have nds : (srt ((b.names m).map (·.1))).Nodup := (srt_perm _).nodup_iff.mpr (by rw [eks]; exact ndn)
          refine ⟨d, dkv, srt ((b.names m).map (·.1)), rfl, ed, ek1, nds, fun H8 pl ts kvs' ys pm ek so_ k78 hpl epl pr => ?_⟩
          have py := keys_perm pm ek1 ek
          have py2 : ys.Perm (bd.map nameOf) := eks ▸ py.trans (srt_perm _)
          have dp8 := sorted_data nmd (by rw [ekd]; exact nds) pm ek (TupK.same k78) pr
          have cg : itemsD (namesD b m) ys = itemsD (dueL b.tab bd) ys := itemsD_congr fun z hz => by
            rw [namesD_get (by rw [eks]; exact py2.mem_iff.mp hz), edl]
          rw [cg] at dp8
          have lts : ∀ z k, getA b.tab z = some k → k < 900000 := fun z k e => by
            have := (List.getElem?_eq_some_iff.mp (Ij.ok.tk _ (getA_mem e))).1
            have := lqs.1
            omega
          have dsm := due_sm lts ast fun x n hm => by
            rcases R.sh1.bod p bd fb with ⟨_, _, n', e⟩ | ⟨_, e⟩
            · rw [e] at hm fb
              cases List.mem_singleton.mp hm
              exact R.nb _ _ _ fb
            · rw [e] at hm
              obtain ⟨_, _, e⟩ := List.mem_map.mp hm
              cases e
          have zsm : ∀ z ∈ ys, SmN z := fun z hz => by
            obtain ⟨rr, hr, e⟩ := List.mem_map.mp (py2.mem_iff.mp hz)
            rw [← e]
            exact R.sm _ (hzs rr hr)
          have ism : SmOk (.list (itemsD (dueL b.tab bd) ys)) 300 3 := items_sm (by rw [py2.length_eq, List.length_map]; exact lb) zsm fun z hz => by
            have mz : z ∈ (dueL b.tab bd).map (·.1) := by rw [dueL_keys]; exact py2.mem_iff.mp hz
            cases e : getA (dueL b.tab bd) z with
            | none => exact absurd mz (getA_none.mp e)
            | some dd => exact ⟨dd, rfl, dsm _ (getA_mem e)⟩
          have k28 := k67.tr k78
          have ed8 := k28.get trivial ej
          have nm8 : NmR (fun x v => Dp K H8 v x ∧ flatD x = true) (dueL b.tab bd) kvs := nm.mono fun a v h => ⟨Dp.same k28 _ _ h.1, h.2⟩
          walk_at "S"
          refine rep_sm (.lst (sq_l epl) dp8) (ism.weak (Nat.le_refl _) (by omega)) rfl (by omega) ?_
          walk_at "S"
          refine s_sortedItems ?_
          walk_at "S"
          have ek2' : kvs.map (·.1) = (bd.map nameOf).map Sum.inr := by rw [nm8.keys, dueL_keys]
          refine ⟨du, kvs, bd.map nameOf, rfl, ed8, ek2', ndn, fun H9 pl2 ts2 kvs2 ys2 pm2 ek2 so2 k89 hpl2 epl2 pr2 => ?_⟩
          obtain rfl : ys2 = ys := sorted_eq (keys_perm pm2 ek2' ek2) so2 py2 so_
          have dp9 := sorted_data nm8 (by rw [dueL_keys]; exact ndn) pm2 ek2 (TupK.same k89) pr2
          walk_at "S"
          refine rep_sm (.lst (sq_l epl2) dp9) (ism.weak (Nat.le_refl _) (by omega)) rfl (by omega) ?_
          walk_at "S"
          rw [decide_eq_true rfl]
          exact fin _ (k14.tr (k45.tr (k5j.tr (k28.tr k89))))
      · rw [el] at elk4 ⊢
        walk_at "S"
        rw [show (!(List.map V.str (z :: rest)).isEmpty) = true from rfl, if_pos rfl]
        walk_at "S"
        refine s_ixL (sq_l elk4) (atI_nat (j := 0) rfl) ?_
        walk_at "S"
        refine ⟨small_le (by simp), fun t1 ht1 => ?_⟩
        have k45 := kp_new (o := .tup [.str "NOMODULE", .str z]) ht1
        have et1 : upd H4 t1 (.tup [.str "NOMODULE", .str z]) t1 = some (.tup [.str "NOMODULE", .str z]) := upd_same
        have k15 := k14.tr k45
        have dT := Dp.same (k24.tr k45) _ _ (tre2 z rfl)
        generalize upd H4 t1 (.tup [.str "NOMODULE", .str z]) = H5 at *
        walk_at "S"
        refine ⟨small_le (by simp), fun t2 ht2 => ?_⟩
        have k56 := kp_new (o := .tup [.str "refused", .ref t1]) ht2
        have smz : SmN z := by
          cases e : fndS ds p with
          | none =>
            unfold lackP at el
            rw [e] at el
            injection el with e1 _
            rw [← e1]; exact smp
          | some bd =>
            obtain ⟨_, _, elb, hzs⟩ := bodB R.sh1 e
            rw [elb] at el
            exact R.sm z (lack_sub R.sh1 e z (by rw [el]; exact List.mem_cons_self))
        have sh := fault_shaped smz
        refine s_eqD (Dp.same k56 _ _ dT) (.tup (sq_t upd_same) (.cons (.str _) (.cons (.tup (sq_t (k56.get trivial et1)) (.cons (.str _) (.cons (.str _) .nil))) .nil))) sh sh ?_
        rw [SeqAt.eqv_refl _ (SeqAt.canLay_of_shaped sh)]
        exact fin _ (k15.tr k56)
end

/-- the finders that were handed in, and may be changed -/
structure CG (H0 H : Hp) (p F B : Addr) (shs : List Addr) (ps : List Str) (n : Nat) : Prop where
  kp : Kp (p :: F :: shs) H0 H
  hp : PotOk H p
  eF : H F = some (.lst (shs.map V.ref))
  eB : H B = some (.lst (ps.map V.str))
  sh : ∀ x ∈ shs, ∃ kvs, H x = some (.dK kvs) ∧ kvs.length ≤ n
section
variable {H0 H H' : Hp} {p F B : Addr} {shs : List Addr} {ps : List Str} {n m : Nat}
theorem CG.pot (I : CG H0 H p F B shs ps n) (k : Kp [p] H H') (h : PotOk H' p) : CG H0 H' p F B shs ps n :=
  ⟨I.kp.step k fun x hx => .inl (by rw [List.mem_singleton.mp hx]; exact List.mem_cons_self), h, k.get (nin1' (pot_refs (g := id) I.hp I.eF)) I.eF, k.get (nin1' (pot_strs I.hp I.eB)) I.eB, fun x hx => by
    obtain ⟨kvs, e, l⟩ := I.sh x hx
    exact ⟨kvs, k.get (nin1' (pot_dK I.hp e)) e, l⟩⟩
theorem CG.same (I : CG H0 H p F B shs ps n) (k : Kp [] H H') : CG H0 H' p F B shs ps n :=
  ⟨I.kp.step k fun x hx => absurd hx List.not_mem_nil, I.hp.kp k trivial, k.get trivial I.eF, k.get trivial I.eB, fun x hx => by
    obtain ⟨kvs, e, l⟩ := I.sh x hx
    exact ⟨kvs, k.get trivial e, l⟩⟩
theorem CG.put (I : CG H0 H p F B shs ps n) {x : Addr} (hx : x ∈ shs) {kvs : List (Key × V)} (l : kvs.length ≤ m) (nm : n ≤ m) : CG H0 (upd H x (.dK kvs)) p F B shs ps m := by
  obtain ⟨kv0, e0, _⟩ := I.sh x hx
  have k : Kp [x] H (upd H x (.dK kvs)) := Kp.refl.upd_mem List.mem_cons_self
  refine ⟨I.kp.upd_mem (List.mem_cons_of_mem _ (List.mem_cons_of_mem _ hx)), I.hp.upd (pot_dK I.hp e0), k.get ⟨(lst_dK I.eF e0).symm, trivial⟩ I.eF, k.get ⟨(lst_dK I.eB e0).symm, trivial⟩ I.eB, fun y hy => ?_⟩
  by_cases c : y = x
  · subst c
    exact ⟨kvs, upd_same, l⟩
  · obtain ⟨kv, e, l2⟩ := I.sh y hy
    exact ⟨kv, (upd_ne c).trans e, by omega⟩
end
theorem dropK_len (kvs : List (Key × V)) (k : Key) : (dropK kvs k).length ≤ kvs.length := List.length_filter_le _ _
theorem putK_len (kvs : List (Key × V)) (k : Key) (v : V) : (putK kvs k v).length ≤ kvs.length + 1 := by
  unfold putK
  split
  · rw [List.length_map]; omega
  · rw [List.length_append]; exact Nat.le_refl _
def spChanged (K : PySem.W.Frag) : Sp := fun vs H Q _ => ∃ (p F B : Addr) (shs : List Addr) (ps : List Str) (z : Str), vs = [.ref p, .ref F, .ref B, .str z] ∧ CG H H p F B shs ps 50 ∧ 0 < shs.length ∧ shs.length ≤ 100 ∧ 0 < ps.length ∧ ps.length ≤ 100 ∧ ∀ H', Kp (p :: F :: shs) H H' → Q .non H'
section
variable {P : Program} {w : World} {K : PySem.W.Frag} {mg : Str → Option Value} {base : Heap} {C_MadeError C_Fault C_Failed C_Module C_Late C_Runs : Addr}
theorem ok_l_changed {f : Addr} {fd : FuncData} (F : Fun K "_law_changed" "_law_changed" s_l_changed f fd) (T : Txt K mg C_MadeError C_Fault C_Failed C_Module C_Late C_Runs)
    (D_l_draw : DnF P w K mg base 1 "_law_draw" ["_law_pot_here", "_law_many"] spDraw) :
    FnOk P w K mg base CX0 2 f fd ["_law_pot_here", "_law_finders_here", "_law_paths", "_law_lacking"] (spChanged K) := by
  refine F.ok sc_l_changed (fun vs H Q E h => ?_) (fun cdv A outer s H vs Q E hr h => ?_)
  · obtain ⟨p, F, B, shs, ps, z, rfl, _⟩ := h
    rfl
  · obtain ⟨f_l_draw, fd_l_draw, G_l_draw, m_l_draw, k_l_draw, b_l_draw⟩ := D_l_draw
    obtain ⟨p, F, B, shs, ps, z, rfl, I, l1, l2, l3, l4, q⟩ := h
    have hu := hu_of hr
    refine ⟨_, (pss_cons (ps_asg (pe_lc (own := [("_law_k", 7)]) (g := gName 7) (tt := tYes) rfl sc_l_changed.nd (pi_range1 rfl T.n_range (pa_cons pe_int pa_nil)) (blkOk_by (own := [("_law_k", 7)]) (N := N_l_changed) (sc := (defScope s_l_changed)) (by decide +kernel)) (fun _ _ _ _ _ => (pg_name (i := 7) sc_l_changed.nd rfl (Or.inl rfl))) (fun _ _ _ _ _ => pts_nil) (fun _ _ _ _ _ => (pe_ix (ixLK (K := K) rfl) (pv 1) (pe_call G_l_draw (hr.mono (by first | decide | omega)) (by rfl) m_l_draw k_l_draw b_l_draw .nil pass0 (pa_cons (pv 0) (pa_cons (pe_callB (lenK (K := K) rfl) (by rfl) T.n_len (by decide +kernel) (pa_cons (pv 1) pa_nil)) pa_nil))) (fun _ _ => rfl)))) (kgU (K := K) rfl (pg_unl rfl (pgs_cons (pg_name (i := 4) sc_l_changed.nd rfl (Or.inl rfl)) (pgs_cons (pg_name (i := 5) sc_l_changed.nd rfl (Or.inl rfl)) (pgs_cons (pg_name (i := 6) sc_l_changed.nd rfl (Or.inl rfl)) pgs_nil))))))
      (pss_cons (ps_dput hu (pv 4) (pe_ix (ixLK (K := K) rfl) (pv 2) (pe_call G_l_draw (hr.mono (by first | decide | omega)) (by rfl) m_l_draw k_l_draw b_l_draw .nil pass0 (pa_cons (pv 0) (pa_cons (pe_callB (lenK (K := K) rfl) (by rfl) T.n_len (by decide +kernel) (pa_cons (pv 2) pa_nil)) pa_nil))) (fun _ _ => rfl)) (pe_tup (pa_cons (pe_tup (pa_cons pe_str (pa_cons (pv 3) (pa_cons (pe_un un_neg pe_int) pa_nil)))) pa_nil)) rfl)
      (pss_cons (ps_expr (pe_dpop2 (pv 5) (pe_ix (ixLK (K := K) rfl) (pv 2) (pe_call G_l_draw (hr.mono (by first | decide | omega)) (by rfl) m_l_draw k_l_draw b_l_draw .nil pass0 (pa_cons (pv 0) (pa_cons (pe_callB (lenK (K := K) rfl) (by rfl) T.n_len (by decide +kernel) (pa_cons (pv 2) pa_nil)) pa_nil))) (fun _ _ => rfl)) pe_non ⟨by rfl, by rfl, by rfl, by rfl⟩))
      (pss_cons (ps_dput hu (pv 6) (pv 3) (pe_tup pa_nil) rfl)
      (pss_one (ps_if (pt_cmpR op_eq (pe_call G_l_draw (hr.mono (by first | decide | omega)) (by rfl) m_l_draw k_l_draw b_l_draw .nil pass0 (pa_cons (pv 0) (pa_cons pe_int pa_nil))) pe_int (nomark _)) (pss_one (ps_expr (kBM0 (K := K) rfl (pe_bm0 PySem.F.plainAttrs_list PySem.F.slot_list_reverse PySem.F.type_list_reverse mt_reverse (pv 1))))) (pss_one (ps_expr (kBM0 (K := K) rfl (pe_bm0 PySem.F.plainAttrs_list PySem.F.slot_list_clear PySem.F.type_list_clear mt_clear (pv 1))))))))))), ?_⟩
    refine st_start (σ' := [some (.ref p), some (.ref F), some (.ref B), some (.str z), none, none, none, none]) rfl ?_
    walk_at "S"
    refine ⟨by omega, by omega, fun D hD => ?_⟩
    have npD := I.hp.ne hD
    let PL : Nat → List V → Prop := fun i xs => ∃ as : List Addr, xs = as.map V.ref ∧ (∀ a ∈ as, a ∈ shs) ∧ as.length = i
    have LO : LcOkP D (3 : Int).toNat PL [p] H (fun _ H => PotOk H p) := ⟨small_le (by decide), ⟨[], rfl, by simp, rfl⟩, hD, ⟨npD.symm, trivial⟩, fun _ _ _ h => h.upd npD⟩
    refine lc_goP walk_range LO I.hp (fun _ _ => trivial) (fun i x Ha Hb hi Ib y => ?_) fun H5 I5 => ?_
    · obtain ⟨rfl, rfl⟩ := y
      obtain ⟨_, kk, hpI⟩ := id Ib
      have eF2 := kk.get (nin1' (pot_refs (g := id) I.hp I.eF)) I.eF
      walk_at "S"
      refine ⟨rfl, ?_⟩
      walk_at "S"
      rw [List.length_map]
      refine ⟨p, _, rfl, hpI, by omega, by omega, fun Hc v kc hpc e0 e1 => ?_⟩
      obtain ⟨j, a, rfl, hj, ej, ma, az⟩ := pickM (xs := shs) (g := V.ref) e0 (by omega)
      refine s_ixL (sq_l (kc.get (nin1' (pot_refs (g := id) hpI eF2)) eF2)) az ?_
      refine Ib.put LO hi (fun xs hx => ?_) kc hpc
      obtain ⟨as, rfl, h1, h2⟩ := hx
      refine ⟨as ++ [a], by rw [List.map_append]; rfl, fun b hb => ?_, by rw [List.length_append, h2]; rfl⟩
      rcases List.mem_append.mp hb with hb | hb
      · exact h1 b hb
      · rw [List.mem_singleton.mp hb]; exact ma
    obtain ⟨⟨xs, x0, ⟨as, rfl, has, hal⟩, _⟩, k5, hp5⟩ := I5
    obtain ⟨a1, a2, a3, rfl⟩ : ∃ a1 a2 a3, as = [a1, a2, a3] := by
      match as, hal with
      | [a1, a2, a3], _ => exact ⟨a1, a2, a3, rfl⟩
    have m1 := has a1 (by simp)
    have m2 := has a2 (by simp)
    have m3 := has a3 (by simp)
    have I := I.pot k5 hp5
    refine s_gunl (xs := [.ref a1, .ref a2, .ref a3]) (sq_l x0) rfl ?_
    walk_at "S"
    refine ⟨small_le (by simp), fun t1 ht1 => ?_⟩
    have I := I.same (kp_new (o := .tup [.str "set", .str z, .int (-1)]) ht1)
    generalize upd H5 t1 (.tup [.str "set", .str z, .int (-1)]) = H6 at *
    walk_at "S"
    refine ⟨small_le (by simp), fun t2 ht2 => ?_⟩
    have I := I.same (kp_new (o := .tup [.ref t1]) ht2)
    generalize upd H6 t2 (.tup [.ref t1]) = H7 at *
    have eB := I.eB
    walk_at "S"
    rw [List.length_map]
    refine ⟨p, _, rfl, I.hp, by omega, by omega, fun H8 v k8 hp8 e0 e1 => ?_⟩
    obtain ⟨j, y, rfl, hj, ej, my, ay⟩ := pickM (xs := ps) (g := V.str) e0 (by omega)
    have I := I.pot k8 hp8
    refine s_ixL (sq_l I.eB) ay ?_
    obtain ⟨kv1, e1', l1'⟩ := I.sh a1 m1
    refine s_putS e1' (small_lt (by omega)) ?_
    have I := I.put m1 (kvs := putK kv1 (.inr y) (.ref t2)) (m := 51) (by have := putK_len kv1 (.inr y) (.ref t2); omega) (by omega)
    generalize upd H8 a1 (.dK (putK kv1 (.inr y) (.ref t2))) = H9 at *
    have eB := I.eB
    walk_at "S"
    obtain ⟨kv2, e2', l2'⟩ := I.sh a2 m2
    refine ⟨.inl ⟨_, .inl e2'⟩, ?_⟩
    walk_at "S"
    rw [List.length_map]
    refine ⟨p, _, rfl, I.hp, by omega, by omega, fun H10 v2 k10 hp10 e0 e1 => ?_⟩
    obtain ⟨j2, y2, rfl, hj2, ej2, my2, ay2⟩ := pickM (xs := ps) (g := V.str) e0 (by omega)
    have I := I.pot k10 hp10
    refine s_ixL (sq_l I.eB) ay2 ?_
    walk_at "S"
    obtain ⟨kv3, e3', l3'⟩ := I.sh a2 m2
    refine ⟨kv3, .inr y2, e3', rfl, fun v _ => ?_, fun _ => ?_⟩
    · have I := I.put m2 (kvs := dropK kv3 (.inr y2)) (m := 51) (by have := dropK_len kv3 (.inr y2); omega) (by omega)
      generalize upd H10 a2 (.dK (dropK kv3 (.inr y2))) = Hx at *
      walk_at "S"
      refine ⟨small_le (by simp), fun t3 ht3 => ?_⟩
      have I := I.same (kp_new (o := .tup []) ht3)
      generalize upd Hx t3 (.tup []) = Hy at *
      walk_at "S"
      obtain ⟨kv4, e4', l4'⟩ := I.sh a3 m3
      refine s_putS e4' (small_lt (by omega)) ?_
      have I := I.put m3 (kvs := putK kv4 (.inr z) (.ref t3)) (m := 52) (by have := putK_len kv4 (.inr z) (.ref t3); omega) (by omega)
      generalize upd Hy a3 (.dK (putK kv4 (.inr z) (.ref t3))) = Hz at *
      walk_at "S"
      refine ⟨p, _, rfl, I.hp, by omega, by omega, fun Hw v3 kw hpw e0 e1 => ?_⟩
      have I := I.pot kw hpw
      have fin : ∀ xs, Q .non (upd Hw F (.lst xs)) := fun xs => q _ (I.kp.upd_mem (by simp))
      walk_at "S"
      refine s_dec (fun h => ?_) (fun h => ?_)
      · walk_at "S"
        exact ⟨.inl ⟨rfl, _, sq_l I.eF⟩, F, _, rfl, rfl, I.eF, fin _⟩
      · walk_at "S"
        exact ⟨.inl ⟨rfl, _, sq_l I.eF⟩, F, _, rfl, rfl, I.eF, fin _⟩
    · have I : CG H H10 p F B shs ps 51 := ⟨I.kp, I.hp, I.eF, I.eB, fun x hx => by obtain ⟨kv, e, l⟩ := I.sh x hx; exact ⟨kv, e, by omega⟩⟩
      obtain ⟨Hx, eHx⟩ : ∃ Hx, Hx = H10 := ⟨_, rfl⟩
      subst eHx
      walk_at "S"
      refine ⟨small_le (by simp), fun t3 ht3 => ?_⟩
      have I := I.same (kp_new (o := .tup []) ht3)
      generalize upd Hx t3 (.tup []) = Hy at *
      walk_at "S"
      obtain ⟨kv4, e4', l4'⟩ := I.sh a3 m3
      refine s_putS e4' (small_lt (by omega)) ?_
      have I := I.put m3 (kvs := putK kv4 (.inr z) (.ref t3)) (m := 52) (by have := putK_len kv4 (.inr z) (.ref t3); omega) (by omega)
      generalize upd Hy a3 (.dK (putK kv4 (.inr z) (.ref t3))) = Hz at *
      walk_at "S"
      refine ⟨p, _, rfl, I.hp, by omega, by omega, fun Hw v3 kw hpw e0 e1 => ?_⟩
      have I := I.pot kw hpw
      have fin : ∀ xs, Q .non (upd Hw F (.lst xs)) := fun xs => q _ (I.kp.upd_mem (by simp))
      walk_at "S"
      refine s_dec (fun h => ?_) (fun h => ?_)
      · walk_at "S"
        exact ⟨.inl ⟨rfl, _, sq_l I.eF⟩, F, _, rfl, rfl, I.eF, fin _⟩
      · walk_at "S"
        exact ⟨.inl ⟨rfl, _, sq_l I.eF⟩, F, _, rfl, rfl, I.eF, fin _⟩
end

theorem cut_to (xs : List V) (m : Nat) : cutV xs none (some (m : Int)) = xs.take m := by
  unfold cutV
  rw [HT.sIx_none, HT.sIx_nat, Nat.sub_zero, List.drop_zero]
  by_cases h : m ≤ xs.length
  · rw [Nat.min_eq_left h]
  · rw [Nat.min_eq_right (by omega), List.take_of_length_le (Nat.le_refl _), List.take_of_length_le (by omega)]
theorem cut_from (xs : List V) (m : Nat) : cutV xs (some (m : Int)) none = xs.drop m := by
  unfold cutV
  rw [HT.sIx_none, HT.sIx_nat]
  by_cases h : m ≤ xs.length
  · rw [Nat.min_eq_left h, List.take_of_length_le (by rw [List.length_drop]; exact Nat.le_refl _)]
  · rw [Nat.min_eq_right (by omega), Nat.sub_self, List.take_zero, List.drop_eq_nil_of_le (by omega)]
/-! finders as they are made -/
structure GoodDs (zs so : List Str) (tk : Str) (ds : List Shelf) : Prop where
  nd : ∀ e ∈ ds, (e.map (·.1)).Nodup
  bod : ∀ e ∈ ds, ∀ y ∈ e, (y.1 ∈ zs ∧ ∃ n : Nat, n < 100000 ∧ y.2 = [PH.Row.set y.1 (n : Nat)]) ∨ (y.1 = tk ∧ y.2 = so.map fun z => PH.Row.take z z)
structure NmZ (zs so : List Str) (tk : Str) : Prop where
  ok : ∀ z ∈ zs, OkN z
  okt : OkN tk
  nt : tk ∉ zs
  len : zs.length ≤ 8
  sub : ∀ z ∈ so, z ∈ zs
  nd : so.Nodup
section
variable {zs so : List Str} {tk : Str} {ds : List Shelf}
theorem NmZ.so8 (N : NmZ zs so tk) : so.length ≤ 8 := Nat.le_trans (List.Nodup.length_le_of_subset N.nd N.sub) N.len
theorem GoodDs.sub (G : GoodDs zs so tk ds) {es : List Shelf} (h : ∀ e ∈ es, e ∈ ds) : GoodDs zs so tk es := ⟨fun e he => G.nd e (h e he), fun e he => G.bod e (h e he)⟩
theorem GoodDs.sh1 (G : GoodDs zs so tk ds) (N : NmZ zs so tk) : Sh1 zs tk so (fndS ds) := by
  refine ⟨fun q b f => ?_, N.nt, N.sub, N.nd⟩
  obtain ⟨d, hd, m⟩ := fndS_mem f
  rcases G.bod d hd _ m with ⟨h1, n, _, h2⟩ | ⟨h1, h2⟩
  · exact .inl ⟨fun e => N.nt (by rw [← e]; exact h1), h1, _, h2⟩
  · exact .inr ⟨h1, h2⟩
theorem takes_cnt (so : List Str) : cntsR 3 (so.map fun z => PH.Row.take z z) = so.length := by
  unfold cntsR
  rw [List.map_map]
  have : ∀ l : List Str, (l.map (cntR 3 ∘ fun z => PH.Row.take z z)).sum = l.length := fun l => by
    induction l with
    | nil => rfl
    | cons z r ih =>
      rw [List.map_cons, List.sum_cons, ih, List.length_cons]
      show 1 + _ = _
      omega
  exact this so
theorem GoodDs.rt (G : GoodDs zs so tk ds) (N : NmZ zs so tk) : RtOk zs (tk :: zs) so tk ds := by
  have S := G.sh1 N
  have cs : ∀ p b, fndS ds p = some b → (p ∈ zs ∧ ∃ n, b = [.set p n]) ∨ (p = tk ∧ b = so.map fun z => .take z z) := fun p b f => by
    rcases S.bod p b f with ⟨_, a, c⟩ | h
    · exact .inl ⟨a, c⟩
    · exact .inr h
  refine ⟨⟨wayR_ok _, ⟨fun p b f => ?_, fun p b f => ?_⟩, fun _ => by show zs.length < 64; have := N.len; omega, fun p b f r hr => ?_, fun p b f r hr => ?_⟩, S, N.len, fun z hz => ⟨(N.ok z hz).okl, (N.ok z hz).len⟩, fun q x n f => ?_, by rw [List.length_cons]; have := N.len; omega⟩
  · rcases cs p b f with ⟨h, _⟩ | ⟨rfl, _⟩
    · exact List.mem_cons_of_mem _ h
    · exact List.mem_cons_self
  · rcases cs p b f with ⟨_, n, rfl⟩ | ⟨_, rfl⟩
    · show 1 ≤ 40
      decide
    · rw [takes_cnt]
      have := N.so8
      omega
  · rcases cs p b f with ⟨h, n, rfl⟩ | ⟨_, rfl⟩
    · rw [List.mem_singleton.mp hr]
      exact h
    · obtain ⟨z, hz, rfl⟩ := List.mem_map.mp hr
      exact N.sub z hz
  · rcases cs p b f with ⟨h, n, rfl⟩ | ⟨_, rfl⟩
    · rw [List.mem_singleton.mp hr]
      exact Nat.le_refl _
    · obtain ⟨z, hz, rfl⟩ := List.mem_map.mp hr
      exact Nat.le_refl _
  · obtain ⟨d, hd, m⟩ := fndS_mem f
    rcases G.bod d hd _ m with ⟨_, k, hk, e⟩ | ⟨_, e⟩
    · have e : [PH.Row.set x n] = [PH.Row.set q (k : Nat)] := e
      injection e with e1 _
      injection e1 with _ e2
      omega
    · have e : [PH.Row.set x n] = so.map fun z => PH.Row.take z z := e
      cases so with
      | nil => cases e
      | cons z r =>
        rw [List.map_cons] at e
        injection e with e1 _
        cases e1
theorem GoodDs.shelf (G : GoodDs zs so tk ds) (N : NmZ zs so tk) : ∀ e ∈ ds, ShelfOk e := fun e he => by
  refine ⟨fun y hy => ?_, ?_⟩
  · rcases G.bod e he y hy with ⟨h, n, hn, e2⟩ | ⟨h, e2⟩
    · rw [e2]
      refine ⟨(N.ok _ h).path, ⟨fun r hr => ?_, by show 1 ≤ 40; decide⟩⟩
      rw [List.mem_singleton.mp hr]
      refine ⟨(N.ok _ h).nm, ?_⟩
      have h9 : ((n : Nat) : Int).natAbs < 10 ^ 5 := by show n < 100000; exact hn
      exact Nat.lt_of_lt_of_le h9 (Nat.pow_le_pow_right (by decide) (by decide))
    · rw [e2, h]
      refine ⟨N.okt.path, ⟨fun r hr => ?_, by rw [takes_cnt]; have := N.so8; omega⟩⟩
      obtain ⟨z, hz, rfl⟩ := List.mem_map.mp hr
      exact ⟨(N.ok _ (N.sub z hz)).nm, (N.ok _ (N.sub z hz)).path⟩
  · have h := List.Nodup.length_le_of_subset (l₂ := tk :: zs) (G.nd e he) fun z hz => by
      obtain ⟨y, hy, rfl⟩ := List.mem_map.mp hz
      rcases G.bod e he y hy with ⟨h, _⟩ | ⟨h, _⟩
      · exact List.mem_cons_of_mem _ h
      · rw [h]; exact List.mem_cons_self
    rw [List.length_map, List.length_cons] at h
    have := N.len
    omega
end
theorem nd_ne {α β : Type} {f : α → β} {xs : List α} {i j : Nat} {a b : α} (h : (xs.map f).Nodup) (ei : xs[i]? = some a) (ej : xs[j]? = some b) (n : i ≠ j) : f a ≠ f b := fun e => by
  obtain ⟨li, ea⟩ := List.getElem?_eq_some_iff.mp ei
  obtain ⟨lj, eb⟩ := List.getElem?_eq_some_iff.mp ej
  have pw := List.pairwise_iff_getElem.mp h
  rcases Nat.lt_or_gt_of_ne n with l | l
  · have := pw i j (by simpa using li) (by simpa using lj) l
    simp only [List.getElem_map, ea, eb] at this
    exact this e
  · have := pw j i (by simpa using lj) (by simpa using li) l
    simp only [List.getElem_map, ea, eb] at this
    exact this e.symm
theorem paired_set {α β : Type} {R R' : α → β → Prop} {x' : α} {y' : β} : ∀ {xs : List α} {ys : List β} {j : Nat}, Paired R xs ys → (∀ i x y, i ≠ j → xs[i]? = some x → R x y → R' x y) → R' x' y' → Paired R' (xs.set j x') (ys.set j y')
  | _, _, _, .nil, _, _ => .nil
  | x :: xs, y :: ys, 0, .cons h t, k, g => by
    rw [List.set_cons_zero, List.set_cons_zero]
    refine .cons g ?_
    have all : ∀ {xs : List α} {ys : List β}, Paired R xs ys → (∀ i x y, xs[i]? = some x → R x y → R' x y) → Paired R' xs ys := fun {xs ys} h => by
      induction h with
      | nil => exact fun _ => .nil
      | cons h _ ih => exact fun k => .cons (k 0 _ _ rfl h) (ih fun i x y e r => k (i + 1) x y e r)
    exact all t fun i x y e r => k (i + 1) x y (by omega) e r
  | x :: xs, y :: ys, j + 1, .cons h t, k, g => by
    rw [List.set_cons_succ, List.set_cons_succ]
    exact .cons (k 0 _ _ (by omega) rfl h) (paired_set t (fun i x y n e r => k (i + 1) x y (by omega) e r) g)
theorem set_refs {shs : List Sf} {j : Nat} {x : Sf} (e : shs[j]? = some x) (kvs : List (Key × V)) : (shs.set j ⟨x.a, kvs⟩).map (·.a) = shs.map (·.a) := by
  rw [List.map_set]
  refine List.ext_getElem? fun i => ?_
  rw [List.getElem?_set]
  split
  · rename_i h
    subst h
    split
    · rw [List.getElem?_map, e]; rfl
    · rename_i h2
      exact absurd (by rw [List.length_map]; exact (List.getElem?_eq_some_iff.mp e).1) h2
  · rfl
theorem FI.setAt {K : PySem.W.Frag} {H0 H : Hp} {p F : Addr} {shs : List Sf} {ds : List Shelf} (I : FI K H0 H p F shs ds) {j : Nat} {x : Sf} {e : Shelf} {z : Str} {b : List PH.Row} {v : V} (ex : shs[j]? = some x) (ee : ds[j]? = some e) (dv : Dp K H v (.tuple (rowsD b))) :
    FI K H0 (upd H x.a (.dK (putK x.kvs (.inr z) v))) p F (shs.set j ⟨x.a, putK x.kvs (.inr z) v⟩) (ds.set j (putA e z b)) := by
  obtain ⟨e2, ee2, r⟩ := paired_get I.sh ex
  rw [ee] at ee2
  obtain rfl := Option.some.inj ee2
  have mx := List.mem_of_getElem? ex
  have k : Kp [x.a] H (upd H x.a (.dK (putK x.kvs (.inr z) v))) := Kp.refl.upd_mem List.mem_cons_self
  have t : TupK H (upd H x.a (.dK (putK x.kvs (.inr z) v))) := (Keep.one (o' := .dK (putK x.kvs (.inr z) v)) r.at_ (.dK _)).tup
  have ea := set_refs ex (putK x.kvs (.inr z) v)
  refine ⟨I.kp.upd_loc (I.nw x mx), I.hp.upd (pot_dK I.hp r.at_), ?_, ?_, by rw [ea]; exact I.nd, fun y hy => ?_, I.nF⟩
  · have e3 := congrArg (List.map V.ref) ea
    rw [List.map_map, List.map_map] at e3
    have e3 : (shs.set j ⟨x.a, putK x.kvs (.inr z) v⟩).map (fun y => V.ref y.a) = shs.map fun y => V.ref y.a := e3
    rw [e3]
    exact (upd_ne (lst_dK I.eF r.at_).symm).trans I.eF
  · refine paired_set I.sh (fun i y d ne ey ry => ry.tup t ((upd_ne (nd_ne I.nd ey ex ne)).trans ry.at_) rfl) ⟨upd_same, NmR.put (r.nm.mono fun b v q => Dp.tups t _ _ (flat_rowsD b) q) (Dp.tups t _ _ (flat_rowsD b) dv)⟩
  · have : y.a ∈ shs.map (·.a) := by rw [← ea]; exact List.mem_map.mpr ⟨y, hy, rfl⟩
    obtain ⟨y2, hy2, e4⟩ := List.mem_map.mp this
    rw [← e4]
    exact I.nw y2 hy2
theorem GoodDs.of {zs so : List Str} {tk : Str} {ds : List Shelf} (h : ∀ e ∈ ds, SetSh zs e) (nt : tk ∉ zs) {j : Nat} {e : Shelf} (ee : ds[j]? = some e) : GoodDs zs so tk (ds.set j (putA e tk (so.map fun z => PH.Row.take z z))) := by
  have old : ∀ d ∈ ds, (d.map (·.1)).Nodup ∧ ∀ y ∈ d, (y.1 ∈ zs ∧ ∃ n : Nat, n < 100000 ∧ y.2 = [PH.Row.set y.1 (n : Nat)]) := fun d hd => ⟨(h d hd).nd, (h d hd).bod⟩
  have me := old e (List.mem_of_getElem? ee)
  have nk : tk ∉ e.map (·.1) := fun hm => by
    obtain ⟨y, hy, c⟩ := List.mem_map.mp hm
    exact nt (by rw [← c]; exact (me.2 y hy).1)
  refine ⟨fun d hd => ?_, fun d hd y hy => ?_⟩
  · rcases List.mem_or_eq_of_mem_set hd with hd | rfl
    · exact (old d hd).1
    · exact putA_nd me.1
  · rcases List.mem_or_eq_of_mem_set hd with hd | rfl
    · exact .inl ((old d hd).2 y hy)
    · rw [putA_new nk] at hy
      rcases List.mem_append.mp hy with hy | hy
      · exact .inl (me.2 y hy)
      · rw [List.mem_singleton.mp hy]
        exact .inr ⟨rfl, rfl⟩
/-- copies of finders, told one by one -/
structure Cps (H0 H : Hp) (shs ks : List Sf) : Prop where
  kv : ks.map (·.kvs) = shs.map (·.kvs)
  nd : (ks.map (·.a)).Nodup
  at_ : ∀ y ∈ ks, H y.a = some (.dK y.kvs) ∧ H0 y.a = none
/-! houses side by side -/
structure Hx where
  h : HA
  s : Hs
  a : Ab
  ds : List Shelf
structure HxOk (K : PySem.W.Frag) (C : Cl) (zs so : List Str) (tk : Str) (H : Hp) (n : Nat) (x : Hx) : Prop where
  rt : RtOk zs (tk :: zs) so tk x.ds
  at_ : HouseAt K C ⟨fndS x.ds, fun _ => zs⟩ H x.h x.s x.a
  std : StdT tk so (fndS x.ds) x.a
  ln : x.a.line = []
  lot : lot (tk :: zs) x.a ≤ 2341 * (n + 1)
structure LSt (K : PySem.W.Frag) (C : Cl) (zs so : List Str) (tk : Str) (Z : List Addr) (H : Hp) (n : Nat) (xs : List Hx) : Prop where
  ok : ∀ x ∈ xs, HxOk K C zs so tk H n x
  dis : xs.Pairwise fun x y => ∀ z ∈ owns C x.h x.s x.a, z ∉ owns C y.h y.s y.a
  zn : ∀ z ∈ Z, H z ≠ none ∧ ∀ x ∈ xs, z ∉ owns C x.h x.s x.a
/-- what is held stays -/
structure ZK (Z : List Addr) (H H' : Hp) : Prop where
  at_ : ∀ z ∈ Z, ∀ o, H z = some o → H' z = some o
  tup : TupK H H'
theorem ZK.refl {Z : List Addr} {H : Hp} : ZK Z H H := ⟨fun _ _ _ h => h, fun _ _ h => h⟩
theorem ZK.tr {Z : List Addr} {A B C : Hp} (h : ZK Z A B) (g : ZK Z B C) : ZK Z A C := ⟨fun z hz o e => g.at_ z hz o (h.at_ z hz o e), TupK.tr h.tup g.tup⟩
theorem ZK.same {Z : List Addr} {H H' : Hp} (k : Kp [] H H') : ZK Z H H' := ⟨fun z _ o e => k.get trivial e, TupK.same k⟩
theorem lot_un9 {ps : List Str} (h : ps.length ≤ 9) (a : Ab) {m : Nat} (l : lot ps a ≤ m) : lot ps a.unbroken ≤ m + 2340 := by
  unfold lot at l ⊢
  have h1 : rem ps a.unbroken ≤ ps.length := List.length_filter_le _ _
  have h2 : wt a.unbroken ≤ wt a := by
    unfold wt
    show _ + _ + _ + _ + 0 + _ + _ ≤ _
    show a.log.length + a.pap.length + a.qs.length + many a.nm + 0 + a.fat.length + a.tab.length ≤ _
    omega
  omega
section
variable {K : PySem.W.Frag} {C : Cl} {zs so : List Str} {tk : Str} {Z : List Addr} {H H' : Hp} {n : Nat} {xs : List Hx}
theorem LSt.same (L : LSt K C zs so tk Z H n xs) (k : Kp [] H H') : LSt K C zs so tk Z H' n xs :=
  ⟨fun x hx => ⟨(L.ok x hx).rt, (L.ok x hx).at_.same k, (L.ok x hx).std, (L.ok x hx).ln, (L.ok x hx).lot⟩, L.dis, fun z hz => ⟨fun e => (L.zn z hz).1 (k.free trivial e), (L.zn z hz).2⟩⟩
theorem LSt.more (L : LSt K C zs so tk Z H n xs) {m : Nat} (h : n ≤ m) : LSt K C zs so tk Z H m xs :=
  ⟨fun x hx => ⟨(L.ok x hx).rt, (L.ok x hx).at_, (L.ok x hx).std, (L.ok x hx).ln, Nat.le_trans (L.ok x hx).lot (Nat.mul_le_mul_left _ (by omega))⟩, L.dis, L.zn⟩
/-- what is written is none of the houses' -/
theorem LSt.put (L : LSt K C zs so tk Z H n xs) {z : Addr} {o o' : HO} (e : H z = some o) (so_ : Soft o) (hz : z ∈ Z) : LSt K C zs so tk Z (upd H z o') n xs := by
  have k : Kp [z] H (upd H z o') := Kp.refl.upd_mem List.mem_cons_self
  refine ⟨fun x hx => ⟨(L.ok x hx).rt, (L.ok x hx).at_.kp k (Keep.one e so_) fun y hy hw => ?_, (L.ok x hx).std, (L.ok x hx).ln, (L.ok x hx).lot⟩, L.dis, fun y hy => ⟨fun e2 => ?_, (L.zn y hy).2⟩⟩
  · rw [List.mem_singleton.mp hw] at hy
    exact (L.zn z hz).2 x hx hy
  · by_cases c : y = z
    · rw [c, upd_same] at e2
      cases e2
    · rw [upd_ne c] at e2
      exact (L.zn y hy).1 e2
theorem LSt.add (L : LSt K C zs so tk Z H n xs) (k : Kp [] H H') {x : Hx} (hx : HxOk K C zs so tk H' n x) (new : ∀ z ∈ owns C x.h x.s x.a, H z = none) : LSt K C zs so tk Z H' n (xs ++ [x]) := by
  have L2 := L.same k
  refine ⟨fun y hy => ?_, List.pairwise_append.mpr ⟨L.dis, List.pairwise_singleton _ _, fun y hy w hw z hz hz2 => ?_⟩, fun z hz => ⟨(L2.zn z hz).1, fun y hy hz2 => ?_⟩⟩
  · rcases List.mem_append.mp hy with hy | hy
    · exact L2.ok y hy
    · rw [List.mem_singleton.mp hy]; exact hx
  · rw [List.mem_singleton.mp hw] at hz2
    obtain ⟨o, e⟩ := (L.ok y hy).at_.own.has hz
    rw [new z hz2] at e
    cases e
  · rcases List.mem_append.mp hy with hy | hy
    · exact (L2.zn z hz).2 y hy hz2
    · rw [List.mem_singleton.mp hy] at hz2
      exact (L.zn z hz).1 (new z hz2)
theorem LSt.hold (L : LSt K C zs so tk Z H n xs) {Z' : List Addr} (h : ∀ z ∈ Z', z ∈ Z ∨ (H z ≠ none ∧ ∀ x ∈ xs, z ∉ owns C x.h x.s x.a)) : LSt K C zs so tk Z' H n xs := ⟨L.ok, L.dis, fun z hz => (h z hz).elim (L.zn z) id⟩
/-- one house goes on -/
theorem LSt.step (L : LSt K C zs so tk Z H n xs) {i : Nat} {x : Hx} (e : xs[i]? = some x) {s' : Hs} {b : Ab} (st : Stp K C ⟨fndS x.ds, fun _ => zs⟩ x.h H x.s x.a H' s' b) (D : StdT tk so (fndS x.ds) b) (ln : b.line = []) (lt : lot (tk :: zs) b ≤ lot (tk :: zs) x.a.unbroken + 1) (zl : zs.length ≤ 8) :
    LSt K C zs so tk Z H' (n + 1) (xs.set i ⟨x.h, s', b, x.ds⟩) ∧ ZK Z H H' := by
  have mx := List.mem_of_getElem? e
  have I := (L.ok x mx).at_
  have kz : ∀ z, H z ≠ none → z ∉ owns C x.h x.s x.a → ∀ o, H z = some o → H' z = some o := fun z _ nz o eo => st.kp.get (Nin.intro fun y hy c => nz (by rw [c]; exact hy)) eo
  have old : ∀ z, H z ≠ none → z ∉ owns C x.h x.s x.a → z ∉ owns C x.h s' b := fun z h1 h2 h3 => (st.new z h3).elim h2 h1
  obtain ⟨li, ei⟩ := List.getElem?_eq_some_iff.mp e
  have pw := List.pairwise_iff_getElem.mp L.dis
  have oth : ∀ j (hj : j < xs.length), j ≠ i → (∀ z ∈ owns C xs[j].h xs[j].s xs[j].a, z ∉ owns C x.h x.s x.a) := fun j hj ne z hz hz2 => by
    rcases Nat.lt_or_gt_of_ne ne with c | c
    · exact pw j i hj li c z hz (by rw [ei]; exact hz2)
    · exact pw i j li hj c z (by rw [ei]; exact hz2) hz
  have has : ∀ j (hj : j < xs.length), ∀ z ∈ owns C xs[j].h xs[j].s xs[j].a, H z ≠ none := fun j hj z hz e0 => by
    obtain ⟨o, eo⟩ := (L.ok _ (List.getElem_mem hj)).at_.own.has hz
    rw [e0] at eo
    cases eo
  refine ⟨⟨fun y hy => ?_, ?_, fun z hz => ?_⟩, ⟨fun z hz o eo => kz z (L.zn z hz).1 ((L.zn z hz).2 x mx) o eo, (st.keep I).tup⟩⟩
  · obtain ⟨j, hj, rfl⟩ := List.mem_iff_getElem.mp hy
    rw [List.length_set] at hj
    by_cases c : i = j
    · subst c
      rw [List.getElem_set_self]
      refine ⟨(L.ok x mx).rt, st.at_, D, ln, ?_⟩
      have := lot_un9 (ps := tk :: zs) (by rw [List.length_cons]; omega) x.a (L.ok x mx).lot
      show lot (tk :: zs) b ≤ _
      omega
    · rw [List.getElem_set_ne c]
      have o := L.ok _ (List.getElem_mem hj)
      exact ⟨o.rt, o.at_.kp st.kp (st.keep I) fun z hz hw => oth j hj (Ne.symm c) z hz hw, o.std, o.ln, Nat.le_trans o.lot (Nat.mul_le_mul_left _ (by omega))⟩
  · refine List.pairwise_iff_getElem.mpr fun j k hj hk lt z hz hz2 => ?_
    rw [List.length_set] at hj hk
    rw [List.getElem_set] at hz hz2
    by_cases c1 : i = j
    · rw [if_pos c1] at hz
      rw [if_neg (by omega)] at hz2
      exact old z (has k hk z hz2) (oth k hk (by omega) z hz2) hz
    · rw [if_neg c1] at hz
      by_cases c2 : i = k
      · rw [if_pos c2] at hz2
        exact old z (has j hj z hz) (oth j hj (Ne.symm c1) z hz) hz2
      · rw [if_neg c2] at hz2
        exact pw j k hj hk lt z hz hz2
  · refine ⟨fun e0 => ?_, fun y hy hz2 => ?_⟩
    · obtain ⟨h1, h2⟩ := L.zn z hz
      cases eo : H z with
      | none => exact h1 eo
      | some o =>
        rw [kz z h1 (h2 x mx) o eo] at e0
        cases e0
    · obtain ⟨j, hj, rfl⟩ := List.mem_iff_getElem.mp hy
      rw [List.length_set] at hj
      rw [List.getElem_set] at hz2
      split at hz2
      · exact old z (L.zn z hz).1 ((L.zn z hz).2 x mx) hz2
      · exact (L.zn z hz).2 _ (List.getElem_mem hj) hz2
end
theorem right_of {K : PySem.W.Frag} {C : Cl} {zs so : List Str} {tk : Str} {Z : List Addr} {H : Hp} {n : Nat} {xs : List Hx} (L : LSt K C zs so tk Z H n xs) (zl : zs.length ≤ 8) (ln : n ≤ 36) {i : Nat} {x : Hx} (e : xs[i]? = some x) {p : Str} (hp : isPathL (tl p) = true) (sm : SmN p) {La : Addr} {shs : List Sf}
    (eL : H La = some (.lst (shs.map fun x => V.ref x.a))) (sh : Paired (ShR K H) shs x.ds) (mz : ∀ z ∈ La :: shs.map (·.a), z ∈ Z) {Q : VK} {E : XK} (q : ∀ H' xs', LSt K C zs so tk Z H' (n + 1) xs' → xs'.map (fun x => (x.h.self, x.ds)) = xs.map (fun x => (x.h.self, x.ds)) → ZK Z H H' → Q (.bl true) H') :
    spRight K C [.ref x.h.self, .ref La, .str p] H Q E := by
  have mx := List.mem_of_getElem? e
  have o := L.ok x mx
  have lu := lot_un9 (ps := tk :: zs) (by rw [List.length_cons]; omega) x.a o.lot
  refine ⟨zs, tk :: zs, so, tk, x.ds, shs, La, x.h, x.s, x.a, p, rfl, hp, sm, o.rt, by omega, o.at_, o.std, o.ln, eL, sh, fun z hz => (L.zn z (mz z hz)).2 x mx, fun H' s' b st D ln lt => ?_⟩
  obtain ⟨L2, zk⟩ := L.step e st D ln lt zl
  refine q H' _ L2 ?_ zk
  rw [List.map_set]
  refine List.ext_getElem? fun k => ?_
  rw [List.getElem?_set]
  split
  · rename_i h
    subst h
    split
    · rw [List.getElem?_map, e]; rfl
    · rename_i h2
      exact absurd (by rw [List.length_map]; exact (List.getElem?_eq_some_iff.mp e).1) h2
  · rfl
theorem std0 {so : List Str} {tk : Str} {fnd : Str → Option (List PH.Row)} : StdT tk so fnd Ab0 := ⟨⟨rfl, fun q k h => nomatch h⟩, fun k h => nomatch h⟩
theorem lot0 {zs : List Str} {tk : Str} (h : zs.length ≤ 8) : lot (tk :: zs) Ab0 ≤ 2341 * (0 + 1) := by
  have : rem (tk :: zs) Ab0 ≤ (tk :: zs).length := List.length_filter_le _ _
  rw [List.length_cons] at this
  have e : wt Ab0 = 0 := rfl
  unfold lot
  omega
/-- a house just made -/
theorem hx0 {K : PySem.W.Frag} {C : Cl} {zs so : List Str} {tk : Str} {H : Hp} {ds : List Shelf} {h : HA} {s : Hs} (G : GoodDs zs so tk ds) (N : NmZ zs so tk) (I : ∀ zs, HouseAt K C ⟨fndS ds, zs⟩ H h s Ab0) : HxOk K C zs so tk H 0 ⟨h, s, Ab0, ds⟩ := ⟨G.rt N, I _, std0, rfl, lot0 N.len⟩
theorem paired_drop {α β : Type} {R : α → β → Prop} : ∀ {xs : List α} {ys : List β}, Paired R xs ys → ∀ n, Paired R (xs.drop n) (ys.drop n)
  | _, _, .nil, n => by rw [List.drop_nil, List.drop_nil]; exact .nil
  | _, _, .cons h t, 0 => .cons h t
  | _, _, .cons h t, n + 1 => by rw [List.drop_succ_cons, List.drop_succ_cons]; exact paired_drop t n
theorem LSt.fresh {K : PySem.W.Frag} {C : Cl} {zs so : List Str} {tk : Str} {Z : List Addr} {H : Hp} {n : Nat} {xs : List Hx} (L : LSt K C zs so tk Z H n xs) {z : Addr} (h : H z = none) : ∀ x ∈ xs, z ∉ owns C x.h x.s x.a := fun x hx hz => by
  obtain ⟨o, e⟩ := (L.ok x hx).at_.own.has hz
  rw [h] at e
  cases e
theorem LSt.grow {K : PySem.W.Frag} {C : Cl} {zs so : List Str} {tk : Str} {Z : List Addr} {H : Hp} {n : Nat} {xs : List Hx} (L : LSt K C zs so tk Z H n xs) {z : Addr} {o : HO} (h : H z = none) : LSt K C zs so tk (z :: Z) (upd H z o) n xs := by
  refine (L.same (kp_new h)).hold fun y hy => ?_
  rcases List.mem_cons.mp hy with rfl | hy
  · exact .inr ⟨by rw [upd_same]; simp, L.fresh h⟩
  · exact .inl hy
theorem keys3 {α β : Type} {f : α → β} {xs : List α} {a b c : β} (h : xs.map f = [a, b, c]) : ∃ x y z, xs = [x, y, z] ∧ f x = a ∧ f y = b ∧ f z = c := by
  match xs, h with
  | [x, y, z], h =>
    simp only [List.map_cons, List.map_nil, List.cons.injEq, and_true] at h
    exact ⟨x, y, z, rfl, h.1, h.2.1, h.2.2⟩
theorem LSt.kp {K : PySem.W.Frag} {C : Cl} {zs so : List Str} {tk : Str} {Z Z' : List Addr} {H H' : Hp} {n : Nat} {xs : List Hx} (L : LSt K C zs so tk Z H n xs) {W : List Addr} (k : Kp W H H') (q : Keep H H') (w : ∀ z ∈ W, z ∈ Z) (h : ∀ z ∈ Z', z ∈ Z ∧ z ∉ W) : LSt K C zs so tk Z' H' n xs := by
  refine ⟨fun x hx => ⟨(L.ok x hx).rt, (L.ok x hx).at_.kp k q fun z hz hw => (L.zn z (w z hw)).2 x hx hz, (L.ok x hx).std, (L.ok x hx).ln, (L.ok x hx).lot⟩, L.dis, fun z hz => ⟨fun e => ?_, (L.zn z (h z hz).1).2⟩⟩
  cases eo : H z with
  | none => exact (L.zn z (h z hz).1).1 eo
  | some o =>
    have := k.get (Nin.intro fun y hy c => (h z hz).2 (by rw [c]; exact hy)) eo
    rw [e] at this
    cases this
theorem eqv_cps {K : PySem.W.Frag} {H : Hp} : ∀ {shs ks : List Sf}, ks.map (·.kvs) = shs.map (·.kvs) → (∀ y ∈ shs, H y.a = some (.dK y.kvs) ∧ (y.kvs.map (·.1)).Nodup ∧ ∀ q ∈ y.kvs, ∃ b, q.2 = V.ref b) → (∀ y ∈ ks, H y.a = some (.dK y.kvs)) → Paired (EqV K H 2) (shs.map fun x => V.ref x.a) (ks.map fun x => V.ref x.a)
  | [], [], _, _, _ => .nil
  | [], _ :: _, e, _, _ => nomatch e
  | _ :: _, [], e, _, _ => nomatch e
  | x :: shs, y :: ks, e, h, g => by
    rw [List.map_cons, List.map_cons] at e
    injection e with e1 e2
    obtain ⟨h1, h2, h3⟩ := h x List.mem_cons_self
    have g1 := g y List.mem_cons_self
    rw [e1] at g1
    refine .cons (eqV_copy 1 h1 g1 h2 fun q hq => ?_) (eqv_cps e2 (fun z hz => h z (List.mem_cons_of_mem _ hz)) fun z hz => g z (List.mem_cons_of_mem _ hz))
    obtain ⟨b, eb⟩ := h3 q hq
    exact .inr (.inl ⟨b, eb, eb⟩)

theorem names_two {zs : List Str} (h : 2 ≤ zs.length) : ∃ l t r, zs = l :: t :: r := by
  match zs, h with
  | l :: t :: r, _ => exact ⟨l, t, r, rfl⟩
def spLaw (K : PySem.W.Frag) : Sp := fun vs H Q _ => ∃ (a : Addr) (ns : List Int), vs = [.ref a] ∧ SqL K H a (ns.map V.int) ∧ ns.length ≤ 63 ∧ ∀ H', Q (.bl true) H'
section
variable {P : Program} {w : World} {K : PySem.W.Frag} {mg : Str → Option Value} {base : Heap} {C_MadeError C_Fault C_Failed C_Module C_Late C_Runs : Addr}
theorem ok_law {f : Addr} {fd : FuncData} (F : Fun K "law" "law" s_law f fd) (T : Txt K mg C_MadeError C_Fault C_Failed C_Module C_Late C_Runs)
    (D_l_pot : DnF P w K mg base 2 "_law_pot" ["_law_script", "_law_k"] (spPot K)) (D_l_draw : DnF P w K mg base 1 "_law_draw" ["_law_pot_here", "_law_many"] spDraw) (D_l_name : DnF P w K mg base 2 "_law_name" ["_law_pot_here", "_law_taken"] spName) (D_l_finders : DnF P w K mg base 2 "_law_finders" ["_law_pot_here", "_law_paths"] (spFinders K)) (D_l_found : DnF P w K mg base 1 "_law_found" ["_law_finders_here", "_law_path"] (spFoundL K)) (D_l_at : DnF P w K mg base 1 "_law_at" ["_law_script", "_law_k"] (spAt K)) (D_l_right : DnG P w K mg base 91 "_law_right" ["_law_house", "_law_finders_here", "_law_path"] (spRight K ⟨C_Runs, C_Module, C_Late⟩)) (D_l_changed : DnF P w K mg base 2 "_law_changed" ["_law_pot_here", "_law_finders_here", "_law_paths", "_law_lacking"] (spChanged K)) (D_Runs_init : DkF P w K mg base 14 C_Runs ["self", "finders"] (spRInit K ⟨C_Runs, C_Module, C_Late⟩)) :
    FnG P w K mg base 95 f fd ["_law_script"] (spLaw K) := by
  refine fnG_of F sc_law (fun vs H Q E h => ?_) (fun cdv A outer s H vs Q E hG hr h => ?_)
  · obtain ⟨a, ns, rfl, _⟩ := h
    rfl
  · obtain ⟨f_l_pot, fd_l_pot, G_l_pot, m_l_pot, k_l_pot, b_l_pot⟩ := D_l_pot; obtain ⟨f_l_draw, fd_l_draw, G_l_draw, m_l_draw, k_l_draw, b_l_draw⟩ := D_l_draw; obtain ⟨f_l_name, fd_l_name, G_l_name, m_l_name, k_l_name, b_l_name⟩ := D_l_name; obtain ⟨f_l_finders, fd_l_finders, G_l_finders, m_l_finders, k_l_finders, b_l_finders⟩ := D_l_finders; obtain ⟨f_l_found, fd_l_found, G_l_found, m_l_found, k_l_found, b_l_found⟩ := D_l_found; obtain ⟨f_l_at, fd_l_at, G_l_at, m_l_at, k_l_at, b_l_at⟩ := D_l_at; obtain ⟨f_l_right, fd_l_right, G_l_right, m_l_right, k_l_right, b_l_right⟩ := D_l_right; obtain ⟨f_l_changed, fd_l_changed, G_l_changed, m_l_changed, k_l_changed, b_l_changed⟩ := D_l_changed; obtain ⟨f_Runs_init, fd_Runs_init, G_Runs_init, M_Runs, b_Runs_init⟩ := D_Runs_init
    obtain ⟨a, ns, rfl, hs0', hn, q⟩ := h
    have hs := hs0'
    have hu := hu_of hr
    refine ⟨_, (pss_cons (ps_set (i := 1) sc_law.nd rfl (Or.inl rfl) (pe_call G_l_pot (hr.mono (by first | decide | omega)) (by rfl) m_l_pot k_l_pot b_l_pot .nil pass0 (pa_cons (pv 0) (pa_cons pe_int pa_nil))))
      (pss_cons (ps_set (i := 2) sc_law.nd rfl (Or.inl rfl) (pe_lst pa_nil))
      (pss_cons (ps_for PassesOwn.never rfl (pi_range1 rfl T.n_range (pa_cons (pe_op op_add pe_int (pe_call G_l_draw (hr.mono (by first | decide | omega)) (by rfl) m_l_draw k_l_draw b_l_draw .nil pass0 (pa_cons (pv 1) (pa_cons pe_int pa_nil)))) pa_nil)) (pg_name (i := 3) sc_law.nd rfl (Or.inl rfl)) (pss_one (ps_expr (pe_call G_l_name (hr.mono (by first | decide | omega)) (by rfl) m_l_name k_l_name b_l_name .nil pass0 (pa_cons (pv 1) (pa_cons (pv 2) pa_nil))))))
      (pss_cons (ps_asg (pe_slice (slLK (K := K) rfl) (pv 2) po_none (po_some pe_int)) (kgU (K := K) rfl (pg_unl rfl (pgs_cons (pg_name (i := 4) sc_law.nd rfl (Or.inl rfl)) (pgs_cons (pg_name (i := 5) sc_law.nd rfl (Or.inl rfl)) pgs_nil)))))
      (pss_cons (ps_set (i := 6) sc_law.nd rfl (Or.inl rfl) (pe_slice (slLK (K := K) rfl) (pv 2) (po_some pe_int) po_none))
      (pss_cons (ps_set (i := 7) sc_law.nd rfl (Or.inr rfl) (pe_call G_l_finders (hr.mono (by first | decide | omega)) (by rfl) m_l_finders k_l_finders b_l_finders .nil pass0 (pa_cons (pv 1) (pa_cons (pv 6) pa_nil))))
      (pss_cons (ps_setLc (i := 8) (own := [("_law_path", 15)]) (g := gName 15) rfl sc_law.nd rfl rfl (sw_true rfl rfl rfl (by decide +kernel)) (kiL (K := K) rfl (pi_list (pv 6))) (blkOk_by (own := [("_law_path", 15)]) (N := N_law) (sc := (defScope s_law)) (by decide +kernel)) (fun _ _ _ _ _ => (pg_name (i := 15) sc_law.nd rfl (Or.inl rfl))) (fun _ _ _ _ _ => (pts_one (pt_cmpR op_notN (pe_call G_l_found (hr.mono (by first | decide | omega)) (by rfl) m_l_found k_l_found b_l_found .nil pass0 (pa_cons (pv 7) (pa_cons (pv 15) pa_nil))) pe_non (nomark _)))) (fun _ _ _ _ _ => (pv 15)))
      (pss_cons (ps_dput hu (pe_ix (ixLK (K := K) rfl) (pv 7) (pe_call G_l_draw (hr.mono (by first | decide | omega)) (by rfl) m_l_draw k_l_draw b_l_draw .nil pass0 (pa_cons (pv 1) (pa_cons (pe_callB (lenK (K := K) rfl) (by rfl) T.n_len (by decide +kernel) (pa_cons (pv 7) pa_nil)) pa_nil))) (fun _ _ => rfl)) (pv 5) (pe_callTy (tupleK (K := K) rfl) (by rfl) T.n_tuple (by decide +kernel) (pa_cons (pe_lc (own := [("_law_path", 15)]) (g := gName 15) (tt := tYes) rfl sc_law.nd (kiL (K := K) rfl (pi_list (pv 8))) (blkOk_by (own := [("_law_path", 15)]) (N := N_law) (sc := (defScope s_law)) (by decide +kernel)) (fun _ _ _ _ _ => (pg_name (i := 15) sc_law.nd rfl (Or.inl rfl))) (fun _ _ _ _ _ => pts_nil) (fun _ _ _ _ _ => (pe_tup (pa_cons pe_str (pa_cons (pv 15) (pa_cons (pv 15) pa_nil)))))) pa_nil)) rfl)
      (pss_cons (ps_set (i := 9) sc_law.nd rfl (Or.inl rfl) (pe_call G_l_draw (hr.mono (by first | decide | omega)) (by rfl) m_l_draw k_l_draw b_l_draw .nil pass0 (pa_cons (pv 1) (pa_cons (pe_callB (lenK (K := K) rfl) (by rfl) T.n_len (by decide +kernel) (pa_cons (pv 7) pa_nil)) pa_nil))))
      (pss_cons (ps_setLc (i := 10) (own := [("_law_finder", 16)]) (g := gName 16) (tt := tYes) rfl sc_law.nd rfl rfl (sw_true rfl rfl rfl (by decide +kernel)) (kiL (K := K) rfl (pi_list (pv 7))) (blkOk_by (own := [("_law_finder", 16)]) (N := N_law) (sc := (defScope s_law)) (by decide +kernel)) (fun _ _ _ _ _ => (pg_name (i := 16) sc_law.nd rfl (Or.inl rfl))) (fun _ _ _ _ _ => pts_nil) (fun _ _ _ _ _ => (pe_callTy call_dictD (by rfl) T.n_dict (by decide +kernel) (pa_cons (pv 16) pa_nil))))
      (pss_cons (ps_set (i := 11) sc_law.nd rfl (Or.inl rfl) (pe_lst (pa_cons (pe_make M_Runs G_Runs_init (hr.mono (by first | decide | omega)) (by rfl) T.mg_Runs b_Runs_init .nil pass0 (pa_cons (pv 7) pa_nil)) (pa_cons (pe_make M_Runs G_Runs_init (hr.mono (by first | decide | omega)) (by rfl) T.mg_Runs b_Runs_init .nil pass0 (pa_cons (pe_slice (slLK (K := K) rfl) (pv 7) (po_some (pv 9)) po_none) pa_nil)) (pa_cons (pe_make M_Runs G_Runs_init (hr.mono (by first | decide | omega)) (by rfl) T.mg_Runs b_Runs_init .nil pass0 (pa_cons (pv 7) pa_nil)) pa_nil)))))
      (pss_cons (ps_set (i := 12) sc_law.nd rfl (Or.inl rfl) (pe_lst (pa_cons (pv 10) (pa_cons (pe_slice (slLK (K := K) rfl) (pv 10) (po_some (pv 9)) po_none) (pa_cons (pv 10) pa_nil)))))
      (pss_cons (ps_for PassesOwn.never rfl (kiL (K := K) rfl (pi_list (pe_op op_cat (pe_lst (pa_cons (pe_call G_l_at (hr.mono (by first | decide | omega)) (by rfl) m_l_at k_l_at b_l_at .nil pass0 (pa_cons (pv 0) (pa_cons pe_int pa_nil))) pa_nil)) (pe_slice (slLK (K := K) rfl) (pv 0) (po_some pe_int) (po_some pe_int))))) (pg_name (i := 13) sc_law.nd rfl (Or.inl rfl)) (pss_cons (ps_set (i := 14) sc_law.nd rfl (Or.inl rfl) (pe_op op_mod (pe_op op_fdiv (pv 13) (pe_callB (lenK (K := K) rfl) (by rfl) T.n_len (by decide +kernel) (pa_cons (pv 2) pa_nil))) pe_int))
      (pss_one (ps_if (pt_not (pt_val (pe_callG G_l_right hG (hr.mono (by first | decide | omega)) (by rfl) m_l_right k_l_right b_l_right .nil (pa_cons (pe_ix (ixLK (K := K) rfl) (pv 11) (pv 14) (fun _ _ => rfl)) (pa_cons (pe_ix (ixLK (K := K) rfl) (pv 12) (pv 14) (fun _ _ => rfl)) (pa_cons (pe_ix (ixLK (K := K) rfl) (pv 2) (pe_op op_mod (pv 13) (pe_callB (lenK (K := K) rfl) (by rfl) T.n_len (by decide +kernel) (pa_cons (pv 2) pa_nil))) (fun _ _ => rfl)) pa_nil)))))) (pss_one (ps_ret pe_bl)) pss_nil))))
      (pss_cons (ps_if (pt_cmpR (neSameK (K := K) rfl hr.units) (pv 7) (pv 10) (nomark _)) (pss_one (ps_ret pe_bl)) pss_nil)
      (pss_cons (ps_expr (pe_call G_l_changed (hr.mono (by first | decide | omega)) (by rfl) m_l_changed k_l_changed b_l_changed .nil pass0 (pa_cons (pv 1) (pa_cons (pv 7) (pa_cons (pv 6) (pa_cons (pv 4) pa_nil))))))
      (pss_cons (ps_for PassesOwn.never rfl (pi_range1 rfl T.n_range (pa_cons pe_int pa_nil)) (pg_name (i := 14) sc_law.nd rfl (Or.inl rfl)) (pss_one (ps_for PassesOwn.never rfl (kiL (K := K) rfl (pi_list (pv 2))) (pg_name (i := 15) sc_law.nd rfl (Or.inl rfl)) (pss_one (ps_if (pt_not (pt_val (pe_callG G_l_right hG (hr.mono (by first | decide | omega)) (by rfl) m_l_right k_l_right b_l_right .nil (pa_cons (pe_ix (ixLK (K := K) rfl) (pv 11) (pv 14) (fun _ _ => rfl)) (pa_cons (pe_ix (ixLK (K := K) rfl) (pv 12) (pv 14) (fun _ _ => rfl)) (pa_cons (pv 15) pa_nil)))))) (pss_one (ps_ret pe_bl)) pss_nil)))))
      (pss_one (ps_ret pe_bl)))))))))))))))))), ?_⟩
    refine st_start (σ' := [some (.ref a), none, none, none, none, none, none, none, none, none, none, none, none, none, none, none, none]) rfl ?_
    walk_at "S"
    refine ⟨a, ns, 0, rfl, hs, by omega, fun H1 p k1 hp0 hp => ?_⟩
    have hs := k1.seqL trivial hs
    walk_at "S"
    refine ⟨small_le (by simp), fun N hN => ?_⟩
    have npN := hp.ne hN
    have k12 := kp_new (o := .lst []) hN
    have hp := hp.upd npN (o := .lst [])
    have hs := k12.seqL trivial hs
    have eN : upd H1 N (.lst []) N = some (.lst []) := upd_same
    generalize upd H1 N (.lst []) = H2 at *
    walk_at "S"
    refine ⟨p, _, rfl, hp, by omega, by omega, fun H3 v3 k3 hp3 a0 a1 => ?_⟩
    walk_at "S"
    refine ⟨by omega, by omega, ?_⟩
    refine for_go walk_range (fun i σ Hi => ∃ (zs : List Str) (o2 : Option V), σ = [some (.ref a), some (.ref p), some (.ref N), o2, none, none, none, none, none, none, none, none, none, none, none, none, none] ∧ Kp [p, N] H2 Hi ∧ PotOk Hi p ∧ Hi N = some (.lst (zs.map V.str)) ∧ Taken zs ∧ zs.length = i)
      ⟨[], _, rfl, k3.weak (fun x hx => by rw [List.mem_singleton.mp hx]; exact List.mem_cons_self), hp3, k3.get (nin1' npN) eN, ⟨.nil, by simp⟩, rfl⟩ (fun _ _ _ _ _ => trivial) (fun i x σ Ha Hb hi I y => ?_) fun σ H4 I => ?_
    · obtain ⟨rfl, rfl⟩ := y
      obtain ⟨zs, o2, rfl, kk, hpi, eNi, tk, nz⟩ := I
      walk_at "S"
      refine ⟨p, N, zs, rfl, hpi, eNi, tk, by omega, fun H4 z k4 hp4 ht4 tk4 => ?_⟩
      walk_at "S"
      exact ⟨_, _, rfl, kk.tr k4, hp4, ht4, tk4, by rw [List.length_append, List.length_singleton]; omega⟩
    obtain ⟨zs0, o2, rfl, k4, hp4, eN4, tk, nz⟩ := I
    have lzs : 3 ≤ zs0.length ∧ zs0.length ≤ 7 := by omega
    obtain ⟨lc, tk0, zs, rfl⟩ := names_two (zs := zs0) (by omega)
    have kA : Kp [] H H4 := (k1.tr k12).step k4 fun x hx => by
      simp only [List.mem_cons, List.not_mem_nil, or_false] at hx
      rcases hx with rfl | rfl
      · exact .inr hp0
      · exact .inr (k1.free trivial hN)
    walk_at "S"
    intro l1 hl1
    have ec1 : cutV ((lc :: tk0 :: zs).map V.str) none (some 2) = [.str lc, .str tk0] := (cut_to _ 2).trans rfl
    refine s_gunl (xs := [.str lc, .str tk0]) (sq_l (by rw [upd_same, ec1])) rfl ?_
    have k45 := kp_new (o := .lst (cutV ((lc :: tk0 :: zs).map V.str) none (some 2))) hl1
    have kA := kA.tr k45
    have eN5 := k45.get trivial eN4
    have hp5 := hp4.kp k45 trivial
    generalize upd H4 l1 (.lst (cutV ((lc :: tk0 :: zs).map V.str) none (some 2))) = H5 at *
    walk_at "S"
    intro B hB
    have ec2 : cutV ((lc :: tk0 :: zs).map V.str) (some 2) none = zs.map V.str := (cut_from _ 2).trans rfl
    rw [ec2]
    have k56 := kp_new (o := .lst (zs.map V.str)) hB
    have kA := kA.tr k56
    have eN6 := k56.get trivial eN5
    have hp6 := hp5.kp k56 trivial
    have eB6 : upd H5 B (.lst (zs.map V.str)) B = some (.lst (zs.map V.str)) := upd_same
    generalize upd H5 B (.lst (zs.map V.str)) = H6 at *
    walk_at "S"
    have npB := pot_strs hp6 eB6
    have npN6 := pot_strs hp6 eN6
    have tz : Taken zs := ⟨(tk.nd.sublist (List.sublist_cons_self _ _)).sublist (List.sublist_cons_self _ _), fun z hz => tk.ok z (List.mem_cons_of_mem _ (List.mem_cons_of_mem _ hz))⟩
    have lz : 1 ≤ zs.length ∧ zs.length ≤ 5 := by
      simp only [List.length_cons] at lzs
      omega
    have ntk : tk0 ∉ zs := (List.nodup_cons.mp (List.nodup_cons.mp tk.nd).2).1
    have okt : OkN tk0 := tk.ok tk0 (by simp)
    have okl : OkN lc := tk.ok lc (by simp)
    have kA6 := kA
    refine ⟨p, B, zs, rfl, hp6, eB6, tz.nd, by omega, fun H7 F shs ds I7 hds s1 s8 => ?_⟩
    have hp7 := I7.hp
    have eN7 := I7.kp.get (nin1' npN6) eN6
    have eB7 := I7.kp.get (nin1' npB) eB6
    have hp00 : H p = none := hp0
    have kA : Kp [] H H7 := kA.step I7.kp fun x hx => .inr (by rw [List.mem_singleton.mp hx]; exact hp00)
    walk_at "S"
    refine ⟨⟨_, sq_l eB7⟩, fun D hD => ?_⟩
    have LC : LcOk D (zs.map V.str).length (fun i => ((zs.take i).filter fun z => (fndS ds z).isSome).map V.str) [] H7 (fun _ _ => True) := ⟨small_le (by rw [List.length_map]; omega), rfl, fun i hi => by
      rw [List.length_map]
      refine Nat.le_trans (List.length_filter_le _ _) ?_
      rw [List.length_take]
      omega, hD, trivial, fun _ _ _ h => h⟩
    refine lc_go (walk_list (K := K) (a := B) (xs := zs.map V.str)) LC trivial (fun Hq kq => sq_l (kq.get trivial eB7)) (fun i x Ha Hb hi Ib y => ?_) fun H8 I8 => ?_
    · obtain ⟨rfl, hx⟩ := y
      rw [List.length_map] at hi
      have ez := List.getElem?_eq_getElem hi
      generalize zs[i] = z at ez
      rw [List.getElem?_map, ez] at hx
      obtain rfl : V.str z = x := Option.some.inj hx
      have acc : (zs.take (i + 1)).filter (fun z => (fndS ds z).isSome) = (zs.take i).filter (fun z => (fndS ds z).isSome) ++ (if (fndS ds z).isSome then [z] else []) := by
        rw [take_put ez, List.filter_append, List.filter_cons]
        rfl
      have Ib' := I7.same Ib.2.1
      walk_at "S"
      refine ⟨rfl, ?_⟩
      walk_at "S"
      refine ⟨F, shs, ds, z, rfl, sq_l Ib'.eF, Ib'.sh, fun v fv => ?_⟩
      walk_at "S"
      cases e : fndS ds z with
      | none =>
        rw [fv.no e, if_neg (by simp)]
        refine Ib.skip LC ?_ Kp.refl trivial
        rw [acc, e]
        show List.map V.str (_ ++ []) = _
        rw [List.append_nil]
      | some b =>
        have nv : v ≠ .non := fun c => by
          have := fv.yes b e
          rw [c] at this
          cases this
        rw [if_pos (by simp [nv])]
        walk_at "S"
        refine Ib.put LC (by rw [List.length_map]; exact hi) ?_ Kp.refl trivial
        rw [acc, e, List.map_append]
        rfl
    · obtain ⟨x8, k78, _⟩ := I8
      dsimp only at x8
      rw [List.length_map, List.take_of_length_le (Nat.le_refl _)] at x8
      generalize hso : zs.filter (fun z => (fndS ds z).isSome) = so at x8
      have I8 := I7.same k78
      have eN8 := k78.get trivial eN7
      have eB8 := k78.get trivial eB7
      have kA := kA.tr k78
      walk_at "S"
      have N_ : NmZ zs so tk0 := ⟨tz.ok, okt, ntk, by omega, fun z hz => by rw [← hso] at hz; exact (List.mem_filter.mp hz).1, by rw [← hso]; exact tz.nd.sublist List.filter_sublist⟩
      have lso := N_.so8
      refine ⟨⟨_, sq_l x8⟩, fun E2 hE2 => ?_⟩
      refine lc_goH (walk_list (K := K) (a := D) (xs := so.map V.str)) (W := []) (PL := fun i xs H' => DLst K H' xs (rowsD ((so.take i).map fun z => PH.Row.take z z))) hE2 .nil (fun Hq kq => sq_l (kq.get trivial x8)) (fun i x Ha Hb hi Ib y => ?_) fun H9 I9 => ?_
      · obtain ⟨rfl, hx⟩ := y
        obtain ⟨xs, ex, dl, lx, k0⟩ := Ib
        rw [List.length_map] at hi
        have ez := List.getElem?_eq_getElem hi
        generalize so[i] = z at ez
        rw [List.getElem?_map, ez] at hx
        obtain rfl : V.str z = x := Option.some.inj hx
        walk_at "S"
        refine ⟨rfl, ?_⟩
        walk_at "S"
        refine ⟨small_le (by simp), fun t ht => ?_⟩
        have kt : Kp [] Hb (upd Hb t (.tup [.str "take", .str z, .str z])) := kp_new ht
        refine LcInvH.put ex lx k0 hE2 trivial kt (small_lt (by omega)) ?_
        rw [take_put ez, List.map_append]
        unfold rowsD at dl ⊢
        rw [List.map_append]
        exact dl.more kt (kt.get trivial ex) (.tup (sq_t upd_same) (.cons (.str _) (.cons (.str _) (.cons (.str _) .nil)))) rfl
      obtain ⟨xs, exE, dl, lx, k89⟩ := I9
      rw [List.length_map, List.take_of_length_le (Nat.le_refl _)] at dl
      walk_at "S"
      refine s_tupL (sq_l exE) fun TT hTT => ?_
      have k9 := kp_new (o := .tup xs) hTT
      have k79 := k89.tr k9
      have dT : Dp K (upd H9 TT (.tup xs)) (.ref TT) (.tuple (rowsD (so.map fun z => PH.Row.take z z))) := .tup (sq_t upd_same) (Dp.tupsAll (TupK.same k9) _ _ (flat_rowsD _) dl.1)
      have I9 := I8.same k79
      have eN9 := k79.get trivial eN8
      have eB9 := k79.get trivial eB8
      have kA := kA.tr k79
      generalize upd H9 TT (.tup xs) = H10 at *
      have eF9 := I9.eF
      walk_at "S"
      rw [List.length_map]
      refine ⟨p, _, rfl, I9.hp, by omega, by omega, fun H11 v11 k11 hp11 b0 b1 => ?_⟩
      obtain ⟨j, x, rfl, hj, ej, mj, aj⟩ := pickM (xs := shs) (g := fun x : Sf => V.ref x.a) b0 (by omega)
      have dT := Dp.tups (tup_pot k11 I9.hp) _ _ (flat_rowsD _) dT
      have eN11 := k11.get (nin1' (pot_strs I9.hp eN9)) eN9
      have eB11 := k11.get (nin1' (pot_strs I9.hp eB9)) eB9
      have I11 := I9.pot k11 hp11
      have kA : Kp [] H H11 := kA.step k11 fun x hx => .inr (by rw [List.mem_singleton.mp hx]; exact hp00)
      refine s_ixL (sq_l I11.eF) aj ?_
      walk_at "S"
      obtain ⟨e, ee, rj⟩ := paired_get I11.sh ej
      have GD := GoodDs.of (so := so) hds ntk ee
      have lkv : x.kvs.length ≤ 100 := by
        rw [rj.nm.len]
        have h := List.Nodup.length_le_of_subset (l₂ := zs) (hds e (List.mem_of_getElem? ee)).nd fun z hz => by
          obtain ⟨y, hy, rfl⟩ := List.mem_map.mp hz
          exact ((hds e (List.mem_of_getElem? ee)).bod y hy).1
        rw [List.length_map] at h
        omega
      refine s_putS rj.at_ (small_lt (by omega)) ?_
      have eN12 : upd H11 x.a (.dK (putK x.kvs (.inr tk0) (.ref TT))) N = some (.lst ((lc :: tk0 :: zs).map V.str)) := (upd_ne (lst_dK eN11 rj.at_).symm).trans eN11
      have eB12 : upd H11 x.a (.dK (putK x.kvs (.inr tk0) (.ref TT))) B = some (.lst (zs.map V.str)) := (upd_ne (lst_dK eB11 rj.at_).symm).trans eB11
      have nx0 : H x.a = none := kA6.free trivial (I11.nw x mj)
      have I12 := I11.setAt ej ee (z := tk0) dT
      have kA : Kp [] H (upd H11 x.a (.dK (putK x.kvs (.inr tk0) (.ref TT)))) := kA.upd_loc nx0
      have sl : (shs.set j ⟨x.a, putK x.kvs (.inr tk0) (.ref TT)⟩).length = shs.length := List.length_set ..
      have GDsh := GD.shelf N_
      generalize shs.set j ⟨x.a, putK x.kvs (.inr tk0) (.ref TT)⟩ = shs2 at *
      generalize ds.set j (putA e tk0 (so.map fun z => PH.Row.take z z)) = ds2 at *
      generalize upd H11 x.a (.dK (putK x.kvs (.inr tk0) (.ref TT))) = H12 at *
      have eF12 := I12.eF
      walk_at "S"
      rw [List.length_map]
      refine ⟨p, _, rfl, I12.hp, by omega, by omega, fun H13 v13 k13 hp13 c0 c1 => ?_⟩
      obtain ⟨bg, rfl⟩ := Int.eq_ofNat_of_zero_le c0
      have eN13 := k13.get (nin1' (pot_strs I12.hp eN12)) eN12
      have eB13 := k13.get (nin1' (pot_strs I12.hp eB12)) eB12
      have I13 := I12.pot k13 hp13
      have kA : Kp [] H H13 := kA.step k13 fun x hx => .inr (by rw [List.mem_singleton.mp hx]; exact hp00)
      have eF13 := I13.eF
      have hs0 : ∀ x ∈ shs2, H13 x.a = some (.dK x.kvs) := fun x hx => by
        obtain ⟨i, ei⟩ := List.mem_iff_getElem?.mp hx
        obtain ⟨d, ed, r⟩ := paired_get I13.sh ei
        exact r.at_
      walk_at "S"
      refine ⟨⟨_, sq_l eF13⟩, fun KD hKD => ?_⟩
      refine lc_it (walk_list (K := K) (a := F) (xs := shs2.map fun x => V.ref x.a)) (fun i H' => ∃ ks : List Sf, H' KD = some (.lst (ks.map fun x => V.ref x.a)) ∧ Kp [] H13 H' ∧ Cps H13 H' (shs2.take i) ks) ⟨[], upd_same, Kp.refl.upd_new hKD, by simp, List.nodup_nil, by simp⟩
        (fun i H' _ I => by obtain ⟨_, _, k, _⟩ := I; exact sq_l (k.get trivial eF13)) (fun i x Hp_ H' hi I y => ?_) fun H14 I => ?_
      · obtain ⟨rfl, hx⟩ := y
        obtain ⟨ks, eD, k2, em, nds, hy⟩ := I
        rw [List.getElem?_map] at hx
        obtain ⟨y, ey, rfl⟩ : ∃ y, shs2[i]? = some y ∧ x = V.ref y.a := by
          cases e : shs2[i]? with
          | none => rw [e] at hx; cases hx
          | some y => rw [e] at hx; exact ⟨y, rfl, (Option.some.inj hx).symm⟩
        have sy := hs0 y (List.mem_of_getElem? ey)
        have ls : ks.length ≤ 100 := by
          have := congrArg List.length em
          rw [List.length_map, List.length_map, List.length_take] at this
          omega
        walk_at "S"
        refine ⟨rfl, ?_⟩
        walk_at "S"
        refine ⟨y.a, y.kvs, rfl, .inl (k2.get trivial sy), fun pn hpn => ?_⟩
        have np : KD ≠ pn := ne_of_none eD hpn
        refine ⟨_, (upd_ne np).trans eD, small_lt (by rw [List.length_map]; omega), ks ++ [⟨pn, y.kvs⟩], by rw [upd_same, List.map_append]; rfl, (k2.upd_new hpn).upd_loc hKD, ?_, ?_, fun z hz => ?_⟩
        · rw [List.map_append, em, take_put ey, List.map_append]
          rfl
        · rw [List.map_append]
          refine List.nodup_append.mpr ⟨nds, List.pairwise_singleton _ _, fun u hu v hv e => ?_⟩
          obtain ⟨y2, hy2, rfl⟩ := List.mem_map.mp hu
          have e : y2.a = pn := e.trans (List.mem_singleton.mp hv)
          have := (hy y2 hy2).1
          rw [e, hpn] at this
          cases this
        · rcases List.mem_append.mp hz with hz | hz
          · obtain ⟨h1, h2⟩ := hy z hz
            refine ⟨(upd_ne fun e => ?_).trans ((upd_ne (ne_of_none h1 hpn)).trans h1), h2⟩
            rw [e, eD] at h1
            cases h1
          · rw [List.mem_singleton.mp hz]
            exact ⟨(upd_ne np.symm).trans upd_same, k2.free trivial hpn⟩
      · obtain ⟨ks, eK, k34, C14⟩ := I
        rw [List.length_map, List.take_of_length_le (Nat.le_refl _)] at C14
        have I14 := I13.same k34
        have eN14 := k34.get trivial eN13
        have eB14 := k34.get trivial eB13
        have kA := kA.tr k34
        have lks : ks.length = shs2.length := by
          have := congrArg List.length C14.kv
          rwa [List.length_map, List.length_map] at this
        have shK : Paired (ShR K H14) ks ds2 := shR_copy I13.sh C14.kv (fun y hy => (C14.at_ y hy).1) (TupK.same k34)
        have L0 : LSt K ⟨C_Runs, C_Module, C_Late⟩ zs so tk0 (N :: B :: F :: p :: KD :: (shs2.map (·.a) ++ ks.map (·.a))) H14 0 [] := by
          refine ⟨(fun x hx => nomatch hx), .nil, fun z hz => ⟨?_, fun x hx => nomatch hx⟩⟩
          simp only [List.mem_cons, List.mem_append] at hz
          rcases hz with rfl | rfl | rfl | rfl | rfl | hz | hz
          · rw [eN14]; simp
          · rw [eB14]; simp
          · rw [I14.eF]; simp
          · obtain ⟨_, e⟩ := I14.hp
            rw [e]; simp
          · rw [eK]; simp
          · obtain ⟨y, hy, rfl⟩ := List.mem_map.mp hz
            rw [k34.get trivial (hs0 y hy)]; simp
          · obtain ⟨y, hy, rfl⟩ := List.mem_map.mp hz
            rw [(C14.at_ y hy).1]; simp
        generalize hZ : (N :: B :: F :: p :: KD :: (shs2.map (·.a) ++ ks.map (·.a))) = Z at L0
        walk_at "S"
        intro m1 d1 hm1 hd1 nd1
        have k1 : Kp [] H14 (upd (upd H14 d1 (.own m1)) m1 (.ins C_Runs d1 [])) := (Kp.refl.upd_new hd1).upd_loc hm1
        refine ⟨m1, d1, F, shs2, ds2, rfl, upd_same, k1.get trivial I14.eF, (I14.same k1).sh, GDsh, by omega, fun H15 h1 s1 eh1 Ih1 kk1 nw1 => ⟨rfl, ?_⟩⟩
        have k1415 : Kp [] H14 H15 := k1.step kk1 fun y hy => .inr (by rw [List.mem_singleton.mp hy]; exact hm1)
        have new1 : ∀ z ∈ owns ⟨C_Runs, C_Module, C_Late⟩ h1 s1 Ab0, H14 z = none := fun z hz => by
          rcases nw1 z hz with rfl | h
          · exact hm1
          · exact k1.free trivial h
        have L1 := L0.add k1415 (x := ⟨h1, s1, Ab0, ds2⟩) (hx0 GD N_ Ih1) new1
        subst eh1
        have I15 := I14.same k1415
        have kA := kA.tr k1415
        have eF15 := I15.eF
        walk_at "S"
        intro lF hlF
        have ecF : cutV (shs2.map fun x => V.ref x.a) (some (bg : Int)) none = (shs2.drop bg).map fun x => V.ref x.a := (cut_from _ bg).trans List.map_drop.symm
        rw [ecF]
        have klF := kp_new (o := .lst ((shs2.drop bg).map fun x => V.ref x.a)) hlF
        have elF : upd H15 lF (.lst ((shs2.drop bg).map fun x => V.ref x.a)) lF = some (.lst ((shs2.drop bg).map fun x => V.ref x.a)) := upd_same
        have I16 := I15.same klF
        have L1 := L1.same klF
        have kA := kA.tr klF
        have k1416 := k1415.tr klF
        generalize upd H15 lF (.lst ((shs2.drop bg).map fun x => V.ref x.a)) = H16 at *
        walk_at "S"
        intro m2 d2 hm2 hd2 nd2
        have k2 : Kp [] H16 (upd (upd H16 d2 (.own m2)) m2 (.ins C_Runs d2 [])) := (Kp.refl.upd_new hd2).upd_loc hm2
        have GDd : GoodDs zs so tk0 (ds2.drop bg) := GD.sub fun e he => List.mem_of_mem_drop he
        refine ⟨m2, d2, lF, shs2.drop bg, ds2.drop bg, rfl, upd_same, k2.get trivial elF, paired_drop (I16.same k2).sh bg, fun e he => GDsh e (List.mem_of_mem_drop he), by rw [List.length_drop]; omega, fun H17 h2 s2 eh2 Ih2 kk2 nw2 => ⟨rfl, ?_⟩⟩
        have k1617 : Kp [] H16 H17 := k2.step kk2 fun y hy => .inr (by rw [List.mem_singleton.mp hy]; exact hm2)
        have new2 : ∀ z ∈ owns ⟨C_Runs, C_Module, C_Late⟩ h2 s2 Ab0, H16 z = none := fun z hz => by
          rcases nw2 z hz with rfl | h
          · exact hm2
          · exact k2.free trivial h
        have L2 := L1.add k1617 (x := ⟨h2, s2, Ab0, ds2.drop bg⟩) (hx0 GDd N_ Ih2) new2
        subst eh2
        have I17 := I16.same k1617
        have kA := kA.tr k1617
        have eF17 := I17.eF
        walk_at "S"
        intro m3 d3 hm3 hd3 nd3
        have k3' : Kp [] H17 (upd (upd H17 d3 (.own m3)) m3 (.ins C_Runs d3 [])) := (Kp.refl.upd_new hd3).upd_loc hm3
        refine ⟨m3, d3, F, shs2, ds2, rfl, upd_same, k3'.get trivial eF17, (I17.same k3').sh, GDsh, by omega, fun H18 h3 s3 eh3 Ih3 kk3 nw3 => ⟨rfl, ?_⟩⟩
        have k1718 : Kp [] H17 H18 := k3'.step kk3 fun y hy => .inr (by rw [List.mem_singleton.mp hy]; exact hm3)
        have new3 : ∀ z ∈ owns ⟨C_Runs, C_Module, C_Late⟩ h3 s3 Ab0, H17 z = none := fun z hz => by
          rcases nw3 z hz with rfl | h
          · exact hm3
          · exact k3'.free trivial h
        have L3' := L2.add k1718 (x := ⟨h3, s3, Ab0, ds2⟩) (hx0 GD N_ Ih3) new3
        subst eh3
        have k1418 : Kp [] H14 H18 := k1416.tr (k1617.tr k1718)
        have kA := kA.tr k1718
        have eK18 := k1418.get trivial eK
        walk_at "S"
        refine ⟨small_le (by simp), fun HL hHL => ?_⟩
        have kHL := kp_new (o := .lst [.ref h1.self, .ref h2.self, .ref h3.self]) hHL
        have L4 := L3'.grow (o := .lst [.ref h1.self, .ref h2.self, .ref h3.self]) hHL
        have eHL : upd H18 HL (.lst [.ref h1.self, .ref h2.self, .ref h3.self]) HL = some (.lst [.ref h1.self, .ref h2.self, .ref h3.self]) := upd_same
        have eK19 := kHL.get trivial eK18
        have kA := kA.tr kHL
        have k1419 := k1418.tr kHL
        generalize upd H18 HL (.lst [.ref h1.self, .ref h2.self, .ref h3.self]) = H19 at *
        walk_at "S"
        intro K2 hK2
        have ecK : cutV (ks.map fun x => V.ref x.a) (some (bg : Int)) none = (ks.drop bg).map fun x => V.ref x.a := (cut_from _ bg).trans List.map_drop.symm
        rw [ecK]
        have kK2 := kp_new (o := .lst ((ks.drop bg).map fun x => V.ref x.a)) hK2
        have L5 := L4.grow (o := .lst ((ks.drop bg).map fun x => V.ref x.a)) hK2
        have eK2 : upd H19 K2 (.lst ((ks.drop bg).map fun x => V.ref x.a)) K2 = some (.lst ((ks.drop bg).map fun x => V.ref x.a)) := upd_same
        have eHL := kK2.get trivial eHL
        have kA := kA.tr kK2
        have k1420 := k1419.tr kK2
        generalize upd H19 K2 (.lst ((ks.drop bg).map fun x => V.ref x.a)) = H20 at *
        walk_at "S"
        refine ⟨small_le (by simp), fun LL hLL => ?_⟩
        have kLL := kp_new (o := .lst [.ref KD, .ref K2, .ref KD]) hLL
        have L6 := L5.grow (o := .lst [.ref KD, .ref K2, .ref KD]) hLL
        have eLL : upd H20 LL (.lst [.ref KD, .ref K2, .ref KD]) LL = some (.lst [.ref KD, .ref K2, .ref KD]) := upd_same
        have eHL := kLL.get trivial eHL
        have eK2 := kLL.get trivial eK2
        have kA := kA.tr kLL
        have k1421 := k1420.tr kLL
        generalize upd H20 LL (.lst [.ref KD, .ref K2, .ref KD]) = H21 at *
        have hs21 := kA.seqL trivial hs0'
        walk_at "S"
        refine ⟨a, ns, 1, rfl, hs21, ?_⟩
        walk_at "S"
        refine ⟨small_le (by simp), fun A1 hA1 => ?_⟩
        have kA1 := kp_new (o := .lst [.int (ns.getD 1 0)]) hA1
        have eA1 : upd H21 A1 (.lst [.int (ns.getD 1 0)]) A1 = some (.lst [.int (ns.getD 1 0)]) := upd_same
        have L6 := L6.same kA1
        have kA := kA.tr kA1
        have k1422 := k1421.tr kA1
        have hs22 := kA1.seqL trivial hs21
        have eHL := kA1.get trivial eHL
        have eK2 := kA1.get trivial eK2
        have eLL := kA1.get trivial eLL
        generalize upd H21 A1 (.lst [.int (ns.getD 1 0)]) = H22 at *
        walk_at "S"
        intro A2 hA2
        obtain ⟨cs, ecs, lcs⟩ : ∃ cs : List Int, cutV (ns.map V.int) (some 2) (some 12) = cs.map V.int ∧ cs.length ≤ 10 := by
          refine ⟨(ns.drop (HT.sIx ns.length 0 (some 2))).take (HT.sIx ns.length ns.length (some 12) - HT.sIx ns.length 0 (some 2)), ?_, ?_⟩
          · unfold cutV
            rw [List.length_map, List.map_take, List.map_drop]
          · rw [List.length_take, show HT.sIx ns.length ns.length (some 12) = min 12 ns.length from HT.sIx_nat _ _ 12, show HT.sIx ns.length 0 (some 2) = min 2 ns.length from HT.sIx_nat _ _ 2]
            omega
        rw [ecs]
        have kA2 := kp_new (o := .lst (cs.map V.int)) hA2
        have eA2 : upd H22 A2 (.lst (cs.map V.int)) A2 = some (.lst (cs.map V.int)) := upd_same
        have eA1 := kA2.get trivial eA1
        have L6 := L6.same kA2
        have k1423 := k1422.tr kA2
        have eHL := kA2.get trivial eHL
        have eK2 := kA2.get trivial eK2
        have eLL := kA2.get trivial eLL
        generalize upd H22 A2 (.lst (cs.map V.int)) = H23 at *
        walk_at "S"
        refine s_cat eA1 eA2 (small_le (by rw [List.length_map, List.length_singleton]; omega)) fun A3 hA3 => ?_
        have ecell : [V.int (ns.getD 1 0)] ++ cs.map V.int = (ns.getD 1 0 :: cs).map V.int := rfl
        rw [ecell]
        have lcell : (ns.getD 1 0 :: cs).length ≤ 11 := by rw [List.length_cons]; omega
        generalize (ns.getD 1 0 :: cs) = cells at *
        have kA3 := kp_new (o := .lst (cells.map V.int)) hA3
        have L7 := L6.grow (o := .lst (cells.map V.int)) hA3
        have eA3 : upd H23 A3 (.lst (cells.map V.int)) A3 = some (.lst (cells.map V.int)) := upd_same
        have k14x := k1423.tr kA3
        have eHL := kA3.get trivial eHL
        have eK2 := kA3.get trivial eK2
        have eLL := kA3.get trivial eLL
        generalize upd H23 A3 (.lst (cells.map V.int)) = HX at *
        have eNX := k14x.get trivial eN14
        have eBX := k14x.get trivial eB14
        have eKX := k14x.get trivial eK
        have IX := I14.same k14x
        have shKX : Paired (ShR K HX) ks ds2 := shR_copy shK rfl (fun y hy => k14x.get trivial (C14.at_ y hy).1) (TupK.same k14x)
        have mZ : ∀ z ∈ Z, z ∈ A3 :: LL :: K2 :: HL :: Z := fun z hz => by simp [hz]
        have mS : ∀ z ∈ KD :: ks.map (·.a), z ∈ A3 :: LL :: K2 :: HL :: Z := fun z hz => mZ z (by
          rw [← hZ]
          simp only [List.mem_cons, List.mem_append] at hz ⊢
          rcases hz with rfl | hz
          · simp
          · simp [hz])
        have mS2 : ∀ z ∈ K2 :: (ks.drop bg).map (·.a), z ∈ A3 :: LL :: K2 :: HL :: Z := fun z hz => by
          rcases List.mem_cons.mp hz with rfl | hz
          · simp
          · exact mS z (List.mem_cons_of_mem _ (by
              obtain ⟨y, hy, rfl⟩ := List.mem_map.mp hz
              exact List.mem_map.mpr ⟨y, List.mem_of_mem_drop hy, rfl⟩))
        have mN : N ∈ A3 :: LL :: K2 :: HL :: Z := mZ _ (by rw [← hZ]; simp)
        have mHL : HL ∈ A3 :: LL :: K2 :: HL :: Z := by simp
        have mLL : LL ∈ A3 :: LL :: K2 :: HL :: Z := by simp
        have mA3 : A3 ∈ A3 :: LL :: K2 :: HL :: Z := by simp
        obtain ⟨Z3, hZ3⟩ : ∃ Z3 : List Addr, Z3 = LL :: K2 :: HL :: N :: KD :: ks.map (·.a) := ⟨_, rfl⟩
        have m32 : ∀ z ∈ Z3, z ∈ A3 :: LL :: K2 :: HL :: Z := fun z hz => by
          rw [hZ3] at hz
          simp only [List.mem_cons] at hz
          rcases hz with rfl | rfl | rfl | rfl | hz
          · exact mLL
          · simp
          · exact mHL
          · exact mN
          · exact mS z (by simpa using hz)
        have mS3 : ∀ z ∈ KD :: ks.map (·.a), z ∈ Z3 := fun z hz => by
          rw [hZ3]
          simp only [List.mem_cons] at hz ⊢
          exact .inr (.inr (.inr (.inr hz)))
        have mS23 : ∀ z ∈ K2 :: (ks.drop bg).map (·.a), z ∈ Z3 := fun z hz => by
          rcases List.mem_cons.mp hz with rfl | hz
          · rw [hZ3]; simp
          · exact mS3 z (List.mem_cons_of_mem _ (by
              obtain ⟨y, hy, rfl⟩ := List.mem_map.mp hz
              exact List.mem_map.mpr ⟨y, List.mem_of_mem_drop hy, rfl⟩))
        have mW : ∀ z ∈ p :: F :: shs2.map (·.a), z ∈ A3 :: LL :: K2 :: HL :: Z := fun z hz => mZ z (by
          rw [← hZ]
          simp only [List.mem_cons, List.mem_append] at hz ⊢
          rcases hz with rfl | rfl | hz
          · simp
          · simp
          · exact .inr (.inr (.inr (.inr (.inr (.inl hz))))))
        have tW : ∀ z ∈ p :: F :: shs2.map (·.a), ∃ o, H13 z = some o := fun z hz => by
          simp only [List.mem_cons] at hz
          rcases hz with rfl | rfl | hz
          · obtain ⟨_, e⟩ := I13.hp
            exact ⟨_, e⟩
          · exact ⟨_, eF13⟩
          · obtain ⟨y, hy, rfl⟩ := List.mem_map.mp hz
            exact ⟨_, hs0 y hy⟩
        have newW : ∀ {Hk : Hp} {z : Addr}, Kp [] H13 Hk → Hk z = none → z ∉ p :: F :: shs2.map (·.a) := fun {Hk z} kk e hz => by
          obtain ⟨o, eo⟩ := tW z hz
          rw [kk.get trivial eo] at e
          cases e
        have nW3 : ∀ z ∈ Z3, z ∉ p :: F :: shs2.map (·.a) := fun z hz => by
          rw [hZ3] at hz
          simp only [List.mem_cons] at hz
          rcases hz with rfl | rfl | rfl | rfl | rfl | hz
          · exact newW (k34.tr k1420) hLL
          · exact newW (k34.tr k1419) hK2
          · exact newW (k34.tr k1418) hHL
          · intro hm
            simp only [List.mem_cons] at hm
            rcases hm with rfl | rfl | hm
            · exact pot_strs I13.hp eN13 rfl
            · rw [eN13] at eF13
              cases hs2 : shs2 with
              | nil => rw [hs2] at eF13; cases eF13
              | cons => rw [hs2] at eF13; cases eF13
            · obtain ⟨y, hy, rfl⟩ := List.mem_map.mp hm
              exact lst_dK eN13 (hs0 y hy) rfl
          · exact newW Kp.refl hKD
          · obtain ⟨y, hy, rfl⟩ := List.mem_map.mp hz
            exact newW Kp.refl (C14.at_ y hy).2
        generalize hZ2 : (A3 :: LL :: K2 :: HL :: Z) = Z2 at *
        walk_at "S"
        have sides : ∀ xs : List Hx, xs.map (fun x => (x.h.self, x.ds)) = [(h1.self, ds2), (h2.self, ds2.drop bg), (h3.self, ds2)] → ∀ jj : Nat, jj < 3 → ∃ (x : Hx) (La : Addr) (shL : List Sf), xs[jj]? = some x ∧ [V.ref h1.self, V.ref h2.self, V.ref h3.self][jj]? = some (V.ref x.h.self) ∧ [V.ref KD, V.ref K2, V.ref KD][jj]? = some (V.ref La) ∧
            HX La = some (.lst (shL.map fun x => V.ref x.a)) ∧ Paired (ShR K HX) shL x.ds ∧ ∀ z ∈ La :: shL.map (·.a), z ∈ Z3 := fun xs ek jj hjj => by
          obtain ⟨x1, x2, x3, rfl, e1, e2, e3⟩ := keys3 ek
          have e1a := congrArg Prod.fst e1
          have e2a := congrArg Prod.fst e2
          have e3a := congrArg Prod.fst e3
          have e1b := congrArg Prod.snd e1
          have e2b := congrArg Prod.snd e2
          have e3b := congrArg Prod.snd e3
          dsimp only at e1a e2a e3a e1b e2b e3b
          rcases (show jj = 0 ∨ jj = 1 ∨ jj = 2 by omega) with rfl | rfl | rfl
          · exact ⟨x1, KD, ks, rfl, by rw [e1a]; rfl, rfl, eKX, by rw [e1b]; exact shKX, mS3⟩
          · exact ⟨x2, K2, ks.drop bg, rfl, by rw [e2a]; rfl, rfl, eK2, by rw [e2b]; exact paired_drop shKX bg, mS23⟩
          · exact ⟨x3, KD, ks, rfl, by rw [e3a]; rfl, rfl, eKX, by rw [e3b]; exact shKX, mS3⟩
        have okn : ∀ z ∈ lc :: tk0 :: zs, isPathL (tl z) = true ∧ SmN z := fun z hz => ⟨(tk.ok z hz).path, ⟨(tk.ok z hz).okl, (tk.ok z hz).len⟩⟩
        refine ⟨⟨_, sq_l eA3⟩, ?_⟩
        refine for_go (walk_list (K := K) (a := A3) (xs := cells.map V.int)) (fun i σ Hi => ∃ (xs : List Hx) (o13 o14 : Option V), σ = [some (.ref a), some (.ref p), some (.ref N), o2, some (.str lc), some (.str tk0), some (.ref B), some (.ref F), some (.ref D), some (.int (bg : Nat)), some (.ref KD), some (.ref HL), some (.ref LL), o13, o14, none, none] ∧
            LSt K ⟨C_Runs, C_Module, C_Late⟩ zs so tk0 Z2 Hi i xs ∧ xs.map (fun x => (x.h.self, x.ds)) = [(h1.self, ds2), (h2.self, ds2.drop bg), (h3.self, ds2)] ∧ ZK Z2 HX Hi)
          ⟨_, _, _, rfl, L7, rfl, .refl⟩ (fun i σ Hi _ I => by obtain ⟨_, _, _, rfl, _, _, zk⟩ := I; exact sq_l (zk.at_ _ mA3 _ eA3)) (fun i x σ Hi Hj hi Ii y => ?_) fun σ Hj Ij => ?_
        · obtain ⟨rfl, hx⟩ := y
          obtain ⟨xs, o13, o14, rfl, L, ek, zk⟩ := Ii
          rw [List.length_map] at hi
          have ez := List.getElem?_eq_getElem hi
          generalize cells[i] = c at ez
          rw [List.getElem?_map, ez] at hx
          obtain rfl : V.int c = x := Option.some.inj hx
          have eNi := zk.at_ _ mN _ eNX
          have eHLi := zk.at_ _ mHL _ eHL
          have eLLi := zk.at_ _ mLL _ eLL
          walk_at "S"
          rw [List.length_map]
          obtain ⟨m, hm, hm3⟩ : ∃ m : Nat, (lc :: tk0 :: zs).length = m ∧ 3 ≤ m ∧ m ≤ 7 := ⟨_, rfl, lzs⟩
          rw [hm]
          refine s_I ⟨by omega, by omega⟩ ?_
          walk_at "S"
          obtain ⟨jj, hjj, ejj⟩ : ∃ jj : Nat, jj < 2 ∧ (c / (m : Int)) % 2 = (jj : Int) := by
            have h1 := Int.emod_nonneg (c / (m : Int)) (show (2 : Int) ≠ 0 by decide)
            have h2 := Int.emod_lt_of_pos (c / (m : Int)) (show (0 : Int) < 2 by decide)
            exact ⟨((c / (m : Int)) % 2).toNat, by omega, by omega⟩
          rw [ejj]
          obtain ⟨x, La, shL, ex, eh, el, eLa, shx, mz3⟩ := sides xs ek jj (by omega)
          have mz : ∀ z ∈ La :: shL.map (·.a), z ∈ Z2 := fun z hz => m32 z (mz3 z hz)
          walk_at "S"
          refine s_ixL (sq_l eHLi) (atI_nat eh) ?_
          walk_at "S"
          refine s_ixL (sq_l eLLi) (atI_nat el) ?_
          walk_at "S"
          rw [List.length_map, hm]
          refine s_I (by show (0 : Int) < _; omega) ?_
          obtain ⟨nn, z, en, hnn, ez2, mz2, az⟩ := pickM (xs := lc :: tk0 :: zs) (g := V.str) (v := c % (m : Int)) (Int.emod_nonneg _ (by omega)) (by rw [hm]; exact Int.emod_lt_of_pos _ (by omega))
          refine s_ixL (sq_l eNi) az ?_
          walk_at "S"
          refine right_of L (by omega) (by omega) ex (okn z mz2).1 (okn z mz2).2 (zk.at_ _ (mz _ List.mem_cons_self) _ eLa) (shR_copy shx rfl (fun y hy => zk.at_ _ (mz _ (List.mem_cons_of_mem _ (List.mem_map.mpr ⟨y, hy, rfl⟩))) _ (by
            obtain ⟨i2, ei2⟩ := List.mem_iff_getElem?.mp hy
            obtain ⟨_, _, r⟩ := paired_get shx ei2
            exact r.at_)) zk.tup) mz fun H' xs' L' ek' zk' => ?_
          walk_at "S"
          exact ⟨xs', _, _, rfl, L', ek'.trans ek, zk.tr zk'⟩
        · obtain ⟨xs, o13, o14, rfl, L, ek, zk⟩ := Ij
          walk_at "S"
          have eFj := zk.at_ _ (mW F (by simp)) _ IX.eF
          have eKj := zk.at_ _ (m32 _ (mS3 _ List.mem_cons_self)) _ eKX
          have shj : ∀ y ∈ shs2, Hj y.a = some (.dK y.kvs) ∧ (y.kvs.map (·.1)).Nodup ∧ (∀ q ∈ y.kvs, ∃ b, q.2 = V.ref b) ∧ y.kvs.length ≤ 50 := fun y hy => by
            obtain ⟨i2, ei2⟩ := List.mem_iff_getElem?.mp hy
            obtain ⟨dd, ed, r⟩ := paired_get IX.sh ei2
            have nd := GD.nd dd (List.mem_of_getElem? ed)
            have lf : dd.length ≤ 9 := by
              have h := List.Nodup.length_le_of_subset (l₂ := tk0 :: zs) nd fun z hz => by
                obtain ⟨y, hy, rfl⟩ := List.mem_map.mp hz
                rcases GD.bod dd (List.mem_of_getElem? ed) y hy with ⟨h, _⟩ | ⟨h, _⟩
                · exact List.mem_cons_of_mem _ h
                · rw [h]; exact List.mem_cons_self
              rw [List.length_map, List.length_cons] at h
              omega
            refine ⟨zk.at_ _ (mW _ (by simp only [List.mem_cons]; exact .inr (.inr (List.mem_map.mpr ⟨y, hy, rfl⟩)))) _ r.at_, ?_, fun q hq => ?_, by rw [r.nm.len]; omega⟩
            · rw [r.nm.keys]
              exact List.pairwise_map.mpr (List.Pairwise.imp (R := fun a b => a ≠ b) (fun h e => h (Sum.inr.inj e)) nd)
            · obtain ⟨z, b, _, _, dv⟩ := nmR_mem r.nm (k := q.1) (v := q.2) hq
              cases dv' : q.2 with
              | ref b => exact ⟨b, rfl⟩
              | _ => rw [dv'] at dv; cases dv
          have ksj : ∀ y ∈ ks, Hj y.a = some (.dK y.kvs) := fun y hy => zk.at_ _ (m32 _ (mS3 _ (List.mem_cons_of_mem _ (List.mem_map.mpr ⟨y, hy, rfl⟩)))) _ (k14x.get trivial (C14.at_ y hy).1)
          refine s_neSame (n := 2) (by decide) (sq_l eFj) (sq_l eKj) (eqv_cps C14.kv (fun y hy => ⟨(shj y hy).1, (shj y hy).2.1, (shj y hy).2.2.1⟩) ksj) ?_
          walk_at "S"
          have hpj : PotOk Hj p := by
            obtain ⟨s9, e9⟩ := IX.hp
            exact ⟨s9, zk.at_ _ (mW p (by simp)) _ e9⟩
          have mB : B ∈ Z2 := mZ B (by rw [← hZ]; simp)
          have eBj := zk.at_ _ mB _ eBX
          have CGj : CG Hj Hj p F B (shs2.map (·.a)) zs 50 := ⟨Kp.refl, hpj, by rw [List.map_map]; exact eFj, eBj, fun x hx => by
            obtain ⟨y, hy, rfl⟩ := List.mem_map.mp hx
            exact ⟨y.kvs, (shj y hy).1, (shj y hy).2.2.2⟩⟩
          refine ⟨p, F, B, shs2.map (·.a), zs, lc, rfl, CGj, by rw [List.length_map]; omega, by rw [List.length_map]; omega, by omega, by omega, fun HY kY => ?_⟩
          have keepY : Keep Hj HY := Keep.of kY fun z hz => by
            simp only [List.mem_cons] at hz
            rcases hz with rfl | rfl | hz
            · obtain ⟨_, e⟩ := hpj
              exact ⟨_, e, .lst _⟩
            · exact ⟨_, eFj, .lst _⟩
            · obtain ⟨y, hy, rfl⟩ := List.mem_map.mp hz
              exact ⟨_, (shj y hy).1, .dK _⟩
          have LY := (L.kp (Z' := Z3) kY keepY mW fun z hz => ⟨m32 z hz, nW3 z hz⟩).more (m := 11) (by rw [List.length_map]; omega)
          have zkY : ZK Z3 HX HY := ⟨fun z hz o e => kY.get (Nin.intro fun y hy c => nW3 z hz (by rw [c]; exact hy)) (zk.at_ z (m32 z hz) o e), TupK.tr zk.tup keepY.tup⟩
          walk_at "S"
          refine ⟨by omega, by omega, ?_⟩
          have m3N : N ∈ Z3 := by rw [hZ3]; simp
          have m3HL : HL ∈ Z3 := by rw [hZ3]; simp
          have m3LL : LL ∈ Z3 := by rw [hZ3]; simp
          refine for_go walk_range (fun i σ Hi => ∃ (xs : List Hx) (o14 o15 : Option V), σ = [some (.ref a), some (.ref p), some (.ref N), o2, some (.str lc), some (.str tk0), some (.ref B), some (.ref F), some (.ref D), some (.int (bg : Nat)), some (.ref KD), some (.ref HL), some (.ref LL), o13, o14, o15, none] ∧
              LSt K ⟨C_Runs, C_Module, C_Late⟩ zs so tk0 Z3 Hi (11 + 7 * i) xs ∧ xs.map (fun x => (x.h.self, x.ds)) = [(h1.self, ds2), (h2.self, ds2.drop bg), (h3.self, ds2)] ∧ ZK Z3 HX Hi)
            ⟨_, _, _, rfl, LY, ek, zkY⟩ (fun _ _ _ _ _ => trivial) (fun i y σ Hi Hk hi Ii yy => ?_) fun σ Hk Ik => ?_
          · obtain ⟨rfl, rfl⟩ := yy
            obtain ⟨xs, o14', o15, rfl, L, ek, zk⟩ := Ii
            have eNi := zk.at_ _ m3N _ eNX
            walk_at "S"
            refine ⟨⟨_, sq_l eNi⟩, ?_⟩
            refine for_go (walk_list (K := K) (a := N) (xs := (lc :: tk0 :: zs).map V.str)) (fun j σ Hj => ∃ (xs : List Hx) (o15 : Option V), σ = [some (.ref a), some (.ref p), some (.ref N), o2, some (.str lc), some (.str tk0), some (.ref B), some (.ref F), some (.ref D), some (.int (bg : Nat)), some (.ref KD), some (.ref HL), some (.ref LL), o13, some (.int (0 + (i : Nat))), o15, none] ∧
                LSt K ⟨C_Runs, C_Module, C_Late⟩ zs so tk0 Z3 Hj (11 + 7 * i + j) xs ∧ xs.map (fun x => (x.h.self, x.ds)) = [(h1.self, ds2), (h2.self, ds2.drop bg), (h3.self, ds2)] ∧ ZK Z3 HX Hj)
              ⟨xs, _, rfl, L, ek, zk⟩ (fun j σ Hj _ I => by obtain ⟨_, _, rfl, _, _, zk⟩ := I; exact sq_l (zk.at_ _ m3N _ eNX)) (fun j x σ Hj Hl hj Ij y => ?_) fun σ Hl Il => ?_
            · obtain ⟨rfl, hx⟩ := y
              obtain ⟨xs, o15, rfl, L, ek, zk⟩ := Ij
              rw [List.length_map] at hj
              have ez := List.getElem?_eq_getElem hj
              generalize (lc :: tk0 :: zs)[j] = z at ez
              rw [List.getElem?_map, ez] at hx
              obtain rfl : V.str z = x := Option.some.inj hx
              have mz2 := List.mem_of_getElem? ez
              have eHLi := zk.at_ _ m3HL _ eHL
              have eLLi := zk.at_ _ m3LL _ eLL
              obtain ⟨x, La, shL, ex, eh, el, eLa, shx, mz⟩ := sides xs ek i hi
              have e0i : (0 + (i : Int)) = (i : Int) := Int.zero_add _
              walk_at "S"
              rw [e0i]
              refine s_ixL (sq_l eHLi) (atI_nat eh) ?_
              walk_at "S"
              refine s_ixL (sq_l eLLi) (atI_nat el) ?_
              walk_at "S"
              refine right_of L (by omega) (by have : i < 3 := hi; simp only [List.length_cons] at hj; omega) ex (okn z mz2).1 (okn z mz2).2 (zk.at_ _ (mz _ List.mem_cons_self) _ eLa) (shR_copy shx rfl (fun y hy => zk.at_ _ (mz _ (List.mem_cons_of_mem _ (List.mem_map.mpr ⟨y, hy, rfl⟩))) _ (by
                obtain ⟨i2, ei2⟩ := List.mem_iff_getElem?.mp hy
                obtain ⟨_, _, r⟩ := paired_get shx ei2
                exact r.at_)) zk.tup) mz fun H' xs' L' ek' zk' => ?_
              walk_at "S"
              exact ⟨xs', _, rfl, L', ek'.trans ek, zk.tr zk'⟩
            · obtain ⟨xs, o15, rfl, L, ek, zk⟩ := Il
              refine ⟨xs, _, _, rfl, L.more (by rw [List.length_map]; simp only [List.length_cons] at lzs ⊢; omega), ek, zk⟩
          · obtain ⟨xs, o14', o15, rfl, L, ek, zk⟩ := Ik
            walk_at "S"
            exact q _
end

theorem all_mk {l : PySem.W.OpenLaw} {w : World} {K : PySem.W.Frag} {h : Heap} {mg : Str → Option Value} {fa : Addr} (X : K.In h) (G : h.Ns mainGlobals mg) (hfa : mg "law" = some (.ref fa))
    {od_Fault_init an_Fault_init od_Failed_init an_Failed_init od_is_name an_is_name od_is_path an_is_path od_is_whole an_is_whole od_is_word an_is_word od_are_words an_are_words od_is_bare an_is_bare od_is_row_within an_is_row_within od_are_rows an_are_rows od_counted an_counted od_is_body an_is_body od_Module_init an_Module_init od_Module_bind an_Module_bind od_Module_thing_of an_Module_thing_of od_Module_bound an_Module_bound od_told an_told od_want_finders an_want_finders od_want_path an_want_path od_Runs_init an_Runs_init od_Runs_take an_Runs_take od_Runs_table an_Runs_table od_Runs_module_of an_Runs_module_of od_Runs_names_of an_Runs_names_of od_Runs_came_up an_Runs_came_up od_Runs_found an_Runs_found od_Runs_taken an_Runs_taken od_Runs_taken_one an_Runs_taken_one od_Runs_begin an_Runs_begin od_Runs_came_whole an_Runs_came_whole od_Runs_run_body an_Runs_run_body od_Runs_do_body an_Runs_do_body od_Runs_do an_Runs_do od_Runs_do_note an_Runs_do_note od_Runs_do_looking an_Runs_do_looking od_l_at an_l_at od_l_pot an_l_pot od_l_draw an_l_draw od_l_name an_l_name od_l_finders an_l_finders od_l_found an_l_found od_l_took an_l_took od_l_right an_l_right od_l_changed an_l_changed od_law an_law : Option Addr} {sl_Fault_init sl_Failed_init sl_is_name sl_is_path sl_is_whole sl_is_word sl_are_words sl_is_bare sl_is_row_within sl_are_rows sl_counted sl_is_body sl_Module_init sl_Module_bind sl_Module_thing_of sl_Module_bound sl_told sl_want_finders sl_want_path sl_Runs_init sl_Runs_take sl_Runs_table sl_Runs_module_of sl_Runs_names_of sl_Runs_came_up sl_Runs_found sl_Runs_taken sl_Runs_taken_one sl_Runs_begin sl_Runs_came_whole sl_Runs_run_body sl_Runs_do_body sl_Runs_do sl_Runs_do_note sl_Runs_do_looking sl_l_at sl_l_pot sl_l_draw sl_l_name sl_l_finders sl_l_found sl_l_took sl_l_right sl_l_changed sl_law : Array (Option Value)} {oc_Fault_init kV_Fault_init dc_Fault_init pm_Fault_init cd_Fault_init ct_Fault_init oc_Failed_init kV_Failed_init dc_Failed_init pm_Failed_init cd_Failed_init ct_Failed_init oc_is_name kV_is_name dc_is_name pm_is_name cd_is_name ct_is_name oc_is_path kV_is_path dc_is_path pm_is_path cd_is_path ct_is_path oc_is_whole kV_is_whole dc_is_whole pm_is_whole cd_is_whole ct_is_whole oc_is_word kV_is_word dc_is_word pm_is_word cd_is_word ct_is_word oc_are_words kV_are_words dc_are_words pm_are_words cd_are_words ct_are_words oc_is_bare kV_is_bare dc_is_bare pm_is_bare cd_is_bare ct_is_bare oc_is_row_within kV_is_row_within dc_is_row_within pm_is_row_within cd_is_row_within ct_is_row_within oc_are_rows kV_are_rows dc_are_rows pm_are_rows cd_are_rows ct_are_rows oc_counted kV_counted dc_counted pm_counted cd_counted ct_counted oc_is_body kV_is_body dc_is_body pm_is_body cd_is_body ct_is_body oc_Module_init kV_Module_init dc_Module_init pm_Module_init cd_Module_init ct_Module_init oc_Module_bind kV_Module_bind dc_Module_bind pm_Module_bind cd_Module_bind ct_Module_bind oc_Module_thing_of kV_Module_thing_of dc_Module_thing_of pm_Module_thing_of cd_Module_thing_of ct_Module_thing_of oc_Module_bound kV_Module_bound dc_Module_bound pm_Module_bound cd_Module_bound ct_Module_bound oc_told kV_told dc_told pm_told cd_told ct_told oc_want_finders kV_want_finders dc_want_finders pm_want_finders cd_want_finders ct_want_finders oc_want_path kV_want_path dc_want_path pm_want_path cd_want_path ct_want_path oc_Runs_init kV_Runs_init dc_Runs_init pm_Runs_init cd_Runs_init ct_Runs_init oc_Runs_take kV_Runs_take dc_Runs_take pm_Runs_take cd_Runs_take ct_Runs_take oc_Runs_table kV_Runs_table dc_Runs_table pm_Runs_table cd_Runs_table ct_Runs_table oc_Runs_module_of kV_Runs_module_of dc_Runs_module_of pm_Runs_module_of cd_Runs_module_of ct_Runs_module_of oc_Runs_names_of kV_Runs_names_of dc_Runs_names_of pm_Runs_names_of cd_Runs_names_of ct_Runs_names_of oc_Runs_came_up kV_Runs_came_up dc_Runs_came_up pm_Runs_came_up cd_Runs_came_up ct_Runs_came_up oc_Runs_found kV_Runs_found dc_Runs_found pm_Runs_found cd_Runs_found ct_Runs_found oc_Runs_taken kV_Runs_taken dc_Runs_taken pm_Runs_taken cd_Runs_taken ct_Runs_taken oc_Runs_taken_one kV_Runs_taken_one dc_Runs_taken_one pm_Runs_taken_one cd_Runs_taken_one ct_Runs_taken_one oc_Runs_begin kV_Runs_begin dc_Runs_begin pm_Runs_begin cd_Runs_begin ct_Runs_begin oc_Runs_came_whole kV_Runs_came_whole dc_Runs_came_whole pm_Runs_came_whole cd_Runs_came_whole ct_Runs_came_whole oc_Runs_run_body kV_Runs_run_body dc_Runs_run_body pm_Runs_run_body cd_Runs_run_body ct_Runs_run_body oc_Runs_do_body kV_Runs_do_body dc_Runs_do_body pm_Runs_do_body cd_Runs_do_body ct_Runs_do_body oc_Runs_do kV_Runs_do dc_Runs_do pm_Runs_do cd_Runs_do ct_Runs_do oc_Runs_do_note kV_Runs_do_note dc_Runs_do_note pm_Runs_do_note cd_Runs_do_note ct_Runs_do_note oc_Runs_do_looking kV_Runs_do_looking dc_Runs_do_looking pm_Runs_do_looking cd_Runs_do_looking ct_Runs_do_looking oc_l_at kV_l_at dc_l_at pm_l_at cd_l_at ct_l_at oc_l_pot kV_l_pot dc_l_pot pm_l_pot cd_l_pot ct_l_pot oc_l_draw kV_l_draw dc_l_draw pm_l_draw cd_l_draw ct_l_draw oc_l_name kV_l_name dc_l_name pm_l_name cd_l_name ct_l_name oc_l_finders kV_l_finders dc_l_finders pm_l_finders cd_l_finders ct_l_finders oc_l_found kV_l_found dc_l_found pm_l_found cd_l_found ct_l_found oc_l_took kV_l_took dc_l_took pm_l_took cd_l_took ct_l_took oc_l_right kV_l_right dc_l_right pm_l_right cd_l_right ct_l_right oc_l_changed kV_l_changed dc_l_changed pm_l_changed cd_l_changed ct_l_changed oc_law kV_law dc_law pm_law cd_law ct_law : Value}
    {f_Fault_init f_Failed_init f_is_name f_is_path f_is_whole f_is_word f_are_words f_is_bare f_is_row_within f_are_rows f_counted f_is_body f_Module_init f_Module_bind f_Module_thing_of f_Module_bound f_told f_want_finders f_want_path f_Runs_init f_Runs_take f_Runs_table f_Runs_module_of f_Runs_names_of f_Runs_came_up f_Runs_found f_Runs_taken f_Runs_taken_one f_Runs_begin f_Runs_came_whole f_Runs_run_body f_Runs_do_body f_Runs_do f_Runs_do_note f_Runs_do_looking f_l_at f_l_pot f_l_draw f_l_name f_l_finders f_l_found f_l_took f_l_right f_l_changed f_law : Addr}
    {C_MadeError : Addr}
    (aC_MadeError : PySem.W.nsIn K mainGlobals "MadeError" = some (some (.ref C_MadeError))) (tg_MadeError : PySem.W.specialIn K (.ref C_MadeError) "__getattribute__" = some (some (.builtin "type.__getattribute__"))) (tr_MadeError : PySem.W.readsIn K C_MadeError (.type "type") = true) (tv_MadeError : PySem.W.findCls K (.ref C_MadeError) (.type "type") "__init__" = some (.val (.builtin "ValueError.__init__")))
    {C_Fault : Addr}
    {nm_Fault q_Fault : Str} {N_Fault : Addr} {bs_Fault : List Value} {sn_Fault : List Str} {sub_Fault : List Value} {ab_Fault : Bool} {col_Fault : Option Bool} {dd_Fault : Option Addr} {m0_Fault m1_Fault m2_Fault m3_Fault m5_Fault : Option Value}
    (aC_Fault : PySem.W.nsIn K mainGlobals "Fault" = some (some (.ref C_Fault))) (xL_Fault : K.lookup C_Fault = some (excClassObj nm_Fault q_Fault C_Fault N_Fault bs_Fault [.ref C_MadeError, .type "ValueError", .type "Exception", .type "BaseException", .type "object"] true sn_Fault sub_Fault ab_Fault col_Fault dd_Fault m0_Fault m1_Fault m2_Fault m3_Fault m5_Fault "ValueError.__new__"))
    (sa_Fault : PySem.W.findIn K (.ref C_Fault) "__setattr__" = some (some (.builtin "object.__setattr__"))) (ga_Fault : PySem.W.findIn K (.ref C_Fault) "__getattribute__" = some (some (.builtin "BaseException.__getattribute__"))) (gg_Fault : PySem.W.findIn K (.ref C_Fault) "__getattr__" = some none)
    (nb_Fault_fault : PySem.W.findIn K (.ref C_Fault) "fault" = some none)
    (kc_Fault : PySem.W.keepIn K (.ref C_Fault) = true) (eC_Fault : PySem.W.subIn K (.ref C_Fault) (.type "BaseException") = some true) (tC_Fault : PySem.W.typeIn K (.ref C_Fault) = some (.type "type")) (hC_Fault : PySem.W.hasDictIn K C_Fault = true) (iC_Fault : PySem.W.isClsIn K C_Fault = true) (sC_Fault : PySem.W.subIn K (.ref C_Fault) (.ref C_Fault) = some true)
    {C_Failed : Addr}
    {nm_Failed q_Failed : Str} {N_Failed : Addr} {bs_Failed : List Value} {sn_Failed : List Str} {sub_Failed : List Value} {ab_Failed : Bool} {col_Failed : Option Bool} {dd_Failed : Option Addr} {m0_Failed m1_Failed m2_Failed m3_Failed m5_Failed : Option Value}
    (aC_Failed : PySem.W.nsIn K mainGlobals "Failed" = some (some (.ref C_Failed))) (xL_Failed : K.lookup C_Failed = some (excClassObj nm_Failed q_Failed C_Failed N_Failed bs_Failed [.ref C_MadeError, .type "ValueError", .type "Exception", .type "BaseException", .type "object"] true sn_Failed sub_Failed ab_Failed col_Failed dd_Failed m0_Failed m1_Failed m2_Failed m3_Failed m5_Failed "ValueError.__new__"))
    (sa_Failed : PySem.W.findIn K (.ref C_Failed) "__setattr__" = some (some (.builtin "object.__setattr__"))) (ga_Failed : PySem.W.findIn K (.ref C_Failed) "__getattribute__" = some (some (.builtin "BaseException.__getattribute__"))) (gg_Failed : PySem.W.findIn K (.ref C_Failed) "__getattr__" = some none)
    (nb_Failed_fault : PySem.W.findIn K (.ref C_Failed) "fault" = some none)
    (nb_Failed_road : PySem.W.findIn K (.ref C_Failed) "road" = some none)
    (kc_Failed : PySem.W.keepIn K (.ref C_Failed) = true) (eC_Failed : PySem.W.subIn K (.ref C_Failed) (.type "BaseException") = some true) (tC_Failed : PySem.W.typeIn K (.ref C_Failed) = some (.type "type")) (hC_Failed : PySem.W.hasDictIn K C_Failed = true) (iC_Failed : PySem.W.isClsIn K C_Failed = true) (sC_Failed : PySem.W.subIn K (.ref C_Failed) (.ref C_Failed) = some true)
    {C_Module : Addr}
    (aC_Module : PySem.W.nsIn K mainGlobals "Module" = some (some (.ref C_Module))) (pg_Module : PySem.W.plainGet K C_Module Str.empty = true) (hd_Module : PySem.W.hasDictIn K C_Module = true) (po_Module : PySem.W.plainOver K C_Module = true) (sa_Module : PySem.W.findIn K (.ref C_Module) "__setattr__" = some (some (.builtin "object.__setattr__"))) (mk_Module : PySem.W.makesIn K C_Module = true) (kc_Module : PySem.W.keepIn K (.ref C_Module) = true)
    (nA_Module_number : PySem.W.findIn K (.ref C_Module) "number" = some none)
    (nA_Module_path : PySem.W.findIn K (.ref C_Module) "path" = some none)
    (nA_Module_things : PySem.W.findIn K (.ref C_Module) "things" = some none)
    (ic_Module : PySem.W.findIn K (.ref C_Module) "__class__" = some (some (.builtin "object.__class__"))) (im_Module : PySem.W.mroIn K C_Module (.type "object") = some true)
    {C_Late : Addr}
    (aC_Late : PySem.W.nsIn K mainGlobals "Late" = some (some (.ref C_Late))) (pg_Late : PySem.W.plainGet K C_Late Str.empty = true) (hd_Late : PySem.W.hasDictIn K C_Late = true) (po_Late : PySem.W.plainOver K C_Late = true) (sa_Late : PySem.W.findIn K (.ref C_Late) "__setattr__" = some (some (.builtin "object.__setattr__"))) (mk_Late : PySem.W.makesIn K C_Late = true) (kc_Late : PySem.W.keepIn K (.ref C_Late) = true)
    (nA_Late_home : PySem.W.findIn K (.ref C_Late) "home" = some none)
    (nA_Late_road : PySem.W.findIn K (.ref C_Late) "road" = some none)
    (ic_Late : PySem.W.findIn K (.ref C_Late) "__class__" = some (some (.builtin "object.__class__"))) (im_Late : PySem.W.mroIn K C_Late (.type "object") = some true)
    {C_Runs : Addr}
    (aC_Runs : PySem.W.nsIn K mainGlobals "Runs" = some (some (.ref C_Runs))) (pg_Runs : PySem.W.plainGet K C_Runs Str.empty = true) (hd_Runs : PySem.W.hasDictIn K C_Runs = true) (po_Runs : PySem.W.plainOver K C_Runs = true) (sa_Runs : PySem.W.findIn K (.ref C_Runs) "__setattr__" = some (some (.builtin "object.__setattr__"))) (mk_Runs : PySem.W.makesIn K C_Runs = true) (kc_Runs : PySem.W.keepIn K (.ref C_Runs) = true)
    (nA_Runs_shelves : PySem.W.findIn K (.ref C_Runs) "shelves" = some none)
    (nA_Runs_standing : PySem.W.findIn K (.ref C_Runs) "standing" = some none)
    (nA_Runs_made : PySem.W.findIn K (.ref C_Runs) "made" = some none)
    (nA_Runs_line : PySem.W.findIn K (.ref C_Runs) "line" = some none)
    (nA_Runs_broken : PySem.W.findIn K (.ref C_Runs) "broken" = some none)
    (nA_Runs_met : PySem.W.findIn K (.ref C_Runs) "met" = some none)
    (nA_Runs_fates : PySem.W.findIn K (.ref C_Runs) "fates" = some none)
    (nA_Runs_notes : PySem.W.findIn K (.ref C_Runs) "notes" = some none)
    (nA_Runs_waits : PySem.W.findIn K (.ref C_Runs) "waits" = some none)
    (gn : PySem.W.specialIn K (.builtin "object.__class__") "__get__" = some (some (.builtin "getset_descriptor.__get__"))) (gt : PySem.W.takesIn K (.builtin "object.__class__") = some true)
    (cx_Module : PySem.W.isClsIn K C_Module = true) (ct_Module : PySem.W.typeIn K (.ref C_Module) = some (.type "type")) (ss_Module : PySem.W.subIn K (.ref C_Module) (.ref C_Module) = some true)
    (cx_Late : PySem.W.isClsIn K C_Late = true) (ct_Late : PySem.W.typeIn K (.ref C_Late) = some (.type "type")) (ss_Late : PySem.W.subIn K (.ref C_Late) (.ref C_Late) = some true)
    (sb_Module_Late : PySem.W.subIn K (.ref C_Module) (.ref C_Late) = some false)
    (sb_Late_Module : PySem.W.subIn K (.ref C_Late) (.ref C_Module) = some false)
    {t_MOST_LETTERS t_LETTERS t_DOT t_MOST_NAMES t_MOST_ROWS t_MOST_TRIES : Tok}
    {a_FAULT_WORDS : Addr} {o_FAULT_WORDS : Obj} {i_FAULT_WORDS : Array Value} {e_FAULT_WORDS : Nat}
    {a_LEADING : Addr} {o_LEADING : Obj} {i_LEADING : Array Value} {e_LEADING : Nat}
    (a_Fault_init : PySem.W.findIn K (.ref C_Fault) "__init__" = some (some (.ref f_Fault_init))) (l_Fault_init : K.lookup f_Fault_init = some ⟨oc_Fault_init, od_Fault_init, .func (PySem.W.fnOf "__init__" "Fault.__init__" (defArgs s_Fault_init) (defBody s_Fault_init) (defScope s_Fault_init) .none kV_Fault_init dc_Fault_init pm_Fault_init an_Fault_init cd_Fault_init ct_Fault_init), sl_Fault_init⟩) (c_Fault_init : PySem.W.codeIn K cd_Fault_init "Fault.__init__" = true) (k_Fault_init : PySem.W.keepIn K (.ref f_Fault_init) = true)
    (i_Fault_init : PySem.W.typeIn K (.ref f_Fault_init) = some (.type "function"))
    (a_Failed_init : PySem.W.findIn K (.ref C_Failed) "__init__" = some (some (.ref f_Failed_init))) (l_Failed_init : K.lookup f_Failed_init = some ⟨oc_Failed_init, od_Failed_init, .func (PySem.W.fnOf "__init__" "Failed.__init__" (defArgs s_Failed_init) (defBody s_Failed_init) (defScope s_Failed_init) .none kV_Failed_init dc_Failed_init pm_Failed_init an_Failed_init cd_Failed_init ct_Failed_init), sl_Failed_init⟩) (c_Failed_init : PySem.W.codeIn K cd_Failed_init "Failed.__init__" = true) (k_Failed_init : PySem.W.keepIn K (.ref f_Failed_init) = true)
    (i_Failed_init : PySem.W.typeIn K (.ref f_Failed_init) = some (.type "function"))
    (a_is_name : PySem.W.nsIn K mainGlobals "is_name" = some (some (.ref f_is_name))) (l_is_name : K.lookup f_is_name = some ⟨oc_is_name, od_is_name, .func (PySem.W.fnOf "is_name" "is_name" (defArgs s_is_name) (defBody s_is_name) (defScope s_is_name) .none kV_is_name dc_is_name pm_is_name an_is_name cd_is_name ct_is_name), sl_is_name⟩) (c_is_name : PySem.W.codeIn K cd_is_name "is_name" = true) (k_is_name : PySem.W.keepIn K (.ref f_is_name) = true)
    (a_is_path : PySem.W.nsIn K mainGlobals "is_path" = some (some (.ref f_is_path))) (l_is_path : K.lookup f_is_path = some ⟨oc_is_path, od_is_path, .func (PySem.W.fnOf "is_path" "is_path" (defArgs s_is_path) (defBody s_is_path) (defScope s_is_path) .none kV_is_path dc_is_path pm_is_path an_is_path cd_is_path ct_is_path), sl_is_path⟩) (c_is_path : PySem.W.codeIn K cd_is_path "is_path" = true) (k_is_path : PySem.W.keepIn K (.ref f_is_path) = true)
    (a_is_whole : PySem.W.nsIn K mainGlobals "is_whole" = some (some (.ref f_is_whole))) (l_is_whole : K.lookup f_is_whole = some ⟨oc_is_whole, od_is_whole, .func (PySem.W.fnOf "is_whole" "is_whole" (defArgs s_is_whole) (defBody s_is_whole) (defScope s_is_whole) .none kV_is_whole dc_is_whole pm_is_whole an_is_whole cd_is_whole ct_is_whole), sl_is_whole⟩) (c_is_whole : PySem.W.codeIn K cd_is_whole "is_whole" = true) (k_is_whole : PySem.W.keepIn K (.ref f_is_whole) = true)
    (a_is_word : PySem.W.nsIn K mainGlobals "is_word" = some (some (.ref f_is_word))) (l_is_word : K.lookup f_is_word = some ⟨oc_is_word, od_is_word, .func (PySem.W.fnOf "is_word" "is_word" (defArgs s_is_word) (defBody s_is_word) (defScope s_is_word) .none kV_is_word dc_is_word pm_is_word an_is_word cd_is_word ct_is_word), sl_is_word⟩) (c_is_word : PySem.W.codeIn K cd_is_word "is_word" = true) (k_is_word : PySem.W.keepIn K (.ref f_is_word) = true)
    (a_are_words : PySem.W.nsIn K mainGlobals "are_words" = some (some (.ref f_are_words))) (l_are_words : K.lookup f_are_words = some ⟨oc_are_words, od_are_words, .func (PySem.W.fnOf "are_words" "are_words" (defArgs s_are_words) (defBody s_are_words) (defScope s_are_words) .none kV_are_words dc_are_words pm_are_words an_are_words cd_are_words ct_are_words), sl_are_words⟩) (c_are_words : PySem.W.codeIn K cd_are_words "are_words" = true) (k_are_words : PySem.W.keepIn K (.ref f_are_words) = true)
    (a_is_bare : PySem.W.nsIn K mainGlobals "is_bare" = some (some (.ref f_is_bare))) (l_is_bare : K.lookup f_is_bare = some ⟨oc_is_bare, od_is_bare, .func (PySem.W.fnOf "is_bare" "is_bare" (defArgs s_is_bare) (defBody s_is_bare) (defScope s_is_bare) .none kV_is_bare dc_is_bare pm_is_bare an_is_bare cd_is_bare ct_is_bare), sl_is_bare⟩) (c_is_bare : PySem.W.codeIn K cd_is_bare "is_bare" = true) (k_is_bare : PySem.W.keepIn K (.ref f_is_bare) = true)
    (a_is_row_within : PySem.W.nsIn K mainGlobals "is_row_within" = some (some (.ref f_is_row_within))) (l_is_row_within : K.lookup f_is_row_within = some ⟨oc_is_row_within, od_is_row_within, .func (PySem.W.fnOf "is_row_within" "is_row_within" (defArgs s_is_row_within) (defBody s_is_row_within) (defScope s_is_row_within) .none kV_is_row_within dc_is_row_within pm_is_row_within an_is_row_within cd_is_row_within ct_is_row_within), sl_is_row_within⟩) (c_is_row_within : PySem.W.codeIn K cd_is_row_within "is_row_within" = true) (k_is_row_within : PySem.W.keepIn K (.ref f_is_row_within) = true)
    (a_are_rows : PySem.W.nsIn K mainGlobals "are_rows" = some (some (.ref f_are_rows))) (l_are_rows : K.lookup f_are_rows = some ⟨oc_are_rows, od_are_rows, .func (PySem.W.fnOf "are_rows" "are_rows" (defArgs s_are_rows) (defBody s_are_rows) (defScope s_are_rows) .none kV_are_rows dc_are_rows pm_are_rows an_are_rows cd_are_rows ct_are_rows), sl_are_rows⟩) (c_are_rows : PySem.W.codeIn K cd_are_rows "are_rows" = true) (k_are_rows : PySem.W.keepIn K (.ref f_are_rows) = true)
    (a_counted : PySem.W.nsIn K mainGlobals "counted" = some (some (.ref f_counted))) (l_counted : K.lookup f_counted = some ⟨oc_counted, od_counted, .func (PySem.W.fnOf "counted" "counted" (defArgs s_counted) (defBody s_counted) (defScope s_counted) .none kV_counted dc_counted pm_counted an_counted cd_counted ct_counted), sl_counted⟩) (c_counted : PySem.W.codeIn K cd_counted "counted" = true) (k_counted : PySem.W.keepIn K (.ref f_counted) = true)
    (a_is_body : PySem.W.nsIn K mainGlobals "is_body" = some (some (.ref f_is_body))) (l_is_body : K.lookup f_is_body = some ⟨oc_is_body, od_is_body, .func (PySem.W.fnOf "is_body" "is_body" (defArgs s_is_body) (defBody s_is_body) (defScope s_is_body) .none kV_is_body dc_is_body pm_is_body an_is_body cd_is_body ct_is_body), sl_is_body⟩) (c_is_body : PySem.W.codeIn K cd_is_body "is_body" = true) (k_is_body : PySem.W.keepIn K (.ref f_is_body) = true)
    (a_Module_init : PySem.W.findIn K (.ref C_Module) "__init__" = some (some (.ref f_Module_init))) (l_Module_init : K.lookup f_Module_init = some ⟨oc_Module_init, od_Module_init, .func (PySem.W.fnOf "__init__" "Module.__init__" (defArgs s_Module_init) (defBody s_Module_init) (defScope s_Module_init) .none kV_Module_init dc_Module_init pm_Module_init an_Module_init cd_Module_init ct_Module_init), sl_Module_init⟩) (c_Module_init : PySem.W.codeIn K cd_Module_init "Module.__init__" = true) (k_Module_init : PySem.W.keepIn K (.ref f_Module_init) = true)
    (i_Module_init : PySem.W.isFn K (.ref f_Module_init) = true)
    (a_Module_bind : PySem.W.findIn K (.ref C_Module) "bind" = some (some (.ref f_Module_bind))) (l_Module_bind : K.lookup f_Module_bind = some ⟨oc_Module_bind, od_Module_bind, .func (PySem.W.fnOf "bind" "Module.bind" (defArgs s_Module_bind) (defBody s_Module_bind) (defScope s_Module_bind) .none kV_Module_bind dc_Module_bind pm_Module_bind an_Module_bind cd_Module_bind ct_Module_bind), sl_Module_bind⟩) (c_Module_bind : PySem.W.codeIn K cd_Module_bind "Module.bind" = true) (k_Module_bind : PySem.W.keepIn K (.ref f_Module_bind) = true)
    (i_Module_bind : PySem.W.isFn K (.ref f_Module_bind) = true)
    (a_Module_thing_of : PySem.W.findIn K (.ref C_Module) "thing_of" = some (some (.ref f_Module_thing_of))) (l_Module_thing_of : K.lookup f_Module_thing_of = some ⟨oc_Module_thing_of, od_Module_thing_of, .func (PySem.W.fnOf "thing_of" "Module.thing_of" (defArgs s_Module_thing_of) (defBody s_Module_thing_of) (defScope s_Module_thing_of) .none kV_Module_thing_of dc_Module_thing_of pm_Module_thing_of an_Module_thing_of cd_Module_thing_of ct_Module_thing_of), sl_Module_thing_of⟩) (c_Module_thing_of : PySem.W.codeIn K cd_Module_thing_of "Module.thing_of" = true) (k_Module_thing_of : PySem.W.keepIn K (.ref f_Module_thing_of) = true)
    (i_Module_thing_of : PySem.W.isFn K (.ref f_Module_thing_of) = true)
    (a_Module_bound : PySem.W.findIn K (.ref C_Module) "bound" = some (some (.ref f_Module_bound))) (l_Module_bound : K.lookup f_Module_bound = some ⟨oc_Module_bound, od_Module_bound, .func (PySem.W.fnOf "bound" "Module.bound" (defArgs s_Module_bound) (defBody s_Module_bound) (defScope s_Module_bound) .none kV_Module_bound dc_Module_bound pm_Module_bound an_Module_bound cd_Module_bound ct_Module_bound), sl_Module_bound⟩) (c_Module_bound : PySem.W.codeIn K cd_Module_bound "Module.bound" = true) (k_Module_bound : PySem.W.keepIn K (.ref f_Module_bound) = true)
    (i_Module_bound : PySem.W.isFn K (.ref f_Module_bound) = true)
    (a_told : PySem.W.nsIn K mainGlobals "told" = some (some (.ref f_told))) (l_told : K.lookup f_told = some ⟨oc_told, od_told, .func (PySem.W.fnOf "told" "told" (defArgs s_told) (defBody s_told) (defScope s_told) .none kV_told dc_told pm_told an_told cd_told ct_told), sl_told⟩) (c_told : PySem.W.codeIn K cd_told "told" = true) (k_told : PySem.W.keepIn K (.ref f_told) = true)
    (a_want_finders : PySem.W.nsIn K mainGlobals "want_finders" = some (some (.ref f_want_finders))) (l_want_finders : K.lookup f_want_finders = some ⟨oc_want_finders, od_want_finders, .func (PySem.W.fnOf "want_finders" "want_finders" (defArgs s_want_finders) (defBody s_want_finders) (defScope s_want_finders) .none kV_want_finders dc_want_finders pm_want_finders an_want_finders cd_want_finders ct_want_finders), sl_want_finders⟩) (c_want_finders : PySem.W.codeIn K cd_want_finders "want_finders" = true) (k_want_finders : PySem.W.keepIn K (.ref f_want_finders) = true)
    (a_want_path : PySem.W.nsIn K mainGlobals "want_path" = some (some (.ref f_want_path))) (l_want_path : K.lookup f_want_path = some ⟨oc_want_path, od_want_path, .func (PySem.W.fnOf "want_path" "want_path" (defArgs s_want_path) (defBody s_want_path) (defScope s_want_path) .none kV_want_path dc_want_path pm_want_path an_want_path cd_want_path ct_want_path), sl_want_path⟩) (c_want_path : PySem.W.codeIn K cd_want_path "want_path" = true) (k_want_path : PySem.W.keepIn K (.ref f_want_path) = true)
    (a_Runs_init : PySem.W.findIn K (.ref C_Runs) "__init__" = some (some (.ref f_Runs_init))) (l_Runs_init : K.lookup f_Runs_init = some ⟨oc_Runs_init, od_Runs_init, .func (PySem.W.fnOf "__init__" "Runs.__init__" (defArgs s_Runs_init) (defBody s_Runs_init) (defScope s_Runs_init) .none kV_Runs_init dc_Runs_init pm_Runs_init an_Runs_init cd_Runs_init ct_Runs_init), sl_Runs_init⟩) (c_Runs_init : PySem.W.codeIn K cd_Runs_init "Runs.__init__" = true) (k_Runs_init : PySem.W.keepIn K (.ref f_Runs_init) = true)
    (i_Runs_init : PySem.W.isFn K (.ref f_Runs_init) = true)
    (a_Runs_take : PySem.W.findIn K (.ref C_Runs) "take" = some (some (.ref f_Runs_take))) (l_Runs_take : K.lookup f_Runs_take = some ⟨oc_Runs_take, od_Runs_take, .func (PySem.W.fnOf "take" "Runs.take" (defArgs s_Runs_take) (defBody s_Runs_take) (defScope s_Runs_take) .none kV_Runs_take dc_Runs_take pm_Runs_take an_Runs_take cd_Runs_take ct_Runs_take), sl_Runs_take⟩) (c_Runs_take : PySem.W.codeIn K cd_Runs_take "Runs.take" = true) (k_Runs_take : PySem.W.keepIn K (.ref f_Runs_take) = true)
    (i_Runs_take : PySem.W.isFn K (.ref f_Runs_take) = true)
    (a_Runs_table : PySem.W.findIn K (.ref C_Runs) "table" = some (some (.ref f_Runs_table))) (l_Runs_table : K.lookup f_Runs_table = some ⟨oc_Runs_table, od_Runs_table, .func (PySem.W.fnOf "table" "Runs.table" (defArgs s_Runs_table) (defBody s_Runs_table) (defScope s_Runs_table) .none kV_Runs_table dc_Runs_table pm_Runs_table an_Runs_table cd_Runs_table ct_Runs_table), sl_Runs_table⟩) (c_Runs_table : PySem.W.codeIn K cd_Runs_table "Runs.table" = true) (k_Runs_table : PySem.W.keepIn K (.ref f_Runs_table) = true)
    (i_Runs_table : PySem.W.isFn K (.ref f_Runs_table) = true)
    (a_Runs_module_of : PySem.W.findIn K (.ref C_Runs) "module_of" = some (some (.ref f_Runs_module_of))) (l_Runs_module_of : K.lookup f_Runs_module_of = some ⟨oc_Runs_module_of, od_Runs_module_of, .func (PySem.W.fnOf "module_of" "Runs.module_of" (defArgs s_Runs_module_of) (defBody s_Runs_module_of) (defScope s_Runs_module_of) .none kV_Runs_module_of dc_Runs_module_of pm_Runs_module_of an_Runs_module_of cd_Runs_module_of ct_Runs_module_of), sl_Runs_module_of⟩) (c_Runs_module_of : PySem.W.codeIn K cd_Runs_module_of "Runs.module_of" = true) (k_Runs_module_of : PySem.W.keepIn K (.ref f_Runs_module_of) = true)
    (i_Runs_module_of : PySem.W.isFn K (.ref f_Runs_module_of) = true)
    (a_Runs_names_of : PySem.W.findIn K (.ref C_Runs) "names_of" = some (some (.ref f_Runs_names_of))) (l_Runs_names_of : K.lookup f_Runs_names_of = some ⟨oc_Runs_names_of, od_Runs_names_of, .func (PySem.W.fnOf "names_of" "Runs.names_of" (defArgs s_Runs_names_of) (defBody s_Runs_names_of) (defScope s_Runs_names_of) .none kV_Runs_names_of dc_Runs_names_of pm_Runs_names_of an_Runs_names_of cd_Runs_names_of ct_Runs_names_of), sl_Runs_names_of⟩) (c_Runs_names_of : PySem.W.codeIn K cd_Runs_names_of "Runs.names_of" = true) (k_Runs_names_of : PySem.W.keepIn K (.ref f_Runs_names_of) = true)
    (i_Runs_names_of : PySem.W.isFn K (.ref f_Runs_names_of) = true)
    (a_Runs_came_up : PySem.W.findIn K (.ref C_Runs) "came_up" = some (some (.ref f_Runs_came_up))) (l_Runs_came_up : K.lookup f_Runs_came_up = some ⟨oc_Runs_came_up, od_Runs_came_up, .func (PySem.W.fnOf "came_up" "Runs.came_up" (defArgs s_Runs_came_up) (defBody s_Runs_came_up) (defScope s_Runs_came_up) .none kV_Runs_came_up dc_Runs_came_up pm_Runs_came_up an_Runs_came_up cd_Runs_came_up ct_Runs_came_up), sl_Runs_came_up⟩) (c_Runs_came_up : PySem.W.codeIn K cd_Runs_came_up "Runs.came_up" = true) (k_Runs_came_up : PySem.W.keepIn K (.ref f_Runs_came_up) = true)
    (i_Runs_came_up : PySem.W.isFn K (.ref f_Runs_came_up) = true)
    (a_Runs_found : PySem.W.findIn K (.ref C_Runs) "found" = some (some (.ref f_Runs_found))) (l_Runs_found : K.lookup f_Runs_found = some ⟨oc_Runs_found, od_Runs_found, .func (PySem.W.fnOf "found" "Runs.found" (defArgs s_Runs_found) (defBody s_Runs_found) (defScope s_Runs_found) .none kV_Runs_found dc_Runs_found pm_Runs_found an_Runs_found cd_Runs_found ct_Runs_found), sl_Runs_found⟩) (c_Runs_found : PySem.W.codeIn K cd_Runs_found "Runs.found" = true) (k_Runs_found : PySem.W.keepIn K (.ref f_Runs_found) = true)
    (i_Runs_found : PySem.W.isFn K (.ref f_Runs_found) = true)
    (a_Runs_taken : PySem.W.findIn K (.ref C_Runs) "taken" = some (some (.ref f_Runs_taken))) (l_Runs_taken : K.lookup f_Runs_taken = some ⟨oc_Runs_taken, od_Runs_taken, .func (PySem.W.fnOf "taken" "Runs.taken" (defArgs s_Runs_taken) (defBody s_Runs_taken) (defScope s_Runs_taken) .none kV_Runs_taken dc_Runs_taken pm_Runs_taken an_Runs_taken cd_Runs_taken ct_Runs_taken), sl_Runs_taken⟩) (c_Runs_taken : PySem.W.codeIn K cd_Runs_taken "Runs.taken" = true) (k_Runs_taken : PySem.W.keepIn K (.ref f_Runs_taken) = true)
    (i_Runs_taken : PySem.W.isFn K (.ref f_Runs_taken) = true)
    (a_Runs_taken_one : PySem.W.findIn K (.ref C_Runs) "taken_one" = some (some (.ref f_Runs_taken_one))) (l_Runs_taken_one : K.lookup f_Runs_taken_one = some ⟨oc_Runs_taken_one, od_Runs_taken_one, .func (PySem.W.fnOf "taken_one" "Runs.taken_one" (defArgs s_Runs_taken_one) (defBody s_Runs_taken_one) (defScope s_Runs_taken_one) .none kV_Runs_taken_one dc_Runs_taken_one pm_Runs_taken_one an_Runs_taken_one cd_Runs_taken_one ct_Runs_taken_one), sl_Runs_taken_one⟩) (c_Runs_taken_one : PySem.W.codeIn K cd_Runs_taken_one "Runs.taken_one" = true) (k_Runs_taken_one : PySem.W.keepIn K (.ref f_Runs_taken_one) = true)
    (i_Runs_taken_one : PySem.W.isFn K (.ref f_Runs_taken_one) = true)
    (a_Runs_begin : PySem.W.findIn K (.ref C_Runs) "begin" = some (some (.ref f_Runs_begin))) (l_Runs_begin : K.lookup f_Runs_begin = some ⟨oc_Runs_begin, od_Runs_begin, .func (PySem.W.fnOf "begin" "Runs.begin" (defArgs s_Runs_begin) (defBody s_Runs_begin) (defScope s_Runs_begin) .none kV_Runs_begin dc_Runs_begin pm_Runs_begin an_Runs_begin cd_Runs_begin ct_Runs_begin), sl_Runs_begin⟩) (c_Runs_begin : PySem.W.codeIn K cd_Runs_begin "Runs.begin" = true) (k_Runs_begin : PySem.W.keepIn K (.ref f_Runs_begin) = true)
    (i_Runs_begin : PySem.W.isFn K (.ref f_Runs_begin) = true)
    (a_Runs_came_whole : PySem.W.findIn K (.ref C_Runs) "came_whole" = some (some (.ref f_Runs_came_whole))) (l_Runs_came_whole : K.lookup f_Runs_came_whole = some ⟨oc_Runs_came_whole, od_Runs_came_whole, .func (PySem.W.fnOf "came_whole" "Runs.came_whole" (defArgs s_Runs_came_whole) (defBody s_Runs_came_whole) (defScope s_Runs_came_whole) .none kV_Runs_came_whole dc_Runs_came_whole pm_Runs_came_whole an_Runs_came_whole cd_Runs_came_whole ct_Runs_came_whole), sl_Runs_came_whole⟩) (c_Runs_came_whole : PySem.W.codeIn K cd_Runs_came_whole "Runs.came_whole" = true) (k_Runs_came_whole : PySem.W.keepIn K (.ref f_Runs_came_whole) = true)
    (i_Runs_came_whole : PySem.W.isFn K (.ref f_Runs_came_whole) = true)
    (a_Runs_run_body : PySem.W.findIn K (.ref C_Runs) "run_body" = some (some (.ref f_Runs_run_body))) (l_Runs_run_body : K.lookup f_Runs_run_body = some ⟨oc_Runs_run_body, od_Runs_run_body, .func (PySem.W.fnOf "run_body" "Runs.run_body" (defArgs s_Runs_run_body) (defBody s_Runs_run_body) (defScope s_Runs_run_body) .none kV_Runs_run_body dc_Runs_run_body pm_Runs_run_body an_Runs_run_body cd_Runs_run_body ct_Runs_run_body), sl_Runs_run_body⟩) (c_Runs_run_body : PySem.W.codeIn K cd_Runs_run_body "Runs.run_body" = true) (k_Runs_run_body : PySem.W.keepIn K (.ref f_Runs_run_body) = true)
    (i_Runs_run_body : PySem.W.isFn K (.ref f_Runs_run_body) = true)
    (a_Runs_do_body : PySem.W.findIn K (.ref C_Runs) "do_body" = some (some (.ref f_Runs_do_body))) (l_Runs_do_body : K.lookup f_Runs_do_body = some ⟨oc_Runs_do_body, od_Runs_do_body, .func (PySem.W.fnOf "do_body" "Runs.do_body" (defArgs s_Runs_do_body) (defBody s_Runs_do_body) (defScope s_Runs_do_body) .none kV_Runs_do_body dc_Runs_do_body pm_Runs_do_body an_Runs_do_body cd_Runs_do_body ct_Runs_do_body), sl_Runs_do_body⟩) (c_Runs_do_body : PySem.W.codeIn K cd_Runs_do_body "Runs.do_body" = true) (k_Runs_do_body : PySem.W.keepIn K (.ref f_Runs_do_body) = true)
    (i_Runs_do_body : PySem.W.isFn K (.ref f_Runs_do_body) = true)
    (a_Runs_do : PySem.W.findIn K (.ref C_Runs) "do" = some (some (.ref f_Runs_do))) (l_Runs_do : K.lookup f_Runs_do = some ⟨oc_Runs_do, od_Runs_do, .func (PySem.W.fnOf "do" "Runs.do" (defArgs s_Runs_do) (defBody s_Runs_do) (defScope s_Runs_do) .none kV_Runs_do dc_Runs_do pm_Runs_do an_Runs_do cd_Runs_do ct_Runs_do), sl_Runs_do⟩) (c_Runs_do : PySem.W.codeIn K cd_Runs_do "Runs.do" = true) (k_Runs_do : PySem.W.keepIn K (.ref f_Runs_do) = true)
    (i_Runs_do : PySem.W.isFn K (.ref f_Runs_do) = true)
    (a_Runs_do_note : PySem.W.findIn K (.ref C_Runs) "do_note" = some (some (.ref f_Runs_do_note))) (l_Runs_do_note : K.lookup f_Runs_do_note = some ⟨oc_Runs_do_note, od_Runs_do_note, .func (PySem.W.fnOf "do_note" "Runs.do_note" (defArgs s_Runs_do_note) (defBody s_Runs_do_note) (defScope s_Runs_do_note) .none kV_Runs_do_note dc_Runs_do_note pm_Runs_do_note an_Runs_do_note cd_Runs_do_note ct_Runs_do_note), sl_Runs_do_note⟩) (c_Runs_do_note : PySem.W.codeIn K cd_Runs_do_note "Runs.do_note" = true) (k_Runs_do_note : PySem.W.keepIn K (.ref f_Runs_do_note) = true)
    (i_Runs_do_note : PySem.W.isFn K (.ref f_Runs_do_note) = true)
    (a_Runs_do_looking : PySem.W.findIn K (.ref C_Runs) "do_looking" = some (some (.ref f_Runs_do_looking))) (l_Runs_do_looking : K.lookup f_Runs_do_looking = some ⟨oc_Runs_do_looking, od_Runs_do_looking, .func (PySem.W.fnOf "do_looking" "Runs.do_looking" (defArgs s_Runs_do_looking) (defBody s_Runs_do_looking) (defScope s_Runs_do_looking) .none kV_Runs_do_looking dc_Runs_do_looking pm_Runs_do_looking an_Runs_do_looking cd_Runs_do_looking ct_Runs_do_looking), sl_Runs_do_looking⟩) (c_Runs_do_looking : PySem.W.codeIn K cd_Runs_do_looking "Runs.do_looking" = true) (k_Runs_do_looking : PySem.W.keepIn K (.ref f_Runs_do_looking) = true)
    (i_Runs_do_looking : PySem.W.isFn K (.ref f_Runs_do_looking) = true)
    (a_l_at : PySem.W.nsIn K mainGlobals "_law_at" = some (some (.ref f_l_at))) (l_l_at : K.lookup f_l_at = some ⟨oc_l_at, od_l_at, .func (PySem.W.fnOf "_law_at" "_law_at" (defArgs s_l_at) (defBody s_l_at) (defScope s_l_at) .none kV_l_at dc_l_at pm_l_at an_l_at cd_l_at ct_l_at), sl_l_at⟩) (c_l_at : PySem.W.codeIn K cd_l_at "_law_at" = true) (k_l_at : PySem.W.keepIn K (.ref f_l_at) = true)
    (a_l_pot : PySem.W.nsIn K mainGlobals "_law_pot" = some (some (.ref f_l_pot))) (l_l_pot : K.lookup f_l_pot = some ⟨oc_l_pot, od_l_pot, .func (PySem.W.fnOf "_law_pot" "_law_pot" (defArgs s_l_pot) (defBody s_l_pot) (defScope s_l_pot) .none kV_l_pot dc_l_pot pm_l_pot an_l_pot cd_l_pot ct_l_pot), sl_l_pot⟩) (c_l_pot : PySem.W.codeIn K cd_l_pot "_law_pot" = true) (k_l_pot : PySem.W.keepIn K (.ref f_l_pot) = true)
    (a_l_draw : PySem.W.nsIn K mainGlobals "_law_draw" = some (some (.ref f_l_draw))) (l_l_draw : K.lookup f_l_draw = some ⟨oc_l_draw, od_l_draw, .func (PySem.W.fnOf "_law_draw" "_law_draw" (defArgs s_l_draw) (defBody s_l_draw) (defScope s_l_draw) .none kV_l_draw dc_l_draw pm_l_draw an_l_draw cd_l_draw ct_l_draw), sl_l_draw⟩) (c_l_draw : PySem.W.codeIn K cd_l_draw "_law_draw" = true) (k_l_draw : PySem.W.keepIn K (.ref f_l_draw) = true)
    (a_l_name : PySem.W.nsIn K mainGlobals "_law_name" = some (some (.ref f_l_name))) (l_l_name : K.lookup f_l_name = some ⟨oc_l_name, od_l_name, .func (PySem.W.fnOf "_law_name" "_law_name" (defArgs s_l_name) (defBody s_l_name) (defScope s_l_name) .none kV_l_name dc_l_name pm_l_name an_l_name cd_l_name ct_l_name), sl_l_name⟩) (c_l_name : PySem.W.codeIn K cd_l_name "_law_name" = true) (k_l_name : PySem.W.keepIn K (.ref f_l_name) = true)
    (a_l_finders : PySem.W.nsIn K mainGlobals "_law_finders" = some (some (.ref f_l_finders))) (l_l_finders : K.lookup f_l_finders = some ⟨oc_l_finders, od_l_finders, .func (PySem.W.fnOf "_law_finders" "_law_finders" (defArgs s_l_finders) (defBody s_l_finders) (defScope s_l_finders) .none kV_l_finders dc_l_finders pm_l_finders an_l_finders cd_l_finders ct_l_finders), sl_l_finders⟩) (c_l_finders : PySem.W.codeIn K cd_l_finders "_law_finders" = true) (k_l_finders : PySem.W.keepIn K (.ref f_l_finders) = true)
    (a_l_found : PySem.W.nsIn K mainGlobals "_law_found" = some (some (.ref f_l_found))) (l_l_found : K.lookup f_l_found = some ⟨oc_l_found, od_l_found, .func (PySem.W.fnOf "_law_found" "_law_found" (defArgs s_l_found) (defBody s_l_found) (defScope s_l_found) .none kV_l_found dc_l_found pm_l_found an_l_found cd_l_found ct_l_found), sl_l_found⟩) (c_l_found : PySem.W.codeIn K cd_l_found "_law_found" = true) (k_l_found : PySem.W.keepIn K (.ref f_l_found) = true)
    (a_l_took : PySem.W.nsIn K mainGlobals "_law_took" = some (some (.ref f_l_took))) (l_l_took : K.lookup f_l_took = some ⟨oc_l_took, od_l_took, .func (PySem.W.fnOf "_law_took" "_law_took" (defArgs s_l_took) (defBody s_l_took) (defScope s_l_took) .none kV_l_took dc_l_took pm_l_took an_l_took cd_l_took ct_l_took), sl_l_took⟩) (c_l_took : PySem.W.codeIn K cd_l_took "_law_took" = true) (k_l_took : PySem.W.keepIn K (.ref f_l_took) = true)
    (a_l_right : PySem.W.nsIn K mainGlobals "_law_right" = some (some (.ref f_l_right))) (l_l_right : K.lookup f_l_right = some ⟨oc_l_right, od_l_right, .func (PySem.W.fnOf "_law_right" "_law_right" (defArgs s_l_right) (defBody s_l_right) (defScope s_l_right) .none kV_l_right dc_l_right pm_l_right an_l_right cd_l_right ct_l_right), sl_l_right⟩) (c_l_right : PySem.W.codeIn K cd_l_right "_law_right" = true) (k_l_right : PySem.W.keepIn K (.ref f_l_right) = true)
    (a_l_changed : PySem.W.nsIn K mainGlobals "_law_changed" = some (some (.ref f_l_changed))) (l_l_changed : K.lookup f_l_changed = some ⟨oc_l_changed, od_l_changed, .func (PySem.W.fnOf "_law_changed" "_law_changed" (defArgs s_l_changed) (defBody s_l_changed) (defScope s_l_changed) .none kV_l_changed dc_l_changed pm_l_changed an_l_changed cd_l_changed ct_l_changed), sl_l_changed⟩) (c_l_changed : PySem.W.codeIn K cd_l_changed "_law_changed" = true) (k_l_changed : PySem.W.keepIn K (.ref f_l_changed) = true)
    (a_law : PySem.W.nsIn K mainGlobals "law" = some (some (.ref f_law))) (l_law : K.lookup f_law = some ⟨oc_law, od_law, .func (PySem.W.fnOf "law" "law" (defArgs s_law) (defBody s_law) (defScope s_law) .none kV_law dc_law pm_law an_law cd_law ct_law), sl_law⟩) (c_law : PySem.W.codeIn K cd_law "law" = true) (k_law : PySem.W.keepIn K (.ref f_law) = true)
    (z_list : PySem.W.nsIn K mainGlobals "list" = some none)
    (z_len : PySem.W.nsIn K mainGlobals "len" = some none)
    (z_isinstance : PySem.W.nsIn K mainGlobals "isinstance" = some none)
    (z_str : PySem.W.nsIn K mainGlobals "str" = some none)
    (z_all : PySem.W.nsIn K mainGlobals "all" = some none)
    (z_bool : PySem.W.nsIn K mainGlobals "bool" = some none)
    (z_int : PySem.W.nsIn K mainGlobals "int" = some none)
    (z_tuple : PySem.W.nsIn K mainGlobals "tuple" = some none)
    (z_set : PySem.W.nsIn K mainGlobals "set" = some none)
    (z_sorted : PySem.W.nsIn K mainGlobals "sorted" = some none)
    (z_dict : PySem.W.nsIn K mainGlobals "dict" = some none)
    (z_enumerate : PySem.W.nsIn K mainGlobals "enumerate" = some none)
    (z_max : PySem.W.nsIn K mainGlobals "max" = some none)
    (z_divmod : PySem.W.nsIn K mainGlobals "divmod" = some none)
    (z_range : PySem.W.nsIn K mainGlobals "range" = some none)
    (z_repr : PySem.W.nsIn K mainGlobals "repr" = some none)
    (v_MOST_LETTERS : PySem.W.nsIn K mainGlobals "MOST_LETTERS" = some (some (.int 8 t_MOST_LETTERS)))
    (v_LETTERS : PySem.W.nsIn K mainGlobals "LETTERS" = some (some (.str "abcdefghijklmnopqrstuvwxyz" t_LETTERS)))
    (v_DOT : PySem.W.nsIn K mainGlobals "DOT" = some (some (.str "." t_DOT)))
    (v_MOST_NAMES : PySem.W.nsIn K mainGlobals "MOST_NAMES" = some (some (.int 4 t_MOST_NAMES)))
    (v_MOST_ROWS : PySem.W.nsIn K mainGlobals "MOST_ROWS" = some (some (.int 40 t_MOST_ROWS)))
    (v_MOST_TRIES : PySem.W.nsIn K mainGlobals "MOST_TRIES" = some (some (.int 3 t_MOST_TRIES)))
    (v_FAULT_WORDS : PySem.W.nsIn K mainGlobals "FAULT_WORDS" = some (some (.ref a_FAULT_WORDS))) (y_FAULT_WORDS : K.lookup a_FAULT_WORDS = some o_FAULT_WORDS) (w_FAULT_WORDS : o_FAULT_WORDS.cls = .type "tuple" ∧ o_FAULT_WORDS.data = .seq i_FAULT_WORDS e_FAULT_WORDS ∧ i_FAULT_WORDS.size ≤ sizeLine ∧ Vals [.str "NOMODULE", .str "NONAME", .str "HALF", .str "FLAT", .str "NOTASK", .str "ALL"] i_FAULT_WORDS.toList)
    (v_LEADING : PySem.W.nsIn K mainGlobals "LEADING" = some (some (.ref a_LEADING))) (y_LEADING : K.lookup a_LEADING = some o_LEADING) (w_LEADING : o_LEADING.cls = .type "tuple" ∧ o_LEADING.data = .seq i_LEADING e_LEADING ∧ i_LEADING.size ≤ sizeLine ∧ Vals [.str "now", .str "take", .str "late", .str "ask"] i_LEADING.toList) :
    ∃ fd : FuncData, (∀ (s : Shared) (v : Value), BindsTo s fd ⟨[v], []⟩ [("_law_script", v)]) ∧ ∀ base : Heap, K.In base → base.Ns mainGlobals mg → FnG l.prog w K mg base 95 fa fd ["_law_script"] (spLaw K) := by
  have e := hfa.symm.trans (PySem.W.mg_of X G a_law)
  cases e
  have F_Fault_init := fun_mk (st := s_Fault_init) l_Fault_init c_Fault_init k_Fault_init
  have b_Fault_init := F_Fault_init.binds (ps := ["self", "fault"]) fun _ _ _ _ _ _ us hl => match us, hl with | [_, _], _ => rfl
  have X_Fault : ExcC K C_Fault f_Fault_init := ⟨⟨⟨_, _, _, _, _, _, _, _, _, _, _, _, _, _, _, xL_Fault, by rfl⟩, sa_Fault, eC_Fault, tC_Fault, kc_Fault⟩, a_Fault_init, i_Fault_init⟩
  have F_Failed_init := fun_mk (st := s_Failed_init) l_Failed_init c_Failed_init k_Failed_init
  have b_Failed_init := F_Failed_init.binds (ps := ["self", "fault", "road"]) fun _ _ _ _ _ _ us hl => match us, hl with | [_, _, _], _ => rfl
  have X_Failed : ExcC K C_Failed f_Failed_init := ⟨⟨⟨_, _, _, _, _, _, _, _, _, _, _, _, _, _, _, xL_Failed, by rfl⟩, sa_Failed, eC_Failed, tC_Failed, kc_Failed⟩, a_Failed_init, i_Failed_init⟩
  have F_is_name := fun_mk (st := s_is_name) l_is_name c_is_name k_is_name
  have b_is_name := F_is_name.binds (ps := ["thing"]) fun _ _ _ _ _ _ us hl => match us, hl with | [_], _ => rfl
  have m_is_name := PySem.W.mg_of X G a_is_name
  have F_is_path := fun_mk (st := s_is_path) l_is_path c_is_path k_is_path
  have b_is_path := F_is_path.binds (ps := ["thing"]) fun _ _ _ _ _ _ us hl => match us, hl with | [_], _ => rfl
  have m_is_path := PySem.W.mg_of X G a_is_path
  have F_is_whole := fun_mk (st := s_is_whole) l_is_whole c_is_whole k_is_whole
  have b_is_whole := F_is_whole.binds (ps := ["thing"]) fun _ _ _ _ _ _ us hl => match us, hl with | [_], _ => rfl
  have m_is_whole := PySem.W.mg_of X G a_is_whole
  have F_is_word := fun_mk (st := s_is_word) l_is_word c_is_word k_is_word
  have b_is_word := F_is_word.binds (ps := ["thing"]) fun _ _ _ _ _ _ us hl => match us, hl with | [_], _ => rfl
  have m_is_word := PySem.W.mg_of X G a_is_word
  have F_are_words := fun_mk (st := s_are_words) l_are_words c_are_words k_are_words
  have b_are_words := F_are_words.binds (ps := ["thing"]) fun _ _ _ _ _ _ us hl => match us, hl with | [_], _ => rfl
  have m_are_words := PySem.W.mg_of X G a_are_words
  have F_is_bare := fun_mk (st := s_is_bare) l_is_bare c_is_bare k_is_bare
  have b_is_bare := F_is_bare.binds (ps := ["row"]) fun _ _ _ _ _ _ us hl => match us, hl with | [_], _ => rfl
  have m_is_bare := PySem.W.mg_of X G a_is_bare
  have F_is_row_within := fun_mk (st := s_is_row_within) l_is_row_within c_is_row_within k_is_row_within
  have b_is_row_within := F_is_row_within.binds (ps := ["thing", "tries"]) fun _ _ _ _ _ _ us hl => match us, hl with | [_, _], _ => rfl
  have m_is_row_within := PySem.W.mg_of X G a_is_row_within
  have F_are_rows := fun_mk (st := s_are_rows) l_are_rows c_are_rows k_are_rows
  have b_are_rows := F_are_rows.binds (ps := ["thing", "tries"]) fun _ _ _ _ _ _ us hl => match us, hl with | [_, _], _ => rfl
  have m_are_rows := PySem.W.mg_of X G a_are_rows
  have F_counted := fun_mk (st := s_counted) l_counted c_counted k_counted
  have b_counted := F_counted.binds (ps := ["body"]) fun _ _ _ _ _ _ us hl => match us, hl with | [_], _ => rfl
  have m_counted := PySem.W.mg_of X G a_counted
  have F_is_body := fun_mk (st := s_is_body) l_is_body c_is_body k_is_body
  have b_is_body := F_is_body.binds (ps := ["thing"]) fun _ _ _ _ _ _ us hl => match us, hl with | [_], _ => rfl
  have m_is_body := PySem.W.mg_of X G a_is_body
  have F_Module_init := fun_mk (st := s_Module_init) l_Module_init c_Module_init k_Module_init
  have b_Module_init := F_Module_init.binds (ps := ["self", "number", "path"]) fun _ _ _ _ _ _ us hl => match us, hl with | [_, _, _], _ => rfl
  have M_Module : Mk K C_Module f_Module_init := ⟨mk_Module, a_Module_init, i_Module_init, kc_Module⟩
  have F_Module_bind := fun_mk (st := s_Module_bind) l_Module_bind c_Module_bind k_Module_bind
  have b_Module_bind := F_Module_bind.binds (ps := ["self", "name", "thing"]) fun _ _ _ _ _ _ us hl => match us, hl with | [_, _, _], _ => rfl
  have mt_Module_bind : Meth K C_Module "bind" f_Module_bind := ⟨a_Module_bind, i_Module_bind, k_Module_bind⟩
  have F_Module_thing_of := fun_mk (st := s_Module_thing_of) l_Module_thing_of c_Module_thing_of k_Module_thing_of
  have b_Module_thing_of := F_Module_thing_of.binds (ps := ["self", "name"]) fun _ _ _ _ _ _ us hl => match us, hl with | [_, _], _ => rfl
  have mt_Module_thing_of : Meth K C_Module "thing_of" f_Module_thing_of := ⟨a_Module_thing_of, i_Module_thing_of, k_Module_thing_of⟩
  have F_Module_bound := fun_mk (st := s_Module_bound) l_Module_bound c_Module_bound k_Module_bound
  have b_Module_bound := F_Module_bound.binds (ps := ["self"]) fun _ _ _ _ _ _ us hl => match us, hl with | [_], _ => rfl
  have mt_Module_bound : Meth K C_Module "bound" f_Module_bound := ⟨a_Module_bound, i_Module_bound, k_Module_bound⟩
  have F_told := fun_mk (st := s_told) l_told c_told k_told
  have b_told := F_told.binds (ps := ["thing"]) fun _ _ _ _ _ _ us hl => match us, hl with | [_], _ => rfl
  have m_told := PySem.W.mg_of X G a_told
  have F_want_finders := fun_mk (st := s_want_finders) l_want_finders c_want_finders k_want_finders
  have b_want_finders := F_want_finders.binds (ps := ["finders"]) fun _ _ _ _ _ _ us hl => match us, hl with | [_], _ => rfl
  have m_want_finders := PySem.W.mg_of X G a_want_finders
  have F_want_path := fun_mk (st := s_want_path) l_want_path c_want_path k_want_path
  have b_want_path := F_want_path.binds (ps := ["path"]) fun _ _ _ _ _ _ us hl => match us, hl with | [_], _ => rfl
  have m_want_path := PySem.W.mg_of X G a_want_path
  have F_Runs_init := fun_mk (st := s_Runs_init) l_Runs_init c_Runs_init k_Runs_init
  have b_Runs_init := F_Runs_init.binds (ps := ["self", "finders"]) fun _ _ _ _ _ _ us hl => match us, hl with | [_, _], _ => rfl
  have M_Runs : Mk K C_Runs f_Runs_init := ⟨mk_Runs, a_Runs_init, i_Runs_init, kc_Runs⟩
  have F_Runs_take := fun_mk (st := s_Runs_take) l_Runs_take c_Runs_take k_Runs_take
  have b_Runs_take := F_Runs_take.binds (ps := ["self", "path"]) fun _ _ _ _ _ _ us hl => match us, hl with | [_, _], _ => rfl
  have mt_Runs_take : Meth K C_Runs "take" f_Runs_take := ⟨a_Runs_take, i_Runs_take, k_Runs_take⟩
  have F_Runs_table := fun_mk (st := s_Runs_table) l_Runs_table c_Runs_table k_Runs_table
  have b_Runs_table := F_Runs_table.binds (ps := ["self"]) fun _ _ _ _ _ _ us hl => match us, hl with | [_], _ => rfl
  have mt_Runs_table : Meth K C_Runs "table" f_Runs_table := ⟨a_Runs_table, i_Runs_table, k_Runs_table⟩
  have F_Runs_module_of := fun_mk (st := s_Runs_module_of) l_Runs_module_of c_Runs_module_of k_Runs_module_of
  have b_Runs_module_of := F_Runs_module_of.binds (ps := ["self", "number"]) fun _ _ _ _ _ _ us hl => match us, hl with | [_, _], _ => rfl
  have mt_Runs_module_of : Meth K C_Runs "module_of" f_Runs_module_of := ⟨a_Runs_module_of, i_Runs_module_of, k_Runs_module_of⟩
  have F_Runs_names_of := fun_mk (st := s_Runs_names_of) l_Runs_names_of c_Runs_names_of k_Runs_names_of
  have b_Runs_names_of := F_Runs_names_of.binds (ps := ["self", "number"]) fun _ _ _ _ _ _ us hl => match us, hl with | [_, _], _ => rfl
  have mt_Runs_names_of : Meth K C_Runs "names_of" f_Runs_names_of := ⟨a_Runs_names_of, i_Runs_names_of, k_Runs_names_of⟩
  have F_Runs_came_up := fun_mk (st := s_Runs_came_up) l_Runs_came_up c_Runs_came_up k_Runs_came_up
  have b_Runs_came_up := F_Runs_came_up.binds (ps := ["self", "fault"]) fun _ _ _ _ _ _ us hl => match us, hl with | [_, _], _ => rfl
  have mt_Runs_came_up : Meth K C_Runs "came_up" f_Runs_came_up := ⟨a_Runs_came_up, i_Runs_came_up, k_Runs_came_up⟩
  have F_Runs_found := fun_mk (st := s_Runs_found) l_Runs_found c_Runs_found k_Runs_found
  have b_Runs_found := F_Runs_found.binds (ps := ["self", "path"]) fun _ _ _ _ _ _ us hl => match us, hl with | [_, _], _ => rfl
  have mt_Runs_found : Meth K C_Runs "found" f_Runs_found := ⟨a_Runs_found, i_Runs_found, k_Runs_found⟩
  have F_Runs_taken := fun_mk (st := s_Runs_taken) l_Runs_taken c_Runs_taken k_Runs_taken
  have b_Runs_taken := F_Runs_taken.binds (ps := ["self", "path"]) fun _ _ _ _ _ _ us hl => match us, hl with | [_, _], _ => rfl
  have mt_Runs_taken : Meth K C_Runs "taken" f_Runs_taken := ⟨a_Runs_taken, i_Runs_taken, k_Runs_taken⟩
  have F_Runs_taken_one := fun_mk (st := s_Runs_taken_one) l_Runs_taken_one c_Runs_taken_one k_Runs_taken_one
  have b_Runs_taken_one := F_Runs_taken_one.binds (ps := ["self", "path"]) fun _ _ _ _ _ _ us hl => match us, hl with | [_, _], _ => rfl
  have mt_Runs_taken_one : Meth K C_Runs "taken_one" f_Runs_taken_one := ⟨a_Runs_taken_one, i_Runs_taken_one, k_Runs_taken_one⟩
  have F_Runs_begin := fun_mk (st := s_Runs_begin) l_Runs_begin c_Runs_begin k_Runs_begin
  have b_Runs_begin := F_Runs_begin.binds (ps := ["self", "path", "body"]) fun _ _ _ _ _ _ us hl => match us, hl with | [_, _, _], _ => rfl
  have mt_Runs_begin : Meth K C_Runs "begin" f_Runs_begin := ⟨a_Runs_begin, i_Runs_begin, k_Runs_begin⟩
  have F_Runs_came_whole := fun_mk (st := s_Runs_came_whole) l_Runs_came_whole c_Runs_came_whole k_Runs_came_whole
  have b_Runs_came_whole := F_Runs_came_whole.binds (ps := ["self", "module"]) fun _ _ _ _ _ _ us hl => match us, hl with | [_, _], _ => rfl
  have mt_Runs_came_whole : Meth K C_Runs "came_whole" f_Runs_came_whole := ⟨a_Runs_came_whole, i_Runs_came_whole, k_Runs_came_whole⟩
  have F_Runs_run_body := fun_mk (st := s_Runs_run_body) l_Runs_run_body c_Runs_run_body k_Runs_run_body
  have b_Runs_run_body := F_Runs_run_body.binds (ps := ["self", "module", "body"]) fun _ _ _ _ _ _ us hl => match us, hl with | [_, _, _], _ => rfl
  have mt_Runs_run_body : Meth K C_Runs "run_body" f_Runs_run_body := ⟨a_Runs_run_body, i_Runs_run_body, k_Runs_run_body⟩
  have F_Runs_do_body := fun_mk (st := s_Runs_do_body) l_Runs_do_body c_Runs_do_body k_Runs_do_body
  have b_Runs_do_body := F_Runs_do_body.binds (ps := ["self", "body"]) fun _ _ _ _ _ _ us hl => match us, hl with | [_, _], _ => rfl
  have mt_Runs_do_body : Meth K C_Runs "do_body" f_Runs_do_body := ⟨a_Runs_do_body, i_Runs_do_body, k_Runs_do_body⟩
  have F_Runs_do := fun_mk (st := s_Runs_do) l_Runs_do c_Runs_do k_Runs_do
  have b_Runs_do := F_Runs_do.binds (ps := ["self", "row"]) fun _ _ _ _ _ _ us hl => match us, hl with | [_, _], _ => rfl
  have mt_Runs_do : Meth K C_Runs "do" f_Runs_do := ⟨a_Runs_do, i_Runs_do, k_Runs_do⟩
  have F_Runs_do_note := fun_mk (st := s_Runs_do_note) l_Runs_do_note c_Runs_do_note k_Runs_do_note
  have b_Runs_do_note := F_Runs_do_note.binds (ps := ["self", "path"]) fun _ _ _ _ _ _ us hl => match us, hl with | [_, _], _ => rfl
  have mt_Runs_do_note : Meth K C_Runs "do_note" f_Runs_do_note := ⟨a_Runs_do_note, i_Runs_do_note, k_Runs_do_note⟩
  have F_Runs_do_looking := fun_mk (st := s_Runs_do_looking) l_Runs_do_looking c_Runs_do_looking k_Runs_do_looking
  have b_Runs_do_looking := F_Runs_do_looking.binds (ps := ["self", "row"]) fun _ _ _ _ _ _ us hl => match us, hl with | [_, _], _ => rfl
  have mt_Runs_do_looking : Meth K C_Runs "do_looking" f_Runs_do_looking := ⟨a_Runs_do_looking, i_Runs_do_looking, k_Runs_do_looking⟩
  have F_l_at := fun_mk (st := s_l_at) l_l_at c_l_at k_l_at
  have b_l_at := F_l_at.binds (ps := ["_law_script", "_law_k"]) fun _ _ _ _ _ _ us hl => match us, hl with | [_, _], _ => rfl
  have m_l_at := PySem.W.mg_of X G a_l_at
  have F_l_pot := fun_mk (st := s_l_pot) l_l_pot c_l_pot k_l_pot
  have b_l_pot := F_l_pot.binds (ps := ["_law_script", "_law_k"]) fun _ _ _ _ _ _ us hl => match us, hl with | [_, _], _ => rfl
  have m_l_pot := PySem.W.mg_of X G a_l_pot
  have F_l_draw := fun_mk (st := s_l_draw) l_l_draw c_l_draw k_l_draw
  have b_l_draw := F_l_draw.binds (ps := ["_law_pot_here", "_law_many"]) fun _ _ _ _ _ _ us hl => match us, hl with | [_, _], _ => rfl
  have m_l_draw := PySem.W.mg_of X G a_l_draw
  have F_l_name := fun_mk (st := s_l_name) l_l_name c_l_name k_l_name
  have b_l_name := F_l_name.binds (ps := ["_law_pot_here", "_law_taken"]) fun _ _ _ _ _ _ us hl => match us, hl with | [_, _], _ => rfl
  have m_l_name := PySem.W.mg_of X G a_l_name
  have F_l_finders := fun_mk (st := s_l_finders) l_l_finders c_l_finders k_l_finders
  have b_l_finders := F_l_finders.binds (ps := ["_law_pot_here", "_law_paths"]) fun _ _ _ _ _ _ us hl => match us, hl with | [_, _], _ => rfl
  have m_l_finders := PySem.W.mg_of X G a_l_finders
  have F_l_found := fun_mk (st := s_l_found) l_l_found c_l_found k_l_found
  have b_l_found := F_l_found.binds (ps := ["_law_finders_here", "_law_path"]) fun _ _ _ _ _ _ us hl => match us, hl with | [_, _], _ => rfl
  have m_l_found := PySem.W.mg_of X G a_l_found
  have F_l_took := fun_mk (st := s_l_took) l_l_took c_l_took k_l_took
  have b_l_took := F_l_took.binds (ps := ["_law_house", "_law_path"]) fun _ _ _ _ _ _ us hl => match us, hl with | [_, _], _ => rfl
  have m_l_took := PySem.W.mg_of X G a_l_took
  have F_l_right := fun_mk (st := s_l_right) l_l_right c_l_right k_l_right
  have b_l_right := F_l_right.binds (ps := ["_law_house", "_law_finders_here", "_law_path"]) fun _ _ _ _ _ _ us hl => match us, hl with | [_, _, _], _ => rfl
  have m_l_right := PySem.W.mg_of X G a_l_right
  have F_l_changed := fun_mk (st := s_l_changed) l_l_changed c_l_changed k_l_changed
  have b_l_changed := F_l_changed.binds (ps := ["_law_pot_here", "_law_finders_here", "_law_paths", "_law_lacking"]) fun _ _ _ _ _ _ us hl => match us, hl with | [_, _, _, _], _ => rfl
  have m_l_changed := PySem.W.mg_of X G a_l_changed
  have F_law := fun_mk (st := s_law) l_law c_law k_law
  have b_law := F_law.binds (ps := ["_law_script"]) fun _ _ _ _ _ _ us hl => match us, hl with | [_], _ => rfl
  have m_law := PySem.W.mg_of X G a_law
  have n_list := PySem.W.mg_none_of X G z_list
  have n_len := PySem.W.mg_none_of X G z_len
  have n_isinstance := PySem.W.mg_none_of X G z_isinstance
  have n_str := PySem.W.mg_none_of X G z_str
  have n_all := PySem.W.mg_none_of X G z_all
  have n_bool := PySem.W.mg_none_of X G z_bool
  have n_int := PySem.W.mg_none_of X G z_int
  have n_tuple := PySem.W.mg_none_of X G z_tuple
  have n_set := PySem.W.mg_none_of X G z_set
  have n_sorted := PySem.W.mg_none_of X G z_sorted
  have n_dict := PySem.W.mg_none_of X G z_dict
  have n_enumerate := PySem.W.mg_none_of X G z_enumerate
  have n_max := PySem.W.mg_none_of X G z_max
  have n_divmod := PySem.W.mg_none_of X G z_divmod
  have n_range := PySem.W.mg_none_of X G z_range
  have n_repr := PySem.W.mg_none_of X G z_repr
  have g_MOST_LETTERS := PySem.W.mg_of X G v_MOST_LETTERS
  have g_LETTERS := PySem.W.mg_of X G v_LETTERS
  have g_DOT := PySem.W.mg_of X G v_DOT
  have g_MOST_NAMES := PySem.W.mg_of X G v_MOST_NAMES
  have g_FAULT_WORDS := PySem.W.mg_of X G v_FAULT_WORDS
  have q_FAULT_WORDS : ∀ H, SqT K H a_FAULT_WORDS [.str "NOMODULE", .str "NONAME", .str "HALF", .str "FLAT", .str "NOTASK", .str "ALL"] := fun H => .inr ⟨o_FAULT_WORDS, i_FAULT_WORDS, e_FAULT_WORDS, y_FAULT_WORDS, w_FAULT_WORDS.1, w_FAULT_WORDS.2.1, w_FAULT_WORDS.2.2.1, w_FAULT_WORDS.2.2.2⟩
  have g_LEADING := PySem.W.mg_of X G v_LEADING
  have q_LEADING : ∀ H, SqT K H a_LEADING [.str "now", .str "take", .str "late", .str "ask"] := fun H => .inr ⟨o_LEADING, i_LEADING, e_LEADING, y_LEADING, w_LEADING.1, w_LEADING.2.1, w_LEADING.2.2.1, w_LEADING.2.2.2⟩
  have g_MOST_ROWS := PySem.W.mg_of X G v_MOST_ROWS
  have g_MOST_TRIES := PySem.W.mg_of X G v_MOST_TRIES
  refine ⟨PySem.W.fnOf "law" "law" (defArgs s_law) (defBody s_law) (defScope s_law) .none kV_law dc_law pm_law an_law cd_law ct_law, fun s v => .of_eq rfl, fun base _ _ => ?_⟩
  have T : Txt K mg C_MadeError C_Fault C_Failed C_Module C_Late C_Runs := ⟨PySem.W.mg_of X G aC_MadeError, ⟨tg_MadeError, tr_MadeError, tv_MadeError⟩, PySem.W.mg_of X G aC_Fault, ⟨ga_Fault, gg_Fault, eC_Fault, hC_Fault⟩, exm_sub eC_Fault iC_Fault tC_Fault sC_Fault, nb_Fault_fault, PySem.W.mg_of X G aC_Failed, ⟨ga_Failed, gg_Failed, eC_Failed, hC_Failed⟩, exm_sub eC_Failed iC_Failed tC_Failed sC_Failed, nb_Failed_fault, nb_Failed_road, ⟨pg_Module, hd_Module, po_Module, sa_Module⟩, PySem.W.mg_of X G aC_Module, nA_Module_number, nA_Module_path, nA_Module_things, ⟨ic_Module, gn, gt, im_Module⟩, ⟨pg_Late, hd_Late, po_Late, sa_Late⟩, PySem.W.mg_of X G aC_Late, nA_Late_home, nA_Late_road, ⟨ic_Late, gn, gt, im_Late⟩, ⟨pg_Runs, hd_Runs, po_Runs, sa_Runs⟩, PySem.W.mg_of X G aC_Runs, nA_Runs_shelves, nA_Runs_standing, nA_Runs_made, nA_Runs_line, nA_Runs_broken, nA_Runs_met, nA_Runs_fates, nA_Runs_notes, nA_Runs_waits, kit_self _ _, kit_sub cx_Late ct_Late ss_Late sb_Module_Late, kit_sub cx_Module ct_Module ss_Module sb_Late_Module, kit_self _ _, kit_sub cx_Module ct_Module ss_Module (sub_bt (by decide +kernel)), kit_sub cx_Late ct_Late ss_Late (sub_bt (by decide +kernel)), n_list, n_len, n_isinstance, n_str, n_all, n_bool, n_int, n_tuple, n_set, n_sorted, n_dict, n_enumerate, n_max, n_divmod, n_range, n_repr, ⟨_, g_MOST_LETTERS⟩, ⟨_, g_LETTERS⟩, ⟨_, g_DOT⟩, ⟨_, g_MOST_NAMES⟩, ⟨_, g_FAULT_WORDS, q_FAULT_WORDS⟩, ⟨_, g_LEADING, q_LEADING⟩, ⟨_, g_MOST_ROWS⟩, ⟨_, g_MOST_TRIES⟩⟩
  have D_Module_init : DkF l.prog w K mg base 1 C_Module ["self", "number", "path"] (spMInit C_Module) := ⟨_, _, ok_Module_init F_Module_init T, M_Module, b_Module_init⟩
  have D_Module_bind : DmF l.prog w K mg base 1 C_Module "bind" ["self", "name", "thing"] (spBind C_Module) := ⟨_, _, ok_Module_bind F_Module_bind T, mt_Module_bind, b_Module_bind⟩
  have D_Module_bound : DmF l.prog w K mg base 1 C_Module "bound" ["self"] (spBound C_Module) := ⟨_, _, ok_Module_bound F_Module_bound T, mt_Module_bound, b_Module_bound⟩
  have D_Fault_init : DxF l.prog w K mg base 1 C_Fault ["self", "fault"] (spFInit C_Fault) := ⟨_, _, ok_Fault_init F_Fault_init T X_Fault.ox, X_Fault, b_Fault_init⟩
  have Dh_Failed_init : L3.DxT l.prog w K mg base 1 C_Failed ["self", "fault", "road"] (spXInit K C_Failed) := ⟨_, _, okh_Failed_init F_Failed_init T X_Failed.ox, X_Failed, b_Failed_init⟩
  have D_is_name : DnF l.prog w K mg base 1 "is_name" ["thing"] (spIsName K) := ⟨_, _, ok_is_name F_is_name T, m_is_name, k_is_name, b_is_name⟩
  have D_is_path : DnF l.prog w K mg base 2 "is_path" ["thing"] (spIsPath K) := ⟨_, _, ok_is_path F_is_path T D_is_name, m_is_path, k_is_path, b_is_path⟩
  have D_is_whole : DnF l.prog w K mg base 1 "is_whole" ["thing"] (spIsWhole K) := ⟨_, _, ok_is_whole F_is_whole T, m_is_whole, k_is_whole, b_is_whole⟩
  have D_is_word : DnF l.prog w K mg base 2 "is_word" ["thing"] spIsWord := ⟨_, _, ok_is_word F_is_word T D_is_name, m_is_word, k_is_word, b_is_word⟩
  have D_are_words : DnF l.prog w K mg base 3 "are_words" ["thing"] (spAreWords K) := ⟨_, _, ok_are_words F_are_words T D_is_word, m_are_words, k_are_words, b_are_words⟩
  have D_is_bare : DnF l.prog w K mg base 3 "is_bare" ["row"] (spIsBare K) := ⟨_, _, ok_is_bare F_is_bare T D_is_name D_is_path D_is_whole, m_is_bare, k_is_bare, b_is_bare⟩
  have D_are_rows : DnF l.prog w K mg base 11 "are_rows" ["thing", "tries"] (spAreRows K 3) := ⟨_, _, are_rows_all F_are_rows F_is_row_within T D_is_bare D_are_words m_are_rows k_are_rows b_are_rows m_is_row_within k_is_row_within b_is_row_within 3, m_are_rows, k_are_rows, b_are_rows⟩
  have D_counted : DnF l.prog w K mg base 4 "counted" ["body"] (spCounted K 3) := ⟨_, _, counted_all F_counted m_counted k_counted b_counted 3, m_counted, k_counted, b_counted⟩
  have D_is_body : DnF l.prog w K mg base 12 "is_body" ["thing"] (spIsBody K) := ⟨_, _, ok_is_body F_is_body T D_are_rows D_counted, m_is_body, k_is_body, b_is_body⟩
  have D_Runs_came_up : L3.DmY l.prog w K mg base 4 C_Runs "came_up" ["self", "fault"] (spUp K ⟨C_Runs, C_Module, C_Late⟩ C_Fault) := ⟨_, _, ok_Runs_came_up F_Runs_came_up T D_Fault_init, mt_Runs_came_up, b_Runs_came_up⟩
  have D_Runs_found : DmF l.prog w K mg base 1 C_Runs "found" ["self", "path"] (spFound K ⟨C_Runs, C_Module, C_Late⟩) := ⟨_, _, ok_Runs_found F_Runs_found T, mt_Runs_found, b_Runs_found⟩
  have D_Runs_do_note : DmF l.prog w K mg base 2 C_Runs "do_note" ["self", "path"] (spNote K ⟨C_Runs, C_Module, C_Late⟩) := ⟨_, _, ok_Runs_do_note F_Runs_do_note T D_Module_bound, mt_Runs_do_note, b_Runs_do_note⟩
  have D_Runs_came_whole : DmF l.prog w K mg base 3 C_Runs "came_whole" ["self", "module"] (spWhole K ⟨C_Runs, C_Module, C_Late⟩ wayR) := ⟨_, _, ok_Runs_came_whole F_Runs_came_whole T, mt_Runs_came_whole, b_Runs_came_whole⟩
  have D_want_path : DnF l.prog w K mg base 3 "want_path" ["path"] (spWantPath K) := ⟨_, _, ok_want_path F_want_path T D_is_path, m_want_path, k_want_path, b_want_path⟩
  have D_Runs_taken_one := one_all (P := l.prog) (w := w) (base := base) T ⟨F_Runs_taken_one, mt_Runs_taken_one, b_Runs_taken_one⟩ ⟨F_Runs_taken, mt_Runs_taken, b_Runs_taken⟩ ⟨F_Runs_do_looking, mt_Runs_do_looking, b_Runs_do_looking⟩ ⟨F_Runs_do, mt_Runs_do, b_Runs_do⟩ ⟨F_Runs_do_body, mt_Runs_do_body, b_Runs_do_body⟩ ⟨F_Runs_run_body, mt_Runs_run_body, b_Runs_run_body⟩ ⟨F_Runs_begin, mt_Runs_begin, b_Runs_begin⟩ D_Module_init D_Module_bind D_Runs_do_note D_Runs_came_whole D_Runs_came_up D_Runs_found 10
  have D_Runs_taken : L3.DmY l.prog w K mg base (7 * 10 + 10) C_Runs "taken" ["self", "path"] (spTaken K ⟨C_Runs, C_Module, C_Late⟩ C_Fault 3 wayR 10) := ⟨_, _, ok_Runs_taken F_Runs_taken T D_Runs_taken_one, mt_Runs_taken, b_Runs_taken⟩
  have D_Runs_take : L3.DmY l.prog w K mg base (7 * 10 + 11) C_Runs "take" ["self", "path"] (spTake K ⟨C_Runs, C_Module, C_Late⟩ 3 wayR C_Failed 10) := ⟨_, _, ok_Runs_take (n := 10) F_Runs_take T D_want_path Dh_Failed_init D_Runs_taken, mt_Runs_take, b_Runs_take⟩
  have D_Runs_table : DmF l.prog w K mg base 1 C_Runs "table" ["self"] (spTable K ⟨C_Runs, C_Module, C_Late⟩) := ⟨_, _, ok_Runs_table F_Runs_table T, mt_Runs_table, b_Runs_table⟩
  have D_Module_thing_of : DmF l.prog w K mg base 1 C_Module "thing_of" ["self", "name"] (spThing C_Module) := ⟨_, _, ok_Module_thing_of F_Module_thing_of T, mt_Module_thing_of, b_Module_thing_of⟩
  have D_told : DnF l.prog w K mg base 1 "told" ["thing"] (spTold C_Module C_Late) := ⟨_, _, ok_told F_told T, m_told, k_told, b_told⟩
  have D_Runs_module_of : DmF l.prog w K mg base 1 C_Runs "module_of" ["self", "number"] (spModOf K ⟨C_Runs, C_Module, C_Late⟩) := ⟨_, _, ok_Runs_module_of F_Runs_module_of T, mt_Runs_module_of, b_Runs_module_of⟩
  have D_Runs_names_of : DmF l.prog w K mg base 2 C_Runs "names_of" ["self", "number"] (spNamesOf K ⟨C_Runs, C_Module, C_Late⟩) := ⟨_, _, ok_Runs_names_of F_Runs_names_of T D_told D_Runs_module_of D_Module_bound D_Module_thing_of, mt_Runs_names_of, b_Runs_names_of⟩
  have D_want_finders : DnF l.prog w K mg base 13 "want_finders" ["finders"] (spWantFinders K) := ⟨_, _, ok_want_finders F_want_finders T D_is_path D_is_body, m_want_finders, k_want_finders, b_want_finders⟩
  have D_Runs_init : DkF l.prog w K mg base 14 C_Runs ["self", "finders"] (spRInit K ⟨C_Runs, C_Module, C_Late⟩) := ⟨_, _, ok_Runs_init F_Runs_init T D_want_finders, M_Runs, b_Runs_init⟩
  have D_l_at : DnF l.prog w K mg base 1 "_law_at" ["_law_script", "_law_k"] (spAt K) := ⟨_, _, ok_at F_l_at T, m_l_at, k_l_at, b_l_at⟩
  have D_l_pot : DnF l.prog w K mg base 2 "_law_pot" ["_law_script", "_law_k"] (spPot K) := ⟨_, _, ok_pot F_l_pot T D_l_at, m_l_pot, k_l_pot, b_l_pot⟩
  have D_l_draw : DnF l.prog w K mg base 1 "_law_draw" ["_law_pot_here", "_law_many"] spDraw := ⟨_, _, ok_draw F_l_draw T, m_l_draw, k_l_draw, b_l_draw⟩
  have D_l_name : DnF l.prog w K mg base 2 "_law_name" ["_law_pot_here", "_law_taken"] spName := ⟨_, _, ok_l_name F_l_name T D_l_draw, m_l_name, k_l_name, b_l_name⟩
  have D_l_took : DnF l.prog w K mg base 90 "_law_took" ["_law_house", "_law_path"] (spTook K ⟨C_Runs, C_Module, C_Late⟩) := ⟨_, _, ok_l_took F_l_took T D_Runs_take, m_l_took, k_l_took, b_l_took⟩
  have D_l_found : DnF l.prog w K mg base 1 "_law_found" ["_law_finders_here", "_law_path"] (spFoundL K) := ⟨_, _, ok_l_found F_l_found T, m_l_found, k_l_found, b_l_found⟩
  have D_l_finders : DnF l.prog w K mg base 2 "_law_finders" ["_law_pot_here", "_law_paths"] (spFinders K) := ⟨_, _, ok_l_finders F_l_finders T D_l_draw, m_l_finders, k_l_finders, b_l_finders⟩
  have D_l_right : DnG l.prog w K mg base 91 "_law_right" ["_law_house", "_law_finders_here", "_law_path"] (spRight K ⟨C_Runs, C_Module, C_Late⟩) := ⟨_, _, ok_l_right F_l_right T D_l_took D_l_found D_Runs_table D_Runs_names_of, m_l_right, k_l_right, b_l_right⟩
  have D_l_changed : DnF l.prog w K mg base 2 "_law_changed" ["_law_pot_here", "_law_finders_here", "_law_paths", "_law_lacking"] (spChanged K) := ⟨_, _, ok_l_changed F_l_changed T D_l_draw, m_l_changed, k_l_changed, b_l_changed⟩
  exact ok_law F_law T D_l_pot D_l_draw D_l_name D_l_finders D_l_found D_l_at D_l_right D_l_changed D_Runs_init
end K36
open PySem PySem.W PyProof.Rows in
set_option maxRecDepth 100000 in
set_option maxHeartbeats 0 in
theorem PySem.Challenge.cw_halfmade_k36_finders_in_order_holds : PySem.Challenge.rw_halfmade_k36_finders_in_order.Holds := by
  w_on; o_law; k_head; (case hw => w_witness2)
  k_fill
  refine HL.walk_ofG (l := PySem.Challenge.rw_halfmade_k36_finders_in_order) (n := 63) (k := 95) (x := "_law_script") (sp := fun w => K36.spLaw _) rfl (by decide) rfl ⟨rfl, by decide, by decide⟩ (fun w h Y => PySem.W.kIn_of Y) ?F (fun _ _ a ns hl _ hS => ⟨a, ns, rfl, hS, hl, fun _ => rfl⟩)
  case F =>
    intro w mg fa h KX G hmg
    refine' K36.all_mk KX G hmg ?aC_MadeError ?tg_MadeError ?tr_MadeError ?tv_MadeError ?aC_Fault ?xL_Fault ?sa_Fault ?ga_Fault ?gg_Fault ?nb_Fault_fault ?kc_Fault ?eC_Fault ?tC_Fault ?hC_Fault ?iC_Fault ?sC_Fault ?aC_Failed ?xL_Failed ?sa_Failed ?ga_Failed ?gg_Failed ?nb_Failed_fault ?nb_Failed_road ?kc_Failed ?eC_Failed ?tC_Failed ?hC_Failed ?iC_Failed ?sC_Failed ?aC_Module ?pg_Module ?hd_Module ?po_Module ?sa_Module ?mk_Module ?kc_Module ?nA_Module_number ?nA_Module_path ?nA_Module_things ?ic_Module ?im_Module ?aC_Late ?pg_Late ?hd_Late ?po_Late ?sa_Late ?mk_Late ?kc_Late ?nA_Late_home ?nA_Late_road ?ic_Late ?im_Late ?aC_Runs ?pg_Runs ?hd_Runs ?po_Runs ?sa_Runs ?mk_Runs ?kc_Runs ?nA_Runs_shelves ?nA_Runs_standing ?nA_Runs_made ?nA_Runs_line ?nA_Runs_broken ?nA_Runs_met ?nA_Runs_fates ?nA_Runs_notes ?nA_Runs_waits ?gn ?gt ?cx_Module ?ct_Module ?ss_Module ?cx_Late ?ct_Late ?ss_Late ?sb_Module_Late ?sb_Late_Module ?a_Fault_init ?l_Fault_init ?c_Fault_init ?k_Fault_init ?i_Fault_init ?a_Failed_init ?l_Failed_init ?c_Failed_init ?k_Failed_init ?i_Failed_init ?a_is_name ?l_is_name ?c_is_name ?k_is_name ?a_is_path ?l_is_path ?c_is_path ?k_is_path ?a_is_whole ?l_is_whole ?c_is_whole ?k_is_whole ?a_is_word ?l_is_word ?c_is_word ?k_is_word ?a_are_words ?l_are_words ?c_are_words ?k_are_words ?a_is_bare ?l_is_bare ?c_is_bare ?k_is_bare ?a_is_row_within ?l_is_row_within ?c_is_row_within ?k_is_row_within ?a_are_rows ?l_are_rows ?c_are_rows ?k_are_rows ?a_counted ?l_counted ?c_counted ?k_counted ?a_is_body ?l_is_body ?c_is_body ?k_is_body ?a_Module_init ?l_Module_init ?c_Module_init ?k_Module_init ?i_Module_init ?a_Module_bind ?l_Module_bind ?c_Module_bind ?k_Module_bind ?i_Module_bind ?a_Module_thing_of ?l_Module_thing_of ?c_Module_thing_of ?k_Module_thing_of ?i_Module_thing_of ?a_Module_bound ?l_Module_bound ?c_Module_bound ?k_Module_bound ?i_Module_bound ?a_told ?l_told ?c_told ?k_told ?a_want_finders ?l_want_finders ?c_want_finders ?k_want_finders ?a_want_path ?l_want_path ?c_want_path ?k_want_path ?a_Runs_init ?l_Runs_init ?c_Runs_init ?k_Runs_init ?i_Runs_init ?a_Runs_take ?l_Runs_take ?c_Runs_take ?k_Runs_take ?i_Runs_take ?a_Runs_table ?l_Runs_table ?c_Runs_table ?k_Runs_table ?i_Runs_table ?a_Runs_module_of ?l_Runs_module_of ?c_Runs_module_of ?k_Runs_module_of ?i_Runs_module_of ?a_Runs_names_of ?l_Runs_names_of ?c_Runs_names_of ?k_Runs_names_of ?i_Runs_names_of ?a_Runs_came_up ?l_Runs_came_up ?c_Runs_came_up ?k_Runs_came_up ?i_Runs_came_up ?a_Runs_found ?l_Runs_found ?c_Runs_found ?k_Runs_found ?i_Runs_found ?a_Runs_taken ?l_Runs_taken ?c_Runs_taken ?k_Runs_taken ?i_Runs_taken ?a_Runs_taken_one ?l_Runs_taken_one ?c_Runs_taken_one ?k_Runs_taken_one ?i_Runs_taken_one ?a_Runs_begin ?l_Runs_begin ?c_Runs_begin ?k_Runs_begin ?i_Runs_begin ?a_Runs_came_whole ?l_Runs_came_whole ?c_Runs_came_whole ?k_Runs_came_whole ?i_Runs_came_whole ?a_Runs_run_body ?l_Runs_run_body ?c_Runs_run_body ?k_Runs_run_body ?i_Runs_run_body ?a_Runs_do_body ?l_Runs_do_body ?c_Runs_do_body ?k_Runs_do_body ?i_Runs_do_body ?a_Runs_do ?l_Runs_do ?c_Runs_do ?k_Runs_do ?i_Runs_do ?a_Runs_do_note ?l_Runs_do_note ?c_Runs_do_note ?k_Runs_do_note ?i_Runs_do_note ?a_Runs_do_looking ?l_Runs_do_looking ?c_Runs_do_looking ?k_Runs_do_looking ?i_Runs_do_looking ?a_l_at ?l_l_at ?c_l_at ?k_l_at ?a_l_pot ?l_l_pot ?c_l_pot ?k_l_pot ?a_l_draw ?l_l_draw ?c_l_draw ?k_l_draw ?a_l_name ?l_l_name ?c_l_name ?k_l_name ?a_l_finders ?l_l_finders ?c_l_finders ?k_l_finders ?a_l_found ?l_l_found ?c_l_found ?k_l_found ?a_l_took ?l_l_took ?c_l_took ?k_l_took ?a_l_right ?l_l_right ?c_l_right ?k_l_right ?a_l_changed ?l_l_changed ?c_l_changed ?k_l_changed ?a_law ?l_law ?c_law ?k_law ?z_list ?z_len ?z_isinstance ?z_str ?z_all ?z_bool ?z_int ?z_tuple ?z_set ?z_sorted ?z_dict ?z_enumerate ?z_max ?z_divmod ?z_range ?z_repr ?v_MOST_LETTERS ?v_LETTERS ?v_DOT ?v_MOST_NAMES ?v_MOST_ROWS ?v_MOST_TRIES ?v_FAULT_WORDS ?y_FAULT_WORDS ?w_FAULT_WORDS ?v_LEADING ?y_LEADING ?w_LEADING
    (case aC_MadeError => k_is)
    (case tg_MadeError => k_is)
    (case tr_MadeError => k_is)
    (case tv_MadeError => k_is)
    (case aC_Fault => k_is)
    (case xL_Fault => k_is)
    (case sa_Fault => k_is)
    (case ga_Fault => k_is)
    (case gg_Fault => k_is)
    (case nb_Fault_fault => k_is)
    (case kc_Fault => k_is)
    (case eC_Fault => k_is)
    (case tC_Fault => k_is)
    (case hC_Fault => k_is)
    (case iC_Fault => k_is)
    (case sC_Fault => first | rfl | k_is)
    (case aC_Failed => k_is)
    (case xL_Failed => k_is)
    (case sa_Failed => k_is)
    (case ga_Failed => k_is)
    (case gg_Failed => k_is)
    (case nb_Failed_fault => k_is)
    (case nb_Failed_road => k_is)
    (case kc_Failed => k_is)
    (case eC_Failed => k_is)
    (case tC_Failed => k_is)
    (case hC_Failed => k_is)
    (case iC_Failed => k_is)
    (case sC_Failed => first | rfl | k_is)
    (case aC_Module => k_is)
    (case pg_Module => k_is)
    (case hd_Module => k_is)
    (case po_Module => k_is)
    (case sa_Module => k_is)
    (case mk_Module => k_is)
    (case kc_Module => k_is)
    (case nA_Module_number => k_is)
    (case nA_Module_path => k_is)
    (case nA_Module_things => k_is)
    (case ic_Module => k_is)
    (case im_Module => k_is)
    (case aC_Late => k_is)
    (case pg_Late => k_is)
    (case hd_Late => k_is)
    (case po_Late => k_is)
    (case sa_Late => k_is)
    (case mk_Late => k_is)
    (case kc_Late => k_is)
    (case nA_Late_home => k_is)
    (case nA_Late_road => k_is)
    (case ic_Late => k_is)
    (case im_Late => k_is)
    (case aC_Runs => k_is)
    (case pg_Runs => k_is)
    (case hd_Runs => k_is)
    (case po_Runs => k_is)
    (case sa_Runs => k_is)
    (case mk_Runs => k_is)
    (case kc_Runs => k_is)
    (case nA_Runs_shelves => k_is)
    (case nA_Runs_standing => k_is)
    (case nA_Runs_made => k_is)
    (case nA_Runs_line => k_is)
    (case nA_Runs_broken => k_is)
    (case nA_Runs_met => k_is)
    (case nA_Runs_fates => k_is)
    (case nA_Runs_notes => k_is)
    (case nA_Runs_waits => k_is)
    (case gn => k_is)
    (case gt => k_is)
    (case cx_Module => k_is)
    (case ct_Module => k_is)
    (case ss_Module => k_is)
    (case cx_Late => k_is)
    (case ct_Late => k_is)
    (case ss_Late => k_is)
    (case sb_Module_Late => k_is)
    (case sb_Late_Module => k_is)
    (case a_Fault_init => k_is)
    (case l_Fault_init => k_is)
    (case c_Fault_init => k_is)
    (case k_Fault_init => k_is)
    (case i_Fault_init => k_is)
    (case a_Failed_init => k_is)
    (case l_Failed_init => k_is)
    (case c_Failed_init => k_is)
    (case k_Failed_init => k_is)
    (case i_Failed_init => k_is)
    (case a_is_name => k_is)
    (case l_is_name => k_is)
    (case c_is_name => k_is)
    (case k_is_name => k_is)
    (case a_is_path => k_is)
    (case l_is_path => k_is)
    (case c_is_path => k_is)
    (case k_is_path => k_is)
    (case a_is_whole => k_is)
    (case l_is_whole => k_is)
    (case c_is_whole => k_is)
    (case k_is_whole => k_is)
    (case a_is_word => k_is)
    (case l_is_word => k_is)
    (case c_is_word => k_is)
    (case k_is_word => k_is)
    (case a_are_words => k_is)
    (case l_are_words => k_is)
    (case c_are_words => k_is)
    (case k_are_words => k_is)
    (case a_is_bare => k_is)
    (case l_is_bare => k_is)
    (case c_is_bare => k_is)
    (case k_is_bare => k_is)
    (case a_is_row_within => k_is)
    (case l_is_row_within => k_is)
    (case c_is_row_within => k_is)
    (case k_is_row_within => k_is)
    (case a_are_rows => k_is)
    (case l_are_rows => k_is)
    (case c_are_rows => k_is)
    (case k_are_rows => k_is)
    (case a_counted => k_is)
    (case l_counted => k_is)
    (case c_counted => k_is)
    (case k_counted => k_is)
    (case a_is_body => k_is)
    (case l_is_body => k_is)
    (case c_is_body => k_is)
    (case k_is_body => k_is)
    (case a_Module_init => k_is)
    (case l_Module_init => k_is)
    (case c_Module_init => k_is)
    (case k_Module_init => k_is)
    (case i_Module_init => k_is)
    (case a_Module_bind => k_is)
    (case l_Module_bind => k_is)
    (case c_Module_bind => k_is)
    (case k_Module_bind => k_is)
    (case i_Module_bind => k_is)
    (case a_Module_thing_of => k_is)
    (case l_Module_thing_of => k_is)
    (case c_Module_thing_of => k_is)
    (case k_Module_thing_of => k_is)
    (case i_Module_thing_of => k_is)
    (case a_Module_bound => k_is)
    (case l_Module_bound => k_is)
    (case c_Module_bound => k_is)
    (case k_Module_bound => k_is)
    (case i_Module_bound => k_is)
    (case a_told => k_is)
    (case l_told => k_is)
    (case c_told => k_is)
    (case k_told => k_is)
    (case a_want_finders => k_is)
    (case l_want_finders => k_is)
    (case c_want_finders => k_is)
    (case k_want_finders => k_is)
    (case a_want_path => k_is)
    (case l_want_path => k_is)
    (case c_want_path => k_is)
    (case k_want_path => k_is)
    (case a_Runs_init => k_is)
    (case l_Runs_init => k_is)
    (case c_Runs_init => k_is)
    (case k_Runs_init => k_is)
    (case i_Runs_init => k_is)
    (case a_Runs_take => k_is)
    (case l_Runs_take => k_is)
    (case c_Runs_take => k_is)
    (case k_Runs_take => k_is)
    (case i_Runs_take => k_is)
    (case a_Runs_table => k_is)
    (case l_Runs_table => k_is)
    (case c_Runs_table => k_is)
    (case k_Runs_table => k_is)
    (case i_Runs_table => k_is)
    (case a_Runs_module_of => k_is)
    (case l_Runs_module_of => k_is)
    (case c_Runs_module_of => k_is)
    (case k_Runs_module_of => k_is)
    (case i_Runs_module_of => k_is)
    (case a_Runs_names_of => k_is)
    (case l_Runs_names_of => k_is)
    (case c_Runs_names_of => k_is)
    (case k_Runs_names_of => k_is)
    (case i_Runs_names_of => k_is)
    (case a_Runs_came_up => k_is)
    (case l_Runs_came_up => k_is)
    (case c_Runs_came_up => k_is)
    (case k_Runs_came_up => k_is)
    (case i_Runs_came_up => k_is)
    (case a_Runs_found => k_is)
    (case l_Runs_found => k_is)
    (case c_Runs_found => k_is)
    (case k_Runs_found => k_is)
    (case i_Runs_found => k_is)
    (case a_Runs_taken => k_is)
    (case l_Runs_taken => k_is)
    (case c_Runs_taken => k_is)
    (case k_Runs_taken => k_is)
    (case i_Runs_taken => k_is)
    (case a_Runs_taken_one => k_is)
    (case l_Runs_taken_one => k_is)
    (case c_Runs_taken_one => k_is)
    (case k_Runs_taken_one => k_is)
    (case i_Runs_taken_one => k_is)
    (case a_Runs_begin => k_is)
    (case l_Runs_begin => k_is)
    (case c_Runs_begin => k_is)
    (case k_Runs_begin => k_is)
    (case i_Runs_begin => k_is)
    (case a_Runs_came_whole => k_is)
    (case l_Runs_came_whole => k_is)
    (case c_Runs_came_whole => k_is)
    (case k_Runs_came_whole => k_is)
    (case i_Runs_came_whole => k_is)
    (case a_Runs_run_body => k_is)
    (case l_Runs_run_body => k_is)
    (case c_Runs_run_body => k_is)
    (case k_Runs_run_body => k_is)
    (case i_Runs_run_body => k_is)
    (case a_Runs_do_body => k_is)
    (case l_Runs_do_body => k_is)
    (case c_Runs_do_body => k_is)
    (case k_Runs_do_body => k_is)
    (case i_Runs_do_body => k_is)
    (case a_Runs_do => k_is)
    (case l_Runs_do => k_is)
    (case c_Runs_do => k_is)
    (case k_Runs_do => k_is)
    (case i_Runs_do => k_is)
    (case a_Runs_do_note => k_is)
    (case l_Runs_do_note => k_is)
    (case c_Runs_do_note => k_is)
    (case k_Runs_do_note => k_is)
    (case i_Runs_do_note => k_is)
    (case a_Runs_do_looking => k_is)
    (case l_Runs_do_looking => k_is)
    (case c_Runs_do_looking => k_is)
    (case k_Runs_do_looking => k_is)
    (case i_Runs_do_looking => k_is)
    (case a_l_at => k_is)
    (case l_l_at => k_is)
    (case c_l_at => k_is)
    (case k_l_at => k_is)
    (case a_l_pot => k_is)
    (case l_l_pot => k_is)
    (case c_l_pot => k_is)
    (case k_l_pot => k_is)
    (case a_l_draw => k_is)
    (case l_l_draw => k_is)
    (case c_l_draw => k_is)
    (case k_l_draw => k_is)
    (case a_l_name => k_is)
    (case l_l_name => k_is)
    (case c_l_name => k_is)
    (case k_l_name => k_is)
    (case a_l_finders => k_is)
    (case l_l_finders => k_is)
    (case c_l_finders => k_is)
    (case k_l_finders => k_is)
    (case a_l_found => k_is)
    (case l_l_found => k_is)
    (case c_l_found => k_is)
    (case k_l_found => k_is)
    (case a_l_took => k_is)
    (case l_l_took => k_is)
    (case c_l_took => k_is)
    (case k_l_took => k_is)
    (case a_l_right => k_is)
    (case l_l_right => k_is)
    (case c_l_right => k_is)
    (case k_l_right => k_is)
    (case a_l_changed => k_is)
    (case l_l_changed => k_is)
    (case c_l_changed => k_is)
    (case k_l_changed => k_is)
    (case a_law => k_is)
    (case l_law => k_is)
    (case c_law => k_is)
    (case k_law => k_is)
    (case z_list => k_is)
    (case z_len => k_is)
    (case z_isinstance => k_is)
    (case z_str => k_is)
    (case z_all => k_is)
    (case z_bool => k_is)
    (case z_int => k_is)
    (case z_tuple => k_is)
    (case z_set => k_is)
    (case z_sorted => k_is)
    (case z_dict => k_is)
    (case z_enumerate => k_is)
    (case z_max => k_is)
    (case z_divmod => k_is)
    (case z_range => k_is)
    (case z_repr => k_is)
    (case v_MOST_LETTERS => k_is)
    (case v_LETTERS => k_is)
    (case v_DOT => k_is)
    (case v_MOST_NAMES => k_is)
    (case v_MOST_ROWS => k_is)
    (case v_MOST_TRIES => k_is)
    (case v_FAULT_WORDS => k_is)
    (case y_FAULT_WORDS => k_is)
    (case w_FAULT_WORDS => exact ⟨rfl, rfl, by decide, (.cons ⟨_, rfl⟩ (.cons ⟨_, rfl⟩ (.cons ⟨_, rfl⟩ (.cons ⟨_, rfl⟩ (.cons ⟨_, rfl⟩ (.cons ⟨_, rfl⟩ .nil))))))⟩)
    (case v_LEADING => k_is)
    (case y_LEADING => k_is)
    (case w_LEADING => exact ⟨rfl, rfl, by decide, (.cons ⟨_, rfl⟩ (.cons ⟨_, rfl⟩ (.cons ⟨_, rfl⟩ (.cons ⟨_, rfl⟩ .nil))))⟩)

